import PyProof.Rows.All
import Wide.All
import OpenK.AllK
import Wide.FinOn
import HandS.ForMost
import HandS.Walk
import HandS.ForExc
import HandS.Deep
import HandS.TupAny
import HandS.IsInst
import HandS.FStr
import HandS.Property
import HandS.OwnEq
import HandS.Zip
import HandS.Codes
import HandS.TryMany
import HandS.ExcSuper
import HandS.ExcField
import HandS.ExcIs
import HandS.HotCalls
import HandS.RaiseFrom
import HandS.SuiteRaise
import HandS.Lambda
import HandS.Nested
import HandS.ClsMeth
import HandS.Star
import HandS.MethStar
import HandS.MakeKw
import HandS.Defaults
import HandS.SortRule
import HandS.TupSets
import HandS.DictTup
import HandS.DictComp
import HandS.GenCall
import HandS.GenList
import HandS.HeadHook4
import HandS.HeadEnd
import HandS.CallRecv
import HandS.Head2
import HandS.Flow
import KE.KeyNested
import HandS.Style
import HandS.Finally
import HandS.Remove
import HandS.StrMore
import HandS.NoneIn
import KE.GoesEnum
import HandS.Conv
import HandS.More
import HandS.MakeKwOnly
import KE.KStateDown
import HandS.Head0
import HandS.Head1
import HandS.HeadHook1
import HandS.HeadHook2
import KE.KExcSuper
import HandS.ExcInit
import KE.KDflt
import HandS.EndOwn
import HandS.SortInts
import HandS.SetFor
import HandS.BoundList
import KE.KRevSl
import HandS.TupLe
import HandS.TupLen
import KE.KDictCopyH
import KE.KDictKeyed
import HandS.DictEq
import HandS.ExcInitHot
import HandS.ExcValue
import KE.KExcIs
import KE.KExcInit
import HandS.SetBool
import HandS.GenBody
import HandS.GenYield
import HandS.Comp
import KE.GoesDict
import HandS.SetTxt0
import PyProof.StrLaws
import PyProof.StrLawsIn
import Wide.Txt
import PyProof.FitsReplace
import KE.IntTextText
import PySem.Challenge.RW_feintkeys_k42_whole_safe_chords
set_option Elab.async false
set_option linter.all false
set_option maxRecDepth 100000
set_option maxHeartbeats 0
open PySem.W (Frag)
namespace R
open PySem PySem.Spec PyProof.Rows L2
def EC:List Str:=["Board","Bounds","Play","Rule","Seeker","Case","Paper","Keyboard","Busy","Shelf","Desk","FeintError","BadNumber","BadText","BadKey","BadWord","BadLook","BadState","BadRow","TooWide","Unlike","TooSoon","Steady","BadName","TakenName","Full","BadCommand","BadLimit","NoName","NothingLeft"]
def bx (K:Frag)(x:Str):Addr:=match PySem.W.nsIn K mainGlobals x with
 |some (some (.ref a))=>a
 |_=>0
def cy (K:Frag)(c:Nat):Addr:=bx K (EC.getD c Str.empty)
def rY:List String:=["NoneType","bool","int","str","list","tuple","dict"]
abbrev Fk:Type:=Frag->Bool
def zS (K:Frag)(x f:Str):Addr:=match PySem.W.findIn K (.ref (bx K x)) f with
 |some (some (.ref p))=>p
 |_=>0
def zT (x f:Str)(K:Frag):Addr:=match PySem.W.recIn K (zS K x f) "property" with
 |some (.ref g::_)=>g
 |_=>0
def mA (x m:Str)(K:Frag):Addr:=He.ma K (bx K x) m
def F6 (x f:Str):Fk:=λK=>decide (PySem.W.findIn K (.ref (bx K x)) f=some (some (.ref (zS K x f))))&&(decide (PySem.W.specialIn K (.ref (zS K x f)) "__get__"=some (some (.builtin "property.__get__")))&&(decide (PySem.W.takesIn K (.ref (zS K x f))=some true)&&(match PySem.W.recIn K (zS K x f) "property" with
 |some (.ref _::_)=>true
 |_=>false)))
def MO (x:Str):Fk:=λK=>decide (PySem.W.findIn K (.ref (bx K x)) "__ne__"=some (some (.builtin "object.__ne__")))&&(decide (PySem.W.mroIn K (bx K x) (.type "object")=some true)&&rY.all λn=>PySem.W.notFirst K (bx K x) (.type n))
def MS (x:Str):Fk:=λK=>(He.Fa.cls x).ok K&&(decide (PySem.W.findIn K (.ref (bx K x)) "__class__"=some (some (.builtin "object.__class__")))&&(decide (PySem.W.specialIn K (.builtin "object.__class__") "__get__"=some (some (.builtin "getset_descriptor.__get__")))&&(decide (PySem.W.takesIn K (.builtin "object.__class__")=some true)&&decide (PySem.W.mroIn K (bx K x) (.type "object")=some true))))
def Ks (c:Nat):Str:=EC.getD c Str.empty
def MT (c:Nat)(cs:List Nat):Fk:=λK=>(rY.all λt=>decide (PySem.W.kitOne K (.type t) (.ref (cy K c))=some false))&&cs.all λc'=>MS (Ks c') K&&decide (PySem.W.kitOne K (.ref (cy K c')) (.ref (cy K c))=some (c'==c))
structure fT where
 ad:Frag->Addr
 name:Str
 qual:Str
 st:Stmt
abbrev FnV:Type:=Option (Str×Str×Arguments×FuncBody×Scope×Addr×List (Str×Addr)×Value×Addr)
def wX (K:Frag)(a:Addr):FnV:=match K.lookup a with
 |some ⟨_,_,.func fd,_⟩=>some (fd.name,fd.qualname,fd.params,fd.body,fd.scope,fd.globals,fd.closure,fd.defaults,fd.builtins)
 |_=>none
def fT.val (d:fT):FnV:=some (d.name,d.qual,defArgs d.st,.stmts (defBody d.st),defScope d.st,mainGlobals,[],.none,builtinsNs)
def fT.ok (K:Frag)(d:fT):Bool:=PySem.W.keepIn K (.ref (d.ad K))&&(match K.lookup (d.ad K)with
 |some ⟨_,_,.func fd,_⟩=>PySem.W.codeIn K fd.code d.qual
 |_=>false)
def Li (K:Frag)(C:Addr):Bool:=match K.lookup C with
 |some ⟨cls,_,.cls cd,sl⟩=>decide (cls=.type "type")&&((match cd.mro with
  | .ref c::bm=>c==C&&PySem.HandSPX.refsVE bm
  |_=>false)&&(cd.hasDict&&(!cd.hasDel&&(match sl.toList with
  |[_,_,_,_,s4,_]=>decide (s4=some (.builtin "ValueError.__new__"))
  |_=>false))))
 |_=>false
def Oo (K:Frag)(C:Addr):Bool:=Li K C&&(decide (PySem.W.findIn K (.ref C) "__setattr__"=some (some (.builtin "object.__setattr__")))&&(decide (PySem.W.subIn K (.ref C) (.type "BaseException")=some true)&&(decide (PySem.W.typeIn K (.ref C)=some (.type "type"))&&PySem.W.keepIn K (.ref C))))
structure gB where
 x:Str
 qual:Str
 st:Stmt
 file:Str
abbrev DC:Type:=Option (Str×Str×Arguments×FuncBody×Scope×Addr×List Str×Value×Addr×Value)
def fnX (K:Frag)(a:Addr):DC:=match K.lookup a with
 |some ⟨_,_,.func fd,_⟩=>some (fd.name,fd.qualname,fd.params,fd.body,fd.scope,fd.globals,fd.closure.map (·.1),fd.kwdefaults,fd.builtins,fd.defaults)
 |_=>none
def gB.val (d:gB):DC:=some ("__init__",d.qual,defArgs d.st,.stmts (defBody d.st),defScope d.st,mainGlobals,["__class__"],.none,builtinsNs,.none)
def KI (K:Frag)(cd:Value)(yZ:Str):Bool:=match cd with
 | .ref c=>(match K.lookup c with
  |some ⟨_,_,.fields vs,_⟩=>(match vs.toList with
   |_::_::.str f _::_=>yZ==f
   |_=>false)
  |_=>false)
 |_=>false
def KH (K:Frag)(cl:List (Str×Addr))(C:Addr):Bool:=match cl with
 |[(_,dY)]=>(match K.lookup dY with
  |some ⟨_,_,.cell (some (.ref c)),_⟩=>c==C
  |_=>false)
 |_=>false
def gB.ok (K:Frag)(d:gB):Bool:=match K.lookup (mA d.x "__init__" K)with
 |some ⟨_,_,.func fd,_⟩=>PySem.W.codeIn K fd.code d.qual&&(KI K fd.code d.file&&(KH K fd.closure (bx K d.x)))
 |_=>false
abbrev tS:Type:=Bool×List FnV×List DC
def obsE (cK:List Fk)(fn:List fT)(en:List gB)(K:Frag):tS:=(((cK.all λf=>f K)&&fn.all λd=>d.ok K)&&en.all λd=>d.ok K,fn.map λd=>wX K (d.ad K),en.map λd=>fnX K (mA d.x "__init__" K))
def valE (fn:List fT)(en:List gB):tS:=(true,fn.map fT.val,en.map gB.val)
def zq (x fld:Str):Fk:=λK=>Oo K (bx K x)&&((match PySem.W.clsIn K (bx K x)with
    |some cd=>decide (PySem.W.alongIn K "__init__" ((cd.mro.dropWhile (· != .ref (bx K x))).drop 1)=some (some (.builtin "ValueError.__init__")))&&(cd.hasDict&&PySem.HandSPX.refsVE cd.mro)
    |none=>false)&&(decide (PySem.W.mroIn K (bx K x) (.ref (bx K x))=some true)&&(decide (PySem.W.subIn K (.ref (bx K x)) (.type "ValueError")=some true)&&(decide (PySem.W.nsIn K mainGlobals "super"=some none)&&(decide (PySem.W.nsIn K cStatics "thirdparty.any"=some none)&&
  (decide (PySem.W.findIn K (.ref (bx K x)) "code"=some none)&&(decide (PySem.W.findIn K (.ref (bx K x)) fld=some none)&&(decide (PySem.W.findIn K (.ref (bx K x)) "__init__"=some (some (.ref (mA x "__init__" K))))&&decide (PySem.W.typeIn K (.ref (mA x "__init__" K))=some (.type "function"))))))))))
def Ab (K:Frag)(f:Addr):Addr:=match K.lookup f with
 |some ⟨_,_,.func fd,_⟩=>(match fd.code with
  | .ref c=>c
  |_=>0)
 |_=>0
def C7 (K:Frag)(f:Addr):Addr:=match K.lookup (Ab K f)with
 |some ⟨_,_,.fields vs,_⟩=>(match(vs[11]?:Option Value)with
  |some (Value.ref p)=>p
  |_=>0)
 |_=>0
def Nc (x:Str):Fk:=λK=>(match K.lookup (bx K x)with
 |some ⟨_,_,.func fd,_⟩=>decide (fd.code=.ref (Ab K (bx K x)))
 |_=>false)&&((match K.lookup (Ab K (bx K x))with
 |some ⟨_,_,.fields vs,_⟩=>decide (vs[11]?=some (.ref (C7 K (bx K x))))
 |_=>false)&&(K.lookup (C7 K (bx K x))).isNone)
def V9 (c:Nat)(xs:List Str)(b:Bool):Fk:=λK=>decide (PySem.W.exmAny K (.ref (cy K c)) (xs.map λx=>.ref (bx K x))=some b)
def ny (x f:Str):Fk:=λK=>L2.xfB K (bx K x)&&decide (PySem.W.findIn K (.ref (bx K x)) f=some none)
def MM (l:List (Nat×Bool))(xs:List Str):Fk:=λK=>l.all λp=>V9 p.1 xs p.2 K
def OW (K:Frag)(x f:Str):Option (Addr×Addr):=match PySem.W.findCls K (.ref (bx K x)) (.type "type") f with
 |some (.get (.builtin b) (.ref p) .none (.ref C))=>if b="staticmethod.__get__"/\C=bx K x then match PySem.W.recIn K p "staticmethod" with
  |some (.ref g::_)=>some (p,g)
  |_=>none
  else none
 |_=>none
def CP (x f:Str)(K:Frag):Addr:=((OW K x f).getD (0,0)).2
def Nb (x f:Str):Fk:=λK=>PySem.W.readsIn K (bx K x) (.type "type")&&(decide (PySem.W.specialIn K (.ref (bx K x)) "__getattribute__"=some (some (.builtin "type.__getattribute__")))&&(OW K x f).isSome)
end R
namespace R
open PySem PySem.Spec PyProof.Rows L2 PySem.W PySem.Calls
def vD (as:List Addr)(cK:List Fk)(fn:List fT)(en:List gB)(g:Addr->Option Obj):tS:=obsE cK fn en (He.frG g as)
def yd (r:PySem.W.OpenRow)(M:Nat)(as:List Addr)(cK:List Fk)(dl:List fT)(el:List gB)(w:World):Prop:=
 ∀os:OsState,(HandSHeadRun.endF (HandSHeadRun.stepQ (HandSHeadRun.denQ HandSHeadRun.tabQ) r.prog w) M r.prog w os).map (λs=>vD as cK dl el (HandSHeadRun.getT s))=some (valE dl el)
def Q2 (r:PySem.W.OpenRow)(q:Program)(M:Nat)(loose:List Str)(w:World):Prop:=
 ∀os:OsState,(HandSHeadRun.endF (HandSHeadRun.stepQ (HandSHeadRun.denQ HandSHeadRun.tabQ) r.prog w) M r.prog w os).map (λs=>(HandSHeadRun.looksF r.prog (boot_heap w.params) s.abs,HandSHeadRun.seenQ q loose (importedModules r.prog.main.body) (λs=>xlAt q [] s&&recOk r.toRowW.records s) s.abs))=some (true,PySem.W.openGood q loose)
end R
namespace R
open PySem PySem.Spec PyProof.Rows L2 PySem.W PySem.Calls
abbrev Jd:Type:=Str×List Str
end R
namespace R
open PySem PySem.Spec PyProof.Rows L2 PySem.W PySem.Calls
end R
namespace R
open PySem PySem.Spec PyProof.Rows L2 GenW
def Wk (l:List Nat):Fk:=λK=>l.all λc=>decide (PySem.W.subIn K (.ref (cy K c)) (.type "StopIteration")=some false)
end R
namespace jx
open PySem PySem.Spec PyProof.Rows L2 R
def top (i:Nat):Stmt:=PySem.Challenge.pw_feintkeys_k42_whole_safe_chords.main.body.getD i (.Pass ⟨0,0,0,0⟩)
def YH:List Nat:=[19]
def KG:List (Nat×Bool):=[(12,true),(13,true),(14,true),(18,true),(19,true),(28,true),(29,true)]
theorem fP {N ps:List Str}{sc:Scope}(h:FnScope N ps sc:=by exact⟨rfl,rfl,rfl,by decide+kernel,rfl,by decide+kernel,by decide+kernel⟩):FnScope N ps sc:=h
abbrev OY:Stmt:=top 29
abbrev OZ:Stmt:=top 30
abbrev Pj:Stmt:=top 31
abbrev vL:Stmt:=top 27
abbrev Pu:Stmt:=top 26
abbrev Pw:Stmt:=top 24
abbrev Px:Stmt:=inClass (top 18) 10
abbrev Py:Stmt:=top 25
abbrev Pz:Stmt:=top 21
abbrev O0:Stmt:=inClass (top 18) 15
abbrev O2:Stmt:=inClass (top 18) 5
abbrev O3:Stmt:=top 20
abbrev O4:Stmt:=inClass (top 18) 9
abbrev O5:Stmt:=top 37
abbrev O6:Stmt:=inClass (top 18) 1
abbrev O7:Stmt:=top 17
abbrev O8:Stmt:=top 38
abbrev O9:Stmt:=top 36
abbrev O_:Stmt:=top 32
abbrev Pa:Stmt:=top 42
abbrev Pb:Stmt:=top 33
abbrev Pc:Stmt:=inClass (top 18) 3
abbrev CV:Stmt:=top 35
abbrev HP:Stmt:=top 34
abbrev Pd:Stmt:=top 41
abbrev Pe:Stmt:=top 43
abbrev Pf:Stmt:=top 40
abbrev Pg:Stmt:=top 39
abbrev Ph:Stmt:=inClass (top 18) 21
abbrev Pk:Stmt:=top 16
abbrev Pn:Stmt:=top 15
abbrev Po:Stmt:=inClass (top 18) 22
abbrev Pp:Stmt:=inClass (top 18) 23
abbrev Pq:Stmt:=inClass (top 18) 24
abbrev Pr:Stmt:=inClass (top 18) 6
abbrev tD:Stmt:=top 44
def aeN:List Str:=["len","int","str","list","tuple","range","enumerate","zip","max","min","all","any","isinstance","repr","sorted","set","bool","sum","dict"]
def dl:List fT:=[
 ⟨λK=>bx K "_law_start","_law_start","_law_start",OY⟩,
 ⟨λK=>bx K "_law_draw","_law_draw","_law_draw",OZ⟩,
 ⟨λK=>bx K "_law_pick","_law_pick","_law_pick",Pj⟩,
 ⟨λK=>bx K "safe_chords","safe_chords","safe_chords",vL⟩,
 ⟨λK=>bx K "check_chords","check_chords","check_chords",Pu⟩,
 ⟨λK=>bx K "parts_of","parts_of","parts_of",Pw⟩,
 ⟨mA "Board" "crossings","crossings","Board.crossings",Px⟩,
 ⟨λK=>bx K "is_safe","is_safe","is_safe",Py⟩,
 ⟨λK=>bx K "feigned","feigned","feigned",Pz⟩,
 ⟨mA "Board" "need_keys","need_keys","Board.need_keys",O0⟩,
 ⟨zT "Board" "height","height","Board.height",O2⟩,
 ⟨λK=>bx K "lines_reached","lines_reached","lines_reached",O3⟩,
 ⟨mA "Board" "signs","signs","Board.signs",O4⟩,
 ⟨λK=>bx K "_law_made","_law_made","_law_made",O5⟩,
 ⟨mA "Board" "__init__","__init__","Board.__init__",O6⟩,
 ⟨λK=>bx K "check_number","check_number","check_number",O7⟩,
 ⟨λK=>bx K "_law_keys","_law_keys","_law_keys",O8⟩,
 ⟨λK=>bx K "_law_plan","_law_plan","_law_plan",O9⟩,
 ⟨λK=>bx K "_law_mixed","_law_mixed","_law_mixed",O_⟩,
 ⟨λK=>bx K "_law_by_size","_law_by_size","_law_by_size",Pa⟩,
 ⟨λK=>bx K "_law_like","_law_like","_law_like",Pb⟩,
 ⟨CP "Board" "full","full","Board.full",Pc⟩,
 ⟨λK=>bx K "_law_try","_law_try","_law_try",CV⟩,
 ⟨λK=>bx K "_law_fields","_law_fields","_law_fields",HP⟩,
 ⟨λK=>bx K "_law_subsets","_law_subsets","_law_subsets",Pd⟩,
 ⟨λK=>bx K "_law_feigned","_law_feigned","_law_feigned",Pe⟩,
 ⟨λK=>bx K "_law_reach","_law_reach","_law_reach",Pf⟩,
 ⟨λK=>bx K "_law_sign","_law_sign","_law_sign",Pg⟩,
 ⟨mA "Board" "__contains__","__contains__","Board.__contains__",Ph⟩,
 ⟨λK=>bx K "is_pair","is_pair","is_pair",Pk⟩,
 ⟨λK=>bx K "is_number","is_number","is_number",Pn⟩,
 ⟨mA "Board" "__eq__","__eq__","Board.__eq__",Po⟩,
 ⟨mA "Board" "__len__","__len__","Board.__len__",Pp⟩,
 ⟨mA "Board" "__repr__","__repr__","Board.__repr__",Pq⟩,
 ⟨zT "Board" "width","width","Board.width",Pr⟩,
 ⟨λK=>bx K "law","law","law",tD⟩
]
def el:List gB:=[⟨"TooWide","TooWide.__init__",inClass (top 7) 0,"/claim/cut.py"⟩,⟨"BadKey","BadKey.__init__",inClass (top 5) 0,"/claim/cut.py"⟩,⟨"BadRow","BadRow.__init__",inClass (top 6) 0,"/claim/cut.py"⟩,⟨"BadNumber","BadNumber.__init__",inClass (top 3) 0,"/claim/cut.py"⟩]
def cK:List Fk:=[
 λK=>aeN.all λx=>(He.Fa.free x).ok K,
 λK=>(He.Fa.meth "Board" "__len__").ok K,
 λK=>(He.Fa.glo "_law_draw").ok K,
 λK=>(He.Fa.glo "check_chords").ok K,
 λK=>(He.Fa.meth "Board" "crossings").ok K,
 λK=>(He.Fa.cls "Board").ok K,
 λK=>(He.Fa.glo "parts_of").ok K,
 λK=>(He.Fa.glo "is_safe").ok K,
 λK=>(He.Fa.int "MOST_CHORD" 8).ok K,
 zq "TooWide" "most",
 λK=>(He.Fa.glo "TooWide").ok K,
 λK=>(He.Fa.noat "Board" "own_keys").ok K,
 λK=>(He.Fa.glo "feigned").ok K,
 λK=>(He.Fa.meth "Board" "need_keys").ok K,
 F6 "Board" "height",
 λK=>(He.Fa.glo "lines_reached").ok K,
 λK=>(He.Fa.meth "Board" "__eq__").ok K,
 MO "Board",
 λK=>(He.Fa.meth "Board" "__contains__").ok K,
 zq "BadKey" "given",
 λK=>(He.Fa.glo "BadKey").ok K,
 λK=>(He.Fa.noat "Board" "own_signs").ok K,
 λK=>(He.Fa.meth "Board" "signs").ok K,
 λK=>(He.Fa.mkr "Board").ok K,
 λK=>(He.Fa.glo "Board").ok K,
 λK=>(He.Fa.int "MOST_TICKS" 6).ok K,
 λK=>(He.Fa.glo "check_number").ok K,
 λK=>(He.Fa.int "MOST_LINES" 4).ok K,
 zq "BadRow" "at",
 λK=>(He.Fa.glo "BadRow").ok K,
 λK=>(He.Fa.str "SIGNS" ".o><").ok K,
 λK=>(He.Fa.noat "Board" "own_ticks").ok K,
 λK=>(He.Fa.noat "Board" "own_places").ok K,
 λK=>(He.Fa.noat "Board" "own_text").ok K,
 zq "BadNumber" "given",
 λK=>(He.Fa.glo "BadNumber").ok K,
 λK=>(He.Fa.glo "_law_mixed").ok K,
 λK=>(He.Fa.glo "_law_pick").ok K,
 λK=>(He.Fa.glo "_law_like").ok K,
 λK=>(He.Fa.glo "FeintError").ok K,
 λK=>(He.Fa.glo "NoName").ok K,
 λK=>(He.Fa.glo "NothingLeft").ok K,
 MM KG ["FeintError","NoName","NothingLeft"],
 λK=>(He.Fa.glo "_law_fields").ok K,
 ny "BadNumber" "code",
 ny "BadText" "code",
 ny "BadKey" "code",
 ny "BadRow" "code",
 ny "TooWide" "code",
 ny "NoName" "code",
 ny "NothingLeft" "code",
 ny "BadNumber" "given",
 ny "BadText" "given",
 ny "BadKey" "given",
 ny "BadRow" "at",
 ny "TooWide" "most",
 ny "NoName" "name",
 λK=>(He.Fa.glo "_law_reach").ok K,
 λK=>(He.Fa.glo "_law_keys").ok K,
 λK=>(He.Fa.glo "_law_sign").ok K,
 λK=>(He.Fa.glo "is_pair").ok K,
 λK=>(He.Fa.glo "is_number").ok K,
 MT 0 [0],
 F6 "Board" "width",
 λK=>(He.Fa.glo "_law_start").ok K,
 λK=>(He.Fa.glo "_law_plan").ok K,
 λK=>(He.Fa.glo "_law_made").ok K,
 λK=>(He.Fa.glo "_law_subsets").ok K,
 λK=>(He.Fa.glo "_law_by_size").ok K,
 λK=>(He.Fa.glo "_law_feigned").ok K,
 λK=>(He.Fa.glo "safe_chords").ok K,
 Wk YH,
 Nb "Board" "full",
 λK=>(He.Fa.glo "_law_try").ok K,
 λK=>(He.Fa.glo "law").ok K,
 Nc "law"
]
end jx
namespace jx
open PySem PySem.Spec PyProof.Rows L2 R
abbrev AG:PySem.W.OpenRow:=PySem.W.OpenLaw.row PySem.Challenge.rw_feintkeys_k42_whole_safe_chords
def JW:List Nat:=[2,3,6,4,21,31,53,74,95,116,137,158,180,188,195,202,209,391,402,407,412,419,426,433,440,447,454,461,466,473,480,487,494,499,506,511,516,521,526,531,0,20,30,52,73,94,115,136,157,179,187,194,201,208,390,401,406,411,418,425,432,439,446,453,460,465,472,479,486,493,498,505,510,515,520,525,530,15,17,18,19,29,32,50,51,71,72,92,93,113,114,134,135,155,156,159,177,178,181,184,186,189,191,192,193,196,198,199,200,203,205,206,207,221,228,236,245,253,261,269,276,283,290,297,304,311,318,325,332,339,346,353,360,367,374,381,388,389,392,393,396,398,399,400,403,405,408,410,413,415,416,417,420,422,423,424,427,429,430,431,434,436,437,438,441,443,444,445,448,450,451,452,455,457,458,459,462,464,467,469,470,471,474,476,477,478,481,483,484,485,488,490,491,492,495,497,500,502,503,504,507,509,512,514,517,519,522,524,527,529,49,38,70,59,91,80,112,101,133,122,154,143,176,165,220,226,227,234,235,244,252,260,268,275,282,289,296,303,310,317,324,331,338,345,352,359,366,373,380,387,44,46,47,48,65,67,68,69,86,88,89,90,107,109,110,111,128,130,131,132,149,151,152,153,171,173,174,175,217,219,225,229,233,237,243,251,259,267,270,272,273,274,277,279,280,281,284,286,287,288,291,293,294,295,298,300,301,302,305,307,308,309,312,314,315,316,319,321,322,323,326,328,329,330,333,335,336,337,340,342,343,344,347,349,350,351,354,356,357,358,361,363,364,365,368,370,371,372,375,377,378,379,382,384,385,386,222,224,230,232,238,240,241,242,246,248,249,250,254,256,257,258,262,264,265,266]
def loose:List Str:=[("_wall":Str),("__name__":Str),("FeintError":Str),("BadNumber":Str),("BadText":Str),("BadKey":Str),("BadRow":Str),("TooWide":Str),("NoName":Str),("NothingLeft":Str),("SIGNS":Str),("MOST_TICKS":Str),("MOST_LINES":Str),("number_of":Str),("is_number":Str),("is_pair":Str),("check_number":Str),("Board":Str),("lines_reached":Str),("feigned":Str),("MOST_CHORD":Str),("parts_of":Str),("is_safe":Str),("check_chords":Str),("safe_chords":Str),("_law_start":Str),("_law_draw":Str),("_law_pick":Str),("_law_mixed":Str),("_law_like":Str),("_law_fields":Str),("_law_try":Str),("_law_plan":Str),("_law_made":Str),("_law_keys":Str),("_law_sign":Str),("_law_reach":Str),("_law_subsets":Str),("_law_by_size":Str),("_law_feigned":Str)]
theorem alI (w:World):Q2 AG (PySem.W.view AG.prog [44]) 6000 loose w:=by
 intro os
 kernel_rfl
theorem alH (w:World):yd AG 6000 JW cK dl el w:=by
 intro os
 kernel_rfl
end jx
namespace R
open PySem PySem.Spec PyProof.Rows L2
inductive D where
 |non|bl (b:Bool)|int (i:Int)|str (x:Str)
 |lst (xs:List D)|tup (xs:List D)
 |dK (kvs:List (Key×D))|dT (kvs:List (List Key×D))
 |ins (c:Nat) (fs:List (Str×D))
 |fC (ns:List Int)
 |exc (c:Nat) (fs:List (Str×D))
 |fF (i:Nat) (ws:List D)
 |lam (i:Nat)
structure fE where
 qual:Str
 params:Arguments
 body:Expr
 scope:Scope
 fr:List Str
 dfl:Bool
 pn:List Str
 loc:List Str
abbrev fE.N (T:fE):List Str:=T.pn++(T.fr++T.loc)
class aT where
 txt:Nat->fE
 tab:Nat->Addr
 mH:Nat->Str
 cells:List (Str×Addr)
structure acw (C d:Addr)(o:Obj):Prop where
 cls:o.cls=.ref C
 dict:o.dict=some d
 data:∃vs,o.data=.fields vs
def cu (a:Addr)(o:Obj):HO:=.ext λh=>h.get? a=some o
def lJ (T:fE)(cl:List (Str×Addr))(c':Addr)(tp:Addr)(pm ctv doc:Value):FuncData:=
 { name:="<lambda>",qualname:=T.qual,params:=T.params,body:=.expr T.body,scope:=T.scope,globals:=mainGlobals,closure:=cl,defaults:=if T.dfl then .ref tp else .none,kwdefaults:=.none,doc:=doc,pyModule:=pm,annotations:=none,code:=.ref c',closureTuple:=ctv,builtins:=builtinsNs}
def uS (f:Addr)(T:fE)(cl:List (Str×Addr))(c' tp:Addr):HO:=.ext λh=>∃pm ctv doc,h.get? f=some {cls:=.type "function",data:=.func (lJ T cl c' tp pm ctv doc)}
structure sq (G:Hp)(f:Addr)(T:fE)(cl:List (Str×Addr))(c' tp:Addr):Prop where
 f:G f=some (uS f T cl c' tp)
 c:G c'=some (LamX.CodeO c' T.qual)
 t:T.dfl=true->G tp=some (.tup [.int 0])
theorem sq.mono {G aj:Hp}{f:Addr}{T:fE}{cl:List (Str×Addr)}{c' tp:Addr}(e:∀a o,G a=some o->aj a=some o)(h:sq G f T cl c' tp):sq aj f T cl c' tp:=⟨e _ _ h.f,e _ _ h.c,λz=>e _ _ (h.t z)⟩
structure tT (G:Hp)(T:fE)(cl:List (Str×Addr))(vs:List V):Prop where
 len:vs.length=T.fr.length
 inj:∀x y c,cl.lookup x=some c->cl.lookup y=some c->x=y
 own:∀y c,cl.lookup y=some c->y∈T.fr
 has:∀(k:Nat) y v,T.fr[k]?=some y->vs[k]?=some v->∃c o u,cl.lookup y=some c/\G c=some (cu c o)/\o.data=.cell (some u)/\RelV v u
theorem tT.mono {G aj:Hp}{T:fE}{cl:List (Str×Addr)}{vs:List V}(e:∀a o,G a=some o->aj a=some o)(h:tT G T cl vs):tT aj T cl vs:=
 ⟨h.len,h.inj,h.own,λk y v h1 h2=>by obtain⟨c,o,u,a,b,r⟩:=h.has k y v h1 h2;exact⟨c,o,u,a,e _ _ b,r⟩⟩
variable[aT]
mutual
inductive cg [aT](K:Frag)(G:Hp):V->D->Prop
 |non:cg K G .non .non
 |bl (b:Bool):cg K G (.bl b) (.bl b)
 |int (i:Int):cg K G (.int i) (.int i)
 |str (x:Str):cg K G (.str x) (.str x)
 |lst {a:Addr} {xs:List V} {ds:List D}:G a=some (.lst xs)->b8 K G xs ds->cg K G (.ref a) (.lst ds)
 |fC {a:Addr} {ns:List Int}:SqL K G a (ns.map V.int)->cg K G (.ref a) (.fC ns)
 |tup {a:Addr} {xs:List V} {ds:List D}:G a=some (.tup xs)->b8 K G xs ds->cg K G (.ref a) (.tup ds)
 |dK {a:Addr} {xs:List (Key×V)} {ds:List (Key×D)}:Rd G a (.dK xs)->nU K G xs ds->cg K G (.ref a) (.dK ds)
 |dT {a:Addr} {o:Obj} {xs:List (List Key×V)} {ds:List (List Key×D)}:G a=some (.frz o (.dT xs))->pO K G xs ds->cg K G (.ref a) (.dT ds)
 |ins {a bO:Addr} {c:Nat} {bU:List (Str×V)} {fs:List (Str×D)}:G a=some (.ins (cy K c) bO bU)->gR K G bU fs->cg K G (.ref a) (.ins c fs)
 |exc {a bO:Addr} {c:Nat} {bU:List (Str×V)} {fs:List (Str×D)} {o:Obj}:G a=some (cu a o)->acw (cy K c) bO o->G bO=some (.xd bU)->gR K G bU fs->cg K G (.ref a) (.exc c fs)
 |fF {f c' tp:Addr} {i:Nat} {cl:List (Str×Addr)} {vs:List V} {ws:List D}:sq G f (aT.txt i) cl c' tp->tT G (aT.txt i) cl vs->b8 K G vs ws->cg K G (.ref f) (.fF i ws)
 |lam {f c' tp:Addr} {i:Nat}:sq G f (aT.txt i) (cloFrom aT.cells (aT.txt i).scope.names []) c' tp->cg K G (.ref f) (.lam i)
inductive b8 [aT](K:Frag)(G:Hp):List V->List D->Prop
 |nil:b8 K G [] []
 |cons {v:V} {vs:List V} {d:D} {ds:List D}:cg K G v d->b8 K G vs ds->b8 K G (v::vs) (d::ds)
inductive gR [aT](K:Frag)(G:Hp):List (Str×V)->List (Str×D)->Prop
 |nil:gR K G [] []
 |cons {n:Str} {v:V} {vs:List (Str×V)} {d:D} {ds:List (Str×D)}:cg K G v d->gR K G vs ds->gR K G ((n,v)::vs) ((n,d)::ds)
inductive nU [aT](K:Frag)(G:Hp):List (Key×V)->List (Key×D)->Prop
 |nil:nU K G [] []
 |cons {n:Key} {v:V} {vs:List (Key×V)} {d:D} {ds:List (Key×D)}:cg K G v d->nU K G vs ds->nU K G ((n,v)::vs) ((n,d)::ds)
inductive pO [aT](K:Frag)(G:Hp):List (List Key×V)->List (List Key×D)->Prop
 |nil:pO K G [] []
 |cons {n:List Key} {v:V} {vs:List (List Key×V)} {d:D} {ds:List (List Key×D)}:cg K G v d->pO K G vs ds->pO K G ((n,v)::vs) ((n,d)::ds)
end
def ahe:HO->Bool
 | .dK _=>true
 | .dT _=>true
 |_=>false
def fj (G H:Hp):Prop:=∀a o,G a=some o->H a=some o\/(ahe o=true/\∃ob,H a=some (.frz ob o))
theorem fj.refl (G:Hp):fj G G:=λ_ _ h=>.inl h
def cG (H H':Hp):Prop:=∀a o,H a=some o->H' a=some o
theorem cG.refl (H:Hp):cG H H:=λ_ _ h=>h
theorem cG.trans {H H1 aS:Hp}(a:cG H H1)(b:cG H1 aS):cG H aS:=λx o h=>b x o (a x o h)
theorem cG.new {H:Hp}{p:Addr}{o:HO}(h:H p=none):cG H (upd H p o):=λa u e=>by
 rw[upd_ne (ne_of_none e h)];exact e
theorem cG.le {G H:Hp}(e:cG G H):fj G H:=λa o h=>.inl (e a o h)
theorem cG.fj {G aj H:Hp}(e:cG G aj)(l:fj aj H):R.fj G H:=λa o h=>l a o (e a o h)
theorem fj.ex {G H H':Hp}(l:fj G H)(e:cG H H'):fj G H':=λa o h=>(l a o h).elim (λz=>.inl (e _ _ z)) λ⟨z,ob,w⟩=>.inr ⟨z,ob,e _ _ w⟩
theorem fj.rd {G H:Hp}{a:Addr}{u:HO}(e:fj G H)(h:Rd G a u):Rd H a u:=by
 rcases h with h|⟨o,h⟩
 ·rcases e a _ h with z|⟨_,ob,z⟩
  ·exact .inl z
  ·exact .inr ⟨ob,z⟩
 ·rcases e a _ h with z|⟨w,ob,z⟩
  ·exact .inr ⟨o,z⟩
  ·cases w
theorem fj.l {K:Frag}{G H:Hp}{a:Addr}{xs:List V}(e:fj G H)(h:SqL K G a xs):SqL K H a xs:=by
 rcases h with h|h
 ·exact .inl (e.rd h)
 ·exact .inr h
theorem fj.t {K:Frag}{G H:Hp}{a:Addr}{xs:List V}(e:fj G H)(h:SqT K G a xs):SqT K H a xs:=by
 rcases h with h|h
 ·exact .inl (e.rd h)
 ·exact .inr h
theorem fj.lst {G H:Hp}{a:Addr}{xs:List V}(e:fj G H)(h:G a=some (.lst xs)):H a=some (.lst xs):=by
 rcases e a _ h with z|⟨w,_⟩
 ·exact z
 ·cases w
theorem fj.ins {G H:Hp}{a C bO:Addr}{fs:List (Str×V)}(e:fj G H)(h:G a=some (.ins C bO fs)):H a=some (.ins C bO fs):=by
 rcases e a _ h with z|⟨w,_⟩
 ·exact z
 ·cases w
theorem cG.rd {G H:Hp}{a:Addr}{u:HO}(e:cG G H)(h:Rd G a u):Rd H a u:=by
 rcases h with h|⟨o,h⟩
 ·exact .inl (e a _ h)
 ·exact .inr ⟨o,e a _ h⟩
theorem cG.l {K:Frag}{G H:Hp}{a:Addr}{xs:List V}(e:cG G H)(h:SqL K G a xs):SqL K H a xs:=e.le.l h
theorem cG.t {K:Frag}{G H:Hp}{a:Addr}{xs:List V}(e:cG G H)(h:SqT K G a xs):SqT K H a xs:=e.le.t h
section
variable{K:Frag}{G aj:Hp}
mutual
theorem cg.mono (e:cG G aj):∀{v:V} {d:D},cg K G v d->cg K aj v d
 |_,_,.non=>.non
 |_,_,.bl b=>.bl b
 |_,_,.int i=>.int i
 |_,_,.str x=>.str x
 |_,_,.lst h r=>.lst (e _ _ h) (b8.mono e r)
 |_,_,.fC h=>.fC (e.l h)
 |_,_,.tup h r=>.tup (e _ _ h) (b8.mono e r)
 |_,_,.dK h r=>.dK (e.rd h) (nU.mono e r)
 |_,_,.dT h r=>.dT (e _ _ h) (pO.mono e r)
 |_,_,.ins h r=>.ins (e _ _ h) (gR.mono e r)
 |_,_,.exc h1 h0 h2 r=>.exc (e _ _ h1) h0 (e _ _ h2) (gR.mono e r)
 |_,_,.fF h1 h2 r=>.fF (h1.mono e) (h2.mono e) (b8.mono e r)
 |_,_,.lam h=>.lam (h.mono e)
theorem b8.mono (e:cG G aj):∀{v:List V} {d:List D},b8 K G v d->b8 K aj v d
 |_,_,.nil=>.nil
 |_,_,.cons h r=>.cons (cg.mono e h) (b8.mono e r)
theorem gR.mono (e:cG G aj):∀{v:List (Str×V)} {d:List (Str×D)},gR K G v d->gR K aj v d
 |_,_,.nil=>.nil
 |_,_,.cons h r=>.cons (cg.mono e h) (gR.mono e r)
theorem nU.mono (e:cG G aj):∀{v:List (Key×V)} {d:List (Key×D)},nU K G v d->nU K aj v d
 |_,_,.nil=>.nil
 |_,_,.cons h r=>.cons (cg.mono e h) (nU.mono e r)
theorem pO.mono (e:cG G aj):∀{v:List (List Key×V)} {d:List (List Key×D)},pO K G v d->pO K aj v d
 |_,_,.nil=>.nil
 |_,_,.cons h r=>.cons (cg.mono e h) (pO.mono e r)
end
theorem b8.length:∀{vs:List V} {ds:List D},b8 K G vs ds->vs.length=ds.length
 |_,_,.nil=>rfl
 |_,_,.cons _ r=>congrArg Nat.succ (b8.length r)
theorem b8.get:∀{vs:List V} {ds:List D} {i:Nat} {d:D},b8 K G vs ds->ds[i]?=some d->∃v,vs[i]?=some v/\cg K G v d
 |_,_,_,_,.nil,e=>by simp at e
 |_,_,0,_,.cons h _,e=>by simp at e;subst e;exact⟨_,rfl,h⟩
 |_,_,i+1,_,.cons _ r,e=>by
  obtain⟨v,h1,h2⟩:=b8.get (i:=i) r (by simpa using e);exact⟨v,by simpa using h1,h2⟩
theorem b8.append:∀{vs ws:List V} {ds es:List D},b8 K G vs ds->b8 K G ws es->b8 K G (vs++ws) (ds++es)
 |_,_,_,_,.nil,s=>s
 |_,_,_,_,.cons h r,s=>.cons h (b8.append r s)
theorem b8.drop:∀{vs:List V} {ds:List D} (n:Nat),b8 K G vs ds->b8 K G (vs.drop n) (ds.drop n)
 |_,_,0,r=>r
 |_,_,_+1,.nil=>.nil
 |_,_,n+1,.cons _ r=>b8.drop n r
theorem b8.take:∀{vs:List V} {ds:List D} (n:Nat),b8 K G vs ds->b8 K G (vs.take n) (ds.take n)
 |_,_,0,_=>.nil
 |_,_,_+1,.nil=>.nil
 |_,_,n+1,.cons h r=>.cons h (b8.take n r)
theorem gR.lookup:∀{bU:List (Str×V)} {fs:List (Str×D)} {n:Str} {d:D},gR K G bU fs->fs.lookup n=some d->∃v,bU.lookup n=some v/\cg K G v d
 |_,_,_,_,.nil,e=>by cases e
 |_,_,n,d,.cons (n:=m) (v:=v) (vs:=vs) (d:=f_) (ds:=ds) h r,e=>by
  rw[List.lookup_cons]at e⊢;cases q:(n==m)with
  |true=>rw[q]at e;cases e;exact⟨_,rfl,h⟩
  |false=>rw[q]at e;exact gR.lookup r e
theorem gR.Cn:∀{bU:List (Str×V)} {fs:List (Str×D)} {n:Str},gR K G bU fs->fs.lookup n=none->bU.lookup n=none
 |_,_,_,.nil,e=>rfl
 |_,_,n,.cons (n:=m) (v:=v) (vs:=vs) (d:=f_) (ds:=ds) h r,e=>by
  rw[List.lookup_cons]at e⊢;cases q:(n==m)with
  |true=>rw[q]at e;cases e
  |false=>rw[q]at e;exact gR.Cn r e
end
mutual
inductive yq:D->NestedKey->Prop
 |i (n:Int):yq (.int n) (.num n)
 |t {ds:List D} {ks:List NestedKey}:yr ds ks->yq (.tup ds) (.tup ks)
inductive yr:List D->List NestedKey->Prop
 |nil:yr [] []
 |cons {d:D} {ds:List D} {k:NestedKey} {ks:List NestedKey}:yq d k->yr ds ks->yr (d::ds) (k::ks)
end
def ye (K:Frag)(G:Hp)(e:DictEntry)(p:D×D):Prop:=∃(b:Addr) (v:V) (k:NestedKey),e.key=.ref b/\cg K G (.ref b) p.1/\cg K G v p.2/\RelV v e.val/\yq p.1 k/\∀w,e.hash=k.hash w
theorem ye.mono {K:Frag}{G aj:Hp}{e:DictEntry}{p:D×D}(x:cG G aj)(h:ye K G e p):ye K aj e p:=by
 obtain⟨b,v,k,h1,h2,h3,h4⟩:=h;exact⟨b,v,k,h1,cg.mono x h2,cg.mono x h3,h4⟩
inductive af where
 |un|dat (d:D)|mu (j:Nat)|raw (v:V)
inductive ak where
 |fz (d:Option D)|hand|tab (i:Nat)
 |lst (xs:List af)
 |dK (kvs:List (Key×af))|dT (kvs:List (List Key×af))
 |ins (c:Nat) (fs:List (Str×af))
 |t9 (kvs:List (D×D))
def ak.live:ak->Prop
 | .fz _=>False
 |_=>True
def bF (K:Frag)(aa:List Addr)(G:Hp)(v:V):af->Prop
 | .un=>True
 | .dat d=>cg K G v d
 | .mu j=>∃a,aa[j]?=some a/\v=.ref a
 | .raw w=>v=w
def bM (K:Frag)(aa:List Addr)(G:Hp)(vs:List V)(ss:List af):Prop:=Paired (bF K aa G) vs ss
def iH {c7:Type}(K:Frag)(aa:List Addr)(G:Hp)(vs:List (c7×V))(ss:List (c7×af)):Prop:=Paired (λp q=>p.1=q.1/\bF K aa G p.2 q.2) vs ss
def Av (K:Frag)(G H:Hp)(a:Addr):Prop:=
 ∃(s:Addr) (ns:List Int) (i d x y:Int),H a=some (.lst [.ref s,.int i,.int d,.int x,.int y])/\G s=some (.lst (ns.map V.int))/\ns.length<=63/\0<=i/\0<=x/\x<2147483647
def pN (K:Frag)(aa:List Addr)(G H:Hp)(a:Addr):ak->Prop
 | .fz o=>(∃u,G a=some u/\∀ob,u≠cu a ob)/\∀d,o=some d->cg K G (.ref a) d
 | .hand=>Av K G H a
 | .tab i=>a=aT.tab i/\∃ps:Array Value,H a=some (.tbl ps)/\TriplesOk ps.toList/\∀(pos:Pos) (jD:Value),codeAmong pos ps.toList=some jD->∃c,jD=.ref c/\G c=some (LamX.CodeO c (aT.mH i))
 | .lst xs=>∃vs,H a=some (.lst vs)/\bM K aa G vs xs
 | .dK xs=>∃vs,H a=some (.dK vs)/\iH K aa G vs xs
 | .dT xs=>∃vs,H a=some (.dT vs)/\iH K aa G vs xs
 | .ins c fs=>∃bO bU,H a=some (.ins (cy K c) bO bU)/\iH K aa G bU fs
 | .t9 xs=>(a==sysModules)=false/\∃(es:Array DictEntry) (gu:Nat),H a=some (.ext λh=>_root_.DT.Raw h a es gu)/\Paired (ye K G) es.toList xs
structure aK (K:Frag)(aa:List Addr)(G:Hp)(M:List ak)(H:Hp):Prop where
 le:fj G H
 len:aa.length=M.length
 nd:aa.Nodup
 mo:∀(j:Nat) a m,aa[j]?=some a->M[j]?=some m->(m.live->G a=none)/\pN K aa G H a m
 fk:∀a∈aa,H a≠none
structure cz (K:Frag)(aa:List Addr)(G:Hp)(σ:L2.St)(ρ:List af):Prop where
 len:σ.length=ρ.length
 at_:∀(i:Nat) s,ρ[i]?=some s->s=.un\/∃v,σ[i]?=some (some v)/\bF K aa G v s
def Same (aj G H:Hp)(a:Addr):Prop:=aj a=G a\/∃xs,H a=some (.tup xs)/\aj a=some (.tup xs)
theorem Same.old {aj G H:Hp}{a:Addr}{o:HO}(s:Same aj G H a)(h:H a=some o)(n:∀xs,o≠.tup xs):aj a=G a:=by
 rcases s with s|⟨xs,s,_⟩
 ·exact s
 ·rw[h]at s;cases s;exact absurd rfl (n xs)
structure aJ (aa:List Addr)(G H:Hp)(aq:List Addr)(aj H':Hp):Prop where
 ex:cG G aj
 pre:∃more,aq=aa++more/\∀a∈more,H a=none
 fr:∀a o,H a=some o->a∉aa->H' a=some o
 l5:∀a,H a≠none->a∉aa->Same aj G H a
 fk:∀a,H a≠none->H' a≠none
theorem aJ.refl (aa:List Addr)(G H:Hp):aJ aa G H aa G H:=⟨cG.refl G,⟨[],by simp,by simp⟩,λ_ _ h _=>h,λ_ _ _=>.inl rfl,λ_ h=>h⟩
theorem aJ.trans {aa ay aU:List Addr}{G au aV H H1 aS:Hp}(a:aJ aa G H ay au H1)(b:aJ ay au H1 aU aV aS):aJ aa G H aU aV aS:=by
 obtain⟨m1,e1,n1⟩:=a.pre;obtain⟨m2,e2,n2⟩:=b.pre;have G3:∀x,H x≠none->x∉aa->x∉ay:=λx hx h z=>by
  rw[e1]at z;rcases List.mem_append.mp z with z|z
  ·exact h z
  ·exact hx (n1 x z)
 refine⟨a.ex.trans b.ex,⟨m1++m2,by rw[e2,e1,List.append_assoc],λx hx=>?_⟩,λx o h hn=>?_,λx h hn=>?_,λx h=>b.fk x (a.fk x h)⟩
 ·rcases List.mem_append.mp hx with z|z
  ·exact n1 x z
  ·have h1:=n2 x z
   cases q:H x with
   |none=>rfl
   |some o=>exact absurd h1 (a.fk x (by rw[q];simp))
 ·exact b.fr x o (a.fr x o h hn) (G3 x (by rw[h];simp) hn)
 ·rcases b.l5 x (a.fk x h) (G3 x h hn)with z|⟨xs,ir,f7⟩
  ·rcases a.l5 x h hn with y|⟨xs,uM,oJ⟩
   ·exact .inl (z.trans y)
   ·exact .inr ⟨xs,uM,z.trans oJ⟩
  ·cases q:H x with
   |none=>exact absurd q h
   |some o=>
    have w:=a.fr x o q hn;rw[ir]at w;cases w
    exact .inr ⟨xs,q,f7⟩
theorem aJ.get {aa aq:List Addr}{G aj H H':Hp}(g:aJ aa G H aq aj H'){j:Nat}{a:Addr}(h:aa[j]?=some a):aq[j]?=some a:=by
 obtain⟨m,e,_⟩:=g.pre;rw[e,List.getElem?_append_left (List.getElem?_eq_some_iff.mp h).1];exact h
section
variable{K:Frag}{aa aq:List Addr}{G aj H H':Hp}{M az:List ak}{ρ:List af}{σ:L2.St}
theorem bF.mono {v:V}{s:af}(e:cG G aj)(p:∀(j:Nat) a,aa[j]?=some a->aq[j]?=some a)(h:bF K aa G v s):bF K aq aj v s:=by
 cases s with
 |un=>trivial
 |dat d=>exact cg.mono e h
 |mu j=>obtain⟨a,h1,h2⟩:=h;exact⟨a,p _ _ h1,h2⟩
 |raw w=>exact h
theorem bF.grow {v:V}{s:af}(g:aJ aa G H aq aj H')(h:bF K aa G v s):bF K aq aj v s:=h.mono g.ex λ_ _=>g.get
theorem bM.mono {vs:List V}{ss:List af}(e:cG G aj)(p:∀(j:Nat) a,aa[j]?=some a->aq[j]?=some a)(h:bM K aa G vs ss):bM K aq aj vs ss:=Paired.mapP h λ_ _ z=>z.mono e p
theorem bM.grow {vs:List V}{ss:List af}(g:aJ aa G H aq aj H')(h:bM K aa G vs ss):bM K aq aj vs ss:=h.mono g.ex λ_ _=>g.get
theorem iH.mono {c7:Type}{vs:List (c7×V)}{ss:List (c7×af)}(e:cG G aj)(p:∀(j:Nat) a,aa[j]?=some a->aq[j]?=some a)(h:iH K aa G vs ss):iH K aq aj vs ss:=Paired.mapP h λ_ _ z=>⟨z.1,z.2.mono e p⟩
theorem cz.grow (g:aJ aa G H aq aj H')(h:cz K aa G σ ρ):cz K aq aj σ ρ:=⟨h.len,λi s e=>(h.at_ i s e).elim .inl λ⟨v,e1,r⟩=>.inr ⟨v,e1,r.grow g⟩⟩
theorem cz.set {i:Nat}{v:V}{s:af}(h:cz K aa G σ ρ)(r:bF K aa G v s):cz K aa G (σ.set i (some v)) (ρ.set i s):=by
 refine⟨by rw[List.length_set,List.length_set];exact h.len,λj t e=>?_⟩;by_cases hj:i=j
 ·subst hj
  rw[List.getElem?_set]at e;split at e
  ·split at e
   ·cases e
    refine .inr ⟨v,?_,r⟩;rw[List.getElem?_set_self (by rw[h.len];assumption)]
   ·cases e
  ·exact absurd rfl ‹_›
 ·rw[List.getElem?_set_ne hj]at e⊢
  exact h.at_ j t e
theorem Av.mono {a:Addr}(e:cG G aj)(hh:H' a=H a)(h:Av K G H a):Av K aj H' a:=by
 obtain⟨s,ns,i,d,x,y,h1,h2,h3⟩:=h;exact⟨s,ns,i,d,x,y,by rw[hh];exact h1,e _ _ h2,h3⟩
theorem pN.mono {a:Addr}{m:ak}(e:cG G aj)(p:∀(j:Nat) a,aa[j]?=some a->aq[j]?=some a)(hh:H' a=H a)(h:pN K aa G H a m):pN K aq aj H' a m:=by
 cases m with
 |fz o=>exact⟨h.1.imp λu q=>⟨e _ _ q.1,q.2⟩,λd q=>cg.mono e (h.2 d q)⟩
 |hand=>exact Av.mono (K:=K) e hh h
 |tab i=>
  obtain⟨h0,ps,h1,h2,h3⟩:=h;exact⟨h0,ps,by rw[hh];exact h1,h2,λpos jD hc=>by obtain⟨c,e1,e2⟩:=h3 pos jD hc;exact⟨c,e1,e _ _ e2⟩⟩
 |lst xs=>obtain⟨vs,h1,h2⟩:=h;exact⟨vs,by rw[hh];exact h1,h2.mono e p⟩
 |dK xs=>obtain⟨vs,h1,h2⟩:=h;exact⟨vs,by rw[hh];exact h1,iH.mono e p h2⟩
 |dT xs=>obtain⟨vs,h1,h2⟩:=h;exact⟨vs,by rw[hh];exact h1,iH.mono e p h2⟩
 |ins C fs=>obtain⟨bO,vs,h1,h2⟩:=h;exact⟨bO,vs,by rw[hh];exact h1,iH.mono e p h2⟩
 |t9 xs=>obtain⟨h0,es,gu,h1,h2⟩:=h;exact⟨h0,es,gu,by rw[hh];exact h1,Paired.mapP h2 λ_ _ z=>z.mono e⟩
structure Pure (G H aj H':Hp):Prop where
 ex:cG G aj
 le:fj aj H'
 fr:cG H H'
 l5:∀a,H a≠none->Same aj G H a
theorem Pure.refl (l:fj G H):Pure G H G H:=⟨cG.refl G,l,cG.refl H,λ_ _=>.inl rfl⟩
theorem Pure.trans {au H1 aV aS:Hp}(a:Pure G H au H1)(b:Pure au H1 aV aS):Pure G H aV aS:=
 ⟨a.ex.trans b.ex,b.le,a.fr.trans b.fr,λx h=>by
  cases q:H x with
  |none=>exact absurd q h
  |some o=>
   have w:=a.fr x o q;rcases b.l5 x (by rw[w];simp)with z|⟨xs,ir,f7⟩
   ·rcases a.l5 x h with y|⟨xs,uM,oJ⟩
    ·exact .inl (z.trans y)
    ·exact .inr ⟨xs,uM,z.trans oJ⟩
   ·rw[ir]at w
    cases w
    exact .inr ⟨xs,q,f7⟩⟩
theorem Pure.new {p:Addr}{o:HO}(l:fj G H)(h:H p=none):Pure G H (upd G p o) (upd H p o):=by
 have LH:G p=none:=by
  cases q:G p with
  |none=>rfl
  |some u=>
   rcases l p u q with z|⟨_,_,z⟩<;>rw[h]at z<;>cases z
 refine⟨cG.new LH,λa u e=>?_,cG.new h,λa hh=>?_⟩
 ·by_cases q:a=p
  ·subst q;rw[upd_same]at e⊢;exact .inl e
  ·rw[upd_ne q]at e⊢;exact l a u e
 ·by_cases q:a=p
  ·subst q;exact absurd h hh
  ·exact .inl (upd_ne q)
theorem aj9 {a:Addr}{m:ak}(l:m.live)(k:pN K aa G H a m)(xs:List V):H a≠some (.tup xs):=λe=>by
 cases m with
 |fz o=>exact l
 |hand=>obtain⟨_,_,_,_,_,_,h,_⟩:=k;rw[e]at h;cases h
 |tab i=>obtain⟨_,_,h,_⟩:=k;rw[e]at h;cases h
 |lst xs=>obtain⟨_,h,_⟩:=k;rw[e]at h;cases h
 |dK xs=>obtain⟨_,h,_⟩:=k;rw[e]at h;cases h
 |dT xs=>obtain⟨_,h,_⟩:=k;rw[e]at h;cases h
 |ins c fs=>obtain⟨_,_,h,_⟩:=k;rw[e]at h;cases h
 |t9 xs=>obtain⟨_,_,_,h,_⟩:=k;rw[e]at h;cases h
theorem aK.pure (ms:aK K aa G M H)(p:Pure G H aj H'):aK K aa aj M H':=by
 refine⟨p.le,ms.len,ms.nd,λj a m h1 h2=>?_,λa ha=>?_⟩
 ·have ha:H a≠none:=ms.fk a (List.mem_of_getElem? h1)
  obtain⟨q1,q2⟩:=ms.mo j a m h1 h2;refine⟨λz=>by
   rcases p.l5 a ha with y|⟨xs,uM,_⟩
   ·rw[y];exact q1 z
   ·exact absurd uM (aj9 z q2 xs),q2.mono p.ex (λ_ _ z=>z) ?_⟩
  cases q:H a with
  |none=>exact absurd q ha
  |some o=>exact p.fr a o q
 ·cases q:H a with
  |none=>exact absurd q (ms.fk a ha)
  |some o=>rw[p.fr a o q];simp
theorem Pure.grow (p:Pure G H aj H'):aJ aa G H aa aj H':=⟨p.ex,⟨[],by simp,by simp⟩,λa o h _=>p.fr a o h,λa h _=>p.l5 a h,λa h=>by
 cases q:H a with
 |none=>exact absurd q h
 |some o=>rw[p.fr a o q];simp⟩
theorem aK.ad (ms:aK K aa G M H){j:Nat}{m:ak}(h:M[j]?=some m):∃a,aa[j]?=some a/\H a≠none:=by
 have hl:j<aa.length:=by rw[ms.len];exact(List.getElem?_eq_some_iff.mp h).1
 exact⟨aa[j],by simp[hl],ms.fk _ (List.getElem_mem hl)⟩
theorem aK.inj (ms:aK K aa G M H){i j:Nat}{a:Addr}(h1:aa[i]?=some a)(h2:aa[j]?=some a):i=j:=by
 obtain⟨l1,e1⟩:=List.getElem?_eq_some_iff.mp h1;obtain⟨l2,e2⟩:=List.getElem?_eq_some_iff.mp h2;exact(List.getElem_inj ms.nd).mp (e1.trans e2.symm)
theorem aK.write (ms:aK K aa G M H){j:Nat}{a:Addr}{m m':ak}{o:HO}(h1:aa[j]?=some a)(h2:M[j]?=some m)(hm:m.live)(hk:pN K aa G (upd H a o) a m'):aK K aa G (M.set j m') (upd H a o):=by
 have ga:G a=none:=(ms.mo j a m h1 h2).1 hm;refine⟨λb u e=>?_,by rw[List.length_set];exact ms.len,ms.nd,λi b Cu e1 e2=>?_,λb hb=>?_⟩
 ·have:b≠a:=λz=>by rw[z,ga]at e;cases e
  rw[upd_ne this];exact ms.le b u e
 ·by_cases q:i=j
  ·subst q
   rw[h1]at e1;cases e1;rw[List.getElem?_set_self (List.getElem?_eq_some_iff.mp h2).1]at e2;cases e2
   exact⟨λ_=>ga,hk⟩
  ·rw[List.getElem?_set_ne (Ne.symm q)]at e2
   have:b≠a:=λz=>q (ms.inj e1 (z▸h1))
   obtain⟨q1,q2⟩:=ms.mo i b Cu e1 e2;exact⟨q1,q2.mono (cG.refl G) (λ_ _ z=>z) (upd_ne this)⟩
 ·by_cases q:b=a
  ·subst q;rw[upd_same];simp
  ·rw[upd_ne q];exact ms.fk b hb
theorem aJ.write {a:Addr}{o:HO}(h:a∈aa)(hd:H a≠none):aJ aa G H aa G (upd H a o):=⟨cG.refl G,⟨[],by simp,by simp⟩,λb u e n=>by
    have q:b≠a:=λz=>n (by rw[z];exact h)
    rw[upd_ne q];exact e,λ_ _ _=>.inl rfl,λb e=>by
    by_cases q:b=a
    · subst q;rw[upd_same];simp
    · rw[upd_ne q];exact e⟩
theorem aK.Yv (ms:aK K aa G M H){p:Addr}{m:ak}{o:HO}(h:H p=none)(hk:pN K (aa++[p]) G (upd H p o) p m):aK K (aa++[p]) G (M++[m]) (upd H p o)/\aJ aa G H (aa++[p]) G (upd H p o):=by
  have LH:G p=none:=by
    cases q:G p with
    |none=>rfl
    |some u=>
      rcases ms.le p u q with z|⟨_,_,z⟩<;>rw[h]at z<;>cases z
  have np:p∉aa:=λz=>ms.fk p z h
  have look:∀(j:Nat) a,aa[j]?=some a->(aa++[p])[j]?=some a:=λj a e=>by
    rw[List.getElem?_append_left (List.getElem?_eq_some_iff.mp e).1];exact e
  refine⟨⟨ms.le.ex (cG.new h),by simp[ms.len],?_,λj a NS e1 e2=>?_,λa ha=>?_⟩,⟨cG.refl G,⟨[p],rfl,λa ha=>by
      have:a=p:=by simpa using ha
      subst this;exact h⟩,λa u e _=>cG.new h a u e,λ_ _ _=>.inl rfl,λa e=>?_⟩⟩
  · rw[List.nodup_append]
    refine⟨ms.nd,by simp,λa ha b hb=>?_⟩;have:b=p:=by simpa using hb
    subst this;exactλz=>np (z▸ha)
  · by_cases q:j<aa.length
    · rw[List.getElem?_append_left q]at e1
      rw[List.getElem?_append_left (by rw[<-ms.len];exact q)]at e2;obtain⟨q1,q2⟩:=ms.mo j a NS e1 e2;have:a≠p:=λz=>np (z▸List.mem_of_getElem? e1)
      exact⟨q1,q2.mono (cG.refl G) look (upd_ne this)⟩
    · rw[List.getElem?_append_right (by omega)]at e1
      rw[List.getElem?_append_right (by rw[<-ms.len];omega)]at e2;have z:j-aa.length=0:=by
        cases hz:j-aa.length with
        |zero=>rfl
        |succ n=>rw[hz]at e1;simp at e1
      rw[z]at e1;rw[<-ms.len,z]at e2;simp at e1 e2;subst e1 e2;exact⟨λ_=>LH,hk⟩
  · rcases List.mem_append.mp ha with z|z
    · have:a≠p:=λw=>np (w▸z)
      rw[upd_ne this];exact ms.fk a z
    · have:a=p:=by simpa using z
      subst this;rw[upd_same];simp
  · by_cases q:a=p
    · subst q;rw[upd_same];simp
    · rw[upd_ne q];exact e
end
end R
namespace R
open PySem PySem.Spec PyProof.Rows L2
variable[aT]
inductive T (α:Type):Type where
 |ret (a:α)
 |bad
 |draw (n:Int) (k:Int->T α)
def T.bind {α β:Type}:T α->(α->T β)->T β
 | .ret a,f=>f a
 | .bad,_=>.bad
 | .draw n k,f=>.draw n λd=>(k d).bind f
def wp {α:Type}:T α->(α->Prop)->Prop
 | .ret a,Q=>Q a
 | .bad,_=>False
 | .draw n k,Q=>∀d,0<=d->d<n->wp (k d) Q
theorem wp_bind {α β:Type}{f:α->T β}{Q:β->Prop}:∀{t:T α},wp (t.bind f) Q↔wp t λa=>wp (f a) Q
 | .ret _=>Iff.rfl
 | .bad=>Iff.rfl
 | .draw n k=>by
  show(∀d,0<=d->d<n->wp ((k d).bind f) Q)↔∀d,0<=d->d<n->wp (k d) _
  exact⟨λh d a b=>wp_bind.mp (h d a b),λh d a b=>wp_bind.mpr (h d a b)⟩
theorem wp_mono {α:Type}{Q Q':α->Prop}(w:∀a,Q a->Q' a):∀{t:T α},wp t Q->wp t Q'
 | .ret _,h=>w _ h
 | .bad,h=>h
 | .draw _ _,h=>λd a b=>wp_mono w (h d a b)
def T.all {α:Type}(p:α->Bool):T α->Bool
 | .ret a=>p a
 | .bad=>false
 | .draw n k=>(List.range n.toNat).all λd=>(k (d:Nat)).all p
inductive Re (α:Type):Type where
 |ok (a:α) (M:List ak)
 |ex (c:Nat) (fs:List (Str×D)) (M:List ak)
abbrev Ev (α:Type):Type:=List ak->T (Re α)
def aX {α β:Type}(f:α->Ev β):Re α->T (Re β)
 | .ok a M=>f a M
 | .ex c fs M=>.ret (.ex c fs M)
def Ev.bind {α β:Type}(m:Ev α)(f:α->Ev β):Ev β:=λM=>(m M).bind (aX f)
def ok {α:Type}(a:α):Ev α:=λM=>.ret (.ok a M)
def bad {α:Type}:Ev α:=λ_=>.bad
def G_ {α:Type}:Option α->Ev α
 |some a=>ok a
 |none=>bad
def ofM {α:Type}(f:List ak->Option (α×List ak)):Ev α:=λM=>match f M with
 |some (a,az)=>.ret (.ok a az)
 |none=>.bad
abbrev CE:Type:=List af->Ev af
abbrev aH:Type:=List af->Ev (List af)
abbrev cX:Type:=List af->Ev Bool
inductive bW:Type where
 |nx (ρ:List af)|rt (s:af)|bk (ρ:List af)|ct (ρ:List af)
abbrev aN:Type:=List af->Ev bW
theorem ji {α:Type}{f:List ak->Option (α×List ak)}{M:List ak}{Q:Re α->Prop}:wp (ofM f M) Q↔∃a az,f M=some (a,az)/\Q (.ok a az):=by
 unfold ofM;cases e:f M with
 |none=>exact⟨λh=>h.elim,λ⟨_,_,q,_⟩=>by cases q⟩
 |some p=>obtain⟨a,az⟩:=p;exact⟨λh=>⟨a,az,rfl,h⟩,λ⟨_,_,q,h⟩=>by cases q;exact h⟩
theorem aaJ {α:Type}{f:Option α}{M:List ak}{Q:Re α->Prop}:wp (G_ f M) Q↔∃a,f=some a/\Q (.ok a M):=by
 cases f with
 |none=>exact⟨λh=>h.elim,λ⟨_,q,_⟩=>by cases q⟩
 |some a=>exact⟨λh=>⟨a,rfl,h⟩,λ⟨_,q,h⟩=>by cases q;exact h⟩
theorem cL {α β:Type}{m:Ev α}{f:α->Ev β}{M:List ak}{Q:Re β->Prop}:wp (Ev.bind m f M) Q↔wp (m M) λr=>wp (aX f r) Q:=wp_bind
section
variable(X:Cx)
def wE (e:Expr):TE:=λσ H Q=>∀pins s,Inv X pins σ H s->wpAny (model X.prog X.w) X.A (eval e X.env) (EP X pins σ Q) X.xe s
def wT (e:Expr):TT:=λσ H Q=>∀pins s,Inv X pins σ H s->wpAny (model X.prog X.w) X.A (isTrue e X.env (eval e X.env)) (TP X pins σ Q) X.xe s
def QD (e:Expr):TT:=λσ H Q=>∀whole pins s,Inv X pins σ H s->wpAny (model X.prog X.w) X.A (isTrue e X.env whole) (TP X pins σ Q) X.xe s
def x6 (es:List Expr):TA:=λσ H Q=>∀pos pins s,Inv X pins σ H s->wpAny (model X.prog X.w) X.A (spliced (backTo pos (starEach es X.env))) (AP X pins σ Q) X.xe s
def wS (st:Stmt):TS:=λD σ H=>∀pins s,Inv X pins σ H s->wpAny (model X.prog X.w) X.A (exec st X.env) (SP X pins D) X.xe s
def Dh (st:List Stmt):TS:=λD σ H=>∀pins s,Inv X pins σ H s->wpAny (model X.prog X.w) X.A (execs st X.env) (SP X pins D) X.xe s
def Di (bV:Expr):TG:=λv σ H Q=>∀pins s u,Inv X pins σ H s->RelV v u->wpAny (model X.prog X.w) X.A (assign bV X.env u) (λ_ aF=>∃aZ H',Inv X pins aZ H' aF/\Q aZ H') X.xe s
def Dk (bV iter:Expr):TI:=λσ H R=>∀pins s,Inv X pins σ H s->
    wpAny (model X.prog X.w) X.A (eval iter X.env) (λv s1=>wpAny (model X.prog X.w) X.A (pyIter v) (PIE X pins σ bV R) X.xe s1) X.xe s
end
section
variable{X:Cx}{e bV it:Expr}{es:List Expr}{st:Stmt}{rT:List Stmt}
theorem cS:PE X e (wE X e):=⟨λpins s _ _ _ I h=>h pins s I⟩
theorem uA:PT X e (wT X e):=⟨λpins s _ _ _ I h=>h pins s I⟩
theorem pw_w:PW X e (QD X e):=⟨λQE pins s _ _ _ I h=>h QE pins s I⟩
theorem uy:PA X es (x6 X es):=⟨λpos pins s _ _ _ I h=>h pos pins s I⟩
theorem Zi:PS X st (wS X st):=⟨λpins s _ _ _ I h=>h pins s I⟩
theorem xP:PSs X rT (Dh X rT):=⟨λpins s _ _ _ I h=>h pins s I⟩
theorem Ho:PG X bV (Di X bV):=⟨λpins s _ _ _ u _ I r h=>h pins s u I r⟩
theorem Hr:PI X bV it (Dk X bV it):=⟨λpins s _ _ _ I h=>h pins s I⟩
theorem toE {t:TE}(h:PE X e t){σ H Q}(q:t σ H Q):wE X e σ H Q:=λpins s I=>h.run pins s σ H Q I q
theorem toT {t:TT}(h:PT X e t){σ H Q}(q:t σ H Q):wT X e σ H Q:=λpins s I=>h.run pins s σ H Q I q
theorem toW {t:TT}(h:PW X e t){σ H Q}(q:t σ H Q):QD X e σ H Q:=λQE pins s I=>h.run QE pins s σ H Q I q
theorem toA {t:TA}(h:PA X es t){σ H Q}(q:t σ H Q):x6 X es σ H Q:=λpos pins s I=>h.run pos pins s σ H Q I q
theorem toS {t:TS}(h:PS X st t){σ H D}(q:t D σ H):wS X st D σ H:=λpins s I=>h.run pins s σ H D I q
theorem toB {t:TS}(h:PSs X rT t){σ H D}(q:t D σ H):Dh X rT D σ H:=λpins s I=>h.run pins s σ H D I q
theorem toG {t:TG}(h:PG X bV t){v σ H Q}(q:t v σ H Q):Di X bV v σ H Q:=λpins s u I r=>h.run pins s σ H v u Q I r q
theorem toI {t:TI}(h:PI X bV it t){σ H R}(q:t σ H R):Dk X bV it σ H R:=λpins s I=>h.run pins s σ H R I q
end
section
variable(X:Cx)(W:WX)
def PX (σ:L2.St)(aa:List Addr)(G H:Hp)(c:Nat)(fs:List (Str×D))(az:List ak):Prop:=
 ∀aq aj H' d bU,aJ aa G H aq aj H'->aK X.K aq aj az H'->aj d=some (.xd bU)->gR X.K aj bU fs->W (.ref (cy X.K c)) (some d) σ H'
def dB {α β:Type}(nS:List Addr->Hp->β->α->Prop)(Q:β->Hp->Prop)(σ:L2.St)(aa:List Addr)(G H:Hp):Re α->Prop
 | .ok a az=>∀aq aj H' b,aJ aa G H aq aj H'->aK X.K aq aj az H'->nS aq aj b a->Q b H'
 | .ex c fs az=>PX X W σ aa G H c fs az
abbrev yw:List Addr->Hp->Bool->Bool->Prop:=λ_ _ b a=>b=a
def eN (D:Ends)(aa:List Addr)(G H:Hp):Re bW->Prop
 | .ok (.nx cO) az=>∀aq aj H' aZ,aJ aa G H aq aj H'->aK X.K aq aj az H'->cz X.K aq aj aZ cO->D.nx aZ H'
 | .ok (.rt s) az=>∀aq aj H' v,aJ aa G H aq aj H'->aK X.K aq aj az H'->bF X.K aq aj v s->D.rt v H'
 | .ok (.bk cO) az=>∀aq aj H' aZ,aJ aa G H aq aj H'->aK X.K aq aj az H'->cz X.K aq aj aZ cO->D.bk aZ H'
 | .ok (.ct cO) az=>∀aq aj H' aZ,aJ aa G H aq aj H'->aK X.K aq aj az H'->cz X.K aq aj aZ cO->D.ct aZ H'
 | .ex c fs az=>∀aZ,PX X W aZ aa G H c fs az
end
section
variable{X:Cx}{W:WX}{aa ay:List Addr}{G au H H1:Hp}{σ:L2.St}
theorem PX.shift {c:Nat}{fs:List (Str×D)}{az:List ak}(g:aJ aa G H ay au H1)(h:PX X W σ aa G H c fs az):PX X W σ ay au H1 c fs az:=λ_ _ _ _ _ eg=>h _ _ _ _ _ (g.trans eg)
theorem dB.shift {α β:Type}{nS:List Addr->Hp->β->α->Prop}{Q:β->Hp->Prop}{r:Re α}(g:aJ aa G H ay au H1)(h:dB X W nS Q σ aa G H r):dB X W nS Q σ ay au H1 r:=by
 cases r with
 |ok a az=>exactλ_ _ _ _ eg=>h _ _ _ _ (g.trans eg)
 |ex c fs az=>exact PX.shift g h
theorem eN.shift {D:Ends}{r:Re bW}(g:aJ aa G H ay au H1)(h:eN X W D aa G H r):eN X W D ay au H1 r:=by
 cases r with
 |ok a az=>
  cases a with
  |nx ρ=>exactλ_ _ _ _ eg=>h _ _ _ _ (g.trans eg)
  |rt ρ=>exactλ_ _ _ _ eg=>h _ _ _ _ (g.trans eg)
  |bk ρ=>exactλ_ _ _ _ eg=>h _ _ _ _ (g.trans eg)
  |ct ρ=>exactλ_ _ _ _ eg=>h _ _ _ _ (g.trans eg)
 |ex c fs az=>exactλaZ=>PX.shift g (h aZ)
end
structure bf (X:Cx)(W:WX)(e:Expr)(f:CE):Prop where
 run:∀ρ M aa G σ H Q,aK X.K aa G M H->cz X.K aa G σ ρ->wp (f ρ M) (dB X W (bF X.K) Q σ aa G H)->wE X e σ H Q
structure jN (X:Cx)(W:WX)(es:List Expr)(f:aH):Prop where
 run:∀ρ M aa G σ H Q,aK X.K aa G M H->cz X.K aa G σ ρ->wp (f ρ M) (dB X W (bM X.K) Q σ aa G H)->x6 X es σ H Q
structure ST (X:Cx)(W:WX)(e:Expr)(f:cX):Prop where
 run:∀ρ M aa G σ H Q,aK X.K aa G M H->cz X.K aa G σ ρ->wp (f ρ M) (dB X W yw Q σ aa G H)->wT X e σ H Q
structure yy (X:Cx)(W:WX)(e:Expr)(f:cX):Prop where
 run:∀ρ M aa G σ H Q,aK X.K aa G M H->cz X.K aa G σ ρ->wp (f ρ M) (dB X W yw Q σ aa G H)->QD X e σ H Q
structure jk (X:Cx)(W:WX)(st:Stmt)(f:aN):Prop where
 run:∀ρ M aa G σ H D,aK X.K aa G M H->cz X.K aa G σ ρ->wp (f ρ M) (eN X W D aa G H)->wS X st D σ H
structure SB (X:Cx)(W:WX)(st:List Stmt)(f:aN):Prop where
 run:∀ρ M aa G σ H D,aK X.K aa G M H->cz X.K aa G σ ρ->wp (f ρ M) (eN X W D aa G H)->Dh X st D σ H
section
variable{X:Cx}{W:WX}{a b e:Expr}{es:List Expr}{aE:CE}{qU:aH}{cA:cX}{ρ:List af}{M:List ak}{aa:List Addr}{G H:Hp}{σ:L2.St}{α β:Type}{nS:List Addr->Hp->β->α->Prop}{Q:β->Hp->Prop}
theorem bf.seq (h:bf X W a aE)(ms:aK X.K aa G M H)(en:cz X.K aa G σ ρ){k:af->Ev α}(w:wp (Ev.bind (aE ρ) k M) (dB X W nS Q σ aa G H)){Q':VK}
    (n:∀ay au M1 H1 v s,aJ aa G H ay au H1->aK X.K ay au M1 H1->bF X.K ay au v s->wp (k s M1) (dB X W nS Q σ ay au H1)->Q' v H1):wE X a σ H Q':=
  h.run ρ M aa G σ H Q' ms en (wp_mono (λr hr=>by
    cases r with
    |ok s M1=>exactλay au H1 v g m r=>n ay au M1 H1 v s g m r (wp_mono (λ_=>dB.shift g) hr)
    |ex c fs M1=>exact hr) (cL.mp w))
theorem ST.seq (h:ST X W a cA)(ms:aK X.K aa G M H)(en:cz X.K aa G σ ρ){k:Bool->Ev α}(w:wp (Ev.bind (cA ρ) k M) (dB X W nS Q σ aa G H)){Q':Bool->Hp->Prop}
    (n:∀ay au M1 H1 v,aJ aa G H ay au H1->aK X.K ay au M1 H1->wp (k v M1) (dB X W nS Q σ ay au H1)->Q' v H1):wT X a σ H Q':=
  h.run ρ M aa G σ H Q' ms en (wp_mono (λr hr=>by
    cases r with
    |ok s M1=>exactλay au H1 v g m r=>by have r:v=s:=r;subst r;exact n ay au M1 H1 v g m (wp_mono (λ_=>dB.shift g) hr)
    |ex c fs M1=>exact hr) (cL.mp w))
theorem jN.seq (h:jN X W es qU)(ms:aK X.K aa G M H)(en:cz X.K aa G σ ρ){k:List af->Ev α}(w:wp (Ev.bind (qU ρ) k M) (dB X W nS Q σ aa G H)){Q':List V->Hp->Prop}
    (n:∀ay au M1 H1 v s,aJ aa G H ay au H1->aK X.K ay au M1 H1->bM X.K ay au v s->wp (k s M1) (dB X W nS Q σ ay au H1)->Q' v H1):x6 X es σ H Q':=
  h.run ρ M aa G σ H Q' ms en (wp_mono (λr hr=>by
    cases r with
    |ok s M1=>exactλay au H1 v g m r=>n ay au M1 H1 v s g m r (wp_mono (λ_=>dB.shift g) hr)
    |ex c fs M1=>exact hr) (cL.mp w))
theorem bf.lU (h:bf X W a aE)(ms:aK X.K aa G M H)(en:cz X.K aa G σ ρ){k:af->Ev bW}{D:Ends}(w:wp (Ev.bind (aE ρ) k M) (eN X W D aa G H)){Q':VK}
    (n:∀ay au M1 H1 v s,aJ aa G H ay au H1->aK X.K ay au M1 H1->bF X.K ay au v s->wp (k s M1) (eN X W D ay au H1)->Q' v H1):wE X a σ H Q':=
  h.run ρ M aa G σ H Q' ms en (wp_mono (λr hr=>by
    cases r with
    |ok s M1=>exactλay au H1 v g m r=>n ay au M1 H1 v s g m r (wp_mono (λ_=>eN.shift g) hr)
    |ex c fs M1=>exact hr σ) (cL.mp w))
theorem ST.lU (h:ST X W a cA)(ms:aK X.K aa G M H)(en:cz X.K aa G σ ρ){k:Bool->Ev bW}{D:Ends}(w:wp (Ev.bind (cA ρ) k M) (eN X W D aa G H)){Q':Bool->Hp->Prop}
    (n:∀ay au M1 H1 v,aJ aa G H ay au H1->aK X.K ay au M1 H1->wp (k v M1) (eN X W D ay au H1)->Q' v H1):wT X a σ H Q':=
  h.run ρ M aa G σ H Q' ms en (wp_mono (λr hr=>by
    cases r with
    |ok s M1=>exactλay au H1 v g m r=>by have r:v=s:=r;subst r;exact n ay au M1 H1 v g m (wp_mono (λ_=>eN.shift g) hr)
    |ex c fs M1=>exact hr σ) (cL.mp w))
theorem jN.lU (h:jN X W es qU)(ms:aK X.K aa G M H)(en:cz X.K aa G σ ρ){k:List af->Ev bW}{D:Ends}(w:wp (Ev.bind (qU ρ) k M) (eN X W D aa G H)){Q':List V->Hp->Prop}
    (n:∀ay au M1 H1 v s,aJ aa G H ay au H1->aK X.K ay au M1 H1->bM X.K ay au v s->wp (k s M1) (eN X W D ay au H1)->Q' v H1):x6 X es σ H Q':=
  h.run ρ M aa G σ H Q' ms en (wp_mono (λr hr=>by
    cases r with
    |ok s M1=>exactλay au H1 v g m r=>n ay au M1 H1 v s g m r (wp_mono (λ_=>eN.shift g) hr)
    |ex c fs M1=>exact hr σ) (cL.mp w))
end
theorem nN {K:Frag}{aa:List Addr}{G:Hp}{i:Int}:bF K aa G (.int i) (.dat (.int i)):=cg.int i
theorem tw {K:Frag}{aa:List Addr}{G:Hp}{i:Str}:bF K aa G (.str i) (.dat (.str i)):=cg.str i
theorem rH {K:Frag}{aa:List Addr}{G:Hp}{i:Bool}:bF K aa G (.bl i) (.dat (.bl i)):=cg.bl i
theorem xR {K:Frag}{aa:List Addr}{G:Hp}:bF K aa G .non (.dat .non):=cg.non
theorem jg {K:Frag}{aa:List Addr}{G:Hp}{v:V}{i:Int}(h:bF K aa G v (.dat (.int i))):v=.int i:=by cases h;rfl
theorem rG {K:Frag}{aa:List Addr}{G:Hp}{v:V}{i:Str}(h:bF K aa G v (.dat (.str i))):v=.str i:=by cases h;rfl
theorem oz {K:Frag}{aa:List Addr}{G:Hp}{v:V}{i:Bool}(h:bF K aa G v (.dat (.bl i))):v=.bl i:=by cases h;rfl
theorem ZC {K:Frag}{aa:List Addr}{G:Hp}{v:V}(h:bF K aa G v (.dat .non)):v=.non:=by cases h;rfl
def fB (M:List ak):af->af
 | .mu j=>match M[j]? with
  |some (.fz (some d))=>.dat d
  |_=>.mu j
 |s=>s
theorem G9 {K:Frag}{aa:List Addr}{G H:Hp}{M:List ak}{v:V}{s:af}(ms:aK K aa G M H)(r:bF K aa G v s):bF K aa G v (fB M s):=by
 cases s with
 |mu j=>
  unfold fB
  dsimp only
  split
  ·rename_i d hm
   obtain⟨a,h1,rfl⟩:=r;exact(ms.mo j a _ h1 hm).2.2 d rfl
  ·exact r
 |_=>exact r
section
variable{X:Cx}{W:WX}{ρ:List af}{M:List ak}{aa:List Addr}{G H:Hp}{σ:L2.St}{pos:Pos}
theorem z7 {e:Expr}{v:V}{s:af}(xM:PE X e (tC v))(r:∀aa G,bF X.K aa G v s):bf X W e λ_=>ok s:=
 ⟨λρ M aa G σ H Q ms en h=>toE xM (h aa G H v (aJ.refl _ _ _) ms (r _ _))⟩
def ah (i:Nat):CE:=λρ M=>match ρ[i]? with
 |some .un=>.bad
 |some s=>.ret (.ok (fB M s) M)
 |none=>.bad
structure pS (X:Cx)(x:Str)(i:Nat):Prop where
 ix:X.N[i]?=some x
 Iu:Vis X.env.scope x
 nd:(x==("__debug__":Str))=false
 G0:(x==("__classdict__":Str))=false
structure pL (X:Cx)(x:Str)(i:Nat):Prop where
 ix:X.N[i]?=some x
 loc:Loc X.env.scope x
 fn:X.fn x=true\/X.env.scope.names.lookup x=some .local
 nd:X.N.Nodup
structure eK (X:Cx)(x:Str):Prop where
 gl:Gl X x
 nd:(x==("__debug__":Str))=false
theorem aA {x:Str}{i:Nat}(F:pS X x i):bf X W (.Name x pos) (ah i):=⟨λρ M aa G σ H Q ms en h=>by
 unfold ah at h;split at h
 ·exact h.elim
 ·rename_i s hs hn
  rcases en.at_ i s hn with z|⟨v,e1,r⟩
  ·exact absurd z hs
  ·exact toE (pe_var F.ix F.Iu F.nd F.G0) ⟨v,e1,h aa G H v (aJ.refl _ _ _) ms (G9 ms r)⟩
 ·exact h.elim⟩
theorem bE {i:Int}{j:Nat}:bf X W (.Constant (.int i) j pos) λ_=>ok (.dat (.int i)):=z7 pe_int λ_ _=>nN
theorem PL {b:Bool}{j:Nat}:bf X W (.Constant (.bool b) j pos) λ_=>ok (.dat (.bl b)):=z7 pe_bl λ_ _=>rH
theorem HS {j:Nat}:bf X W (.Constant .none j pos) λ_=>ok (.dat .non):=z7 pe_non λ_ _=>xR
theorem eV {x:Str}{j:Nat}:bf X W (.Constant (.str x) j pos) λ_=>ok (.dat (.str x)):=z7 pe_str λ_ _=>tw
theorem ank {x:Str}{i:Int}{t:Tok}(F:eK X x)(hm:X.mg x=some (.int i t)):bf X W (.Name x pos) λ_=>ok (.dat (.int i)):=z7 (v:=.int i) (pe_glob F.gl hm ⟨t,rfl⟩ F.nd) λ_ _=>nN
theorem anl {x z:Str}{t:Tok}(F:eK X x)(hm:X.mg x=some (.str z t)):bf X W (.Name x pos) λ_=>ok (.dat (.str z)):=z7 (v:=.str z) (pe_glob F.gl hm ⟨t,rfl⟩ F.nd) λ_ _=>tw
def av:aH:=λ_=>ok []
def ai (f:CE)(g:aH):aH:=λρ=>(f ρ).bind λs=>(g ρ).bind λss=>ok (s::ss)
theorem bA:jN X W [] av:=⟨λρ M aa G σ H Q ms en h=>toA pa_nil (h aa G H [] (aJ.refl _ _ _) ms .nil)⟩
theorem aG {e:Expr}{es:List Expr}{f:CE}{g:aH}(h1:bf X W e f)(h2:jN X W es g)(hs:starEach (e::es) X.env=(false,eval e X.env)::starEach es X.env:=by rfl):jN X W (e::es) (ai f g):=⟨λρ M aa G σ H Q ms en h=>
 toA (pa_cons cS uy hs) (h1.seq ms en h λay au M1 H1 v s g1 m1 r1 aD=>h2.seq m1 (en.grow g1) aD λaU aV M2 aS vs ss g2 m2 r2 bK=>bK aU aV aS (v::vs) (aJ.refl _ _ _) m2 (.cons (r1.grow g2) r2))⟩
end
def vt (M:List ak):af->Option (List af)
 | .dat (.lst ds)=>some (ds.map .dat)
 | .mu j=>match M[j]? with
  |some (.lst xs)=>some xs
  |_=>none
 |_=>none
def ap1:af->Option (List af)
 | .dat (.tup ds)=>some (ds.map .dat)
 |_=>none
def lenOf (M:List ak):af->Option Nat
 | .dat (.str z)=>some z.length
 | .dat (.tup ds)=>some ds.length
 | .dat (.lst ds)=>some ds.length
 | .mu j=>match M[j]? with
  |some (.lst xs)=>some xs.length
  |_=>none
 |_=>none
section
variable{K:Frag}{aa:List Addr}{G H:Hp}{M:List ak}
theorem bM.zP:∀{vs:List V} {ds:List D},b8 K G vs ds->bM K aa G vs (ds.map .dat)
 |_,_,.nil=>.nil
 |_,_,.cons h r=>.cons h (bM.zP r)
theorem bM.toRps:∀{vs:List V} {ds:List D},bM K aa G vs (ds.map .dat)->b8 K G vs ds
 |_,[],.nil=>.nil
 |_,_::_,.cons h r=>.cons h (bM.toRps r)
theorem bM.length {vs:List V}{ss:List af}(h:bM K aa G vs ss):vs.length=ss.length:=Paired.length h
theorem bM.get:∀{vs:List V} {ss:List af} {i:Nat} {s:af},bM K aa G vs ss->ss[i]?=some s->∃v,vs[i]?=some v/\bF K aa G v s
 |_,_,_,_,.nil,e=>by simp at e
 |_,_,0,_,.cons h _,e=>by simp at e;subst e;exact⟨_,rfl,h⟩
 |_,_,i+1,_,.cons _ r,e=>by
  obtain⟨v,h1,h2⟩:=bM.get (i:=i) r (by simpa using e);exact⟨v,by simpa using h1,h2⟩
theorem bM.append:∀{vs ws:List V} {ss ts:List af},bM K aa G vs ss->bM K aa G ws ts->bM K aa G (vs++ws) (ss++ts)
 |_,_,_,_,.nil,s=>s
 |_,_,_,_,.cons h r,s=>.cons h (bM.append r s)
theorem bM.set {v:V}{s:af}(hr:bF K aa G v s):∀{vs:List V} {ss:List af} (i:Nat),bM K aa G vs ss->bM K aa G (vs.set i v) (ss.set i s)
 |_,_,_,.nil=>.nil
 |_,_,0,.cons _ t=>.cons hr t
 |_,_,i+1,.cons q t=>.cons q (bM.set hr i t)
theorem bM.take:∀{vs:List V} {ss:List af} (n:Nat),bM K aa G vs ss->bM K aa G (vs.take n) (ss.take n)
 |_,_,0,_=>.nil
 |_,_,_+1,.nil=>.nil
 |_,_,n+1,.cons r t=>.cons r (bM.take n t)
theorem bM.drop:∀{vs:List V} {ss:List af} (n:Nat),bM K aa G vs ss->bM K aa G (vs.drop n) (ss.drop n)
 |_,_,0,r=>r
 |_,_,_+1,.nil=>.nil
 |_,_,n+1,.cons _ r=>bM.drop n r
theorem nG {v:V}{s:af}{xs:List af}(ms:aK K aa G M H)(r:bF K aa G v s)(h:vt M s=some xs):∃p vs,v=.ref p/\H p=some (.lst vs)/\bM K aa G vs xs:=by
 cases s with
 |un=>cases h
 |raw w=>cases h
 |dat d=>
  cases d with
  |lst ds=>
   cases h
   cases r with
   |lst h r=>exact⟨_,_,rfl,ms.le.lst h,bM.zP r⟩
  |_=>cases h
 |mu j=>
  unfold vt at h
  dsimp only at h
  split at h
  ·rename_i aB hm
   cases h
   obtain⟨a,h1,h2⟩:=r;obtain⟨vs,h3,h4⟩:=(ms.mo j a _ h1 hm).2;exact⟨a,vs,h2,h3,h4⟩
  ·cases h
theorem Dc {v:V}{s:af}{xs:List af}(le:fj G H)(r:bF K aa G v s)(h:ap1 s=some xs):∃p vs,v=.ref p/\SqT K H p vs/\bM K aa G vs xs:=by
 cases s with
 |un=>cases h
 |raw w=>cases h
 |mu j=>cases h
 |dat d=>
  cases d with
  |tup ds=>
   cases h
   cases r with
   |tup h r=>exact⟨_,_,rfl,le.t (.inl (.inl h)),bM.zP r⟩
  |_=>cases h
theorem aio {v:V}{s:af}{n:Nat}(ms:aK K aa G M H)(r:bF K aa G v s)(h:lenOf M s=some n)(hn:n<=sizeLine):LenV K v H n:=by
 cases s with
 |un=>cases h
 |raw w=>cases h
 |dat d=>
  cases d with
  |str z=>cases h;cases r;exact⟨hn,rfl⟩
  |lst ds=>
   cases h
   cases r with
   |lst h r=>exact .inl ⟨_,SqL.of (ms.le.lst h),r.length.symm⟩
  |tup ds=>
   cases h
   cases r with
   |tup h r=>exact .inr ⟨_,ms.le.t (.inl (.inl h)),r.length.symm⟩
  |_=>cases h
 |mu j=>
  unfold lenOf at h
  dsimp only at h
  split at h
  ·rename_i aB hm
   cases h
   obtain⟨a,h1,h2⟩:=r;obtain⟨vs,h3,h4⟩:=(ms.mo j a _ h1 hm).2;subst h2;exact .inl ⟨vs,SqL.of h3,h4.length.symm⟩
  ·cases h
theorem JX {vs:List V}{ss:List af}{i:Int}{s:af}(r:bM K aa G vs ss)(h:atI ss i=some s):∃v,atI vs i=some v/\bF K aa G v s:=by
 unfold atI at h⊢;rw[r.length];cases q:ixN ss.length i with
 |none=>rw[q]at h;cases h
 |some j=>
  rw[q]at h;exact r.get (show ss[j]?=some s from h)
theorem Sy {ds:List D}{i:Int}{d:D}(h:atI ds i=some d):atI (ds.map af.dat) i=some (.dat d):=by
 unfold atI at h⊢;rw[List.length_map];cases q:ixN ds.length i with
 |none=>rw[q]at h;cases h
 |some j=>
  rw[q]at h;show(ds.map af.dat)[j]?=_
  rw[List.getElem?_map,show ds[j]?=some d from h];rfl
end
def E3:D->D->Option Bool
 | .int i,.int j=>some (decide (i=j))
 | .str i,.str j=>some (decide (i=j))
 | .bl i,.bl j=>some (decide (i=j))
 | .non,.non=>some true
 | .non,.int _=>some false
 | .int _,.non=>some false
 | .non,.str _=>some false
 | .str _,.non=>some false
 | .non,.bl _=>some false
 | .bl _,.non=>some false
 | .int _,.str _=>some false
 | .str _,.int _=>some false
 | .bl _,.str _=>some false
 | .str _,.bl _=>some false
 |_,_=>none
theorem Uc {K:Frag}{G:Hp}{v u:V}{d f:D}{k:Bool}(h:E3 d f=some k)(r1:cg K G v d)(r2:cg K G u f):scal v u=true/\decide (v=u)=k:=by
 cases r1<;>cases r2<;>first
  |(cases h;done)
  |(cases h;refine⟨rfl,?_⟩;simp)
def isNon:D->Bool
 | .non=>true
 |_=>false
mutual
def py:D->PyData
 | .non=>.none
 | .bl b=>.bool b
 | .int i=>.int i
 | .str x=>.str x
 | .lst xs=>.list (e_ xs)
 | .tup xs=>.tuple (e_ xs)
 | .dK _=>.none
 | .dT _=>.none
 | .ins _ _=>.none
 | .fC _=>.none
 | .exc _ _=>.none
 | .fF _ _=>.none
 | .lam _=>.none
def e_:List D->List PyData
 |[]=>[]
 |x::xs=>py x::e_ xs
end
mutual
def plain:Nat->D->Bool
 |_,.non=>true
 |_,.bl _=>true
 |_,.int _=>true
 |_,.str x=>PyData.strOk x
 |0,_=>false
 |n+1,.lst xs=>ez n xs
 |n+1,.tup xs=>ez n xs
 |_+1,.dK _=>false
 |_+1,.dT _=>false
 |_+1,.ins _ _=>false
 |_+1,.fC _=>false
 |_+1,.exc _ _=>false
 |_+1,.fF _ _=>false
 |_+1,.lam _=>false
def ez:Nat->List D->Bool
 |_,[]=>true
 |n,x::xs=>plain n x&&ez n xs
end
mutual
theorem Y5 {K:Frag}{G H:Hp}(le:fj G H):∀(n:Nat) (d:D) (v:V),plain n d=true->cg K G v d->Dp K H v (py d)
 |_,.non,_,_,.non=>by unfold py;exact .non
 |_,.bl b,_,_,.bl _=>by unfold py;exact .bl b
 |_,.int i,_,_,.int _=>by unfold py;exact .int i
 |_,.str x,_,_,.str _=>by unfold py;exact .str x
 |n+1,.lst xs,_,h,.lst hq r=>by unfold py;exact .lst (SqL.of (le.lst hq)) (CC le n xs _ (by simpa[plain]using h) r)
 |n+1,.tup xs,_,h,.tup hq r=>by unfold py;exact .tup (le.t (.inl (.inl hq))) (CC le n xs _ (by simpa[plain]using h) r)
 |0,.lst _,_,h,_=>by simp[plain]at h
 |0,.tup _,_,h,_=>by simp[plain]at h
 |0,.dK _,_,h,_=>by simp[plain]at h
 |0,.dT _,_,h,_=>by simp[plain]at h
 |0,.ins _ _,_,h,_=>by simp[plain]at h
 |0,.fC _,_,h,_=>by simp[plain]at h
 |0,.exc _ _,_,h,_=>by simp[plain]at h
 |0,.fF _ _,_,h,_=>by simp[plain]at h
 |0,.lam _,_,h,_=>by simp[plain]at h
 |n+1,.fC _,_,h,_=>by simp[plain]at h
 |n+1,.exc _ _,_,h,_=>by simp[plain]at h
 |n+1,.fF _ _,_,h,_=>by simp[plain]at h
 |n+1,.lam _,_,h,_=>by simp[plain]at h
 |n+1,.dK _,_,h,_=>by simp[plain]at h
 |n+1,.dT _,_,h,_=>by simp[plain]at h
 |n+1,.ins _ _,_,h,_=>by simp[plain]at h
theorem CC {K:Frag}{G H:Hp}(le:fj G H):∀(n:Nat) (ds:List D) (vs:List V),ez n ds=true->b8 K G vs ds->DpAll K H vs (e_ ds)
 |_,[],_,_,.nil=>by unfold e_;exact .nil
 |n,d::ds,_,h,.cons r cW=>by
  unfold ez at h;rw[Bool.and_eq_true]at h;unfold e_;exact .cons (Y5 le n d _ h.1 r) (CC le n ds _ h.2 cW)
end
mutual
theorem Y6:∀(n:Nat) (d:D),plain n d=true->(py d).canLay0=true/\(py d).depth<=n+1
 |_,.non,_=>by simp[py,PyData.canLay0,PyData.depth]
 |_,.bl b,_=>by simp[py,PyData.canLay0,PyData.depth]
 |_,.int i,_=>by simp[py,PyData.canLay0,PyData.depth]
 |_,.str x,h=>by
  have:PyData.strOk x=true:=by simpa[plain]using h
  simp[py,PyData.canLay0,PyData.depth,this]
 |n+1,.lst xs,h=>by
  obtain⟨h1,h2⟩:=Hv n xs (by simpa[plain]using h);simp[py,PyData.canLay0,PyData.depth,h1];omega
 |n+1,.tup xs,h=>by
  obtain⟨h1,h2⟩:=Hv n xs (by simpa[plain]using h);simp[py,PyData.canLay0,PyData.depth,h1];omega
 |0,.lst _,h=>by simp[plain]at h
 |0,.tup _,h=>by simp[plain]at h
 |0,.dK _,h=>by simp[plain]at h
 |0,.dT _,h=>by simp[plain]at h
 |0,.ins _ _,h=>by simp[plain]at h
 |0,.fC _,h=>by simp[plain]at h
 |0,.exc _ _,h=>by simp[plain]at h
 |0,.fF _ _,h=>by simp[plain]at h
 |0,.lam _,h=>by simp[plain]at h
 |n+1,.fC _,h=>by simp[plain]at h
 |n+1,.exc _ _,h=>by simp[plain]at h
 |n+1,.fF _ _,h=>by simp[plain]at h
 |n+1,.lam _,h=>by simp[plain]at h
 |n+1,.dK _,h=>by simp[plain]at h
 |n+1,.dT _,h=>by simp[plain]at h
 |n+1,.ins _ _,h=>by simp[plain]at h
theorem Hv:∀(n:Nat) (ds:List D),ez n ds=true->PyData.canLayAll0 (e_ ds)=true/\PyData.depthAll (e_ ds)<=n+1
 |_,[],_=>by simp[e_,PyData.canLayAll0,PyData.depthAll]
 |n,d::ds,h=>by
  unfold ez at h;rw[Bool.and_eq_true]at h;obtain⟨h1,h2⟩:=Y6 n d h.1;obtain⟨h3,h4⟩:=Hv n ds h.2;simp[e_,PyData.canLayAll0,PyData.depthAll,h1,h3];omega
end
theorem P4 {n:Nat}{d:D}(h:plain n d=true)(hn:n<=60):SeqAt.shaped (py d)=true:=by
 obtain⟨h1,h2⟩:=Y6 n d h;unfold SeqAt.shaped;rw[h1,Bool.true_and,decide_eq_true_eq];omega
mutual
def o9:D->Bool
 | .bl _=>false
 | .lst xs=>zN xs
 | .tup xs=>zN xs
 |_=>true
def zN:List D->Bool
 |[]=>true
 |x::xs=>o9 x&&zN xs
end
mutual
theorem aej:∀(n:Nat) (d e:D),plain n d=true->plain n e=true->o9 d=true->o9 e=true->(PyData.eqv (py d) (py e)=true↔d=e)
 |n,.non,e,_,h,_,hb=>by cases e<;>cases n<;>simp_all [py,PyData.eqv,plain,o9]
 |n,.int i,e,_,h,_,hb=>by cases e<;>cases n<;>simp_all [py,PyData.eqv,plain,o9]
 |n,.str i,e,_,h,_,hb=>by cases e<;>cases n<;>simp_all [py,PyData.eqv,plain,o9]
 |_,.bl _,_,_,_,h,_=>by simp[o9]at h
 |0,.lst _,_,h,_,_,_=>by simp[plain]at h
 |0,.tup _,_,h,_,_,_=>by simp[plain]at h
 |0,.dK _,_,h,_,_,_=>by simp[plain]at h
 |0,.dT _,_,h,_,_,_=>by simp[plain]at h
 |0,.ins _ _,_,h,_,_,_=>by simp[plain]at h
 |0,.fC _,_,h,_,_,_=>by simp[plain]at h
 |0,.exc _ _,_,h,_,_,_=>by simp[plain]at h
 |0,.fF _ _,_,h,_,_,_=>by simp[plain]at h
 |0,.lam _,_,h,_,_,_=>by simp[plain]at h
 |_+1,.fC _,_,h,_,_,_=>by simp[plain]at h
 |_+1,.exc _ _,_,h,_,_,_=>by simp[plain]at h
 |_+1,.fF _ _,_,h,_,_,_=>by simp[plain]at h
 |_+1,.lam _,_,h,_,_,_=>by simp[plain]at h
 |_+1,.dK _,_,h,_,_,_=>by simp[plain]at h
 |_+1,.dT _,_,h,_,_,_=>by simp[plain]at h
 |_+1,.ins _ _,_,h,_,_,_=>by simp[plain]at h
 |n+1,.lst xs,.lst aB,h1,h2,cP,b2=>by
  have:=Lh n xs aB (by simpa[plain]using h1) (by simpa[plain]using h2) (by simpa[o9]using cP) (by simpa[o9]using b2);simp[py,PyData.eqv,this]
 |n+1,.tup xs,.tup aB,h1,h2,cP,b2=>by
  have:=Lh n xs aB (by simpa[plain]using h1) (by simpa[plain]using h2) (by simpa[o9]using cP) (by simpa[o9]using b2);simp[py,PyData.eqv,this]
 |n+1,.lst xs,.non,_,_,_,_=>by simp[py,PyData.eqv]
 |n+1,.lst xs,.int _,_,_,_,_=>by simp[py,PyData.eqv]
 |n+1,.lst xs,.str _,_,_,_,_=>by simp[py,PyData.eqv]
 |n+1,.lst xs,.tup _,_,_,_,_=>by simp[py,PyData.eqv]
 |n+1,.lst xs,.bl _,_,_,_,h=>by simp[o9]at h
 |n+1,.lst xs,.dK _,_,h,_,_=>by simp[plain]at h
 |n+1,.lst xs,.dT _,_,h,_,_=>by simp[plain]at h
 |n+1,.lst xs,.ins _ _,_,h,_,_=>by simp[plain]at h
 |n+1,.lst xs,.fC _,_,h,_,_=>by simp[plain]at h
 |n+1,.lst xs,.exc _ _,_,h,_,_=>by simp[plain]at h
 |n+1,.lst xs,.fF _ _,_,h,_,_=>by simp[plain]at h
 |n+1,.lst xs,.lam _,_,h,_,_=>by simp[plain]at h
 |n+1,.tup xs,.non,_,_,_,_=>by simp[py,PyData.eqv]
 |n+1,.tup xs,.int _,_,_,_,_=>by simp[py,PyData.eqv]
 |n+1,.tup xs,.str _,_,_,_,_=>by simp[py,PyData.eqv]
 |n+1,.tup xs,.lst _,_,_,_,_=>by simp[py,PyData.eqv]
 |n+1,.tup xs,.bl _,_,_,_,h=>by simp[o9]at h
 |n+1,.tup xs,.dK _,_,h,_,_=>by simp[plain]at h
 |n+1,.tup xs,.dT _,_,h,_,_=>by simp[plain]at h
 |n+1,.tup xs,.ins _ _,_,h,_,_=>by simp[plain]at h
 |n+1,.tup xs,.fC _,_,h,_,_=>by simp[plain]at h
 |n+1,.tup xs,.exc _ _,_,h,_,_=>by simp[plain]at h
 |n+1,.tup xs,.fF _ _,_,h,_,_=>by simp[plain]at h
 |n+1,.tup xs,.lam _,_,h,_,_=>by simp[plain]at h
theorem Lh:∀(n:Nat) (d e:List D),ez n d=true->ez n e=true->zN d=true->zN e=true->(PyData.eqvAll (e_ d) (e_ e)=true↔d=e)
 |_,[],[],_,_,_,_=>by simp[e_,PyData.eqvAll]
 |_,[],_::_,_,_,_,_=>by simp[e_,PyData.eqvAll]
 |_,_::_,[],_,_,_,_=>by simp[e_,PyData.eqvAll]
 |n,x::xs,y::aB,h1,h2,cP,b2=>by
  unfold ez at h1 h2;unfold zN at cP b2;rw[Bool.and_eq_true]at h1 h2 cP b2;have e1:=aej n x y h1.1 h2.1 cP.1 b2.1;have e2:=Lh n xs aB h1.2 h2.2 cP.2 b2.2;simp[e_,PyData.eqvAll,e1,e2]
end
def cutD {α:Type}(xs:List α)(lo hi:Option Int):List α:=(xs.drop (HT.sIx xs.length 0 lo)).take (HT.sIx xs.length xs.length hi-HT.sIx xs.length 0 lo)
section
variable{K:Frag}
theorem OS {G:Hp}:∀(ns:List Int),b8 K G (ns.map V.int) (ns.map D.int)
 |[]=>.nil
 |n::r=>.cons (.int n) (OS r)
theorem OT {G:Hp}:∀{ns:List Int} {vs:List V},b8 K G vs (ns.map D.int)->vs=ns.map V.int
 |[],_,.nil=>rfl
 |_::_,_,.cons h r=>by cases h;rw[OT r];rfl
end
theorem ZG {K:Frag}{G:Hp}{vs:List V}{xs:List D}(r:b8 K G vs xs):∀n:Nat,b8 K G (List.replicate n vs).flatten (List.replicate n xs).flatten
 |0=>.nil
 |n+1=>by rw[List.replicate_succ,List.replicate_succ,List.flatten_cons,List.flatten_cons];exact b8.append r (ZG r n)
theorem ZL {K:Frag}{G:Hp}:∀{vs:List V} {aB:List Str},b8 K G vs (aB.map D.str)->vs=aB.map V.str
 |_,[],.nil=>rfl
 |_,y::aB,.cons h r=>by cases h;rw[ZL r];rfl
theorem ZF {K:Frag}{G:Hp}:∀{vs:List V} {aB:List Bool},b8 K G vs (aB.map D.bl)->vs=aB.map V.bl
 |_,[],.nil=>rfl
 |_,y::aB,.cons h r=>by cases h;rw[ZF r];rfl
theorem akA:OpR X (binaryOp .Mult) (λx y H Q=>∃z n,x=.str z/\y=.int n/\MulOk z n/\Q (.str (Txt.mul z n)) H):=by
 intro pins s σ H x y v u Q I cM dZ h;obtain⟨z,n,rfl,rfl,hk,q⟩:=h;obtain⟨t,rfl⟩:=cM;obtain⟨t',rfl⟩:=dZ;exact SB.mul hk λt' k=>⟨.str _,H,I.tok k,⟨_,rfl⟩,q⟩
theorem alG {K:Frag}{aa:List Addr}{G:Hp}{p:Addr}{vs:List V}{ds:List D}(h:G p=some (.tup vs))(r:b8 K G vs ds):bF K aa G (.ref p) (.dat (.tup ds)):=cg.tup h r
theorem ZO {K:Frag}{aa:List Addr}{G:Hp}{p:Addr}{vs:List V}{ds:List D}(h:G p=some (.lst vs))(r:b8 K G vs ds):bF K aa G (.ref p) (.dat (.lst ds)):=cg.lst h r
theorem CM {K:Frag}{aa:List Addr}{G:Hp}{p:Addr}{j:Nat}(h:aa[j]?=some p):bF K aa G (.ref p) (.mu j):=⟨p,h,rfl⟩
def qR:List af->Option (List D)
 |[]=>some []
 | .dat d::r=>(qR r).map (d::·)
 |_::_=>none
theorem K9:∀{ss:List af} {ds:List D},qR ss=some ds->ss=ds.map .dat
 |[],_,h=>by cases h;rfl
 | .dat d::r,_,h=>by
  unfold qR at h;cases e:qR r with
  |none=>rw[e]at h;cases h
  |some es=>rw[e]at h;cases h;rw[K9 e];rfl
 | .un::_,_,h=>by cases h
 | .mu _::_,_,h=>by cases h
 | .raw _::_,_,h=>by cases h
def iM (M:List ak):af->Option (List D)
 | .dat (.lst ds)=>some ds
 | .mu j=>match M[j]? with
  |some (.lst xs)=>qR xs
  |_=>none
 |_=>none
theorem qh {M:List ak}{s:af}{ds:List D}(h:iM M s=some ds):vt M s=some (ds.map .dat):=by
 cases s with
 |dat d=>cases d<;>first|(cases h;done)|(cases h;rfl)
 |mu j=>
  unfold iM at h;unfold vt
  dsimp only at h⊢
  split at h
  ·rename_i xs e;rw[K9 h]
  ·cases h
 |_=>cases h
def oG (M:List ak):af->Option D
 | .dat d=>some d
 | .mu j=>match M[j]? with
  |some (.lst xs)=>(qR xs).map .lst
  |_=>none
 |_=>none
theorem qs {K:Frag}{aa:List Addr}{G H:Hp}{M:List ak}{v:V}{s:af}{d:D}{n:Nat}(ms:aK K aa G M H)(r:bF K aa G v s)(h:oG M s=some d)(hp:plain n d=true):Dp K H v (py d):=by
 cases s with
 |dat f=>cases h;exact Y5 ms.le n _ _ hp r
 |mu j=>
  unfold oG at h
  dsimp only at h
  split at h
  ·rename_i xs e
   cases q:qR xs with
   |none=>rw[q]at h;cases h
   |some ds=>
    rw[q]at h;cases h;obtain⟨p,vs,e1,e2,e3⟩:=nG ms r (show vt M (.mu j)=some xs by unfold vt;dsimp only;rw[e]);rw[K9 q]at e3;cases n with
    |zero=>simp[plain]at hp
    |succ n=>
     rw[e1];unfold py;exact .lst (SqL.of e2) (CC ms.le n ds _ (by simpa[plain]using hp) (bM.toRps e3))
  ·cases h
 |_=>cases h
def Sh (X:Cx)(r:V->Hp->VK->Prop)(g:List ak->af->Option (af×List ak)):Prop:=
 ∀x M s az aa G H gz Q,g M x=some (s,az)->aK X.K aa G M H->bF X.K aa G gz x->(∀aq aj H' v,aJ aa G H aq aj H'->aK X.K aq aj az H'->bF X.K aq aj v s->Q v H')->r gz H Q
def DR (X:Cx)(r:R2)(g:List ak->af->af->Option (af×List ak)):Prop:=
 ∀x y M s az aa G H gz lW Q,g M x y=some (s,az)->aK X.K aa G M H->bF X.K aa G gz x->bF X.K aa G lW y->(∀aq aj H' v,aJ aa G H aq aj H'->aK X.K aq aj az H'->bF X.K aq aj v s->Q v H')->r gz lW H Q
def Jh (X:Cx)(r:List V->Hp->VK->Prop)(g:List ak->List af->Option (af×List ak)):Prop:=
 ∀x M s az aa G H gz Q,g M x=some (s,az)->aK X.K aa G M H->bM X.K aa G gz x->(∀aq aj H' v,aJ aa G H aq aj H'->aK X.K aq aj az H'->bF X.K aq aj v s->Q v H')->r gz H Q
def cJ (g:List ak->af->Option (af×List ak))(aE:CE):CE:=λρ=>(aE ρ).bind λx=>ofM λM=>g M x
def ao (g:List ak->af->af->Option (af×List ak))(aE bC:CE):CE:=λρ=>(aE ρ).bind λx=>(bC ρ).bind λy=>ofM λM=>g M x y
section
variable{X:Cx}{W:WX}{e a b:Expr}{es:List Expr}{aE bC:CE}{fs:aH}
theorem Z1 {r:V->Hp->VK->Prop}{g}(xM:PE X e (tUn r (wE X a)))(h1:bf X W a aE)(hv:Sh X r g):bf X W e (cJ g aE):=⟨λρ M aa G σ H Q ms en h=>
 toE xM (h1.seq ms en h λay au M1 H1 v1 x g1 m1 r1 aD=>by
  obtain⟨s,az,e,q⟩:=ji.mp aD;exact hv x M1 s az ay au H1 v1 Q e m1 r1 λaq aj H' v eg m' gx=>q aq aj H' v eg m' gx)⟩
theorem PU {r:R2}{g}(xM:PE X e (tOp r (wE X a) (wE X b)))(h1:bf X W a aE)(h2:bf X W b bC)(hv:DR X r g):bf X W e (ao g aE bC):=⟨λρ M aa G σ H Q ms en h=>
 toE xM (h1.seq ms en h λay au M1 H1 v1 x g1 m1 r1 aD=>h2.seq m1 (en.grow g1) aD λaU aV M2 aS v2 y g2 m2 r2 bK=>by
  obtain⟨s,az,e,q⟩:=ji.mp bK;exact hv x y M2 s az aU aV aS v1 v2 Q e m2 (r1.grow g2) r2 λaq aj H' v eg m' gx=>q aq aj H' v eg m' gx)⟩
end
def IA (X:Cx)(f:Value->Value->Sem Value):R2:=λgz lW H Q=>∃r,OpR X f r/\r gz lW H Q
theorem vF {X:Cx}{f:Value->Value->Sem Value}:OpR X f (IA X f):=λpins s σ H x y v u Q I cM dZ ⟨r,ho,h⟩=>ho pins s σ H x y v u Q I cM dZ h
def aaA (X:Cx):R2:=λgz lW H Q=>∃r,IxR X r/\r gz lW H Q
theorem ahs {X:Cx}:IxR X (aaA X):=λapg sl pins s σ H x y v u Q I cM dZ ⟨r,ho,h⟩=>ho apg sl pins s σ H x y v u Q I cM dZ h
def aaB (X:Cx):V->Option Int->Option Int->Hp->VK->Prop:=λx lo hi H Q=>∃r,L2.SlR X r/\r x lo hi H Q
theorem anP {X:Cx}:L2.SlR X (aaB X):=λpins s σ H x v api apj lo hi sl Q I cM hs pl pu ⟨r,ho,h⟩=>ho pins s σ H x v api apj lo hi sl Q I cM hs pl pu h
def r5 (X:Cx)(f:Value):List V->Hp->VK->Prop:=λvs H Q=>∃r,CallR X f r/\r vs H Q
theorem Tj {X:Cx}{f:Value}:CallR X f (r5 X f):=λpins s σ H vs us Q I b6 ⟨r,ho,h⟩=>ho pins s σ H vs us Q I b6 h
theorem zK {K:Frag}{aa:List Addr}{G H:Hp}{M:List ak}{vs:List V}{ds:List D}{Q:VK}(ms:aK K aa G M H)(r:b8 K G vs ds)(q:∀aq aj H' v,aJ aa G H aq aj H'->aK K aq aj M H'->bF K aq aj v (.dat (.lst ds))->Q v H'){l:Addr}(hl:H l=none):Q (.ref l) (upd H l (.lst vs)):=by
 have pu:=Pure.new (o:=.lst vs) ms.le hl;exact q _ _ _ _ pu.grow (ms.pure pu) (ZO upd_same (b8.mono pu.ex r))
theorem Og {K:Frag}{aa:List Addr}{G H:Hp}{M:List ak}{vs:List V}{ds:List D}{Q:VK}(ms:aK K aa G M H)(r:b8 K G vs ds)(q:∀aq aj H' v,aJ aa G H aq aj H'->aK K aq aj M H'->bF K aq aj v (.dat (.tup ds))->Q v H'){l:Addr}(hl:H l=none):Q (.ref l) (upd H l (.tup vs)):=by
 have pu:=Pure.new (o:=.tup vs) ms.le hl;exact q _ _ _ _ pu.grow (ms.pure pu) (alG upd_same (b8.mono pu.ex r))
theorem Yw {K:Frag}{aa:List Addr}{G H:Hp}{M:List ak}{vs:List V}{ss:List af}{Q:VK}(ms:aK K aa G M H)(r:bM K aa G vs ss)(q:∀aq aj H' v,aJ aa G H aq aj H'->aK K aq aj (M++[.lst ss]) H'->bF K aq aj v (.mu M.length)->Q v H'){l:Addr}(hl:H l=none):Q (.ref l) (upd H l (.lst vs)):=by
 obtain⟨m2,g2⟩:=ms.Yv (m:=.lst ss) (o:=.lst vs) hl ⟨vs,upd_same,r.mono (cG.refl G) λj a e=>by rw[List.getElem?_append_left (List.getElem?_eq_some_iff.mp e).1];exact e⟩;exact q _ _ _ _ g2 m2 (CM (by rw[<-ms.len,List.getElem?_append_right (Nat.le_refl _),Nat.sub_self];rfl))
def d9 (m:Bool)(M:List ak)(ds:List D):af×List ak:=if m then(.mu M.length,M++[.lst (ds.map .dat)])else(.dat (.lst ds),M)
theorem zL {K:Frag}{aa:List Addr}{G H:Hp}{M:List ak}{vs:List V}{ds:List D}{m:Bool}{Q:VK}(ms:aK K aa G M H)(r:b8 K G vs ds)(q:∀aq aj H' v,aJ aa G H aq aj H'->aK K aq aj (d9 m M ds).2 H'->bF K aq aj v (d9 m M ds).1->Q v H'){l:Addr}(hl:H l=none):Q (.ref l) (upd H l (.lst vs)):=by
 cases m with
 |true=>exact Yw ms (bM.zP r) q hl
 |false=>exact zK ms r q hl
def bin (op:Operator)(M:List ak):af->af->Option (af×List ak)
 | .dat (.int i),.dat (.int j)=>match op with
  | .Add=>some (.dat (.int (i+j)),M)
  | .Sub=>some (.dat (.int (i-j)),M)
  | .Mult=>if(-(2^64)<i/\i<2^64)\/(-(2^64)<j/\j<2^64)then some (.dat (.int (i*j)),M)else none
  | .Mod=>if 0<j then some (.dat (.int (i%j)),M)else none
  | .FloorDiv=>if 0<j/\j<1073741824 then some (.dat (.int (i/j)),M)else none
  | .Pow=>if 0<=j/\j<=1000000/\i.natAbs<2^64 then some (.dat (.int (i^j.toNat)),M)else none
  |_=>none
 | .dat (.str u),.dat (.str v)=>match op with
  | .Add=>if u.length+v.length<=sizeLine then some (.dat (.str (u++v)),M)else none
  |_=>none
 | .dat (.tup xs),.dat (.tup aB)=>match op with
  | .Add=>if xs.length+aB.length<=sizeLine then some (.dat (.tup (xs++aB)),M)else none
  |_=>none
 | .dat (.str u),.dat (.int i)=>match op with
  | .Mult=>if -(2^63)<=i/\i<=16777216/\u.length*i.toNat<=16777216 then some (.dat (.str (Txt.mul u i)),M)else none
  |_=>none
 |s,.dat (.int i)=>match op with
  | .Mult=>match iM M s with
   |some xs=>if(-(2^63)<=i/\i<2^63)/\xs.length*i.toNat<=sizeLine then some (.dat (.lst (List.replicate i.toNat xs).flatten),M)else none
   |none=>none
  |_=>none
 |s,t=>match op with
  | .Add=>match iM M s,iM M t with
   |some xs,some aB=>if xs.length+aB.length<=sizeLine then some (.dat (.lst (xs++aB)),M)else none
   |_,_=>none
  |_=>none
theorem ajM {u:Str}{i:Int}(c:-(2^63)<=i/\i<=16777216/\u.length*i.toNat<=16777216):MulOk u i:=mulOk_of u.length i.toNat (Nat.le_refl _) (by omega) c.1 (by omega) c.2.2
theorem acK {X:Cx}{op:Operator}:DR X (IA X (binaryOp op)) (bin op):=by
 intro x y M s az aa G H gz lW Q h ms cM dZ q;have fin:∀{v:V} {t:af},(∀aa G,bF X.K aa G v t)->(s=t/\az=M)->Q v H:=λ{v t} hr ⟨e1,e2⟩=>by
  subst e1 e2;exact q aa G H v (aJ.refl _ _ _) ms (hr _ _)
 unfold bin at h;split at h
 ·have ex:=jg cM
  have i_:=jg dZ;subst ex i_;cases op<;>dsimp only at h<;>first|(cases h;done)|skip
  ·cases h;exact⟨_,op_add,_,_,rfl,rfl,fin (λ_ _=>nN) ⟨rfl,rfl⟩⟩
  ·cases h;exact⟨_,op_sub,_,_,rfl,rfl,fin (λ_ _=>nN) ⟨rfl,rfl⟩⟩
  ·split at h
   ·rename_i c;cases h;exact⟨_,op_mul,_,_,rfl,rfl,c,fin (λ_ _=>nN) ⟨rfl,rfl⟩⟩
   ·cases h
  ·split at h
   ·rename_i c;cases h;exact⟨_,op_mod,_,_,rfl,rfl,c,fin (λ_ _=>nN) ⟨rfl,rfl⟩⟩
   ·cases h
  ·split at h
   ·rename_i c;cases h;exact⟨_,op_pow,_,_,rfl,rfl,c,fin (λ_ _=>nN) ⟨rfl,rfl⟩⟩
   ·cases h
  ·split at h
   ·rename_i c;cases h;exact⟨_,op_fdiv,_,_,rfl,rfl,c,fin (λ_ _=>nN) ⟨rfl,rfl⟩⟩
   ·cases h
 ·have ex:=rG cM
  have i_:=rG dZ;subst ex i_;cases op<;>dsimp only at h<;>first|(cases h;done)|skip
  split at h
  ·rename_i c;cases h;exact⟨_,op_add_str,_,_,rfl,rfl,c,fin (λ_ _=>tw) ⟨rfl,rfl⟩⟩
  ·cases h
 ·rename_i xs aB
  cases op<;>dsimp only at h<;>first|(cases h;done)|skip
  split at h
  ·rename_i c
   cases h
   refine⟨_,op_catA,?_⟩;obtain⟨fH,vs,aD,bK,gQ⟩:=Dc (aa:=aa) ms.le cM rfl;obtain⟨cI,ws,ir,f7,pF⟩:=Dc (aa:=aa) ms.le dZ rfl;have l1:=gQ.length;have l2:=pF.length;rw[List.length_map]at l1 l2;refine⟨fH,cI,vs,ws,aD,ir,bK,f7,by omega,λe=>?_,λe1 e2=>?_,λe1 e2 l hl=>?_⟩
   ·have:xs=[]:=by rw[e]at l1;exact List.length_eq_zero_iff.mp l1.symm
    subst this;exact q _ _ _ _ (aJ.refl _ _ _) ms (by rw[<-ir];exact dZ)
   ·have:aB=[]:=by rw[e2]at l2;exact List.length_eq_zero_iff.mp l2.symm
    subst this;exact q _ _ _ _ (aJ.refl _ _ _) ms (by rw[<-aD,List.append_nil];exact cM)
   ·exact Og ms (b8.append (bM.toRps gQ) (bM.toRps pF)) q hl
  ·cases h
 ·have ex:=rG cM
  have i_:=jg dZ;subst ex i_;cases op<;>dsimp only at h<;>first|(cases h;done)|skip
  split at h
  ·rename_i c
   cases h
   exact⟨_,akA,_,_,rfl,rfl,ajM c,fin (λ_ _=>tw) ⟨rfl,rfl⟩⟩
  ·cases h
 ·have i_:=jg dZ
  subst i_;cases op<;>dsimp only at h<;>first|(cases h;done)|skip
  split at h
  ·rename_i xs hx
   split at h
   ·rename_i c
    cases h
    obtain⟨fH,vs,aD,bK,gQ⟩:=nG ms cM (qh hx);exact⟨_,op_rep,fH,_,vs,aD,rfl,bK,c.1.1,c.1.2,by rw[gQ.length,List.length_map];exact c.2,λl hl=>zK ms (ZG (bM.toRps gQ) _) q hl⟩
   ·cases h
  ·cases h
 ·cases op<;>dsimp only at h<;>first|(cases h;done)|skip
  split at h
  ·rename_i xs aB hx hy
   split at h
   ·rename_i c
    cases h
    obtain⟨fH,vs,aD,bK,gQ⟩:=nG ms cM (qh hx);obtain⟨cI,ws,ir,f7,pF⟩:=nG ms dZ (qh hy);exact⟨_,op_cat,fH,cI,vs,ws,aD,ir,bK,f7,by rw[gQ.length,pF.length,List.length_map,List.length_map];exact c,λl hl=>zK ms (b8.append (bM.toRps gQ) (bM.toRps pF)) q hl⟩
   ·cases h
  ·cases h
section
variable{X:Cx}{W:WX}{a b c e:Expr}{es:List Expr}{aE bC gb:CE}{cA:cX}{pos:Pos}
theorem eU {op:Operator}(h1:bf X W a aE)(h2:bf X W b bC):bf X W (.BinOp a op b pos) (ao (bin op) aE bC):=PU (pe_op vF cS cS) h1 h2 acK
def Cv (M:List ak):af->Option (af×List ak)
 | .dat (.int i)=>some (.dat (.int (-i)),M)
 |_=>none
theorem anx (h1:bf X W a aE):bf X W (.UnaryOp .USub a pos) (cJ Cv aE):=Z1 (pe_un un_neg cS) h1 λx M s az aa G H gz Q h ms cM q=>by
 unfold Cv at h;split at h
 ·cases h;exact⟨_,jg cM,q _ _ _ _ (aJ.refl _ _ _) ms nN⟩
 ·cases h
def dh (op:CmpOp)(M:List ak):af->af->Option Bool
 | .dat (.int i),.dat (.int j)=>match op with
  | .Lt=>some (decide (i<j))
  | .LtE=>some (decide (i<=j))
  | .Gt=>some (decide (j<i))
  | .GtE=>some (decide (j<=i))
  | .Eq=>some (decide (i=j))
  | .NotEq=>some (!decide (i=j))
  |_=>none
 | .dat (.str u),.dat (.str v)=>match op with
  | .Gt=>some (decide (v.cps.toList<u.cps.toList))
  | .Eq=>some (decide (u=v))
  | .NotEq=>some (!decide (u=v))
  | .In=>match u.cps.toList with
   |[c]=>some (decide (c∈v.cps.toList))
   |_=>none
  | .NotIn=>match u.cps.toList with
   |[c]=>some (!decide (c∈v.cps.toList))
   |_=>none
  |_=>none
 | .dat d,.dat .non=>match op with
  | .Is=>some (isNon d)
  | .IsNot=>some (!isNon d)
  | .Eq=>E3 d .non
  | .NotEq=>(E3 d .non).map (!·)
  |_=>none
 |x,y=>match op with
  | .Eq=>match oG M x,oG M y with
   |some d,some f=>if plain 58 d&&plain 58 f then some (PyData.eqv (py d) (py f))else none
   |_,_=>none
  | .NotEq=>match oG M x,oG M y with
   |some d,some f=>if plain 58 d&&plain 58 f then some (!PyData.eqv (py d) (py f))else none
   |_,_=>none
  | .In=>match oG M x,oG M y with
   |some d,some (.lst ds)=>if plain 58 d&&ez 58 ds then some ((e_ ds).any λz=>PyData.eqv z (py d))else none
   |some d,some (.tup ds)=>if plain 58 d&&ez 58 ds then some ((e_ ds).any λz=>PyData.eqv z (py d))else none
   |_,_=>none
  | .NotIn=>match oG M x,oG M y with
   |some d,some (.lst ds)=>if plain 58 d&&ez 58 ds then some (!(e_ ds).any λz=>PyData.eqv z (py d))else none
   |some d,some (.tup ds)=>if plain 58 d&&ez 58 ds then some (!(e_ ds).any λz=>PyData.eqv z (py d))else none
   |_,_=>none
  |_=>none
def cmp (op:CmpOp)(M:List ak)(x y:af):Option (af×List ak):=(dh op M x y).map λb=>(.dat (.bl b),M)
def ale (K:Frag):R2:=λx y H Q=>∃d ds,Dp K H x d/\Dp K H y (.tuple ds)/\SeqAt.shaped d=true/\SeqAt.shaped (.tuple ds)=true/\Q (.bl (ds.any λz=>PyData.eqv z d)) H
def alf (K:Frag):R2:=λx y H Q=>∃d ds,Dp K H x d/\Dp K H y (.tuple ds)/\SeqAt.shaped d=true/\SeqAt.shaped (.tuple ds)=true/\Q (.bl (!ds.any λz=>PyData.eqv z d)) H
theorem aky (hu:X.A.units+65<cLine):OpR X (compareOp .In) (ale X.K):=by
 intro pins s σ H x y v u Q I cM dZ h;obtain⟨d,ds,hd,he,CY,PD,q⟩:=h;obtain⟨as,r1⟩:=Dp.reads I d x v hd cM;obtain⟨bs,r2⟩:=Dp.reads I (.tuple ds) y u he dZ;exact SeqAt.in_tuple_reads r2 r1 (SeqAt.canLay_of_shaped PD) (SeqAt.canLay_of_shaped CY) (room_in_shaped CY hu) ⟨.bl _,H,I,rfl,q⟩
theorem akz (hu:X.A.units+65<cLine):OpR X (compareOp .NotIn) (alf X.K):=by
 intro pins s σ H x y v u Q I cM dZ h;obtain⟨d,ds,hd,he,CY,PD,q⟩:=h;obtain⟨as,r1⟩:=Dp.reads I d x v hd cM;obtain⟨bs,r2⟩:=Dp.reads I (.tuple ds) y u he dZ;exact SeqAt.notIn_tuple_reads r2 r1 (SeqAt.canLay_of_shaped PD) (SeqAt.canLay_of_shaped CY) (room_in_shaped CY hu) ⟨.bl _,H,I,rfl,q⟩
theorem one_sign {u:Str}{c:Nat}(h:u.cps.toList=[c]):u=⟨#[c]⟩:=by
 cases u with
 |mk cps=>cases cps;simp at h;subst h;rfl
theorem t8 {op:CmpOp}(hu:X.A.units+65<cLine):DR X (IA X (compareOp op)) (cmp op):=by
 intro x y M s az aa G H gz lW Q h ms cM dZ q;unfold cmp at h;cases hc:dh op M x y with
 |none=>rw[hc]at h;cases h
 |some b=>
  rw[hc]at h;cases h
  have fin:∀{r:Bool},r=b->Q (.bl r) H:=λ{r} e=>by subst e;exact q aa G H _ (aJ.refl _ _ _) ms rH
  have vO:∀{d:D},plain 58 d=true->SeqAt.shaped (py d)=true:=λh=>P4 h (by decide)
  have shl:∀{ds:List D},ez 58 ds=true->SeqAt.shaped (py (.lst ds))=true:=λ{ds} h=>P4 (n:=59) (d:=.lst ds) (by simpa[plain]using h) (by decide)
  have Z8:∀{ds:List D},ez 58 ds=true->SeqAt.shaped (py (.tup ds))=true:=λ{ds} h=>P4 (n:=59) (d:=.tup ds) (by simpa[plain]using h) (by decide)
  have pl:∀{ds:List D},ez 58 ds=true->plain 59 (.lst ds)=true:=λ{ds} h=>by simpa[plain]using h
  have pt:∀{ds:List D},ez 58 ds=true->plain 59 (.tup ds)=true:=λ{ds} h=>by simpa[plain]using h
  unfold dh at hc;split at hc
  ·have ex:=jg cM
   have i_:=jg dZ;subst ex i_;cases op<;>dsimp only at hc<;>first|(cases hc;done)|skip
   ·cases hc;exact⟨_,op_eq,rfl,fin (by simp)⟩
   ·cases hc;exact⟨_,op_ne,rfl,fin (by simp)⟩
   ·cases hc;exact⟨_,op_lt,_,_,rfl,rfl,fin rfl⟩
   ·cases hc;exact⟨_,op_le,_,_,rfl,rfl,fin rfl⟩
   ·cases hc;exact⟨_,op_gt,_,_,rfl,rfl,fin rfl⟩
   ·cases hc;exact⟨_,op_ge,_,_,rfl,rfl,fin rfl⟩
  ·have ex:=rG cM
   have i_:=rG dZ;subst ex i_;cases op<;>dsimp only at hc<;>first|(cases hc;done)|skip
   ·cases hc;exact⟨_,op_eq,rfl,fin (by simp)⟩
   ·cases hc;exact⟨_,op_ne,rfl,fin (by simp)⟩
   ·cases hc;exact⟨_,op_gt_str,_,_,rfl,rfl,fin rfl⟩
   ·split at hc
    ·rename_i c e;cases hc;exact⟨_,op_in_sign,c,_,by rw[one_sign e],rfl,fin rfl⟩
    ·cases hc
   ·split at hc
    ·rename_i c e;cases hc;exact⟨_,op_notIn_sign,c,_,by rw[one_sign e],rfl,fin rfl⟩
    ·cases hc
  ·rename_i d
   have i_:=ZC dZ;have hn:decide (gz=V.non)=isNon d:=by cases cM<;>simp[isNon]
   cases op<;>dsimp only at hc<;>first|(cases hc;done)|skip
   ·obtain⟨h1,h2⟩:=Uc hc cM dZ
    exact⟨_,op_eq,h1,fin h2⟩
   ·cases hq:E3 d .non with
    |none=>rw[hq]at hc;cases hc
    |some k=>
     rw[hq]at hc;cases hc;obtain⟨h1,h2⟩:=Uc hq cM dZ;exact⟨_,op_ne,h1,fin (by rw[h2])⟩
   ·cases hc;exact⟨_,op_isN,i_,fin hn⟩
   ·cases hc;exact⟨_,op_notN,i_,fin (by rw[hn])⟩
  ·cases op<;>dsimp only at hc<;>first|(cases hc;done)|skip
   ·split at hc
    ·rename_i d f h1 h2
     split at hc
     ·rename_i hp
      rw[Bool.and_eq_true]at hp;cases hc
      exact⟨_,op_eqD (by omega),_,_,qs ms cM h1 hp.1,qs ms dZ h2 hp.2,vO hp.1,vO hp.2,fin rfl⟩
     ·cases hc
    ·cases hc
   ·split at hc
    ·rename_i d f h1 h2
     split at hc
     ·rename_i hp
      rw[Bool.and_eq_true]at hp;cases hc
      exact⟨_,op_neD (by omega),_,_,qs ms cM h1 hp.1,qs ms dZ h2 hp.2,vO hp.1,vO hp.2,fin rfl⟩
     ·cases hc
    ·cases hc
   ·split at hc
    ·rename_i d ds h1 h2
     split at hc
     ·rename_i hp
      rw[Bool.and_eq_true]at hp;cases hc
      exact⟨_,L2.op_inD hu,_,_,qs ms cM h1 hp.1,qs ms dZ h2 (pl hp.2),vO hp.1,shl hp.2,fin rfl⟩
     ·cases hc
    ·rename_i d ds h1 h2
     split at hc
     ·rename_i hp
      rw[Bool.and_eq_true]at hp;cases hc
      exact⟨_,aky hu,_,_,qs ms cM h1 hp.1,qs ms dZ h2 (pt hp.2),vO hp.1,Z8 hp.2,fin rfl⟩
     ·cases hc
    ·cases hc
   ·split at hc
    ·rename_i d ds h1 h2
     split at hc
     ·rename_i hp
      rw[Bool.and_eq_true]at hp;cases hc
      exact⟨_,L2.op_notInD hu,_,_,qs ms cM h1 hp.1,qs ms dZ h2 (pl hp.2),vO hp.1,shl hp.2,fin rfl⟩
     ·cases hc
    ·rename_i d ds h1 h2
     split at hc
     ·rename_i hp
      rw[Bool.and_eq_true]at hp;cases hc
      exact⟨_,akz hu,_,_,qs ms cM h1 hp.1,qs ms dZ h2 (pt hp.2),vO hp.1,Z8 hp.2,fin rfl⟩
     ·cases hc
    ·cases hc
theorem pq {op:CmpOp}(hu:X.A.units+65<cLine)(h1:bf X W a aE)(h2:bf X W b bC)(hm:behindInMarks op b=false:=by rfl):bf X W (.Compare a [op] [b] pos) (ao (cmp op) aE bC):=PU (pe_cmpR vF cS cS hm) h1 h2 (t8 hu)
end
def jO:af->Ev Bool
 | .dat (.bl b)=>ok b
 |_=>bad
theorem IB {s:af}{M:List ak}{Q:Re Bool->Prop}(h:wp (jO s M) Q):∃b,s=.dat (.bl b)/\Q (.ok b M):=by
 unfold jO at h;split at h
 ·exact⟨_,rfl,h⟩
 ·exact h.elim
def bz (f:CE):cX:=λρ=>(f ρ).bind jO
def tNot (f:cX):cX:=λρ=>(f ρ).bind λb=>ok (!b)
def tAnd (f g:cX):cX:=λρ=>(f ρ).bind λb=>if b then g ρ else ok false
def tOr (f g:cX):cX:=λρ=>(f ρ).bind λb=>if b then ok true else g ρ
def i9 (f g:CE):CE:=λρ=>(f ρ).bind λs=>match s with
 | .dat (.bl true)=>g ρ
 | .dat (.bl false)=>ok (.dat (.bl false))
 |_=>bad
def T6 (f:CE):CE:=λρ=>(f ρ).bind λs=>match s with
 | .dat (.bl b)=>ok (.dat (.bl (!b)))
 |_=>bad
def Bs (c:cX)(f g:CE):CE:=λρ=>(c ρ).bind λb=>if b then f ρ else g ρ
def nW (op gI:CmpOp)(aE bC gb:CE):CE:=λρ=>(aE ρ).bind λx=>(bC ρ).bind λy=>λM=>match dh op M x y with
 |some true=>(gb ρ).bind (λz=>ofM λM=>cmp gI M y z) M
 |some false=>.ret (.ok (.dat (.bl false)) M)
 |none=>.bad
section
variable{X:Cx}{W:WX}{a b c e o:Expr}{es:List Expr}{aE bC gb:CE}{fs:aH}{cA gt:cX}{pos cI apos p:Pos}
theorem Ib (h1:bf X W e aE)(he:∀whole,isTrue e X.env whole=(do let v <-whole;standAt e.pos;holding [v] (truthy v)):=by intro _;rfl):ST X W e (bz aE):=⟨λρ M aa G σ H Q ms en h=>
 toT (pt_val cS he) (h1.seq ms en h λay au M1 H1 v1 s g1 m1 r1 aD=>by
  obtain⟨b,rfl,aD⟩:=IB aD;exact⟨_,oz r1,aD ay au H1 _ (aJ.refl _ _ _) m1 rfl⟩)⟩
theorem eE {op:CmpOp}(hu:X.A.units+65<cLine)(h1:bf X W a aE)(h2:bf X W b bC)(hm:behindInMarks op b=false:=by rfl):ST X W (.Compare a [op] [b] pos) (bz (ao (cmp op) aE bC)):=⟨λρ M aa G σ H Q ms en h=>by
 have h':wp (Ev.bind (aE ρ) (λx=>Ev.bind (bC ρ) λy=>Ev.bind (ofM λM=>cmp op M x y) jO) M) (dB X W yw Q σ aa G H):=by
  refine cL.mpr (wp_mono (λr hr=>?_) (cL.mp (cL.mp h)));cases r with
  |ex c fs M1=>exact hr
  |ok x M1=>
   refine cL.mpr (wp_mono (λr hr=>?_) (cL.mp hr));cases r with
   |ex c fs M1=>exact hr
   |ok y M2=>exact cL.mpr hr
 refine toT (pt_cmpR vF cS cS hm) (h1.seq ms en h' λay au M1 H1 v1 x g1 m1 r1 aD=>h2.seq m1 (en.grow g1) aD λaU aV M2 aS v2 y g2 m2 r2 bK=>?_);obtain⟨s,az,e,q⟩:=ji.mp (cL.mp bK);refine t8 hu x y M2 s az aU aV aS v1 v2 _ e m2 (r1.grow g2) r2 λaq aj H' v eg m' gx=>?_
 obtain⟨b,rfl,q⟩:=IB q;exact⟨_,oz gx,q _ _ _ _ eg m' rfl⟩⟩
theorem C3 (h1:ST X W a cA):ST X W (.UnaryOp .Not a pos) (tNot cA):=⟨λρ M aa G σ H Q ms en h=>
 toT (pt_not uA) (h1.seq ms en h λay au M1 H1 k g1 m1 aD=>aD ay au H1 _ (aJ.refl _ _ _) m1 rfl)⟩
theorem qo (h1:yy X W e cA):ST X W e cA:=⟨λρ M aa G σ H Q ms en h=>toT (PW.pt pw_w) (h1.run ρ M aa G σ H Q ms en h)⟩
theorem qp {op:BoolOp}(h1:ST X W a cA):yy X W (.BoolOp op [a] pos) cA:=⟨λρ M aa G σ H Q ms en h=>by
 cases op
 ·exact toW (pw_and1 uA) (h1.run ρ M aa G σ H Q ms en h)
 ·exact toW (pw_or1 uA) (h1.run ρ M aa G σ H Q ms en h)⟩
theorem uG (h1:ST X W a cA)(h2:yy X W (.BoolOp .And (b::es) pos) gt):yy X W (.BoolOp .And (a::b::es) pos) (tAnd cA gt):=⟨λρ M aa G σ H Q ms en h=>
 toW (pw_and uA pw_w) (h1.seq ms en h λay au M1 H1 k g1 m1 aD=>by
  cases k with
  |true=>exact iteT (h2.run ρ M1 ay au σ H1 Q m1 (en.grow g1) aD)
  |false=>exact iteF (aD ay au H1 _ (aJ.refl _ _ _) m1 rfl))⟩
theorem xX (h1:ST X W a cA)(h2:yy X W (.BoolOp .Or (b::es) pos) gt):yy X W (.BoolOp .Or (a::b::es) pos) (tOr cA gt):=⟨λρ M aa G σ H Q ms en h=>
 toW (pw_or uA pw_w) (h1.seq ms en h λay au M1 H1 k g1 m1 aD=>by
  cases k with
  |false=>exact iteF (h2.run ρ M1 ay au σ H1 Q m1 (en.grow g1) aD)
  |true=>exact iteT (aD ay au H1 _ (aJ.refl _ _ _) m1 rfl))⟩
theorem ZZ (h0:ST X W c cA)(h1:bf X W a aE)(h2:bf X W b bC):bf X W (.IfExp c a b pos) (Bs cA aE bC):=⟨λρ M aa G σ H Q ms en h=>
 toE (pe_ifExp uA cS cS) (h0.seq ms en h λay au M1 H1 k g1 m1 aD=>by
  cases k with
  |true=>exact iteT (h1.run ρ M1 ay au σ H1 Q m1 (en.grow g1) aD)
  |false=>exact iteF (h2.run ρ M1 ay au σ H1 Q m1 (en.grow g1) aD))⟩
theorem anz (h1:bf X W a aE):bf X W (.UnaryOp .Not a pos) (T6 aE):=⟨λρ M aa G σ H Q ms en h=>
 toE (pe_not cS) (h1.seq ms en h λay au M1 H1 v s g1 m1 r1 aD=>by
  split at aD
  ·exact⟨_,oz r1,aD ay au H1 _ (aJ.refl _ _ _) m1 rH⟩
  ·exact aD.elim)⟩
theorem uF {op:BoolOp}(h1:bf X W a aE):bf X W (.BoolOp op [a] pos) aE:=⟨λρ M aa G σ H Q ms en h=>toE (pe_one cS) (h1.run ρ M aa G σ H Q ms en h)⟩
theorem rJ (h1:bf X W a aE)(h2:bf X W (.BoolOp .And (b::es) pos) bC):bf X W (.BoolOp .And (a::b::es) pos) (i9 aE bC):=⟨λρ M aa G σ H Q ms en h=>
 toE (pe_and cS cS) (h1.seq ms en h λay au M1 H1 v s g1 m1 r1 aD=>by
  split at aD
  ·exact⟨_,oz r1,iteT (h2.run ρ M1 ay au σ H1 Q m1 (en.grow g1) aD)⟩
  ·exact⟨_,oz r1,iteF (aD ay au H1 _ (aJ.refl _ _ _) m1 rH)⟩
  ·exact aD.elim)⟩
theorem Bh {op:CmpOp}{M:List ak}{x y:af}{k:Bool}(h:dh op M x y=some k):cmp op M x y=some (.dat (.bl k),M):=by unfold cmp;rw[h];rfl
theorem anh {op gI:CmpOp}(hu:X.A.units+65<cLine)(h1:bf X W a aE)(h2:bf X W b bC)(h3:bf X W c gb)(hm:lastMarks [op,gI] [b,c]=false:=by with_unfolding_all rfl):bf X W (.Compare a [op,gI] [b,c] pos) (nW op gI aE bC gb):=⟨λρ M aa G σ H Q ms en h=>
 toE (pe_chain vF vF cS cS cS hm) (h1.seq ms en h λay au M1 H1 v1 x g1 m1 r1 aD=>h2.seq m1 (en.grow g1) aD λaU aV M2 aS v2 y g2 m2 r2 bK=>by
  split at bK
  ·rename_i hc
   refine t8 hu x y M2 _ M2 aU aV aS v1 v2 _ (Bh hc) m2 (r1.grow g2) r2 λdO er fh uJ g3 m3 r3=>⟨_,oz r3,iteT ?_⟩
   refine h3.seq m3 ((en.grow (g1.trans g2)).grow g3) (wp_mono (λ_=>dB.shift g3) bK) λpH pI we lD v4 z ni m4 qk r4=>?_
   obtain⟨s,az,e,q⟩:=ji.mp r4;exact t8 hu y z we s az pH pI lD v2 v4 _ e m4 ((r2.grow g3).grow ni) qk λuN uP tV QB BK zG ql=>q _ _ _ _ BK zG ql
  ·rename_i hc
   exact t8 hu x y M2 _ M2 aU aV aS v1 v2 _ (Bh hc) m2 (r1.grow g2) r2 λdO er fh uJ g3 m3 r3=>⟨_,oz r3,iteF (bK _ _ _ _ g3 m3 rH)⟩
  ·exact bK.elim)⟩
theorem Qk {op gI:CmpOp}(hu:X.A.units+65<cLine)(h1:bf X W a aE)(h2:bf X W b bC)(h3:bf X W c gb)(hm:lastMarks [op,gI] [b,c]=false:=by with_unfolding_all rfl):ST X W (.Compare a [op,gI] [b,c] pos) (bz (nW op gI aE bC gb)):=⟨λρ M aa G σ H Q ms en h=>by
 have h':wp (Ev.bind (aE ρ) (λx=>Ev.bind (bC ρ) λy=>λM=>match dh op M x y with
  |some true=>Ev.bind (gb ρ) (λz=>Ev.bind (ofM λM=>cmp gI M y z) jO) M
  |some false=>.ret (.ok false M)
  |none=>.bad) M) (dB X W yw Q σ aa G H):=by
  refine cL.mpr (wp_mono (λr hr=>?_) (cL.mp (cL.mp h)));cases r with
  |ex c fs M1=>exact hr
  |ok x M1=>
   refine cL.mpr (wp_mono (λr hr=>?_) (cL.mp hr));cases r with
   |ex c fs M1=>exact hr
   |ok y M2=>
    dsimp only[aX]at hr⊢
    cases hc:dh op M2 x y with
    |none=>rw[hc]at hr;exact hr.elim
    |some k=>
     rw[hc]at hr;cases k with
     |false=>exact hr
     |true=>
      refine cL.mpr (wp_mono (λr hr=>?_) (cL.mp hr));cases r with
      |ex c fs M1=>exact hr
      |ok z ck=>exact cL.mpr hr
 refine toT (pt_chain vF vF cS cS cS hm) (h1.seq ms en h' λay au M1 H1 v1 x g1 m1 r1 aD=>h2.seq m1 (en.grow g1) aD λaU aV M2 aS v2 y g2 m2 r2 bK=>?_);split at bK
 ·rename_i hc
  refine t8 hu x y M2 _ M2 aU aV aS v1 v2 _ (Bh hc) m2 (r1.grow g2) r2 λdO er fh uJ g3 m3 r3=>⟨_,oz r3,iteT ?_⟩
  refine h3.seq m3 ((en.grow (g1.trans g2)).grow g3) (wp_mono (λ_=>dB.shift g3) bK) λpH pI we lD v4 z ni m4 qk r4=>?_
  obtain⟨s,az,e,q⟩:=ji.mp (cL.mp r4);refine t8 hu y z we s az pH pI lD v2 v4 _ e m4 ((r2.grow g3).grow ni) qk λuN uP tV QB BK zG ql=>?_
  obtain⟨b,rfl,q⟩:=IB q;exact⟨_,oz ql,q _ _ _ _ BK zG rfl⟩
 ·rename_i hc
  exact t8 hu x y M2 _ M2 aU aV aS v1 v2 _ (Bh hc) m2 (r1.grow g2) r2 λdO er fh uJ g3 m3 r3=>⟨_,oz r3,iteF ⟨_,rfl,bK _ _ _ _ g3 m3 rfl⟩⟩
 ·exact bK.elim⟩
end
def EK (M:List ak):af->Option D
 | .dat d=>some d
 | .mu j=>match M[j]? with
  |some (.fz (some d))=>some d
  |_=>none
 |_=>none
def qQ (M:List ak):List af->Option (List D)
 |[]=>some []
 |s::r=>match EK M s,qQ M r with
  |some d,some ds=>some (d::ds)
  |_,_=>none
def oR {c7:Type}(M:List ak):List (c7×af)->Option (List (c7×D))
 |[]=>some []
 |(k,s)::r=>match EK M s,oR M r with
  |some d,some ds=>some ((k,d)::ds)
  |_,_=>none
@[simp]theorem EL (M:List ak):∀ds:List D,qQ M (ds.map .dat)=some ds
 |[]=>rfl
 |d::r=>by rw[List.map_cons,qQ,EL M r];rfl
def oW (M:List ak):ak->Option D
 | .lst xs=>(qQ M xs).map .lst
 | .dK xs=>(oR M xs).map .dK
 | .ins c xs=>(oR M xs).map (.ins c)
 | .fz (some d)=>some d
 |_=>none
def iJ (M:List ak):af->Option (D×List ak)
 | .dat d=>some (d,M)
 | .mu j=>match M[j]? with
  |some m=>match oW M m with
   |some d=>some (d,M.set j (.fz (some d)))
   |none=>none
  |none=>none
 |_=>none
def gW (M:List ak):List af->Option (List D×List ak)
 |[]=>some ([],M)
 |s::r=>match iJ M s with
  |some (d,M1)=>match gW M1 r with
   |some (ds,M2)=>some (d::ds,M2)
   |none=>none
  |none=>none
section
variable{K:Frag}{aa:List Addr}{G H:Hp}{M:List ak}
theorem K5 {v:V}{s:af}{d:D}(ms:aK K aa G M H)(r:bF K aa G v s)(h:EK M s=some d):cg K G v d:=by
 cases s with
 |dat f=>cases h;exact r
 |mu j=>
  unfold EK at h
  dsimp only at h
  split at h
  ·rename_i f hm
   cases h
   obtain⟨a,h1,rfl⟩:=r;exact(ms.mo j a _ h1 hm).2.2 d rfl
  ·cases h
 |_=>cases h
theorem K8 (ms:aK K aa G M H):∀{vs:List V} {ss:List af} {ds:List D},bM K aa G vs ss->qQ M ss=some ds->b8 K G vs ds
 |_,_,_,.nil,h=>by cases h;exact .nil
 |_,s::r,_,.cons h1 h2,h=>by
  unfold qQ at h;split at h
  ·rename_i d ds e1 e2;cases h;exact .cons (K5 ms h1 e1) (K8 ms h2 e2)
  ·cases h
theorem K7 (ms:aK K aa G M H):∀{vs:List (Key×V)} {ss:List (Key×af)} {ds:List (Key×D)},iH K aa G vs ss->oR M ss=some ds->nU K G vs ds
 |_,_,_,.nil,h=>by cases h;exact .nil
 |(k,v)::_,(e7,s)::r,_,.cons ⟨h0,h1⟩ h2,h=>by
  have h0:k=e7:=h0;subst h0;unfold oR at h;split at h
  ·rename_i d ds e1 e2;cases h;exact .cons (K5 ms h1 e1) (K7 ms h2 e2)
  ·cases h
theorem K6 (ms:aK K aa G M H):∀{vs:List (Str×V)} {ss:List (Str×af)} {ds:List (Str×D)},iH K aa G vs ss->oR M ss=some ds->gR K G vs ds
 |_,_,_,.nil,h=>by cases h;exact .nil
 |(k,v)::_,(e7,s)::r,_,.cons ⟨h0,h1⟩ h2,h=>by
  have h0:k=e7:=h0;subst h0;unfold oR at h;split at h
  ·rename_i d ds e1 e2;cases h;exact .cons (K5 ms h1 e1) (K6 ms h2 e2)
  ·cases h
theorem NV {j:Nat}{a:Addr}{m:ak}{u:HO}{d:D}(ms:aK K aa G M H)(e1:aa[j]?=some a)(e2:M[j]?=some m)(ga:G a=none)(hu:H a=some u)(hx:∀ob,u≠cu a ob)(hd:cg K (upd G a u) (.ref a) d):
    aK K aa (upd G a u) (M.set j (.fz (some d))) H/\aJ aa G H aa (upd G a u) H:=by
  have ex:cG G (upd G a u):=cG.new ga;refine⟨⟨λb o q=>?_,by rw[List.length_set];exact ms.len,ms.nd,λi b Cu f1 f2=>?_,ms.fk⟩,⟨ex,⟨[],by simp,by simp⟩,λ_ _ h _=>h,λb _ hn=>.inl (upd_ne λz=>hn (z▸List.mem_of_getElem? e1)),λ_ h=>h⟩⟩
  · by_cases z:b=a
    · subst z;rw[upd_same]at q;cases q;exact .inl hu
    · rw[upd_ne z]at q;exact ms.le b o q
  · by_cases z:i=j
    · subst z
      rw[e1]at f1;cases f1;rw[List.getElem?_set_self (List.getElem?_eq_some_iff.mp e2).1]at f2;cases f2
      exact⟨λq=>q.elim,⟨u,upd_same,hx⟩,λf_ q=>by cases q;exact hd⟩
    · rw[List.getElem?_set_ne (Ne.symm z)]at f2
      have nb:b≠a:=λq=>z (ms.inj f1 (q▸e1))
      obtain⟨q1,q2⟩:=ms.mo i b Cu f1 f2;exact⟨λy=>by rw[upd_ne nb];exact q1 y,q2.mono ex (λ_ _ y=>y) rfl⟩
theorem wZ {v:V}{s:af}{d:D}{az:List ak}(ms:aK K aa G M H)(r:bF K aa G v s)(h:iJ M s=some (d,az)):∃aj,aK K aa aj az H/\aJ aa G H aa aj H/\cg K aj v d:=by
 cases s with
 |dat f=>cases h;exact⟨G,ms,aJ.refl _ _ _,r⟩
 |mu j=>
  unfold iJ at h
  dsimp only at h
  split at h
  ·rename_i m hm
   split at h
   ·rename_i f hf
    cases h
    obtain⟨a,h1,rfl⟩:=r;obtain⟨q1,q2⟩:=ms.mo j a _ h1 hm;cases m with
    |lst xs=>
     obtain⟨vs,e1,e2⟩:=q2;cases hx:qQ M xs with
     |none=>unfold oW at hf;dsimp only at hf;rw[hx]at hf;cases hf
     |some ds=>
      unfold oW at hf;dsimp only at hf;rw[hx]at hf;cases hf;obtain⟨m2,g2⟩:=NV ms h1 hm (q1 trivial) e1 (λob z=>by unfold cu at z;cases z) (.lst upd_same (b8.mono (cG.new (q1 trivial)) (K8 ms e2 hx)));exact⟨_,m2,g2,.lst upd_same (b8.mono (cG.new (q1 trivial)) (K8 ms e2 hx))⟩
    |dK xs=>
     obtain⟨vs,e1,e2⟩:=q2;cases hx:oR M xs with
     |none=>unfold oW at hf;dsimp only at hf;rw[hx]at hf;cases hf
     |some ds=>
      unfold oW at hf;dsimp only at hf;rw[hx]at hf;cases hf;obtain⟨m2,g2⟩:=NV ms h1 hm (q1 trivial) e1 (λob z=>by unfold cu at z;cases z) (.dK (.inl upd_same) (nU.mono (cG.new (q1 trivial)) (K7 ms e2 hx)));exact⟨_,m2,g2,.dK (.inl upd_same) (nU.mono (cG.new (q1 trivial)) (K7 ms e2 hx))⟩
    |dT xs=>cases hf
    |ins c xs=>
     obtain⟨bO,vs,e1,e2⟩:=q2;cases hx:oR M xs with
     |none=>unfold oW at hf;dsimp only at hf;rw[hx]at hf;cases hf
     |some ds=>
      unfold oW at hf;dsimp only at hf;rw[hx]at hf;cases hf;obtain⟨m2,g2⟩:=NV ms h1 hm (q1 trivial) e1 (λob z=>by unfold cu at z;cases z) (.ins upd_same (gR.mono (cG.new (q1 trivial)) (K6 ms e2 hx)));exact⟨_,m2,g2,.ins upd_same (gR.mono (cG.new (q1 trivial)) (K6 ms e2 hx))⟩
    |fz o=>
     cases o with
     |none=>cases hf
     |some f=>
      cases hf
      have e:M.set j (.fz (some d))=M:=by
       refine List.ext_getElem? λi=>?_
       by_cases z:i=j
       ·subst z;rw[List.getElem?_set_self (List.getElem?_eq_some_iff.mp hm).1,hm]
       ·rw[List.getElem?_set_ne (Ne.symm z)]
      rw[e];exact⟨G,ms,aJ.refl _ _ _,q2.2 d rfl⟩
    |hand=>cases hf
    |tab q=>cases hf
    |t9 xs=>cases hf
   ·cases h
  ·cases h
 |_=>cases h
theorem BJ:∀{vs:List V} {ss:List af} {G:Hp} {M:List ak} {ds:List D} {az:List ak},aK K aa G M H->bM K aa G vs ss->gW M ss=some (ds,az)->∃aj,aK K aa aj az H/\aJ aa G H aa aj H/\b8 K aj vs ds
 |_,_,G,M,_,_,ms,.nil,h=>by cases h;exact⟨G,ms,aJ.refl _ _ _,.nil⟩
 |_,s::r,G,M,_,_,ms,.cons h1 h2,h=>by
  unfold gW at h;split at h
  ·rename_i d M1 e1
   split at h
   ·rename_i ds M2 e2
    cases h
    obtain⟨au,m1,g1,r1⟩:=wZ ms h1 e1;obtain⟨aV,m2,g2,r2⟩:=BJ m1 (bM.grow g1 h2) e2;exact⟨aV,m2,g1.trans g2,.cons (r1.mono g2.ex) r2⟩
   ·cases h
  ·cases h
end
def dg (f:aH):CE:=λρ=>(f ρ).bind λss=>ofM λM=>match gW M ss with
 |some (ds,az)=>if ds.length<=sizeLine then some (.dat (.tup ds),az)else none
 |none=>none
def dw (m:Bool)(f:aH):CE:=λρ=>(f ρ).bind λss=>ofM λM=>if ss.length<=sizeLine then(if m then some (.mu M.length,M++[.lst ss])else match gW M ss with
 |some (ds,az)=>some (.dat (.lst ds),az)
 |none=>none)else none
section
variable{X:Cx}{W:WX}{a b c e o:Expr}{es:List Expr}{aE bC gb:CE}{fs:aH}{cA gt:cX}{pos cI apos p:Pos}
theorem iP {k:Nat}(h1:jN X W es fs):bf X W (.Tuple es k pos) (dg fs):=⟨λρ M aa G σ H Q ms en h=>
 toE (pe_tup uy) (h1.seq ms en h λay au M1 H1 vs ss g1 m1 r1 aD=>by
  obtain⟨s,az,e,q⟩:=ji.mp aD;split at e
  ·rename_i ds M2 e1
   split at e
   ·rename_i hz
    cases e
    obtain⟨aV,m2,g2,r2⟩:=BJ m1 r1 e1;refine⟨by rw[r2.length];exact hz,λl hl=>?_⟩;exact Og m2 r2 (λaq aj H' v g m r=>q aq aj H' v (g2.trans g) m r) hl
   ·cases e
  ·cases e)⟩
theorem lS (m:Bool)(h1:jN X W es fs):bf X W (.List es pos) (dw m fs):=⟨λρ M aa G σ H Q ms en h=>
 toE (pe_lst uy) (h1.seq ms en h λay au M1 H1 vs ss g1 m1 r1 aD=>by
  obtain⟨s,az,e,q⟩:=ji.mp aD;split at e
  ·rename_i hz
   refine⟨by rw[r1.length];exact hz,λl hl=>?_⟩;cases m with
   |true=>
    rw[if_pos rfl]at e;cases e
    exact Yw m1 r1 (λaq aj H' v g m r=>q aq aj H' v g m r) hl
   |false=>
    rw[if_neg (by decide)]at e;split at e
    ·rename_i ds M2 e1
     cases e
     obtain⟨aV,m2,g2,r2⟩:=BJ m1 r1 e1;exact zK m2 r2 (λaq aj H' v g m r=>q aq aj H' v (g2.trans g) m r) hl
    ·cases e
  ·cases e)⟩
def aO (M:List ak)(x y:af):Option (af×List ak):=match y with
 | .dat (.int i)=>match x with
  | .dat (.str z)=>if z.length<=sizeLine then(atI z.cps.toList i).map λc=>(.dat (.str ⟨#[c]⟩),M)else none
  | .dat (.tup ds)=>(atI ds i).map λd=>(.dat d,M)
  | .dat (.lst ds)=>(atI ds i).map λd=>(.dat d,M)
  | .mu j=>match M[j]? with
   |some (.lst xs)=>(atI xs i).map λs=>(fB M s,M)
   |_=>none
  |_=>none
 |_=>none
theorem aho:DR X (aaA X) aO:=by
 intro x y M s az aa G H gz lW Q h ms cM dZ q;unfold aO at h;split at h
 ·rename_i i
  have i_:=jg dZ;split at h
  ·split at h
   ·rename_i z hz
    cases e:atI z.cps.toList i with
    |none=>rw[e]at h;cases h
    |some c=>rw[e]at h;cases h;exact⟨_,ix_str,z,i,c,rG cM,i_,hz,e,q _ _ _ _ (aJ.refl _ _ _) ms tw⟩
   ·cases h
  ·rename_i ds
   cases e:atI ds i with
   |none=>rw[e]at h;cases h
   |some d=>
    rw[e]at h;cases h;obtain⟨p,vs,e4,d_,qS⟩:=Dc ms.le cM rfl;obtain⟨v,ua,e8⟩:=JX qS (Sy e);exact⟨_,ix_tup,p,vs,i,v,e4,i_,d_,ua,q _ _ _ _ (aJ.refl _ _ _) ms e8⟩
  ·rename_i ds
   cases e:atI ds i with
   |none=>rw[e]at h;cases h
   |some d=>
    rw[e]at h;cases h;obtain⟨p,vs,e4,d_,qS⟩:=nG ms cM rfl;obtain⟨v,ua,e8⟩:=JX qS (Sy e);exact⟨_,ix_list,p,vs,i,v,e4,i_,SqL.of d_,ua,q _ _ _ _ (aJ.refl _ _ _) ms e8⟩
  ·rename_i j
   split at h
   ·rename_i xs hm
    cases e:atI xs i with
    |none=>rw[e]at h;cases h
    |some t=>
     rw[e]at h;cases h;obtain⟨p,vs,e4,d_,qS⟩:=nG ms cM (show vt M (.mu j)=some xs by unfold vt;dsimp only;rw[hm]);obtain⟨v,ua,e8⟩:=JX qS e;exact⟨_,ix_list,p,vs,i,v,e4,i_,SqL.of d_,ua,q _ _ _ _ (aJ.refl _ _ _) ms (G9 ms e8)⟩
   ·cases h
  ·cases h
 ·cases h
theorem cN (h1:bf X W a aE)(h2:bf X W b bC)(hs:PlainIx b:=by intro _ _;rfl):bf X W (.Subscript a b pos) (ao aO aE bC):=PU (pe_ix ahs cS cS hs) h1 h2 aho
def r8:Type:=List af->Ev (Option Int)
def ou:r8:=λ_=>ok none
def nH (f:CE):r8:=λρ=>(f ρ).bind λs=>match s with
 | .dat (.int i)=>ok (some i)
 |_=>bad
structure DO (X:Cx)(W:WX)(e:Option Expr)(f:r8):Prop where
 run:∃t:TO,PO X e t/\∀ρ M aa G σ H (Q:Option Int->Hp->Prop),aK X.K aa G M H->cz X.K aa G σ ρ->wp (f ρ M) (dB X W (λ_ _ b a=>b=a) Q σ aa G H)->t σ H Q
theorem P7:DO X W none ou:=⟨_,po_none,λρ M aa G σ H Q ms en h=>h aa G H _ (aJ.refl _ _ _) ms rfl⟩
theorem P8 (h1:bf X W e aE):DO X W (some e) (nH aE):=⟨_,po_some cS,λρ M aa G σ H Q ms en h=>h1.seq ms en h λay au M1 H1 v s g1 m1 r1 aD=>by
 split at aD
 ·exact⟨_,jg r1,aD ay au H1 _ (aJ.refl _ _ _) m1 rfl⟩
 ·exact aD.elim⟩
def tF (M:List ak)(x:af)(l u:Option Int):Option (af×List ak):=match x with
 | .dat (.str z)=>if z.length<=sizeLine then some (.dat (.str (cutS z l u)),M)else none
 | .dat (.fC ns)=>some (.dat (.lst ((cutD ns l u).map .int)),M)
 | .dat (.tup ds)=>some (.dat (.tup (cutD ds l u)),M)
 |s=>match iM M s with
  |some ds=>some (.dat (.lst (cutD ds l u)),M)
  |none=>none
theorem anN {x:af}{l u:Option Int}{M az:List ak}{s:af}{aa:List Addr}{G H:Hp}{gz:V}{Q:VK}(h:tF M x l u=some (s,az))(ms:aK X.K aa G M H)(r1:bF X.K aa G gz x)(q:∀aq aj H' v,aJ aa G H aq aj H'->aK X.K aq aj az H'->bF X.K aq aj v s->Q v H'):aaB X gz l u H Q:=by
 unfold tF at h;split at h
 ·split at h
  ·rename_i hz;cases h;exact⟨_,sl_str,_,rG r1,hz,q _ _ _ _ (aJ.refl _ _ _) ms tw⟩
  ·cases h
 ·rename_i ns
  cases h
  cases r1 with
  |fC hq=>
   refine⟨_,sl_list,_,_,rfl,ms.le.l hq,λpl hl=>?_⟩;have e:cutV (ns.map V.int) l u=(cutD ns l u).map V.int:=by unfold cutV cutD;rw[List.length_map,List.map_take,List.map_drop]
   rw[e];exact zK ms (OS _) q hl
 ·rename_i ds
  cases h
  obtain⟨p,vs,e1,e2,e3⟩:=Dc (aa:=aa) ms.le r1 rfl;have hl:vs.length=ds.length:=by rw[e3.length,List.length_map]
  have cW:b8 X.K G (cutV vs l u) (cutD ds l u):=by
   unfold cutV cutD;rw[hl];exact b8.take _ (b8.drop _ (bM.toRps e3))
  refine⟨_,sl_tupA,p,vs,e1,e2,λhw=>?_,λhw p hp=>?_⟩
  ·have:cutD ds l u=ds:=by unfold cutD;rw[<-hl,hw.1,hw.2];simp[hl]
   exact q _ _ _ _ (aJ.refl _ _ _) ms (by rw[this,<-e1];exact r1)
  ·exact Og ms cW q hp
 ·split at h
  ·rename_i ds hd
   cases h
   obtain⟨p,vs,e1,e2,e3⟩:=nG ms r1 (qh hd);refine⟨_,sl_list,p,vs,e1,SqL.of e2,λpl hl=>?_⟩;refine zK ms ?_ q hl;unfold cutV cutD;rw[e3.length,List.length_map];exact b8.take _ (b8.drop _ (bM.toRps e3))
  ·cases h
def nc (f:CE)(g h:r8):CE:=λρ=>(f ρ).bind λx=>Ev.bind (g ρ) λl=>Ev.bind (h ρ) λu=>ofM λM=>tF M x l u
theorem PY {lo hi:Option Expr}{g h:r8}(h1:bf X W e aE)(h2:DO X W lo g)(h3:DO X W hi h):bf X W (.Subscript e (.Slice lo hi none cI) pos) (nc aE g h):=by
 obtain⟨t2,akK,q2⟩:=h2.run;obtain⟨t3,akL,q3⟩:=h3.run;refine⟨λρ M aa G σ H Q ms en w=>toE (pe_slice anP cS akK akL) (h1.seq ms en w λay au M1 H1 v1 x g1 m1 r1 aD=>?_)⟩;refine q2 ρ M1 ay au σ H1 _ m1 (en.grow g1) (wp_mono (λr hr=>?_) (cL.mp aD));cases r with
 |ex c fs M2=>exact hr
 |ok l M2=>
  intro aU aV aS b g2 m2 hb;subst hb;refine q3 ρ M2 aU aV σ aS _ m2 (en.grow (g1.trans g2)) (wp_mono (λr hr=>?_) (cL.mp hr));cases r with
  |ex c fs ck=>exact PX.shift g2 hr
  |ok u ck=>
   intro dO er fh wA g3 m3 hb;subst hb;obtain⟨s,az,e,q⟩:=ji.mp (show wp (ofM (λM=>tF M x b wA) ck) _ from hr);exact anN e m3 ((r1.grow g2).grow g3) λpH pI lD v ni m4 qk=>q _ _ _ _ ((g2.trans g3).trans ni) m4 qk
def j6 (M:List ak):af->Option (af×List ak)
 | .dat (.str y)=>if y.length<=sizeLine then some (.dat (.str y),M)else none
 | .dat (.int i)=>if i.natAbs.log2<1920 then some (.dat (.str (toString i)),M)else none
 |_=>none
theorem z6 (h1:bf X W e aE):bf X W (.FormattedValue e (-1) none pos) (cJ j6 aE):=⟨λρ M aa G σ H Q ms en h=>
 toE (pe_fmt cS) (h1.seq ms en h λay au M1 H1 v s g1 m1 r1 aD=>by
  obtain⟨t,az,e,q⟩:=ji.mp aD;unfold j6 at e;split at e
  ·split at e
   ·rename_i hz;cases e;exact .inl ⟨_,rG r1,hz,q _ _ _ _ (aJ.refl _ _ _) m1 tw⟩
   ·cases e
  ·split at e
   ·rename_i hz;cases e;exact .inr ⟨_,jg r1,hz,q _ _ _ _ (aJ.refl _ _ _) m1 tw⟩
   ·cases e
  ·cases e)⟩
def u5:af->Ev Str
 | .dat (.str y)=>ok y
 |_=>bad
theorem aaI {s:af}{M:List ak}{Q:Re Str->Prop}(h:wp (u5 s M) Q):∃b,s=.dat (.str b)/\Q (.ok b M):=by
 unfold u5 at h;split at h
 ·exact⟨_,rfl,h⟩
 ·exact h.elim
def oh:List CE->Str->CE
 |[],acc,_=>ok (.dat (.str acc))
 |f::fs,acc,ρ=>(f ρ).bind λs=>(u5 s).bind λy=>if(acc++y).length<=sizeLine then oh fs (acc++y) ρ else bad
theorem YX:∀es:List Expr,PJ X es (es.map (wE X))
 |[]=>.nil
 |_::es=>.cons cS (YX es)
inductive kr (X:Cx)(W:WX):List Expr->List CE->Prop
 |nil:kr X W [] []
 |cons {e:Expr} {es:List Expr} {f:CE} {fs:List CE}:bf X W e f->kr X W es fs->kr X W (e::es) (f::fs)
theorem V2 {ρ:List af}:∀(es:List Expr) (fs:List CE) (acc:Str) (M:List ak),kr X W es fs->∀aa G σ H (Q:VK),aK X.K aa G M H->cz X.K aa G σ ρ->wp (oh fs acc ρ M) (dB X W (bF X.K) Q σ aa G H)->tJs (es.map (wE X)) acc σ H λz H'=>Q (.str z) H'
 |[],_,acc,M,.nil,aa,G,σ,H,Q,ms,en,h=>h aa G H _ (aJ.refl _ _ _) ms tw
 |e::es,f::fs,acc,M,.cons h1 h2,aa,G,σ,H,Q,ms,en,h=>by
  refine h1.seq ms en h λay au M1 H1 v s g1 m1 r1 aD=>?_
  obtain⟨y,rfl,bK⟩:=aaI (cL.mp aD);have bK:wp ((if(acc++y).length<=sizeLine then oh fs (acc++y) ρ else bad) M1) (dB X W (bF X.K) Q σ ay au H1):=bK;split at bK
  ·rename_i hz
   exact⟨y,rG r1,hz,V2 es fs (acc++y) M1 h2 ay au σ H1 Q m1 (en.grow g1) bK⟩
  ·exact bK.elim
theorem PM {e1 e2:Expr}{fs:List CE}(h:kr X W (e1::e2::es) fs):bf X W (.JoinedStr (e1::e2::es) pos) (oh fs Str.empty):=⟨λρ M aa G σ H Q ms en w=>
 toE (pe_joined (YX _)) (V2 _ fs _ M h aa G σ H Q ms en w)⟩
end
def jv:List af->List af->Prop
 |[],[]=>True
 |a::as,b::bs=>(b=.un\/a=b)/\jv as bs
 |_,_=>False
theorem jv.refl:∀ρ:List af,jv ρ ρ
 |[]=>trivial
 |_::r=>⟨.inr rfl,jv.refl r⟩
theorem jv.len:∀{ρ r7:List af},jv ρ r7->ρ.length=r7.length
 |[],[],_=>rfl
 |_::_,_::_,h=>congrArg Nat.succ (jv.len h.2)
 |[],_::_,h=>h.elim
 |_::_,[],h=>h.elim
theorem jv.get:∀{ρ r7:List af} {i:Nat} {s:af},jv ρ r7->r7[i]?=some s->s=.un\/ρ[i]?=some s
 |[],[],_,_,_,e=>by simp at e
 |_::_,_::_,0,s,h,e=>by
  simp at e;subst e;exact h.1.imp id λz=>by simp[z]
 |_::_,_::_,i+1,s,h,e=>by
  simpa using jv.get h.2 (by simpa using e)
 |[],_::_,_,_,h,_=>h.elim
 |_::_,[],_,_,h,_=>h.elim
theorem cz.le {K:Frag}{aa:List Addr}{G:Hp}{σ:L2.St}{ρ r7:List af}(h:cz K aa G σ ρ)(l:jv ρ r7):cz K aa G σ r7:=
 ⟨h.len.trans l.len,λi s e=>(l.get e).elim .inl λz=>h.at_ i s z⟩
def wk (ts:List Nat)(σ aZ:L2.St):Prop:=∀ws:List Nat,(∀i∈ts,i∈ws)->wipe aZ ws=wipe σ ws
theorem aaF {i:Nat}{x:Option V}:∀(σ:L2.St) (ws:List Nat),i∈ws->wipe (σ.set i x) ws=wipe σ ws
 |σ,[],h=>by simp at h
 |σ,w::ws,h=>by
  unfold wipe;by_cases hi:i∈ws
  ·rw[aaF σ ws hi]
  ·have e:i=w:=by simpa[hi]using h
   subst e;have z:∀ws:List Nat,i∉ws->wipe (σ.set i x) ws=(wipe σ ws).set i x:=by
    intro ws;induction ws with
    |nil=>intro _;rfl
    |cons w ws ih=>
     intro hn;unfold wipe;rw[ih (λq=>hn (List.mem_cons_of_mem _ q)),List.set_comm _ _ (λq=>hn (by rw[<-q];exact List.mem_cons_self))]
   rw[z ws hi,List.set_set]
theorem aoT {i:Nat}{x:Option V}{σ:L2.St}:wk [i] σ (σ.set i x):=λws h=>aaF σ ws (h i (by simp))
theorem wk.app {ts us:List Nat}{σ qx fS:L2.St}(a:wk ts σ qx)(b:wk us qx fS):wk (ts++us) σ fS:=λws h=>
 (b ws λi hi=>h i (List.mem_append_right _ hi)).trans (a ws λi hi=>h i (List.mem_append_left _ hi))
def Dj (X:Cx)(ts:List Expr):TGs:=λvs σ H Q=>∀pins s us,Inv X pins σ H s->Vals vs us->wpAny (model X.prog X.w) X.A (assignInOrder ((assignEach ts X.env).map (·.2)) us) (λ_ aF=>∃aZ H',Inv X pins aZ H' aF/\Q aZ H') X.xe s
theorem Hq:PGs X es (Dj X es):=⟨λpins s _ _ _ us _ I r h=>h pins s us I r⟩
theorem toGs {t:TGs}(h:PGs X es t){v σ H Q}(q:t v σ H Q):Dj X es v σ H Q:=λpins s u I r=>h.run pins s σ H v u Q I r q
def dN (ρ:List af):List Nat->List af
 |[]=>ρ
 |v::vs=>(dN ρ vs).set v .un
theorem cz.wipe {K:Frag}{aa:List Addr}{G:Hp}{σ:L2.St}(h:cz K aa G σ ρ):∀vs:List Nat,cz K aa G (wipe σ vs) (dN ρ vs)
 |[]=>h
 |v::vs=>by
  have r:=cz.wipe h vs;refine⟨by unfold L2.wipe dN;rw[List.length_set,List.length_set];exact r.len,λi s e=>?_⟩;unfold dN at e;unfold L2.wipe;by_cases hv:v=i
  ·subst hv
   rw[List.getElem?_set]at e;split at e
   ·split at e
    ·cases e;exact .inl rfl
    ·cases e
   ·exact absurd rfl ‹_›
  ·rw[List.getElem?_set_ne hv]at e⊢
   exact r.at_ i s e
abbrev dX:Type:=af->List af->Option (List af)
structure GT (X:Cx)(bV:Expr)(ts:List Nat)(f:dX):Prop where
 run:∀s ρ cO aa G σ H v,f s ρ=some cO->fj G H->cz X.K aa G σ ρ->bF X.K aa G v s->∀Q:L2.St->Hp->Prop,(∀aZ,cz X.K aa G aZ cO->wk ts σ aZ->Q aZ H)->Di X bV v σ H Q
structure DG (X:Cx)(bV:List Expr)(ts:List Nat)(f:List D->List af->Option (List af)):Prop where
 run:∀ds ρ cO aa G σ H vs,f ds ρ=some cO->fj G H->cz X.K aa G σ ρ->b8 X.K G vs ds->∀Q:L2.St->Hp->Prop,(∀aZ,cz X.K aa G aZ cO->wk ts σ aZ->Q aZ H)->Dj X bV vs σ H Q
def br (i:Nat):dX:=λs ρ=>some (ρ.set i s)
def gY:List D->List af->Option (List af)
 |[],ρ=>some ρ
 |_::_,_=>none
def cZ (f:dX)(g:List D->List af->Option (List af)):List D->List af->Option (List af)
 |[],_=>none
 |d::ds,ρ=>match f (.dat d) ρ with
  |some aY=>g ds aY
  |none=>none
def gH (n:Nat)(f:List D->List af->Option (List af)):dX:=λs ρ=>match s with
 | .dat (.tup ds)=>if ds.length=n then f ds ρ else none
 |_=>none
section
variable{X:Cx}{W:WX}{bV e a b o it:Expr}{es:List Expr}{ts us:List Nat}{f:dX}{g:List D->List af->Option (List af)}{pos j_:Pos}{aE bC gb:CE}{fs:aH}{cA:cX}{st:Stmt}{rT body orelse:List Stmt}{fst BS:aN}
theorem dJ {x:Str}{i:Nat}(F:pL X x i):GT X (.Name x pos) [i] (br i):=⟨λs ρ cO aa G σ H v h le en r Q q=>by
 cases h
 exact toG (pg_name F.nd F.ix F.loc F.fn) (q _ (en.set r) aoT)⟩
theorem qc:DG X [] [] gY:=⟨λds ρ cO aa G σ H vs h le en r Q q=>by
 cases ds with
 |nil=>cases h;cases r;exact toGs pgs_nil ⟨rfl,q _ en λ_ _=>rfl⟩
 |cons d ds=>cases h⟩
theorem jc (h1:GT X e ts f)(h2:DG X es us g)(hs:(assignEach (e::es) X.env).map (·.2)=assign e X.env::(assignEach es X.env).map (·.2):=by rfl):DG X (e::es) (ts++us) (cZ f g):=⟨λds ρ cO aa G σ H vs h le en r Q q=>by
 cases ds with
 |nil=>cases h
 |cons d ds=>
  cases r with
  |cons r cW=>
   unfold cZ at h
   dsimp only at h
   split at h
   ·rename_i aY e1
    exact toGs (pgs_cons Ho Hq hs) ⟨_,_,rfl,h1.run (.dat d) ρ aY aa G σ H _ e1 le en r _ λqx BA aoN=>h2.run ds aY cO aa G qx H _ h le BA cW Q λfS nZ aoO=>q fS nZ (aoN.app aoO)⟩
   ·cases h⟩
theorem qd {k n:Nat}(h1:DG X es ts g)(hc:X.calm=true)(hn:(assignEach es X.env).length=n:=by rfl)(eZ:(assignEach es X.env).findIdx? (·.1)=none:=by rfl):GT X (.Tuple es k pos) ts (gH n g):=⟨λs ρ cO aa G σ H v h le en r Q q=>by
 unfold gH at h;split at h
 ·rename_i ds
  split at h
  ·rename_i hl
   obtain⟨p,vs,e1,e2,e3⟩:=Dc (aa:=aa) le r rfl;subst e1;have e4:b8 X.K G vs ds:=bM.toRps e3;exact toG (pg_tup hc Hq hn eZ) ⟨p,vs,rfl,e2,by rw[e4.length,hl],h1.run ds ρ cO aa G σ H vs h le en e4 Q q⟩
  ·cases h
 ·cases h⟩
def dR:aN:=λρ=>ok (.nx ρ)
def iD (g:aN):bW->Ev bW
 | .nx ρ=>g ρ
 |r=>ok r
def aL (f g:aN):aN:=λρ=>(f ρ).bind (iD g)
def bL (i:Nat)(f:CE):aN:=λρ=>(f ρ).bind λs=>ok (.nx (ρ.set i s))
def xT (g:dX)(f:CE):aN:=λρ=>(f ρ).bind λs=>G_ ((g s ρ).map .nx)
def oA (i j:Nat)(f g:CE):aN:=λρ=>(f ρ).bind λs=>(g ρ).bind λt=>ok (.nx ((ρ.set i s).set j t))
def bT (f:CE):aN:=λρ=>(f ρ).bind λs=>ok (.rt s)
def f5 (f:CE):aN:=λρ=>(f ρ).bind λ_=>ok (.nx ρ)
def dj (c:cX)(f g:aN):aN:=λρ=>(c ρ).bind λb=>if b then f ρ else g ρ
def ud (vs:List Nat):bW->bW
 | .nx ρ=>.nx (dN ρ vs)
 | .bk ρ=>.bk (dN ρ vs)
 | .ct ρ=>.ct (dN ρ vs)
 |r=>r
def fJ (vs:List Nat)(f:aN):aN:=λρ=>(f ρ).bind λr=>ok (ud vs r)
theorem jv.set:∀{ρ r7:List af} (i:Nat),jv ρ r7->jv ρ (r7.set i .un)
 |[],[],_,h=>h
 |_::_,_::_,0,h=>⟨.inl rfl,h.2⟩
 |_::_,_::_,i+1,h=>⟨h.1,jv.set i h.2⟩
 |[],_::_,_,h=>h.elim
 |_::_,[],_,h=>h.elim
theorem jv.wipe (ρ:List af):∀vs:List Nat,jv ρ (dN ρ vs)
 |[]=>jv.refl ρ
 |v::vs=>(jv.wipe ρ vs).set v
theorem lA:SB X W [] dR:=⟨λρ M aa G σ H D ms en h=>toB pss_nil (h aa G H σ (aJ.refl _ _ _) ms en)⟩
theorem cB (h1:jk X W st fst)(h2:SB X W rT BS):SB X W (st::rT) (aL fst BS):=⟨λρ M aa G σ H D ms en h=>
 toB (pss_cons Zi xP) (h1.run ρ M aa G σ H {D with nx:=Dh X rT D} ms en (wp_mono (λr hr=>by
  cases r with
  |ex c fs M1=>exact hr
  |ok a M1=>
   cases a with
   |nx aY=>exactλay au H1 qx g1 m1 e1=>h2.run aY M1 ay au qx H1 D m1 e1 (wp_mono (λ_=>eN.shift g1) (show wp (BS aY M1) _ from hr))
   |rt s=>exact hr
   |bk aY=>exact hr
   |ct aY=>exact hr) (cL.mp h)))⟩
theorem cC (h1:jk X W st fst):SB X W [st] fst:=⟨λρ M aa G σ H D ms en h=>toB (pss_one Zi) (h1.run ρ M aa G σ H D ms en h)⟩
theorem gO {x:Str}{i:Nat}{vG:Pos}(F:pL X x i)(h1:bf X W e aE)(hs:swapsWith e (some (.Name x vG)) pos.line X.env=pure false:=by rfl):jk X W (.Assign [.Name x vG] e pos) (bL i aE):=⟨λρ M aa G σ H D ms en h=>
 toS (ps_set F.nd F.ix F.loc cS hs F.fn) (h1.lU ms en h λay au M1 H1 v s g1 m1 r1 aD=>aD ay au H1 _ (aJ.refl _ _ _) m1 ((en.grow g1).set r1))⟩
theorem aa6 (hg:GT X bV ts f)(h1:bf X W e aE)(hs:swapsWithSole [bV] e pos.line X.env=pure false:=by rfl)(hw:swappedStores [bV] e X.env=pure none:=by rfl)
    (ha:(assignEach [bV] X.env).map (·.2)=[assign bV X.env]:=by rfl):jk X W (.Assign [bV] e pos) (xT f aE):=⟨λρ M aa G σ H D ms en h=>
  toS (ps_asg cS Ho hs hw ha) (h1.lU ms en h λay au M1 H1 v s g1 m1 r1 aD=>by
    obtain⟨a,e1,q⟩:=aaJ.mp aD;cases hf:f s ρ with
    |none=>rw[hf]at e1;cases e1
    |some aY=>
      rw[hf]at e1;cases e1;exact hg.run s ρ aY ay au σ H1 v hf m1.le (en.grow g1) r1 D.nx λaZ oS _=>q ay au H1 aZ (aJ.refl _ _ _) m1 oS)⟩
theorem Qe {i j:Nat}{x y:Str}{vG py pt OJ:Pos}{kt k2}(F1:pL X x i)(F2:pL X y j)(h1:bf X W a aE)(h2:bf X W b bC)(hc:X.calm=true)(Vs:i≠j)(hx:X.env.scope.names.lookup x=some .local)(hy:X.env.scope.names.lookup y=some .local)
    (hs1:starEach [a,b] X.env=(false,eval a X.env)::starEach [b] X.env:=by rfl) (mQ:starEach [b] X.env=(false,eval b X.env)::starEach [] X.env:=by rfl)
    (hw:swappedStores [.Tuple [.Name x vG,.Name y py] kt pt] (.Tuple [a,b] k2 OJ) X.env=pure (some [x,y]):=by rfl)
    (hs:swapsWithSole [.Tuple [.Name x vG,.Name y py] kt pt] (.Tuple [a,b] k2 OJ) pos.line X.env=pure false:=by rfl):
    jk X W (.Assign [.Tuple [.Name x vG,.Name y py] kt pt] (.Tuple [a,b] k2 OJ) pos) (oA i j aE bC):=⟨λρ M aa G σ H D ms en h=>
  toS (ps_par hc F1.nd F1.ix F2.ix Vs hx hy (pa_cons cS (pa_cons cS pa_nil mQ) hs1) hw hs) (h1.lU ms en h λay au M1 H1 v s g1 m1 r1 aD=>h2.lU m1 (en.grow g1) aD λaU aV M2 aS v2 t g2 m2 r2 bK=>
    ⟨_,_,rfl,bK aU aV aS _ (aJ.refl _ _ _) m2 (((en.grow (g1.trans g2)).set (r1.grow g2)).set r2)⟩)⟩
theorem eH (h1:bf X W e aE):jk X W (.Return (some e) pos) (bT aE):=⟨λρ M aa G σ H D ms en h=>
 toS (ps_ret cS) (h1.lU ms en h λay au M1 H1 v s g1 m1 r1 aD=>aD ay au H1 v (aJ.refl _ _ _) m1 r1)⟩
theorem rR (h1:bf X W e aE)(hs:swapsWith e none pos.line X.env=pure false:=by rfl):jk X W (.Expr e pos) (f5 aE):=⟨λρ M aa G σ H D ms en h=>
 toS (ps_expr cS hs) (h1.lU ms en h λay au M1 H1 v s g1 m1 r1 aD=>aD ay au H1 σ (aJ.refl _ _ _) m1 (en.grow g1))⟩
theorem kg (h0:ST X W e cA)(h1:SB X W body fst)(h2:SB X W orelse BS):jk X W (.If e body orelse pos) (dj cA fst BS):=⟨λρ M aa G σ H D ms en h=>
 toS (ps_if uA xP xP) (h0.lU ms en h λay au M1 H1 k g1 m1 aD=>by
  cases k with
  |true=>exact iteT (h1.run ρ M1 ay au σ H1 D m1 (en.grow g1) aD)
  |false=>exact iteF (h2.run ρ M1 ay au σ H1 D m1 (en.grow g1) aD))⟩
inductive Its:Type where
 |data (ds:List D)
 |live (n:Nat) (item:List ak->Nat->Option af) (fin:List ak->Bool)
def Its.n:Its->Nat
 | .data ds=>ds.length
 | .live n _ _=>n
def Its.at_:Its->List ak->Nat->Option af
 | .data ds,_,i=>ds[i]?.map .dat
 | .live _ f _,M,i=>f M i
def Its.end_:Its->List ak->Bool
 | .data _,_=>true
 | .live _ _ f,M=>f M
structure g8 (aa:List Addr)(G:Hp)(aq:List Addr)(aj:Hp):Prop where
 ex:cG G aj
 pre:∃more,aq=aa++more
theorem aJ.gZ {aa aq:List Addr}{G H aj H':Hp}(g:aJ aa G H aq aj H'):g8 aa G aq aj:=⟨g.ex,let⟨m,e,_⟩:=g.pre;⟨m,e⟩⟩
theorem g8.refl (aa:List Addr)(G:Hp):g8 aa G aa G:=⟨cG.refl G,[],by simp⟩
theorem g8.trans {aa ay aU:List Addr}{G au aV:Hp}(a:g8 aa G ay au)(b:g8 ay au aU aV):g8 aa G aU aV:=⟨a.ex.trans b.ex,let⟨m,e⟩:=a.pre;let⟨n,f⟩:=b.pre;⟨m++n,by rw[f,e,List.append_assoc]⟩⟩
theorem g8.get {aa aq:List Addr}{G aj:Hp}(g:g8 aa G aq aj){j:Nat}{a:Addr}(h:aa[j]?=some a):aq[j]?=some a:=by
 obtain⟨m,e⟩:=g.pre;rw[e,List.getElem?_append_left (List.getElem?_eq_some_iff.mp h).1];exact h
theorem cz.gZ {K:Frag}{aa aq:List Addr}{G aj:Hp}{σ:L2.St}{ρ:List af}(h:cz K aa G σ ρ)(g:g8 aa G aq aj):cz K aq aj σ ρ:=⟨h.len,λi s e=>(h.at_ i s e).elim .inl λ⟨v,e1,r⟩=>.inr ⟨v,e1,r.mono g.ex λ_ _=>g.get⟩⟩
structure nV (K:Frag)(J:It)(its:Its)(aa:List Addr)(G:Hp):Prop where
 goes:∀i aq aj az H',i<its.n->g8 aa G aq aj->aK K aq aj az H'->(its.at_ az i).isSome=true->J.go i H'
 stops:∀aq aj az H',g8 aa G aq aj->aK K aq aj az H'->its.end_ az=true->J.stop its.n H'
 yld:∀(i:Nat) aq aj az H' x aS s,i<its.n->g8 aa G aq aj->aK K aq aj az H'->its.at_ az i=some s->J.yld i H' x aS->∃Gc,Pure aj H' Gc aS/\bF K aq Gc x s
abbrev jt:Type:=List af->Ev Its
structure pP (X:Cx)(W:WX)(bV it:Expr)(f:jt):Prop where
 run:∀ρ M aa G σ H (R:It->Hp->Prop),aK X.K aa G M H->cz X.K aa G σ ρ->wp (f ρ M) (dB X W (λaq aj J its=>nV X.K J its aq aj) R σ aa G H)->Dk X bV it σ H R
def nh (k:List af->Ev bW):bW->Ev bW
 | .nx ρ=>k ρ
 | .ct ρ=>k ρ
 | .bk ρ=>ok (.nx ρ)
 | .rt s=>ok (.rt s)
def gv (g:dX)(b:aN):List D->aN
 |[],ρ=>ok (.nx ρ)
 |d::ds,ρ=>match g (.dat d) ρ with
  |some aY=>(b aY).bind (nh (gv g b ds))
  |none=>bad
def forL (item:List ak->Nat->Option af)(fin:List ak->Bool)(g:dX)(b:aN):Nat->Nat->aN
 |0,i,ρ=>λM=>if fin M then .ret (.ok (.nx ρ) M)else .bad
 |n+1,i,ρ=>λM=>match item M i with
  |none=>.bad
  |some s=>match g s ρ with
   |some aY=>(b aY).bind (nh (forL item fin g b n (i+1))) M
   |none=>.bad
def fR (fi:jt)(g:dX)(b:aN):aN:=λρ=>Ev.bind (fi ρ) λits=>match its with
 | .data ds=>gv g b ds ρ
 | .live n item fin=>forL item fin g b n 0 ρ
def tL (c:cX)(b:aN):Nat->aN
 |0,_=>bad
 |n+1,ρ=>(c ρ).bind λk=>if k then(b ρ).bind (nh (tL c b n))else ok (.nx ρ)
def HM (c:cX)(b:aN):aN:=tL c b 200
def zY (its:Its)(g:dX)(b:aN)(i:Nat):aN:=match its with
 | .data ds=>gv g b (ds.drop i)
 | .live n item fin=>forL item fin g b (n-i) i
theorem alj {its:Its}{g:dX}{b:aN}{i:Nat}{ρ:List af}{M:List ak}{Q:Re bW->Prop}(hi:i<its.n)(h:wp (zY its g b i ρ M) Q):∃s aY,its.at_ M i=some s/\g s ρ=some aY/\wp ((b aY).bind (nh (zY its g b (i+1))) M) Q:=by
 cases its with
 |data ds=>
  have hi:i<ds.length:=hi;have h:wp (gv g b (ds.drop i) ρ M) Q:=h;rw[List.drop_eq_getElem_cons hi]at h;cases e:g (.dat ds[i]) ρ with
  |none=>simp only[gv,e]at h;exact h.elim
  |some aY=>
   simp only[gv,e]at h;exact⟨_,aY,by show ds[i]?.map af.dat=_;rw[List.getElem?_eq_getElem hi];rfl,e,h⟩
 |live n item fin=>
  have hi:i<n:=hi;have h:wp (forL item fin g b (n-i) i ρ M) Q:=h;obtain⟨m,hm⟩:∃m,n-i=m+1:=⟨n-i-1,by omega⟩;rw[hm]at h;cases e:item M i with
  |none=>simp only[forL,e]at h;exact h.elim
  |some s=>
   cases e1:g s ρ with
   |none=>simp only[forL,e,e1]at h;exact h.elim
   |some aY=>
    simp only[forL,e,e1]at h;refine⟨s,aY,e,e1,?_⟩;have:n-(i+1)=m:=by omega
    show wp ((b aY).bind (nh (forL item fin g b (n-(i+1)) (i+1))) M) Q
    rw[this];exact h
theorem ali {its:Its}{g:dX}{b:aN}{ρ:List af}{M:List ak}{Q:Re bW->Prop}(h:wp (zY its g b its.n ρ M) Q):its.end_ M=true/\Q (.ok (.nx ρ) M):=by
 cases its with
 |data ds=>
  have h:wp (gv g b (ds.drop ds.length) ρ M) Q:=h;rw[List.drop_length]at h;exact⟨rfl,h⟩
 |live n item fin=>
  have h:wp (forL item fin g b (n-n) n ρ M) Q:=h;rw[Nat.sub_self]at h;cases e:fin M with
  |false=>simp only[forL,e]at h;exact h.elim
  |true=>simp only[forL,e]at h;exact⟨e,h⟩
theorem UE {k:List af->Ev bW}{D:Ends}{N:L2.St->Hp->Prop}{aa ay:List Addr}{G H au H1:Hp}{r:Re bW}(g1:aJ aa G H ay au H1)(h:wp (aX (nh k) r) (eN X W D aa G H))
    (hn:∀iT M2,wp (k iT M2) (eN X W D aa G H)->∀aq aj H' aZ,aJ ay au H1 aq aj H'->aK X.K aq aj M2 H'->cz X.K aq aj aZ iT->N aZ H'):eN X W {D with nx:=N,ct:=N,bk:=D.nx} ay au H1 r:=by
  cases r with
  |ex c fs M1=>exact eN.shift (r:=.ex c fs M1) g1 h
  |ok a M1=>
    cases a with
    |nx aY=>exact hn aY M1 h
    |ct aY=>exact hn aY M1 h
    |bk aY=>exact eN.shift (r:=.ok (.nx aY) M1) g1 h
    |rt s=>exact eN.shift (r:=.ok (.rt s) M1) g1 h
theorem pB {fi:jt}{bd:aN}(hi:pP X W bV it fi)(hg:GT X bV ts f)(hb:SB X W body bd)(hp:PassesOwn (model X.prog X.w) X.A X.env X.xe)(hc:X.calm=true)(hs:∀x,foldedSetIterable it X.env x=pure x:=by intro _;rfl):
    jk X W (.For bV it body [] pos) (fR fi f bd):=⟨λρ M aa G σ H D ms en h=>by
  refine toS (ps_for hp hc Hr Ho xP hs) (hi.run ρ M aa G σ H _ ms en (wp_mono (λr hr=>?_) (cL.mp h)));cases r with
  |ex c fs M1=>exact hr σ
  |ok its M1=>
    intro ay au H1 J g1 m1 i7;have h0:wp (zY its f bd 0 ρ M1) (eN X W D aa G H):=by
      cases its with
      |data ds=>exact hr
      |live n item fin=>exact hr
    refine⟨λi m aZ H'=>m=its.n-i/\i<=its.n/\∃aq aj az cO,aJ ay au H1 aq aj H'/\aK X.K aq aj az H'/\cz X.K aq aj aZ cO/\wp (zY its f bd i cO az) (eN X W D aa G H),⟨its.n,by simp,Nat.zero_le _,ay,au,M1,ρ,aJ.refl _ _ _,m1,en.grow g1,h0⟩,?_⟩
    rintro i m aZ H' ⟨rfl,hle,aq,aj,az,cO,eg,xE,oS,ii⟩
    by_cases hlt:i<its.n
    · obtain⟨s,aY,e1,e2,e3⟩:=alj hlt ii
      refine .inr ⟨i7.goes i aq aj az H' hlt eg.gZ xE (by rw[e1];rfl),λfS aS=>∃aq aj az cO,aJ ay au H1 aq aj aS/\aK X.K aq aj az aS/\cz X.K aq aj fS cO/\wp (zY its f bd (i+1) cO az) (eN X W D aa G H),λfS aS z=>⟨its.n-(i+1),by omega,rfl,hlt,z⟩,λx aS y=>?_⟩;obtain⟨Gc,pu,r⟩:=i7.yld i aq aj az H' x aS s hlt eg.gZ xE e1 y;have g2:=eg.trans (pu.grow (aa:=aq));refine hg.run s cO aY aq Gc aZ aS x e2 pu.le (oS.grow (pu.grow (aa:=aq))) r _ λtQ Le _=>?_
      refine hb.run aY az aq Gc tQ aS _ (xE.pure pu) Le (wp_mono (λr hr=>UE (g1.trans g2) hr λiT M2 hk pH pI lD ab2 ni m4 e4=>⟨pH,pI,M2,iT,g2.trans ni,m4,e4,hk⟩) (cL.mp e3))
    · have e:i=its.n:=by omega
      subst e;obtain⟨e1,e2⟩:=ali ii;exact .inl ⟨i7.stops aq aj az H' eg.gZ xE e1,e2 _ _ _ _ (g1.trans eg) xE oS⟩⟩
theorem aod {bd:aN}(h0:ST X W e cA)(hb:SB X W body bd)(hp:PassesOwn (model X.prog X.w) X.A X.env X.xe):jk X W (.While e body [] pos) (HM cA bd):=⟨λρ M aa G σ H D ms en h=>by
 refine toS (ps_while hp uA xP) ⟨λm aZ H'=>∃aq aj az cO,aJ aa G H aq aj H'/\aK X.K aq aj az H'/\cz X.K aq aj aZ cO/\wp (tL cA bd m cO az) (eN X W D aq aj H'),⟨200,aa,G,M,ρ,aJ.refl _ _ _,ms,en,h⟩,?_⟩
 rintro m aZ H' ⟨aq,aj,az,cO,eg,xE,oS,ii⟩
 cases m with
 |zero=>exact(show False from ii).elim
 |succ m=>
  refine h0.lU xE oS ii λaU aV M2 aS k g2 m2 bK=>?_
  cases k with
  |false=>exact bK aU aV aS _ (aJ.refl _ _ _) m2 (oS.grow g2)
  |true=>
   refine⟨λtQ fh=>∃dO er ck IC,aJ aa G H dO er fh/\aK X.K dO er ck fh/\cz X.K dO er tQ IC/\wp (tL cA bd m IC ck) (eN X W D dO er fh),λtQ fh ⟨dO,er,ck,IC,ir,f7,pF,Dz⟩=>⟨m,Nat.lt_succ_self m,dO,er,ck,IC,ir,f7,pF,Dz⟩,?_⟩;have bK:wp (Ev.bind (bd cO) (nh (tL cA bd m)) M2) (eN X W D aU aV aS):=bK;exact hb.run cO M2 aU aV aZ aS _ m2 (oS.grow g2) (wp_mono (λr hr=>UE (aJ.refl _ _ _) hr λiT ck hk pH pI lD ab2 ni m4 e4=>⟨pH,pI,ck,iT,(eg.trans g2).trans ni,m4,e4,wp_mono (λ_=>eN.shift ni) hk⟩) (cL.mp bK))⟩
end
def g5 {α:Type}:Re α->T (Re α)
 | .ok a M=>.ret (.ok a M)
 | .ex _ _ _=>.bad
def eT {α:Type}(m:Ev α):Ev α:=λM=>(m M).bind g5
theorem x7 {α:Type}{m:Ev α}{M:List ak}{Q:Re α->Prop}(h:wp (eT m M) Q):wp (m M) λr=>∃a az,r=.ok a az/\Q (.ok a az):=
 wp_mono (λr hr=>by
  cases r with
  |ok a az=>exact⟨a,az,rfl,hr⟩
  |ex c fs az=>exact hr.elim) (wp_bind.mp h)
def frz (s:af):Ev D:=ofM λM=>iJ M s
def pW (turn:af->Ev (List D)):List D->Ev (List D)
 |[]=>ok []
 |d::ds=>Ev.bind (turn (.dat d)) λa=>Ev.bind (pW turn ds) λb=>ok (a++b)
def pX (item:List ak->Nat->Option af)(fin:List ak->Bool)(turn:af->Ev (List D)):Nat->Nat->Ev (List D)
 |0,i=>λM=>if fin M then .ret (.ok [] M)else .bad
 |n+1,i=>λM=>match item M i with
  |none=>.bad
  |some s=>Ev.bind (turn s) (λa=>Ev.bind (pX item fin turn n (i+1)) λb=>ok (a++b)) M
def gS (its:Its)(turn:af->Ev (List D))(i:Nat):Ev (List D):=match its with
 | .data ds=>pW turn (ds.drop i)
 | .live n item fin=>pX item fin turn (n-i) i
def jr (g:dX)(t:cX)(e:CE)(ρ:List af):af->Ev (List D):=λs=>match g s ρ with
 |some aY=>Ev.bind (eT (t aY)) λk=>if k then Ev.bind (eT (Ev.bind (e aY) frz)) λd=>ok [d]else ok []
 |none=>bad
def vS (g:dX)(t:cX)(ng:jt)(vs1:List Nat)(g1:dX)(t1:cX)(e:CE)(ρ:List af):af->Ev (List D):=λs=>match g s ρ with
 |some aY=>Ev.bind (eT (t aY)) λk=>if k then Ev.bind (eT (ng aY)) λits=>if its.n<=4000 then gS its (jr g1 t1 e (dN aY vs1)) 0 else bad else ok []
 |none=>bad
def cV (m:Bool)(own:List Nat)(fi:jt)(g:dX)(t:cX)(e:CE):CE:=λρ=>Ev.bind (fi ρ) λits=>if its.n<sizeLine then Ev.bind (gS its (jr g t e (dN ρ own)) 0) λds=>ofM λM=>some (d9 m M ds)else bad
def Bt (m:Bool)(own:List Nat)(fi:jt)(g:dX)(t:cX)(ng:jt)(vs1:List Nat)(g1:dX)(t1:cX)(e:CE):CE:=λρ=>Ev.bind (fi ρ) λits=>if its.n<=4000 then Ev.bind (gS its (vS g t ng vs1 g1 t1 e (dN ρ own)) 0) λds=>ofM λM=>some (d9 m M ds)else bad
def fc:cX:=λ_=>ok true
abbrev m5:WX:=λ_ _ _ _=>False
theorem K0 {its:Its}{turn:af->Ev (List D)}{i:Nat}{M:List ak}{Q:Re (List D)->Prop}(hi:i<its.n)(h:wp (gS its turn i M) Q):∃s,its.at_ M i=some s/\wp (Ev.bind (turn s) (λa=>Ev.bind (gS its turn (i+1)) λb=>ok (a++b)) M) Q:=by
 cases its with
 |data ds=>
  have hi:i<ds.length:=hi;have h:wp (pW turn (ds.drop i) M) Q:=h;rw[List.drop_eq_getElem_cons hi]at h;exact⟨_,by show ds[i]?.map af.dat=_;rw[List.getElem?_eq_getElem hi];rfl,h⟩
 |live n item fin=>
  have hi:i<n:=hi;have h:wp (pX item fin turn (n-i) i M) Q:=h;obtain⟨m,hm⟩:∃m,n-i=m+1:=⟨n-i-1,by omega⟩;rw[hm]at h;cases e:item M i with
  |none=>simp only[pX,e]at h;exact h.elim
  |some s=>
   simp only[pX,e]at h;refine⟨s,e,?_⟩;have:n-(i+1)=m:=by omega
   show wp (Ev.bind (turn s) (λa=>Ev.bind (pX item fin turn (n-(i+1)) (i+1)) λb=>ok (a++b)) M) Q
   rw[this];exact h
theorem KZ {its:Its}{turn:af->Ev (List D)}{M:List ak}{Q:Re (List D)->Prop}(h:wp (gS its turn its.n M) Q):its.end_ M=true/\Q (.ok [] M):=by
 cases its with
 |data ds=>
  have h:wp (pW turn (ds.drop ds.length) M) Q:=h;rw[List.drop_length]at h;exact⟨rfl,h⟩
 |live n item fin=>
  have h:wp (pX item fin turn (n-n) n M) Q:=h;rw[Nat.sub_self]at h;cases e:fin M with
  |false=>simp only[pX,e]at h;exact h.elim
  |true=>simp only[pX,e]at h;exact⟨e,h⟩
def lX (acc:List D)(k:List D->List ak->Prop):Re (List D)->Prop
 | .ok b M=>k (acc++b) M
 | .ex _ _ _=>True
theorem Ow {its:Its}{turn:af->Ev (List D)}{i:Nat}{M:List ak}{acc:List D}{k:List D->List ak->Prop}{m:Ev (List D)}(h:wp (Ev.bind m (λa=>Ev.bind (gS its turn (i+1)) λb=>ok (a++b)) M) (lX acc k)):
    wp (m M) (lX acc λkI az=>wp (gS its turn (i+1) az) (lX kI k)):=wp_mono (λr hr=>by
  cases r with
  |ex c fs M1=>trivial
  |ok a M1=>
    refine wp_mono (λr hr=>?_) (cL.mp (show wp (Ev.bind (gS its turn (i+1)) (λb=>ok (a++b)) M1) _ from hr));cases r with
    |ex c fs M2=>trivial
    |ok b M2=>
      have z:k (acc++(a++b)) M2:=hr;show k ((acc++a)++b) M2
      rw[List.append_assoc];exact z) (cL.mp h)
abbrev Cx.dP (X:Cx)(scope:Scope)(s:Shared)(H:Hp)(C:Addr)(cl:List (Str×Addr))(bQ:List Addr):Cx:=X.blk s H scope (compEnvC scope cl C X.env) bQ
theorem NU {K:Frag}{aa:List Addr}{G H:Hp}{bD:Addr}{o:HO}(ms:aK K aa G M H)(h:bD∉aa)(g:G bD=none):aK K aa G M (upd H bD o):=by
 refine⟨λa u e=>?_,ms.len,ms.nd,λj a m e1 e2=>?_,λa ha=>?_⟩
 ·have:a≠bD:=λz=>by rw[z,g]at e;cases e
  rw[upd_ne this];exact ms.le a u e
 ·have:a≠bD:=λz=>h (z▸List.mem_of_getElem? e1)
  obtain⟨q1,q2⟩:=ms.mo j a m e1 e2;exact⟨q1,q2.mono (cG.refl G) (λ_ _ z=>z) (upd_ne this)⟩
 ·have:a≠bD:=λz=>h (z▸ha)
  rw[upd_ne this];exact ms.fk a ha
theorem LJ {aa aq:List Addr}{G H aj H':Hp}{bD:Addr}{o:HO}(g:aJ aa G H aq aj H')(h:H bD=none):aJ aa G H aq aj (upd H' bD o):=by
 refine⟨g.ex,g.pre,λa u e n=>?_,g.l5,λa e=>?_⟩
 ·rw[upd_ne (ne_of_none e h)];exact g.fr a u e n
 ·by_cases q:a=bD
  ·subst q;exact absurd h e
  ·rw[upd_ne q];exact g.fk a e
theorem ajL {K:Frag}{aa:List Addr}{G H:Hp}{bD:Addr}{o:HO}(ms:aK K aa G M H)(h:bD∉aa)(g:G bD=none)(e:H bD=some o):aK K aa (upd G bD o) M H:=by
 have ex:cG G (upd G bD o):=cG.new g;refine⟨λa u q=>?_,ms.len,ms.nd,λj a m e1 e2=>?_,ms.fk⟩
 ·by_cases z:a=bD
  ·subst z;rw[upd_same]at q;cases q;exact .inl e
  ·rw[upd_ne z]at q;exact ms.le a u q
 ·have:a≠bD:=λz=>h (z▸List.mem_of_getElem? e1)
  obtain⟨q1,q2⟩:=ms.mo j a m e1 e2;exact⟨λz=>by rw[upd_ne this];exact q1 z,q2.mono ex (λ_ _ z=>z) rfl⟩
theorem afc {aa aq:List Addr}{G H aj H':Hp}{bD:Addr}{o:HO}(g:aJ aa G H aq aj H')(h:H bD=none)(h':aj bD=none):aJ aa G H aq (upd aj bD o) H':=
 ⟨g.ex.trans (cG.new h'),g.pre,g.fr,λa e n=>by
  have:a≠bD:=λz=>e (z▸h)
  unfold Same;rw[upd_ne this];exact g.l5 a e n,g.fk⟩
theorem Fl {aa aq:List Addr}{G H aj H':Hp}{bD:Addr}{o:HO}(g:aJ aa G H aq aj H')(h:bD∉aa)(hg:G bD=none)(e:H bD=some o)(akh:∀xs,o≠.tup xs:=by intro _ z;cases z):bD∉aq/\aj bD=none/\H' bD=some o:=by
 obtain⟨more,e1,e2⟩:=g.pre;refine⟨λz=>?_,by rw[(g.l5 bD (by rw[e];simp) h).old e akh];exact hg,g.fr bD o e h⟩;rw[e1]at z;rcases List.mem_append.mp z with z|z
 ·exact h z
 ·have:=e2 bD z
  rw[e]at this;cases this
theorem aaE {σ:L2.St}{i:Nat}:∀ws:List Nat,i∈ws->(wipe σ ws).set i none=wipe σ ws
 |[],h=>by simp at h
 |w::ws,h=>by
  unfold L2.wipe;by_cases hi:i∈ws
  ·by_cases e:w=i
   ·subst e;rw[List.set_set]
   ·rw[List.set_comm _ _ e,aaE ws hi]
  ·have e:i=w:=by simpa[hi]using h
   subst e;rw[List.set_set]
theorem aaG (σ:L2.St)(ws:List Nat):∀vs:List Nat,(∀i∈vs,i∈ws)->wipe (wipe σ ws) vs=wipe σ ws
 |[],_=>rfl
 |v::vs,h=>by
  show(wipe (wipe σ ws) vs).set v none=wipe σ ws
  rw[aaG σ ws vs λi hi=>h i (List.mem_cons_of_mem _ hi)];exact aaE ws (h v List.mem_cons_self)
theorem aaH (σ:L2.St)(ws:List Nat):wipe (wipe σ ws) ws=wipe σ ws:=aaG σ ws ws λ_ h=>h
structure pQ (X:Cx)(ifs:List Expr)(f:cX):Prop where
 run:∃t,PTs X ifs t/\∀ρ M aa G σ H (Q:Bool->Hp->Prop),aK X.K aa G M H->cz X.K aa G σ ρ->wp (eT (f ρ) M) (dB X m5 yw Q σ aa G H)->t σ H Q
section
variable{X:Cx}{W:WX}{c bV it elt xY Cb:Expr}{ifs FQ:List Expr}{ts C_:List Nat}{g g1:dX}{t t1:cX}{e:CE}{fi ng:jt}{scope:Scope}{own:List (Str×Nat)}{vs1:List Nat}{pos:Pos}
theorem rO:pQ X [] fc:=⟨_,pts_nil,λρ M aa G σ H Q ms en h=>h aa G H _ (aJ.refl _ _ _) ms rfl⟩
theorem rP (h:ST X m5 c t):pQ X [c] t:=⟨_,pts_one uA,λρ M aa G σ H Q ms en w=>h.run ρ M aa G σ H Q ms en (wp_mono (λr ⟨a,az,e1,q⟩=>by rw[e1];exact q) (x7 w))⟩
def BL (X:Cx)(scope:Scope)(bV:Expr):TG:=λv σ H Q=>∀s cE C cl bQ,Di (Cx.dP X scope s cE C cl bQ) bV v σ H Q
def R8 (X:Cx)(ifs:List Expr):TT:=λσ H Q=>∃t,PTs X ifs t/\t σ H Q
theorem al9 {ifs:List Expr}:PTs X ifs (R8 X ifs):=⟨λpins s σ H Q I ⟨t,h1,h2⟩=>h1.run pins s σ H Q I h2⟩
def C5 (X:Cx)(scope:Scope)(ifs:List Expr):TT:=λσ H Q=>∀s cE C cl bQ,R8 (Cx.dP X scope s cE C cl bQ) ifs σ H Q
def EO (X:Cx)(scope:Scope)(e:Expr):TE:=λσ H Q=>∀s cE C cl bQ,wE (Cx.dP X scope s cE C cl bQ) e σ H Q
def VI (X:Cx)(scope:Scope)(bV it:Expr):TI:=λσ H R=>∀s cE C cl bQ,Dk (Cx.dP X scope s cE C cl bQ) bV it σ H R
theorem akS (s cE C cl bQ):PI (Cx.dP X scope s cE C cl bQ) bV it (VI X scope bV it):=⟨λpins aF _ _ _ I h=>h s cE C cl bQ pins aF I⟩
theorem Hl (s cE C cl bQ):PG (Cx.dP X scope s cE C cl bQ) bV (BL X scope bV):=⟨λpins aF _ _ _ u _ I r h=>h s cE C cl bQ pins aF u I r⟩
theorem Hy (s cE C cl bQ):PTs (Cx.dP X scope s cE C cl bQ) ifs (C5 X scope ifs):=⟨λpins aF σ H Q I h=>al9.run pins aF σ H Q I (h s cE C cl bQ)⟩
theorem Ox (s cE C cl bQ):PE (Cx.dP X scope s cE C cl bQ) elt (EO X scope elt):=⟨λpins aF _ _ _ I h=>h s cE C cl bQ pins aF I⟩
structure Acc (K:Frag)(bD:Addr)(ay:List Addr)(au H1:Hp)(acc:List D)(aq:List Addr)(aj:Hp)(az:List ak)(H':Hp):Prop where
 g_:aJ ay au H1 aq aj H'
 out:bD∉aq
 qb:aj bD=none
 ms:aK K aq aj az H'
 at_:∃vs,H' bD=some (.lst vs)/\b8 K aj vs acc
theorem Acc.grow {K:Frag}{bD:Addr}{ay aq aU:List Addr}{au H1 aj H' aV aS:Hp}{acc:List D}{az M2:List ak}(a:Acc K bD ay au H1 acc aq aj az H')(g:aJ aq aj H' aU aV aS)(m:aK K aU aV M2 aS):Acc K bD ay au H1 acc aU aV M2 aS:=by
 obtain⟨vs,hv,b6⟩:=a.at_;obtain⟨n2,BR,dH⟩:=Fl g a.out a.qb hv;exact⟨a.g_.trans g,n2,BR,m,vs,dH,b6.mono g.ex⟩
theorem Acc.push {K:Frag}{bD:Addr}{ay aq:List Addr}{au H1 aj H':Hp}{acc:List D}{az:List ak}{v:V}{d:D}(hD:H1 bD=none)(a:Acc K bD ay au H1 acc aq aj az H')(r:cg K aj v d)(hl:acc.length<sizeLine):
    ∃vs,H' bD=some (.lst vs)/\vs.length<sizeLine/\Acc K bD ay au H1 (acc++[d]) aq aj az (upd H' bD (.lst (vs++[v]))):=by
  obtain⟨vs,hv,b6⟩:=a.at_;exact⟨vs,hv,by rw[b6.length];exact hl,LJ a.g_ hD,a.out,a.qb,NU a.ms a.out a.qb,vs++[v],upd_same,b6.append (.cons r .nil)⟩
theorem YR {bD:Addr}{ay aq:List Addr}{au H1 aj H':Hp}{acc:List D}{az:List ak}{s:af}{ρ:List af}{ID:L2.St}{x:V}{k:List D->List ak->Prop}{jw:Hp->Prop}{os:List Nat}(hD:H1 bD=none)
    (hg:∀s cE C cl bQ,GT (Cx.dP X scope s cE C cl bQ) bV ts g) (jH:∀i∈ts,i∈os) (ht:∀s cE C cl bQ,pQ (Cx.dP X scope s cE C cl bQ) ifs t) (he:∀s cE C cl bQ,bf (Cx.dP X scope s cE C cl bQ) m5 elt e)
    (a:Acc X.K bD ay au H1 acc aq aj az H') (en:cz X.K aq aj (wipe ID os) ρ) (r:bF X.K aq aj x s) (hl:acc.length<sizeLine) (w:wp (jr g t e ρ s az) (lX acc k))
    (fin:∀aU aV M2 aS kI,kI.length<=acc.length+1->g8 aq aj aU aV->Acc X.K bD ay au H1 kI aU aV M2 aS->k kI M2->jw aS):
    BL X scope bV x (wipe ID os) H' λfS aS=>wipe fS os=wipe ID os/\C5 X scope ifs fS aS λb fh=>if b=true then EO X scope elt fS fh λy lD=>∃acc,lD bD=some (.lst acc)/\acc.length<sizeLine/\jw (upd lD bD (.lst (acc++[y])))else jw fh:=by
  cases qT:g s ρ with
  |none=>simp only[jr,qT]at w;exact w.elim
  |some aY=>
    simp only[jr,qT]at w;intro s0 cE C cl bQ;refine(hg s0 cE C cl bQ).run s ρ aY aq aj (wipe ID os) H' x qT a.ms.le en r _ λfS nZ Qm=>⟨by rw[Qm _ jH];exact aaH _ _,λs1 IX IJ KL Lp=>?_⟩
    obtain⟨tt,Mu,xh⟩:=(ht s1 IX IJ KL Lp).run;refine⟨tt,Mu,xh aY az aq aj fS H' _ a.ms nZ ?_⟩;have aD:=cL.mp w;refine wp_bind.mpr (wp_mono (λr hr=>?_) (x7 aD));obtain⟨b,M2,rfl,hr⟩:=hr;intro aU aV aS wA g2 m2 hb;have hb:wA=b:=hb;subst hb;have a2:=a.grow g2 m2;cases wA with
    |false=>
      exact iteF (fin aU aV M2 aS acc (Nat.le_succ _) g2.gZ a2 (by have z:k (acc++[]) M2:=hr;rw[List.append_nil]at z;exact z))
    |true=>
      refine iteT λs4 lD IK KO Lq=>?_
      have hr:wp (Ev.bind (eT (Ev.bind (e aY) frz)) (λd=>ok [d]) M2) (lX acc k):=hr;refine(he s4 lD IK KO Lq).run aY M2 aU aV fS aS _ m2 (nZ.grow g2) (wp_mono (λr hr=>?_) (cL.mp (x7 (cL.mp hr))));cases r with
      |ex c fs ck=>obtain⟨_,_,z,_⟩:=hr;cases z
      |ok aom ck=>
        intro dO er fh v g3 m3 r3;obtain⟨d,we,ef,b2,uT,E2,q⟩:=ji.mp (show wp (ofM (λM=>iJ M aom) ck) _ from hr);cases E2
        obtain⟨pI,m4,ni,qk⟩:=wZ m3 r3 ef;have a4:=a2.grow (g3.trans ni) m4;obtain⟨vs,e1,e2,e3⟩:=a4.push hD qk hl;exact⟨vs,e1,e2,fin dO pI we _ (acc++[d]) (by simp) (g2.trans (g3.trans ni)).gZ e3 q⟩
theorem AL {bD:Addr}{aa ay aq:List Addr}{G au H H1 aj H':Hp}{acc:List D}{az:List ak}{m:Bool}{Q:VK}(hD:H1 bD=none)(g1:aJ aa G H ay au H1)(a:Acc X.K bD ay au H1 acc aq aj az H')
    (q:∀aU aV aS v,aJ aa G H aU aV aS->aK X.K aU aV (d9 m az acc).2 aS->bF X.K aU aV v (d9 m az acc).1->Q v aS):Q (.ref bD) H':=by
  obtain⟨vs,hv,b6⟩:=a.at_;cases m with
  |false=>exact q aq (upd aj bD (.lst vs)) H' _ (g1.trans (afc a.g_ hD a.qb)) (ajL a.ms a.out a.qb hv) (ZO upd_same (b6.mono (cG.new a.qb)))
  |true=>
    have ms:=a.ms;have look:∀(j:Nat) b,aq[j]?=some b->(aq++[bD])[j]?=some b:=λj b e=>by
      rw[List.getElem?_append_left (List.getElem?_eq_some_iff.mp e).1];exact e
    have m2:aK X.K (aq++[bD]) aj (az++[.lst (acc.map .dat)]) H':=by
      refine⟨ms.le,by simp[ms.len],?_,λj b NS e1 e2=>?_,λb hb=>?_⟩
      · rw[List.nodup_append]
        refine⟨ms.nd,by simp,λb hb c hc=>?_⟩;have:c=bD:=by simpa using hc
        subst this;exactλz=>a.out (z▸hb)
      · by_cases hj:j<aq.length
        · rw[List.getElem?_append_left hj]at e1
          rw[List.getElem?_append_left (by rw[<-ms.len];exact hj)]at e2;obtain⟨q1,q2⟩:=ms.mo j b NS e1 e2;exact⟨q1,q2.mono (cG.refl aj) look rfl⟩
        · rw[List.getElem?_append_right (by omega)]at e1
          rw[List.getElem?_append_right (by rw[<-ms.len];omega)]at e2;have z:j-aq.length=0:=by
            cases hz:j-aq.length with
            |zero=>rfl
            |succ n=>rw[hz]at e1;simp at e1
          rw[z]at e1;rw[<-ms.len,z]at e2;simp at e1 e2;subst e1 e2;exact⟨λ_=>a.qb,vs,hv,bM.zP b6⟩
      · rcases List.mem_append.mp hb with z|z
        · exact ms.fk b z
        · have:b=bD:=by simpa using z
          subst this;rw[hv];simp
    have g2:aJ ay au H1 (aq++[bD]) aj H':=by
      obtain⟨more,e1,e2⟩:=a.g_.pre;refine⟨a.g_.ex,⟨more++[bD],by rw[e1,List.append_assoc],λb hb=>?_⟩,a.g_.fr,a.g_.l5,a.g_.fk⟩;rcases List.mem_append.mp hb with z|z
      · exact e2 b z
      · have:b=bD:=by simpa using z
        subst this;exact hD
    exact q (aq++[bD]) aj H' _ (g1.trans g2) m2 (CM (by rw[<-ms.len,List.getElem?_append_right (Nat.le_refl _),Nat.sub_self];rfl))
theorem DV {bD:Addr}{ay:List Addr}{au H1:Hp}{M1:List ak}(hD:H1 bD=none)(ms:aK X.K ay au M1 H1):Acc X.K bD ay au H1 [] ay au M1 (upd H1 bD (.lst [])):=by
 have Yd:bD∉ay:=λz=>ms.fk bD z hD
 have Fe:au bD=none:=by
  cases q:au bD with
  |none=>rfl
  |some u=>rcases ms.le bD u q with z|⟨_,_,z⟩<;>rw[hD]at z<;>cases z
 exact⟨LJ (aJ.refl _ _ _) hD,Yd,Fe,NU ms Yd Fe,[],upd_same,.nil⟩
theorem Xu {its:Its}{ay:List Addr}{au H1:Hp}{M1:List ak}{σ:L2.St}{ρ:List af}{J:It}{k:List D->List ak->Prop}{Q:VK}
    (hg:∀s cE C cl bQ,GT (Cx.dP X scope s cE C cl bQ) bV ts g) (jH:∀i∈ts,i∈own.map (·.2)) (ht:∀s cE C cl bQ,pQ (Cx.dP X scope s cE C cl bQ) ifs t) (he:∀s cE C cl bQ,bf (Cx.dP X scope s cE C cl bQ) m5 elt e)
    (i7:nV X.K J its ay au) (m1:aK X.K ay au M1 H1) (en:cz X.K ay au σ ρ) (hz:its.n<sizeLine) (w:wp (gS its (jr g t e (dN ρ (own.map (·.2)))) 0 M1) (lX [] k))
    (fin:∀bD aq aj az H' acc,H1 bD=none->Acc X.K bD ay au H1 acc aq aj az H'->k acc az->Q (.ref bD) H'):
    ∀bD,H1 bD=none->∃W:Nat->Nat->Hp->Prop,(∃m,W 0 m (upd H1 bD (.lst [])))/\∀i m H,W i m H->
      (J.stop i H/\Q (.ref bD) H)\/(J.go i H/\∃jw:Hp->Prop,(∀H',jw H'->∃m',m'<m/\W (i+1) m' H')/\∀x H',J.yld i H x H'->BL X scope bV x (wipe σ (own.map (·.2))) H' λfS aS=>wipe fS (own.map (·.2))=wipe σ (own.map (·.2))/\C5 X scope ifs fS aS λb fh=>
        if b=true then EO X scope elt fS fh λy lD=>∃acc,lD bD=some (.lst acc)/\acc.length<sizeLine/\jw (upd lD bD (.lst (acc++[y])))else jw fh):=by
  intro bD hD
  let yz:Nat->Hp->Prop:=λi H'=>∃aq aj az acc,Acc X.K bD ay au H1 acc aq aj az H'/\acc.length<=i/\wp (gS its (jr g t e (dN ρ (own.map (·.2)))) i az) (lX acc k)
  refine⟨λi m H'=>m=its.n-i/\i<=its.n/\yz i H',⟨its.n,by simp,Nat.zero_le _,ay,au,M1,[],DV hD m1,Nat.le_refl _,w⟩,?_⟩
  rintro i m H' ⟨rfl,hi,aq,aj,az,acc,a,hl,ii⟩
  by_cases hlt:i<its.n
  · obtain⟨s,e1,e2⟩:=K0 hlt ii
    refine .inr ⟨i7.goes i aq aj az H' hlt a.g_.gZ a.ms (by rw[e1];rfl),yz (i+1),λaS z=>⟨its.n-(i+1),by omega,rfl,hlt,z⟩,λx aS y=>?_⟩;obtain⟨Gc,pu,r⟩:=i7.yld i aq aj az H' x aS s hlt a.g_.gZ a.ms e1 y;have a2:=a.grow (pu.grow (aa:=aq)) (a.ms.pure pu);exact YR hD hg jH ht he a2 ((en.gZ a2.g_.gZ).wipe _) r (by omega) (Ow e2) λaU aV M2 fh kI age _ a3 hk=>⟨aU,aV,M2,kI,a3,by omega,hk⟩
  · have e:i=its.n:=by omega
    subst e;obtain⟨e1,e2⟩:=KZ ii;exact .inl ⟨i7.stops aq aj az H' a.g_.gZ a.ms e1,fin bD aq aj az H' acc hD a (by have z:k (acc++[]) az:=e2;rw[List.append_nil]at z;exact z)⟩
theorem mW (m:Bool)(hi:pP X W bV it fi)(hg:∀s cE C cl bQ,GT (Cx.dP X scope s cE C cl bQ) bV ts g)(jH:∀i∈ts,i∈own.map (·.2))(ht:∀s cE C cl bQ,pQ (Cx.dP X scope s cE C cl bQ) ifs t)(he:∀s cE C cl bQ,bf (Cx.dP X scope s cE C cl bQ) m5 elt e)
    (hc:X.calm=true) (hN:X.N.Nodup) (ok:BlkOk X.N X.env.scope scope own) (hs:∀x,foldedSetIterable it X.env x=pure x:=by intro _;rfl):
    bf X W (.ListComp elt [⟨bV,it,ifs,0⟩] scope pos) (cV m (own.map (·.2)) fi g t e):=⟨λρ M aa G σ H Q ms en h=>
  toE (pe_lc hc hN Hr ok Hl Hy Ox hs) (hi.run ρ M aa G σ H _ ms en (wp_mono (λr hr=>by
    cases r with
    |ex c fs M1=>exact hr
    |ok its M1=>
      intro ay au H1 J g1 m1 i7;have hr:wp ((if its.n<sizeLine then Ev.bind (gS its (jr g t e (dN ρ (own.map (·.2)))) 0) λds=>ofM λM=>some (d9 m M ds)else bad:Ev af) M1) (dB X W (bF X.K) Q σ aa G H):=hr;split at hr
      · rename_i hz
        refine Xu (k:=λacc M2=>∀aU aV aS v,aJ aa G H aU aV aS->aK X.K aU aV (d9 m M2 acc).2 aS->bF X.K aU aV v (d9 m M2 acc).1->Q v aS) hg jH ht he i7 m1 (en.grow g1) hz (wp_mono (λr hr=>?_) (cL.mp hr)) λbD aq aj az H' acc hD a q=>AL hD g1 a q
        cases r with
        |ex c fs M2=>trivial
        |ok b M2=>exactλaU aV aS v g2 m2 r2=>hr aU aV aS v g2 m2 r2
      · exact hr.elim) (cL.mp h)))⟩
theorem H8 (m:Bool){y:Str}{i:Nat}{py aa4:Pos}(F:pL X y i)(hy:X.env.scope.names.lookup y=some .local)(hi:pP X W bV it fi)(hg:∀s cE C cl bQ,GT (Cx.dP X scope s cE C cl bQ) bV ts g)(jH:∀i∈ts,i∈own.map (·.2))(ht:∀s cE C cl bQ,pQ (Cx.dP X scope s cE C cl bQ) ifs t)(he:∀s cE C cl bQ,bf (Cx.dP X scope s cE C cl bQ) m5 elt e)
    (hc:X.calm=true) (ok:BlkOk X.N X.env.scope scope own) (hsw:swapsWith (.ListComp elt [⟨bV,it,ifs,0⟩] scope pos) (some (.Name y py)) aa4.line X.env=pure true) (hs:∀x,foldedSetIterable it X.env x=pure x:=by intro _;rfl):
    jk X W (.Assign [.Name y py] (.ListComp elt [⟨bV,it,ifs,0⟩] scope pos) aa4) (bL i (cV m (own.map (·.2)) fi g t e)):=⟨λρ M aa G σ H D ms en h=>
  toS (ps_setLc (i:=i) hc F.nd F.ix hy hsw Hr ok Hl Hy Ox hs) (hi.run ρ M aa G σ H _ ms en (by
    refine wp_mono (λr hr=>?_) (cL.mp (cL.mp h));cases r with
    |ex c fs M1=>exact hr σ
    |ok its M1=>
      intro ay au H1 J g1 m1 i7;have hr:wp ((if its.n<sizeLine then Ev.bind (gS its (jr g t e (dN ρ (own.map (·.2)))) 0) λds=>ofM λM=>some (d9 m M ds)else bad:Ev af) M1) (λr=>wp (aX (λs=>R.ok (.nx (ρ.set i s))) r) (eN X W D aa G H)):=hr;split at hr
      · rename_i hz
        refine Xu (Q:=λv H'=>gName i v σ H' D.nx) (k:=λacc M2=>∀aU aV aS v,aJ aa G H aU aV aS->aK X.K aU aV (d9 m M2 acc).2 aS->bF X.K aU aV v (d9 m M2 acc).1->D.nx (σ.set i (some v)) aS) hg jH ht he i7 m1 (en.grow g1) hz (wp_mono (λr hr=>?_) (cL.mp hr)) λbD aq aj az H' acc hD a q=>AL (Q:=λv H'=>D.nx (σ.set i (some v)) H') hD g1 a q
        cases r with
        |ex c fs M2=>trivial
        |ok b M2=>exactλaU aV aS v g2 m2 r2=>hr aU aV aS _ g2 m2 ((en.grow g2).set r2)
      · exact hr.elim))⟩
theorem aii {its:Its}{ay:List Addr}{au H1:Hp}{M1:List ak}{σ:L2.St}{ρ:List af}{J:It}{k:List D->List ak->Prop}{Q:VK}
    (hg:∀s cE C cl bQ,GT (Cx.dP X scope s cE C cl bQ) bV ts g) (jH:∀i∈ts,i∈own.map (·.2)) (ht:∀s cE C cl bQ,pQ (Cx.dP X scope s cE C cl bQ) ifs t) (hi1:∀s cE C cl bQ,pP (Cx.dP X scope s cE C cl bQ) m5 xY Cb ng)
    (c6:∀s cE C cl bQ,GT (Cx.dP X scope s cE C cl bQ) xY C_ g1) (Ms:∀i∈C_,i∈vs1) (Mq:∀s cE C cl bQ,pQ (Cx.dP X scope s cE C cl bQ) FQ t1) (he:∀s cE C cl bQ,bf (Cx.dP X scope s cE C cl bQ) m5 elt e)
    (i7:nV X.K J its ay au) (m1:aK X.K ay au M1 H1) (en:cz X.K ay au σ ρ) (hz:its.n<=4000) (w:wp (gS its (vS g t ng vs1 g1 t1 e (dN ρ (own.map (·.2)))) 0 M1) (lX [] k))
    (fin:∀bD aq aj az H' acc,H1 bD=none->Acc X.K bD ay au H1 acc aq aj az H'->k acc az->Q (.ref bD) H'):
    ∀bD,H1 bD=none->∃W:Nat->Nat->Hp->Prop,(∃m,W 0 m (upd H1 bD (.lst [])))/\∀i m H,W i m H->
      (J.stop i H/\Q (.ref bD) H)\/(J.go i H/\∃jw:Hp->Prop,(∀H',jw H'->∃m',m'<m/\W (i+1) m' H')/\∀x H',J.yld i H x H'->BL X scope bV x (wipe σ (own.map (·.2))) H' λfS aS=>wipe fS (own.map (·.2))=wipe σ (own.map (·.2))/\C5 X scope ifs fS aS λb fh=>
        if b=true then VI X scope xY Cb fS fh λDI lD=>∃W1:Nat->Nat->Hp->Prop,(∃m,W1 0 m lD)/\∀j k H,W1 j k H->
          (DI.stop j H/\jw H)\/(DI.go j H/\∃I8:Hp->Prop,(∀H',I8 H'->∃e7,e7<k/\W1 (j+1) e7 H')/\∀x H',DI.yld j H x H'->BL X scope xY x (wipe fS vs1) H' λtQ tV=>wipe tQ vs1=wipe fS vs1/\C5 X scope FQ tQ tV λb uR=>
            if b=true then EO X scope elt tQ uR λy mJ=>∃acc,mJ bD=some (.lst acc)/\acc.length<sizeLine/\I8 (upd mJ bD (.lst (acc++[y])))else I8 uR)
        else jw fh):=by
  intro bD hD
  let sA:=vS g t ng vs1 g1 t1 e (dN ρ (own.map (·.2)))
  let yz:Nat->Hp->Prop:=λi H'=>∃aq aj az acc,Acc X.K bD ay au H1 acc aq aj az H'/\acc.length<=i*4000/\wp (gS its sA i az) (lX acc k)
  refine⟨λi m H'=>m=its.n-i/\i<=its.n/\yz i H',⟨its.n,by simp,Nat.zero_le _,ay,au,M1,[],DV hD m1,Nat.zero_le _,w⟩,?_⟩
  rintro i m H' ⟨rfl,hi,aq,aj,az,acc,a,hl,ii⟩
  by_cases hlt:i<its.n
  · obtain⟨s,e1,e2⟩:=K0 hlt ii
    refine .inr ⟨i7.goes i aq aj az H' hlt a.g_.gZ a.ms (by rw[e1];rfl),yz (i+1),λaS z=>⟨its.n-(i+1),by omega,rfl,hlt,z⟩,λx aS y=>?_⟩;obtain⟨Gc,pu,r⟩:=i7.yld i aq aj az H' x aS s hlt a.g_.gZ a.ms e1 y;have a2:=a.grow (pu.grow (aa:=aq)) (a.ms.pure pu);have e3:=Ow e2;cases qT:g s (dN ρ (own.map (·.2)))with
    |none=>simp only[sA,vS,qT]at e3;exact e3.elim
    |some aY=>
      simp only[sA,vS,qT]at e3;intro s0 cE C cl bQ;refine(hg s0 cE C cl bQ).run s _ aY aq Gc (wipe σ (own.map (·.2))) aS x qT a2.ms.le ((en.gZ a2.g_.gZ).wipe _) r _ ?_;intro fS nZ Qm;refine⟨by rw[Qm _ jH];exact aaH _ _,λs1 IX IJ KL Lp=>?_⟩;obtain⟨tt,Mu,xh⟩:=(ht s1 IX IJ KL Lp).run;refine⟨tt,Mu,xh aY az aq Gc fS aS _ a2.ms nZ ?_⟩;refine wp_bind.mpr (wp_mono (λr hr=>?_) (x7 (cL.mp e3)));obtain⟨b,M2,rfl,hr⟩:=hr;intro aU aV fh wA g2 m2 hb;have hb:wA=b:=hb;subst hb;have a3:=a2.grow g2 m2;cases wA with
      |false=>exact iteF (show yz (i+1) fh from⟨aU,aV,M2,acc,a3,by omega,by have z:wp (gS its sA (i+1) M2) (lX (acc++[]) k):=hr;rw[List.append_nil]at z;exact z⟩)
      |true=>
        refine iteT λs4 abj IK KO Lq=>?_
        have hr:wp (Ev.bind (eT (ng aY)) (λmq=>if mq.n<=4000 then gS mq (jr g1 t1 e (dN aY vs1)) 0 else bad) M2) (lX acc λkI az=>wp (gS its sA (i+1) az) (lX kI k)):=hr;refine(hi1 s4 abj IK KO Lq).run aY M2 aU aV fS fh _ m2 (nZ.grow g2) (wp_mono (λr hr=>?_) (x7 (cL.mp hr)));obtain⟨mq,ck,rfl,hr⟩:=hr;intro dO er lD DI g3 m3 QF;have hr:wp ((if mq.n<=4000 then gS mq (jr g1 t1 e (dN aY vs1)) 0 else bad:Ev (List D)) ck) (lX acc λkI az=>wp (gS its sA (i+1) az) (lX kI k)):=hr;split at hr
        · rename_i VH
          have a4:=a3.grow g3 m3
          let Se:Nat->Hp->Prop:=λj H'=>∃aq aj az kI,Acc X.K bD ay au H1 kI aq aj az H'/\g8 dO er aq aj/\kI.length<=i*4000+j/\wp (gS mq (jr g1 t1 e (dN aY vs1)) j az) (lX kI λkI az=>wp (gS its sA (i+1) az) (lX kI k))
          refine⟨λj m H'=>m=mq.n-j/\j<=mq.n/\Se j H',⟨mq.n,by simp,Nat.zero_le _,dO,er,ck,acc,a4,g8.refl _ _,by omega,hr⟩,?_⟩
          rintro j m tV ⟨rfl,hj,uN,uP,uT,JR,gF,vo,rf,VL⟩
          by_cases FL:j<mq.n
          · obtain⟨s5,f1,f2⟩:=K0 FL VL
            refine .inr ⟨QF.goes j uN uP uT tV FL vo gF.ms (by rw[f1];rfl),Se (j+1),λaS z=>⟨mq.n-(j+1),by omega,rfl,FL,z⟩,λqu uR aq5=>?_⟩;obtain⟨aqr,OL,HA⟩:=QF.yld j uN uP uT tV qu uR s5 FL vo gF.ms f1 aq5;have tY:=gF.grow (OL.grow (aa:=uN)) (gF.ms.pure OL);have Xk:=vo.trans (OL.grow (aa:=uN)).gZ;have hsz:JR.length<sizeLine:=by unfold sizeLine;omega
            exact YR hD c6 Ms Mq he tY ((nZ.gZ ((g2.trans g3).gZ.trans Xk)).wipe _) HA hsz (Ow f2) λab5 abe abv mJ kI age ahU lG hk=>⟨ab5,abe,abv,kI,lG,Xk.trans ahU,by omega,hk⟩
          · have e:j=mq.n:=by omega
            subst e;obtain⟨f1,f2⟩:=KZ VL;refine .inl ⟨QF.stops uN uP uT tV vo gF.ms f1,uN,uP,uT,JR,gF,by omega,?_⟩;have z:wp (gS its sA (i+1) uT) (lX (JR++[]) k):=f2;rw[List.append_nil]at z;exact z
        · exact hr.elim
  · have e:i=its.n:=by omega
    subst e;obtain⟨e1,e2⟩:=KZ ii;exact .inl ⟨i7.stops aq aj az H' a.g_.gZ a.ms e1,fin bD aq aj az H' acc hD a (by have z:k (acc++[]) az:=e2;rw[List.append_nil]at z;exact z)⟩
theorem anu (m:Bool)(hi:pP X W bV it fi)(hg:∀s cE C cl bQ,GT (Cx.dP X scope s cE C cl bQ) bV ts g)(jH:∀i∈ts,i∈own.map (·.2))(ht:∀s cE C cl bQ,pQ (Cx.dP X scope s cE C cl bQ) ifs t)(hi1:∀s cE C cl bQ,pP (Cx.dP X scope s cE C cl bQ) m5 xY Cb ng)
    (c6:∀s cE C cl bQ,GT (Cx.dP X scope s cE C cl bQ) xY C_ g1) (Ms:∀i∈C_,i∈vs1) (Mq:∀s cE C cl bQ,pQ (Cx.dP X scope s cE C cl bQ) FQ t1) (he:∀s cE C cl bQ,bf (Cx.dP X scope s cE C cl bQ) m5 elt e)
    (hc:X.calm=true) (hN:X.N.Nodup) (ok:BlkOk X.N X.env.scope scope own) (hv:∀i∈vs1,i∈own.map (·.2)) (hs:∀x,foldedSetIterable it X.env x=pure x:=by intro _;rfl) (hs1:∀env x,foldedSetIterable Cb env x=pure x:=by intro _ _;rfl):
    bf X W (.ListComp elt [⟨bV,it,ifs,0⟩,⟨xY,Cb,FQ,0⟩] scope pos) (Bt m (own.map (·.2)) fi g t ng vs1 g1 t1 e):=⟨λρ M aa G σ H Q ms en h=>
  toE (pe_lc2 hc hN Hr ok hv Hl Hy akS Hl Hy Ox hs hs1) (hi.run ρ M aa G σ H _ ms en (wp_mono (λr hr=>by
    cases r with
    |ex c fs M1=>exact hr
    |ok its M1=>
      intro ay au H1 J g_ m1 i7;have hr:wp ((if its.n<=4000 then Ev.bind (gS its (vS g t ng vs1 g1 t1 e (dN ρ (own.map (·.2)))) 0) λds=>ofM λM=>some (d9 m M ds)else bad:Ev af) M1) (dB X W (bF X.K) Q σ aa G H):=hr;split at hr
      · rename_i hz
        refine aii (k:=λacc M2=>∀aU aV aS v,aJ aa G H aU aV aS->aK X.K aU aV (d9 m M2 acc).2 aS->bF X.K aU aV v (d9 m M2 acc).1->Q v aS) hg jH ht hi1 c6 Ms Mq he i7 m1 (en.grow g_) hz (wp_mono (λr hr=>?_) (cL.mp hr)) λbD aq aj az H' acc hD a q=>AL hD g_ a q
        cases r with
        |ex c fs M2=>trivial
        |ok b M2=>exactλaU aV aS v g2 m2 r2=>hr aU aV aS v g2 m2 r2
      · exact hr.elim) (cL.mp h)))⟩
end
def sgn (c:Nat):D:=.str ⟨#[c]⟩
def iQ (z:Str):List D:=z.cps.toList.map sgn
def rng (lo:Int)(n:Nat):List D:=(List.range n).map λi:Nat=>.int (lo+i)
def fq:Nat->List D->List D
 |_,[]=>[]
 |i,d::ds=>.tup [.int (i:Nat),d]::fq (i+1) ds
theorem EW:∀(ds:List D) (k i:Nat),(fq k ds)[i]?=ds[i]?.map λd=>D.tup [.int ((k+i:Nat):Int),d]
 |[],_,_=>by simp[fq]
 |d::ds,k,0=>by simp[fq]
 |d::ds,k,i+1=>by
  rw[fq,List.getElem?_cons_succ,List.getElem?_cons_succ,EW ds (k+1) i];have:k+1+i=k+(i+1):=by omega
  rw[this]
theorem wQ:∀(ds:List D) (k:Nat),(fq k ds).length=ds.length
 |[],_=>rfl
 |_::ds,k=>congrArg Nat.succ (wQ ds (k+1))
theorem ajt {v:Value}{o:Obj}{H:Heap->Prop}(B:Begins v o H):
    Meets (Builtin.«enumerate.__new__» ⟨[.type "enumerate",v],[]⟩) (λ_ R s=>H s.heap/\
      R (.ok (.ret (.ref (s.heap.push o).objs.size))) {s with heap:=(s.heap.push o).push {cls:=.type "enumerate",data:=.fields #[.none,.bool false,.ref s.heap.objs.size,rawInt 0,.none,.none]}}):=
  .of_wp λprog w A R s h=>by
    obtain⟨hp,g,d,tk,os⟩:=s;obtain⟨h1,h⟩:=h;have hsub:=sub_enumerate;have q1:∀{ab3:Around} {E:Value->Shared->Prop} {Q:Value->Shared->Prop},Q (.ref hp.objs.size) ⟨hp.push o,g,d,tk,os⟩->wpAny (model prog w) ab3 (pyIter v) Q E ⟨hp,g,d,tk,os⟩:=
      λq=>B.iter prog w _ _ ⟨hp,g,d,tk,os⟩ _ h1 q
    wp_walk using q1
    refine wpAny_stack_any λst=>wpAny_pure ?_
    split
    · rename_i c _ _ _ _ _
      cases(c==Value.type "enumerate")
      · wp_walk using q1
        exact⟨_,rfl,h⟩
      · wp_walk using q1
        exact⟨_,rfl,h⟩
    · wp_walk using q1
      exact⟨_,rfl,h⟩
theorem S8 {prog:Program}{w:World}{A:Around}{E:Value->Shared->Prop}{s:Shared}{v:Value}{o:Obj}{H:Heap->Prop}{Q:Value->Shared->Prop}(B:Begins v o H)(h1:H s.heap)
    (h:∀h',IsEnum h' (s.heap.objs.size+1) s.heap.objs.size 0 .none->h'.get? s.heap.objs.size=some o->h'.objs.size=s.heap.objs.size+2->
      (∀b o,s.heap.get? b=some o->h'.get? b=some o)->Q (.ref (s.heap.objs.size+1)) {s with heap:=h'}):
    wpAny (model prog w) A (call (.type "enumerate") [v]) Q E s:=by
  refine callType_new F.called_enumerate (by decide) (F.typeCall_enumerate_1 _) (F.newCall_enumerate_1 _) (λobj=>F.args_object_init_2 obj _) F.entry_enumerate_new
    (ajt B) ⟨h1,?_⟩
  have hz:(s.heap.push o).objs.size=s.heap.objs.size+1:=Heap.size_push ..;show _/\_
  rw[hz];have he:IsEnum ((s.heap.push o).push {cls:=.type "enumerate",data:=.fields #[.none,.bool false,.ref s.heap.objs.size,rawInt 0,.none,.none]}) (s.heap.objs.size+1) s.heap.objs.size 0 .none:=by
    have:=Heap.get?_push_size (s.heap.push o) (o:={cls:=.type "enumerate",data:=.fields #[.none,.bool false,.ref s.heap.objs.size,rawInt 0,.none,.none]}) rfl;rw[hz]at this;exact this
  refine⟨⟨_,he,rfl⟩,h _ he (Heap.get?_push_of_some _ (Heap.get?_push_size _ B.free)) (by rw[Heap.size_push,hz]) λb o x=>Heap.get?_push_of_some _ (Heap.get?_push_of_some _ x)⟩
def Ax (z:Str):It:=⟨λi H=>i<z.cps.size,λi H v H'=>∃T c,v=.ref T/\H T=none/\H'=upd H T (.tup [.int (i:Nat),.str ⟨#[c]⟩])/\z.cps[i]?=some c,λi H=>i=z.cps.size⟩
def Ay (K:Frag)(a:Addr):It:=
 ⟨λi H=>∃(xs:List V) (x:V),SqT K H a xs/\xs[i]?=some x,λi H v H'=>∃T x,v=.ref T/\H T=none/\H'=upd H T (.tup [.int (i:Nat),x])/\∀xs,SqT K H a xs->xs[i]?=some x,λi H=>∃xs:List V,SqT K H a xs/\xs.length=i⟩
section
variable{P:Program}{w:World}{K:Frag}{elts:List Expr}{kk:Nat}{mX:Pos}
theorem T_ {X:Cx}{i:Nat}{pins:List (Addr×Obj)}{s:Shared}{σ:L2.St}{H:Hp}{E:Value->Shared->Prop}{e it:Addr}{n:Nat}{bQ:List Addr}{Pv:Nat->Value->Prop}{St:Nat->Heap->Prop}(D:Draws X.prog X.w X.A.in1 it bQ n Pv St)(I:Inv X pins σ H s)(hf:∀b∈[e,it],FpOk X pins H b)
    (he:∃old,IsEnum s.heap e it ((i:Nat):Int) old) (eZ:St i s.heap) (hlt:i<n) (hne:e≠it) (Vl:e∉bQ) {R:V->Hp->Prop} {tn:Heap->Prop} (agC:∀h',(∃old,IsEnum h' e it (((i+1:Nat):Nat):Int) old)->St (i+1) h'->tn h') {Y:Prop->Prop}
    (fin:∀u x,Pv i u->RelV x u->∀T H',H T=none->H'=upd H T (.tup [.int (i:Nat),x])->R (.ref T) H') (hv:∀u,Pv i u->∃x,RelV x u):
    wpAny (model X.prog X.w) X.A (pyNext (.ref e)) (λr aF=>∃u,r=some u/\wpAny (model X.prog X.w) X.A (letOwnedTupleGo (.Tuple elts kk mX) (.ref e) u) (λ_ ly=>∃v H',Inv X pins σ H' ly/\RelV v u/\R v H'/\tn ly.heap/\∀b∈[e,it],H' b=none) E aF) E s:=by
  obtain⟨old,he⟩:=he;have Vm:e<s.heap.objs.size:=Heap.lt_size he;have qe:it<s.heap.objs.size:=by obtain⟨_,q⟩:=D.live _ _ eZ;exact Heap.lt_size q
  refine wpAny_pyNext_enum_itemD D he eZ hlt hne Vl λu h' tk hP ho agz hT hsz hk=>?_
  obtain⟨x,cM⟩:=hv u hP;refine⟨_,rfl,wpAny_letOwnedTupleGo_enum (s:={s with heap:=h',toks:=tk+1}) ho λzb afU sb=>?_⟩;have afq:zb.get? s.heap.objs.size=some {cls:=.type "tuple",data:=.seq #[.int i tk,u]}:=(sb.2 _ (Nat.ne_of_gt Vm)).trans hT;have new:ObjOk X.prog X.w (upd H s.heap.objs.size (.tup [.int (i:Nat),x])) zb s.heap.objs.size (.tup [.int (i:Nat),x]):=
    ⟨by show 2<=sizeLine;decide,[.int i tk,u],.cons ⟨_,rfl⟩ (.cons cM .nil),⟨_,afq,rfl,_,rfl⟩⟩
  have bY:Inv X pins σ (upd H s.heap.objs.size (.tup [.int (i:Nat),x])) {s with heap:=zb,toks:=tk+1}:=
    I.turnedNew (ch:=[e,it]) (λb ob hb q=>(sb.2 b (λz=>hb (by simp[z]))).trans (hk b ob (λz=>hb (by simp[z])) (λz=>hb (by simp[z])) q)) hf (Nat.le_refl _) new
  refine⟨.ref s.heap.objs.size,_,bY,rfl,fin u x hP cM _ _ (I.hok.fresh (Nat.le_refl _)) rfl,agC _ ⟨u,?_⟩ (D.frame _ _ _ agz λb hb o q=>(sb.2 b λz=>Vl (z▸hb)).trans q),λb hb=>?_⟩
  · have e1:((i+1:Nat):Int)=(i:Int)+1:=by omega
    rw[e1];exact afU
  · have afz:b<s.heap.objs.size:=by
      have g9:b=e\/b=it:=by simpa using hb
      rcases g9 with z|z
      · rw[z];exact Vm
      · rw[z];exact qe
    rw[upd_ne (Nat.ne_of_lt afz)];exact(hf b hb).1
theorem ap5 (z:Str)(t:Tok)(e it:Addr):
    Turn P w K (.Tuple elts kk mX) (Ax z) [e,it] e (λi h=>(∃old,IsEnum h e it ((i:Nat):Int) old)/\h.IsStrIter it (strIterType z) z t i/\e≠it) where
  mem:=by simp
  obj:=λi h st b hb=>by
    obtain⟨⟨old,he⟩,⟨o,ho,hc,hd⟩,_⟩:=st;have g9:b=e\/b=it:=by simpa using hb
    rcases g9 with z|z
    · rw[z];exact⟨_,he,λv q=>nomatch q⟩
    · rw[z];exact⟨o,ho,λv q=>by rw[hd]at q;cases q⟩
  keep:=λi h h' st k=>let⟨⟨old,he⟩,⟨o,ho,r⟩,hne⟩:=st;⟨⟨old,k e (by simp) _ he⟩,⟨o,k it (by simp) _ ho,r⟩,hne⟩
  item:=by
    intro X hP hw hK hc i pins s σ H E I hf st hg;subst hP hw hK;obtain⟨he,hit,hne⟩:=st;refine T_ (Draws.text (A:=X.A.in1) (I.ok.hd hc) it z t) I hf he hit hg hne (by simpa using hne) (tn:=λh=>(∃old,IsEnum h e it ((i+1:Nat):Int) old)/\h.IsStrIter it (strIterType z) z t (i+1)/\e≠it) (λh' aD bK=>⟨aD,bK,hne⟩) (Y:=λx=>x) (R:=(Ax z).yld i H) (λu x hP cM T H' hT hH=>?_) (λu hP=>?_)
    · obtain⟨c,tk,hc,rfl⟩:=hP
      have:x=.str ⟨#[c]⟩:=by
        cases x with
        |str y=>obtain⟨t',q⟩:=(show∃t',Value.str ⟨#[c]⟩ tk=Value.str y t' from cM);cases q;rfl
        |_=>first|(obtain⟨_,q⟩:=cM;cases q;done)|(cases cM;done)
      subst this;exact⟨T,c,rfl,hT,hH,hc⟩
    · obtain⟨c,tk,hc,rfl⟩:=hP
      exact⟨.str ⟨#[c]⟩,tk,rfl⟩
  done:=by
    intro X hP hw hK hc i pins s σ H E I hf st hg;subst hP hw hK;obtain⟨⟨old,he⟩,hit,hne⟩:=st;obtain⟨f0,f1,f2,jE,f4,sM⟩:=hf it (by simp);obtain rfl:i=z.cps.size:=hg;exact wpAny_pyNext_enum_endD (Draws.text (A:=X.A.in1) (I.ok.hd hc) it z t) he hit λh' nY=>⟨rfl,I.turned (t':=s.toks) (λb o hb q=>nY b o hb q) f0 f1 jE f4 sM⟩
  self:=λA i s Q E st h=>let⟨⟨_,he⟩,_⟩:=st;wpAny_pyIter_enum he h
theorem ap6 (a e it:Addr)(its:Array Value):
    Turn P w K (.Tuple elts kk mX) (Ay K a) [e,it] e (λi h=>(∃old,IsEnum h e it ((i:Nat):Int) old)/\h.IsTupleIter it a i/\e≠it/\a≠it/\a≠e) where
  mem:=by simp
  obj:=λi h st b hb=>by
    obtain⟨⟨old,he⟩,⟨o,ho,hc,hd⟩,_⟩:=st;have g9:b=e\/b=it:=by simpa using hb
    rcases g9 with z|z
    · rw[z];exact⟨_,he,λv q=>nomatch q⟩
    · rw[z];exact⟨o,ho,λv q=>by rw[hd]at q;cases q⟩
  keep:=λi h h' st k=>let⟨⟨old,he⟩,hi,hne⟩:=st;⟨⟨old,k e (by simp) _ he⟩,hi.at λo q=>k it (by simp) o q,hne⟩
  item:=by
    intro X hP hw hK hc i pins s σ H E I hf st hg;subst hP hw hK;obtain⟨he,hit,hne,Ft,LP⟩:=st;obtain⟨xs,x,hq,hx⟩:=hg;obtain⟨its,b6,p,hz⟩:=I.tuple hq;have hlt:i<its.length:=by rw[<-b6.length];exact(List.getElem?_eq_some_iff.mp hx).1
    refine T_ (Draws.tuple (A:=X.A.in1) (I.ok.hd hc) it a Ft its.toArray) I hf he ⟨hit,p⟩ (by simpa using hlt) hne (by simp;exact⟨hne,λz=>LP z.symm⟩) (tn:=λh=>(∃old,IsEnum h e it ((i+1:Nat):Int) old)/\h.IsTupleIter it a (i+1)/\e≠it/\a≠it/\a≠e) (λh' aD bK=>⟨aD,bK.1,hne,Ft,LP⟩) (Y:=λx=>x) (R:=(Ay X.K a).yld i H) (λu y hP dZ T H' hT hH=>?_) (λu hP=>?_)
    · obtain⟨Ad,hu,lP⟩:=b6.get hx
      have BU:its[i]?=some u:=by simpa using hP
      rw[hu]at BU;cases BU;have:y=x:=L2.RelV.inj dZ lP;subst this;exact⟨T,y,rfl,hT,hH,λaB hy=>by rw[I.tuple_inj hy hq];exact hx⟩
    · obtain⟨Ad,hu,lP⟩:=b6.get hx
      have BU:its[i]?=some u:=by simpa using hP
      rw[hu]at BU;cases BU;exact⟨x,lP⟩
  done:=by
    intro X hP hw hK hc i pins s σ H E I hf st hg;subst hP hw hK;obtain⟨⟨old,he⟩,hit,hne,Ft,LP⟩:=st;obtain⟨xs,hq,hx⟩:=hg;obtain⟨its,b6,p,hz⟩:=I.tuple hq;obtain⟨f0,f1,f2,jE,f4,sM⟩:=hf it (by simp);have hn:its.toArray.size=i:=by rw[List.size_toArray,<-b6.length];exact hx
    subst hn;exact wpAny_pyNext_enum_endD (Draws.tuple (A:=X.A.in1) (I.ok.hd hc) it a Ft its.toArray) he ⟨hit,p⟩ λh' nY=>⟨rfl,I.turned (t':=s.toks) (λb o hb q=>nY b o hb q) f0 f1 jE f4 sM⟩
  self:=λA i s Q E st h=>let⟨⟨_,he⟩,_⟩:=st;wpAny_pyIter_enum he h
end
section
variable{K:Frag}{aa:List Addr}{G H:Hp}
theorem wN {ds:List D}{i:Nat}{M:List ak}{s:af}(h:(Its.data ds).at_ M i=some s):∃d,ds[i]?=some d/\s=.dat d:=by
 have h:ds[i]?.map af.dat=some s:=h;cases e:ds[i]? with
 |none=>rw[e]at h;cases h
 |some d=>rw[e]at h;cases h;exact⟨d,rfl,rfl⟩
theorem apx {a:Addr}{xs:List V}{ds:List D}(h:SqL K G a xs)(r:b8 K G xs ds):nV K (Itl K a) (.data ds) aa G where
 goes i aq aj az H' hi l ms _:=by
  have hi:i<ds.length:=hi;exact⟨xs,xs[i]'(by rw[r.length];exact hi),ms.le.l (l.ex.l h),by simp⟩
 stops aq aj az H' l ms _:=⟨xs,ms.le.l (l.ex.l h),by show xs.length<=ds.length;rw[r.length];exact Nat.le_refl _⟩
 yld i aq aj az H' x aS s hi l ms hs y:=by
  obtain⟨d,hd,rfl⟩:=wN hs;obtain⟨rfl,hx⟩:=y;obtain⟨v,h1,h2⟩:=r.get hd;have:=hx xs (ms.le.l (l.ex.l h));rw[h1]at this;cases this;exact⟨aj,Pure.refl ms.le,h2.mono l.ex⟩
theorem apC {a:Addr}{xs:List V}{ds:List D}(h:SqT K G a xs)(r:b8 K G xs ds):nV K (Itt K a) (.data ds) aa G where
 goes i aq aj az H' hi l ms _:=by
  have hi:i<ds.length:=hi;exact⟨xs,xs[i]'(by rw[r.length];exact hi),ms.le.t (l.ex.t h),by simp⟩
 stops aq aj az H' l ms _:=⟨xs,ms.le.t (l.ex.t h),by show xs.length<=ds.length;rw[r.length];exact Nat.le_refl _⟩
 yld i aq aj az H' x aS s hi l ms hs y:=by
  obtain⟨d,hd,rfl⟩:=wN hs;obtain⟨rfl,hx⟩:=y;obtain⟨v,h1,h2⟩:=r.get hd;have:=hx xs (ms.le.t (l.ex.t h));rw[h1]at this;cases this;exact⟨aj,Pure.refl ms.le,h2.mono l.ex⟩
theorem apB {z:Str}:nV K (L2.Its z) (.data (iQ z)) aa G where
 goes i aq aj az H' hi l ms _:=by
  have hi:i<(iQ z).length:=hi;show i<z.cps.size
  simpa[iQ]using hi
 stops aq aj az H' l ms _:=by show z.cps.size<=(iQ z).length;simp[iQ]
 yld i aq aj az H' x aS s hi l ms hs y:=by
  obtain⟨d,hd,rfl⟩:=wN hs;obtain⟨rfl,c,h1,rfl⟩:=y;refine⟨aj,Pure.refl ms.le,?_⟩;unfold iQ at hd;rw[List.getElem?_map,Array.getElem?_toList,h1]at hd;cases hd
  exact cg.str _
theorem apA {lo:Int}{n:Nat}:nV K (Itr lo n) (.data (rng lo n)) aa G where
 goes i aq aj az H' hi l ms _:=by
  have hi:i<(rng lo n).length:=hi;show i<n
  simpa[rng]using hi
 stops aq aj az H' l ms _:=by show n<=(rng lo n).length;simp[rng]
 yld i aq aj az H' x aS s hi l ms hs y:=by
  obtain⟨d,hd,rfl⟩:=wN hs;obtain⟨rfl,rfl⟩:=y;refine⟨aj,Pure.refl ms.le,?_⟩;unfold rng at hd;rw[List.getElem?_map]at hd;cases q:(List.range n)[i]? with
  |none=>rw[q]at hd;cases hd
  |some j=>
   rw[q]at hd;obtain⟨h1,h2⟩:=List.getElem?_eq_some_iff.mp q;have e:j=i:=by rw[<-h2];simp
   subst e;cases hd
   exact cg.int _
theorem Hi {aj H':Hp}{T:Addr}{u v:V}{d1 d2:D}(l:fj aj H')(hT:H' T=none)(r1:cg K aj u d1)(r2:cg K aj v d2):∃Gc,Pure aj H' Gc (upd H' T (.tup [u,v]))/\cg K Gc (.ref T) (.tup [d1,d2]):=by
 have pu:=Pure.new (o:=.tup [u,v]) l hT;exact⟨_,pu,.tup upd_same (.cons (r1.mono pu.ex) (.cons (r2.mono pu.ex) .nil))⟩
theorem apu {a:Addr}{xs:List V}{ds:List D}(h:SqL K G a xs)(r:b8 K G xs ds):nV K (Ite K a) (.data (fq 0 ds)) aa G where
 goes i aq aj az H' hi l ms _:=by
  have hi:i<(fq 0 ds).length:=hi;rw[wQ]at hi;exact⟨xs,xs[i]'(by rw[r.length];exact hi),ms.le.l (l.ex.l h),by simp⟩
 stops aq aj az H' l ms _:=⟨xs,ms.le.l (l.ex.l h),by show xs.length<=(fq 0 ds).length;rw[r.length,wQ];exact Nat.le_refl _⟩
 yld i aq aj az H' x aS s hi l ms hs y:=by
  obtain⟨d,hd,rfl⟩:=wN hs;obtain⟨T,v,rfl,hT,rfl,hx⟩:=y;rw[EW]at hd;cases e:ds[i]? with
  |none=>rw[e]at hd;cases hd
  |some f=>
   rw[e]at hd;have e0:(0+i)=i:=Nat.zero_add i;rw[e0]at hd;cases hd
   obtain⟨w,h1,h2⟩:=r.get e;have:=hx xs (ms.le.l (l.ex.l h));rw[h1]at this;cases this;exact Hi ms.le hT (.int _) (h2.mono l.ex)
theorem apw {a:Addr}{xs:List V}{ds:List D}(h:SqT K G a xs)(r:b8 K G xs ds):nV K (Ay K a) (.data (fq 0 ds)) aa G where
 goes i aq aj az H' hi l ms _:=by
  have hi:i<(fq 0 ds).length:=hi;rw[wQ]at hi;exact⟨xs,xs[i]'(by rw[r.length];exact hi),ms.le.t (l.ex.t h),by simp⟩
 stops aq aj az H' l ms _:=⟨xs,ms.le.t (l.ex.t h),by show xs.length=(fq 0 ds).length;rw[r.length,wQ]⟩
 yld i aq aj az H' x aS s hi l ms hs y:=by
  obtain⟨d,hd,rfl⟩:=wN hs;obtain⟨T,v,rfl,hT,rfl,hx⟩:=y;rw[EW]at hd;cases e:ds[i]? with
  |none=>rw[e]at hd;cases hd
  |some f=>
   rw[e]at hd;have e0:(0+i)=i:=Nat.zero_add i;rw[e0]at hd;cases hd
   obtain⟨w,h1,h2⟩:=r.get e;have:=hx xs (ms.le.t (l.ex.t h));rw[h1]at this;cases this;exact Hi ms.le hT (.int _) (h2.mono l.ex)
theorem apv {z:Str}:nV K (Ax z) (.data (fq 0 (iQ z))) aa G where
 goes i aq aj az H' hi l ms _:=by
  have hi:i<(fq 0 (iQ z)).length:=hi;rw[wQ]at hi;show i<z.cps.size
  simpa[iQ]using hi
 stops aq aj az H' l ms _:=by show(fq 0 (iQ z)).length=z.cps.size;rw[wQ];simp[iQ]
 yld i aq aj az H' x aS s hi l ms hs y:=by
  obtain⟨d,hd,rfl⟩:=wN hs;obtain⟨T,c,rfl,hT,rfl,hc⟩:=y;rw[EW]at hd;unfold iQ at hd;rw[List.getElem?_map,Array.getElem?_toList,hc]at hd;have e0:(0+i)=i:=Nat.zero_add i;rw[e0]at hd;cases hd
  exact Hi ms.le hT (.int _) (.str _)
def zC (j:Nat):List ak->Nat->Option af:=λM i=>match M[j]? with
 |some (.lst xs)=>xs[i]?.map (fB M)
 |_=>none
def vq (j n:Nat):List ak->Bool:=λM=>match M[j]? with
 |some (.lst xs)=>xs.length==n
 |_=>false
def zB (j:Nat):List ak->Nat->Option af:=λM i=>match M[j]? with
 |some (.lst xs)=>match xs[i]? with
  |some (.dat d)=>some (.dat (.tup [.int (i:Nat),d]))
  |_=>none
 |_=>none
theorem zD {j:Nat}{a:Addr}{aj H':Hp}{aq:List Addr}{az:List ak}{xs:List af}(h:aa[j]?=some a)(l:g8 aa G aq aj)(ms:aK K aq aj az H')(e:az[j]?=some (.lst xs)):∃vs,H' a=some (.lst vs)/\bM K aq aj vs xs:=by
 exact(ms.mo j a _ (l.get h) e).2
theorem apy {j:Nat}{a:Addr}{n:Nat}(h:aa[j]?=some a):nV K (Itl K a) (.live n (zC j) (vq j n)) aa G where
 goes i aq aj az H' hi l ms hs:=by
  have hs:(zC j az i).isSome=true:=hs;unfold zC at hs;split at hs
  ·rename_i xs e
   obtain⟨vs,h1,h2⟩:=zD h l ms e;cases ex:xs[i]? with
   |none=>rw[ex]at hs;cases hs
   |some s=>
    obtain⟨v,e1,_⟩:=h2.get ex;exact⟨vs,v,SqL.of h1,e1⟩
  ·cases hs
 stops aq aj az H' l ms hs:=by
  have hs:vq j n az=true:=hs;unfold vq at hs;split at hs
  ·rename_i xs e
   obtain⟨vs,h1,h2⟩:=zD h l ms e;exact⟨vs,SqL.of h1,by show vs.length<=n;rw[h2.length];exact Nat.le_of_eq (eq_of_beq hs)⟩
  ·cases hs
 yld i aq aj az H' x aS s hi l ms hs y:=by
  have hs:zC j az i=some s:=hs;obtain⟨rfl,hx⟩:=y;unfold zC at hs;split at hs
  ·rename_i xs e
   obtain⟨vs,h1,h2⟩:=zD h l ms e;cases ex:xs[i]? with
   |none=>rw[ex]at hs;cases hs
   |some t=>
    rw[ex]at hs;cases hs;obtain⟨v,e1,e2⟩:=h2.get ex;have:=hx vs (SqL.of h1);rw[e1]at this;cases this;exact⟨aj,Pure.refl ms.le,G9 ms e2⟩
  ·cases hs
theorem apz {j:Nat}{a:Addr}{n:Nat}(h:aa[j]?=some a):nV K (Ite K a) (.live n (zB j) (vq j n)) aa G where
 goes i aq aj az H' hi l ms hs:=by
  have hs:(zB j az i).isSome=true:=hs;unfold zB at hs;split at hs
  ·rename_i xs e
   obtain⟨vs,h1,h2⟩:=zD h l ms e;split at hs
   ·rename_i d ex
    obtain⟨v,e1,_⟩:=h2.get ex;exact⟨vs,v,SqL.of h1,e1⟩
   ·cases hs
  ·cases hs
 stops aq aj az H' l ms hs:=by
  have hs:vq j n az=true:=hs;unfold vq at hs;split at hs
  ·rename_i xs e
   obtain⟨vs,h1,h2⟩:=zD h l ms e;exact⟨vs,SqL.of h1,by show vs.length<=n;rw[h2.length];exact Nat.le_of_eq (eq_of_beq hs)⟩
  ·cases hs
 yld i aq aj az H' x aS s hi l ms hs y:=by
  have hs:zB j az i=some s:=hs;obtain⟨T,u,rfl,hT,rfl,hx⟩:=y;unfold zB at hs;split at hs
  ·rename_i xs e
   obtain⟨vs,h1,h2⟩:=zD h l ms e;split at hs
   ·rename_i d ex
    cases hs
    obtain⟨v,e1,e2⟩:=h2.get ex;have:=hx vs (SqL.of h1);rw[e1]at this;cases this;exact Hi ms.le hT (.int _) e2
   ·cases hs
  ·cases hs
end
section
variable{X:Cx}{W:WX}{bV e a b:Expr}{elts:List Expr}{kk:Nat}{mX p pos:Pos}{aE bC:CE}
def qf (M:List ak):af->Option Its
 | .dat (.lst ds)=>some (.data ds)
 | .dat (.tup ds)=>some (.data ds)
 | .dat (.str z)=>some (.data (iQ z))
 | .mu j=>match M[j]? with
  |some (.lst xs)=>some (.live xs.length (zC j) (vq j xs.length))
  |_=>none
 |_=>none
def cF (f:CE):jt:=λρ=>(f ρ).bind λs=>λM=>match qf M s with
 |some its=>.ret (.ok its M)
 |none=>.bad
def Cd (X:Cx)(bV:Expr)(x:V)(H:Hp)(R:It->Hp->Prop):Prop:=∀pins σ s v,Inv X pins σ H s->RelV x v->wpAny (model X.prog X.w) X.A (pyIter v) (PIE X pins σ bV R) X.xe s
theorem VZ {a:Addr}{xs:List V}{H:Hp}{R:It->Hp->Prop}(hq:SqL X.K H a xs)(q:R (Itl X.K a) H):Cd X bV (.ref a) H R:=λpins σ s v I r=>by
 cases r
 obtain⟨its,b6,p,hz⟩:=I.list hq;refine wpAny_pyIter_list p.isList ?_;refine⟨s.heap.objs.size,[s.heap.objs.size],_,_,H,rfl,I.kept (t':=s.toks) λb o e=>Heap.get?_push_of_some _ e,turn_list a _,⟨_,Heap.get?_push_size _ rfl,rfl,rfl⟩,λb hb=>?_,q⟩;have e:b=s.heap.objs.size:=by simpa using hb
 subst e;exact I.fpOk (Nat.le_refl _) (I.hok.fresh (Nat.le_refl _))
theorem ahn {a:Addr}{xs:List V}{H:Hp}{R:It->Hp->Prop}(hq:SqT X.K H a xs)(q:R (Itt X.K a) H):Cd X bV (.ref a) H R:=λpins σ s v I r=>by
 cases r
 obtain⟨its,b6,p,hz⟩:=I.tuple hq;refine wpAny_pyIter_tuple (show s.heap.IsTuple a its.toArray from p) ?_;refine⟨s.heap.objs.size,[s.heap.objs.size],_,_,H,rfl,I.kept (t':=s.toks) λb o e=>Heap.get?_push_of_some _ e,turn_tuple a _,⟨_,Heap.get?_push_size _ rfl,rfl,rfl⟩,λb hb=>?_,q⟩;have e:b=s.heap.objs.size:=by simpa using hb
 subst e;exact I.fpOk (Nat.le_refl _) (I.hok.fresh (Nat.le_refl _))
theorem ahm {z:Str}{H:Hp}{R:It->Hp->Prop}(q:R (L2.Its z) H):Cd X bV (.str z) H R:=λpins σ s v I r=>by
 obtain⟨t,rfl⟩:=r;cases ha:z.cps.all (·<128)
 ·exact wpAny_pyIter_wide ha (pi_one (tk:=s.toks) I _ (turn_str _ z t "str_iterator" (.inr rfl)) ⟨_,Heap.get?_push_size _ rfl,rfl,rfl⟩ q)
 ·exact wpAny_pyIter_ascii ha (pi_one (tk:=s.toks) I _ (turn_str _ z t "str_ascii_iterator" (.inl rfl)) ⟨_,Heap.get?_push_size _ rfl,rfl,rfl⟩ q)
theorem ahj {M:List ak}{s:af}{its:Its}{aa:List Addr}{G H:Hp}{x:V}{R:It->Hp->Prop}(h:qf M s=some its)(ms:aK X.K aa G M H)(r:bF X.K aa G x s)(q:∀J,nV X.K J its aa G->R J H):Cd X bV x H R:=by
 unfold qf at h;split at h
 ·cases h
  cases r with
  |lst hq r=>exact VZ (SqL.of (ms.le.lst hq)) (q _ (apx (SqL.of hq) r))
 ·cases h
  cases r with
  |tup hq r=>exact ahn (ms.le.t (.inl (.inl hq))) (q _ (apC (.inl (.inl hq)) r))
 ·cases h
  cases r
  exact ahm (q _ apB)
 ·rename_i j
  split at h
  ·rename_i xs hm
   cases h
   obtain⟨a,e1,rfl⟩:=r;obtain⟨vs,e2,e3⟩:=(ms.mo j a _ e1 hm).2;exact VZ (SqL.of e2) (q _ (apy e1))
  ·cases h
 ·cases h
theorem jK (h1:bf X W e aE):pP X W bV e (cF aE):=⟨λρ M aa G σ H R ms en h=>by
 intro pins s I;have hw:wE X e σ H λv H1=>Cd X bV v H1 R:=h1.seq ms en h λay au M1 H1 v s g1 m1 r1 aD=>by
  cases hi:qf M1 s with
  |none=>simp only[hi]at aD;exact aD.elim
  |some its=>
   simp only[hi]at aD;exact ahj hi m1 r1 λJ i7=>aD ay au H1 J (aJ.refl _ _ _) m1 i7
 exact thn (hw pins s I) λv s1 ⟨x,H1,bY,r1,q1⟩=>q1 pins σ s1 v bY r1⟩
def fX (f:CE):jt:=λρ=>(f ρ).bind λs=>match s with
 | .dat (.int n)=>if -(2^62)<=n/\n<2^62 then ok (.data (rng 0 n.toNat))else bad
 |_=>bad
theorem rN (F:eK X "range")(hm:X.mg "range"=none)(h1:bf X W e aE)(hs:starEach [e] X.env=[(false,eval e X.env)]:=by rfl):pP X W bV (.Call (.Name "range" p) [e] [] pos) (fX aE):=⟨λρ M aa G σ H R ms en h=>
 toI (pi_range1 F.gl hm (pa_cons cS pa_nil hs) hs) (h1.seq ms en h λay au M1 H1 v s g1 m1 r1 aD=>by
  split at aD
  ·split at aD
   ·rename_i n hb
    exact⟨n,by rw[jg r1],hb.1,hb.2,aD ay au H1 _ (aJ.refl _ _ _) m1 apA⟩
   ·exact aD.elim
  ·exact aD.elim)⟩
def sJ (M:List ak):af->Option Its
 | .dat (.lst ds)=>some (.data (fq 0 ds))
 | .dat (.tup ds)=>some (.data (fq 0 ds))
 | .dat (.str z)=>some (.data (fq 0 (iQ z)))
 | .mu j=>match M[j]? with
  |some (.lst xs)=>some (.live xs.length (zB j) (vq j xs.length))
  |_=>none
 |_=>none
def mj (f:CE):jt:=λρ=>(f ρ).bind λs=>λM=>match sJ M s with
 |some its=>.ret (.ok its M)
 |none=>.bad
theorem HW (F:eK X "enumerate")(hm:X.mg "enumerate"=none)(h1:bf X W e aE)(hs:starEach [e] X.env=[(false,eval e X.env)]:=by rfl):pP X W (.Tuple elts kk mX) (.Call (.Name "enumerate" p) [e] [] pos) (mj aE):=⟨λρ M aa G σ H R ms en h=>by
 intro pins s I;have hw:wE X e σ H λv H1=>(∃a xs,v=.ref a/\SqL X.K H1 a xs/\R (Ite X.K a) H1)\/(∃a xs,v=.ref a/\SqT X.K H1 a xs/\R (Ay X.K a) H1)\/∃z,v=.str z/\R (Ax z) H1:=by
  refine h1.seq ms en h λay au M1 H1 v s g1 m1 r1 aD=>?_
  cases hi:sJ M1 s with
  |none=>simp only[hi]at aD;exact aD.elim
  |some its=>
   simp only[hi]at aD;have q:∀J,nV X.K J its ay au->R J H1:=λJ i7=>aD ay au H1 J (aJ.refl _ _ _) m1 i7
   unfold sJ at hi;split at hi
   ·cases hi
    cases r1 with
    |lst hq r=>exact .inl ⟨_,_,rfl,SqL.of (m1.le.lst hq),q _ (apu (SqL.of hq) r)⟩
   ·cases hi
    cases r1 with
    |tup hq r=>exact .inr (.inl ⟨_,_,rfl,m1.le.t (.inl (.inl hq)),q _ (apw (.inl (.inl hq)) r)⟩)
   ·cases hi
    cases r1
    exact .inr (.inr ⟨_,rfl,q _ apv⟩)
   ·rename_i j
    split at hi
    ·rename_i xs hj
     cases hi
     obtain⟨a,e1,rfl⟩:=r1;obtain⟨vs,e2,e3⟩:=(m1.mo j a _ e1 hj).2;exact .inl ⟨_,_,rfl,SqL.of e2,q _ (apz e1)⟩
    ·cases hi
   ·cases hi
 refine Call_ (ld_blt I F.gl hm boot_enumerate (PyProof.Rows.callWith_type1 (thn (PA.run (pa_cons (cS (X:=X) (e:=e)) pa_nil hs) pos pins s σ H (λvs H1=>∃v,vs=[v]/\((∃a xs,v=.ref a/\SqL X.K H1 a xs/\R (Ite X.K a) H1)\/(∃a xs,v=.ref a/\SqT X.K H1 a xs/\R (Ay X.K a) H1)\/∃z,v=.str z/\R (Ax z) H1)) I ?_) λus s1 ⟨vs,H1,bY,r1,q1⟩=>?_) hs rfl))
 ·exactλpins s I=>wpAny_mono (hw pins s I) (λw aF ⟨v,H',eL,b6,q⟩=>⟨v,H',eL,b6,⟨v,rfl,q⟩⟩) λ_ _ x=>x
 obtain⟨v,ex,q1⟩:=q1;subst ex;cases r1 with
 |cons r cW=>
  cases cW
  have Lr:∀b∈[s1.heap.objs.size+1,s1.heap.objs.size],FpOk X pins H1 b:=λb hb=>by
   have g9:b=s1.heap.objs.size+1\/b=s1.heap.objs.size:=by simpa using hb
   have hle:s1.heap.objs.size<=b:=by
    rcases g9 with z|z
    ·rw[z];exact Nat.le_add_right _ _
    ·rw[z];exact Nat.le_refl _
   exact bY.fpOk hle (bY.hok.fresh hle)
  rcases q1 with⟨a,xs,ev,hq,q⟩|⟨a,xs,ev,hq,q⟩|⟨z,ev,q⟩
  ·subst ev
   cases r
   obtain⟨its,b6,j_,hz⟩:=bY.list hq;refine call_enumerate_list j_.isList λh' he hit hsz hk=>wpAny_pyIter_enum he ?_
   exact⟨s1.heap.objs.size+1,[s1.heap.objs.size+1,s1.heap.objs.size],_,_,H1,rfl,bY.kept (t':=s1.toks) hk,turn_enum a (s1.heap.objs.size+1) s1.heap.objs.size,⟨⟨.none,he⟩,hit,Nat.succ_ne_self _⟩,Lr,q⟩
  ·subst ev
   cases r
   obtain⟨its,b6,j_,hz⟩:=bY.tuple hq;have hlt:a<s1.heap.objs.size:=by obtain⟨o,ho,_⟩:=j_;exact Heap.lt_size ho
   refine S8 (begins_tuple a its.toArray) j_ λh' he hit hsz hk=>wpAny_pyIter_enum he ?_
   exact⟨s1.heap.objs.size+1,[s1.heap.objs.size+1,s1.heap.objs.size],_,_,H1,rfl,bY.kept (t':=s1.toks) hk,ap6 a (s1.heap.objs.size+1) s1.heap.objs.size its.toArray,⟨⟨.none,he⟩,⟨_,hit,rfl,rfl⟩,Nat.succ_ne_self _,Nat.ne_of_lt hlt,Nat.ne_of_lt (Nat.lt_succ_of_lt hlt)⟩,Lr,q⟩
  ·subst ev
   obtain⟨t,rfl⟩:=r;refine S8 (begins_text z t) trivial λh' he hit hsz hk=>wpAny_pyIter_enum he ?_
   exact⟨s1.heap.objs.size+1,[s1.heap.objs.size+1,s1.heap.objs.size],_,_,H1,rfl,bY.kept (t':=s1.toks) hk,ap5 z t (s1.heap.objs.size+1) s1.heap.objs.size,⟨⟨.none,he⟩,⟨_,hit,rfl,rfl⟩,Nat.succ_ne_self _⟩,Lr,q⟩⟩
end
def mO (n:Nat):af->Bool
 | .mu j=>decide (j<n)
 |_=>true
def pV (n:Nat):ak->Bool
 | .lst xs=>xs.all (mO n)
 | .dK xs=>xs.all λp=>mO n p.2
 | .dT xs=>xs.all λp=>mO n p.2
 | .ins _ xs=>xs.all λp=>mO n p.2
 |_=>true
def closed (n:Nat)(M:List ak):Bool:=(M.take n).all (pV n)
def cut (n:Nat)(M:List ak):List ak:=if closed n M then M.take n else M
def zo:af->Bool
 | .dat _=>true
 |_=>false
def ahd:ak->Bool
 | .lst xs=>xs.all zo
 | .dK xs=>xs.all λp=>zo p.2
 | .dT xs=>xs.all λp=>zo p.2
 | .ins _ xs=>xs.all λp=>zo p.2
 |_=>false
def clean (m:Bool)(n:Nat)(s:af):Ev af:=λM=>match s with
  | .mu j=>if j<n then .ret (.ok s (cut n M))else if m then(match M[j]? with
      |some o=>if ahd o&&closed n M&&decide (n<=M.length)then .ret (.ok (.mu n) (M.take n++[o]))else .ret (.ok s M)
      |none=>.bad)else(match iJ M s with
      |some (d,az)=>.ret (.ok (.dat d) (cut n az))
      |none=>.bad)
  |s=>.ret (.ok s (cut n M))
section
variable{K:Frag}{aa aq:List Addr}{G aj H H':Hp}{M az:List ak}
theorem KP {n:Nat}{v:V}{s:af}(h:mO n s=true)(r:bF K aa G v s):bF K (aa.take n) G v s:=by
 cases s with
 |mu j=>
  have hj:j<n:=of_decide_eq_true h;obtain⟨a,e1,e2⟩:=r;exact⟨a,by rw[List.getElem?_take_of_lt hj];exact e1,e2⟩
 |_=>exact r
theorem Th {n:Nat}:∀{vs:List V} {ss:List af},ss.all (mO n)=true->bM K aa G vs ss->bM K (aa.take n) G vs ss
 |_,_,_,.nil=>.nil
 |_,_::_,h,.cons r t=>by
  rw[List.all_cons,Bool.and_eq_true]at h;exact .cons (KP h.1 r) (Th h.2 t)
theorem Ew {c7:Type}{n:Nat}:∀{vs:List (c7×V)} {ss:List (c7×af)},(ss.all λp=>mO n p.2)=true->iH K aa G vs ss->iH K (aa.take n) G vs ss
 |_,_,_,.nil=>.nil
 |_,_::_,h,.cons r t=>by
  rw[List.all_cons,Bool.and_eq_true]at h;exact .cons ⟨r.1,KP h.1 r.2⟩ (Ew h.2 t)
theorem adz {n:Nat}{a:Addr}{m:ak}(h:pV n m=true)(k:pN K aa G H a m):pN K (aa.take n) G H a m:=by
 cases m with
 |fz o=>exact k
 |hand=>exact k
 |tab i=>exact k
 |lst xs=>obtain⟨vs,e,r⟩:=k;exact⟨vs,e,Th h r⟩
 |dK xs=>obtain⟨vs,e,r⟩:=k;exact⟨vs,e,Ew h r⟩
 |dT xs=>obtain⟨vs,e,r⟩:=k;exact⟨vs,e,Ew h r⟩
 |ins c xs=>obtain⟨bO,vs,e,r⟩:=k;exact⟨bO,vs,e,Ew h r⟩
 |t9 xs=>exact k
theorem GO {n:Nat}(ms:aK K aa G M H)(h:closed n M=true):aK K (aa.take n) G (M.take n) H:=by
 refine⟨ms.le,by rw[List.length_take,List.length_take,ms.len],ms.nd.sublist (List.take_sublist _ _),λj a m e1 e2=>?_,λa ha=>ms.fk a (List.mem_of_mem_take ha)⟩;have hj:j<n:=by
  have:=(List.getElem?_eq_some_iff.mp e2).1;rw[List.length_take]at this;omega
 rw[List.getElem?_take_of_lt hj]at e1 e2;obtain⟨q1,q2⟩:=ms.mo j a m e1 e2;refine⟨q1,adz ?_ q2⟩;have:=List.all_eq_true.mp h m;exact this (List.mem_take_iff_getElem.mpr ⟨j,by have:=(List.getElem?_eq_some_iff.mp e2).1;omega,by have:=(List.getElem?_eq_some_iff.mp e2).2;exact this⟩)
theorem LK (g:aJ aa G H aq aj H'):aJ aa G H (aq.take aa.length) aj H':=by
 obtain⟨m,e,_⟩:=g.pre;refine⟨g.ex,⟨[],by rw[e];simp,by simp⟩,g.fr,g.l5,g.fk⟩
theorem oQ {AF:Prop}(ms:aK K aa G M H)(g:aJ aa G H aq aj H')(m':aK K aq aj az H')(q:∀aU,aJ aa G H aU aj H'->aK K aU aj (cut aa.length az) H'->(∀(j:Nat) a,aa[j]?=some a->aU[j]?=some a)->AF):AF:=by
 unfold cut at q;by_cases h:closed aa.length az=true
 ·rw[if_pos h]at q
  refine q _ (LK g) (GO m' h) λj a e=>?_
  have:=g.get e;rw[List.getElem?_take_of_lt (List.getElem?_eq_some_iff.mp e).1];exact this
 ·rw[if_neg h]at q
  exact q aq g m' λj a e=>g.get e
end
def kq (K:Frag)(Q:VK)(E:XK)(aa:List Addr)(G H:Hp):Re af->Prop
 | .ok s az=>∀aq aj H' v,aJ aa G H aq aj H'->aK K aq aj az H'->bF K aq aj v s->Q v H'
 | .ex c fs az=>∀aq aj H' d bU,aJ aa G H aq aj H'->aK K aq aj az H'->aj d=some (.xd bU)->gR K aj bU fs->E (.ref (cy K c)) (some d) H'
abbrev aM:Type:=List af->Ev af
def gy (K:Frag)(np:Nat)(F:aM):Sp:=λvs H Q E=>∃aa G M ss,aK K aa G M H/\bM K aa G vs ss/\ss.length=np/\wp (F ss M) (kq K Q E aa G H)
def mD (m:Bool)(n:Nat):Re bW->T (Re af)
 | .ok (.nx _) M=>.ret (.ok (.dat .non) (cut n M))
 | .ok (.rt s) M=>clean m n s M
 | .ok (.bk _) _=>.bad
 | .ok (.ct _) _=>.bad
 | .ex c fs M=>.ret (.ex c fs (cut n M))
def aR (m:Bool)(np n:Nat)(b:aN):aM:=λss M=>if ss.length=np then(b (ss++List.replicate (n-np) .un) M).bind (mD m M.length)else .bad
theorem gp {m:Bool}{np n:Nat}{b:aN}{ss:List af}{M:List ak}{Q:Re af->Prop}(h:wp (aR m np n b ss M) Q):ss.length=np:=by
 unfold aR at h;split at h
 ·assumption
 ·exact h.elim
theorem BB {K:Frag}{aa:List Addr}{G:Hp}{vs:List V}{ss:List af}{N:List Str}(r:bM K aa G vs ss):cz K aa G (L2.start N vs) (ss++List.replicate (N.length-ss.length) .un):=by
 unfold L2.start;refine⟨by simp[r.length],λi s e=>?_⟩;by_cases h:i<ss.length
 ·rw[List.getElem?_append_left h]at e
  obtain⟨v,h1,h2⟩:=r.get e;refine .inr ⟨v,?_,h2⟩;rw[List.getElem?_append_left (by simpa[r.length]using h),List.getElem?_map,h1];rfl
 ·rw[List.getElem?_append_right (by omega),List.getElem?_replicate]at e
  split at e
  ·exact .inl (Option.some.inj e).symm
  ·cases e
theorem Ey {K:Frag}{Q:VK}{E:XK}{aa aq:List Addr}{G H aj H':Hp}{M az:List ak}{m:Bool}{v:V}{s:af}(ms:aK K aa G M H)(g:aJ aa G H aq aj H')(m':aK K aq aj az H')(r:bF K aq aj v s)
    (h:wp (clean m M.length s az) (kq K Q E aa G H)):Q v H':=by
  have hn:M.length=aa.length:=ms.len.symm;unfold clean at h;rw[hn]at h;split at h
  · rename_i j
    split at h
    · rename_i hj
      refine oQ ms g m' λaU g2 m2 lk=>h aU aj H' v g2 m2 ?_
      obtain⟨a,e1,e2⟩:=r;have hA:aa[j]?=some aa[j]:=by simp[hj]
      have:=g.get hA;rw[this]at e1;cases e1;exact⟨_,lk j _ hA,e2⟩
    · rename_i hj
      split at h
      · split at h
        · rename_i o ho
          split at h
          · rename_i hb
            rw[Bool.and_eq_true,Bool.and_eq_true,decide_eq_true_eq]at hb;obtain⟨⟨hd,hc⟩,hl⟩:=hb;obtain⟨a,e1,rfl⟩:=r;obtain⟨q1,q2⟩:=m'.mo j a o e1 ho;obtain⟨more,gu,hm⟩:=g.pre;have agq:a∉aq.take aa.length:=λz=>by
              obtain⟨i,hi,ag6⟩:=List.mem_take_iff_getElem.mp z;have:i=j:=m'.inj (a:=a) (by rw[List.getElem?_eq_getElem (by omega),ag6]) e1;omega
            have hH:H a=none:=hm a (by
              rw[gu,List.getElem?_append_right (by omega)]at e1;exact List.mem_of_getElem? e1)
            have mt:=GO m' hc;have hlen:(aq.take aa.length).length=aa.length:=by rw[List.length_take,gu,List.length_append];omega
            have hlenM:(az.take aa.length).length=aa.length:=by rw[List.length_take,<-m'.len,gu,List.length_append];omega
            have ahh:∀{ss:List af} {ay:List Addr} {vs:List V},ss.all zo=true->bM K aq aj vs ss->bM K ay aj vs ss:=λ{ss ay vs}=>by
              intro hs hr;induction hr with
              |nil=>exact .nil
              |cons r1 _ ih=>
                rw[List.all_cons,Bool.and_eq_true]at hs;refine .cons ?_ (ih hs.2);rename_i b _ _ _;cases b with
                |dat d=>exact r1
                |_=>cases hs.1
            have MF:∀{c7:Type} {ss:List (c7×af)} {ay:List Addr} {vs:List (c7×V)},(ss.all λp=>zo p.2)=true->iH K aq aj vs ss->iH K ay aj vs ss:=λ{c7 ss ay vs}=>by
              intro hs hr;induction hr with
              |nil=>exact .nil
              |cons r1 _ ih=>
                rw[List.all_cons,Bool.and_eq_true]at hs;refine .cons ⟨r1.1,?_⟩ (ih hs.2);rename_i b _ _ _;obtain⟨k,b⟩:=b;cases b with
                |dat d=>exact r1.2
                |_=>cases hs.1
            have akt:∀ay,pN K ay aj H' a o:=λay=>by
              cases o with
              |fz _=>cases hd
              |hand=>cases hd
              |tab i=>cases hd
              |lst xs=>obtain⟨vs,aD,bK⟩:=q2;exact⟨vs,aD,ahh hd bK⟩
              |dK xs=>obtain⟨vs,aD,bK⟩:=q2;exact⟨vs,aD,MF hd bK⟩
              |dT xs=>obtain⟨vs,aD,bK⟩:=q2;exact⟨vs,aD,MF hd bK⟩
              |ins c xs=>obtain⟨bO,vs,aD,bK⟩:=q2;exact⟨bO,vs,aD,MF hd bK⟩
              |t9 xs=>cases hd
            have aj8:o.live:=by cases o<;>first|(cases hd;done)|trivial
            have m2:aK K (aq.take aa.length++[a]) aj (az.take aa.length++[o]) H':=by
              refine⟨mt.le,by simp[mt.len],?_,λi b Cu f1 f2=>?_,λb hb=>?_⟩
              · rw[List.nodup_append]
                refine⟨mt.nd,by simp,λb hb c hc=>?_⟩;have:c=a:=by simpa using hc
                subst this;exactλz=>agq (z▸hb)
              · by_cases hi:i<aa.length
                · rw[List.getElem?_append_left (by rw[hlen];exact hi)]at f1
                  rw[List.getElem?_append_left (by rw[hlenM];exact hi)]at f2;obtain⟨fH,cI⟩:=mt.mo i b Cu f1 f2;exact⟨fH,cI.mono (cG.refl aj) (λj c e=>by rw[List.getElem?_append_left (List.getElem?_eq_some_iff.mp e).1];exact e) rfl⟩
                · rw[List.getElem?_append_right (by rw[hlen];omega),hlen]at f1
                  rw[List.getElem?_append_right (by rw[hlenM];omega),hlenM]at f2;have z:i-aa.length=0:=by
                    cases hz:i-aa.length with
                    |zero=>rfl
                    |succ n=>rw[hz]at f1;simp at f1
                  rw[z]at f1 f2;simp at f1 f2;subst f1 f2;exact⟨λ_=>q1 aj8,akt _⟩
              · rcases List.mem_append.mp hb with z|z
                · exact mt.fk b z
                · have:b=a:=by simpa using z
                  subst this;exact m'.fk _ (List.mem_of_getElem? e1)
            have g2:aJ aa G H (aq.take aa.length++[a]) aj H':=by
              have gt:=LK g;refine⟨gt.ex,⟨[a],by rw[gu];simp,λb hb=>?_⟩,gt.fr,gt.l5,gt.fk⟩;have:b=a:=by simpa using hb
              subst this;exact hH
            exact h _ aj H' _ g2 m2 (CM (by rw[List.getElem?_append_right (by rw[hlen];exact Nat.le_refl _),hlen,Nat.sub_self];rfl))
          · exact h aq aj H' v g m' r
        · exact h.elim
      · split at h
        · rename_i d M2 hf
          obtain⟨aV,m2,g2,r2⟩:=wZ m' r hf;exact oQ ms (g.trans g2) m2 λdO g3 m3 _=>h dO aV H' v g3 m3 r2
        · exact h.elim
  · rename_i hs
    refine oQ ms g m' λaU g2 m2 lk=>h aU aj H' v g2 m2 ?_
    cases s with
    |mu j=>exact absurd rfl (hs j)
    |un=>exact r
    |dat d=>exact r
    |raw w=>exact r
section
variable{P:Program}{w:World}{K:Frag}{mg:Str->Option Value}{base:Heap}{x qual:Str}{eo:Stmt}{f:Addr}{fd:FuncData}{N ps:List Str}{k:Nat}
abbrev dG (P:Program)(w:World)(K:Frag)(mg:Str->Option Value)(base:Heap)(N:List Str)(qual:Str)(sc:Scope)(f:Addr)(cdv:Value)(A:Around)(outer:List Env)(s:Shared)(H:Hp)(E:XK):Cx:=cxOf (L2.CX P w) P w K mg base N qual sc f cdv A outer s H E
theorem fn_ok (m:Bool)(F:Fun K x qual eo f fd)(S:FnScope N ps (defScope eo)){oU:aN}
    (body:∀cdv A outer s H E,Room k (A.deeper (envOfC qual (defScope eo) s.heap.objs.size f cdv))->
      SB (dG P w K mg base N qual (defScope eo) f cdv A outer s H E) (λcls d _ H=>E cls d H) (defBody eo) oU):FnOk P w K mg base (L2.CX P w) (k+1) f fd ps (gy K ps.length (aR m ps.length N.length oU)):=by
  refine F.okX S (λvs H Q E h=>?_) (λcdv A outer s H vs Q E hr h=>?_)
  · obtain⟨aa,G,M,ss,_,r,e,_⟩:=h
    rw[r.length,e]
  · obtain⟨aa,G,M,ss,ms,r,e,h⟩:=h
    have en:=BB (K:=K) (aa:=aa) (G:=G) (N:=N) r;rw[e]at en;unfold aR at h;rw[if_pos e]at h;refine⟨_,xP,(body cdv A outer s H E hr).run _ M aa G (L2.start N vs) H {nx:=λ_ H'=>Q .non H',rt:=Q} ms en (wp_mono (λr hr=>?_) (wp_bind.mp h))⟩;cases r with
    |ex c fs M1=>
      intro aZ aq aj H' d bU g1 m1 e1 r1;rw[show M.length=aa.length from ms.len.symm]at hr;exact oQ ms g1 m1 λaU g2 m2 _=>hr aU aj H' d bU g2 m2 e1 r1
    |ok a M1=>
      cases a with
      |nx aY=>
        intro aq aj H' aZ g1 m1 _;have hr:kq K Q E aa G H (.ok (.dat .non) (cut M.length M1)):=hr;rw[show M.length=aa.length from ms.len.symm]at hr;exact oQ ms g1 m1 λaU g2 m2 _=>hr aU aj H' .non g2 m2 xR
      |rt s1=>exactλaq aj H' v g1 m1 r1=>Ey ms g1 m1 r1 hr
      |bk aY=>exact(show False from hr).elim
      |ct aY=>exact(show False from hr).elim
end
structure iw where
 prog:Program
 w:World
 K:Frag
 mg:Str->Option Value
 base:Heap
abbrev _root_.L2.Cx.iR (X:Cx):iw:=⟨X.prog,X.w,X.K,X.mg,X.base⟩
section
variable{X:Cx}{W:WX}{e o:Expr}{es:List Expr}{aE:CE}{fs:aH}{x m:Str}{p pos apos:Pos}{F:aM}{k n:Nat}{ps:List Str}
structure iU (D:iw)(k:Nat)(x:Str)(np:Nat)(F:aM):Prop where
 ex:∃f fd ps,FnOk D.prog D.w D.K D.mg D.base (L2.CX D.prog D.w) k f fd ps (gy D.K np F)/\D.mg x=some (.ref f)/\PySem.W.keepIn D.K (.ref f)=true/\Binds D.K fd ps []
def bB (F:aM)(fs:aH):CE:=λρ=>(fs ρ).bind F
theorem fM (C:iU X.iR k x n F)(hl:∀{ss M Q},wp (F ss M) Q->ss.length=n)(hr:Room k X.A)(G:eK X x)(tk:Takes X W)(h1:jN X W (e::es) fs)
    (he:starEach (e::es) X.env=(false,eval e X.env)::starEach es X.env:=by rfl) (hpl:(backTo pos (starEach es X.env)).any (·.1)=false:=by rfl):bf X W (.Call (.Name x p) (e::es) [] pos) (bB F fs):=⟨λρ M aa sf σ H Q ms en h=>by
  obtain⟨f,fd,ps,c_,hm,hk,hb⟩:=C.ex;exact toE (pe_callS c_ hr G.gl hm hk hb (λσ=>passAt tk σ) uy G.nd he hpl) (h1.seq ms en h λay au M1 H1 vs ss g1 m1 r1 aD=>⟨ay,au,M1,ss,m1,r1,hl aD,wp_mono (λr hr=>by
    cases r with
    |ok s M2=>exact hr
    |ex c fs M2=>exact hr) aD⟩)⟩
def k_ (M:List ak)(m:Str):af->Option Nat
 | .dat (.ins c fs)=>if(fs.lookup m).isNone then some c else none
 | .mu j=>match M[j]? with
  |some (.ins c fs)=>if(fs.lookup m).isNone then some c else none
  |_=>none
 |_=>none
theorem iH.Cn {K:Frag}{aa:List Addr}{G:Hp}{n:Str}:∀{bU:List (Str×V)} {fs:List (Str×af)},iH K aa G bU fs->fs.lookup n=none->bU.lookup n=none
 |_,_,.nil,e=>rfl
 |(g,x)::bU,(eg,y)::fs,.cons ⟨e0,r⟩ t,e=>by
  have e0:g=eg:=e0;subst e0;rw[List.lookup_cons]at e⊢;cases q:(n==g)with
  |true=>rw[q]at e;cases e
  |false=>rw[q]at e;exact iH.Cn t e
theorem VQ {K:Frag}{aa:List Addr}{G H:Hp}{M:List ak}{v:V}{s:af}{c:Nat}(ms:aK K aa G M H)(r:bF K aa G v s)(h:k_ M m s=some c):∃a bO bU,v=.ref a/\H a=some (.ins (cy K c) bO bU)/\bU.lookup m=none:=by
 cases s with
 |dat d=>
  cases d with
  |ins c' fs=>
   unfold k_ at h
   dsimp only at h
   split at h
   ·rename_i hn
    cases h
    cases r with
    |ins ha hf=>exact⟨_,_,_,rfl,ms.le.ins ha,hf.Cn (Option.isNone_iff_eq_none.mp hn)⟩
   ·cases h
  |_=>cases h
 |mu j=>
  unfold k_ at h
  dsimp only at h
  split at h
  ·rename_i c' fs hj
   split at h
   ·rename_i hn
    cases h
    obtain⟨a,e1,rfl⟩:=r;obtain⟨bO,bU,e2,e3⟩:=(ms.mo j a _ e1 hj).2;exact⟨a,bO,bU,rfl,e2,e3.Cn (Option.isNone_iff_eq_none.mp hn)⟩
   ·cases h
  ·cases h
 |_=>cases h
structure abw (D:iw)(k:Nat)(c:Nat)(m:Str)(np:Nat)(F:aM):Prop where
 ex:∃f fd ps,FnOk D.prog D.w D.K D.mg D.base (L2.CX D.prog D.w) k f fd ps (gy D.K np F)/\Meth D.K (cy D.K c) m f/\Cls D.K (cy D.K c)/\Binds D.K fd ps []
 len:∀{ss M Q},wp (F ss M) Q->ss.length=np
abbrev bN:Type:=List (Nat×aM)
def AD (D:iw)(k:Nat)(m:Str)(t:bN):Prop:=∀c F,t.lookup c=some F->∃np,abw D k c m np F
def yU (m:Str)(t:bN)(aE:CE)(fs:aH):CE:=λρ=>(aE ρ).bind λo=>λM=>match k_ M m o with
 |some c=>match t.lookup c with
  |some F=>Ev.bind (fs ρ) (λss=>F (o::ss)) M
  |none=>.bad
 |none=>.bad
theorem ZQ {pins:List (Addr×Obj)}{σ:L2.St}{H:Hp}{s:Shared}{Q:VK}{c:Nat}{a:Addr}{f:Addr}{fd:FuncData}{aa:List Addr}{G:Hp}{M:List ak}{us:List Value}{vs:List V}{so:af}{ss:List af}(c_:FnOk X.prog X.w X.K X.mg X.base (L2.CX X.prog X.w) k f fd ps (gy X.K n F))(hb:Binds X.K fd ps [])(hl:∀{ss M Q},wp (F ss M) Q->ss.length=n)(hr:Room k X.A)(tk:Takes X W)
    (I:Inv X pins σ H s) (b6:Vals vs us) (ms:aK X.K aa G M H) (r0:bF X.K aa G (.ref a) so) (r:bM X.K aa G vs ss) (w:wp (F (so::ss) M) (dB X W (bF X.K) Q σ aa G H)):wpAny (model X.prog X.w) X.A (call (.ref f) (.ref a::us)) (EP X pins σ Q) X.xe s:=
  run_fnS (us:=.ref a::us) (vs:=.ref a::vs) c_ hr hb (passAt tk σ) I (.cons rfl b6) ⟨aa,G,M,so::ss,ms,.cons r0 r,hl w,wp_mono (λr hr=>by
    cases r with
    |ok s M2=>exact hr
    |ex c fs M2=>exact hr) w⟩
theorem anw {pl:Sem Bool}(T:AD X.iR k m t)(hr:Room k X.A)(tk:Takes X W)(h0:bf X W o aE)(h1:jN X W (e::es) fs)
    (eZ:starEach (e::es) X.env=(false,eval e X.env)::starEach es X.env:=by rfl) (hpl:(backTo pos (starEach es X.env)).any (·.1)=false:=by rfl)
    (ht:eval (.Call (.Attribute o m apos) (e::es) [] pos) X.env=(do
      let lO <-eval o X.env
      standAt apos.atName
      let(f,first) <-holding [lO] (getMethod lO m pl)
      callWith pos f first (backTo pos (starEach (e::es) X.env)) (backToKw pos (keywordEach [] X.env))):=by rfl):bf X W (.Call (.Attribute o m apos) (e::es) [] pos) (yU m t aE fs):=⟨λρ M aa G σ H Q ms en h=>by
  intro pins s I;have hw:wE X o σ H λv H1=>∃ay au M1 s1,aJ aa G H ay au H1/\aK X.K ay au M1 H1/\bF X.K ay au v s1/\∃c F,k_ M1 m s1=some c/\t.lookup c=some F/\wp (Ev.bind (fs ρ) (λss=>F (s1::ss)) M1) (dB X W (bF X.K) Q σ ay au H1):=
    h0.seq ms en h λay au M1 H1 v s1 g1 m1 r1 aD=>by
      cases hc:k_ M1 m s1 with
      |none=>simp only[hc]at aD;exact aD.elim
      |some c=>
        cases hF:t.lookup c with
        |none=>simp only[hc,hF]at aD;exact aD.elim
        |some F=>simp only[hc,hF]at aD;exact⟨ay,au,M1,s1,g1,m1,r1,c,F,hc,hF,aD⟩
  refine PySem.W.methodCall_KW (pl:=pl) (thn (hw pins s I) λu s1 ⟨v,H1,bY,cM,ay,au,M1,sl,g1,m1,r1,c,F,hc,hF,aD⟩=>?_) ht;obtain⟨a,bO,bU,rfl,ea,l⟩:=VQ m1 r1 hc;obtain rfl:u=Value.ref a:=cM;obtain⟨np,AA⟩:=T c F hF;obtain⟨f,fd,ps,c_,hm,cl,hb⟩:=AA.ex;refine getmeth_ok bY ea cl hm l ?_;have uf:=h1.seq m1 (en.grow g1) aD (Q':=λvs aS=>∃aU aV M2 ss,aJ ay au H1 aU aV aS/\aK X.K aU aV M2 aS/\bM X.K aU aV vs ss/\wp (F (sl::ss) M2) (dB X W (bF X.K) Q σ aU aV aS)) λaU aV M2 aS vs ss g2 m2 r2 bK=>⟨aU,aV,M2,ss,g2,m2,r2,bK⟩
  refine PySem.W.callWith_K (first:=[.ref a]) (h₀:=X.base) I.ok.mod.kin hm.kp (thn (uf pos pins s1 bY) λus s2 ⟨vs,aS,d7,b6,aU,aV,M2,ss,g2,m2,r2,bK⟩=>⟨d7.kIn,?_⟩) eZ hpl;exact ZQ (c:=c) c_ hb AA.len hr tk d7 b6 m2 (r1.grow g2) r2 bK⟩
def m_ (m:Str)(t:bN)(aE:CE):CE:=λρ=>(aE ρ).bind λo=>λM=>match k_ M m o with
 |some c=>match t.lookup c with
  |some F=>F [o] M
  |none=>.bad
 |none=>.bad
theorem PR {pl:Sem Bool}(T:AD X.iR k m t)(hr:Room k X.A)(tk:Takes X W)(h0:bf X W o aE)
    (ht:eval (.Call (.Attribute o m apos) [] [] pos) X.env=(do
      let lO <-eval o X.env
      standAt apos.atName
      let(f,first) <-holding [lO] (getMethod lO m pl)
      callWith pos f first (backTo pos (starEach [] X.env)) (backToKw pos (keywordEach [] X.env))):=by rfl):bf X W (.Call (.Attribute o m apos) [] [] pos) (m_ m t aE):=⟨λρ M aa G σ H Q ms en h=>by
  intro pins s I;have hw:wE X o σ H λv H1=>∃ay au M1 s1,aJ aa G H ay au H1/\aK X.K ay au M1 H1/\bF X.K ay au v s1/\∃c F,k_ M1 m s1=some c/\t.lookup c=some F/\wp (F [s1] M1) (dB X W (bF X.K) Q σ ay au H1):=
    h0.seq ms en h λay au M1 H1 v s1 g1 m1 r1 aD=>by
      cases hc:k_ M1 m s1 with
      |none=>simp only[hc]at aD;exact aD.elim
      |some c=>
        cases hF:t.lookup c with
        |none=>simp only[hc,hF]at aD;exact aD.elim
        |some F=>simp only[hc,hF]at aD;exact⟨ay,au,M1,s1,g1,m1,r1,c,F,hc,hF,aD⟩
  refine PySem.W.methodCall_KW (pl:=pl) (thn (hw pins s I) λu s1 ⟨v,H1,bY,cM,ay,au,M1,sl,g1,m1,r1,c,F,hc,hF,aD⟩=>?_) ht;obtain⟨a,bO,bU,rfl,ea,l⟩:=VQ m1 r1 hc;obtain rfl:u=Value.ref a:=cM;obtain⟨np,AA⟩:=T c F hF;obtain⟨f,fd,ps,c_,hm,cl,hb⟩:=AA.ex;refine getmeth_ok bY ea cl hm l ?_;exact PySem.W.callWith_K0 bY.kIn hm.kp (ZQ (c:=c) (us:=[]) (vs:=[]) c_ hb AA.len hr tk bY .nil m1 r1 .nil aD)⟩
def qV (f:Str)(M:List ak):af->Option (af×List ak)
 | .dat (.ins _ fs)=>(fs.lookup f).map λd=>(.dat d,M)
 | .mu j=>match M[j]? with
  |some (.ins _ fs)=>(fs.lookup f).map λs=>(fB M s,M)
  |some (.fz (some (.ins _ fs)))=>(fs.lookup f).map λd=>(.dat d,M)
  |_=>none
 |_=>none
def clsAt (M:List ak):af->Option Nat
 | .dat (.ins c _)=>some c
 | .mu j=>match M[j]? with
  |some (.ins c _)=>some c
  |some (.fz (some (.ins c _)))=>some c
  |_=>none
 |_=>none
structure v5 (K:Frag)(C:Addr)(f:Str):Prop where
 cls:Cls K C
 no:NoAttr K C f
def j5 (f:Str)(cs:List Nat)(aE:CE):CE:=λρ=>(aE ρ).bind λs=>ofM λM=>match clsAt M s with
 |some c=>if cs.contains c then qV f M s else none
 |none=>none
theorem uE {f:Str}{cs:List Nat}(hf:∀c∈cs,v5 X.K (cy X.K c) f)(h1:bf X W e aE)(hb:attributeBase e f X.env (eval e X.env)=eval e X.env:=by rfl):bf X W (.Attribute e f pos) (j5 f cs aE):=⟨λρ M aa G σ H Q ms en h=>
 toE (pe_fld cS hb) (h1.seq ms en h λay au M1 H1 v s g1 m1 r1 aD=>by
  obtain⟨t,az,e1,q⟩:=ji.mp aD;cases hc:clsAt M1 s with
  |none=>simp only[hc]at e1;cases e1
  |some c=>
   simp only[hc]at e1;split at e1
   ·rename_i hm
    have sd:=hf c (by simpa using hm);cases s with
    |dat d=>
     cases d with
     |ins c' fs=>
      cases hc
      unfold qV at e1
      dsimp only at e1
      cases hl:fs.lookup f with
      |none=>rw[hl]at e1;cases e1
      |some f_=>
       rw[hl]at e1;cases e1;cases r1 with
       |ins hx FA=>
        obtain⟨u,e3,e4⟩:=FA.lookup hl;exact⟨_,_,_,_,u,rfl,m1.le.ins hx,sd.cls,sd.no,e3,q _ _ _ _ (aJ.refl _ _ _) m1 e4⟩
     |_=>cases hc
    |mu j=>
     obtain⟨a,e3,rfl⟩:=r1;unfold clsAt at hc;unfold qV at e1
     dsimp only at hc e1
     split at hc
     ·rename_i c' fs hj
      cases hc
      rw[hj]at e1
      dsimp only at e1
      cases hl:fs.lookup f with
      |none=>rw[hl]at e1;cases e1
      |some aF=>
       rw[hl]at e1;cases e1;obtain⟨bO,bU,e4,d_⟩:=(m1.mo j a _ e3 hj).2;have lk:∀{bU:List (Str×V)} {fs:List (Str×af)},iH X.K ay au bU fs->fs.lookup f=some aF->∃v,bU.lookup f=some v/\bF X.K ay au v aF:=by
        intro bU fs h;induction h with
        |nil=>intro z;cases z
        |cons r1 _ ih=>
         rename_i p q _ _ _;obtain⟨g,x⟩:=p;obtain⟨eg,y⟩:=q;have e0:g=eg:=r1.1;subst e0;intro z;rw[List.lookup_cons]at z⊢;cases Hz:(f==g)with
         |true=>rw[Hz]at z;cases z;exact⟨_,rfl,r1.2⟩
         |false=>rw[Hz]at z;exact ih z
       obtain⟨u,qS,ua⟩:=lk d_ hl;exact⟨a,_,bO,bU,u,rfl,e4,sd.cls,sd.no,qS,q _ _ _ _ (aJ.refl _ _ _) m1 (G9 m1 ua)⟩
     ·rename_i c' fs hj
      cases hc
      rw[hj]at e1
      dsimp only at e1
      cases hl:fs.lookup f with
      |none=>rw[hl]at e1;cases e1
      |some aF=>
       rw[hl]at e1;cases e1;have r2:=(m1.mo j a _ e3 hj).2.2 _ rfl;cases r2 with
       |ins hx FA=>
        obtain⟨u,e4,d_⟩:=FA.lookup hl;exact⟨_,_,_,_,u,rfl,m1.le.ins hx,sd.cls,sd.no,e4,q _ _ _ _ (aJ.refl _ _ _) m1 d_⟩
     ·cases hc
    |_=>cases hc
   ·cases e1)⟩
end
section
variable{X:Cx}{W:WX}{e o:Expr}{es:List Expr}{aE kU:CE}{fs:aH}{x m:Str}{p pos apos j_:Pos}{F:aM}{k n:Nat}{ps:List Str}{c:Nat}
def ur (fz:Bool)(n:Nat):Re af->T (Re af)
  | .ok (.dat .non) az=>if fz then(match iJ az (.mu n)with
      |some (d,M2)=>.ret (.ok (.dat d) (cut n M2))
      |none=>.bad)else .ret (.ok (.mu n) az)
  | .ok _ _=>.bad
  | .ex c fs az=>.ret (.ex c fs (cut n az))
def Bu (fz:Bool)(c:Nat)(F:aM)(fs:aH):CE:=λρ=>(fs ρ).bind λss=>λM=>(F (.mu M.length::ss) (M++[.ins c []])).bind (ur fz M.length)
structure Rp (D:iw)(k:Nat)(x:Str)(c np:Nat)(F:aM):Prop where
 ex:∃f fd ps,FnOk D.prog D.w D.K D.mg D.base (L2.CX D.prog D.w) k f fd ps (gy D.K np F)/\Mk D.K (cy D.K c) f/\D.mg x=some (.ref (cy D.K c))/\Binds D.K fd ps []
 len:∀{ss M Q},wp (F ss M) Q->ss.length=np
theorem alJ {C f:Addr}{fd:FuncData}{sp:Sp}{E:L2.St->XK}{pins:List (Addr×Obj)}{σ:L2.St}{H:Hp}{s:Shared}{Q:VK}{us:List Value}{vs:List V}(M:Mk X.K C f)(F:FnOk X.prog X.w X.K X.mg X.base (L2.CX X.prog X.w) k f fd ps sp)(hr:Room (k+1) X.A)(hb:Binds X.K fd ps [])
    (hx:PassesAt (L2.CX X.prog X.w) X σ (E σ)) (I:Inv X pins σ H s) (r:Vals vs us)
    (h:∀x bO,H x=none->H bO=none->bO≠x->sp (.ref x::vs) (upd (upd H bO (.own x)) x (.ins C bO [])) (λv aS=>v=.non/\Q (.ref x) aS) (E σ)):
    wpAny (model X.prog X.w) X.A (call (.ref C) us) (EP X pins σ Q) X.xe s:=by
  have hq:=h (s.heap.objs.size+1) s.heap.objs.size (I.hok.fresh (Nat.le_succ _)) (I.hok.fresh (Nat.le_refl _)) (Nat.ne_of_lt (Nat.lt_succ_self _));have d7:=Inv.made (C:=C) I;have r2:Vals (V.ref (s.heap.objs.size+1)::vs) (Value.ref (s.heap.objs.size+1)::us):=.cons rfl r;have hl:(Value.ref (s.heap.objs.size+1)::us).length=ps.length:=by
    have e:=r2.length;rw[F.len _ _ _ _ hq]at e;exact e.symm
  have b:=hb _ (Value.ref (s.heap.objs.size+1)::us) d7.kIn (by rw[List.append_nil];exact hl);rw[List.append_nil]at b;refine wpAny_call (make_map (f:=f) I.kIn M.makes M.init (beq_iff_eq.mp M.fn) (codeAny_mono (F.run _ X.stack _ _ ⟨Value.ref (s.heap.objs.size+1)::us,[]⟩ (Value.ref (s.heap.objs.size+1)::us) _ _ (E σ) (hr.make C us [])
    (d7.env0.make C us []) b r2 hq) λr aF xg=>?_))
  cases r with
  |error e=>exact hx pins _ _ e aF d7 xg
  |ok gG=>
    cases gG with
    |ret u=>
      obtain⟨v,H',v9,b6,ev,q3⟩:=d7.after xg;subst ev;exact⟨b6,⟨V.ref (s.heap.objs.size+1),H',v9,rfl,q3⟩⟩
    |next=>exact False.elim xg
    |brk=>exact False.elim xg
    |cont=>exact False.elim xg
theorem ajI {K:Frag}{aa:List Addr}{G H:Hp}{M:List ak}{y bO:Addr}(ms:aK K aa G M H)(hy:H y=none)(hd:H bO=none)(hn:bO≠y):
    aK K (aa++[y]) G (M++[.ins c []]) (upd (upd H bO (.own y)) y (.ins (cy K c) bO []))/\aJ aa G H (aa++[y]) G (upd (upd H bO (.own y)) y (.ins (cy K c) bO [])):=by
  have nd:bO∉aa:=λz=>ms.fk bO z hd
  have gd:G bO=none:=by
    cases q:G bO with
    |none=>rfl
    |some u=>rcases ms.le bO u q with z|⟨_,_,z⟩<;>rw[hd]at z<;>cases z
  have m1:aK K aa G M (upd H bO (.own y)):=NU ms nd gd;have g1:aJ aa G H aa G (upd H bO (.own y)):=LJ (aJ.refl _ _ _) hd;have agK:(upd H bO (.own y)) y=none:=by rw[upd_ne (Ne.symm hn)];exact hy
  obtain⟨m2,g2⟩:=m1.Yv (m:=.ins c []) (o:=.ins (cy K c) bO []) agK ⟨bO,[],upd_same,.nil⟩;exact⟨m2,g1.trans g2⟩
theorem Z0 (fz:Bool)(C:Rp X.iR k x c n F)(hr:Room (k+1) X.A)(G:eK X x)(tk:Takes X W)(h1:jN X W (e::es) fs)
    (he:starEach (e::es) X.env=(false,eval e X.env)::starEach es X.env:=by rfl) (hpl:(backTo pos (starEach es X.env)).any (·.1)=false:=by rfl):bf X W (.Call (.Name x p) (e::es) [] pos) (Bu fz c F fs):=⟨λρ M aa sf σ H Q ms en h=>by
  obtain⟨f,fd,ps,c_,Ro,hm,hb⟩:=C.ex;intro pins s I;have uf:=h1.seq ms en h (Q':=λvs H1=>∃ay au M1 ss,aJ aa sf H ay au H1/\aK X.K ay au M1 H1/\bM X.K ay au vs ss/\wp ((F (.mu M1.length::ss) (M1++[.ins c []])).bind (ur fz M1.length)) (dB X W (bF X.K) Q σ ay au H1)) λay au M1 H1 vs ss g1 m1 r1 aD=>⟨ay,au,M1,ss,g1,m1,r1,aD⟩
  refine wpAny_Call_Name_kw (ld_glob I G.gl hm ?_ G.nd);refine PySem.W.callWith_K (h₀:=X.base) I.ok.mod.kin Ro.kp (thn (uf pos pins s I) λus s1 ⟨vs,H1,bY,r,ay,au,M1,ss,g1,m1,r1,aD⟩=>⟨bY.kIn,?_⟩) he hpl;refine alJ Ro c_ hr hb (passAt tk σ) bY r λy bO hy hd hne=>?_
  obtain⟨m2,g2⟩:=ajI (c:=c) m1 hy hd hne;have bK:=wp_bind.mp aD;refine⟨ay++[y],au,M1++[.ins c []],.mu M1.length::ss,m2,.cons (CM (by rw[<-m1.len,List.getElem?_append_right (Nat.le_refl _),Nat.sub_self];rfl)) (r1.grow g2),C.len bK,wp_mono (λcW hr=>?_) bK⟩;cases cW with
  |ex c' fs' ck=>
    intro dO er fh d bU g3 m3 e3 r3;have hr:PX X W σ ay au H1 c' fs' (cut M1.length ck):=hr;rw[show M1.length=ay.length from m1.len.symm]at hr;exact oQ m1 (g2.trans g3) m3 λpH ni m4 _=>hr pH er fh d bU ni m4 e3 r3
  |ok s3 ck=>
    intro dO er fh v g3 m3 r3;unfold ur at hr;split at hr
    · rename_i we _
      rename_i e4;cases e4
      refine⟨ZC r3,?_⟩;have dZ:bF X.K dO er (.ref y) (.mu M1.length):=CM (g3.get (by rw[<-m1.len,List.getElem?_append_right (Nat.le_refl _),Nat.sub_self];rfl));split at hr
      · split at hr
        · rename_i d uT hf
          obtain⟨uP,zG,BK,ql⟩:=wZ m3 dZ hf;have hr:wp (.ret (.ok (.dat d) (cut M1.length uT)):T (Re af)) (dB X W (bF X.K) Q σ ay au H1):=hr;rw[show M1.length=ay.length from m1.len.symm]at hr;exact oQ m1 ((g2.trans g3).trans BK) zG λab4 aeU XW _=>hr ab4 uP fh (.ref y) aeU XW ql
        · exact hr.elim
      · exact hr dO er fh (.ref y) (g2.trans g3) m3 dZ
    · exact hr.elim
    · rename_i e4;cases e4⟩
structure acd (D:iw)(k:Nat)(c:Nat)(f:Str)(F:aM):Prop where
 ex:∃p g fd ps,FnOk D.prog D.w D.K D.mg D.base (L2.CX D.prog D.w) k g fd ps (gy D.K 1 F)/\Cls D.K (cy D.K c)/\PropOf D.K (cy D.K c) f p g/\Binds D.K fd ps []
def I_ (D:iw)(k:Nat)(f:Str)(t:bN):Prop:=∀c F,t.lookup c=some F->acd D k c f F
def vd (t:bN)(aE:CE):CE:=λρ=>(aE ρ).bind λo=>λM=>match clsAt M o with
 |some c=>match t.lookup c with
  |some F=>eT (F [o]) M
  |none=>.bad
 |none=>.bad
theorem u9 {K:Frag}{aa:List Addr}{G H:Hp}{M:List ak}{v:V}{s:af}{c:Nat}(ms:aK K aa G M H)(r:bF K aa G v s)(h:clsAt M s=some c):∃a bO bU,v=.ref a/\H a=some (.ins (cy K c) bO bU):=by
 cases s with
 |dat d=>
  cases d with
  |ins c' fs=>
   cases h
   cases r with
   |ins ha hf=>exact⟨_,_,_,rfl,ms.le.ins ha⟩
  |_=>cases h
 |mu j=>
  unfold clsAt at h
  dsimp only at h
  split at h
  ·rename_i c' fs hj
   cases h
   obtain⟨a,e1,rfl⟩:=r;obtain⟨bO,bU,e2,e3⟩:=(ms.mo j a _ e1 hj).2;exact⟨a,bO,bU,rfl,e2⟩
  ·rename_i c' fs hj
   cases h
   obtain⟨a,e1,rfl⟩:=r;have r2:=(ms.mo j a _ e1 hj).2.2 _ rfl;cases r2 with
   |ins hx FA=>exact⟨_,_,_,rfl,ms.le.ins hx⟩
  ·cases h
 |_=>cases h
theorem YE {σ:L2.St}{aa:List Addr}{G H:Hp}{Q:VK}{m:Ev af}{M:List ak}(h:wp (eT m M) (dB X W (bF X.K) Q σ aa G H)):wp (m M) (kq X.K Q (λ_ _ _=>False) aa G H):=wp_mono (λr hr=>by
 obtain⟨a,az,rfl,q⟩:=hr;exact q) (x7 h)
theorem PV {f:Str}{t:bN}(P:I_ X.iR k f t)(hr:Room (k+1) X.A)(h1:bf X W e aE)(hab:attributeBase e f X.env (eval e X.env)=eval e X.env:=by rfl):bf X W (.Attribute e f pos) (vd t aE):=⟨λρ M aa G σ H Q ms en h=>by
 intro pins s I;have hw:wE X e σ H λv H1=>∃ay au M1 s1,aJ aa G H ay au H1/\aK X.K ay au M1 H1/\bF X.K ay au v s1/\∃c F,clsAt M1 s1=some c/\t.lookup c=some F/\wp (eT (F [s1]) M1) (dB X W (bF X.K) Q σ ay au H1):=
  h1.seq ms en h λay au M1 H1 v s1 g1 m1 r1 aD=>by
   cases hc:clsAt M1 s1 with
   |none=>simp only[hc]at aD;exact aD.elim
   |some c=>
    cases hF:t.lookup c with
    |none=>simp only[hc,hF]at aD;exact aD.elim
    |some F=>simp only[hc,hF]at aD;exact⟨ay,au,M1,s1,g1,m1,r1,c,F,hc,hF,aD⟩
 refine attr_of hab (thn (hw pins s I) λu s1 ⟨v,H1,bY,cM,ay,au,M1,sl,g1,m1,r1,c,F,hc,hF,aD⟩=>?_);obtain⟨a,bO,bU,rfl,ea⟩:=u9 m1 r1 hc;obtain rfl:u=Value.ref a:=cM;obtain⟨pp,g,fd,ps,c_,cl,hp,hb⟩:=(P c F hF).ex;exact getprop_ok (E:=λ_ _ _=>False) bY ea cl hp c_ hr hb .nil passL ⟨ay,au,M1,[sl],m1,.cons r1 .nil,rfl,YE aD⟩⟩
def putS (f:Str)(v:af):List (Str×af)->List (Str×af)
 |[]=>[(f,v)]
 |(g,x)::r=>if g=f then(g,v)::r else(g,x)::putS f v r
theorem iH.put {K:Frag}{aa:List Addr}{G:Hp}{f:Str}{v:V}{s:af}(h:bF K aa G v s):∀{bU:List (Str×V)} {fs:List (Str×af)},iH K aa G bU fs->iH K aa G (putF f v bU) (putS f s fs)
 |_,_,.nil=>.cons ⟨rfl,h⟩ .nil
 |(g,x)::bU,(eg,y)::fs,.cons ⟨e,r⟩ t=>by
  have e:g=eg:=e;subst e;unfold putF putS;by_cases q:g=f
  ·rw[if_pos q,if_pos q];exact .cons ⟨rfl,h⟩ t
  ·rw[if_neg q,if_neg q];exact .cons ⟨rfl,r⟩ (iH.put h t)
def H_ (f:Str)(cs:List Nat)(M:List ak)(v o:af):Option (List ak):=match o with
 | .mu j=>match M[j]? with
  |some (.ins c fs)=>if cs.contains c&&decide (fs.length<1000)then some (M.set j (.ins c (putS f v fs)))else none
  |_=>none
 |_=>none
def sFld (f:Str)(cs:List Nat)(kU n6:CE):aN:=λρ=>(kU ρ).bind λv=>(n6 ρ).bind λo=>ofM λM=>(H_ f cs M v o).map λaz=>(.nx ρ,az)
theorem C2 {f:Str}{cs:List Nat}(hf:∀c∈cs,v5 X.K (cy X.K c) f)(h1:bf X W e kU)(h2:bf X W o aE)(hs:swapsWith e (some (.Attribute o f j_)) pos.line X.env=pure false:=by rfl):jk X W (.Assign [.Attribute o f j_] e pos) (sFld f cs kU aE):=⟨λρ M aa G σ H D ms en h=>
 toS (ps_fld cS cS hs) (h1.lU ms en h λay au M1 H1 v s g1 m1 r1 aD=>h2.lU m1 (en.grow g1) aD λaU aV M2 aS v2 s2 g2 m2 r2 bK=>by
  obtain⟨t,az,e1,q⟩:=ji.mp bK;cases eZ:H_ f cs M2 s s2 with
  |none=>rw[eZ]at e1;cases e1
  |some ck=>
   rw[eZ]at e1;cases e1;unfold H_ at eZ;split at eZ
   ·rename_i j
    split at eZ
    ·rename_i c fs hj
     split at eZ
     ·rename_i hc
      rw[Bool.and_eq_true,decide_eq_true_eq]at hc;cases eZ
      have sd:=hf c (by simpa using hc.1);obtain⟨a,e3,rfl⟩:=r2;obtain⟨bO,bU,e4,d_⟩:=(m2.mo j a _ e3 hj).2;have gw:aJ aU aV aS aU aV (upd aS a (.ins (cy X.K c) bO (putF f v bU))):=aJ.write (List.mem_of_getElem? e3) (by rw[e4];simp);exact⟨a,_,bO,bU,rfl,e4,sd.cls,sd.no,by rw[show bU.length=fs.length from Paired.length d_];exact hc.2,q _ _ _ _ gw (m2.write (m':=.ins c (putS f s fs)) e3 hj trivial ⟨bO,_,upd_same,iH.put (r1.grow g2) d_⟩) (en.grow ((g1.trans g2).trans gw))⟩
     ·cases eZ
    ·cases eZ
   ·cases eZ)⟩
end
def bu (g:List af->Ev af)(fs:aH):CE:=λρ=>(fs ρ).bind λss=>eT (g ss)
def qG (X:Cx)(r:List V->Hp->VK->Prop)(g:List af->Ev af):Prop:=
 ∀ss M aa G H vs Q,aK X.K aa G M H->bM X.K aa G vs ss->wp (g ss M) (kq X.K Q (λ_ _ _=>False) aa G H)->r vs H Q
section
variable{X:Cx}{W:WX}{e o a b:Expr}{es:List Expr}{aE bC kU:CE}{fs:aH}{x m:Str}{p cI pos apos j_ mX:Pos}{F:aM}{k n:Nat}{ps:List Str}{c:Nat}{Ei:String}
theorem Z2 {r:List V->Hp->VK->Prop}{g}{e:Expr}{es:List Expr}(xM:PE X e (tCB r (x6 X es)))(h1:jN X W es fs)(hv:qG X r g):bf X W e (bu g fs):=⟨λρ M aa G σ H Q ms en h=>
 toE xM (h1.seq ms en h λay au M1 H1 v1 x g1 m1 r1 aD=>hv x M1 ay au H1 v1 Q m1 r1 (YE aD))⟩
theorem gM {g}(G:eK X x)(hm:X.mg x=none)(hb:bootBuiltins x=some (.builtin Ei))(hn:x≠"__name__")(hv:qG X (r5 X (.builtin Ei)) g)(h1:jN X W (e::es) fs)
    (he:starEach (e::es) X.env=(false,eval e X.env)::starEach es X.env:=by rfl) (hpl:(backTo pos (starEach es X.env)).any (·.1)=false:=by rfl):bf X W (.Call (.Name x p) (e::es) [] pos) (bu g fs):=
  Z2 (pe_callB Tj G.gl hm hb uy hn G.nd he hpl) h1 hv
theorem rK {g}(G:eK X x)(hm:X.mg x=none)(hb:bootBuiltins x=some (.type Ei))(hn:x≠"__name__")(hv:qG X (r5 X (.type Ei)) g)(h1:jN X W (e::es) fs)
    (he:starEach (e::es) X.env=(false,eval e X.env)::starEach es X.env:=by rfl) (hpl:(backTo pos (starEach es X.env)).any (·.1)=false:=by rfl):bf X W (.Call (.Name x p) (e::es) [] pos) (bu g fs):=
  Z2 (pe_callTy Tj G.gl hm hb uy hn G.nd he hpl) h1 hv
structure QY (D:iw)(k:Nat)(c:Nat)(m:Str)(np:Nat)(F:aM):Prop where
 ex:∃f fd ps,FnOk D.prog D.w D.K D.mg D.base (L2.CX D.prog D.w) k f fd ps (gy D.K np F)/\PySem.W.findIn D.K (.ref (cy D.K c)) m=some (some (.ref f))/\PySem.W.isFn D.K (.ref f)=true/\Binds D.K fd ps []
 len:∀{ss M Q},wp (F ss M) Q->ss.length=np
def Aq (D:iw)(k:Nat)(m:Str)(np:Nat)(t:bN):Prop:=∀c F,t.lookup c=some F->QY D k c m np F
theorem call_in {f:Addr}{fd:FuncData}{sp:Sp}{pins:List (Addr×Obj)}{σ:L2.St}{H:Hp}{s:Shared}{Q:VK}{us:List Value}{vs:List V}{A1:Around}(F:FnOk X.prog X.w X.K X.mg X.base (L2.CX X.prog X.w) k f fd ps sp)(hr:Room k A1)(hf:A1.frames=X.A.frames)(hb:Binds X.K fd ps [])
    (I:Inv X pins σ H s) (r:Vals vs us) (h:sp vs H Q (λ_ _ _=>False)):wpAny (model X.prog X.w) A1 (call (.ref f) us) (EP X pins σ Q) X.xe s:=by
  have e0:Env0 X.prog X.w X.K X.mg X.base A1 X.stack s H:=by
    have e:=I.env0;exact⟨by rw[hf];exact e.frames,e.mod,e.bs,e.bsz,e.funs,e.frf,e.hok,e.bare⟩
  have hl:us.length=ps.length:=by rw[<-r.length];exact F.len _ _ _ _ h
  refine wpAny_call (codeAny_mono (F.run A1 X.stack s H ⟨us,[]⟩ us vs Q _ hr e0 (by
    have:=hb s us I.kIn (by simpa using hl);simpa using this) r h) λr aF hq=>?_)
  cases r with
  |error e=>exact passL pins σ H s e aF I hq
  |ok gG=>
    cases gG with
    |ret w=>exact I.after hq
    |next=>exact False.elim hq
    |brk=>exact False.elim hq
    |cont=>exact False.elim hq
def pu (g:List ak->List af->Option (af×List ak)):List af->Ev af:=λss=>ofM λM=>g M ss
theorem Ai {r:List V->Hp->VK->Prop}{g}(h:Jh X r g):qG X r (pu g):=λss M aa G H vs Q ms r w=>by
 obtain⟨s,az,e,q⟩:=ji.mp w;exact h ss M s az aa G H vs Q e ms r q
theorem Ah {f:Value}{r:List V->Hp->VK->Prop}{g}(hc:CallR X f r)(h:Jh X r g):Jh X (r5 X f) g:=λss M s az aa G H vs Q e ms cW q=>⟨r,hc,h ss M s az aa G H vs Q e ms cW q⟩
def wK:Re af->T (Re af)
 | .ok (.dat (.int i)) M=>if 0<=i/\i<2^63 then .ret (.ok (.dat (.int i)) M)else .bad
 |_=>.bad
def b_ (t:bN):List af->Ev af
 |[s]=>λM=>match lenOf M s with
  |some n=>if n<=sizeLine then .ret (.ok (.dat (.int (n:Nat))) M)else .bad
  |none=>match clsAt M s with
   |some c=>match t.lookup c with
    |some F=>(F [s] M).bind wK
    |none=>.bad
   |none=>.bad
 |_=>bad
theorem i6 {t:bN}(hr:Room (k+1) X.A)(T:Aq X.iR k "__len__" 1 t):qG X (r5 X (.builtin "len")) (b_ t):=λss M aa G H vs Q ms r w=>by
 cases r with
 |nil=>exact(show False from w).elim
 |cons r cW=>
  cases cW with
  |cons _ _=>exact(show False from w).elim
  |nil=>
   rename_i v s;unfold b_ at w
   dsimp only at w
   split at w
   ·rename_i n hn
    split at w
    ·rename_i hz
     exact⟨_,call_len,v,n,rfl,aio ms r hn hz,w _ _ _ _ (aJ.refl _ _ _) ms nN⟩
    ·exact w.elim
   ·split at w
    ·rename_i c hc
     split at w
     ·rename_i F hF
      obtain⟨f,fd,ps,c_,uh,oZ,hb⟩:=(T c F hF).ex;obtain⟨a,bO,bU,rfl,ea⟩:=u9 ms r hc;refine⟨λxs H Q=>∃a bO fs,xs=[.ref a]/\H a=some (.ins (cy X.K c) bO fs)/\gy X.K 1 F [.ref a] H (λv H'=>∃n:Int,v=.int n/\0<=n/\n<2^63/\Q (.int n) H') (λ_ _ _=>False),?_,a,bO,bU,rfl,ea,aa,G,M,[s],ms,.cons r .nil,rfl,?_⟩
      ·intro pins s σ H xs us Q I r h
       obtain⟨a,bO,fs,rfl,ea,zj⟩:=h;cases r with
       |cons r0 r1=>
        cases r1
        cases r0
        obtain⟨mA,J,_⟩:=ins_get I.hok ea;obtain⟨od,J,_⟩:=J.look;obtain⟨m,hF⟩:=I.fr;refine PySem.W.len_K hF I.ok.mod.kin J uh oZ (wpAny_mono (call_in (A1:=X.A.in1) (vs:=[.ref a]) c_ (Room.in1 hr) rfl hb I (.cons rfl .nil) zj) (λv aF z=>?_) λ_ _ x=>x);obtain⟨w,H',eL,uC,n,n5,h0,h1,hq⟩:=z;subst n5;obtain⟨t,rfl⟩:=uC;exact⟨⟨h0,h1⟩,⟨.int n,H',eL.tok _,⟨_,rfl⟩,hq⟩⟩
      ·refine wp_mono (λr hr=>?_) (wp_bind.mp w)
       unfold wK at hr;split at hr
       ·split at hr
        ·rename_i i M2 hi
         intro aq aj H' v g m gx;exact⟨i,jg gx,hi.1,hi.2,hr _ _ _ _ g m nN⟩
        ·exact hr.elim
       ·exact hr.elim
     ·exact w.elim
    ·exact w.elim
def wJ (g:Bool->Bool):Re af->T (Re af)
 | .ok (.dat (.bl i)) M=>.ret (.ok (.dat (.bl (g i))) M)
 |_=>.bad
def ie (M:List ak):List af->Option (af×List ak)
 |[.dat (.int i)]=>some (.dat (.int i),M)
 |[.dat (.bl b)]=>some (.dat (.int (if b then 1 else 0)),M)
 |_=>none
theorem int_ok:qG X (r5 X (.type "int")) (pu ie):=Ai (Ah call_int1 λss M s az aa G H vs Q e ms r q=>by
 unfold ie at e;split at e
 ·cases e
  cases r with
  |cons r cW=>cases cW;exact .inl ⟨_,by rw[jg r],q _ _ _ _ (aJ.refl _ _ _) ms nN⟩
 ·cases e
  cases r with
  |cons r cW=>cases cW;exact .inr ⟨_,by rw[oz r],q _ _ _ _ (aJ.refl _ _ _) ms nN⟩
 ·cases e)
def sX (m:Bool)(M:List ak):List af->Option (af×List ak)
 |[s]=>(iM M s).map λds=>d9 m M ds
 |_=>none
theorem NC (jd:Bool):qG X (r5 X (.type "list")) (pu (sX jd)):=Ai (Ah call_list_of λss M s az aa G H vs Q e ms r q=>by
 unfold sX at e;split at e
 ·rename_i t
  cases hd:iM M t with
  |none=>rw[hd]at e;cases e
  |some ds=>
   rw[hd]at e;have e:d9 jd M ds=(s,az):=Option.some.inj e;cases r with
   |cons r cW=>
    cases cW
    obtain⟨p,vs,e2,e3,e4⟩:=nG ms r (qh hd);refine⟨p,vs,by rw[e2],.inl (SqL.of e3),λl hl=>?_⟩;exact zL (m:=jd) ms (bM.toRps e4) (by rw[e];exact q) hl
 ·cases e)
def qK:List D->Option (List Bool)
 |[]=>some []
 | .bl b::r=>(qK r).map (b::·)
 |_::_=>none
theorem SJ:∀{ds:List D} {bs:List Bool},qK ds=some bs->ds=bs.map .bl
 |[],_,h=>by cases h;rfl
 | .bl d::r,_,h=>by
  unfold qK at h;cases e:qK r with
  |none=>rw[e]at h;cases h
  |some es=>rw[e]at h;cases h;rw[SJ e];rfl
 | .non::_,_,h=>by cases h
 | .int _::_,_,h=>by cases h
 | .str _::_,_,h=>by cases h
 | .lst _::_,_,h=>by cases h
 | .tup _::_,_,h=>by cases h
 | .dK _::_,_,h=>by cases h
 | .dT _::_,_,h=>by cases h
 | .ins _ _::_,_,h=>by cases h
 | .fC _::_,_,h=>by cases h
 | .exc _ _::_,_,h=>by cases h
 | .fF _ _::_,_,h=>by cases h
 | .lam _::_,_,h=>by cases h
@[simp]theorem SM:∀bs:List Bool,qK (bs.map .bl)=some bs
 |[]=>rfl
 |b::r=>by rw[List.map_cons,qK,SM r];rfl
def qI (al:Bool)(M:List ak):List af->Option (af×List ak)
 |[s]=>match iM M s with
  |some ds=>(qK ds).map λbs=>(.dat (.bl (if al then bs.all id else bs.any id)),M)
  |none=>none
 |_=>none
theorem Sv (hc:X.calm=true):qG X (r5 X (.builtin "all")) (pu (qI true)):=Ai (Ah (cr_all hc) λss M s az aa G H vs Q e ms r q=>by
 unfold qI at e;split at e
 ·rename_i t
  split at e
  ·rename_i ds hd
   cases hb:qK ds with
   |none=>rw[hb]at e;cases e
   |some bs=>
    rw[hb]at e;cases e;cases r with
    |cons r cW=>
     cases cW
     obtain⟨p,vs,e1,e2,e3⟩:=nG ms r (qh hd);rw[SJ hb]at e3;refine⟨p,bs,by rw[e1],?_,q _ _ _ _ (aJ.refl _ _ _) ms rH⟩;rw[<-ZF (bM.toRps e3)];exact SqL.of e2
  ·cases e
 ·cases e)
def zH (M:List ak):List af->Option (af×List ak)
 |[.dat (.int i),.dat (.int j)]=>some (.dat (.int (if j>i then j else i)),M)
 |_=>none
theorem ajr (hc:X.calm=true):qG X (r5 X (.builtin "max")) (pu zH):=Ai (Ah (call_max2 hc) λss M s az aa G H vs Q e ms r q=>by
 unfold zH at e;split at e
 ·cases e
  cases r with
  |cons r cW=>
   cases cW with
   |cons gx cW=>cases cW;exact⟨_,_,by rw[jg r,jg gx],q _ _ _ _ (aJ.refl _ _ _) ms nN⟩
 ·cases e)
theorem alF {K:Frag}{G:Hp}{i j:Int}:b8 K G (rgV i j) (rng i (j-i).toNat):=by
 unfold rgV rng;generalize List.range (j-i).toNat=l;induction l with
 |nil=>exact .nil
 |cons a l ih=>exact .cons (.int _) ih
def Co (m:Bool)(M:List ak):af->Option (af×List ak)
 | .dat (.int i)=>if -(2^62)<=i/\i<=16777216 then some (d9 m M (rng 0 i.toNat))else none
 |_=>none
theorem anv (jd:Bool)(au:eK X "list")(hm:X.mg "list"=none)(aV:eK X "range")(hm2:X.mg "range"=none)(hc:X.calm=true)(h1:bf X W e aE)
    (hs:starEach [e] X.env=[(false,eval e X.env)]:=by rfl) (mQ:starEach [.Call (.Name "range" cI) [e] [] mX] X.env=[(false,eval (.Call (.Name "range" cI) [e] [] mX) X.env)]:=by rfl):bf X W (.Call (.Name "list" p) [.Call (.Name "range" cI) [e] [] mX] [] pos) (cJ (Co jd) aE):=⟨λρ M aa iV σ H Q ms en h=>
  toE (pe_listRg hc au.gl hm (prg_1 aV.gl hm2 cS hs) mQ) (h1.seq ms en h λay sf M1 H1 v s g1 m1 r1 aD=>by
    obtain⟨t,az,e1,q⟩:=ji.mp aD;unfold Co at e1;split at e1
    · split at e1
      · rename_i i hb
        have e1:d9 jd M1 (rng 0 i.toNat)=(t,az):=Option.some.inj e1;refine⟨i,jg r1,⟨by decide,by decide,hb.1,by omega,by omega⟩,λl hl=>?_⟩;have cW:b8 X.K sf (rgV 0 i) (rng 0 i.toNat):=by have:=alF (K:=X.K) (G:=sf) (i:=0) (j:=i);rwa[Int.sub_zero]at this
        exact zL (m:=jd) m1 cW (by rw[e1];exact q) hl
      · cases e1
    · cases e1)⟩
def strsOf:List D->Option (List Str)
 |[]=>some []
 | .str b::r=>(strsOf r).map (b::·)
 |_::_=>none
theorem aac:∀{ds:List D} {bs:List Str},strsOf ds=some bs->ds=bs.map .str
 |[],_,h=>by cases h;rfl
 | .str d::r,_,h=>by
  unfold strsOf at h;cases e:strsOf r with
  |none=>rw[e]at h;cases h
  |some es=>rw[e]at h;cases h;rw[aac e];rfl
 | .non::_,_,h=>by cases h
 | .int _::_,_,h=>by cases h
 | .bl _::_,_,h=>by cases h
 | .lst _::_,_,h=>by cases h
 | .tup _::_,_,h=>by cases h
 | .dK _::_,_,h=>by cases h
 | .dT _::_,_,h=>by cases h
 | .ins _ _::_,_,h=>by cases h
 | .fC _::_,_,h=>by cases h
 | .exc _ _::_,_,h=>by cases h
 | .fF _ _::_,_,h=>by cases h
 | .lam _::_,_,h=>by cases h
def FY (u:Str)(M:List ak)(s:af):Option (af×List ak):=match iM M s with
 |some ds=>match strsOf ds with
  |some aB=>if(aB.map (·.length)).sum+aB.length*u.length<=16777216 then some (.dat (.str (Txt.join u aB)),M)else none
  |none=>none
 |none=>none
def yR (aE bC:CE):CE:=λρ=>(aE ρ).bind λx=>(u5 x).bind λu=>(bC ρ).bind λy=>ofM λM=>FY u M y
theorem anr (h0:bf X W o aE)(h1:bf X W e bC)(qX:attributeBase o "join" X.env (eval o X.env)=eval o X.env:=by rfl)
    (q9:((backTo pos (starEach [e] X.env)).all (λx=>!x.1)&&(backToKw pos (keywordEach [] X.env)).all (λx=>x.1.isSome)
      &&decide (([e]:List Expr).length+([]:List Keyword).length+(if([]:List Keyword).isEmpty then 0 else 1)<30))=true:=by rfl)
    (rg:(apos.endLine==pos.line)=true:=by rfl) (hs:starEach [e] X.env=[(false,eval e X.env)]:=by rfl):bf X W (.Call (.Attribute o "join" apos) [e] [] pos) (yR aE bC):=⟨λρ M aa G σ H Q ms en h=>
  toE (pe_bm PySem.F.plainAttrs_str PySem.F.slot_str_join PySem.F.type_str_join mt_join cS (pa_cons cS pa_nil hs) qX q9 rg hs rfl) (h0.seq ms en h λay au M1 H1 v1 s1 g1 m1 r1 aD=>by
    obtain⟨u,rfl,bK⟩:=aaI (cL.mp aD);have bK:wp (Ev.bind (bC ρ) (λy=>ofM λM=>FY u M y) M1) (dB X W (bF X.K) Q σ ay au H1):=bK;refine⟨by rw[rG r1];rfl,h1.seq m1 (en.grow g1) bK λaU aV M2 aS v2 s2 g2 m2 r2 gQ=>?_⟩;obtain⟨t,az,e1,q⟩:=ji.mp gQ;unfold FY at e1;split at e1
    · rename_i ds hd
      split at e1
      · rename_i aB hy
        split at e1
        · rename_i hz
          cases e1
          obtain⟨p,vs,e1,e2,e3⟩:=nG m2 r2 (qh hd);rw[aac hy]at e3;refine⟨u,p,aB,rG r1,by rw[e1],.inl ?_,hz,q _ _ _ _ (aJ.refl _ _ _) m2 tw⟩;rw[<-ZL (bM.toRps e3)];exact SqL.of e2
        · cases e1
      · cases e1
    · cases e1)⟩
def fY (s:af)(M:List ak):Option (Nat×List af):=match s with
 | .mu j=>match M[j]? with
  |some (.lst xs)=>some (j,xs)
  |_=>none
 |_=>none
theorem xF {K:Frag}{aa:List Addr}{G H:Hp}{M:List ak}{v:V}{s:af}{j:Nat}{xs:List af}(h:fY s M=some (j,xs))(ms:aK K aa G M H)(r:bF K aa G v s):s=.mu j/\M[j]?=some (.lst xs)/\∃a vs,aa[j]?=some a/\v=.ref a/\H a=some (.lst vs)/\bM K aa G vs xs:=by
 unfold fY at h;split at h
 ·split at h
  ·rename_i hm
   cases h
   obtain⟨a,e1,e2⟩:=r;obtain⟨vs,e3,e4⟩:=(ms.mo _ a _ e1 hm).2;exact⟨rfl,hm,a,vs,e1,e2,e3,e4⟩
  ·cases h
 ·cases h
def sH (aE bC:CE):CE:=λρ=>(aE ρ).bind λx=>λM=>match fY x M with
 |some _=>Ev.bind (bC ρ) (λs=>ofM λM2=>match fY x M2 with
  |some (j,aB)=>if aB.length<sizeLine then some (.dat .non,M2.set j (.lst (aB++[s])))else none
  |none=>none) M
 |none=>.bad
theorem PF (h0:bf X W o aE)(h1:bf X W e bC)(qX:attributeBase o "append" X.env (eval o X.env)=eval o X.env:=by rfl)
    (q9:((backTo pos (starEach [e] X.env)).all (λx=>!x.1)&&(backToKw pos (keywordEach [] X.env)).all (λx=>x.1.isSome)
      &&decide (([e]:List Expr).length+([]:List Keyword).length+(if([]:List Keyword).isEmpty then 0 else 1)<30))=true:=by rfl)
    (rg:(apos.endLine==pos.line)=true:=by rfl) (hs:starEach [e] X.env=[(false,eval e X.env)]:=by rfl):bf X W (.Call (.Attribute o "append" apos) [e] [] pos) (sH aE bC):=⟨λρ M aa G σ H Q ms en h=>
  toE (pe_bm PySem.F.plainAttrs_list PySem.F.slot_list_append PySem.F.type_list_append mt_append cS (pa_cons cS pa_nil hs) qX q9 rg hs rfl) (h0.seq ms en h λay au M1 H1 v1 s1 g1 m1 r1 aD=>by
    cases hx:fY s1 M1 with
    |none=>simp only[hx]at aD;exact aD.elim
    |some p=>
      obtain⟨j,xs⟩:=p;simp only[hx]at aD;obtain⟨rfl,hm,a,vs,e1,rfl,e3,e4⟩:=xF hx m1 r1;refine⟨.inl ⟨rfl,_,SqL.of e3⟩,h1.seq m1 (en.grow g1) aD λaU aV M2 aS v2 s2 g2 m2 r2 gQ=>?_⟩;obtain⟨t,az,d_,q⟩:=ji.mp gQ;split at d_
      · rename_i aht aB hy
        split at d_
        · rename_i hz
          cases d_
          obtain⟨By,hm2,tX,ws,f1,f2,jE,f4⟩:=xF hy m2 (bF.grow g2 r1);cases By
          cases f2
          have gw:aJ aU aV aS aU aV (upd aS a (.lst (ws++[v2]))):=aJ.write (List.mem_of_getElem? f1) (by rw[jE];simp);exact⟨a,ws,v2,rfl,rfl,jE,by rw[f4.length];exact hz,q _ _ _ _ gw (m2.write (m':=.lst (aB++[s2])) f1 hm2 trivial ⟨_,upd_same,f4.append (.cons r2 .nil)⟩) xR⟩
        · cases d_
      · cases d_)⟩
end
section
variable{prog:Program}{w:World}{A:Around}{E:Value->Shared->Prop}{s:Shared}{K:Frag}{x C f:Addr}{ox:Obj}{od:Option Obj}{b:Value}
theorem aee {Q:Fin->Shared->Prop}(hu:A.units<cLine)(X:K.In s.heap)(I:PySem.W.InstAt s.heap x ox C od)(hs:PySem.W.findIn K (.ref C) "__eq__"=some (some (.ref f)))(hf:PySem.W.isFn K (.ref f)=true)
    (h:wpAny (model prog w) A (call (.ref f) [.ref x,b]) (λv aF=>∃q,v=.bool q/\Q (.done (.ret (.bool (!q)))) aF) E s):wpAny (model prog w) A (Builtin.«object.__ne__» ⟨[.ref x,b],[]⟩) Q E s:=by
  unfold Builtin.«object.__ne__»
  repeat (first
    |with_reducible refine wpAny_cRoomFor hu ?_
    |(refine wpAny_bind (m:=callSpecialIfBound? (.ref x) (Str.ofString "__eq__") [b])
        (PySem.W.ifBound_K X I hs hf (wpAny_mono h (λr aF hr=>by
          obtain⟨b,rfl,hq⟩:=hr
          repeat (first|exact hq|exact wpAny_pure hq|exact wpAny_truthy_bool hq|(refine wpAny_bind (m:=truthy (.bool _)) (wpAny_truthy_bool ?_))|wp_step)) λ_ _ e=>e)))
    |wp_step)
theorem acV {Q:Value->Shared->Prop}(hu:A.in1.units<cLine)(X:K.In s.heap)(I:PySem.W.InstAt s.heap x ox C od)(hm:PySem.W.mroIn K C (.type "object")=some true)(hs:PySem.W.findIn K (.ref C) "__eq__"=some (some (.ref f)))(hf:PySem.W.isFn K (.ref f)=true)
    (h:wpAny (model prog w) A.in1 (call (.ref f) [.ref x,b]) (λv aF=>∃q,v=.bool q/\Q (.bool (!q)) aF) E s):wpAny (model prog w) A (call (.builtin "object.__ne__") [.ref x,b]) Q E s:=by
  refine wpAny_call (codeAny_call_builtin F.cmp_object.ne.plain F.cmpEntry_ne (PySem.W.check_slot F.cmpKind_ne F.cmpSplit_ne (I.type.andThen (PySem.W.looks_mroIn X hm)) (F.cmpArgs_ne _ _) (aee (A:=A.in1) hu X I hs hf (wpAny_mono h (λv aF z=>?_) λ_ _ e=>e))));exact z
theorem agS {M:Model}{args:List Value}{Q:Option Value->Shared->Prop}(X:K.In s.heap)(I:PySem.W.InstAt s.heap x ox C od)(hs:PySem.W.findIn K (.ref C) "__ne__"=some (some (.builtin "object.__ne__")))
    (h:wpAny M A (call (.builtin "object.__ne__") (.ref x::args)) (λv=>Q (some v)) E s):wpAny M A (callSpecialIfBound? (.ref x) "__ne__" args) Q E s:=by
  simp only[callSpecialIfBound?,bindSpecialIfBound?];refine wpAny_holding (wpAny_bind (wpAny_bind (wpAny_bind (I.type.here ((PySem.W.looks_findIn X hs).here ?_)))));refine wpAny_bind (wpAny_askSetting (wpAny_ite ?_));have fin:wpAny M A (call (.builtin "object.__ne__") ([.ref x]++args) >>=λv=>pure (some v)) Q E s:=wpAny_bind (wpAny_mono h (λv aF h'=>wpAny_pure h') λ_ _ h'=>h');split
  · exact wpAny_bind (wpAny_of_eq (F.cmp_object.ne.bind _) (wpAny_pure (by exact fin)))
  · exact wpAny_tryCatch (wpAny_bind (wpAny_of_eq (F.cmp_object.ne.bind _) (wpAny_pure (by exact fin))))
theorem alh {tb:Value}{Q:Value->Shared->Prop}(hu:A.units<cLine)(agE:A.in1.units<cLine)(X:K.In s.heap)(I:PySem.W.InstAt s.heap x ox C od)(hb:PySem.W.Looks (model prog w) s.heap (typeOf b) tb)(hn:PySem.W.notFirst K C tb=true)(hm:PySem.W.mroIn K C (.type "object")=some true)
    (hne:PySem.W.findIn K (.ref C) "__ne__"=some (some (.builtin "object.__ne__"))) (hs:PySem.W.findIn K (.ref C) "__eq__"=some (some (.ref f))) (hf:PySem.W.isFn K (.ref f)=true)
    (h:wpAny (model prog w) A.in1 (call (.ref f) [.ref x,b]) (λv aF=>∃q,v=.bool q/\Q (.bool (!q)) aF) E s):wpAny (model prog w) A (richCompare .NotEq (.ref x) b) Q E s:=by
  have one:wpAny (model prog w) A (tryCompare (.ref x) "__ne__" b) (λr aF=>∃v,r=some v/\Q v aF) E s:=by
    unfold tryCompare;refine wpAny_bind (agS X I hne (acV agE X I hm hs hf (wpAny_mono h (λv aF hv=>?_) λ_ _ e=>e)));obtain⟨q,rfl,hq⟩:=hv;exact⟨q,rfl,wpAny_pure ⟨_,rfl,hq⟩⟩
  unfold richCompare;simp only[oneThing_ref];refine wpAny_holding (wpAny_bind (wpAny_cRoomFor hu ?_));refine wpAny_bind (I.type.here (wpAny_bind (hb.here ?_)));split
  · rename_i q
    have e:PySem.W.subIn K tb (.ref C)=some false:=by
      rcases Bool.or_eq_true_iff.mp hn with e|e
      · rw[beq_iff_eq.mp e]at q;simp at q
      · exact beq_iff_eq.mp e
    refine wpAny_bind ((PySem.W.looks_subIn X e).here ?_);simp only[Bool.false_eq_true,if_false];refine wpAny_bind (wpAny_mono one (λr aF z=>?_) λ_ _ e=>e);obtain⟨v,rfl,hq⟩:=z;exact wpAny_pure hq
  · refine wpAny_bind (wpAny_pure ?_)
    simp only[Bool.false_eq_true,if_false];refine wpAny_bind (wpAny_mono one (λr aF z=>?_) λ_ _ e=>e);obtain⟨v,rfl,hq⟩:=z;exact wpAny_pure hq
theorem Tz {Q:Bool->Shared->Prop}(X:K.In s.heap)(I:PySem.W.InstAt s.heap x ox C od)(hs:PySem.W.findIn K (.ref C) "__contains__"=some (some (.ref f)))(hf:PySem.W.isFn K (.ref f)=true)
    (h:wpAny (model prog w) A (call (.ref f) [.ref x,b]) (λv aF=>∃q,v=.bool q/\Q q aF) E s):wpAny (model prog w) A (contains (.ref x) b) Q E s:=by
  unfold contains;refine wpAny_holding ?_;rw[stdlibNamesSay?_ref];refine wpAny_bind (wpAny_bind (I.type.here ((PySem.W.looks_findIn X hs).here ?_)));rw[if_neg (by simp)];refine wpAny_bind ?_;unfold callSpecialUnlessNone?;refine wpAny_bind (wpAny_bind (I.type.here ((PySem.W.looks_findIn X hs).here ?_)));refine wpAny_holding (wpAny_bind ((PySem.W.bind_fn X _ (beq_iff_eq.mp hf)).here ?_))
  dsimp only
  rw[if_neg (by simp)];refine wpAny_bind (wpAny_mono h (λv aF hv=>?_) λ_ _ e=>e);obtain⟨q,rfl,hq⟩:=hv;exact wpAny_pure (wpAny_truthy_bool hq)
end
def Im:D->String
 | .non=>"NoneType"
 | .bl _=>"bool"
 | .int _=>"int"
 | .str _=>"str"
 | .lst _=>"list"
 | .tup _=>"tuple"
 | .dK _=>"dict"
 | .dT _=>"dict"
 | .ins _ _=>""
 | .fC _=>"list"
 | .exc _ _=>""
 | .fF _ _=>""
 | .lam _=>""
def G7:D->Bool
 | .ins _ _=>false
 | .dT _=>false
 | .exc _ _=>false
 | .fF _ _=>false
 | .lam _=>false
 |_=>true
theorem aas {K:Frag}{G H:Hp}{v:V}{d:D}(le:fj G H)(r:cg K G v d)(h:G7 d=true):TyX K H v (.type (Im d)):=by
 cases r with
 |non=>exact .base .non
 |bl b=>exact .base (.bl b)
 |int i=>exact .base (.int i)
 |str x=>exact .base (.str x)
 |lst hq _=>exact .base (.lst (le.lst hq))
 |fC hq=>
  rcases le.l hq with(z|⟨o,z⟩)|⟨o,its,n,z,f7,_⟩
  ·exact .base (.lst z)
  ·exact .base (.frz z)
  ·exact .kList z f7
 |tup hq _=>
  rcases le.t (show SqT _ _ _ _ from .inl (.inl hq))with(z|⟨o,z⟩)|⟨o,its,n,z,f7,_⟩
  ·exact .base (.tup z)
  ·exact .fTuple z
  ·exact .kTuple z f7
 |dK hq _=>
  rcases le.rd hq with z|⟨o,z⟩
  ·exact .base (.dK z)
  ·exact .fDict z
 |dT _ _=>cases h
 |ins _ _=>cases h
 |exc _ _ _ _=>cases h
 |fF _ _ _=>cases h
 |lam _=>cases h
structure R7 (K:Frag)(C:Addr):Prop where
 ne:PySem.W.findIn K (.ref C) "__ne__"=some (some (.builtin "object.__ne__"))
 ob:PySem.W.mroIn K C (.type "object")=some true
theorem ap8 {d:D}(h:G7 d=true):Im d∈rY:=by cases d<;>first|(cases h;done)|(simp[Im,rY])
structure abb (D:iw)(k:Nat)(c:Nat)(F:aM):Prop where
 TZ:QY D k c "__eq__" 2 F
 ne:R7 D.K (cy D.K c)
 lg:∀n∈rY,PySem.W.notFirst D.K (cy D.K c) (.type n)=true
def IM (D:iw)(k:Nat)(t:bN):Prop:=∀c F,t.lookup c=some F->abb D k c F
def Hh (M:List ak)(c:Nat)(y:af):Bool:=match clsAt M y with
 |some c'=>c'==c
 |none=>match y with
  | .dat d=>G7 d
  | .mu j=>match M[j]? with
   |some (.dT _)=>true
   |_=>false
  |_=>false
def oO (op:CmpOp)(rW vQ:bN)(x y:af):Ev af:=λM=>match dh op M x y with
 |some b=>.ret (.ok (.dat (.bl b)) M)
 |none=>match op with
  | .Eq=>match clsAt M x with
   |some c=>match rW.lookup c with
    |some F=>if Hh M c y then(F [x,y] M).bind (wJ λb=>b)else .bad
    |none=>.bad
   |none=>.bad
  | .NotEq=>match clsAt M x with
   |some c=>match rW.lookup c with
    |some F=>if Hh M c y then(F [x,y] M).bind (wJ λb=>!b)else .bad
    |none=>.bad
   |none=>.bad
  | .In=>match clsAt M y with
   |some c=>match vQ.lookup c with
    |some F=>(F [y,x] M).bind (wJ λb=>b)
    |none=>.bad
   |none=>.bad
  | .NotIn=>match clsAt M y with
   |some c=>match vQ.lookup c with
    |some F=>(F [y,x] M).bind (wJ λb=>!b)
    |none=>.bad
   |none=>.bad
  |_=>.bad
def aci (X:Cx)(r:R2)(g:af->af->Ev af):Prop:=
 ∀x y M aa G H gz lW Q,aK X.K aa G M H->bF X.K aa G gz x->bF X.K aa G lW y->wp (g x y M) (kq X.K Q (λ_ _ _=>False) aa G H)->r gz lW H Q
def yV (g:af->af->Ev af)(aE bC:CE):CE:=λρ=>(aE ρ).bind λx=>(bC ρ).bind λy=>eT (g x y)
section
variable{X:Cx}{W:WX}{e o a b:Expr}{es:List Expr}{aE bC kU:CE}{fs:aH}{cA:cX}{x m:Str}{p cI pos apos j_ mX:Pos}{F:aM}{k n:Nat}{ps:List Str}{c:Nat}{rW vQ:bN}
theorem YS {pins:List (Addr×Obj)}{σ:L2.St}{aa:List Addr}{G H:Hp}{M:List ak}{s:Shared}{v:V}{w:Value}{y:af}(I:Inv X pins σ H s)(ms:aK X.K aa G M H)(b6:L2.RelV v w)(r:bF X.K aa G v y)(o:Hh M c y=true)(lg:∀n∈rY,PySem.W.notFirst X.K (cy X.K c) (.type n)=true):∃tb,PySem.W.Looks (model X.prog X.w) s.heap (typeOf w) tb/\PySem.W.notFirst X.K (cy X.K c) tb=true:=by
 unfold Hh at o;split at o
 ·rename_i c' hc
  have e:c'=c:=eq_of_beq o;subst e;obtain⟨a,bO,bU,rfl,ea⟩:=u9 ms r hc;cases b6
  obtain⟨mA,J,_⟩:=ins_get I.hok ea;obtain⟨od,J,_⟩:=J.look;exact⟨_,J.type,by simp[PySem.W.notFirst]⟩
 ·split at o
  ·rename_i d _
   obtain⟨P,kx,hp,_⟩:=kit_of I b6 (aas ms.le r o);exact⟨_,kx.ty _ _ I.kIn hp,lg _ (ap8 o)⟩
  ·split at o
   ·rename_i hj
    obtain⟨a,e1,rfl⟩:=r;obtain⟨vs,e2,_⟩:=(ms.mo _ a _ e1 hj).2;obtain⟨P,kx,hp,_⟩:=kit_of I b6 (.base (.dT e2));exact⟨_,kx.ty _ _ I.kIn hp,lg "dict" (by simp[rY])⟩
   ·cases o
  ·cases o
theorem Ep {g:Bool->Bool}{F:aM}{ss:List af}{M:List ak}{aa:List Addr}{G H:Hp}{Q jy:VK}(w:wp ((F ss M).bind (wJ g)) (kq X.K Q (λ_ _ _=>False) aa G H))(hq:∀(n:Bool) H',Q (.bl (g n)) H'->jy (.bl n) H'):wp (F ss M) (kq X.K jy (λ_ _ _=>False) aa G H):=
 wp_mono (λr hr=>by
  unfold wJ at hr;split at hr
  ·rename_i i M2
   intro aq aj H' v eg m gx;rw[oz gx];exact hq _ _ (hr _ _ _ _ eg m rH)
  ·exact hr.elim) (wp_bind.mp w)
theorem adF {op:CmpOp}(hu:X.A.units+65<cLine)(hr:Room (k+1) X.A)(TE:IM X.iR k rW)(TI:Aq X.iR k "__contains__" 2 vQ):aci X (IA X (compareOp op)) (oO op rW vQ):=by
 intro x y M aa G H gz lW Q ms cM dZ w;unfold oO at w;split at w
 ·rename_i b hb
  exact t8 hu x y M _ M aa G H gz lW Q (Bh hb) ms cM dZ λaq aj H' v g m r=>w _ _ _ _ g m r
 ·have Ml:Room k X.A:=hr.mono (Nat.le_succ k)
  cases op<;>dsimp only at w<;>first|(exact w.elim)|skip
  ·split at w
   ·rename_i c hc
    split at w
    ·rename_i F hF
     split at w
     ·rename_i ho
      obtain⟨f,fd,ps,c_,uh,oZ,hb⟩:=(TE c F hF).TZ.ex;refine⟨λx y H1 jy=>x=gz/\y=lW/\H1=H/\jy=Q,?_,rfl,rfl,rfl,rfl⟩;intro pins s σ H1 x y v u jy I xS uD ⟨aD,bK,gQ,r4⟩;subst aD bK gQ r4;obtain⟨tb,lk,lg⟩:=YS I ms uD dZ ho (TE c F hF).lg;obtain⟨a,bO,bU,rfl,ea⟩:=u9 ms cM hc;cases xS
      obtain⟨mA,J,_⟩:=ins_get I.hok ea;obtain⟨od,J,_⟩:=J.look;obtain⟨m,afh⟩:=I.fr;refine PySem.W.cmp_K (op:=.Eq) (tb:=tb) hr.units0 afh I.ok.mod.kin J lk lg uh oZ (wpAny_mono (call_in (A1:=X.A) (vs:=[.ref a,y]) (Q:=λv H'=>∃n:Bool,v=.bl n/\jy (.bl n) H') c_ Ml rfl hb I (.cons rfl (.cons uD .nil)) ?_) (λv aF z=>?_) λ_ _ x=>x)
      ·exact⟨aa,G,M,_,ms,.cons cM (.cons dZ .nil),rfl,Ep w λn H' hq=>⟨n,rfl,hq⟩⟩
      ·obtain⟨w,H',eL,uC,n,n5,hq⟩:=z
       subst n5;cases uC
       exact⟨.bl n,H',eL,rfl,hq⟩
     ·exact w.elim
    ·exact w.elim
   ·exact w.elim
  ·split at w
   ·rename_i c hc
    split at w
    ·rename_i F hF
     split at w
     ·rename_i ho
      obtain⟨f,fd,ps,c_,uh,oZ,hb⟩:=(TE c F hF).TZ.ex;refine⟨λx y H1 jy=>x=gz/\y=lW/\H1=H/\jy=Q,?_,rfl,rfl,rfl,rfl⟩;intro pins s σ H1 x y v u jy I xS uD ⟨aD,bK,gQ,r4⟩;subst aD bK gQ r4;obtain⟨tb,lk,lg⟩:=YS I ms uD dZ ho (TE c F hF).lg;obtain⟨a,bO,bU,rfl,ea⟩:=u9 ms cM hc;cases xS
      obtain⟨mA,J,_⟩:=ins_get I.hok ea;obtain⟨od,J,_⟩:=J.look;refine alh hr.units0 (Room.in1 hr).units0 I.kIn J lk lg (TE c F hF).ne.ob (TE c F hF).ne.ne uh oZ (wpAny_mono (call_in (A1:=X.A.in1) (vs:=[.ref a,y]) (Q:=λv H'=>∃n:Bool,v=.bl n/\jy (.bl (!n)) H') c_ (Room.in1 hr) rfl hb I (.cons rfl (.cons uD .nil)) ?_) (λv aF z=>?_) λ_ _ x=>x)
      ·exact⟨aa,G,M,_,ms,.cons cM (.cons dZ .nil),rfl,Ep w λn H' hq=>⟨n,rfl,hq⟩⟩
      ·obtain⟨w,H',eL,uC,n,n5,hq⟩:=z
       subst n5;cases uC
       exact⟨n,rfl,⟨.bl (!n),H',eL,rfl,hq⟩⟩
     ·exact w.elim
    ·exact w.elim
   ·exact w.elim
  ·split at w
   ·rename_i c hc
    split at w
    ·rename_i F hF
     obtain⟨f,fd,ps,c_,uh,oZ,hb⟩:=(TI c F hF).ex;refine⟨λx y H1 jy=>x=gz/\y=lW/\H1=H/\jy=Q,?_,rfl,rfl,rfl,rfl⟩;intro pins s σ H1 x y v u jy I xS uD ⟨aD,bK,gQ,r4⟩;subst aD bK gQ r4;obtain⟨a,bO,bU,rfl,ea⟩:=u9 ms dZ hc;cases uD
     obtain⟨mA,J,_⟩:=ins_get I.hok ea;obtain⟨od,J,_⟩:=J.look;show wpAny (model X.prog X.w) X.A (contains (.ref a) v >>=λb=>pure (Value.bool b)) _ _ s
     refine wpAny_bind (Tz I.kIn J uh oZ (wpAny_mono (call_in (A1:=X.A) (vs:=[.ref a,x]) (Q:=λv H'=>∃n:Bool,v=.bl n/\jy (.bl n) H') c_ Ml rfl hb I (.cons rfl (.cons xS .nil)) ?_) (λv aF z=>?_) λ_ _ x=>x))
     ·exact⟨aa,G,M,_,ms,.cons dZ (.cons cM .nil),rfl,Ep w λn H' hq=>⟨n,rfl,hq⟩⟩
     ·obtain⟨w,H',eL,uC,n,n5,hq⟩:=z
      subst n5;cases uC
      exact⟨n,rfl,wpAny_pure ⟨.bl n,H',eL,rfl,hq⟩⟩
    ·exact w.elim
   ·exact w.elim
  ·split at w
   ·rename_i c hc
    split at w
    ·rename_i F hF
     obtain⟨f,fd,ps,c_,uh,oZ,hb⟩:=(TI c F hF).ex;refine⟨λx y H1 jy=>x=gz/\y=lW/\H1=H/\jy=Q,?_,rfl,rfl,rfl,rfl⟩;intro pins s σ H1 x y v u jy I xS uD ⟨aD,bK,gQ,r4⟩;subst aD bK gQ r4;obtain⟨a,bO,bU,rfl,ea⟩:=u9 ms dZ hc;cases uD
     obtain⟨mA,J,_⟩:=ins_get I.hok ea;obtain⟨od,J,_⟩:=J.look;show wpAny (model X.prog X.w) X.A (contains (.ref a) v >>=λb=>pure (Value.bool (!b))) _ _ s
     refine wpAny_bind (Tz I.kIn J uh oZ (wpAny_mono (call_in (A1:=X.A) (vs:=[.ref a,x]) (Q:=λv H'=>∃n:Bool,v=.bl n/\jy (.bl (!n)) H') c_ Ml rfl hb I (.cons rfl (.cons xS .nil)) ?_) (λv aF z=>?_) λ_ _ x=>x))
     ·exact⟨aa,G,M,_,ms,.cons dZ (.cons cM .nil),rfl,Ep w λn H' hq=>⟨n,rfl,hq⟩⟩
     ·obtain⟨w,H',eL,uC,n,n5,hq⟩:=z
      subst n5;cases uC
      exact⟨n,rfl,wpAny_pure ⟨.bl (!n),H',eL,rfl,hq⟩⟩
    ·exact w.elim
   ·exact w.elim
theorem aoh {op:CmpOp}(hu:X.A.units+65<cLine)(hr:Room (k+1) X.A)(TE:IM X.iR k rW)(TI:Aq X.iR k "__contains__" 2 vQ)(h1:bf X W a aE)(h2:bf X W b bC)(hm:behindInMarks op b=false:=by rfl):ST X W (.Compare a [op] [b] pos) (bz (yV (oO op rW vQ) aE bC)):=⟨λρ M aa G σ H Q ms en h=>by
 have h':wp (Ev.bind (aE ρ) (λx=>Ev.bind (bC ρ) λy=>Ev.bind (eT (oO op rW vQ x y)) jO) M) (dB X W yw Q σ aa G H):=by
  refine cL.mpr (wp_mono (λr hr=>?_) (cL.mp (cL.mp h)));cases r with
  |ex c fs M1=>exact hr
  |ok x M1=>
   refine cL.mpr (wp_mono (λr hr=>?_) (cL.mp hr));cases r with
   |ex c fs M1=>exact hr
   |ok y M2=>exact cL.mpr hr
 refine toT (pt_cmpR vF cS cS hm) (h1.seq ms en h' λay au M1 H1 v1 x g1 m1 r1 aD=>h2.seq m1 (en.grow g1) aD λaU aV M2 aS v2 y g2 m2 r2 bK=>?_);refine adF hu hr TE TI x y M2 aU aV aS v1 v2 _ m2 (r1.grow g2) r2 (wp_mono (λr hr=>?_) (x7 (cL.mp bK)));obtain⟨s,ck,rfl,hr⟩:=hr;intro aq aj H' v eg m' gx;obtain⟨b,rfl,q⟩:=IB hr;exact⟨_,oz gx,q _ _ _ _ eg m' rfl⟩⟩
def ET (n6 aE bC:CE):CE:=λρ=>(n6 ρ).bind λx=>λM=>match fY x M with
 |some _=>Ev.bind (aE ρ) (λy=>Ev.bind (bC ρ) λs=>ofM λM2=>match y with
  | .dat (.int i)=>match fY x M2 with
   |some (j,aB)=>if aB.length<sizeLine/\0<=i/\i<2^63 then some (.dat .non,M2.set j (.lst (aB.take i.toNat++[s]++aB.drop i.toNat)))else none
   |none=>none
  |_=>none) M
 |none=>.bad
theorem ano {n6:CE}(h0:bf X W o n6)(h1:bf X W a aE)(h2:bf X W b bC)(qX:attributeBase o "insert" X.env (eval o X.env)=eval o X.env:=by rfl)
    (q9:((backTo pos (starEach [a,b] X.env)).all (λx=>!x.1)&&(backToKw pos (keywordEach [] X.env)).all (λx=>x.1.isSome)
      &&decide (([a,b]:List Expr).length+([]:List Keyword).length+(if([]:List Keyword).isEmpty then 0 else 1)<30))=true:=by rfl)
    (rg:(apos.endLine==pos.line)=true:=by rfl) (hs:starEach [a,b] X.env=[(false,eval a X.env),(false,eval b X.env)]:=by rfl) (mQ:starEach [b] X.env=[(false,eval b X.env)]:=by rfl):bf X W (.Call (.Attribute o "insert" apos) [a,b] [] pos) (ET n6 aE bC):=⟨λρ M aa G σ H Q ms en h=>
  toE (pe_bm PySem.F.plainAttrs_list PySem.F.slot_list_insert PySem.F.type_list_insert mt_insert cS (pa_cons cS (pa_cons cS pa_nil mQ) (by rw[hs,mQ])) qX q9 rg (by rw[hs,mQ]) (by rw[mQ];rfl)) (h0.seq ms en h λay au M1 H1 v1 s1 g1 m1 r1 aD=>by
    cases hx:fY s1 M1 with
    |none=>simp only[hx]at aD;exact aD.elim
    |some p=>
      obtain⟨j,xs⟩:=p;simp only[hx]at aD;obtain⟨rfl,hm,l,vs,e1,rfl,e3,e4⟩:=xF hx m1 r1;refine⟨.inl ⟨rfl,_,SqL.of e3⟩,h1.seq m1 (en.grow g1) aD λaU aV M2 aS v2 y g2 m2 r2 bK=>h2.seq m2 (en.grow (g1.trans g2)) bK λdO er ck fh uJ s3 g3 m3 r3 gQ=>?_⟩;obtain⟨t,az,d_,q⟩:=ji.mp gQ;split at d_
      · rename_i i
        split at d_
        · rename_i aht aB hy
          split at d_
          · rename_i hz
            cases d_
            obtain⟨By,hm2,tX,ws,f1,f2,jE,f4⟩:=xF hy m3 (bF.grow (g2.trans g3) r1);cases By
            cases f2
            have gw:aJ dO er fh dO er (upd fh l (.lst (ws.take i.toNat++[uJ]++ws.drop i.toNat))):=aJ.write (List.mem_of_getElem? f1) (by rw[jE];simp);exact⟨l,ws,i,uJ,rfl,by rw[jg (r2.grow g3)],jE,by rw[f4.length];exact hz.1,hz.2.1,hz.2.2,q _ _ _ _ gw (m3.write (m':=.lst (aB.take i.toNat++[s3]++aB.drop i.toNat)) f1 hm2 trivial ⟨_,upd_same,((f4.take _).append (.cons r3 .nil)).append (f4.drop _)⟩) xR⟩
          · cases d_
        · cases d_
      · cases d_)⟩
end
def Tr:List String->List V->Prop
 |[],[]=>True
 |n::ns,v::vs=>v=.ty n/\Tr ns vs
 |_,_=>False
theorem Tt:∀{ns:List String} {vs:List V},Tr ns vs->Paired ClsV vs (ns.map Value.type)
 |[],[],_=>.nil
 |n::ns,v::vs,⟨e,r⟩=>by subst e;exact .cons (.ty n) (Tt r)
 |[],_::_,h=>h.elim
 |_::_,[],h=>h.elim
def vn (a:String):List String->Option Bool
 |[]=>some false
 |n::ns=>match kitB a n with
  |some true=>some true
  |some false=>vn a ns
  |none=>none
theorem WQ {K:Frag}{a:String}:∀{ns:List String} {r:Bool},vn a ns=some r->PySem.W.kitAny K (.type a) (ns.map Value.type)=some r
 |[],r,h=>by cases h;exact kitAny_nil
 |n::ns,r,h=>by
  unfold vn at h;split at h
  ·rename_i hk
   cases h
   exact kitAny_cons (kit_ty hk) (λz=>by cases z) λ_=>rfl
  ·rename_i hk
   exact kitAny_cons (kit_ty hk) (λ_=>WQ h) λz=>by cases z
  ·cases h
inductive Ty:Type where
 |bi (n:String)
 |own (c:Nat)
def Io (M:List ak)(s:af):Option Ty:=match clsAt M s with
 |some c=>some (.own c)
 |none=>match s with
  | .dat d=>if G7 d then some (.bi (Im d))else none
  | .mu j=>match M[j]? with
   |some (.lst _)=>some (.bi "list")
   |some (.dT _)=>some (.bi "dict")
   |_=>none
  |_=>none
structure DH (K:Frag)(C:Addr):Prop where
 cl:Cls K C
 ha:PySem.W.findIn K (.ref C) "__class__"=some (some (.builtin "object.__class__"))
 hn:PySem.W.specialIn K (.builtin "object.__class__") "__get__"=some (some (.builtin "getset_descriptor.__get__"))
 htk:PySem.W.takesIn K (.builtin "object.__class__")=some true
 hm:PySem.W.mroIn K C (.type "object")=some true
def Ty.val (K:Frag):Ty->Value
 | .bi n=>.type n
 | .own c=>.ref (cy K c)
theorem Ip {K:Frag}{aa:List Addr}{G H:Hp}{M:List ak}{v:V}{s:af}{t:Ty}(ms:aK K aa G M H)(r:bF K aa G v s)(h:Io M s=some t)(hI:∀c,t=.own c->DH K (cy K c)):TyX K H v (t.val K):=by
 unfold Io at h;split at h
 ·rename_i c hc
  cases h
  obtain⟨a,bO,bU,rfl,ea⟩:=u9 ms r hc;have I:=hI c rfl;exact .base (.ins ea I.cl I.ha I.hn I.htk I.hm)
 ·split at h
  ·split at h
   ·rename_i hn;cases h;exact aas ms.le r hn
   ·cases h
  ·split at h
   ·rename_i hj
    cases h
    obtain⟨a,e1,rfl⟩:=r;obtain⟨vs,e2,_⟩:=(ms.mo _ a _ e1 hj).2;exact .base (.lst e2)
   ·rename_i hj
    cases h
    obtain⟨a,e1,rfl⟩:=r;obtain⟨vs,e2,_⟩:=(ms.mo _ a _ e1 hj).2;exact .base (.dT e2)
   ·cases h
  ·cases h
section
variable{X:Cx}{W:WX}{e o a b:Expr}{es:List Expr}{aE bC kU:CE}{fs:aH}{cA:cX}{x m n1 n2:Str}{p cI gJ pos apos j_ mX:Pos}{F:aM}{k n:Nat}{ps:List Str}{c:Nat}
def gm (ns:List String)(M:List ak)(s:af):Option (af×List ak):=match Io M s with
 |some (.bi t)=>(vn t ns).map λb=>(.dat (.bl b),M)
 |_=>none
theorem pA {ns:String}(G:eK X "isinstance")(hm:X.mg "isinstance"=none)(au:eK X n1)(B4:X.mg n1=none)(hv:bootBuiltins n1=some (.type ns))(hn:n1≠"__name__")(h1:bf X W a aE)
    (he:starEach [a,.Name n1 cI] X.env=[(false,eval a X.env),(false,eval (.Name n1 cI) X.env)]:=by rfl) (mh:starEach [.Name n1 cI] X.env=[(false,eval (.Name n1 cI) X.env)]:=by rfl):bf X W (.Call (.Name "isinstance" p) [a,.Name n1 cI] [] pos) (cJ (gm [ns]) aE):=⟨λρ M aa sf σ H Q ms en h=>
  toE (pe_callB call_isi G.gl hm (by decide+kernel) (pa_cons cS (pa_cons (pe_bltn (v:=.ty ns) au.gl B4 hv rfl hn au.nd) pa_nil mh) (by rw[he,mh])) (he:=by rw[he,mh]) (hpl:=by rw[mh];rfl)) (h1.seq ms en h λay Rb M1 H1 v s g1 m1 r1 aD=>by
    obtain⟨t,az,e1,q⟩:=ji.mp aD;unfold gm at e1;split at e1
    · rename_i ty xj
      cases hk:vn ty [ns]with
      |none=>rw[hk]at e1;cases e1
      |some b=>
        rw[hk]at e1;cases e1;refine⟨v,.ty ns,_,_,b,rfl,.ty ns,Ip m1 r1 xj (λc z=>by cases z),?_,q _ _ _ _ (aJ.refl _ _ _) m1 rH⟩;unfold vn at hk;split at hk
        · rename_i hb;cases hk;exact kit_ty hb
        · rename_i hb;unfold vn at hk;cases hk;exact kit_ty hb
        · cases hk
    · cases e1)⟩
theorem anq {xG xH:String}{k3:Nat}(G:eK X "isinstance")(hm:X.mg "isinstance"=none)(au:eK X n1)(B4:X.mg n1=none)(hv1:bootBuiltins n1=some (.type xG))(hn1:n1≠"__name__")(aV:eK X n2)(hm2:X.mg n2=none)(dH:bootBuiltins n2=some (.type xH))(j7:n2≠"__name__")(h1:bf X W a aE)
    (he:starEach [a,.Tuple [.Name n1 cI,.Name n2 gJ] k3 mX] X.env=[(false,eval a X.env),(false,eval (.Tuple [.Name n1 cI,.Name n2 gJ] k3 mX) X.env)]:=by rfl) (mh:starEach [.Tuple [.Name n1 cI,.Name n2 gJ] k3 mX] X.env=[(false,eval (.Tuple [.Name n1 cI,.Name n2 gJ] k3 mX) X.env)]:=by rfl)
    (afV:starEach [.Name n1 cI,.Name n2 gJ] X.env=[(false,eval (.Name n1 cI) X.env),(false,eval (.Name n2 gJ) X.env)]:=by rfl) (BW:starEach [.Name n2 gJ] X.env=[(false,eval (.Name n2 gJ) X.env)]:=by rfl):bf X W (.Call (.Name "isinstance" p) [a,.Tuple [.Name n1 cI,.Name n2 gJ] k3 mX] [] pos) (cJ (gm [xG,xH]) aE):=⟨λρ M aa sf σ H Q ms en h=>
  toE (pe_callB call_isiT G.gl hm (by decide+kernel) (pa_cons cS (pa_cons (pe_tup (pa_cons (pe_bltn (v:=.ty xG) au.gl B4 hv1 rfl hn1 au.nd) (pa_cons (pe_bltn (v:=.ty xH) aV.gl hm2 dH rfl j7 aV.nd) pa_nil BW) (by rw[afV,BW]))) pa_nil mh) (by rw[he,mh])) (he:=by rw[he,mh]) (hpl:=by rw[mh];rfl)) (h1.seq ms en h λay Rb M1 H1 v s g1 m1 r1 aD=>by
    obtain⟨t,az,e1,q⟩:=ji.mp aD;unfold gm at e1;split at e1
    · rename_i ty xj
      cases hk:vn ty [xG,xH]with
      |none=>rw[hk]at e1;cases e1
      |some b=>
        rw[hk]at e1;cases e1;refine⟨by show 2<=sizeLine;decide,λtp ht=>?_⟩;have pu:=Pure.new (o:=.tup [.ty xG,.ty xH]) m1.le ht;have alc:=bF.grow (pu.grow (aa:=ay)) r1;have m4:=m1.pure pu;exact⟨v,tp,[.ty xG,.ty xH],_,_,b,rfl,upd_same,Tt (ns:=[xG,xH]) ⟨rfl,rfl,trivial⟩,Ip m4 alc xj (λc z=>by cases z),WQ hk,q _ _ _ _ pu.grow m4 rH⟩
    · cases e1)⟩
def MG (c:Nat)(cs:List Nat)(M:List ak)(s:af):Option (af×List ak):=match Io M s with
 |some (.bi t)=>if rY.contains t then some (.dat (.bl false),M)else none
 |some (.own c')=>if cs.contains c' then some (.dat (.bl (c'==c)),M)else none
 |none=>none
structure Rh (D:iw)(x:Str)(c:Nat)(cs:List Nat):Prop where
 mg:D.mg x=some (.ref (cy D.K c))
 bi:∀t∈rY,PySem.W.kitOne D.K (.type t) (.ref (cy D.K c))=some false
 akF:∀c'∈cs,DH D.K (cy D.K c')/\PySem.W.kitOne D.K (.ref (cy D.K c')) (.ref (cy D.K c))=some (c'==c)
theorem anp {cs:List Nat}(G:eK X "isinstance")(hm:X.mg "isinstance"=none)(au:eK X x)(F:Rh X.iR x c cs)(h1:bf X W a aE)
    (he:starEach [a,.Name x cI] X.env=[(false,eval a X.env),(false,eval (.Name x cI) X.env)]:=by rfl) (mh:starEach [.Name x cI] X.env=[(false,eval (.Name x cI) X.env)]:=by rfl):bf X W (.Call (.Name "isinstance" p) [a,.Name x cI] [] pos) (cJ (MG c cs) aE):=⟨λρ M aa sf σ H Q ms en h=>
  toE (pe_callB call_isi G.gl hm (by decide+kernel) (pa_cons cS (pa_cons (pe_glob (v:=.ref (cy X.K c)) au.gl F.mg rfl au.nd) pa_nil mh) (by rw[he,mh])) (he:=by rw[he,mh]) (hpl:=by rw[mh];rfl)) (h1.seq ms en h λay Rb M1 H1 v s g1 m1 r1 aD=>by
    obtain⟨t,az,e1,q⟩:=ji.mp aD;unfold MG at e1;split at e1
    · rename_i ty xj
      split at e1
      · rename_i hc
        cases e1
        exact⟨v,.ref (cy X.K c),_,_,false,rfl,.own _,Ip m1 r1 xj (λc z=>by cases z),F.bi _ (by simpa using hc),q _ _ _ _ (aJ.refl _ _ _) m1 rH⟩
      · cases e1
    · rename_i c' xj
      split at e1
      · rename_i hc
        cases e1
        obtain⟨o1,s_⟩:=F.akF c' (by simpa using hc);exact⟨v,.ref (cy X.K c),_,_,c'==c,rfl,.own _,Ip m1 r1 xj (λc z=>by cases z;exact o1),s_,q _ _ _ _ (aJ.refl _ _ _) m1 rH⟩
      · cases e1
    · cases e1)⟩
theorem qn {rT:List Stmt}{f:aN}(vs:List Nat)(h1:SB X W rT f):SB X W rT (fJ vs f):=⟨λρ M aa G σ H D ms en h=>
 h1.run ρ M aa G σ H D ms en (wp_mono (λr hr=>by
  cases r with
  |ex c fs M1=>exact hr
  |ok a M1=>
   cases a with
   |nx aY=>exactλay au H1 qx g1 m1 e1=>hr ay au H1 qx g1 m1 (e1.le (jv.wipe aY vs))
   |rt s=>exact hr
   |bk aY=>exactλay au H1 qx g1 m1 e1=>hr ay au H1 qx g1 m1 (e1.le (jv.wipe aY vs))
   |ct aY=>exactλay au H1 qx g1 m1 e1=>hr ay au H1 qx g1 m1 (e1.le (jv.wipe aY vs))) (cL.mp h))⟩
theorem xU {i:Int}(G:eK X x)(hm:∃t,X.mg x=some (.int i t)):bf X W (.Name x pos) λ_=>ok (.dat (.int i)):=let⟨_,h⟩:=hm;ank G h
theorem anm {z:Str}(G:eK X x)(hm:∃t,X.mg x=some (.str z t)):bf X W (.Name x pos) λ_=>ok (.dat (.str z)):=let⟨_,h⟩:=hm;anl G h
end
structure b7 (N:List Str)(sc s0:Scope)(X:Cx):Prop where
 N:X.N=N
 sc:X.env.scope=sc
 fn:∀x,(s0.names.lookup x==some NameKind.cell)=true->X.fn x=true
 calm:X.calm=true
def Ag (N:List Str)(sc:Scope)(x:Str)(i:Nat):Bool:=
 decide (N[i]?=some x)&&(decide (sc.names.lookup x=some .local)||(decide (sc.names.lookup x=some .cell)||decide (sc.names.lookup x=some .free)))&&!(x==("__debug__":Str))&&!(x==("__classdict__":Str))
def Nr (N:List Str)(sc s0:Scope)(x:Str)(i:Nat):Bool:=decide N.Nodup&&decide (N[i]?=some x)&&((decide (sc.names.lookup x=some .local))||(decide (sc.names.lookup x=some .cell)&&(s0.names.lookup x==some .cell)))
def za (sc:Scope)(x:Str):Bool:=decide (sc.names.lookup x=some .globalImplicit)&&!(x==("__debug__":Str))
def As (X:Cx):List (Str×Nat)->Prop
 |[]=>True
 |p::r=>pS X p.1 p.2/\As X r
def IP (X:Cx):List (Str×Nat)->Prop
 |[]=>True
 |p::r=>pL X p.1 p.2/\IP X r
def FG (X:Cx):List Str->Prop
 |[]=>True
 |p::r=>eK X p/\FG X r
section
variable{N:List Str}{sc s0:Scope}{X:Cx}
theorem b7.v0 (h:b7 N sc s0 X):∀(l:List (Str×Nat)),(l.all λp=>Ag N sc p.1 p.2)=true->As X l
 |[],_=>trivial
 |p::r,e=>by
  rw[List.all_cons,Bool.and_eq_true]at e;refine⟨?_,h.v0 r e.2⟩;have e:=e.1;unfold Ag at e;simp only[Bool.and_eq_true,Bool.or_eq_true,decide_eq_true_eq,Bool.not_eq_true']at e;exact⟨by rw[h.N];exact e.1.1.1,by unfold Vis;rw[h.sc];exact e.1.1.2,e.1.2,e.2⟩
theorem b7.v (h:b7 N sc s0 X)(l:List (Str×Nat))(e:(l.all λp=>Ag N sc p.1 p.2)=true:=by decide+kernel):As X l:=h.v0 l e
theorem b7.l0 (h:b7 N sc s0 X):∀(l:List (Str×Nat)),(l.all λp=>Nr N sc s0 p.1 p.2)=true->IP X l
 |[],_=>trivial
 |p::r,e=>by
  rw[List.all_cons,Bool.and_eq_true]at e;refine⟨?_,h.l0 r e.2⟩;have e:=e.1;unfold Nr at e;simp only[Bool.and_eq_true,Bool.or_eq_true,decide_eq_true_eq]at e;refine⟨by rw[h.N];exact e.1.2,?_,?_,by rw[h.N];exact e.1.1⟩
  ·unfold L2.Loc;rw[h.sc];exact e.2.imp id λz=>z.1
  ·rw[h.sc];rcases e.2 with z|z
   ·exact .inr z
   ·exact .inl (h.fn _ z.2)
theorem b7.l (h:b7 N sc s0 X)(l:List (Str×Nat))(e:(l.all λp=>Nr N sc s0 p.1 p.2)=true:=by decide+kernel):IP X l:=h.l0 l e
theorem b7.kW (h:b7 N sc s0 X):∀(l:List Str),(l.all λp=>za sc p)=true->FG X l
 |[],_=>trivial
 |p::r,e=>by
  rw[List.all_cons,Bool.and_eq_true]at e;refine⟨?_,h.kW r e.2⟩;have e:=e.1;unfold za at e;simp only[Bool.and_eq_true,decide_eq_true_eq,Bool.not_eq_true']at e;exact⟨by unfold Gl Env.kindOf;rw[h.sc];exact e.1,e.2⟩
theorem b7.g (h:b7 N sc s0 X)(l:List Str)(e:(l.all λp=>za sc p)=true:=by decide+kernel):FG X l:=h.kW l e
theorem b7.loc (h:b7 N sc s0 X){x:Str}(e:decide (sc.names.lookup x=some .local)=true):X.env.scope.names.lookup x=some .local:=by rw[h.sc];exact of_decide_eq_true e
theorem b7.nd (h:b7 N sc s0 X)(e:decide N.Nodup=true):X.N.Nodup:=by rw[h.N];exact of_decide_eq_true e
theorem b7.dP (h:b7 N sc s0 X)(scope:Scope){s:Shared}{H:Hp}{C:Addr}{cl:List (Str×Addr)}{bQ:List Addr}:b7 N (relS scope sc) scope (Cx.dP X scope s H C cl bQ):=
 ⟨h.N,by have:=h.sc;show relS scope X.env.scope=_;rw[this],λ_ z=>z,h.calm⟩
theorem b7.dG {P:Program}{w:World}{K:Frag}{mg:Str->Option Value}{base:Heap}{qual:Str}{f:Addr}{cdv:Value}{A:Around}{outer:List Env}{s:Shared}{H:Hp}{E:XK}:b7 N sc s0 (dG P w K mg base N qual sc f cdv A outer s H E):=⟨rfl,rfl,λ_ _=>rfl,rfl⟩
theorem f6 {P:Program}{w:World}{K:Frag}{mg:Str->Option Value}{base:Heap}{qual:Str}{f:Addr}{cdv:Value}{A:Around}{outer:List Env}{s:Shared}{H:Hp}{E:XK}:Takes (dG P w K mg base N qual sc f cdv A outer s H E) (λcls d _ H=>E cls d H):=takes_of rfl rfl rfl rfl
theorem fZ {P:Program}{w:World}{K:Frag}{mg:Str->Option Value}{base:Heap}{qual:Str}{f:Addr}{cdv:Value}{A:Around}{outer:List Env}{s:Shared}{H:Hp}{E:XK}:PassesOwn (model (dG P w K mg base N qual sc f cdv A outer s H E).prog (dG P w K mg base N qual sc f cdv A outer s H E).w) (dG P w K mg base N qual sc f cdv A outer s H E).A (dG P w K mg base N qual sc f cdv A outer s H E).env (dG P w K mg base N qual sc f cdv A outer s H E).xe:=passes_of rfl
theorem jP {scope:Scope}{own:List (Str×Nat)}(h:b7 N sc s0 X)(e:BlkOk N sc scope own):BlkOk X.N X.env.scope scope own:=by rw[h.N,h.sc];exact e
theorem Room.apa {k:Nat}{A:Around}(r:Room k A):A.units+65<cLine:=by have:=r.un;omega
end
structure ab7 (mg:Str->Option Value):Prop where
 all:∀x∈(["len","int","str","list","tuple","range","enumerate","zip","max","min","all","any","isinstance","repr","sorted","set","bool","sum","dict"]:List Str),mg x=none
section
variable{N:List Str}{sc s0:Scope}{X:Cx}{W:WX}{bV e it c:Expr}{ifs:List Expr}{ts:List Nat}{gf:dX}{f:CE}{t:cX}{fi:jt}{scope:Scope}{s:Shared}{H:Hp}{C:Addr}{cl:List (Str×Addr)}{bQ:List Addr}
theorem jA (h:b7 N sc s0 X)(k:b7 N (relS scope sc) scope (Cx.dP X scope s H C cl bQ)->GT (Cx.dP X scope s H C cl bQ) bV ts gf):GT (Cx.dP X scope s H C cl bQ) bV ts gf:=k (h.dP scope)
theorem jR (h:b7 N sc s0 X)(k:b7 N (relS scope sc) scope (Cx.dP X scope s H C cl bQ)->bf (Cx.dP X scope s H C cl bQ) W e f):bf (Cx.dP X scope s H C cl bQ) W e f:=k (h.dP scope)
theorem ad2 (h:b7 N sc s0 X)(k:b7 N (relS scope sc) scope (Cx.dP X scope s H C cl bQ)->pP (Cx.dP X scope s H C cl bQ) W bV it fi):pP (Cx.dP X scope s H C cl bQ) W bV it fi:=k (h.dP scope)
theorem jB (h:b7 N sc s0 X)(k:b7 N (relS scope sc) scope (Cx.dP X scope s H C cl bQ)->pQ (Cx.dP X scope s H C cl bQ) ifs t):pQ (Cx.dP X scope s H C cl bQ) ifs t:=k (h.dP scope)
theorem _root_.L2.Room.dn {k:Nat}{A:Around}(r:Room (k+1) A):Room k A:=r.mono (Nat.le_succ k)
theorem b7.sw {t:List Expr}{v:Expr}{r:Sem (Option (List Str))}(h:b7 N sc s0 X)(e:∀V:Env,V.scope=sc->swappedStores t v V=r):swappedStores t v X.env=r:=e _ h.sc
theorem b7.Ih {v:Expr}{t:Option Expr}{n:Nat}{r:Sem Bool}(h:b7 N sc s0 X)(e:∀V:Env,V.scope=sc->swapsWith v t n V=r):swapsWith v t n X.env=r:=e _ h.sc
theorem hu {k:Nat}{A:Around}(r:Room k A):A.units+65<cLine:=R.Room.apa r
theorem Ik {X:Cx}:Takes X m5:=λ_ _ x=>by
 obtain⟨_,_,_,_,_,_,_,_,_,_,_,_,_,_,_,_,z⟩:=x;exact z.elim
def Iz (X:Cx)(kws:List Keyword):TA:=λσ H Q=>∀(pos:Pos) pins s,Inv X pins σ H s->wpAny (model X.prog X.w) X.A (evalAll ((backToKw pos (keywordEach kws X.env)).map (·.2))) (AP X pins σ Q) X.xe s
theorem akX {kws:List Keyword}:PK X kws (Iz X kws):=⟨λpos pins s _ _ _ I h=>h pos pins s I⟩
theorem toK {kws:List Keyword}{t:TA}(h:PK X kws t){σ H Q}(q:t σ H Q):Iz X kws σ H Q:=λpos pins s I=>h.run pos pins s σ H Q I q
structure SK (X:Cx)(W:WX)(kws:List Keyword)(f:aH):Prop where
 run:∀ρ M aa G σ H Q,aK X.K aa G M H->cz X.K aa G σ ρ->wp (f ρ M) (dB X W (bM X.K) Q σ aa G H)->Iz X kws σ H Q
theorem anK:SK X W [] av:=⟨λρ M aa G σ H Q ms en h=>toK pk_nil (h aa G H [] (aJ.refl _ _ _) ms .nil)⟩
theorem SK.seq {kws:List Keyword}{qU:aH}{ρ:List af}{M:List ak}{aa:List Addr}{G H:Hp}{σ:L2.St}{α β:Type}{nS:List Addr->Hp->β->α->Prop}{Q:β->Hp->Prop}(h:SK X W kws qU)(ms:aK X.K aa G M H)(en:cz X.K aa G σ ρ){k:List af->Ev α}(w:wp (Ev.bind (qU ρ) k M) (dB X W nS Q σ aa G H)){Q':List V->Hp->Prop}
    (n:∀ay au M1 H1 v s,aJ aa G H ay au H1->aK X.K ay au M1 H1->bM X.K ay au v s->wp (k s M1) (dB X W nS Q σ ay au H1)->Q' v H1):Iz X kws σ H Q':=
  h.run ρ M aa G σ H Q' ms en (wp_mono (λr hr=>by
    cases r with
    |ok s M1=>exactλay au H1 v g m r=>n ay au M1 H1 v s g m r (wp_mono (λ_=>dB.shift g) hr)
    |ex c fs M1=>exact hr) (cL.mp w))
theorem anJ {nm:Option Str}{ahO:Pos}{e:Expr}{kws:List Keyword}{f:CE}{g:aH}(h1:bf X W e f)(h2:SK X W kws g):SK X W (⟨nm,e,ahO⟩::kws) (ai f g):=⟨λρ M aa G σ H Q ms en h=>
 toK (pk_cons cS akX) (h1.seq ms en h λay au M1 H1 v s g1 m1 r1 aD=>h2.seq m1 (en.grow g1) aD λaU aV M2 aS vs ss g2 m2 r2 bK=>bK aU aV aS (v::vs) (aJ.refl _ _ _) m2 (.cons (r1.grow g2) r2))⟩
end
def xO:aM:=λss M=>match ss with
 |[.dat (.fC _)]=>.ret (.ok (.mu M.length) (M++[.hand]))
 |_=>.bad
def gK:aM:=λss M=>match ss with
 |[.mu j,.dat (.int n)]=>match M[j]? with
  |some .hand=>if 0<n/\n<1073741824 then .draw n λd=>.ret (.ok (.dat (.int d)) M)else .bad
  |_=>.bad
 |_=>.bad
theorem Wr {K:Frag}{x f:Str}(h:F6 x f K=true):PropOf K (bx K x) f (zS K x f) (zT x f K):=by
 unfold F6 at h;rw[Bool.and_eq_true,Bool.and_eq_true,Bool.and_eq_true,decide_eq_true_eq,decide_eq_true_eq,decide_eq_true_eq]at h;obtain⟨h1,h2,h3,h4⟩:=h;refine⟨h1,h2,h3,?_⟩;unfold zT;split at h4
 ·rename_i g rest e
  exact⟨rest,by rw[e]⟩
 ·cases h4
theorem V8 {K:Frag}{x:Str}(h:MO x K=true):R7 K (bx K x)/\∀n∈rY,PySem.W.notFirst K (bx K x) (.type n)=true:=by
 unfold MO at h;rw[Bool.and_eq_true,Bool.and_eq_true,decide_eq_true_eq,decide_eq_true_eq,List.all_eq_true]at h;exact⟨⟨h.1,h.2.1⟩,h.2.2⟩
theorem ahC {K:Frag}{x:Str}(h:MS x K=true):DH K (bx K x):=by
 unfold MS at h;rw[Bool.and_eq_true,Bool.and_eq_true,Bool.and_eq_true,Bool.and_eq_true,decide_eq_true_eq,decide_eq_true_eq,decide_eq_true_eq,decide_eq_true_eq]at h;exact⟨He.cls_ok h.1,h.2.1,h.2.2.1,h.2.2.2.1,h.2.2.2.2⟩
theorem Wh {K:Frag}{c:Nat}{cs:List Nat}(h:MT c cs K=true):(∀t∈rY,PySem.W.kitOne K (.type t) (.ref (cy K c))=some false)/\∀c'∈cs,DH K (cy K c')/\PySem.W.kitOne K (.ref (cy K c')) (.ref (cy K c))=some (c'==c):=by
 unfold MT at h;rw[Bool.and_eq_true,List.all_eq_true,List.all_eq_true]at h;refine⟨λt ht=>of_decide_eq_true (h.1 t ht),λc' hc=>?_⟩;have:=h.2 c' hc;rw[Bool.and_eq_true,decide_eq_true_eq]at this;exact⟨ahC this.1,this.2⟩
theorem fT.fun {K:Frag}{d:fT}(e:wX K (d.ad K)=d.val)(c:d.ok K=true):∃fd,Fun K d.name d.qual d.st (d.ad K) fd:=by
 obtain⟨c1,c2⟩:=He.ba c;unfold wX at e;cases q:K.lookup (d.ad K)with
 |none=>
  rw[q]at c2;cases c2
 |some o=>
  obtain⟨oc,od,La,gi⟩:=o;rw[q]at c2 e;cases La with
  |func fd=>
   obtain⟨n1,n2,n3,uu,N6,N7,uv,N8,n9,NZ,N1,N3,Yb,Yc,N4⟩:=fd;have e2:(some (n1,n2,n3,uu,N6,N7,uv,N8,N4):FnV)=some (d.name,d.qual,defArgs d.st,.stmts (defBody d.st),defScope d.st,mainGlobals,[],.none,builtinsNs):=e;simp only[Option.some.injEq,Prod.mk.injEq]at e2;obtain⟨h1,h2,h3,h4,di,iy,h7,iK,h9⟩:=e2;subst h1 h2 h3 h4 di iy h7 iK h9;exact⟨_,⟨⟨oc,od,n9,NZ,N1,N3,Yb,Yc,gi,rfl,q,c2⟩,c1⟩⟩
  |_=>cases c2
abbrev Am:Type:=Bool×List FnV
def YL (cK:List Fk)(fn:List fT)(K:Frag):Am:=((cK.all λf=>f K)&&fn.all λd=>d.ok K,fn.map λd=>wX K (d.ad K))
def aax (fn:List fT):Am:=(true,fn.map fT.val)
def wj (cK:List Fk)(fn:List fT)(K:Frag):Prop:=YL cK fn K=aax fn
theorem wj.fact {cK:List Fk}{fn:List fT}{K:Frag}(c:wj cK fn K)(i:Nat){f:Fk}(h:cK[i]?=some f:=by rfl):f K=true:=by
 have c1:=(He.ba (show((cK.all λf=>f K)&&fn.all λd=>d.ok K)=true from congrArg (λz:Am=>z.1) c)).1;exact List.all_eq_true.mp c1 f (List.mem_of_getElem? h)
theorem wj.def_ {cK:List Fk}{fn:List fT}{K:Frag}(c:wj cK fn K)(i:Nat){d:fT}(h:fn[i]?=some d:=by rfl):∃fd,Fun K d.name d.qual d.st (d.ad K) fd:=by
 have c2:=(He.ba (show((cK.all λf=>f K)&&fn.all λd=>d.ok K)=true from congrArg (λz:Am=>z.1) c)).2;have e:fn.map (λd=>wX K (d.ad K))=fn.map fT.val:=congrArg (λz:Am=>z.2) c;have e2:(fn.map λd=>wX K (d.ad K))[i]?=(fn.map fT.val)[i]?:=by rw[e]
 rw[List.getElem?_map,List.getElem?_map,h]at e2;exact fT.fun (Option.some.inj e2) (List.all_eq_true.mp c2 d (List.mem_of_getElem? h))
theorem gc {P:Program}{w:World}{K:Frag}{mg:Str->Option Value}{base:Heap}{CX:CXT}{k:Nat}{f:Addr}{fd:FuncData}{ps:List Str}{n:Nat}:FnOk P w K mg base CX k f fd ps (gy K n λ_=>bad):=
 ⟨λ_ _ _ _ ⟨_,_,_,_,_,_,_,h⟩=>h.elim,λ_ _ _ _ _ _ _ _ _ _ _ _ _ ⟨_,_,_,_,_,_,_,h⟩=>h.elim⟩
def a_ (tab:(Nat->aM)->Nat->aM):Nat->Nat->aM
 |0=>λ_ _=>bad
 |n+1=>tab (a_ tab n)
def stI (M:List ak)(v o y:af):Option (List ak):=match y with
 | .dat (.int i)=>match fY o M with
  |some (j,xs)=>(ixN xs.length i).map λk=>M.set j (.lst (xs.set k v))
  |none=>none
 |_=>none
def sIx (kU n6 fi:CE):aN:=λρ=>(kU ρ).bind λv=>(n6 ρ).bind λo=>(fi ρ).bind λy=>ofM λM=>(stI M v o y).map λaz=>(.nx ρ,az)
section
variable{X:Cx}{W:WX}{e o it:Expr}{kU n6 fi:CE}{pos j_:Pos}
theorem z_ (h1:bf X W e kU)(h2:bf X W o n6)(h3:bf X W it fi)
    (ha:∀v,assign (.Subscript o it j_) X.env v=(do
      let lO <-holding [v] (eval o X.env)
      let iv <-holding [v,lO] (eval it X.env)
      standAt j_
      holding [v,lO,iv] (setItem lO iv v)
      release [v,lO,iv] []):=by intro _;rfl) (hs:swapsWithSole [.Subscript o it j_] e pos.line X.env=pure false:=by rfl) (hw:swappedStores [.Subscript o it j_] e X.env=pure none:=by rfl)
    (h0:(assignEach [.Subscript o it j_] X.env).map (·.2)=[assign (.Subscript o it j_) X.env]:=by rfl):jk X W (.Assign [.Subscript o it j_] e pos) (sIx kU n6 fi):=⟨λρ M aa G σ H D ms en h=>
  toS (ps_asg cS (pg_sub cS cS set_list ha) hs hw h0) (h1.lU ms en h λay au M1 H1 v s g1 m1 r1 aD=>h2.lU m1 (en.grow g1) aD λaU aV M2 aS v2 s2 g2 m2 r2 bK=>h3.lU m2 (en.grow (g1.trans g2)) bK λdO er ck fh uJ s3 g3 m3 r3 gQ=>by
    obtain⟨t,az,e1,q⟩:=ji.mp gQ;cases eZ:stI ck s s2 s3 with
    |none=>rw[eZ]at e1;cases e1
    |some we=>
      rw[eZ]at e1;cases e1;unfold stI at eZ;split at eZ
      · rename_i i
        split at eZ
        · rename_i j xs hj
          cases hk:ixN xs.length i with
          |none=>rw[hk]at eZ;cases eZ
          |some k=>
            rw[hk]at eZ;cases eZ;obtain⟨rfl,hm,a,vs,e2,e3,e4,d_⟩:=xF hj m3 (r2.grow g3);have gw:aJ dO er fh dO er (upd fh a (.lst (vs.set k v))):=aJ.write (List.mem_of_getElem? e2) (by rw[e4];simp);refine⟨a,vs,i,k,e3,jg r3,e4,by rw[d_.length];exact hk,?_⟩;exact q _ _ _ _ gw (m3.write (m':=.lst (xs.set k s)) e2 hm trivial ⟨_,upd_same,bM.set ((r1.grow g2).grow g3) k d_⟩) (en.grow (((g1.trans g2).trans g3).trans gw))
        · cases eZ
      · cases eZ)⟩
end
def A5:aN:=
 (bT (dw true (ai (bu (pu (sX false)) (ai (nc (ah 0) ou (nH (λ_=>ok (.dat (.int 63))))) av)) (ai (λ_=>ok (.dat (.int 0))) (ai (λ_=>ok (.dat (.int 0))) (ai (λ_=>ok (.dat (.int 4912))) (ai (λ_=>ok (.dat (.int 0))) av)))))))
def AR (t:bN):aN:=
  (aL (dj (tAnd (bz (ao (cmp .Eq) (ao aO (ah 0) (λ_=>ok (.dat (.int 2)))) (λ_=>ok (.dat (.int 0))))) (bz (ao (cmp .Lt) (ao aO (ah 0) (λ_=>ok (.dat (.int 1)))) (bu (b_ t) (ai (ao aO (ah 0) (λ_=>ok (.dat (.int 0)))) av))))) (aL (bL 2 (ao aO (ao aO (ah 0) (λ_=>ok (.dat (.int 0)))) (ao aO (ah 0) (λ_=>ok (.dat (.int 1))))))
  (aL (sIx (ao (bin .Add) (ao aO (ah 0) (λ_=>ok (.dat (.int 1)))) (λ_=>ok (.dat (.int 1)))) (ah 0) (λ_=>ok (.dat (.int 1))))
  (dj (bz (ao (cmp .GtE) (ah 2) (ao (bin .Pow) (λ_=>ok (.dat (.int 10))) (λ_=>ok (.dat (.int 18)))))) (sIx (ah 2) (ah 0) (λ_=>ok (.dat (.int 2)))) (sIx (ao (bin .Mod) (bu (pu ie) (ai (ao (bin .Add) (ao (bin .Add) (ao (bin .Mult) (ao aO (ah 0) (λ_=>ok (.dat (.int 3)))) (λ_=>ok (.dat (.int 40961)))) (ao (bin .Mult) (ao (bin .Mod) (bu (pu ie) (ai (ah 2) av)) (λ_=>ok (.dat (.int 2147483549)))) (λ_=>ok (.dat (.int 28657))))) (λ_=>ok (.dat (.int 7)))) av)) (λ_=>ok (.dat (.int 2147483647)))) (ah 0) (λ_=>ok (.dat (.int 3))))))) dR)
  (aL (dj (bz (ao (cmp .Gt) (ao aO (ah 0) (λ_=>ok (.dat (.int 2)))) (λ_=>ok (.dat (.int 0))))) (aL (bL 3 (ao (bin .Mod) (bu (pu ie) (ai (ao aO (ah 0) (λ_=>ok (.dat (.int 2)))) av)) (ah 1)))
  (aL (sIx (ao (bin .FloorDiv) (ao aO (ah 0) (λ_=>ok (.dat (.int 2)))) (ah 1)) (ah 0) (λ_=>ok (.dat (.int 2))))
  (bT (ah 3)))) dR)
  (aL (sIx (ao (bin .Add) (ao aO (ah 0) (λ_=>ok (.dat (.int 4)))) (λ_=>ok (.dat (.int 1)))) (ah 0) (λ_=>ok (.dat (.int 4))))
  (aL (bL 4 (ao aO (ah 0) (λ_=>ok (.dat (.int 3)))))
  (aL (sIx (ao (bin .Mod) (bu (pu ie) (ai (ao (bin .Add) (ao (bin .Add) (ao (bin .Add) (ao (bin .Mult) (ah 4) (ah 4)) (ao (bin .Mult) (ah 4) (λ_=>ok (.dat (.int 17389))))) (ao (bin .Mult) (ao aO (ah 0) (λ_=>ok (.dat (.int 4)))) (λ_=>ok (.dat (.int 611953))))) (λ_=>ok (.dat (.int 4099)))) av)) (λ_=>ok (.dat (.int 2147483647)))) (ah 0) (λ_=>ok (.dat (.int 3))))
  (bT (ao (bin .Mod) (bu (pu ie) (ai (ao (bin .Add) (ao (bin .FloorDiv) (ao aO (ah 0) (λ_=>ok (.dat (.int 3)))) (λ_=>ok (.dat (.int 61)))) (ao (bin .Mult) (ao (bin .Mod) (bu (pu ie) (ai (ao aO (ah 0) (λ_=>ok (.dat (.int 3)))) av)) (λ_=>ok (.dat (.int 8191)))) (λ_=>ok (.dat (.int 37))))) av)) (ah 1))))))))
def cR (ns:List Int)(i d x y:Int):ak:=.lst [.dat (.lst (ns.map .int)),.dat (.int i),.dat (.int d),.dat (.int x),.dat (.int y)]
theorem wI {α β:Type}(a:α)(M:List ak)(f:α->Ev β):(T.ret (Re.ok a M)).bind (aX f)=f a M:=rfl
section
variable{t:bN}{j:Nat}{n:Int}{M:List ak}{ns:List Int}{i d x y:Int}
theorem BV (hj:M[j]?=some (cR ns i d x y))(k:Int):aO M (.mu j) (.dat (.int k))=(atI [.dat (.lst (ns.map .int)),.dat (.int i),.dat (.int d),.dat (.int x),.dat (.int y)] k).map λs=>(fB M s,M):=by
 simp only[aO,hj,cR]
theorem LQ (hj:M[j]?=some (cR ns i d x y)):aO M (.mu j) (.dat (.int 0))=some (.dat (.lst (ns.map .int)),M):=by rw[BV hj];rfl
theorem LR (hj:M[j]?=some (cR ns i d x y)):aO M (.mu j) (.dat (.int 1))=some (.dat (.int i),M):=by rw[BV hj];rfl
theorem zd (hj:M[j]?=some (cR ns i d x y)):aO M (.mu j) (.dat (.int 2))=some (.dat (.int d),M):=by rw[BV hj];rfl
theorem LS (hj:M[j]?=some (cR ns i d x y)):aO M (.mu j) (.dat (.int 3))=some (.dat (.int x),M):=by rw[BV hj];rfl
theorem Vc (hj:M[j]?=some (cR ns i d x y)):aO M (.mu j) (.dat (.int 4))=some (.dat (.int y),M):=by rw[BV hj];rfl
theorem sZ (hj:M[j]?=some (cR ns i d x y)):fB M (.mu j)=.mu j:=by simp only[fB,hj,cR]
theorem GP (hj:M[j]?=some (cR ns i d x y)):fY (.mu j) M=some (j,[.dat (.lst (ns.map .int)),.dat (.int i),.dat (.int d),.dat (.int x),.dat (.int y)]):=by simp only[fY,hj,cR]
theorem oB {m:ak}(hl:j<M.length):(M.set j m)[j]?=some m:=List.getElem?_set_self hl
theorem aa8 (hj:M[j]?=some (cR ns i d x y))(v:Int):stI M (.dat (.int v)) (.mu j) (.dat (.int 1))=some (M.set j (cR ns v d x y)):=by unfold stI;rw[show fY (.mu j) M=_ from GP hj];rfl
theorem H9 (hj:M[j]?=some (cR ns i d x y))(v:Int):stI M (.dat (.int v)) (.mu j) (.dat (.int 2))=some (M.set j (cR ns i v x y)):=by unfold stI;rw[show fY (.mu j) M=_ from GP hj];rfl
theorem aa9 (hj:M[j]?=some (cR ns i d x y))(v:Int):stI M (.dat (.int v)) (.mu j) (.dat (.int 3))=some (M.set j (cR ns i d v y)):=by unfold stI;rw[show fY (.mu j) M=_ from GP hj];rfl
theorem aof (hj:M[j]?=some (cR ns i d x y))(v:Int):stI M (.dat (.int v)) (.mu j) (.dat (.int 4))=some (M.set j (cR ns i d x v)):=by unfold stI;rw[show fY (.mu j) M=_ from GP hj];rfl
theorem hcell (h2:0<=i)(h3:i<(ns.length:Int)):∃c:Int,∀M:List ak,aO M (.dat (.lst (ns.map .int))) (.dat (.int i))=some (.dat (.int c),M):=by
 have hk:i.toNat<ns.length:=by omega
 refine⟨ns[i.toNat],λM=>?_⟩;have e:atI (ns.map D.int) i=some (D.int ns[i.toNat]):=by
  unfold atI ixN;rw[List.length_map,if_pos h2,if_pos h3];show(ns.map D.int)[i.toNat]?=_
  rw[List.getElem?_map,List.getElem?_eq_getElem hk];rfl
 simp only[aO,e];rfl
theorem je {M:List ak}{d:D}:fB M (.dat d)=.dat d:=rfl
theorem set_set {m m':ak}:(M.set j m).set j m'=M.set j m':=by simp
def yM (t:bN):aN:=(dj (tAnd (bz (ao (cmp .Eq) (ao aO (ah 0) (λ_=>ok (.dat (.int 2)))) (λ_=>ok (.dat (.int 0))))) (bz (ao (cmp .Lt) (ao aO (ah 0) (λ_=>ok (.dat (.int 1)))) (bu (b_ t) (ai (ao aO (ah 0) (λ_=>ok (.dat (.int 0)))) av))))) (aL (bL 2 (ao aO (ao aO (ah 0) (λ_=>ok (.dat (.int 0)))) (ao aO (ah 0) (λ_=>ok (.dat (.int 1))))))
  (aL (sIx (ao (bin .Add) (ao aO (ah 0) (λ_=>ok (.dat (.int 1)))) (λ_=>ok (.dat (.int 1)))) (ah 0) (λ_=>ok (.dat (.int 1))))
  (dj (bz (ao (cmp .GtE) (ah 2) (ao (bin .Pow) (λ_=>ok (.dat (.int 10))) (λ_=>ok (.dat (.int 18)))))) (sIx (ah 2) (ah 0) (λ_=>ok (.dat (.int 2)))) (sIx (ao (bin .Mod) (bu (pu ie) (ai (ao (bin .Add) (ao (bin .Add) (ao (bin .Mult) (ao aO (ah 0) (λ_=>ok (.dat (.int 3)))) (λ_=>ok (.dat (.int 40961)))) (ao (bin .Mult) (ao (bin .Mod) (bu (pu ie) (ai (ah 2) av)) (λ_=>ok (.dat (.int 2147483549)))) (λ_=>ok (.dat (.int 28657))))) (λ_=>ok (.dat (.int 7)))) av)) (λ_=>ok (.dat (.int 2147483647)))) (ah 0) (λ_=>ok (.dat (.int 3))))))) dR)
theorem adS (hj:M[j]?=some (cR ns i d x y))(hl:j<M.length)(hz:ns.length<=63)(h2:0<=i)(hx:0<=x)(B7:x<2147483647):
    ∃s2 rj f_ lB,0<=rj/\0<=lB/\lB<2147483647/\yM t [.mu j,.dat (.int n),.un,.un,.un] M=.ret (.ok (.nx [.mu j,.dat (.int n),s2,.un,.un]) (M.set j (cR ns rj f_ lB y))):=by
  have self:M.set j (cR ns i d x y)=M:=by
    apply List.ext_getElem?
    intro k;by_cases e:j=k
    · subst e;rw[oB hl,hj]
    · rw[List.getElem?_set_ne e]
  by_cases c1:d=0
  · subst c1
    by_cases c2:i<(ns.length:Int)
    · obtain⟨c,hc⟩:=hcell (ns:=ns) h2 c2
      have hz2:ns.length<=sizeLine:=Nat.le_trans hz (by decide);have di:(M.set j (cR ns (i+1) 0 x y))[j]?=some (cR ns (i+1) 0 x y):=oB hl;have rf:j<(M.set j (cR ns (i+1) 0 x y)).length:=by rw[List.length_set];exact hl
      by_cases c3:1000000000000000000<=c
      · refine⟨.dat (.int c),i+1,c,x,by omega,hx,B7,?_⟩
        simp[yM,dj,aL,iD,bL,sIx,tAnd,bz,ao,bu,ai,av,Ev.bind,wI,T.bind,aX,R.ok,ofM,ah,sZ hj,zd hj,LR hj,LQ hj,cmp,dh,jO,b_,lenOf,eT,g5,hz2,c2,hc,je,aa8 hj,bin,sZ di,c3];rw[H9 di];simp
      · refine⟨.dat (.int c),i+1,0,(x*40961+c%2147483549*28657+7)%2147483647,by omega,Int.emod_nonneg _ (by decide),Int.emod_lt_of_pos _ (by decide),?_⟩
        have q1:(-(2^64)<x/\x<2^64):=by omega
        simp[yM,dj,aL,iD,bL,sIx,tAnd,bz,ao,bu,ai,av,Ev.bind,wI,T.bind,aX,R.ok,ofM,ah,sZ hj,zd hj,LR hj,LQ hj,cmp,dh,jO,b_,lenOf,eT,g5,hz2,c2,hc,je,aa8 hj,bin,sZ di,c3,LS di,pu,ie,q1];rw[aa9 di];simp
    · refine⟨.un,i,0,x,h2,hx,B7,?_⟩
      rw[self];have hz2:ns.length<=sizeLine:=Nat.le_trans hz (by decide);simp[yM,dj,tAnd,bz,ao,bu,ai,av,Ev.bind,wI,T.bind,aX,R.ok,ofM,ah,sZ hj,zd hj,LR hj,LQ hj,cmp,dh,jO,b_,lenOf,eT,g5,hz2,c2,dR,Int.not_lt.mp c2]
  · refine⟨.un,i,d,x,h2,hx,B7,?_⟩
    rw[self];simp[yM,dj,tAnd,bz,ao,Ev.bind,wI,T.bind,aX,R.ok,ofM,ah,sZ hj,zd hj,cmp,dh,jO,c1,dR]
def EJ (t:bN):aN:=
  (aL (dj (bz (ao (cmp .Gt) (ao aO (ah 0) (λ_=>ok (.dat (.int 2)))) (λ_=>ok (.dat (.int 0))))) (aL (bL 3 (ao (bin .Mod) (bu (pu ie) (ai (ao aO (ah 0) (λ_=>ok (.dat (.int 2)))) av)) (ah 1)))
  (aL (sIx (ao (bin .FloorDiv) (ao aO (ah 0) (λ_=>ok (.dat (.int 2)))) (ah 1)) (ah 0) (λ_=>ok (.dat (.int 2))))
  (bT (ah 3)))) dR)
  (aL (sIx (ao (bin .Add) (ao aO (ah 0) (λ_=>ok (.dat (.int 4)))) (λ_=>ok (.dat (.int 1)))) (ah 0) (λ_=>ok (.dat (.int 4))))
  (aL (bL 4 (ao aO (ah 0) (λ_=>ok (.dat (.int 3)))))
  (aL (sIx (ao (bin .Mod) (bu (pu ie) (ai (ao (bin .Add) (ao (bin .Add) (ao (bin .Add) (ao (bin .Mult) (ah 4) (ah 4)) (ao (bin .Mult) (ah 4) (λ_=>ok (.dat (.int 17389))))) (ao (bin .Mult) (ao aO (ah 0) (λ_=>ok (.dat (.int 4)))) (λ_=>ok (.dat (.int 611953))))) (λ_=>ok (.dat (.int 4099)))) av)) (λ_=>ok (.dat (.int 2147483647)))) (ah 0) (λ_=>ok (.dat (.int 3))))
  (bT (ao (bin .Mod) (bu (pu ie) (ai (ao (bin .Add) (ao (bin .FloorDiv) (ao aO (ah 0) (λ_=>ok (.dat (.int 3)))) (λ_=>ok (.dat (.int 61)))) (ao (bin .Mult) (ao (bin .Mod) (bu (pu ie) (ai (ao aO (ah 0) (λ_=>ok (.dat (.int 3)))) av)) (λ_=>ok (.dat (.int 8191)))) (λ_=>ok (.dat (.int 37))))) av)) (ah 1)))))))
theorem adT {s2:af}(hj:M[j]?=some (cR ns i d x y))(hl:j<M.length)(hn:0<n)(j7:n<1073741824)(hx:0<=x)(B7:x<2147483647):
    ∃r f_ lB aq3,0<=r/\r<n/\0<=lB/\lB<2147483647/\EJ t [.mu j,.dat (.int n),s2,.un,.un] M=.ret (.ok (.rt (.dat (.int r))) (M.set j (cR ns i f_ lB aq3))):=by
  by_cases c1:0<d
  · have di:(M.set j (cR ns i (d/n) x y))[j]?=some (cR ns i (d/n) x y):=oB hl
    refine⟨d%n,d/n,x,y,Int.emod_nonneg _ (by omega),Int.emod_lt_of_pos _ hn,hx,B7,?_⟩;simp[EJ,dj,aL,iD,bL,sIx,bT,bz,ao,bu,ai,av,Ev.bind,wI,T.bind,aX,R.ok,ofM,ah,sZ hj,zd hj,cmp,dh,jO,c1,eT,g5,je,pu,ie,bin,hn,j7,H9 hj]
  · have di:(M.set j (cR ns i d x (y+1)))[j]?=some (cR ns i d x (y+1)):=oB hl
    have zW:(-18446744073709551616<x/\x<18446744073709551616):=by omega
    let ig:Int:=(x*x+x*17389+(y+1)*611953+4099)%2147483647
    have agI:0<=ig:=Int.emod_nonneg _ (by decide);have agJ:ig<2147483647:=Int.emod_lt_of_pos _ (by decide);have iy:(M.set j (cR ns i d ig (y+1)))[j]?=some (cR ns i d ig (y+1)):=oB hl;have qS:stI (M.set j (cR ns i d x (y+1))) (.dat (.int ig)) (.mu j) (.dat (.int 3))=some (M.set j (cR ns i d ig (y+1))):=by rw[aa9 di,set_set]
    refine⟨(ig/61+ig%8191*37)%n,d,ig,y+1,Int.emod_nonneg _ (by omega),Int.emod_lt_of_pos _ hn,agI,agJ,?_⟩;simp[EJ,dj,aL,iD,bL,sIx,bT,bz,ao,bu,ai,av,Ev.bind,wI,T.bind,aX,R.ok,ofM,ah,sZ hj,zd hj,Vc hj,cmp,dh,jO,c1,eT,g5,je,pu,ie,bin,hn,j7,aof hj,dR,sZ di,LS di,Vc di,zW];rw[show stI _ _ _ _=_ from qS];simp[Ev.bind,wI,T.bind,aX,R.ok,ofM,ah,sZ iy,LS iy,je,ao,bu,ai,av,eT,g5,pu,ie,bin,hn,j7,bT,aL,iD]
    done
theorem acE:AR t=aL (yM t) (EJ t):=rfl
variable{K:Frag}{aa:List Addr}{G H:Hp}
theorem ajK {m m':ak}(ms:aK K aa G M H)(hj:M[j]?=some m)(hm:m.live)(hk:∀a,pN K aa G H a m->pN K aa G H a m'):aK K aa G (M.set j m') H:=
 ⟨ms.le,by rw[List.length_set];exact ms.len,ms.nd,λk a mk e1 e2=>by
  by_cases e:j=k
  ·subst e
   have hl:j<M.length:=(List.getElem?_eq_some_iff.mp hj).1;rw[oB hl]at e2;cases e2
   have q:=ms.mo j a m e1 hj;exact⟨λ_=>q.1 hm,hk a q.2⟩
  ·rw[List.getElem?_set_ne e]at e2
   exact ms.mo k a mk e1 e2,ms.fk⟩
theorem afu (ms:aK K aa G M H)(hj:M[j]?=some .hand):∃ns i d x y,ns.length<=63/\0<=i/\0<=x/\x<2147483647/\aK K aa G (M.set j (cR ns i d x y)) H:=by
 have hl:j<M.length:=(List.getElem?_eq_some_iff.mp hj).1;have ha:∃a,aa[j]?=some a:=⟨aa[j]'(by rw[ms.len];exact hl),List.getElem?_eq_getElem _⟩;obtain⟨a,ha⟩:=ha;obtain⟨s,ns,i,d,x,y,h1,h2,h3,h4,di,iy⟩:=(ms.mo j a _ ha hj).2;refine⟨ns,i,d,x,y,h3,h4,di,iy,?_⟩;refine⟨ms.le,by rw[List.length_set];exact ms.len,ms.nd,λk b mk e1 e2=>?_,ms.fk⟩;by_cases e:j=k
 ·subst e
  rw[oB hl]at e2;cases e2
  rw[ha]at e1;cases e1;exact⟨λ_=>(ms.mo j a _ ha hj).1 trivial,_,h1,.cons (cg.lst h2 (OS ns)) (.cons (cg.int i) (.cons (cg.int d) (.cons (cg.int x) (.cons (cg.int y) .nil))))⟩
 ·rw[List.getElem?_set_ne e]at e2
  exact ms.mo k b mk e1 e2
theorem Vd (ms:aK K aa G M H)(hj:M[j]?=some (cR ns i d x y))(h3:ns.length<=63)(h4:0<=i)(di:0<=x)(iy:x<2147483647):aK K aa G (M.set j .hand) H:=
 ajK ms hj trivial λa ⟨vs,e1,e2⟩=>by
  cases e2 with
  |cons r0 e2=>
   cases e2 with
   |cons r1 e2=>
    cases e2 with
    |cons r2 e2=>
     cases e2 with
     |cons r3 e2=>
      cases e2 with
      |cons qk e2=>
       cases e2
       cases jg r1;cases jg r2;cases jg r3;cases jg qk
       have r0:cg K G _ (.lst (ns.map .int)):=r0;cases r0 with
       |lst hg hr=>
        rw[OT hr]at hg;exact⟨_,ns,i,d,x,y,e1,hg,h3,h4,di,iy⟩
theorem gr {az:List ak}{k:Nat}(h:az.length=k):cut k az=az:=by
 unfold cut;split
 ·exact List.take_of_length_le (Nat.le_of_eq h)
 ·rfl
theorem agV {t:bN}(vs:List V)(H:Hp)(Q:VK)(E:XK)(h:gy K 2 gK vs H Q E):gy K 2 (aR false 2 5 (AR t)) vs H Q E:=by
 obtain⟨aa,G,M,ss,ms,r,hl,h⟩:=h;unfold gK at h;split at h
 ·rename_i j n
  split at h
  ·rename_i hj
   split at h
   ·rename_i hn
    have vm:j<M.length:=(List.getElem?_eq_some_iff.mp hj).1;obtain⟨ns,i,d,x,y,h3,h4,di,iy,m2⟩:=afu ms hj;refine⟨aa,G,M.set j (cR ns i d x y),[.mu j,.dat (.int n)],m2,r,rfl,?_⟩;have g1:(M.set j (cR ns i d x y))[j]?=some (cR ns i d x y):=oB vm;have l1:j<(M.set j (cR ns i d x y)).length:=by rw[List.length_set];exact vm
    obtain⟨s2,rj,f_,lB,a1,a2,a3,e1⟩:=adS (t:=t) (n:=n) g1 l1 h3 h4 di iy;rw[set_set]at e1;have g2:(M.set j (cR ns rj f_ lB y))[j]?=some (cR ns rj f_ lB y):=oB vm;have l2:j<(M.set j (cR ns rj f_ lB y)).length:=by rw[List.length_set];exact vm
    obtain⟨r0,d2,ig,oJ,cP,b2,m8,b4,e2⟩:=adT (t:=t) (s2:=s2) g2 l2 hn.1 hn.2 a2 a3;rw[set_set]at e2;have e3:aR false 2 5 (AR t) [.mu j,.dat (.int n)] (M.set j (cR ns i d x y))=.ret (.ok (.dat (.int r0)) (M.set j (cR ns rj d2 ig oJ))):=by
     have e4:AR t [.mu j,.dat (.int n),.un,.un,.un] (M.set j (cR ns i d x y))=.ret (.ok (.rt (.dat (.int r0))) (M.set j (cR ns rj d2 ig oJ))):=by
      rw[acE];unfold aL;simp only[Ev.bind,e1,T.bind,aX,iD,e2]
     unfold aR;rw[if_pos (show[af.mu j,af.dat (D.int n)].length=2 from rfl)];show(AR t [.mu j,.dat (.int n),.un,.un,.un] (M.set j (cR ns i d x y))).bind _=_
     rw[e4];show clean false _ (.dat (.int r0)) _=_
     unfold clean
     dsimp only
     rw[gr (by rw[List.length_set,List.length_set])]
    rw[e3];intro aq aj H' v g m3 b6;have g3:(M.set j (cR ns rj d2 ig oJ))[j]?=some (cR ns rj d2 ig oJ):=oB vm;have m4:=Vd m3 g3 h3 a1 m8 b4;have d_:(M.set j (cR ns rj d2 ig oJ)).set j .hand=M:=by
     rw[set_set];apply List.ext_getElem?
     intro k;by_cases e:j=k
     ·subst e;rw[oB vm,hj]
     ·rw[List.getElem?_set_ne e]
    rw[d_]at m4;exact h r0 cP b2 aq aj H' v g m4 b6
   ·exact h.elim
  ·exact h.elim
 ·exact h.elim
theorem agW (vs:List V)(H:Hp)(Q:VK)(E:XK)(h:gy K 1 xO vs H Q E):gy K 1 (aR true 1 1 A5) vs H Q E:=by
 obtain⟨aa,G,M,ss,ms,r,hl,h⟩:=h;unfold xO at h;split at h
 ·rename_i ns
  refine⟨aa,G,M,[.dat (.fC ns)],ms,r,rfl,?_⟩;have hz:(cutD ns none (some 63)).length<=63:=by
   unfold cutD;rw[List.length_take,List.length_drop];show min (min 63 ns.length-0) _<=63
   omega
  have e1:A5 [.dat (.fC ns)] M=.ret (.ok (.rt (.mu M.length)) (M++[cR (cutD ns none (some 63)) 0 0 4912 0])):=by
   have q:(5:Nat)<=sizeLine:=by decide
   simp[A5,bT,dw,ai,av,bu,nc,ou,nH,Ev.bind,T.bind,aX,R.ok,ofM,ah,je,tF,pu,sX,iM,d9,eT,g5,q,cR]
  have e3:aR true 1 1 A5 [.dat (.fC ns)] M=.ret (.ok (.mu M.length) (M++[cR (cutD ns none (some 63)) 0 0 4912 0])):=by
   unfold aR;rw[if_pos (show[af.dat (D.fC ns)].length=1 from rfl)];show(A5 [.dat (.fC ns)] M).bind _=_
   rw[e1];show clean true M.length (.mu M.length) (M++[cR (cutD ns none (some 63)) 0 0 4912 0])=_
   unfold clean;simp[cR]
  rw[e3];intro aq aj H' v g m3 b6;have g3:(M++[cR (cutD ns none (some 63)) 0 0 4912 0])[M.length]?=some (cR (cutD ns none (some 63)) 0 0 4912 0):=by simp
  have m4:=Vd m3 g3 hz (by decide) (by decide) (by decide);have d_:(M++[cR (cutD ns none (some 63)) 0 0 4912 0]).set M.length .hand=M++[.hand]:=by simp
  rw[d_]at m4;exact h aq aj H' v g m4 b6
 ·exact h.elim
end
theorem al2 {ss:List af}{M:List ak}{Q:Re af->Prop}(h:wp (gK ss M) Q):ss.length=2:=by
 unfold gK at h;split at h
 ·rfl
 ·exact h.elim
theorem al3 {ss:List af}{M:List ak}{Q:Re af->Prop}(h:wp (xO ss M) Q):ss.length=1:=by
 unfold xO at h;split at h
 ·rfl
 ·exact h.elim
theorem vR {i8 c:Nat}{r_ F:aM}(h:List.lookup i8 [(c,F)]=some r_):i8=c/\r_=F:=by
 rw[List.lookup_cons]at h;split at h
 ·rename_i e
  exact⟨by simpa using e,(Option.some.inj h).symm⟩
 ·cases h
end R
namespace R
end R
namespace R
open PySem PySem.Spec PyProof.Rows L2
variable[aT]
structure Q3 (K:Frag)(yZ:Str)(C f:Addr)(name qual:Str)(params:Arguments)(body:List Stmt)(scope:Scope)(fd:FuncData):Prop where
 CA:OexC K C
 ex:∃(oc:Value) (od:Option Addr) (gi:Array (Option Value)) (qP kV doc pm:Value) (an:Option Addr) (ct:Value) (iY dY:Addr),
  fd=PySem.W.ksFn name qual params body scope qP kV doc pm an (.ref iY) ct dY/\K.lookup f=some ⟨oc,od,.func fd,gi⟩/\PySem.W.codeIn K (.ref iY) qual=true/\
  (∃(sE:Value) (qM:Option Addr) (vs:Array Value) (qL:Array (Option Value)) (file:Str) (tf:Tok),K.lookup iY=some ⟨sE,qM,.fields vs,qL⟩/\vs[2]?=some (.str file tf)/\(yZ==file)=true)/\
  ∃(cl:Value) (Ex:Option Addr) (EI:Array (Option Value)),K.lookup dY=some ⟨cl,Ex,.cell (some (.ref C)),EI⟩
 cls:∃cd,PySem.W.clsIn K C=some cd/\PySem.W.alongIn K "__init__" ((cd.mro.dropWhile (· != .ref C)).drop 1)=some (some (.builtin "ValueError.__init__"))/\cd.hasDict=true/\PySem.HandSPX.refsVE cd.mro=true
 sub:PySem.W.mroIn K C (.ref C)=some true
 aon:PySem.W.subIn K (.ref C) (.type "ValueError")=some true
 sup:PySem.W.nsIn K mainGlobals "super"=some none
 akB:PySem.W.nsIn K cStatics "thirdparty.any"=some none
def wU (code fld:Str)(p:Nat->Pos)(j:Nat):List Stmt:=
  [.Expr (.Call (.Attribute (.Call (.Name "super" (p 0)) [] [] (p 1)) "__init__" (p 2)) [.Name fld (p 3)] [] (p 4)) (p 5),
   .Assign [.Attribute (.Name "self" (p 6)) "code" (p 7)] (.Constant (.str code) j (p 8)) (p 9),
   .Assign [.Attribute (.Name "self" (p 10)) fld (p 11)] (.Name fld (p 12)) (p 13)]
def P9 (C:Addr)(code fld:Str):Sp:=λvs H Q _=>∃(a:Addr) (y:V),vs=[.ref a,y]/\H a=some (exo a C none)/\
 ∀bO,H bO=none->bO≠a->Q .non (upd (upd H bO (exd bO [(fld,y),("code",.str code)])) a (exo a C (some bO)))
section
variable{prog:Program}{w:World}{A:Around}{E:Value->Shared->Prop}
open PySem.W in
theorem acU {M:Model}{h:Heap}{g:Array GenState}{d:Drawn}{t:Nat}{os:OsState}{C u e t0 N:Addr}{nm q:Str}{bs bm:List Value}{afQ:Bool}{sn:List Str}{sub:List Value}{tZ:Bool}{col:Option Bool}{dd:Option Addr}{k0 k1 k2 k3 k5:Option Value}{rest:List Value}{Q:Value->Shared->Prop}
    (hC:h.get? C=some (excClassObj nm q C N bs bm afQ sn sub tZ col dd k0 k1 k2 k3 k5 "ValueError.__new__")) (hT:∀X:String,bm.contains (.type X)=HandSPX.veTail.contains (.type X)) (he:h.get? e=some (HandSPX.excO C t0)) (hu:h.get? u=some (kxs_mw "ValueError.__init__" e)) (hz:rest.length<=sizeLine)
    (hq:∀h' t1,(∀b o,b≠e->h.get? b=some o->h'.get? b=some o)->h'.get? e=some (HandSPX.excO C t1)->Q .none ⟨h',g,d,t,os⟩):
    wpAny (model prog w) A (call (.ref u) rest) Q E ⟨h,g,d,t,os⟩:=by
  refine wpAny_call (codeAny_of_tree ?_);show wpAny _ A.in1 (callAny (.ref u) ⟨rest,[]⟩) _ _ _
  simp only[callAny];refine wpAny_bind (wpAny_load hu ?_);simp only[kxs_mw,show(Value.type "method-wrapper"==Value.type "method"||Value.type "method-wrapper"==Value.type "builtin_function_or_method"||Value.type "method-wrapper"==Value.type "method-wrapper")=true by decide,if_true];refine KFB.if_so (by decide) ?_;refine wpAny_bind (check_bound_init F.excBase_ValueError.toExcCallFacts hC he rfl ?_);refine wpAny_bind (wpAny_pure (wpAny_pure ?_));refine⟨plainId_quiet F.excBase_ValueError.init.plain _,codeAny_builtin F.excBase_ValueError.initEntry ?_⟩;exact exc_init_tree (cls:=.ref C) (t0:=t0) (dv:=none) (c2:=.none) (c3:=.none) (b4:=.bool false) he hz λh' k g9 _=>hq h' _ k g9
theorem ajs {o:Expr}{env:Env}{apos pos:Pos}(h:(apos.endLine==pos.line)=true):methodCallPos true o env apos pos=pure pos:=by
 unfold methodCallPos;rw[h];rfl
theorem mc_eq {o:Expr}{name:Str}{apos pos:Pos}{args:List Expr}{env:Env}(h:(apos.endLine==pos.line)=true)(hf:methodCallForm (args.length+0) (backTo pos (starEach args env)) (backToKw pos (keywordEach [] env))=true):
    eval (.Call (.Attribute o name apos) args [] pos) env=(do
      let lO <-attributeBase o name env (eval o env)
      standAt apos.atName
      let(f,first) <-holding [lO] (getMethod lO name (do return (<-importBound o env).getD true))
      callWith pos f first (backTo pos (starEach args env)) []):=by
  show(do
    let lO <-attributeBase o name env (eval o env)
    standAt apos.atName
    methodCall o name apos pos env lO (args.length+0) (backTo pos (starEach args env)) (backToKw pos (keywordEach [] env)))=_
  unfold methodCall;rw[hf,ajs h];rfl
structure Q4 (prog:Program)(K:Frag)(C:Addr)(scope:Scope)(code fld:Str):Prop where
 kind:scope.kind=.function
 co:scope.isCoroutine=false
 gen:scope.isGenerator=false
 nocell:∀x∈scope.names,x.2≠.cell
 n1:scope.names.lookup ("super":Str)=some .globalImplicit
 n2:scope.names.lookup ("__class__":Str)=some .free
 n3:scope.names.lookup ("self":Str)=some .local
 uu:scope.names.lookup (fld:Str)=some .local
 top:(prog.main.scope.names.lookup ("super":Str)).isSome=false
 f1:PySem.W.findIn K (.ref C) "code"=some none
 f2:PySem.W.findIn K (.ref C) fld=some none
 ne:fld≠"code"
 ne2:fld≠"self"
 EM:(fld==("__debug__":Str))=false
open PySem.W in
theorem aep {K:Frag}{mg:Str->Option Value}{base:Heap}{CX:CXT}{C f:Addr}{name qual code fld:Str}{params:Arguments}{scope:Scope}{fd:FuncData}{p:Nat->Pos}{j:Nat}
    (X:Q3 K prog.main.file C f name qual params (wU code fld p j) scope fd) (W:Q4 prog K C scope code fld) (hp:(params.posonlyargs++params.args).head?.map (·.arg)=some "self") (hpos:((p 2).endLine==(p 4).line)=true):
    FnOk prog w K mg base CX 1 f fd ["self",fld] (P9 C code fld):=by
  refine⟨λvs H Q E h=>by obtain⟨a,y,rfl,_⟩:=h;rfl,λA outer s H args us vs Q E hr e0 hb hv hs=>?_⟩;obtain⟨a,y,rfl,ha,hq⟩:=hs;obtain⟨oc,od,gi,qP,kV,doc,pm,an,ct,iY,dY,rfl,lk,hcd,⟨sE,qM,arH,qL,file,tf,NH,Mv,L7⟩,cl,Ex,EI,aja⟩:=X.ex;obtain⟨aqT,hcl,aft,as3,as4⟩:=X.cls;obtain⟨nm,xQ,N,bs,bm,sn,sub,tZ,col,dd,k0,k1,k2,k3,k5,hC,LW⟩:=X.CA.cls;cases hv with
  | @cons _ ap9 _ apf r0 hv=>
  cases hv with
  | @cons _ rZ _ apf r1 hv=>
  cases hv
  obtain rfl:ap9=Value.ref a:=r0;have DJ:K.In s.heap:=e0.mod.kin.keeps λb o e=>(e0.bs b o e).1
  have lim:s.heap.NoLimit:=e0.mod.nolimit.keeps λb o e=>(e0.bs b o e).1
  obtain⟨Cs,agk,afJ⟩:=e0.mod.blt;obtain⟨t0,VA⟩:=exo_at e0.hok ha;have kW:s.heap.Ns mainGlobals mg:=e0.mod.glob.keeps λb o e=>(e0.bs b o e).1
  have b0:s.heap.Ns builtinsNs Cs:=agk.keeps λb o e=>(e0.bs b o e).1
  have Fx:clsIn K C=some {name:=nm,bases:=bs,mro:=.ref C::bm,ns:=N,qualname:=xQ,hasDict:=true,slotNames:=sn,subclasses:=sub,abstract:=tZ,collection:=col,hasDel:=false}:=by unfold clsIn;rw[hC]<;>rfl
  have aeb:=hcl.symm.trans Fx;cases aeb
  obtain⟨m7,afv,Ve⟩:∃m7:Arg,(params.posonlyargs++params.args).head?=some m7/\m7.arg="self":=by
    cases e:(params.posonlyargs++params.args).head? with
    |none=>rw[e]at hp;cases hp
    |some m7=>rw[e]at hp;exact⟨m7,rfl,Option.some.inj hp⟩
  obtain⟨gh,g,d,t,os⟩:=s;have fs:("self"==fld)=false:=by
    cases e:("self"==fld)with
    |false=>rfl
    |true=>exact absurd (eq_of_beq e).symm W.ne2
  have atX:(fld=="self")=false:=by
    cases e:(fld=="self")with
    |false=>rfl
    |true=>exact absurd (eq_of_beq e) W.ne2
  have o6:∀u:Value,(([("self",Value.ref a),(fld,u)]:List (Str×Value)).reverse.lookup ("self":Str))=some (Value.ref a):=λu=>by
    show(([(fld,u),("self",Value.ref a)]:List (Str×Value)).lookup ("self":Str))=_
    rw[List.lookup_cons,fs,List.lookup_cons];rfl
  have XG:∀u:Value,(([("self",Value.ref a),(fld,u)]:List (Str×Value)).reverse.lookup (fld:Str))=some u:=λu=>by
    show(([(fld,u),("self",Value.ref a)]:List (Str×Value)).lookup fld)=_
    rw[List.lookup_cons,beq_self_eq_true]
  refine ks_codeAny_call_defAt (fd:=ksFn name qual params (wU code fld p j) scope qP kV doc pm an (.ref iY) ct dY) (body:=wU code fld p j) (binds:=[("self",Value.ref a),(fld,rZ)]) hr.depth (DJ _ _ lk) rfl lim (codeRec_of DJ hcd) rfl hb W.nocell (λy hy=>?_) (λh1 n_ kp=>?_) W.co W.gen W.kind
  · simp only[List.mem_cons,List.not_mem_nil,or_false]at hy
    rcases hy with rfl|rfl
    · exact W.n3
    · exact W.uu
  show _root_.PySem.wpAt (model prog w) _ (.func _ (ksEnv qual scope gh.objs.size f (.ref iY) dY)) (execs (wU code fld p j) (ksEnv qual scope gh.objs.size f (.ref iY) dY)) _ _ _
  have yj:K.In h1:=DJ.keeps kp;have Fy:=kp _ _ VA;have LO:=yj _ _ hC;have agr:∀c,(HandSPX.excO C t0).data≠.cls c:=λc q=>by cases q
  have afs:a≠C:=λz=>by
    rw[z,LO]at Fy;cases Fy
  have hint:interactive (ksEnv qual scope gh.objs.size f (.ref iY) dY)=false:=by
    unfold interactive;simp[Env.blockKind,W.kind]
  unfold wU;refine ks_wpAt_execs_cons (ks_wpAt_Expr_any (hi:=hint) (ks_wpAt_MethodCall ?_ (mc_eq hpos (by rfl))));refine ks_wpAt_super_base (env:=ksEnv qual scope gh.objs.size f (.ref iY) dY) W.n1 W.n2 (by decide) rfl (yj _ _ lk) rfl afv rfl (yj _ _ NH) rfl Mv L7 W.top ?_;refine ks_loadName_global W.kind W.n1 (Calls.loadGlobal_builtin (env:=ksEnv qual scope gh.objs.size f (.ref iY) dY) (kW.keeps kp) (mg_none_of DJ kW X.sup) (b0.keeps kp) ((afJ _ (by decide+kernel)).trans (show bootBuiltins "super"=some (.type "super") by first|rfl|kernel_rfl)) ⟨rfl,?_⟩);refine wpAny_loadName_free W.kind W.n2 rfl ⟨_,yj _ _ aja,rfl⟩ ?_;refine wpAny_loadName_local W.kind (by rw[Ve];exact W.n3) n_ (by rw[Ve];exact o6 rZ) ?_;refine ks_wpAny_isType_cls LO rfl ⟨rfl,?_⟩;refine ks_wpAny_call_super LO rfl Fy rfl agr (looks_mroIn yj X.sub) (λh2 e2 k2=>?_);have yl:K.In h2:=yj.keeps k2;have mh:=k2 _ _ Fy;have d7:InstAt h2 a (HandSPX.excO C t0) C none:=⟨mh,rfl,rfl,trivial⟩;refine kxs_getMethod kxs_ValueError e2 (looks_opaque yl X.akB) (l₀:=Value.ref C::bm) (λA Q E s k q=>wpAny_bind ((looks_clsIn yl Fx) A _ E s k (wpAny_pure q))) rfl yl aft (d7.type.andThen (looks_subIn yl X.aon)) afs (by decide) ?_;have Vw:(h2.push (kxs_mw "ValueError.__init__" a)).get? h2.objs.size=some (kxs_mw "ValueError.__init__" a):=Heap.get?_push_size _ rfl;have k3:∀b o,h2.get? b=some o->(h2.push (kxs_mw "ValueError.__init__" a)).get? b=some o:=λb o q=>Heap.get?_push_of_some _ q
  have Vx:=(n_.keeps k2).keeps k3;rw[show starEach [Expr.Name fld (p 3)] (ksEnv qual scope gh.objs.size f (.ref iY) dY)=(false,eval (Expr.Name fld (p 3)) (ksEnv qual scope gh.objs.size f (.ref iY) dY))::starEach [] (ksEnv qual scope gh.objs.size f (.ref iY) dY)from rfl];refine kxs_callWith (i:="ValueError.__init__") (x:=a) (by rfl) (PySem.Calls.evalArgs_plain ?_);refine Calls.spliced_cons (wpAny_Name (hd:=W.EM) (wpAny_loadName_local W.kind W.uu Vx (XG rZ) ?_));refine Calls.spliced_nil ⟨Vw,?_⟩;have acF:∀Y:String,bm.contains (.type Y)=HandSPX.veTail.contains (.type Y):=λY=>HandSPX.refsVE_contains Y bm LW
  refine acU (M:=model prog w) (k3 _ _ (yl _ _ hC)) acF (k3 _ _ mh) Vw (by show 1<=sizeLine;rw[sizeLine_eq];omega) (λh4 t1 k4 BW=>?_);have IY:K.In h4:=λb o q=>by
    have hb:=(e0.bs b o (e0.mod.kin _ _ q)).2;have ne:b≠a:=λz=>by
      rw[z,ha]at hb;cases hb
    exact k4 b o ne (k3 _ _ (yl _ _ q))
  have ahM:∀b o,b≠a->gh.get? b=some o->h4.get? b=some o:=λb o n q=>k4 b o n (k3 _ _ (k2 _ _ (kp _ _ q)))
  have Rm:gh.objs.size≠a:=λz=>by
    have q:=Heap.lt_size (show gh.get? a=_ from VA);rw[<-z]at q;exact Nat.lt_irrefl _ q
  have Mc:h4.Ns gh.objs.size λx=>([("self",Value.ref a),(fld,rZ)]:List (Str×Value)).reverse.lookup x:=by
    obtain⟨o,es,gu,ho,r⟩:=Vx;exact⟨o,es,gu,k4 _ _ Rm ho,r⟩
  have aor:gh.objs.size<h4.objs.size:=by
    obtain⟨o,es,gu,ho,r⟩:=Mc;exact Heap.lt_size ho
  show _root_.PySem.wpAt (model prog w) _ (.func _ (ksEnv qual scope gh.objs.size f (.ref iY) dY)) (execs _ (ksEnv qual scope gh.objs.size f (.ref iY) dY)) _ _ _
  refine ks_wpAt_execs_cons (ks_wpAt_Assign_Attr (wpAt_of_wpAny (Calls.Constant_str ?_)) (by rfl));refine wpAny_Name (wpAny_loadName_local W.kind W.n3 Mc (o6 rZ) ?_);refine set_plain IY (ox:=HandSPX.excO C t1) (od:=none) ⟨BW,rfl,rfl,trivial⟩ X.CA.sa ?_;refine HandSPX.exc_osa IY BW Fx (show HandSPX.refsVE (.ref C::bm)=true from LW) rfl W.f1 (λdi au5 bO k5 dn TY L5 FN=>?_);have Rj:K.In di:=λb o q=>by
    have hb:=(e0.bs b o (e0.mod.kin _ _ q)).2;have ne:b≠a:=λz=>by
      rw[z,ha]at hb;cases hb
    exact k5 b o ne (IY _ _ q)
  have Vy:di.Ns gh.objs.size λx=>([("self",Value.ref a),(fld,rZ)]:List (Str×Value)).reverse.lookup x:=by
    obtain⟨o,es,gu,ho,r⟩:=Mc;exact⟨o,es,gu,k5 _ _ Rm ho,r⟩
  obtain⟨akl,_,_,ags,_⟩:=id FN;show _root_.PySem.wpAt (model prog w) _ (.func _ (ksEnv qual scope gh.objs.size f (.ref iY) dY)) (execs _ (ksEnv qual scope gh.objs.size f (.ref iY) dY)) _ _ _
  refine ks_wpAt_execs_cons (ks_wpAt_Assign_Attr (wpAt_of_wpAny (wpAny_Name (hd:=W.EM) (wpAny_loadName_local W.kind W.uu Vy (XG rZ) ?_))) (by rfl));refine wpAny_Name (wpAny_loadName_local W.kind W.n3 Vy (o6 rZ) ?_);refine set_plain Rj (ox:={cls:=.ref C,dict:=some bO,data:=.fields #[.ref t1,.none,.none,.none,.bool false,.none]}) (od:=some akl) ⟨L5,rfl,rfl,ags⟩ X.CA.sa ?_;obtain⟨tok,FN⟩:∃tok,di.Ns1 bO (λy:Str=>if y=("code":Str)then some (Value.str code tok)else none):=⟨_,FN⟩;have ald:RelV (V.str code) (Value.str code tok):=⟨tok,rfl⟩;have Zw:∀g,RelO (([("code",V.str code)]:List (Str×V)).lookup g) ((λy:Str=>if y=("code":Str)then some (Value.str code tok)else none) g):=λg=>relO_put (f:="code") (y:=.str code) (fs:=[]) (mA:=λ_=>none) ald (λg=>True.intro) g
  refine OEX.osa_old Rj L5 FN (within_of Zw) (by simp) Fx (show HandSPX.refsVE (.ref C::bm)=true from LW) rfl W.f2 (λiy au6 k6 agp=>?_);refine wpAt_of_wpAny (wpAny_execs_nil ?_);have T3:gh.objs.size<=bO:=Nat.le_trans (Nat.le_of_lt aor) dn;have nd:∀{b:Addr} {o:Obj},gh.get? b=some o->b≠bO:=λ{b o} q=>Nat.ne_of_lt (Nat.lt_of_lt_of_le (Heap.lt_size q) T3)
  have Gg:∀b o,b≠a->gh.get? b=some o->iy.get? b=some o:=λb o n q=>k6 b o (nd q) (k5 b o n (ahM b o n q))
  have Vk:=k6 _ _ (Ne.symm TY) L5;have hnd:H bO=none:=e0.hok.fresh T3;have na:∀{b:Addr},H b=none->b≠a:=λ{b} n z=>by
    rw[z,ha]at n;cases n
  refine⟨.non,upd (upd H bO (exd bO [(fld,y),("code",.str code)])) a (exo a C (some bO)),rfl,e0.bare,?_,λb o q=>?_,rfl,hq bO hnd TY⟩
  · exact{
      keep:=λb o q n _ _=>Gg b o (na n) q
      slot:=λb o q n _ _=>⟨o.slots,Gg b o (na n) q⟩
      free:=λb o q n _=>by rw[upd_ne (na n),upd_ne (nd q)];exact n
      there:=λb o q _=>by
        by_cases hb:b=a
        · exact⟨_,by rw[hb];exact Vk⟩
        · exact⟨o,Gg b o hb q⟩
      tups:=λb xs q=>by rw[upd_ne (at_ne ha q exo_tup),upd_ne (ne_of_none q hnd)];exact q
      frzs:=λb o v q=>by rw[upd_ne (at_ne ha q exo_frz),upd_ne (ne_of_none q hnd)];exact q
      tbls:=λb ps q=>⟨#[],by rw[upd_ne (at_ne ha q exo_tbl),upd_ne (ne_of_none q hnd),q];simp⟩}
  · by_cases hb:b=a
    · subst hb
      rw[upd_same]at q;cases q
      exact exo_ok Vk
    · rw[upd_ne hb]at q
      by_cases hd:b=bO
      · subst hd
        rw[upd_same]at q;cases q
        exact exd_ok agp (relO_put r1 Zw)
      · rw[upd_ne hd]at q
        exact(e0.hok b o q).stay (λc v hc z=>Gg c v (by
            rcases hc with hc|hc
            · rw[hc]
              exact hb
            · exact at_ne ha hc exo_own) z)
          (λc hc=>by rw[upd_ne (at_ne ha hc exo_own),upd_ne (ne_of_none hc hnd)];exact hc) (λc xs hc=>by rw[upd_ne (at_ne ha hc exo_tup),upd_ne (ne_of_none hc hnd)];exact hc)
end
def E4 (c:Nat)(code fld:Str):List af->Ev bW:=λss M=>match gW M ss with
 |some ([d],az)=>.ret (.ex c [(fld,d),("code",.str code)] az)
 |_=>.bad
def mV (c:Nat)(code fld:Str)(kO:CE):aN:=λρ=>(ai kO av ρ).bind (E4 c code fld)
structure yv (D:iw)(x:Str)(c:Nat)(code fld:Str):Prop where
 CA:OexC D.K (cy D.K c)
 ex:∃(E7:Addr) (fd:FuncData),PySem.W.findIn D.K (.ref (cy D.K c)) "__init__"=some (some (.ref E7))/\PySem.W.typeIn D.K (.ref E7)=some (.type "function")/\
  FnOk D.prog D.w D.K D.mg D.base (L2.CX D.prog D.w) 1 E7 fd ["self",fld] (P9 (cy D.K c) code fld)/\Binds D.K fd ["self",fld] []
 mg:D.mg x=some (.ref (cy D.K c))
section
variable{X:Cx}{W:WX}{e:Expr}{aE:CE}{x code fld:Str}{c k:Nat}{fH cI gJ:Pos}
theorem ae4 {H:Hp}{a bO:Addr}{o1 s_ akk YI:HO}(ha:H a=none)(hne:bO≠a):upd (del (upd (upd (upd H a o1) bO s_) a akk) a) bO YI=upd H bO YI:=by
 funext b
 by_cases hb:b=bO
 ·rw[hb,upd_same,upd_same]
 ·rw[upd_ne hb,upd_ne hb]
  by_cases h2:b=a
  ·rw[h2,del_same,ha]
  ·rw[del_ne h2,upd_ne h2,upd_ne hb,upd_ne h2]
theorem Aa (F:yv X.iR x c code fld)(hc:X.calm=true)(tk:Takes X W)(hr:Room (k+1) X.A)(hk:1<=k)(G:eK X x)(h1:bf X W e aE)
    (he:starEach [e] X.env=(false,eval e X.env)::starEach [] X.env:=by rfl):jk X W (.Raise (some (.Call (.Name x fH) [e] [] cI)) none gJ) (mV c code fld aE):=⟨λρ M aa iV σ H D ms en h=>by
  obtain⟨E7,fd,agQ,aot,c_,hb⟩:=F.ex;refine toS (ps_raise hc tk (pmk_oex F.CA agQ aot c_ (hr.mono (by omega)) hb .nil (passes_call tk λ_ _ _ _ z=>z.elim) G.gl F.mg uy G.nd he)) ?_;refine(aG h1 bA he).lU ms en h λay au M1 H1 vs ss g1 m1 r1 aD=>?_
  unfold E4 at aD;split at aD
  · rename_i d M2 e1
    obtain⟨aV,m2,g2,r2⟩:=BJ m1 r1 e1;cases r2 with
    | @cons y Iv _ _ dZ alv=>
    cases alv
    refine⟨by simp,λa ha=>⟨a,y,rfl,upd_same,λbO vg hne=>⟨rfl,bO,[(fld,y),("code",.str code)],upd_same,?_,?_,?_⟩⟩⟩
    · rw[upd_ne hne,upd_same]
    · rw[upd_ne hne]at vg
      exact vg
    · rw[upd_ne hne]at vg
      rw[ae4 ha hne];have pu:=Pure.new (o:=.xd [(fld,y),("code",.str code)]) m2.le vg;exact aD σ ay _ _ bO _ (g2.trans pu.grow) (m2.pure pu) upd_same (.cons (cg.mono pu.ex dZ) (.cons (.str code) .nil))
  · exact aD.elim⟩
end
abbrev iG:=List (Addr×Obj)
def d8 (L:iG)(H:Hp):Hp:=λb=>match L.lookup b with
 |some o=>some (cu b o)
 |none=>H b
def dF (L:iG)(H:Hp):Hp:=λb=>match L.lookup b with
 |some _=>none
 |none=>H b
structure DM (L:iG)(base:Heap)(fs:List Addr)(h:Heap)(H:Hp):Prop where
 at_:∀b o,L.lookup b=some o->h.get? b=some o/\H b=none/\b∉fs/\base.get? b=none
section
variable{L:iG}{H G:Hp}{b:Addr}{o:Obj}
theorem o5 (h:L.lookup b=some o):d8 L H b=some (cu b o):=by unfold d8;rw[h]
theorem eu (h:L.lookup b=none):d8 L H b=H b:=by unfold d8;rw[h]
theorem back_in (h:L.lookup b=some o):dF L H b=none:=by unfold dF;rw[h]
theorem cY (h:L.lookup b=none):dF L H b=H b:=by unfold dF;rw[h]
theorem Ol {x:Addr}:cu b o≠.own x:=λz=>by unfold cu at z;cases z
theorem zO {xs:List V}:cu b o≠.tup xs:=λz=>by unfold cu at z;cases z
theorem Tu {c:Addr}{q:Str}{o:Obj}:LamX.CodeO c q≠cu c o:=λz=>by
 unfold LamX.CodeO cu at z
 injection z with z
 have key:∀vs:Array Value,vs[1]?=some (.str q 0)->o={cls:=.none,data:=.fields vs}:=λvs hv=>by
  have e:=congrFun z {objs:=Array.replicate (c+1) {cls:=.none,data:=.fields vs}};have g:(({objs:=Array.replicate (c+1) {cls:=.none,data:=.fields vs}}:Heap)).get? c=some {cls:=.none,data:=.fields vs}:=by
   unfold Heap.get?;rw[show(Array.replicate (c+1) ({cls:=.none,data:=.fields vs}:Obj))[c]?=some {cls:=.none,data:=.fields vs}from by simp]
  have l:∃(oc:Obj) (Iv:Array Value) (t:Tok),(({objs:=Array.replicate (c+1) {cls:=.none,data:=.fields vs}}:Heap)).get? c=some oc/\oc.data=.fields Iv/\Iv[1]?=some (.str q t):=⟨_,vs,0,g,rfl,hv⟩;have r:=e.mp l;rw[g]at r;exact(Option.some.inj r).symm
 have h1:=key #[.none,.str q 0] rfl;have h2:=key #[.none,.str q 0,.none] rfl;rw[h1]at h2;simp at h2
theorem ai4 {c' tp:Addr}{T:fE}{cl:List (Str×Addr)}{f:Addr}:uS f T cl c' tp≠cu f o:=λz=>by
 unfold uS cu at z
 injection z with z
 have key:∀pm:Value,o={cls:=.type "function",data:=.func (lJ T cl c' tp pm .none .none)}:=λpm=>by
  have e:=congrFun z {objs:=Array.replicate (f+1) {cls:=.type "function",data:=.func (lJ T cl c' tp pm .none .none)}};have g:(({objs:=Array.replicate (f+1) {cls:=.type "function",data:=.func (lJ T cl c' tp pm .none .none)}}:Heap)).get? f=some {cls:=.type "function",data:=.func (lJ T cl c' tp pm .none .none)}:=by
   unfold Heap.get?;rw[show(Array.replicate (f+1) ({cls:=.type "function",data:=.func (lJ T cl c' tp pm .none .none)}:Obj))[f]?=some {cls:=.type "function",data:=.func (lJ T cl c' tp pm .none .none)}from by simp]
  have r:=e.mp ⟨pm,.none,.none,g⟩;rw[g]at r;exact(Option.some.inj r).symm
 have h1:=key .none;have h2:=key .ellipsis;rw[h1]at h2;have h3:=congrArg (λo:Obj=>match o.data with|.func fd=>fd.pyModule|_=>.none) h2;cases h3
theorem iN {u:HO}(hl:∀b o,L.lookup b=some o->G b=some (cu b o))(h:G b=some u)(n:∀o,u≠cu b o):L.lookup b=none:=by
 cases e:L.lookup b with
 |none=>rfl
 |some o=>
  have:=hl b o e;rw[h]at this;exact absurd (Option.some.inj this) (n o)
end
section
variable{P:Program}{w:World}{K:Frag}{mg:Str->Option Value}{base:Heap}{A:Around}{outer:List Env}{s aF:Shared}{H:Hp}{L:iG}{Q:VK}{u:Value}
theorem aba (e:Env0 P w K mg base A outer s H)(l:DM L base (frs outer) s.heap H):Env0 P w K mg base A outer s (d8 L H):=by
 refine⟨e.frames,e.mod,λb o q=>?_,e.bsz,e.funs,λb hb=>?_,λb u q=>?_,e.bare⟩
 ·have:=e.bs b o q
  cases z:L.lookup b with
  |none=>rw[eu z];exact this
  |some cQ=>
   have:=(l.at_ b cQ z).2.2.2;rw[q]at this;cases this
 ·cases z:L.lookup b with
  |none=>rw[eu z];exact e.frf b hb
  |some cQ=>exact absurd hb (l.at_ b cQ z).2.2.1
 ·cases z:L.lookup b with
  |some cQ=>
   rw[o5 z]at q;cases q
   have hb:=(l.at_ b cQ z).1;exact⟨hb,⟨cQ,hb⟩,λh1 h2 p st=>st _ p⟩
  |none=>
   rw[eu z]at q;refine(e.hok b u q).stay (λc v _ y=>y) (λc y=>?_) λc xs y=>?_
   ·cases f7:L.lookup c with
    |none=>rw[eu f7];exact y
    |some cQ=>
     have:=(l.at_ c cQ f7).2.1;rw[y]at this;cases this
   ·cases f7:L.lookup c with
    |none=>rw[eu f7];exact y
    |some cQ=>
     have:=(l.at_ c cQ f7).2.1;rw[y]at this;cases this
theorem adj (l:DM L base (frs outer) s.heap H)(hq:∀v H',Q v H'->∀b o,L.lookup b=some o->H' b=some (cu b o))(h:L2.CE outer P w (d8 L H) s Q u aF):
    L2.CE outer P w H s (λv IW=>∃H',Q v H'/\IW=dF L H') u aF:=by
  obtain⟨v,H',os,bare,un,hok,b6,q⟩:=h;have told:=hq v H' q;have nl:∀b,(∃u,H b=some u)->L.lookup b=none:=λb ⟨u,hu⟩=>by
    cases z:L.lookup b with
    |none=>rfl
    |some o=>
      have:=(l.at_ b o z).2.1;rw[hu]at this;cases this
  refine⟨v,dF L H',os,bare,?_,λb u hb=>?_,b6,H',q,rfl⟩
  · exact{
      keep:=λb o e n hf hx=>by
        cases z:L.lookup b with
        |some cQ=>
          have h1:=(l.at_ b cQ z).1;rw[e]at h1;cases h1
          exact(hok b _ (told b _ z)).1
        |none=>exact un.keep b o e (by rw[eu z];exact n) hf hx
      slot:=λb o e n hf hx=>by
        cases z:L.lookup b with
        |some cQ=>exact absurd hf (l.at_ b cQ z).2.2.1
        |none=>exact un.slot b o e (by rw[eu z];exact n) hf hx
      free:=λb o e n hx=>by
        cases z:L.lookup b with
        |some cQ=>exact back_in z
        |none=>rw[cY z];exact un.free b o e (by rw[eu z];exact n) hx
      there:=λb o e hx=>un.there b o e hx
      tups:=λb xs e=>by
        have z:=nl b ⟨_,e⟩;rw[cY z];exact un.tups b xs (by rw[eu z];exact e)
      frzs:=λb o v e=>by
        have z:=nl b ⟨_,e⟩;rw[cY z];exact un.frzs b o v (by rw[eu z];exact e)
      tbls:=λb ps e=>by
        have z:=nl b ⟨_,e⟩;rw[cY z];exact un.tbls b ps (by rw[eu z];exact e)}
  · cases z:L.lookup b with
    |some cQ=>rw[back_in z]at hb;cases hb
    |none=>
      rw[cY z]at hb;refine(hok b u hb).stay (λc v _ y=>y) (λc y=>?_) λc xs y=>?_
      · rw[cY (iN told y λo=>Ne.symm Ol)];exact y
      · rw[cY (iN told y λo=>Ne.symm zO)];exact y
end
mutual
def fQ:D->Bool
 | .lst xs=>jJ xs
 | .tup xs=>jJ xs
 | .dK xs=>G4 xs
 | .dT xs=>G6 xs
 | .ins _ xs=>vA xs
 | .exc _ _=>false
 | .fF _ _=>false
 |_=>true
def jJ:List D->Bool
 |[]=>true
 |d::r=>fQ d&&jJ r
def G4:List (Key×D)->Bool
 |[]=>true
 |(_,d)::r=>fQ d&&G4 r
def G6:List (List Key×D)->Bool
 |[]=>true
 |(_,d)::r=>fQ d&&G6 r
def vA:List (Str×D)->Bool
 |[]=>true
 |(_,d)::r=>fQ d&&vA r
end
section
variable{K:Frag}{G:Hp}{L:iG}
theorem ai0 (hl:∀b o,L.lookup b=some o->G b=some (cu b o)){f c' tp:Addr}{T:fE}{cl:List (Str×Addr)}(h:sq G f T cl c' tp):sq (dF L G) f T cl c' tp:=
 ⟨(cY (iN hl h.f λo=>ai4)).trans h.f,(cY (iN hl h.c λo=>Tu)).trans h.c,λz=>(cY (iN hl (h.t z) λo w=>by unfold cu at w;cases w)).trans (h.t z)⟩
theorem Zu (hl:∀b o,L.lookup b=some o->G b=some (cu b o)){a:Addr}{u:HO}(hn:∀o,u≠cu a o)(h:Rd G a u):Rd (dF L G) a u:=by
 rcases h with h|⟨o,h⟩
 ·exact .inl ((cY (iN hl h hn)).trans h)
 ·exact .inr ⟨o,(cY (iN hl h λcQ z=>by unfold cu at z;cases z)).trans h⟩
mutual
theorem vJ (hl:∀b o,L.lookup b=some o->G b=some (cu b o)):∀{v:V} {d:D},fQ d=true->cg K G v d->cg K (dF L G) v d
 |_,_,_,.non=>.non
 |_,_,_,.bl b=>.bl b
 |_,_,_,.int i=>.int i
 |_,_,_,.str x=>.str x
 |_,_,n,.lst h r=>.lst ((cY (iN hl h λo z=>by unfold cu at z;cases z)).trans h) (HH hl (by simpa[fQ]using n) r)
 |_,_,_,.fC h=>.fC (h.elim (λh=>.inl (Zu hl (λo z=>by unfold cu at z;cases z) h)) .inr)
 |_,_,n,.tup h r=>.tup ((cY (iN hl h λo z=>by unfold cu at z;cases z)).trans h) (HH hl (by simpa[fQ]using n) r)
 |_,_,n,.dK h r=>.dK (Zu hl (λo z=>by unfold cu at z;cases z) h) (ZE hl (by simpa[fQ]using n) r)
 |_,_,n,.dT h r=>.dT ((cY (iN hl h λo z=>by unfold cu at z;cases z)).trans h) (ZN hl (by simpa[fQ]using n) r)
 |_,_,n,.ins h r=>.ins ((cY (iN hl h λo z=>by unfold cu at z;cases z)).trans h) (ZD hl (by simpa[fQ]using n) r)
 |_,_,n,.exc _ _ _ _=>by simp[fQ]at n
 |_,_,n,.fF _ _ _=>by simp[fQ]at n
 |_,_,_,.lam h=>.lam (ai0 hl h)
theorem HH (hl:∀b o,L.lookup b=some o->G b=some (cu b o)):∀{v:List V} {d:List D},jJ d=true->b8 K G v d->b8 K (dF L G) v d
 |_,_,_,.nil=>.nil
 |_,_,n,.cons h r=>by
  unfold jJ at n;rw[Bool.and_eq_true]at n;exact .cons (vJ hl n.1 h) (HH hl n.2 r)
theorem ZD (hl:∀b o,L.lookup b=some o->G b=some (cu b o)):∀{v:List (Str×V)} {d:List (Str×D)},vA d=true->gR K G v d->gR K (dF L G) v d
 |_,_,_,.nil=>.nil
 |_,_,n,.cons h r=>by
  unfold vA at n;rw[Bool.and_eq_true]at n;exact .cons (vJ hl n.1 h) (ZD hl n.2 r)
theorem ZE (hl:∀b o,L.lookup b=some o->G b=some (cu b o)):∀{v:List (Key×V)} {d:List (Key×D)},G4 d=true->nU K G v d->nU K (dF L G) v d
 |_,_,_,.nil=>.nil
 |_,_,n,.cons h r=>by
  unfold G4 at n;rw[Bool.and_eq_true]at n;exact .cons (vJ hl n.1 h) (ZE hl n.2 r)
theorem ZN (hl:∀b o,L.lookup b=some o->G b=some (cu b o)):∀{v:List (List Key×V)} {d:List (List Key×D)},G6 d=true->pO K G v d->pO K (dF L G) v d
 |_,_,_,.nil=>.nil
 |_,_,n,.cons h r=>by
  unfold G6 at n;rw[Bool.and_eq_true]at n;exact .cons (vJ hl n.1 h) (ZN hl n.2 r)
end
def jq:af->Bool
 | .dat d=>fQ d
 |_=>true
def iA:ak->Bool
 | .fz (some d)=>fQ d
 | .lst xs=>xs.all jq
 | .dK xs=>xs.all λp=>jq p.2
 | .dT xs=>xs.all λp=>jq p.2
 | .ins _ xs=>xs.all λp=>jq p.2
 | .t9 xs=>xs.all λp=>fQ p.1&&fQ p.2
 |_=>true
variable{aa:List Addr}{H:Hp}{M:List ak}
theorem CL (hl:∀b o,L.lookup b=some o->G b=some (cu b o)){v:V}{s:af}(n:jq s=true)(r:bF K aa G v s):bF K aa (dF L G) v s:=by
 cases s with
 |un=>trivial
 |dat d=>exact vJ hl n r
 |mu j=>exact r
 |raw w=>exact r
theorem ZM (hl:∀b o,L.lookup b=some o->G b=some (cu b o)):∀{v:List V} {s:List af},s.all jq=true->bM K aa G v s->bM K aa (dF L G) v s
 |_,_,_,.nil=>.nil
 |_,_::_,n,.cons r t=>by
  rw[List.all_cons,Bool.and_eq_true]at n;exact .cons (CL hl n.1 r) (ZM hl n.2 t)
theorem HJ {c7:Type}(hl:∀b o,L.lookup b=some o->G b=some (cu b o)):∀{v:List (c7×V)} {s:List (c7×af)},(s.all λp=>jq p.2)=true->iH K aa G v s->iH K aa (dF L G) v s
 |_,_,_,.nil=>.nil
 |_,_::_,n,.cons r t=>by
  rw[List.all_cons,Bool.and_eq_true]at n;exact .cons ⟨r.1,CL hl n.1 r.2⟩ (HJ hl n.2 t)
theorem T9 (hl:∀b o,L.lookup b=some o->G b=some (cu b o)):∀{es:List DictEntry} {s:List (D×D)},(s.all λp=>fQ p.1&&fQ p.2)=true->Paired (ye K G) es s->Paired (ye K (dF L G)) es s
 |_,_,_,.nil=>.nil
 |_,_::_,n,.cons r t=>by
  rw[List.all_cons,Bool.and_eq_true,Bool.and_eq_true]at n;obtain⟨b,v,k,h1,h2,h3,h4⟩:=r;exact .cons ⟨b,v,k,h1,vJ hl n.1.1 h2,vJ hl n.1.2 h3,h4⟩ (T9 hl n.2 t)
theorem X8 (hl:∀b o,L.lookup b=some o->G b=some (cu b o))(ha:∀a∈aa,L.lookup a=none)(hn:M.all iA=true)(ms:aK K aa G M H):aK K aa (dF L G) M (dF L H):=by
 refine⟨λb u e=>?_,ms.len,ms.nd,λj a m h1 h2=>?_,λa h=>by rw[cY (ha a h)];exact ms.fk a h⟩
 ·cases z:L.lookup b with
  |some o=>rw[back_in z]at e;cases e
  |none=>rw[cY z]at e⊢;exact ms.le b u e
 ·have qw:=ha a (List.mem_of_getElem? h1)
  obtain⟨q1,q2⟩:=ms.mo j a m h1 h2;refine⟨λy=>by rw[cY qw];exact q1 y,?_⟩;have nm:=List.all_eq_true.mp hn m (List.mem_of_getElem? h2);cases m with
  |fz o=>exact⟨q2.1.imp λu q=>⟨(cY qw).trans q.1,q.2⟩,λd e=>by subst e;exact vJ hl nm (q2.2 d rfl)⟩
  |hand=>
   obtain⟨s,ns,i,d,x,y,e1,e2,e3⟩:=q2;exact⟨s,ns,i,d,x,y,(cY qw).trans e1,(cY (iN hl e2 λo z=>by unfold cu at z;cases z)).trans e2,e3⟩
  |tab i=>
   obtain⟨e0,ps,e1,e2,e3⟩:=q2;refine⟨e0,ps,(cY qw).trans e1,e2,λpos jD hc=>?_⟩;obtain⟨c,f1,f2⟩:=e3 pos jD hc;refine⟨c,f1,?_⟩;exact(cY (iN hl f2 λo=>Tu)).trans f2
  |lst xs=>obtain⟨vs,e1,e2⟩:=q2;exact⟨vs,(cY qw).trans e1,ZM hl nm e2⟩
  |dK xs=>obtain⟨vs,e1,e2⟩:=q2;exact⟨vs,(cY qw).trans e1,HJ hl nm e2⟩
  |dT xs=>obtain⟨vs,e1,e2⟩:=q2;exact⟨vs,(cY qw).trans e1,HJ hl nm e2⟩
  |ins c xs=>obtain⟨bO,vs,e1,e2⟩:=q2;exact⟨bO,vs,(cY qw).trans e1,HJ hl nm e2⟩
  |t9 xs=>obtain⟨h0,es,gu,e1,e2⟩:=q2;exact⟨h0,es,gu,(cY qw).trans e1,T9 hl nm e2⟩
end
section
variable{K:Frag}{aa:List Addr}{G H:Hp}{M:List ak}{L:iG}
theorem wV (hl:∀b o,L.lookup b=some o->H b=none)(le:fj G H):cG G (d8 L G):=λa o h=>by
 cases z:L.lookup a with
 |none=>rw[eu z];exact h
 |some cQ=>
  have:=hl a cQ z;rcases le a o h with y|⟨_,_,y⟩<;>rw[this]at y<;>cases y
theorem rC (hl:∀b o,L.lookup b=some o->H b=none){a:Addr}(h:H a≠none):L.lookup a=none:=by
 cases z:L.lookup a with
 |none=>rfl
 |some cQ=>exact absurd (hl a cQ z) h
theorem GN (hl:∀b o,L.lookup b=some o->H b=none)(ms:aK K aa G M H):aK K aa (d8 L G) M (d8 L H):=by
 refine⟨λa o h=>?_,ms.len,ms.nd,λj a m e1 e2=>?_,λa ha=>?_⟩
 ·cases z:L.lookup a with
  |none=>rw[eu z]at h⊢;exact ms.le a o h
  |some cQ=>rw[o5 z]at h⊢;exact .inl h
 ·have qw:=rC hl (ms.fk a (List.mem_of_getElem? e1))
  obtain⟨q1,q2⟩:=ms.mo j a m e1 e2;exact⟨λy=>by rw[eu qw];exact q1 y,q2.mono (wV hl ms.le) (λ_ _ y=>y) (eu qw)⟩
 ·rw[eu (rC hl (ms.fk a ha))];exact ms.fk a ha
theorem xA {aq:List Addr}{aj H':Hp}(g:aJ aa (d8 L G) (d8 L H) aq aj H'):∀b o,L.lookup b=some o->aj b=some (cu b o):=λb o z=>g.ex b _ (o5 z)
theorem Xx {aq:List Addr}{aj H':Hp}{az:List ak}(g:aJ aa (d8 L G) (d8 L H) aq aj H')(m:aK K aq aj az H'):∀b o,L.lookup b=some o->H' b=some (cu b o):=λb o z=>by
 rcases m.le b _ (xA g b o z)with y|⟨y,_⟩
 ·exact y
 ·unfold cu at y;cases y
theorem U8 {aq:List Addr}{aj H':Hp}(hl:∀b o,L.lookup b=some o->H b=none)(le:fj G H)(g:aJ aa (d8 L G) (d8 L H) aq aj H'):aJ aa G H aq (dF L aj) (dF L H'):=by
 have hG:∀a,G a≠none->L.lookup a=none:=λa h=>by
  cases z:L.lookup a with
  |none=>rfl
  |some cQ=>
   have:=hl a cQ z;cases q:G a with
   |none=>exact absurd q h
   |some u=>rcases le a u q with y|⟨_,_,y⟩<;>rw[this]at y<;>cases y
 obtain⟨more,e,hm⟩:=g.pre;refine⟨λa o h=>?_,⟨more,e,λa ha=>?_⟩,λa o h n=>?_,λa h n=>?_,λa h=>?_⟩
 ·have z:=hG a (by rw[h];simp)
  rw[cY z];exact g.ex a o (by rw[eu z];exact h)
 ·have:=hm a ha
  cases z:L.lookup a with
  |none=>rw[eu z]at this;exact this
  |some cQ=>rw[o5 z]at this;cases this
 ·have z:=rC hl (a:=a) (by rw[h];simp)
  rw[cY z];exact g.fr a o (by rw[eu z];exact h) n
 ·have z:=rC hl h
  rcases g.l5 a (by rw[eu z];exact h) n with y|⟨xs,uM,oJ⟩
  ·exact .inl (by rw[cY z,y,eu z])
  ·exact .inr ⟨xs,(eu z).symm.trans uM,(cY z).trans oJ⟩
 ·have z:=rC hl h
  rw[cY z];exact g.fk a (by rw[eu z];exact h)
end
def yJ:Re af->T (Re af)
 | .ok s M=>if jq s&&M.all iA then .ret (.ok s M)else .bad
 | .ex _ _ _=>.bad
section
variable{X:Cx}{W:WX}{f:Addr}{fd:FuncData}{ps:List Str}{k n:Nat}{F:aM}{pins:List (Addr×Obj)}{σ:L2.St}{H:Hp}{s:Shared}{Q:VK}{us:List Value}{vs:List V}{A1:Around}{L:iG}{aa:List Addr}{G:Hp}{M:List ak}{ss:List af}
theorem acS (c_:FnOk X.prog X.w X.K X.mg X.base (L2.CX X.prog X.w) k f fd ps (gy X.K n F))(hb:Binds X.K fd ps [])(hr:Room k A1)(hf:A1.frames=X.A.frames)
    (I:Inv X pins σ H s) (l:DM L X.base (frs X.stack) s.heap H) (b6:Vals vs us) (ms:aK X.K aa G M H) (rs:bM X.K aa (d8 L G) vs ss) (hn:ss.length=n)
    (w:wp ((F ss M).bind yJ) (kq X.K Q (λ_ _ _=>False) aa G H)):wpAny (model X.prog X.w) A1 (call (.ref f) us) (EP X pins σ Q) X.xe s:=by
  have hl:∀b o,L.lookup b=some o->H b=none:=λb o z=>(l.at_ b o z).2.1
  have e0:Env0 X.prog X.w X.K X.mg X.base A1 X.stack s H:=by
    have e:=I.env0;exact⟨by rw[hf];exact e.frames,e.mod,e.bs,e.bsz,e.funs,e.frf,e.hok,e.bare⟩
  let jy:VK:=λv H'=>(∀b o,L.lookup b=some o->H' b=some (cu b o))/\Q v (dF L H')
  have sp:gy X.K n F vs (d8 L H) jy (λ_ _ _=>False):=by
    refine⟨aa,d8 L G,M,ss,GN hl ms,rs,hn,wp_mono (λr hr=>?_) (wp_bind.mp w)⟩;cases r with
    |ex c fs M2=>exact(show False from hr).elim
    |ok t M2=>
      intro aq aj H' v g m r;have hr:wp (if jq t&&M2.all iA then .ret (.ok t M2)else .bad) (kq X.K Q (λ_ _ _=>False) aa G H):=hr;split at hr
      · rename_i hh
        rw[Bool.and_eq_true]at hh;have hr:kq X.K Q (λ_ _ _=>False) aa G H (.ok t M2):=hr;have vP:=xA g;have ha:∀a∈aq,L.lookup a=none:=λa ha=>by
          obtain⟨more,e,hm⟩:=g.pre;rw[e]at ha;rcases List.mem_append.mp ha with z|z
          · exact rC hl (ms.fk a z)
          · have:=hm a z
            cases q:L.lookup a with
            |none=>rfl
            |some cQ=>rw[o5 q]at this;cases this
        exact⟨Xx g m,hr aq (dF L aj) (dF L H') v (U8 hl ms.le g) (X8 vP ha hh.2 m) (CL vP hh.1 r)⟩
      · exact(show False from hr).elim
  have hlen:us.length=ps.length:=by rw[<-b6.length];exact c_.len _ _ _ _ sp
  refine wpAny_call (codeAny_mono (c_.run A1 X.stack s (d8 L H) ⟨us,[]⟩ us vs jy _ hr (aba e0 l) (by
    have:=hb s us I.kIn (by simpa using hlen);simpa using this) b6 sp) λr aF hq=>?_)
  cases r with
  |error e=>
    obtain⟨_,_,_,_,_,_,_,_,_,_,_,_,z⟩:=hq;exact z.elim
  |ok gG=>
    cases gG with
    |ret w=>
      have c:=adj l (Q:=jy) (λv H' q=>q.1) hq;obtain⟨v,aS,d7,CN,H',q,rfl⟩:=I.after c;exact⟨v,_,d7,CN,q.2⟩
    |next=>exact False.elim hq
    |brk=>exact False.elim hq
    |cont=>exact False.elim hq
end
structure I4 (X:Cx)(eG:Nat):Prop where
 ex:∃c,X.env.code=.ref c/\LamX.TabB X.base X.mg c (aT.tab eG)
structure I2 (X:Cx)(eG i:Nat)(params:Arguments)(body:Expr)(scope:Scope):Prop where
 q:(aT.txt i).qual=X.env.qual++"<lambda>"
 mH:aT.mH eG=X.env.qual++"<lambda>"
 p:(aT.txt i).params=params
 b:(aT.txt i).body=body
 s:(aT.txt i).scope=scope
 cl:aT.cells=X.env.cells
 free:∀y∈scope.names,y.2=.free->∃c,X.env.cells.lookup y.1=some c
section
variable{X:Cx}{W:WX}{pins:List (Addr×Obj)}{σ:L2.St}{H G:Hp}{s:Shared}{aa:List Addr}{M:List ak}{pos:Pos}{eG i:Nat}{params:Arguments}{body:Expr}{scope:Scope}
theorem ahX {P:Program}{w:World}{H:Hp}{h:Heap}{f c' tp:Addr}{T:fE}{cl:List (Str×Addr)}{pm ctv doc:Value}(e:h.get? f=some {cls:=.type "function",data:=.func (lJ T cl c' tp pm ctv doc)}):ObjOk P w H h f (uS f T cl c' tp):=
 ⟨⟨pm,ctv,doc,e⟩,⟨_,e⟩,λh1 h2 ⟨a,b,c,z⟩ st=>⟨a,b,c,st _ z⟩⟩
theorem Xn {T:fE}{cl:List (Str×Addr)}{tp c':Addr}{Q:VK}{h':Heap}{t0 t':Nat}{pm ctv doc:Value}(hn:T.params=params)(ms:aK X.K aa G M H)(I:Inv X pins σ H {s with heap:=h',toks:=t0})(hc:G c'=some (LamX.CodeO c' T.qual))(ht:T.dfl=true->G tp=some (.tup [.int 0]))
    (q:∀aj H' f,Pure G H aj H'->aK X.K aa aj M H'->sq aj f T cl c' tp->Q (.ref f) H'):
    EP X pins σ Q (.ref h'.objs.size) {s with heap:=h'.push {cls:=.type "function",data:=.func (lJ T cl c' tp pm ctv doc)},toks:=t'}:=by
  have hf:H h'.objs.size=none:=I.hok.fresh (Nat.le_refl _);have pu:=Pure.new (o:=uS h'.objs.size T cl c' tp) ms.le hf;have d7:Inv X pins σ (upd H h'.objs.size (uS h'.objs.size T cl c' tp)) {s with heap:=h'.push {cls:=.type "function",data:=.func (lJ T cl c' tp pm ctv doc)},toks:=t'}:=
    Inv.laid (s:={s with heap:=h',toks:=t0}) I (λb u e=>Heap.get?_push_of_some _ e) (Nat.le_refl _) (ahX (pm:=pm) (ctv:=ctv) (doc:=doc) (Heap.get?_push_size _ rfl))
  exact⟨.ref h'.objs.size,_,d7,rfl,q _ _ _ pu (ms.pure pu) ⟨upd_same,pu.ex _ _ hc,λz=>pu.ex _ _ (ht z)⟩⟩
theorem aoH {P c':Addr}{ps more:Array Value}(ms:aK X.K aa G M H)(h1:aa[eG]?=some P)(h2:M[eG]?=some (.tab eG))(hP:H P=some (.tbl ps))(hc:H c'=none)
    (ht:TriplesOk (ps++more).toList) (ha:∀(pos:Pos) (jD:Value),codeAmong pos (ps++more).toList=some jD->(∃c,jD=.ref c/\G c=some (LamX.CodeO c (aT.mH eG)))\/jD=.ref c'):
    ∃aj,aJ aa G H aa aj (upd (upd H P (.tbl (ps++more))) c' (LamX.CodeO c' (aT.mH eG)))/\aK X.K aa aj M (upd (upd H P (.tbl (ps++more))) c' (LamX.CodeO c' (aT.mH eG)))/\aj c'=some (LamX.CodeO c' (aT.mH eG))/\cG G aj:=by
  have pu:=Pure.new (o:=LamX.CodeO c' (aT.mH eG)) ms.le hc;have m1:=ms.pure pu;have ne:P≠c':=ne_of_none hP hc;have aec:upd (upd H P (.tbl (ps++more))) c' (LamX.CodeO c' (aT.mH eG))=upd (upd H c' (LamX.CodeO c' (aT.mH eG))) P (.tbl (ps++more)):=by
    funext b
    by_cases hb:b=c'
    · rw[hb,upd_same,upd_ne (Ne.symm ne),upd_same]
    · by_cases hp:b=P
      · rw[hp,upd_ne ne,upd_same,upd_same]
      · rw[upd_ne hb,upd_ne hp,upd_ne hp,upd_ne hb]
  obtain⟨Ld,_⟩:=(ms.mo eG P _ h1 h2).2;have X_:=m1.write (m':=.tab eG) (o:=.tbl (ps++more)) h1 h2 trivial (by
    refine⟨Ld,ps++more,upd_same,ht,λpos jD e=>?_⟩;rcases ha pos jD e with⟨c,e1,e2⟩|e1
    · exact⟨c,e1,pu.ex _ _ e2⟩
    · exact⟨c',e1,upd_same⟩)
  have jL:M.set eG (.tab eG)=M:=by
    refine List.ext_getElem? λn=>?_
    by_cases hn:eG=n
    · subst hn
      rw[List.getElem?_set_self (List.getElem?_eq_some_iff.mp h2).1,h2]
    · rw[List.getElem?_set_ne hn]
  rw[jL]at X_;rw[aec];refine⟨_,pu.grow.trans (aJ.write (List.mem_of_getElem? h1) ?_),X_,upd_same,pu.ex⟩;rw[upd_ne ne,hP];simp
end
section
variable{X:Cx}{W:WX}{pins:List (Addr×Obj)}{σ:L2.St}{H G:Hp}{s:Shared}{aa:List Addr}{M:List ak}{pos:Pos}{eG i:Nat}{params:Arguments}{body:Expr}{scope:Scope}
def yT (eG i:Nat):CE:=λ_ M=>match M[eG]? with
 |some (.tab j)=>if j=eG then .ret (.ok (.dat (.lam i)) M)else .bad
 |_=>.bad
theorem ai6 {tp:Addr}{Q:VK}{qP:Value}{E:Value->Shared->Prop}(F:I4 X eG)(L:I2 X eG i params body scope)(ms:aK X.K aa G M H)(hM:M[eG]?=some (.tab eG))(I:Inv X pins σ H s)(ht:(aT.txt i).dfl=true->G tp=some (.tup [.int 0]))(hd:qP=if(aT.txt i).dfl then .ref tp else .none)
    (q:∀aj H' f c',aJ aa G H aa aj H'->aK X.K aa aj M H'->sq aj f (aT.txt i) (cloFrom aT.cells (aT.txt i).scope.names []) c' tp->Q (.ref f) H'):
    wpAny (model X.prog X.w) X.A (makeTail "<lambda>" (X.env.qual++"<lambda>") params (.expr body) scope X.env qP .none none pos pos.line) (EP X pins σ Q) E s:=by
  obtain⟨c,hcode,TB⟩:=F.ex;obtain⟨P,U_,_⟩:=ms.ad hM;obtain⟨Ld,ps,hP,jH,ha⟩:=(ms.mo eG P _ U_ hM).2;subst Ld;have SA:=TB.bm.keeps I.bk;have SO:=TB.code.keeps I.bk;have gP:=I.mod.glob.keeps I.bk;have YJ:s.heap.get? (aT.tab eG)=some {cls:=.none,data:=.fields ps}:=I.hok _ _ hP;have E2:∀(c':Addr) (pm ctv doc:Value),PySem.W.kdv_obj "<lambda>" (X.env.qual++"<lambda>") params (.expr body) scope (cloFrom X.env.cells scope.names []) qP doc pm c' ctv={cls:=.type "function",data:=.func (lJ (aT.txt i) (cloFrom aT.cells (aT.txt i).scope.names []) c' tp pm ctv doc)}:=λc' pm ctv doc=>by
    unfold lJ;rw[L.q,L.p,L.b,L.s,L.cl,hd]
  cases hc:codeAmong pos ps.toList with
  |none=>
    refine PySem.W.kdv_makeTail (c:=c) (clos:=cloFrom X.env.cells scope.names []) (closure_ok L.free) I.ok.glob gP hcode SO YJ jH hc TB.gP SA λc' ctv doc h' tk hx Vq hlt Mm agB=>?_
    obtain⟨c2,oc,vs,t,e2,Vz,afT,hv⟩:=Mm;cases e2
    have ajQ:H c'=none:=I.hok.fresh Vq;have bY:=LamX.inv_table (t':=tk) (more:=#[rawInt pos.line,rawInt pos.col,.ref c']) (h':=h') I hP (λb o hb e=>hx b o hb e) agB Vq ⟨oc,vs,t,Vz,afT,hv⟩;obtain⟨au,g1,m1,r1,oH⟩:=aoH (more:=#[rawInt pos.line,rawInt pos.col,.ref c']) ms U_ hM hP ajQ (by rw[Array.toList_append];exact PySem.TriplesOk_snoc _ _ _ _ jH) (λp jD e=>by
      rw[Array.toList_append]at e;rcases LamX.among_app _ jH e with z|z
      · exact .inl (ha p jD z)
      · exact .inr z)
    rw[<-L.mH]at bY;rw[E2];exact Xn (T:=aT.txt i) L.p m1 bY (by rw[L.q,<-L.mH];exact r1) (λz=>oH _ _ (ht z)) λaj H' f pu m2 nC=>q _ _ _ _ (g1.trans pu.grow) m2 nC
  |some jD=>
    obtain⟨c',e,hco⟩:=ha pos jD hc;subst e;refine PySem.W.kdv_makeTailHit (c:=c) (clos:=cloFrom X.env.cells scope.names []) (closure_ok L.free) I.ok.glob gP hcode SO YJ jH hc SA λctv doc h' tk hx hsz=>?_
    have bY:Inv X pins σ H {s with heap:=h'}:=I.kept (t':=s.toks) hx;have:=E2 c' ((X.mg "__name__").getD .none) ctv doc;unfold PySem.W.kdv_obj at this;rw[this];exact Xn (T:=aT.txt i) L.p ms bY (by rw[L.q,<-L.mH];exact hco) ht λaj H' f pu m2 nC=>q _ _ _ _ pu.grow m2 nC
theorem ant {p:Pos}(F:I4 X eG)(L:I2 X eG i params body scope)(hT:(aT.txt i).dfl=false)(hd:defaultsOf params X.env=([],[]):=by rfl):bf X W (.Lambda params body scope p) (yT eG i):=⟨λρ M aa G σ H Q ms en h=>by
 intro pins s I;unfold yT at h;split at h
 ·rename_i j hM
  split at h
  ·rename_i hj
   subst hj;refine PySem.W.kla_eval hd ?_;rw[makeFunction_eq];simp only[List.zip_nil_right,List.filterMap_nil,List.isEmpty_nil,if_true,pure_bind];exact ai6 (i:=i) (tp:=0) F L ms hM I (λz=>by rw[hT]at z;cases z) (by rw[hT];rfl) λaj H' f c' g m nC=>h aa aj H' _ g m (cg.lam nC)
  ·exact h.elim
 ·exact h.elim⟩
end
section
variable{K:Frag}{aa aq:List Addr}{G H aj H':Hp}{M az:List ak}{L:iG}{Q:VK}{E:XK}{P:Program}{w:World}{mg:Str->Option Value}{base:Heap}{A:Around}{outer:List Env}{s aF:Shared}{u:Value}
theorem X9 (hl:∀b o,L.lookup b=some o->G b=some (cu b o))(hn:M.all iA=true)(ms:aK K aa G M H):aK K aa (dF L G) M (dF L H):=by
 refine X8 hl (λa ha=>?_) hn ms;cases z:L.lookup a with
 |none=>rfl
 |some o=>
  obtain⟨j,hj⟩:=List.getElem?_of_mem ha;have hm:M[j]?=some (M[j]'(by rw[<-ms.len];exact(List.getElem?_eq_some_iff.mp hj).1)):=List.getElem?_eq_getElem _;obtain⟨q1,q2⟩:=ms.mo j a _ hj hm;generalize M[j]'_=m at q1 q2;have g:=hl a o z;cases m with
  |fz d=>
   obtain⟨⟨v,e1,e2⟩,_⟩:=q2;rw[g]at e1;exact absurd (Option.some.inj e1).symm (e2 o)
  |_=>have:=q1 trivial;rw[g]at this;cases this
theorem NB (hl:∀b o,L.lookup b=some o->G b=some (cu b o))(le:fj G H):∀b o,L.lookup b=some o->H b=some (cu b o):=λb o z=>by
 rcases le b _ (hl b o z)with y|⟨y,_⟩
 ·exact y
 ·unfold cu at y;cases y
theorem U9 (hl:∀b o,L.lookup b=some o->G b=some (cu b o))(hH:∀b o,L.lookup b=some o->H b=some (cu b o))(hn:∀b o,L.lookup b=some o->H' b=none)(m:aK K aq aj az H')(g:aJ aa (dF L G) (dF L H) aq aj H'):aJ aa G H aq (d8 L aj) (d8 L H'):=by
 obtain⟨more,e,hm⟩:=g.pre;refine⟨λa o h=>?_,⟨more,e,λa ha=>?_⟩,λa o h n=>?_,λa h n=>?_,λa h=>?_⟩
 ·cases z:L.lookup a with
  |some cQ=>rw[hl a cQ z]at h;rw[o5 z];exact h
  |none=>rw[eu z];exact g.ex a o ((cY z).trans h)
 ·cases z:L.lookup a with
  |some cQ=>
   have:=m.fk a (by rw[e];exact List.mem_append_right _ ha);exact absurd (hn a cQ z) this
  |none=>have:=hm a ha;rw[cY z]at this;exact this
 ·cases z:L.lookup a with
  |some cQ=>rw[hH a cQ z]at h;rw[o5 z];exact h
  |none=>rw[eu z];exact g.fr a o ((cY z).trans h) n
 ·cases z:L.lookup a with
  |some cQ=>exact .inl (by rw[o5 z,hl a cQ z])
  |none=>
   rcases g.l5 a (by rw[cY z];exact h) n with y|⟨xs,uM,oJ⟩
   ·exact .inl (by rw[eu z,y,cY z])
   ·exact .inr ⟨xs,(cY z).symm.trans uM,(eu z).trans oJ⟩
 ·cases z:L.lookup a with
  |some cQ=>rw[o5 z];simp
  |none=>rw[eu z];exact g.fk a (by rw[cY z];exact h)
def Qz (L:iG)(Q:VK):VK:=λv H'=>(∀b o,L.lookup b=some o->H' b=none)->Q v (d8 L H')
def Iq (L:iG)(E:XK):XK:=λc d H'=>(∀b o,L.lookup b=some o->H' b=none)->E c d (d8 L H')
theorem Y_ (hl:∀b o,L.lookup b=some o->G b=some (cu b o))(le:fj G H){r:Re af}(h:kq K Q E aa G H r):kq K (Qz L Q) (Iq L E) aa (dF L G) (dF L H) r:=by
 cases r with
 |ok t M2=>exactλaq aj H' v g m r hn=>h aq (d8 L aj) (d8 L H') v (U9 hl (NB hl le) hn m g) (GN hn m) (r.mono (wV hn m.le) λ_ _ z=>z)
 |ex c fs M2=>exactλaq aj H' d bU g m e r hn=>h aq (d8 L aj) (d8 L H') d bU (U9 hl (NB hl le) hn m g) (GN hn m) (wV hn m.le _ _ e) (gR.mono (wV hn m.le) r)
theorem qJ (h:H Ad=none):dF L H Ad=none:=by
 cases z:L.lookup Ad with
 |some o=>exact back_in z
 |none=>rw[cY z];exact h
theorem YF (hH:∀b o,L.lookup b=some o->H b=some (cu b o)){b:Addr}(h:H b=none):L.lookup b=none:=by
 cases z:L.lookup b with
 |none=>rfl
 |some o=>have:=hH b o z;rw[h]at this;cases this
theorem aef (hH:∀b o,L.lookup b=some o->H b=some (cu b o))(e:Env0 P w K mg base A outer s H):Env0 P w K mg base A outer s (dF L H):=
 ⟨e.frames,e.mod,λb o q=>⟨(e.bs b o q).1,qJ (e.bs b o q).2⟩,e.bsz,e.funs,λb hb=>qJ (e.frf b hb),λb u q=>by
  cases z:L.lookup b with
  |some o=>rw[back_in z]at q;cases q
  |none=>
   rw[cY z]at q;refine(e.hok b u q).stay (λc v _ y=>y) (λc y=>?_) λc xs y=>?_
   ·rw[cY (iN hH y λo=>Ne.symm Ol)];exact y
   ·rw[cY (iN hH y λo=>Ne.symm zO)];exact y,e.bare⟩
theorem Mf {h:Heap}(hn:∀b o,L.lookup b=some o->H' b=none)(hg:∀b o,L.lookup b=some o->h.get? b=some o)(hok:HOk P w H' h):HOk P w (d8 L H') h:=λb u q=>by
 cases z:L.lookup b with
 |some o=>
  rw[o5 z]at q;cases q
  exact⟨hg b o z,⟨o,hg b o z⟩,λh1 h2 p st=>st _ p⟩
 |none=>
  rw[eu z]at q;refine(hok b u q).stay (λc v _ y=>y) (λc y=>?_) λc xs y=>?_
  ·rw[eu (rC hn (by rw[y];simp))];exact y
  ·rw[eu (rC hn (by rw[y];simp))];exact y
theorem adk (hH:∀b o,L.lookup b=some o->H b=some (cu b o))(zg:HOk P w H s.heap)(hf:∀b∈frs outer,H b=none)(h:L2.CE outer P w (dF L H) s (Qz L Q) u aF):L2.CE outer P w H s Q u aF:=by
 obtain⟨v,H',os,bare,un,hok,b6,q⟩:=h;have hg:∀b o,L.lookup b=some o->s.heap.get? b=some o:=λb o z=>(zg b _ (hH b o z)).1
 have hnf:∀b o,L.lookup b=some o->b∉frs outer:=λb o z y=>by have:=hf b y;rw[hH b o z]at this;cases this
 have hn:∀b o,L.lookup b=some o->H' b=none:=λb o z=>un.free b o (hg b o z) (back_in z) (by simp)
 refine⟨v,d8 L H',os,bare,?_,Mf hn (λb o z=>un.keep b o (hg b o z) (back_in z) (hnf b o z) (by simp)) hok,b6,q hn⟩;exact{
  keep:=λb o e n hf hx=>un.keep b o e (qJ n) hf hx
  slot:=λb o e n hf hx=>un.slot b o e (qJ n) hf hx
  free:=λb o e n hx=>by rw[eu (YF hH n)];exact un.free b o e (qJ n) hx
  there:=un.there
  tups:=λb xs e=>by
   have z:=iN hH e λo=>Ne.symm zO
   rw[eu z];exact un.tups b xs ((cY z).trans e)
  frzs:=λb o v e=>by
   have z:=iN hH e λcQ y=>by unfold cu at y;cases y
   rw[eu z];exact un.frzs b o v ((cY z).trans e)
  tbls:=λb ps e=>by
   have z:=iN hH e λcQ y=>by unfold cu at y;cases y
   rw[eu z];exact un.tbls b ps ((cY z).trans e)}
theorem TM (hH:∀b o,L.lookup b=some o->H b=some (cu b o))(zg:HOk P w H s.heap)(hf:∀b∈frs outer,H b=none)(h:L2.CX P w outer (dF L H) s (Iq L E) u aF):L2.CX P w outer H s E u aF:=by
 obtain⟨a,B,H',cls,d,rfl,Ut,hok,nQ,na,os,AM,hE⟩:=h;have hg:∀b o,L.lookup b=some o->s.heap.get? b=some o:=λb o z=>(zg b _ (hH b o z)).1
 have hnf:∀b o,L.lookup b=some o->b∉frs outer:=λb o z y=>by have:=hf b y;rw[hH b o z]at this;cases this
 have hn:∀b o,L.lookup b=some o->H' b=none:=λb o z=>nQ.free b o (hg b o z) (back_in z)
 have hB:∀b o,L.lookup b=some o->B.get? b=some o:=λb o z=>nQ.keep b o (hg b o z) (back_in z) (hnf b o z)
 have ajT:L.lookup a=none:=by
  cases z:L.lookup a with
  |none=>rfl
  |some o=>have:=hB a o z;rw[Ut.2.1]at this;cases this
 refine⟨a,B,d8 L H',cls,d,rfl,Ut,Mf hn hB hok,?_,by rw[eu ajT];exact na,os,AM,hE hn⟩;exact{
  keep:=λb o e n hf=>nQ.keep b o e (qJ n) hf
  slot:=nQ.slot
  free:=λb o e n=>by rw[eu (YF hH n)];exact nQ.free b o e (qJ n)
  there:=nQ.there
  tups:=λb xs e=>by
   have z:=iN hH e λo=>Ne.symm zO
   rw[eu z];exact nQ.tups b xs ((cY z).trans e)
  frzs:=λb o v e=>by
   have z:=iN hH e λcQ y=>by unfold cu at y;cases y
   rw[eu z];exact nQ.frzs b o v ((cY z).trans e)
  tbls:=λb ps e=>by
   have z:=iN hH e λcQ y=>by unfold cu at y;cases y
   rw[eu z];exact nQ.tbls b ps ((cY z).trans e)}
end
structure LamS (T:fE):Prop where
 kind:T.scope.kind=.function
 co:T.scope.isCoroutine=false
 gen:T.scope.isGenerator=false
 nocell:∀y∈T.scope.names,y.2≠.cell
 par:∀x∈T.pn,T.scope.names.lookup x=some .local
 one:T.pn.length=if T.dfl then 1 else 0
 free:∀y,T.scope.names.lookup y=some .free->y∈T.fr
 eO:∀y∈T.fr,T.scope.names.lookup y=some .free
 mem:∀y∈T.scope.names,y.2=.free->y.1∈T.fr
def lamSB (T:fE):Bool:=
 decide (T.scope.kind=.function)&&!T.scope.isCoroutine&&!T.scope.isGenerator&&T.scope.names.all (λy=>!decide (y.2=.cell))&&T.pn.all (λx=>decide (T.scope.names.lookup x=some .local))&&decide (T.pn.length=if T.dfl then 1 else 0)&&
 T.scope.names.all (λy=>!decide (y.2=.free)||T.fr.contains y.1)&&T.fr.all (λy=>decide (T.scope.names.lookup y=some .free))
theorem Xm {T:fE}(h:lamSB T=true):LamS T:=by
 unfold lamSB at h;simp only[Bool.and_eq_true,Bool.not_eq_true',decide_eq_true_eq,decide_eq_false_iff_not,List.all_eq_true,Bool.or_eq_true]at h;obtain⟨⟨⟨⟨⟨⟨⟨h1,h2⟩,h3⟩,h4⟩,di⟩,iy⟩,h7⟩,iK⟩:=h;refine⟨h1,h2,h3,h4,di,iy,λy hy=>?_,iK,λy hy e=>by
  rcases h7 y hy with z|z
  ·exact absurd e z
  ·simpa using z⟩
 rcases h7 _ (PySem.mem_of_lookup hy)with z|z
 ·exact absurd rfl z
 ·simpa using z
structure Rn (T:fE):Prop where
 no:T.dfl=false->∀(cl:List (Str×Addr)) (c' tp:Addr) (pm ctv doc:Value),bindArgs (lJ T cl c' tp pm ctv doc) ⟨[],[]⟩=pure []
 one:T.dfl=true->∀(cl:List (Str×Addr)) (c' tp:Addr) (pm ctv doc:Value),∃k,bindArgs (lJ T cl c' tp pm ctv doc) ⟨[],[]⟩=seqItems? (.ref tp) >>=k/\∀v:Value,k (some #[v])=pure (T.pn.map λx=>(x,v))
abbrev xu (T:fE)(L f c':Addr)(cl:List (Str×Addr)):Env:=PySem.W.envX T.qual T.scope L f (.ref c') cl
def qi (P:Program)(w:World)(K:Frag)(mg:Str->Option Value)(base:Heap)(T:fE)(cl:List (Str×Addr))(f c':Addr)(A:Around)(outer:List Env)(s:Shared)(H:Hp)(E:XK):Cx where
 prog:=P
 w:=w
 K:=K
 mg:=mg
 base:=base
 A:=A.deeper (xu T s.heap.objs.size f c' cl)
 N:=T.N
 s_0:=s
 H_0:=H
 env:=xu T s.heap.objs.size f c' cl
 outer:=outer
 stack:=xu T s.heap.objs.size f c' cl::outer
 ex:=[]
 fn:=λ_=>false
 calm:=true
 pn:=[]
 xe:=λe aF=>wpAny (model P w) (A.deeper (xu T s.heap.objs.size f c' cl)) (leaving (xu T s.heap.objs.size f c' cl) e) (λ_ ly=>L2.CX P w outer H s E e ly) (λg9 ly=>L2.CX P w outer H s E g9 ly) aF
section
variable{P:Program}{w:World}{K:Frag}{mg:Str->Option Value}{base:Heap}{T:fE}{cl:List (Str×Addr)}{f c' tp:Addr}{A:Around}{outer:List Env}{s:Shared}{H G:Hp}{E:XK}{vs:List V}{L:iG}
theorem b7.qi (S:LamS T):b7 T.N T.scope T.scope (qi P w K mg base T cl f c' A outer s H E):=⟨rfl,rfl,λx h=>absurd rfl (S.nocell _ (PySem.mem_of_lookup (by simpa using h))),rfl⟩
theorem aoK:Takes (qi P w K mg base T cl f c' A outer s H E) (λcls d _ H=>E cls d H):=takes_of rfl rfl rfl rfl
theorem al4:PassesOwn (model (qi P w K mg base T cl f c' A outer s H E).prog (qi P w K mg base T cl f c' A outer s H E).w) (qi P w K mg base T cl f c' A outer s H E).A (qi P w K mg base T cl f c' A outer s H E).env (qi P w K mg base T cl f c' A outer s H E).xe:=passes_of rfl
def pU (T:fE)(cl:List (Str×Addr))(h:Heap):iG:=T.fr.filterMap λy=>(cl.lookup y).bind λc=>(h.get? c).map λo=>(c,o)
theorem GG:∀{l:iG} {b:Addr} {o:Obj},l.lookup b=some o->(b,o)∈l
 |[],_,_,h=>by cases h
 |(c,cQ)::r,b,o,h=>by
  rw[List.lookup_cons]at h;cases e:(b==c)with
  |true=>rw[e]at h;cases h;rw[eq_of_beq e];exact .head _
  |false=>rw[e]at h;exact .tail _ (GG h)
theorem adm (C:tT G T cl vs)(le:fj G H)(hok:HOk P w H s.heap):∀b o,(pU T cl s.heap).lookup b=some o->G b=some (cu b o):=λb o z=>by
 have m:=GG z;unfold pU at m;rw[List.mem_filterMap]at m;obtain⟨y,hy,e⟩:=m;obtain⟨k,hk⟩:=List.getElem?_of_mem hy;have hv:vs[k]?=some (vs[k]'(by rw[C.len];exact(List.getElem?_eq_some_iff.mp hk).1)):=List.getElem?_eq_getElem _;obtain⟨c,cQ,u,e1,e2,e3,e4⟩:=C.has k y _ hk hv;rw[e1]at e;have LD:s.heap.get? c=some cQ:=by
  rcases le c _ e2 with y|⟨y,_⟩
  ·exact(hok c _ y).1
  ·unfold cu at y;cases y
 simp only[Option.bind_some,LD,Option.map_some]at e;cases e
 exact e2
theorem adl (C:tT G T cl vs)(le:fj G H)(hok:HOk P w H s.heap){y:Str}{c:Addr}(h:cl.lookup y=some c):∃o,(pU T cl s.heap).lookup c=some o:=by
 have hy:=C.own y c h;obtain⟨k,hk⟩:=List.getElem?_of_mem hy;have hv:vs[k]?=some (vs[k]'(by rw[C.len];exact(List.getElem?_eq_some_iff.mp hk).1)):=List.getElem?_eq_getElem _;obtain⟨c2,cQ,u,e1,e2,e3,e4⟩:=C.has k y _ hk hv;rw[h]at e1;cases e1
 have LD:s.heap.get? c=some cQ:=by
  rcases le c _ e2 with y|⟨y,_⟩
  ·exact(hok c _ y).1
  ·unfold cu at y;cases y
 have m:(c,cQ)∈pU T cl s.heap:=by
  unfold pU;rw[List.mem_filterMap];exact⟨y,hy,by rw[h];simp only[Option.bind_some,LD,Option.map_some]⟩
 cases z:(pU T cl s.heap).lookup c with
 |some o=>exact⟨o,rfl⟩
 |none=>
  rw[List.lookup_eq_none_iff]at z;have:=z _ m;simp at this
def xw (T:fE)(vs:List V):L2.St:=T.pn.map (λ_=>some (.int 0))++(vs.map some++T.loc.map λ_=>none)
def zw (T:fE)(ws:List D):List af:=T.pn.map (λ_=>.dat (.int 0))++(ws.map .dat++T.loc.map λ_=>.un)
theorem ai5 {lI:Heap}{tk t:Nat}(S:LamS T)(C:tT G T cl vs)(le:fj G H)(zg:HOk P w H s.heap)(hL:∀b o,L.lookup b=some o->H b=some (cu b o))(hc:∀y c,cl.lookup y=some c->∃o,L.lookup c=some o)(e0:Env0 P w K mg base A outer s (dF L H))(hd:A.handled=none)
    (n_:lI.Ns s.heap.objs.size λy=>(T.pn.map λx=>(x,Value.int 0 t)).reverse.lookup y) (kp:∀b o,s.heap.get? b=some o->lI.get? b=some o):
    Inv (qi P w K mg base T cl f c' A outer s (dF L H) E) [] (xw T vs) (dF L H) {s with heap:=lI,toks:=tk}:=by
  have mR:∀b:Addr,b∉(qi P w K mg base T cl f c' A outer s (dF L H) E).ex:=λb z=>absurd (show b∈([]:List Addr)from z) (by simp)
  have cell:∀y c,cl.lookup y=some c->∃(k:Nat) (v:V) (u:Value),T.fr[k]?=some y/\vs[k]?=some v/\RelV v u/\s.heap.IsCell c (some u):=λy c h=>by
    obtain⟨k,hk⟩:=List.getElem?_of_mem (C.own y c h);have hv:vs[k]?=some (vs[k]'(by rw[C.len];exact(List.getElem?_eq_some_iff.mp hk).1)):=List.getElem?_eq_getElem _;obtain⟨c2,cQ,u,e1,e2,e3,e4⟩:=C.has k y _ hk hv;rw[h]at e1;cases e1
    refine⟨k,_,u,hk,hv,e4,cQ,?_,e3⟩;rcases le c _ e2 with y|⟨y,_⟩
    · exact(zg c _ y).1
    · unfold cu at y;cases y
  have cellK:∀{c:Addr} {v:Option Value},s.heap.IsCell c v->lI.IsCell c v:=λ{c v} ⟨o,ho,hd⟩=>⟨o,kp _ _ ho,hd⟩
  have acY:∀y∈T.fr,∃c,cl.lookup y=some c:=λy hy=>by
    obtain⟨k,hk⟩:=List.getElem?_of_mem hy;have hv:vs[k]?=some (vs[k]'(by rw[C.len];exact(List.getElem?_eq_some_iff.mp hk).1)):=List.getElem?_eq_getElem _;obtain⟨c2,_,_,e1,_⟩:=C.has k y _ hk hv;exact⟨c2,e1⟩
  have ajf:T.pn.length=if T.dfl then 1 else 0:=S.one
  refine⟨⟨e0.mod,S.kind,rfl,rfl,Nat.le_refl _,λy z c e1 e2=>C.inj y z c e1 e2,λy hy=>?_,λy c z _=>?_,λ_=>hd,Around.frames_deeper e0.frames,.inr ⟨rfl,rfl⟩,λb z=>absurd z (mR b),e0.bs,e0.bsz,λb _ _=>mR b,
      λb z=>absurd z (mR b),e0.funs,e0.frf⟩,
    rfl,e0.bare,Un.kept kp,⟨_,n_,λi y v e1 e2 e3=>?_⟩,λy c e=>?_,e0.hok.fresh (Nat.le_refl _),λy c e=>?_,λq hq=>absurd (show q∈([]:List (Addr×Obj))++[]from hq) (by simp),e0.hok.kept kp,?_⟩
  · have hy:T.scope.names.lookup y=some .cell\/T.scope.names.lookup y=some .free:=hy
    rcases hy with hy|hy
    · exact absurd rfl (S.nocell _ (PySem.mem_of_lookup hy))
    · exact acY y (S.free y hy)
  · have z:false=true:=z
    cases z
  · have e1:T.N[i]?=some y:=e1
    have e3:Vis T.scope y:=e3;unfold fE.N at e1;unfold xw at e2;by_cases hi:i<T.pn.length
    · rw[List.getElem?_append_left hi]at e1
      rw[List.getElem?_append_left (by rw[List.length_map];exact hi)]at e2;have i_:y∈T.pn:=List.mem_of_getElem? e1;have ev:v=.int 0:=by
        rw[List.getElem?_map,e1]at e2;simp at e2;exact e2.symm
      subst ev;refine⟨.int 0 t,⟨t,rfl⟩,.inl ⟨S.par y i_,?_⟩⟩;have l1:T.pn=[y]:=by
        have:T.pn.length=1:=by
          have h1:T.pn.length<=1:=by rw[ajf];split<;>omega
          omega
        match hp:T.pn,this with
        |[z],_=>rw[hp]at i_;simp at i_;rw[i_]
      rw[l1];simp
    · rw[List.getElem?_append_right (by omega)]at e1
      rw[List.getElem?_append_right (by rw[List.length_map];omega),List.length_map]at e2;by_cases hj:i-T.pn.length<T.fr.length
      · rw[List.getElem?_append_left hj]at e1
        rw[List.getElem?_append_left (by rw[List.length_map,C.len];exact hj),List.getElem?_map]at e2;cases hv:vs[i-T.pn.length]? with
        |none=>rw[hv]at e2;simp at e2
        |some Af=>
          rw[hv]at e2;simp at e2;subst e2;obtain⟨c,o,u,q1,q2,q3,pe⟩:=C.has _ y _ e1 hv;refine⟨u,pe,.inr ⟨.inr (S.eO y (List.mem_of_getElem? e1)),c,q1,?_⟩⟩;refine cellK ⟨o,?_,q3⟩;rcases le c _ q2 with y|⟨y,_⟩
          · exact(zg c _ y).1
          · unfold cu at y;cases y
      · rw[List.getElem?_append_right (by rw[List.length_map,C.len];omega),List.getElem?_map]at e2
        cases hz:T.loc[i-T.pn.length-(vs.map some).length]? with
        |none=>rw[hz]at e2;simp at e2
        |some z=>rw[hz]at e2;simp at e2
  · obtain⟨k,v,u,_,_,_,z⟩:=cell y c e
    exact⟨_,cellK z⟩
  · obtain⟨o,z⟩:=hc y c e
    exact back_in z
  · show(xw T vs).length=T.N.length
    unfold xw fE.N;simp[C.len]
theorem aeg {aa:List Addr}{ws:List D}(r:b8 K G vs ws):cz K aa G (xw T vs) (zw T ws):=by
 unfold xw zw;have hl:=r.length;refine⟨by simp[hl],λi z e=>?_⟩;by_cases hi:i<T.pn.length
 ·rw[List.getElem?_append_left (by rw[List.length_map];exact hi)]at e⊢
  rw[List.getElem?_map]at e⊢;cases hp:T.pn[i]? with
  |none=>rw[hp]at e;simp at e
  |some x=>rw[hp]at e;simp at e;subst e;exact .inr ⟨.int 0,by simp,cg.int 0⟩
 ·rw[List.getElem?_append_right (by rw[List.length_map];omega),List.length_map]at e⊢
  by_cases hj:i-T.pn.length<vs.length
  ·rw[List.getElem?_append_left (by rw[List.length_map];omega),List.getElem?_map]at e
   cases hw:ws[i-T.pn.length]? with
   |none=>rw[hw]at e;simp at e
   |some d=>
    rw[hw]at e;simp at e;subst e;obtain⟨v,h1,h2⟩:=r.get hw;exact .inr ⟨v,by rw[List.getElem?_append_left (by rw[List.length_map];exact hj),List.getElem?_map,h1];rfl,h2⟩
  ·rw[List.getElem?_append_right (by rw[List.length_map];omega),List.getElem?_map]at e
   cases hz:T.loc[i-T.pn.length-(ws.map af.dat).length]? with
   |none=>rw[hz]at e;simp at e
   |some z=>rw[hz]at e;simp at e;exact .inl e.symm
end
abbrev sj:Type:=List R.D->Ev af
def Nu (n:Nat):Re af->T (Re af)
 | .ok s M=>clean false n s M
 | .ex c fs M=>.ret (.ex c fs (cut n M))
def xD (t:fE)(b:CE):sj:=λws M=>if jJ ws&&M.all iA then(b (zw t ws) M).bind (Nu M.length)else .bad
structure wc (f9:iw)(k:Nat)(i:Nat)(F:sj):Prop where
 run:∀(A:Around) (outer:List Env) (s:Shared) (H G:Hp) (f c' tp:Addr) (cl:List (Str×Addr)) (vs:List V) (ws:List R.D) (aa:List Addr) (M:List ak) (Q:VK) (E:XK),Room k A->Env0 f9.prog f9.w f9.K f9.mg f9.base A outer s H->aK f9.K aa G M H->
  sq G f (aT.txt i) cl c' tp->tT G (aT.txt i) cl vs->b8 f9.K G vs ws->wp (F ws M) (kq f9.K Q E aa G H)->
  codeAny (model f9.prog f9.w) A (.call (.ref f) ⟨[],[]⟩) (CR (L2.CX f9.prog f9.w) outer f9.prog f9.w H s Q E) s
theorem ai3 {f9:iw}{k i:Nat}{b:CE}(S:LamS (aT.txt i))(B:Rn (aT.txt i))
    (body:∀cl f c' A outer s H E,Room k (A.deeper (xu (aT.txt i) s.heap.objs.size f c' cl))->bf (qi f9.prog f9.w f9.K f9.mg f9.base (aT.txt i) cl f c' A outer s H E) (λcls d _ H=>E cls d H) (aT.txt i).body b):
    wc f9 (k+1) i (xD (aT.txt i) b):=⟨λA outer s H G f c' tp cl vs ws aa M Q E hr e0 ms nC C r h=>by
  obtain⟨P,w,K,mg,base⟩:=f9
  dsimp only at *
  generalize hT:aT.txt i=t at *;have le:=ms.le;obtain⟨pm,ctv,doc,hf⟩:∃pm ctv doc,s.heap.get? f=some {cls:=.type "function",data:=.func (lJ t cl c' tp pm ctv doc)}:=by
    rcases le f _ nC.f with y|⟨y,_⟩
    · exact(e0.hok f _ y).1
    · unfold uS at y;cases y
  have hcode:s.heap.CodeRec (.ref c') t.qual:=by
    rcases le c' _ nC.c with y|⟨y,_⟩
    · exact NdefX.codeO_at e0.hok y
    · unfold LamX.CodeO at y;cases y
  obtain⟨tk,afB⟩:∃tk,BindsTo s (lJ t cl c' tp pm ctv doc) ⟨[],[]⟩ (t.pn.map λx=>(x,Value.int 0 tk)):=by
    cases hd:t.dfl with
    |false=>
      have l0:t.pn=[]:=by
        have:=S.one;rw[hd]at this;exact List.length_eq_zero_iff.mp this
      rw[l0];exact⟨0,.of_eq (B.no hd cl c' tp pm ctv doc)⟩
    |true=>
      obtain⟨k,h1,h2⟩:=B.one hd cl c' tp pm ctv doc;rcases le tp _ (nC.t hd)with y|⟨y,_⟩
      · obtain⟨_,its,hv,ot,ho,Vz,n,agu⟩:=e0.hok tp _ y
        cases hv with
        | @cons _ u _ _ lP hv=>
        cases hv
        obtain⟨tk,rfl⟩:=lP;have Vj:(lJ t cl c' tp pm ctv doc).defaults=.ref tp:=by
          show(if t.dfl then Value.ref tp else Value.none)=.ref tp
          rw[hd];rfl
        exact⟨tk,BindsTo.of_defaults Vj ho agu (by rw[Vj];exact h1) (h2 _)⟩
      · cases y
  unfold xD at h;split at h
  · rename_i hno
    rw[Bool.and_eq_true]at hno;have lim:s.heap.NoLimit:=e0.mod.nolimit.keeps λb o e=>(e0.bs b o e).1
    have vP:=adm C le e0.hok;have C6:=NB vP le;refine PySem.W.kla_callFunE hr.depth hf rfl S.co S.gen rfl hcode (afB _ _ _ _ ?_);refine wpAny_newFunctionEnv S.nocell (λy hy=>?_) (λlI n_ VC=>⟨lim.fresh _ VC,?_⟩) S.kind
    · obtain⟨x,hx,rfl⟩:=List.mem_map.mp hy
      exact S.par x hx
    show codeAny _ _ (.expr t.body (xu t s.heap.objs.size f c' cl)) _ _
    have kp:∀b o,s.heap.get? b=some o->lI.get? b=some o:=λb o e=>VC.extBut b o (Nat.ne_of_lt (Heap.lt_size e)) (Heap.get?_push_of_some _ e)
    have J:=ai5 (E:=Iq (pU t cl s.heap) E) (f:=f) (c':=c') (tk:=s.toks+(t.pn.map λx=>(x,Value.int 0 tk)).length) S C le e0.hok C6 (λy c=>adl C le e0.hok) (aef C6 e0) hr.hd n_ kp;have m1:=X9 vP hno.2 ms;have bd:=(body cl f c' A outer s (dF (pU t cl s.heap) H) (Iq (pU t cl s.heap) E) (hr.deeper _)).run (zw t ws) M aa (dF (pU t cl s.heap) G) (xw t vs) (dF (pU t cl s.heap) H) (Qz (pU t cl s.heap) Q) m1 (aeg (HH vP hno.1 r)) (wp_mono (λcW j8=>by
      have hn:M.length=aa.length:=ms.len.symm;cases cW with
      |ok z M1=>
        intro aq aj H' v g m z3;have j8:wp (clean false M.length z M1) (kq K Q E aa G H):=j8;exact Ey m1 g m z3 (wp_mono (λ_=>Y_ vP le) j8)
      |ex c fs M1=>
        intro aq aj H' d bU g m ed tu;have j8:kq K Q E aa G H (.ex c fs (cut M.length M1)):=j8;rw[hn]at j8;exact oQ m1 g m λaU g2 m2 _=>Y_ vP le j8 aU aj H' d bU g2 m2 ed tu) (wp_bind.mp h))
    refine PySem.W.kla_codeExpr (wpAny_mono (bd [] _ J) (λu aF hq=>?_) λe aF hq=>?_)
    · obtain⟨v,H',yi,b6,q⟩:=hq
      exact adk C6 e0.hok e0.frf ⟨v,H',yi.os,yi.bare,yi.base,yi.hok,b6,q⟩
    · exact wpAny_mono hq (λ_ ly z=>TM C6 e0.hok e0.frf z) λg9 ly z=>TM C6 e0.hok e0.frf z
  · exact h.elim⟩
abbrev tW:Type:=Nat->Option sj
def A8 (tb:tW)(s:af):Ev af:=λM=>match s with
 | .dat (.fF i ws)=>match tb i with
  |some F=>F ws M
  |none=>.bad
 |_=>.bad
def ES (tb:tW)(aE:CE):CE:=λρ=>(aE ρ).bind (A8 tb)
def I3 (f9:iw)(k:Nat)(tb:tW):Prop:=∀i F,tb i=some F->wc f9 k i F
theorem ang {X:Cx}{W:WX}{aE:CE}{tb:tW}{k:Nat}{a:Str}{fH cI:Pos}(T:I3 X.iR k tb)(hr:Room k X.A)(tk:Takes X W)(h1:bf X W (.Name a fH) aE):bf X W (.Call (.Name a fH) [] [] cI) (ES tb aE):=⟨λρ M aa G σ H Q ms en h=>by
 intro pins s I;have hw:wE X (.Name a fH) σ H λv H1=>∃ay au M1 i ws F,aK X.K ay au M1 H1/\cg X.K au v (.fF i ws)/\tb i=some F/\wp (F ws M1) (dB X W (bF X.K) Q σ ay au H1):=
  h1.seq ms en h λay au M1 H1 v s1 g1 m1 r1 aD=>by
   unfold A8 at aD;split at aD
   ·rename_i i ws
    split at aD
    ·rename_i F hF
     exact⟨ay,au,M1,i,ws,F,m1,r1,hF,aD⟩
    ·exact aD.elim
   ·exact aD.elim
 refine wpAny_Call_Name_kw (thn (hw pins s I) λu s1 ⟨v,H1,bY,b6,ay,au,M1,i,ws,F,m1,r1,hF,aD⟩=>?_);cases r1 with
 | @fF f c' tp _ cl vs _ nC C r=>
 obtain rfl:u=Value.ref f:=b6;obtain⟨pm,ctv,doc,hf⟩:∃pm ctv doc,s1.heap.get? f=some {cls:=.type "function",data:=.func (lJ (aT.txt i) cl c' tp pm ctv doc)}:=by
  rcases m1.le f _ nC.f with y|⟨y,_⟩
  ·exact(bY.hok f _ y).1
  ·unfold uS at y;cases y
 refine PySem.W.callWith_F0 ⟨_,_,_,_,hf⟩ ?_;refine wpAny_call (codeAny_mono ((T i F hF).run X.A X.stack s1 H1 au f c' tp cl vs ws ay M1 Q (WE W σ) hr bY.env0 m1 nC C r (wp_mono (λcW j8=>by
  cases cW with
  |ok z M2=>exact j8
  |ex c fs M2=>exact j8) aD)) λcW aF hq=>?_)
 cases cW with
 |error e=>exact passAt tk σ pins H1 s1 e aF bY hq
 |ok gG=>
  cases gG with
  |ret w=>exact bY.after hq
  |next=>exact False.elim hq
  |brk=>exact False.elim hq
  |cont=>exact False.elim hq⟩
def Jf (X:Cx)(jM:Expr)(cs:List Value):Prop:=∀(a:Addr) (oe:Obj) (pn:List (Addr×Obj)) (s1:Shared) (pins:List (Addr×Obj)) (σ:L2.St) (H:Hp) (Q E:Value->Shared->Prop),Inv (X.suite a ((a,oe)::pn)) pins σ H s1->
 (∀(h':Heap) (jD:Value),(∀b o,s1.heap.get? b=some o->h'.get? b=some o)->(∀cls b,PySem.W.exmAny X.K cls cs=some b->PySem.W.Looks (model X.prog X.w) h' (typeOf (.ref a)) cls->PySem.W.Looks (model X.prog X.w) h' (excMatches (.ref a) jD) b)->Q jD {s1 with heap:=h'})->
 wpAny (model X.prog X.w) (X.A.mark (some (.ref a))) (eval jM X.env) Q E s1
theorem aoQ {X:Cx}{n1 n2 n3:Str}{c1 c2 c3:Value}{fH cI gJ p:Pos}{k:Nat}(g1:eK X n1)(m1:X.mg n1=some c1)(g2:eK X n2)(m2:X.mg n2=some c2)(g3:eK X n3)(m3:X.mg n3=some c3)
    (hs:starEach [.Name n1 fH,.Name n2 cI,.Name n3 gJ] X.env=[(false,eval (.Name n1 fH) X.env),(false,eval (.Name n2 cI) X.env),(false,eval (.Name n3 gJ) X.env)]:=by rfl):Jf X (.Tuple [.Name n1 fH,.Name n2 cI,.Name n3 gJ] k p) [c1,c2,c3]:=by
  intro a oe pn s1 pins σ H Q E I h;refine wpAny_Tuple_spliced ?_;rw[hs];refine Calls.spliced_cons (ld_glob (X:=X.suite a ((a,oe)::pn)) I g1.gl m1 ?_ g1.nd);refine Calls.spliced_cons (ld_glob (X:=X.suite a ((a,oe)::pn)) I g2.gl m2 ?_ g2.nd);refine Calls.spliced_cons (ld_glob (X:=X.suite a ((a,oe)::pn)) I g3.gl m3 ?_ g3.nd);refine Calls.spliced_nil ⟨by show(3:Nat)<=sizeLine;decide,?_⟩;have kp:∀b o,s1.heap.get? b=some o->(s1.heap.push {cls:=.type "tuple",data:=.seq [c1,c2,c3].toArray}).get? b=some o:=λb o e=>Heap.get?_push_of_some _ e
  exact h _ _ kp λcls b hx LT=>PySem.W.exm_tup3 (I.kIn.keeps kp) LT (Heap.get?_push_size _ rfl) hx
def wMany (K:Frag)(h0:Heap)(cs:List Value)(i n:Nat)(ts:Addr->Value->Option Addr->TS)(AK:WX)(D:Ends):WX:=λcls d σ H=>σ.length=n->
 ∃b,PySem.W.exmAny K cls cs=some b/\(b=true->∀a,H a=none->h0.get? a=none->ts a cls d {nx:=λaZ H'=>D.nx (aZ.set i none) H',rt:=D.rt,bk:=λaZ H'=>D.bk (aZ.set i none) H',ct:=λaZ H'=>D.ct (aZ.set i none) H'} (σ.set i (some (.ref a))) H)/\
  (b=false->AK cls d σ H)
theorem afY {B:Heap}{l:List Env}{a:Addr}{Z:Obj->Prop}{h h':Heap}(k:∀b o,h.get? b=some o->h'.get? b=some o)(x:HandSPX.FlyingZ B l a Z h):HandSPX.FlyingZ B l a Z h':=by
 obtain⟨q1,q2,q3,oe,vs,T,oT,ts,r1,r2,r3,qk,ql,HA,ON,Zo⟩:=x;exact⟨λb o e=>k b o (q1 b o e),q2,Heap.FunFrames.of_keeps (λb o e _=>⟨o,k b o e,rfl⟩) q3,oe,vs,T,oT,ts,k _ _ r1,r2,r3,qk,ql,HA,k _ _ ON,Zo⟩
section
variable{X:Cx}{n:Str}{cs:List Value}{i:Nat}{body suite:List Stmt}{s0:Stmt}{jM:Expr}{hp pos:Pos}{tb:WX->TS}{ts:Addr->Value->Option Addr->TS}{AK:WX}
theorem ps_try_many (hex:X.ex=[])(hs:X.stack=X.env::X.outer)(hf:X.env.frame=some X.env.locals)(hN:X.N.Nodup)(hi:X.N[i]?=some n)(B0:X.env.kindOf n=some .local)(ht:Jf X jM cs)(tk:Takes X AK)
    (hb:∀(W:WX) (pn:List (Addr×Obj)) (xe:Value->Shared->Prop),Takes (X.tr pn xe) W->PassesOwn (model X.prog X.w) X.A X.env xe->PSs (X.tr pn xe) body (tb W))
    (Mp:∀(a:Addr) (oe:Obj) (cls:Value) (d:Option Addr) (pn:List (Addr×Obj)),Zc cls d oe->(∃vs,oe.data=.fields vs)->(∀p∈pn,p.1≠a)->∀(s:Shared) (σ:L2.St) (H:Hp) (D:Ends),Inv (X.suite a ((a,oe)::pn)) [] σ H s->ts a cls d D σ H->wpAny (model X.prog X.w) (X.A.mark (some (.ref a))) (execs (s0::suite) X.env) (SP (X.suite a ((a,oe)::pn)) [] D) (λ_ _=>False) s):
    PS X (.Try body [.ExceptHandler (some jM) (some n) (s0::suite) hp] [] [] pos) (λD σ H=>tb (wMany X.K X.s_0.heap cs i X.N.length ts AK D) D σ H):=⟨λpins s σ H D I h=>by
  have ok:=I.ok;have hfr:X.A.frames=some (X.env::X.outer):=ok.frames.trans (by rw[hs]);have FJ:Loc X.env.scope n:=.inl B0;refine wpAny_Try_except (wpAny_mono ((hb (wMany X.K X.s_0.heap cs i X.N.length ts AK D) (X.pn++pins) (λe ir=>wpAny (model X.prog X.w) X.A (noteFrame e X.env) (λ_ f7=>wpAny (model X.prog X.w) X.A (setFlight e none)
    (λ_ pF=>wpAny (model X.prog X.w) X.A (handleBy e X.env [.ExceptHandler (some jM) (some n) (s0::suite) hp]) (SP X pins D) X.xe pF) X.xe f7) X.xe ir) (λu z aq2=>?_) PassesOwn.looking).run [] s σ H D (I.toTry _) h) (λgG z hz=>?_) λ_ _ q=>q)
  · obtain⟨a,B,ZS,atO,aZ,H',cls,d,rfl,yi,nb,up,anL,na,os,AM,wish⟩:=aq2
    have J:Inv X pins aZ H' ZS:=yi.ofTry ok;obtain⟨b,hb1,agL,hno⟩:=wish J.len;rw[show frs (X.tr (X.pn++pins) _).stack=frs X.stack from rfl]at nb;have anM:Sky B (X.env::X.outer) a (Zc cls d) X.env.locals z.heap:=hs▸anL;show wpAny (model X.prog X.w) X.A (noteFrame (.ref a) X.env) _ _ _
    refine Sky.land Zc.steady hfr hf anM λk1 y_ rZ=>?_
    have aby:Inv X pins aZ H' {z with heap:=k1}:=J.landed nb y_.1 (up.trans rZ) os AM;obtain⟨oe,vs,e1,aew,ed⟩:=y_.there;have G1:a∉frs (X.env::X.outer):=λhm=>by
      obtain⟨_,cQ,g9,hnf⟩:=y_.2.2.1.mem hm;rw[e1]at g9;cases g9;exact hnf _ ed
    have GV:a≠X.env.locals:=λq=>G1 (List.mem_filterMap.mpr ⟨X.env,.head _,by rw[hf,q]⟩)
    have GU:a∉X.fs:=λhm=>by
      obtain⟨e,he,q⟩:=List.mem_filterMap.mp hm;exact G1 (List.mem_filterMap.mpr ⟨e,.tail _ he,q⟩)
    have apart:∀p∈X.pn++pins,p.1≠a:=λp hp z=>by
      have:=nb p.1 p.2 (J.pin p hp).1 (by rw[hs,z];exact G1);rw[z,y_.2.1]at this;cases this
    have fresh:X.s_0.heap.get? a=none:=by
      cases q:X.s_0.heap.get? a with
      |none=>rfl
      |some o=>
        obtain⟨cQ,q2⟩:=J.base.there a o q (by rw[hex];simp);have:=nb a cQ q2 (by rw[hs];exact G1);rw[y_.2.1]at this;cases this
    refine wpAny_handleBy_cons (codeAny_handlers_test ?_) (by intro q;cases q);refine ht a oe (X.pn++pins) _ _ aZ H' _ _ (aby.suite e1 ed na GV GU) λk2 jD kp look=>?_
    have Lu:=afY kp y_;have e2:=kp _ _ e1;have aat:=rZ.trans (Heap.UpToSlots.of_keeps kp);have LT:PySem.W.Looks (model X.prog X.w) k2 (typeOf (.ref a)) cls:=λA Q E s k q=>wpAny_typeOf_ref (k _ _ e2) (by rw[aew.1];exact q)
    refine(look cls b hb1 LT).here ?_;cases b with
    |false=>
      show wpAny _ X.A (handleBy (.ref a) X.env []) _ _ _
      refine wpAny_handleBy_nil ?_;obtain⟨_,_,_,atJ,Iv,T,oT,ap7,f1,f2,jE,f4,sM⟩:=id Lu;have fin:wpAny (model X.prog X.w) X.A (setFlight (.ref a) X.env.frame) (λ_ y=>wpAny (model X.prog X.w) X.A (throw (.ref a):Sem Flow) (SP X pins D) X.xe y) X.xe {z with heap:=k2}:=by
        rw[hf];exact HandSPX.setFlight_upZ Lu λk3 Fb Qx=>wpAny_throw (tk _ _ ⟨a,B,ZS,pins,aZ,H',cls,d,rfl,J,nb,(up.trans aat).trans Qx,.inr (.inr (by rw[hs];exact Fb)),na,os,AM,hno rfl⟩)
      unfold PySem.passOn;refine wpAny_bind (wpAny_field f1 jE f4 ?_);rw[if_neg (show¬((Value.ref T==Value.none)=true)from by simp)]
      first
        |exact wpAny_bind (wpAny_pure (wpAny_bind fin))
        |exact wpAny_bind fin
    |true=>
      refine codeAny_handlers_suite_as (HandSPX.lands_againZ Lu λk3 Fb Qx=>?_);obtain⟨Om,aub,g1,g2,g3⟩:=Fb.there;have abz:Inv X pins aZ H' {z with heap:=k3}:=J.landed nb Fb.1 ((up.trans aat).trans Qx) os AM;refine store_ok (X:=X.suite a ((a,Om)::(X.pn++pins))) (v:=.ref a) (abz.suite g1 g3 na GV GU) hN hi FJ rfl (λy Y=>?_) (.inr B0);refine wpAny_mono (Mp a Om cls d (X.pn++pins) g2 ⟨_,g3⟩ apart y _ H' _ Y (agL rfl a na fresh)) (λgG t ht=>?_) λ_ _ q=>q.elim
      have fin:∀{QS:L2.St} {uR:Hp} {Q:Shared->Prop},Inv (X.suite a ((a,Om)::(X.pn++pins))) [] QS uR t->(∀r,Inv X pins (QS.set i none) uR r->Q r)->wpAny (model X.prog X.w) X.A (do bindName X.env n .none;unbindBehindTheSuite X.env n hp) (λ_ r=>Q r) X.xe t:=
        λq r=>gone_ok (q.unsuite ok) hN hi B0 r
      cases gG with
      |next=>obtain⟨_,_,q1,q2⟩:=ht;exact fin q1 λ_ q=>⟨_,_,q,q2⟩
      |brk=>obtain⟨_,_,q1,q2⟩:=ht;exact fin q1 λ_ q=>⟨_,_,q,q2⟩
      |cont=>obtain⟨_,_,q1,q2⟩:=ht;exact fin q1 λ_ q=>⟨_,_,q,q2⟩
      |ret u=>obtain⟨_,_,_,q1,q3,q2⟩:=ht;exact fin q1 λ_ q=>⟨_,_,_,q,q3,q2⟩
  · cases gG with
    |next=>obtain⟨_,_,q1,q2⟩:=hz;exact wpAny_execs_nil ⟨_,_,q1.ofTry ok,q2⟩
    |brk=>obtain⟨_,_,q1,q2⟩:=hz;exact⟨_,_,q1.ofTry ok,q2⟩
    |cont=>obtain⟨_,_,q1,q2⟩:=hz;exact⟨_,_,q1.ofTry ok,q2⟩
    |ret u=>obtain⟨_,_,_,q1,q3,q2⟩:=hz;exact⟨_,_,_,q1.ofTry ok,q3,q2⟩⟩
end
structure u0 (K:Frag)(C:Addr)(f:Str):Prop where
 x:L2.XfC K C
 no:PySem.W.findIn K (.ref C) f=some none
def y9 (f:Str)(cs:List Nat):af->Option af
 | .dat (.exc c fs)=>if cs.contains c then(fs.lookup f).map .dat else none
 |_=>none
def m9 (f:Str)(cs:List Nat)(aE:CE):CE:=λρ=>(aE ρ).bind λs=>G_ (y9 f cs s)
theorem rL {X:Cx}{W:WX}{e:Expr}{aE:CE}{f:Str}{cs:List Nat}{pos:Pos}(hf:∀c∈cs,u0 X.K (cy X.K c) f)(h1:bf X W e aE)(hb:attributeBase e f X.env (eval e X.env)=eval e X.env:=by rfl):bf X W (.Attribute e f pos) (m9 f cs aE):=⟨λρ M aa G σ H Q ms en h=>by
 intro pins s I;have hw:wE X e σ H λv H1=>∃ay au M1 c fs d,aK X.K ay au M1 H1/\cg X.K au v (.exc c fs)/\c∈cs/\fs.lookup f=some d/\∀u,cg X.K au u d->Q u H1:=
  h1.seq ms en h λay au M1 H1 v s1 g1 m1 r1 aD=>by
   obtain⟨t,e1,q⟩:=aaJ.mp aD;unfold y9 at e1;split at e1
   ·rename_i c fs
    split at e1
    ·rename_i hc
     cases hl:fs.lookup f with
     |none=>rw[hl]at e1;cases e1
     |some d=>
      rw[hl]at e1;cases e1
      exact⟨ay,au,M1,c,fs,d,m1,r1,by simpa using hc,hl,λu lP=>q _ _ _ _ (aJ.refl _ _ _) m1 lP⟩
    ·cases e1
   ·cases e1
 refine attr_of hb (thn (hw pins s I) λu s1 ⟨v,H1,bY,b6,ay,au,M1,c,fs,d,m1,r1,hc,hl,q⟩=>?_);cases r1 with
 | @exc a bO _ bU _ o ga QL gd tu=>
 obtain rfl:u=Value.ref a:=b6;have T:=hf c hc;have ha:s1.heap.get? a=some o:=by
  rcases m1.le a _ ga with y|⟨y,_⟩
  ·exact(bY.hok a _ y).1
  ·unfold cu at y;cases y
 have hx:ObjOk X.prog X.w H1 s1.heap bO (.xd bU):=by
  rcases m1.le bO _ gd with y|⟨y,_⟩
  ·exact bY.hok bO _ y
  ·cases y
 obtain⟨mA,n_,hr⟩:=hx;obtain⟨od,ho,hlk⟩:=lookIn_ns n_;obtain⟨v,hv,alM⟩:=tu.lookup hl;obtain⟨u,hu,lP⟩:=RelO.some_of (v:=v) (o:=mA f) (by rw[<-hv];exact hr f);obtain⟨vs,hd⟩:=QL.data;have J:PySem.W.InstAt s1.heap a o (cy X.K c) (some od):=⟨ha,QL.cls,by unfold PySem.W.notCls;rw[hd]<;>rfl,by rw[QL.dict];exact ho⟩;exact HandSPX.exc_get bY.kIn J T.x.ga T.x.gg T.x.exC (PySem.W.findObj_own T.x.hdC T.no rfl (by rw[hlk,hu])) (handed_of lP) ⟨v,H1,bY.tok _,lP,q v alM⟩⟩
structure DB (P:Program)(w:World)(K:Frag)(mg:Str->Option Value)(base:Heap)(CX:CXT)(k:Nat)(f:Addr)(fd:FuncData)(ps:List Str)(sp:Sp):Prop where
 len:∀vs H Q E,sp vs H Q E->vs.length=ps.length
 run:∀(A:Around) (outer:List Env) (s:Shared) (H:Hp) (args:Args) (us:List Value) (vs:List V) (Q:VK) (E:XK),L2H.RoomH k A->Env0 P w K mg base A outer s H->BindsTo s fd args (ps.zip us)->Vals vs us->sp vs H Q E->
  codeAny (model P w) A (.call (.ref f) args) (CR CX outer P w H s Q E) s
abbrev yH (P:Program)(w:World)(K:Frag)(mg:Str->Option Value)(base:Heap)(N:List Str)(qual:Str)(sc:Scope)(f:Addr)(cdv:Value)(A:Around)(outer:List Env)(s:Shared)(H:Hp)(E:XK):Cx:=
 { cxOf (L2.CX P w) P w K mg base N qual sc f cdv A outer s H E with calm:=false}
section
variable{P:Program}{w:World}{K:Frag}{mg:Str->Option Value}{base:Heap}{x qual:Str}{eo:Stmt}{f:Addr}{fd:FuncData}{N ps:List Str}{k:Nat}
theorem ah9 {cdv:Value}{A:Around}{outer:List Env}{s s1:Shared}{H:Hp}{E:XK}{us:List Value}{vs:List V}{scope:Scope}(S:FnScope N ps scope)(e0:Env0 P w K mg base A outer s H)(hl:vs.length=ps.length)(r:Vals vs us)
    (y:InCallC s s.heap.objs.size (bindL (envOfC qual scope s.heap.objs.size f cdv).kindOf (ps.zip us) λ_=>none) (cellsFrom (s.heap.objs.size+1) scope.names []) (bindC (envOfC qual scope s.heap.objs.size f cdv).kindOf (ps.zip us) λ_=>none) s1):
    Inv (yH P w K mg base N qual scope f cdv A outer s H E) [] (L2.start N vs) H s1:=by
  obtain⟨A1,hA,hd⟩:∃A1:Around,A1.frames=A.frames/\A1.handled=none:=⟨{A with handled:=none},rfl,rfl⟩;have I:=inv_start (CX:=L2.CX P w) (A:=A1) (E:=E) (N:=N) (qual:=qual) (f:=f) (cd:=cdv) S hd ⟨by rw[hA];exact e0.frames,e0.mod,e0.bs,e0.bsz,e0.funs,e0.frf,e0.hok,e0.bare⟩ hl r y;have ok:=I.ok;exact⟨⟨ok.mod,ok.kind,ok.glob,ok.blt,ok.above,ok.inj,ok.has,ok.cab,λz=>absurd (show false=true from z) Bool.false_ne_true,Around.frames_deeper e0.frames,ok.stk,ok.exf,ok.bs,ok.bsz,ok.noex,ok.exfs,ok.funs,ok.frf⟩,
    I.os,I.bare,I.base,I.loc,I.cell,I.free,I.freeC,I.pin,I.hok,I.len⟩
end
section
variable{P:Program}{w:World}{K:Frag}{mg:Str->Option Value}{base:Heap}{x qual:Str}{eo:Stmt}{f:Addr}{fd:FuncData}{N ps:List Str}{k:Nat}
theorem aeK (m:Bool)(F:Fun K x qual eo f fd)(S:FnScope N ps (defScope eo)){oU:aN}
    (body:∀cdv A outer s H E,L2H.RoomH k (A.deeper (envOfC qual (defScope eo) s.heap.objs.size f cdv))->SB (yH P w K mg base N qual (defScope eo) f cdv A outer s H E) (λcls d _ H=>E cls d H) (defBody eo) oU):
    DB P w K mg base (L2.CX P w) (k+1) f fd ps (gy K ps.length (aR m ps.length N.length oU)):=by
  have len:∀vs H Q E,gy K ps.length (aR m ps.length N.length oU) vs H Q E->vs.length=ps.length:=λvs H Q E h=>by
    obtain⟨aa,G,M,ss,_,r,e,_⟩:=h;rw[r.length,e]
  refine⟨len,λA outer s H args us vs Q E hr e0 hb b6 zj=>?_⟩;have hl:=len _ _ _ _ zj;obtain⟨oc,od,kV,doc,pm,an,cdv,ct,gi,rfl,lk,hcd⟩:=F.ex;have KX:K.In s.heap:=e0.mod.kin.keeps λb o e=>(e0.bs b o e).1
  have lim:s.heap.NoLimit:=e0.mod.nolimit.keeps λb o e=>(e0.bs b o e).1
  refine codeAny_call_function hr.depth (KX _ _ lk) rfl S.co S.gen rfl (PySem.W.codeRec_of KX hcd) (hb _ _ _ _ (wpAny_newFunctionEnv_cells S.kind (λy hy=>?_) λenv he s1 y=>?_))
  · obtain⟨n,v⟩:=y
    rcases S.par n (List.of_mem_zip hy).1 with q|q
    · exact .inl q
    · exact .inr ⟨q,PySem.W.cellsFrom_some _ _ _ (.inl q)⟩
  · subst he
    refine⟨lim.keeps y.toInCall.keep,codeAny_func ?_⟩;have J:=ah9 (E:=E) (cdv:=cdv) (qual:=qual) (f:=f) S e0 hl b6 y;obtain⟨aa,G,M,ss,ms,r,e,h⟩:=zj;have en:=BB (K:=K) (aa:=aa) (G:=G) (N:=N) r;rw[e]at en;unfold aR at h;rw[if_pos e]at h;have run:=(body cdv A outer s H E (hr.deeper _)).run _ M aa G (L2.start N vs) H {nx:=λ_ H'=>Q .non H',rt:=Q} ms en (wp_mono (λcW j8=>by
      cases cW with
      |ex c fs M1=>
        intro aZ aq aj H' d bU g1 m1 e1 r1;rw[show M.length=aa.length from ms.len.symm]at j8;exact oQ ms g1 m1 λaU g2 m2 _=>j8 aU aj H' d bU g2 m2 e1 r1
      |ok a M1=>
        cases a with
        |nx aY=>
          intro aq aj H' aZ g1 m1 _;have j8:kq K Q E aa G H (.ok (.dat .non) (cut M.length M1)):=j8;rw[show M.length=aa.length from ms.len.symm]at j8;exact oQ ms g1 m1 λaU g2 m2 _=>j8 aU aj H' .non g2 m2 xR
        |rt s1=>exactλaq aj H' v g1 m1 r1=>Ey ms g1 m1 r1 j8
        |bk aY=>exact(show False from j8).elim
        |ct aY=>exact(show False from j8).elim) (wp_bind.mp h))
    refine wpAny_mono (run [] s1 J) (λgG aF hs=>?_) λe aF hs=>hs
    cases gG with
    |ret u=>obtain⟨v,aZ,H',eL,alL,q⟩:=hs;exact⟨v,H',eL.os,eL.bare,eL.base,eL.hok,alL,q⟩
    |next=>obtain⟨aZ,H',eL,q⟩:=hs;exact⟨.non,H',eL.os,eL.bare,eL.base,eL.hok,rfl,q⟩
    |brk=>obtain⟨_,_,_,q⟩:=hs;exact False.elim q
    |cont=>obtain⟨_,_,_,q⟩:=hs;exact False.elim q
end
section
variable{X:Cx}{a:Addr}{oe:Obj}{pn pins:List (Addr×Obj)}{σ:L2.St}{H H' G:Hp}{s:Shared}
theorem o6 {b:Addr}{o:Obj}(z:([(a,oe)]:iG).lookup b=some o):b=a/\o=oe:=by
 rw[List.lookup_cons]at z;cases e:(b==a)with
 |true=>rw[e]at z;cases z;exact⟨eq_of_beq e,rfl⟩
 |false=>rw[e]at z;cases z
theorem ND:([(a,oe)]:iG).lookup a=some oe:=by simp
theorem aha (I:Inv (X.suite a ((a,oe)::pn)) [] σ H s)(fr:X.s_0.heap.get? a=none)(ap:∀p∈pn,p.1≠a):Inv (X.suite a pn) [] σ (d8 [(a,oe)] H) s:=by
 have ok:=I.ok;obtain⟨fH,cI,gJ,rE,mS⟩:=I.pin (a,oe) (List.mem_append_left _ (.head _));have no:∀b,b≠a->d8 [(a,oe)] H b=H b:=λb hb=>eu (by
  cases z:([(a,oe)]:iG).lookup b with
  |none=>rfl
  |some o=>exact absurd (o6 z).1 hb)
 have hn:∀b o,([(a,oe)]:iG).lookup b=some o->H b=none:=λb o z=>by rw[(o6 z).1];exact cI
 refine⟨⟨ok.mod,ok.kind,ok.glob,ok.blt,ok.above,ok.inj,ok.has,ok.cab,ok.hd,ok.frames,ok.stk,ok.exf,ok.bs,ok.bsz,ok.noex,ok.exfs,ok.funs,ok.frf⟩,I.os,I.bare,?_,I.loc,I.cell,?_,λx c e=>?_,λp hp=>?_,?_,I.len⟩
 ·have un:=I.base
  have ne:∀b o,X.s_0.heap.get? b=some o->b≠a:=λb o e z=>by rw[z,fr]at e;cases e
  exact{
   keep:=un.keep
   slot:=un.slot
   free:=λb o e n hx=>by rw[no b (ne b o e)];exact un.free b o e n hx
   there:=un.there
   tups:=λb xs e=>by
    have q:=un.tups b xs e;rw[eu (rC hn (by rw[q];simp))];exact q
   frzs:=λb o v e=>by
    have q:=un.frzs b o v e;rw[eu (rC hn (by rw[q];simp))];exact q
   tbls:=λb ps e=>by
    obtain⟨more,q⟩:=un.tbls b ps e;exact⟨more,by rw[eu (rC hn (by rw[q];simp))];exact q⟩}
 ·rw[no _ (Ne.symm gJ)];exact I.free
 ·have hc:c≠a:=λz=>by
   obtain⟨v,o,ho,hd⟩:=I.cell x c e;rw[z,fH]at ho;cases ho
   exact mS v hd
  rw[no c hc];exact I.freeC x c e
 ·have um:p∈pn:=by simpa using(show p∈pn++[]from hp)
  have q:=I.pin p (List.mem_append_left _ (.tail _ um));exact⟨q.1,by rw[no _ (ap p um)];exact q.2.1,q.2.2⟩
 ·exact Mf hn (λb o z=>by rw[(o6 z).1,(o6 z).2];exact fH) I.hok
theorem ah7 (I:Inv (X.suite a pn) [] σ H s)(aks:(X.suite a ((a,oe)::pn)).Ok)(fr:X.s_0.heap.get? a=none)(ap:∀p∈pn,p.1≠a)(hH:H a=some (cu a oe))(hd:∃vs,oe.data=.fields vs)(GV:a≠X.env.locals)(GU:a∉X.fs):Inv (X.suite a ((a,oe)::pn)) [] σ (dF [(a,oe)] H) s:=by
 have no:∀b,b≠a->dF [(a,oe)] H b=H b:=λb hb=>cY (by
  cases z:([(a,oe)]:iG).lookup b with
  |none=>rfl
  |some o=>exact absurd (o6 z).1 hb)
 have tl:∀b o,([(a,oe)]:iG).lookup b=some o->H b=some (cu b o):=λb o z=>by rw[(o6 z).1,(o6 z).2];exact hH
 have ha:s.heap.get? a=some oe:=(I.hok a _ hH).1;obtain⟨vs,hd⟩:=hd;refine⟨aks,I.os,I.bare,?_,I.loc,I.cell,qJ I.free,λx c e=>qJ (I.freeC x c e),λp hp=>?_,λb u e=>?_,I.len⟩
 ·have un:=I.base
  exact{
   keep:=un.keep
   slot:=un.slot
   free:=λb o e n hx=>qJ (un.free b o e n hx)
   there:=un.there
   tups:=λb xs e=>by
    have q:=un.tups b xs e;rw[cY (iN tl q λo=>Ne.symm zO)];exact q
   frzs:=λb o v e=>by
    have q:=un.frzs b o v e;rw[cY (iN tl q λcQ y=>by unfold cu at y;cases y)];exact q
   tbls:=λb ps e=>by
    obtain⟨more,q⟩:=un.tbls b ps e;exact⟨more,by rw[cY (iN tl q λcQ y=>by unfold cu at y;cases y)];exact q⟩}
 ·have um:p∈(a,oe)::pn:=by simpa using(show p∈((a,oe)::pn)++[]from hp)
  rcases List.mem_cons.mp um with rfl|z
  ·exact⟨ha,back_in ND,GV,GU,λv z=>by have ab1:oe.data=.cell v:=z;rw[hd]at ab1;cases ab1⟩
  ·have q:=I.pin p (List.mem_append_left _ z)
   exact⟨q.1,qJ q.2.1,q.2.2⟩
 ·cases z:([(a,oe)]:iG).lookup b with
  |some o=>rw[back_in z]at e;cases e
  |none=>
   rw[cY z]at e;refine(I.hok b u e).stay (λc v _ y=>y) (λc y=>?_) λc xs y=>?_
   ·rw[cY (iN tl y λo=>Ne.symm Ol)];exact y
   ·rw[cY (iN tl y λo=>Ne.symm zO)];exact y
end
def Hf (i:Nat):Re bW->T (Re bW)
 | .ok (.nx ρ) M=>if(ρ.set i .un).all jq&&M.all iA then .ret (.ok (.nx (ρ.set i .un)) M)else .bad
 | .ok (.bk ρ) M=>if(ρ.set i .un).all jq&&M.all iA then .ret (.ok (.bk (ρ.set i .un)) M)else .bad
 | .ok (.ct ρ) M=>if(ρ.set i .un).all jq&&M.all iA then .ret (.ok (.ct (ρ.set i .un)) M)else .bad
 | .ok (.rt s) M=>if jq s&&M.all iA then .ret (.ok (.rt s) M)else .bad
 | .ex _ _ _=>.bad
def A_ (n i:Nat)(cat:Nat->Option Bool)(fs:aN):Re bW->T (Re bW)
 | .ok f M=>.ret (.ok f M)
 | .ex c es M=>match cat c with
  |some true=>(fs ((List.replicate n .un).set i (.dat (.exc c es))) M).bind (Hf i)
  |some false=>.ret (.ex c es M)
  |none=>.bad
def HL (bC:aN)(n i:Nat)(cat:Nat->Option Bool)(fs:aN):aN:=λρ M=>(bC ρ M).bind (A_ n i cat fs)
section
variable{X:Cx}{W:WX}{a:Addr}{oe:Obj}{pn:List (Addr×Obj)}{K:Frag}{aa aq:List Addr}{G aj H H':Hp}{M az:List ak}{σ:L2.St}{ρ:List af}{L:iG}{i:Nat}
theorem Lg (hl:∀b o,L.lookup b=some o->G b=some (cu b o))(hn:(ρ.set i .un).all jq=true)(en:cz K aa G σ ρ):cz K aa (dF L G) (σ.set i none) (ρ.set i .un):=by
 refine⟨by rw[List.length_set,List.length_set];exact en.len,λj s e=>?_⟩;have ns:=List.all_eq_true.mp hn s (List.mem_of_getElem? e);by_cases hj:i=j
 ·subst hj
  rw[List.getElem?_set]at e;split at e
  ·split at e
   ·cases e;exact .inl rfl
   ·cases e
  ·exact absurd rfl ‹_›
 ·rw[List.getElem?_set_ne hj]at e⊢
  rcases en.at_ j s e with z|⟨v,e1,r⟩
  ·exact .inl z
  ·exact .inr ⟨v,e1,CL hl ns r⟩
theorem aoc {n:Str}{np:Nat}{cs:List Value}{body suite:List Stmt}{s0:Stmt}{jM:Expr}{hp pos:Pos}{bC fs:aN}{cat:Nat->Option Bool}(hex:X.ex=[])(hs:X.stack=X.env::X.outer)(hf:X.env.frame=some X.env.locals)(hN:X.N.Nodup)(nq:X.N.length=np)(hi:X.N[i]?=some n)(B0:X.env.kindOf n=some .local)
    (ht:Jf X jM cs) (tk:Takes X W) (hc:∀c b,cat c=some b->PySem.W.exmAny X.K (.ref (cy X.K c)) cs=some b)
    (hb:∀(W:WX) (pn:List (Addr×Obj)) (xe:Value->Shared->Prop),Takes (X.tr pn xe) W->PassesOwn (model X.prog X.w) X.A X.env xe->SB (X.tr pn xe) W body bC)
    (Mp:∀(a:Addr) (pn:List (Addr×Obj)),SB (X.suite a pn) (λ_ _ _ _=>False) (s0::suite) fs):
    jk X W (.Try body [.ExceptHandler (some jM) (some n) (s0::suite) hp] [] [] pos) (HL bC np i cat fs):=⟨λρ M aa G σ H D ms en h=>by
  let ts:Addr->Value->Option Addr->TS:=λa cls d D σ H=>∃c es aa G M bU bO,cls=.ref (cy X.K c)/\d=some bO/\aK X.K aa G M H/\G bO=some (.xd bU)/\gR X.K G bU es/\σ.length=np/\i<np/\σ[i]?=some (some (.ref a))/\X.s_0.heap.get? a=none/\H a=none/\
    wp (fs ((List.replicate np .un).set i (.dat (.exc c es))) M) (λr=>∀oe:Obj,aJ aa (d8 [(a,oe)] G) (d8 [(a,oe)] H) aa (d8 [(a,oe)] G) (d8 [(a,oe)] H)->
      eN X (λ_ _ _ _=>False) {nx:=λaZ H'=>H' a=some (cu a oe)/\D.nx aZ (dF [(a,oe)] H'),rt:=λv H'=>H' a=some (cu a oe)/\D.rt v (dF [(a,oe)] H'),bk:=λaZ H'=>H' a=some (cu a oe)/\D.bk aZ (dF [(a,oe)] H'),ct:=λaZ H'=>H' a=some (cu a oe)/\D.ct aZ (dF [(a,oe)] H')} aa (d8 [(a,oe)] G) (d8 [(a,oe)] H) r)
  let tb:WX->TS:=λW D σ H=>∃ρ M aa G,aK X.K aa G M H/\cz X.K aa G σ ρ/\wp (bC ρ M) (eN X W D aa G H)
  refine toS (ps_try_many (tb:=tb) (ts:=ts) hex hs hf hN hi B0 ht tk (λW pn xe tk po=>⟨λpins s σ H D I ⟨ρ,M,aa,G,ms,en,w⟩=>?_⟩) (λa oe cls d pn hz hd ap s σ H D I jH=>?_)) ⟨ρ,M,aa,G,ms,en,?_⟩
  · exact(hb W pn xe tk po).run ρ M aa G σ H D ms en w pins s I
  · obtain⟨c,es,aa,G,M,bU,bO,rfl,rfl,ms,gd,tu,hl,qe,zl,fr,ha,w⟩:=jH
    have hn:∀b o,([(a,oe)]:iG).lookup b=some o->H b=none:=λb o z=>by rw[(o6 z).1];exact ha
    have m1:=GN hn ms;have ex:=wV hn ms.le;have bY:=aha I fr ap;have BA:cz X.K aa (d8 [(a,oe)] G) σ ((List.replicate np .un).set i (.dat (.exc c es))):=by
      refine⟨by simp[hl],λj t e=>?_⟩;by_cases hj:i=j
      · subst hj
        rw[List.getElem?_set_self (by simpa using qe)]at e;cases e
        exact .inr ⟨_,zl,cg.exc (o5 ND) ⟨hz.1,hz.2,hd⟩ (ex _ _ gd) (gR.mono ex tu)⟩
      · rw[List.getElem?_set_ne hj,List.getElem?_replicate]at e
        split at e
        · exact .inl (Option.some.inj e).symm
        · cases e
    obtain⟨fH,cI,gJ,rE,mS⟩:=I.pin (a,oe) (List.mem_append_left _ (.head _));refine wpAny_mono ((Mp a pn).run _ M aa _ σ _ _ m1 BA (wp_mono (λr hr=>hr oe (aJ.refl _ _ _)) w) [] s bY) (λgG t q=>?_) λ_ _ z=>z.elim
    have bk:∀{aZ:L2.St} {H':Hp},Inv (X.suite a pn) [] aZ H' t->H' a=some (cu a oe)->Inv (X.suite a ((a,oe)::pn)) [] aZ (dF [(a,oe)] H') t:=λeL e=>ah7 eL I.ok fr ap e hd gJ rE
    cases gG with
    |next=>obtain⟨aZ,H',eL,e,q⟩:=q;exact⟨_,_,bk eL e,q⟩
    |brk=>obtain⟨aZ,H',eL,e,q⟩:=q;exact⟨_,_,bk eL e,q⟩
    |cont=>obtain⟨aZ,H',eL,e,q⟩:=q;exact⟨_,_,bk eL e,q⟩
    |ret u=>obtain⟨v,aZ,H',eL,b6,e,q⟩:=q;exact⟨_,_,_,bk eL e,b6,q⟩
  · refine wp_mono (λr hr=>?_) (wp_bind.mp h)
    cases r with
    |ok f M1=>
      have hr:eN X W D aa G H (.ok f M1):=hr;cases f with
      |nx _=>exact hr
      |rt _=>exact hr
      |bk _=>exact hr
      |ct _=>exact hr
    |ex c es M1=>
      intro aZ ay au H1 d bU g1 m1 gd tu hl;have hl:aZ.length=np:=hl.trans nq;unfold A_ at hr;cases hcat:cat c with
      |none=>simp only[hcat]at hr;exact hr.elim
      |some b=>
        simp only[hcat]at hr;refine⟨b,hc c b hcat,λhb1 a ha fr=>?_,λhb0=>?_⟩
        · subst hb1
          have qe:i<np:=by rw[<-nq];exact(List.getElem?_eq_some_iff.mp hi).1
          refine⟨c,es,ay,au,M1,bU,d,rfl,rfl,m1,gd,tu,by rw[List.length_set];exact hl,qe,by rw[List.getElem?_set_self (by rw[hl];exact qe)],fr,ha,wp_mono (λr w oe kW=>?_) (wp_bind.mp hr)⟩;have hn:∀b o,([(a,oe)]:iG).lookup b=some o->H1 b=none:=λb o z=>by rw[(o6 z).1];exact ha
          have EG:∀{aq:List Addr} {aj H':Hp} {az:List ak},aJ ay (d8 [(a,oe)] au) (d8 [(a,oe)] H1) aq aj H'->aK X.K aq aj az H'->az.all iA=true->H' a=some (cu a oe)/\aJ aa G H aq (dF [(a,oe)] aj) (dF [(a,oe)] H')/\aK X.K aq (dF [(a,oe)] aj) az (dF [(a,oe)] H'):=λ{aq aj H' az} g m hm=>
            ⟨Xx g m a oe ND,g1.trans (U8 hn m1.le g),X9 (xA g) hm m⟩
          cases r with
          |ex c2 ary M2=>exact(show False from w).elim
          |ok f M2=>
            cases f with
            |nx iT=>
              intro aq aj H' fS g m nZ;have w:wp (if(iT.set i .un).all jq&&M2.all iA then .ret (.ok (.nx (iT.set i .un)) M2)else .bad) (eN X W D aa G H):=w;split at w
              · rename_i hh
                rw[Bool.and_eq_true]at hh;obtain⟨q1,q2,q3⟩:=EG g m hh.2;exact⟨q1,w _ _ _ _ q2 q3 (Lg (xA g) hh.1 nZ)⟩
              · exact w.elim
            |bk iT=>
              intro aq aj H' fS g m nZ;have w:wp (if(iT.set i .un).all jq&&M2.all iA then .ret (.ok (.bk (iT.set i .un)) M2)else .bad) (eN X W D aa G H):=w;split at w
              · rename_i hh
                rw[Bool.and_eq_true]at hh;obtain⟨q1,q2,q3⟩:=EG g m hh.2;exact⟨q1,w _ _ _ _ q2 q3 (Lg (xA g) hh.1 nZ)⟩
              · exact w.elim
            |ct iT=>
              intro aq aj H' fS g m nZ;have w:wp (if(iT.set i .un).all jq&&M2.all iA then .ret (.ok (.ct (iT.set i .un)) M2)else .bad) (eN X W D aa G H):=w;split at w
              · rename_i hh
                rw[Bool.and_eq_true]at hh;obtain⟨q1,q2,q3⟩:=EG g m hh.2;exact⟨q1,w _ _ _ _ q2 q3 (Lg (xA g) hh.1 nZ)⟩
              · exact w.elim
            |rt z=>
              intro aq aj H' v g m z3;have w:wp (if jq z&&M2.all iA then .ret (.ok (.rt z) M2)else .bad) (eN X W D aa G H):=w;split at w
              · rename_i hh
                rw[Bool.and_eq_true]at hh;obtain⟨q1,q2,q3⟩:=EG g m hh.2;exact⟨q1,w _ _ _ _ q2 q3 (CL (xA g) hh.1 z3)⟩
              · exact w.elim
        · subst hb0
          have hr:eN X W D aa G H (.ex c es M1):=hr;exact hr aZ ay au H1 d bU g1 m1 gd tu⟩
end
structure QX (D:iw)(k:Nat)(x:Str)(np:Nat)(F:aM):Prop where
 ex:∃f fd ps,DB D.prog D.w D.K D.mg D.base (L2.CX D.prog D.w) k f fd ps (gy D.K np F)/\D.mg x=some (.ref f)/\PySem.W.keepIn D.K (.ref f)=true/\Binds D.K fd ps []
theorem anf {X:Cx}{W:WX}{e:Expr}{es:List Expr}{x:Str}{fs:aH}{F:aM}{k n:Nat}{p pos:Pos}(C:QX X.iR k x n F)(hl:∀{ss M Q},wp (F ss M) Q->ss.length=n)(hr:L2H.RoomH k X.A)(G:eK X x)(tk:Takes X W)(h1:jN X W (e::es) fs)
    (he:starEach (e::es) X.env=(false,eval e X.env)::starEach es X.env:=by rfl) (hpl:(backTo pos (starEach es X.env)).any (·.1)=false:=by rfl):bf X W (.Call (.Name x p) (e::es) [] pos) (bB F fs):=⟨λρ M aa sf σ H Q ms en h=>by
  intro pins s I;obtain⟨f,fd,ps,c_,hm,hk,hb⟩:=C.ex;have uf:x6 X (e::es) σ H λvs H1=>∃ay au M1 ss,aK X.K ay au M1 H1/\bM X.K ay au vs ss/\wp (F ss M1) (dB X W (bF X.K) Q σ ay au H1):=
    h1.seq ms en h λay au M1 H1 vs ss g1 m1 r1 aD=>⟨ay,au,M1,ss,m1,r1,aD⟩
  refine wpAny_Call_Name_kw (ld_glob I G.gl hm ?_ G.nd);refine PySem.W.callWith_K (h₀:=X.base) I.ok.mod.kin hk (thn (uf pos pins s I) λus s1 ⟨vs,H1,bY,b6,ay,au,M1,ss,m1,r1,aD⟩=>⟨bY.kIn,?_⟩) he hpl;have sp:gy X.K n F vs H1 Q (WE W σ):=⟨ay,au,M1,ss,m1,r1,hl aD,wp_mono (λr hr=>by
    cases r with
    |ok z M2=>exact hr
    |ex c fs M2=>exact hr) aD⟩
  have hlen:us.length=ps.length:=by rw[<-b6.length];exact c_.len _ _ _ _ sp
  refine wpAny_call (codeAny_mono (c_.run X.A X.stack s1 H1 ⟨us,[]⟩ us vs Q (WE W σ) hr bY.env0 (by
    have:=hb s1 us bY.kIn (by simpa using hlen);simpa using this) b6 sp) λr aF hq=>?_)
  cases r with
  |error e=>exact passAt tk σ pins H1 s1 e aF bY hq
  |ok gG=>
    cases gG with
    |ret w=>exact bY.after hq
    |next=>exact False.elim hq
    |brk=>exact False.elim hq
    |cont=>exact False.elim hq⟩
theorem aoM {X:Cx}{a:Addr}{pn:List (Addr×Obj)}:Takes (X.suite a pn) (λ_ _ _ _=>False):=λu aF x=>by
 obtain⟨_,_,_,_,_,_,_,_,_,_,_,_,_,_,_,_,z⟩:=x;exact z.elim
def qa (ρ:List af):List Nat->Option (List af)
 |[]=>some []
 |j::r=>match ρ[j]? with
  |some .un=>none
  |some s=>(qa ρ r).map (s::·)
  |none=>none
abbrev r9:Type:=Nat->Option (List Nat)
def wL (eO:r9)(ρ:List af)(i:Nat)(M:List ak):Option (R.D×List ak):=match eO i with
 |some dM=>match qa ρ dM with
  |some ss=>match gW M ss with
   |some (ds,M1)=>if jJ ds then some (.fF i ds,M1)else none
   |none=>none
  |none=>none
 |none=>none
def t6 (eO:r9)(ρ:List af):List R.D->List ak->Option (List R.D×List ak)
 |[],M=>some ([],M)
 | .lam i::r,M=>match wL eO ρ i M with
  |some (d,M1)=>(t6 eO ρ r M1).map λp=>(d::p.1,p.2)
  |none=>none
 |_::_,_=>none
def clo (eO:r9)(ρ:List af)(M:List ak):R.D->Option (R.D×List ak)
 | .lam i=>wL eO ρ i M
 | .lst xs=>(t6 eO ρ xs M).map λp=>(.lst p.1,p.2)
 |_=>none
structure IL (X:Cx)(i:Nat)(dM:List Nat):Prop where
 S:LamS (aT.txt i)
 cl:aT.cells=X.env.cells
 at_:∀(k:Nat) y,(aT.txt i).fr[k]?=some y->∃j,dM[k]?=some j/\X.N[j]?=some y/\(X.env.scope.names.lookup y=some .cell\/X.env.scope.names.lookup y=some .free)
 len:dM.length=(aT.txt i).fr.length
def lZ (X:Cx)(h:Heap):iG:=X.env.cells.filterMap λp=>if X.env.cells.lookup p.1=some p.2 then(h.get? p.2).map λo=>(p.2,o)else none
section
variable{X:Cx}{W:WX}{pins:List (Addr×Obj)}{σ:L2.St}{ρ:List af}{H G:Hp}{s:Shared}{aa:List Addr}{M M1:List ak}{eO:r9}
theorem U0 (en:cz X.K aa G σ ρ):∀{dM:List Nat} {ss:List af},qa ρ dM=some ss->∃vs:List V,bM X.K aa G vs ss/\vs.length=dM.length/\∀(k j:Nat),dM[k]?=some j->∃v,vs[k]?=some v/\σ[j]?=some (some v)
 |[],ss,h=>by cases h;exact⟨[],.nil,rfl,λk j e=>by simp at e⟩
 |j::r,ss,h=>by
  unfold qa at h;split at h
  ·cases h
  ·rename_i t hu ht
   cases hr:qa ρ r with
   |none=>rw[hr]at h;cases h
   |some tt=>
    rw[hr]at h;cases h
    obtain⟨vs,r1,r2,r3⟩:=U0 en hr;rcases en.at_ j t ht with z|⟨v,e1,e2⟩
    ·exact absurd z hu
    ·refine⟨v::vs,.cons e2 r1,by simp[r2],λk i e=>?_⟩
     cases k with
     |zero=>simp at e;subst e;exact⟨v,rfl,e1⟩
     |succ k=>simp at e;simpa using r3 k i e
  ·cases h
theorem ado (I:Inv X pins σ H s){x:Str}{c:Addr}(h:X.env.cells.lookup x=some c):∃o,s.heap.get? c=some o/\(lZ X s.heap).lookup c=some o:=by
 obtain⟨v,o,ho,_⟩:=I.cell x c h;refine⟨o,ho,?_⟩;have m:(c,o)∈lZ X s.heap:=by
  unfold lZ;rw[List.mem_filterMap];exact⟨(x,c),PySem.mem_of_lookup h,by simp[ho,h]⟩
 cases z:(lZ X s.heap).lookup c with
 |none=>
  rw[List.lookup_eq_none_iff]at z;have:=z _ m;simp at this
 |some cQ=>
  have m2:=GG z;unfold lZ at m2;rw[List.mem_filterMap]at m2;obtain⟨q,_,e⟩:=m2;split at e
  case isFalse=>cases e
  cases g:s.heap.get? q.2 with
  |none=>rw[g]at e;cases e
  |some s_=>
   rw[g]at e;cases e
   rw[ho]at g;exact g▸rfl
theorem adp {h:Heap}{b:Addr}{o:Obj}(z:(lZ X h).lookup b=some o):∃x,X.env.cells.lookup x=some b/\h.get? b=some o:=by
 have m:=GG z;unfold lZ at m;rw[List.mem_filterMap]at m;obtain⟨q,_,e⟩:=m;split at e
 ·rename_i hq
  cases g:h.get? q.2 with
  |none=>rw[g]at e;cases e
  |some s_=>rw[g]at e;cases e;exact⟨q.1,hq,g⟩
 ·cases e
theorem adq (I:Inv X pins σ H s)(oZ:∀x c,X.env.cells.lookup x=some c->X.fn x=true):DM (lZ X s.heap) X.base (frs X.stack) s.heap H:=⟨λb o z=>by
 obtain⟨x,hx,hg⟩:=adp z;have ge:=I.ok.cab x b (oZ x b hx) hx;refine⟨hg,I.freeC x b hx,λhm=>?_,?_⟩
 ·rcases List.mem_cons.mp (I.stkSub _ hm)with e|e
  ·exact I.cne x b hx e
  ·obtain⟨_,cQ,g9,_⟩:=I.ok.funs.mem e
   exact absurd (Nat.lt_of_lt_of_le (Heap.lt_size g9) ge) (Nat.lt_irrefl _)
 ·cases q:X.base.get? b with
  |none=>rfl
  |some cQ=>exact absurd (Nat.lt_of_lt_of_le (Heap.lt_size q) (Nat.le_trans I.ok.bsz ge)) (Nat.lt_irrefl _)⟩
theorem EB {T:fE}(S:LamS T)(hh:∀y∈T.scope.names,y.2=.free->∃c,X.env.cells.lookup y.1=some c){y:Str}{c:Addr}(e:(cloFrom X.env.cells T.scope.names []).lookup y=some c):y∈T.fr/\X.env.cells.lookup y=some c:=by
 rcases cloFrom_mem (PySem.mem_of_lookup e)with hm|⟨h1,h2⟩
 ·cases hm
 ·obtain⟨c1,h3⟩:=hh _ h1 rfl
  have h3:X.env.cells.lookup y=some c1:=h3;rw[h3]at h2;exact⟨S.mem _ h1 rfl,by rw[h3,h2];rfl⟩
theorem clo_has {T:fE}(S:LamS T)(hh:∀y∈T.scope.names,y.2=.free->∃c,X.env.cells.lookup y.1=some c){y:Str}(hy:y∈T.fr):∃c,(cloFrom X.env.cells T.scope.names []).lookup y=some c:=by
 have hm:(y,NameKind.free)∈T.scope.names:=PySem.mem_of_lookup (S.eO y hy);exact mem_lookup (cloFrom_has (cells:=X.env.cells) (acc:=[]) hm)
theorem adn {i:Nat}{dM:List Nat}{vs:List V}(C:IL X i dM)(I:Inv X pins σ H s)(hl:∀b o,(lZ X s.heap).lookup b=some o->H b=none)(hv:vs.length=dM.length)(LU:∀(k j:Nat),dM[k]?=some j->∃v,vs[k]?=some v/\σ[j]?=some (some v)):
    tT (d8 (lZ X s.heap) G) (aT.txt i) (cloFrom aT.cells (aT.txt i).scope.names []) vs:=by
  have S:=C.S;have fr:∀y∈(aT.txt i).fr,∃c,X.env.cells.lookup y=some c:=λy hy=>by
    obtain⟨k,hk⟩:=List.getElem?_of_mem hy;obtain⟨j,_,_,h3⟩:=C.at_ k y hk;exact I.ok.has y h3
  have hh:∀y∈(aT.txt i).scope.names,y.2=.free->∃c,X.env.cells.lookup y.1=some c:=λy hy e=>fr _ (S.mem y hy e)
  rw[C.cl];refine⟨by rw[hv,C.len],λx y c e1 e2=>I.ok.inj x y c (EB S hh e1).2 (EB S hh e2).2,λy c e=>(EB S hh e).1,λk y v hk agG=>?_⟩;obtain⟨j,h1,h2,h3⟩:=C.at_ k y hk;obtain⟨Af,h4,di⟩:=LU k j h1;rw[agG]at h4;cases h4
  obtain⟨c,hc⟩:=clo_has S hh (List.mem_of_getElem? hk);have hc2:=(EB S hh hc).2;obtain⟨m,_,lk⟩:=I.loc;obtain⟨u,lP,lo⟩:=lk j y v h2 di (h3.elim (λz=>.inr (.inl z)) λz=>.inr (.inr z));obtain⟨o,ho,hL⟩:=ado I hc2;refine⟨c,o,u,hc,o5 hL,?_,lP⟩;rcases lo with⟨z,_⟩|⟨_,c',g9,cQ,B5,hd⟩
  · have z:X.env.scope.names.lookup y=some .local:=z
    rcases h3 with q|q<;>rw[q]at z<;>cases z
  · rw[hc2]at g9
    cases g9
    rw[ho]at B5;cases B5
    exact hd
end
section
variable{X:Cx}{W:WX}{pins:List (Addr×Obj)}{σ:L2.St}{ρ:List af}{H G au aV:Hp}{s:Shared}{aa:List Addr}{M M1:List ak}{eO:r9}{L:iG}
theorem aiV (e:cG au aV):cG (d8 L au) (d8 L aV):=λa o h=>by
 cases z:L.lookup a with
 |none=>rw[eu z]at h⊢;exact e a o h
 |some cQ=>rw[o5 z]at h⊢;exact h
def Ao (X:Cx)(eO:r9):Prop:=∀i dM,eO i=some dM->IL X i dM
theorem Tp (T:Ao X eO)(I:Inv X pins σ H s)(hl:∀b o,(lZ X s.heap).lookup b=some o->H b=none)(ms:aK X.K aa G M H)(en:cz X.K aa G σ ρ){i:Nat}{v:V}{d:R.D}(r:cg X.K G v (.lam i))(h:wL eO ρ i M=some (d,M1)):
    ∃aj,aK X.K aa aj M1 H/\aJ aa G H aa aj H/\cg X.K (d8 (lZ X s.heap) aj) v d:=by
  unfold wL at h;split at h
  · rename_i dM hj
    split at h
    · rename_i ss hs
      split at h
      · rename_i ds M2 hf
        split at h
        · cases h
          obtain⟨vs,r1,r2,r3⟩:=U0 en hs;obtain⟨aj,m',eg,cW⟩:=BJ ms r1 hf;cases r with
          |lam nC=>
            have ex:=wV hl m'.le;exact⟨aj,m',eg,cg.fF (nC.mono (eg.ex.trans ex)) (adn (T i dM hj) I hl r2 r3) (b8.mono ex cW)⟩
        · cases h
      · cases h
    · cases h
  · cases h
theorem Tq (T:Ao X eO)(I:Inv X pins σ H s)(hl:∀b o,(lZ X s.heap).lookup b=some o->H b=none):∀{xs:List R.D} {vs:List V} {G:Hp} {M:List ak} {ds:List R.D} {M1:List ak},aK X.K aa G M H->cz X.K aa G σ ρ->b8 X.K G vs xs->t6 eO ρ xs M=some (ds,M1)->
    ∃aj,aK X.K aa aj M1 H/\aJ aa G H aa aj H/\b8 X.K (d8 (lZ X s.heap) aj) vs ds
  |[],_,G,M,ds,M1,ms,en,r,h=>by
    cases r
    unfold t6 at h;cases h
    exact⟨G,ms,aJ.refl _ _ _,.nil⟩
  |d::xs,_,G,M,ds,M1,ms,en,.cons r cW,h=>by
    cases d with
    |lam i=>
      unfold t6 at h;split at h
      · rename_i f_ M2 h1
        obtain⟨aj,m',eg,gx⟩:=Tp T I hl ms en r h1;cases hx:t6 eO ρ xs M2 with
        |none=>rw[hx]at h;cases h
        |some p=>
          rw[hx]at h;cases h
          obtain⟨aV,m2,g2,r2⟩:=Tq T I hl m' (en.grow eg) (b8.mono eg.ex cW) hx;exact⟨aV,m2,eg.trans g2,.cons (gx.mono (aiV g2.ex)) r2⟩
      · cases h
    |_=>unfold t6 at h;cases h
theorem adD (T:Ao X eO)(I:Inv X pins σ H s)(hl:∀b o,(lZ X s.heap).lookup b=some o->H b=none)(ms:aK X.K aa G M H)(en:cz X.K aa G σ ρ){v:V}{d f_:R.D}(r:cg X.K G v d)(h:clo eO ρ M d=some (f_,M1)):
    ∃aj,aK X.K aa aj M1 H/\aJ aa G H aa aj H/\cg X.K (d8 (lZ X s.heap) aj) v f_:=by
  cases d with
  |lam i=>exact Tp T I hl ms en r h
  |lst xs=>
    have h:(t6 eO ρ xs M).map (λp=>(R.D.lst p.1,p.2))=some (f_,M1):=h;cases hx:t6 eO ρ xs M with
    |none=>rw[hx]at h;cases h
    |some p=>
      rw[hx]at h;cases h
      cases r with
      |lst ha cW=>
        obtain⟨aj,m',eg,gx⟩:=Tq T I hl ms en cW hx;exact⟨aj,m',eg,.lst (wV hl m'.le _ _ (eg.ex _ _ ha)) gx⟩
  |_=>cases h
def Bf (eO:r9)(ρ:List af)(F:aM)(s:af):Ev af:=λM=>match iJ M s with
 |some (d,M1)=>match clo eO ρ M1 d with
  |some (f_,M2)=>(F [.dat f_] M2).bind yJ
  |none=>.bad
 |none=>.bad
def ER (eO:r9)(F:aM)(aE:CE):CE:=λρ=>(aE ρ).bind (Bf eO ρ F)
theorem ane {x:Str}{F:aM}{k:Nat}{p pos:Pos}{e:Expr}{aE:CE}(C:iU X.iR k x 1 F)(T:Ao X eO)(oZ:∀x c,X.env.cells.lookup x=some c->X.fn x=true)(hr:Room k X.A)(uQ:eK X x)(h1:bf X W e aE)
    (he:starEach [e] X.env=(false,eval e X.env)::starEach [] X.env:=by rfl):bf X W (.Call (.Name x p) [e] [] pos) (ER eO F aE):=⟨λρ M aa sf σ H Q ms en h=>by
  intro pins s I;obtain⟨f,fd,ps,c_,hm,hk,hb⟩:=C.ex;have hw:wE X e σ H λv H1=>∃ay au M1 d f_ M2,cz X.K ay au σ ρ/\aK X.K ay au M1 H1/\cg X.K au v d/\clo eO ρ M1 d=some (f_,M2)/\wp ((F [.dat f_] M2).bind yJ) (dB X W (bF X.K) Q σ ay au H1):=
    h1.seq ms en h λay au M1 H1 v s1 g1 m1 r1 aD=>by
      unfold Bf at aD;split at aD
      · rename_i d M2 hf
        obtain⟨aV,m2,g2,r2⟩:=wZ m1 r1 hf;split at aD
        · rename_i f_ ck hc
          exact⟨ay,aV,M2,d,f_,ck,(en.grow g1).grow g2,m2,r2,hc,wp_mono (λ_=>dB.shift g2) aD⟩
        · exact aD.elim
      · exact aD.elim
  refine wpAny_Call_Name_kw (ld_glob I uQ.gl hm ?_ uQ.nd);refine PySem.W.callWith_K (h₀:=X.base) I.ok.mod.kin hk ?_ he (by rfl);rw[he];refine Calls.spliced_cons (thn (hw pins s I) λu s1 ⟨v,H1,bY,b6,ay,au,M1,d,f_,M2,BA,m1,r1,hc,aD⟩=>?_);refine Calls.spliced_nil ⟨bY.kIn,?_⟩;have l:=adq bY oZ;have hl:∀b o,(lZ X s1.heap).lookup b=some o->H1 b=none:=λb o z=>(l.at_ b o z).2.1
  obtain⟨aV,m2,g2,r2⟩:=adD T bY hl m1 BA r1 hc;refine acS (us:=[u]) (vs:=[v]) (ss:=[.dat f_]) c_ hb hr rfl bY l (.cons b6 .nil) m2 (.cons r2 .nil) rfl (wp_bind.mpr (wp_mono (λr hr=>?_) (wp_bind.mp aD)));cases r with
  |ex c fs ck=>exact(show False from hr).elim
  |ok z ck=>
    have hr:wp (if jq z&&ck.all iA then .ret (.ok z ck)else .bad) (dB X W (bF X.K) Q σ ay au H1):=hr;show wp (if jq z&&ck.all iA then .ret (.ok z ck)else .bad) (kq X.K Q (λ_ _ _=>False) ay aV H1)
    split at hr
    · rename_i hh
      rw[if_pos hh];exactλaq aj H' v g m r=>hr aq aj H' v (g2.trans g) m r
    · exact hr.elim⟩
end
end R
namespace R
open PySem PySem.Spec PyProof.Rows L2
@[reducible]def aT.at (c7:aT)(cl:List (Str×Addr)):aT:={c7 with cells:=cl}
section
variable{P:Program}{w:World}{K:Frag}{mg:Str->Option Value}{base:Heap}{x qual:Str}{eo:Stmt}{f:Addr}{fd:FuncData}{N ps:List Str}{k:Nat}
theorem acN [aT](m:Bool){cdv:Value}{A:Around}{outer:List Env}{s:Shared}{H:Hp}{vs:List V}{Q:VK}{E:XK}{sc:Scope}{bd:List Stmt}{oU:aN}(b:SB (dG P w K mg base N qual sc f cdv A outer s H E) (λcls d _ H=>E cls d H) bd oU)
    (h:gy K ps.length (aR m ps.length N.length oU) vs H Q E):Dh (dG P w K mg base N qual sc f cdv A outer s H E) bd {nx:=λ_ H'=>Q .non H',rt:=Q} (L2.start N vs) H:=by
  obtain⟨aa,G,M,ss,ms,r,e,h⟩:=h;have en:=BB (K:=K) (aa:=aa) (G:=G) (N:=N) r;rw[e]at en;unfold aR at h;rw[if_pos e]at h;refine b.run _ M aa G (L2.start N vs) H {nx:=λ_ H'=>Q .non H',rt:=Q} ms en (wp_mono (λr hr=>?_) (wp_bind.mp h));cases r with
  |ex c fs M1=>
    intro aZ aq aj H' d bU g1 m1 e1 r1;rw[show M.length=aa.length from ms.len.symm]at hr;exact oQ ms g1 m1 λaU g2 m2 _=>hr aU aj H' d bU g2 m2 e1 r1
  |ok a M1=>
    cases a with
    |nx aY=>
      intro aq aj H' aZ g1 m1 _;have hr:kq K Q E aa G H (.ok (.dat .non) (cut M.length M1)):=hr;rw[show M.length=aa.length from ms.len.symm]at hr;exact oQ ms g1 m1 λaU g2 m2 _=>hr aU aj H' .non g2 m2 xR
    |rt s1=>exactλaq aj H' v g1 m1 r1=>Ey ms g1 m1 r1 hr
    |bk aY=>exact(show False from hr).elim
    |ct aY=>exact(show False from hr).elim
theorem anY [aT]{K:Frag}{np:Nat}{F:aM}{vs:List V}{H:Hp}{Q:VK}{E:XK}(h:gy K np F vs H Q E):vs.length=np:=by
 obtain⟨aa,G,M,ss,_,r,e,_⟩:=h;rw[r.length,e]
def z8 (c7:aT)(K:Frag)(np:Nat)(F:aM):Sp:=λvs H Q E=>∀cl,@gy (c7.at cl) K np F vs H Q E
end
def xK (P:Addr)(H:Hp):Hp:=λb=>if b=P then none else H b
theorem aid (c7:aT){K:Frag}{F:aM}{ns:List Int}{H:Hp}{a:Addr}(hT:H (c7.tab 0)=some (.tbl #[]))(hS:SqL K H a (ns.map V.int))(h:wp (F [.dat (.fC ns)] [.tab 0]) λr=>∃M,r=.ok (.dat (.bl true)) M):z8 c7 K 1 F [.ref a] H (λv _=>v=.bl true) λ_ _ _=>False:=λcl=>by
 letI:aT:=c7.at cl
 have rd:∀{u:HO},Rd H a u->(∀ps,u≠.tbl ps)->Rd (xK (c7.tab 0) H) a u:=λ{u} q n=>by
  have key:∀{o:HO},H a=some o->(∀ps,o≠.tbl ps)->xK (c7.tab 0) H a=some o:=λ{o} e n=>by
   unfold xK;rw[if_neg (λz=>by rw[z,hT]at e;exact n _ (Option.some.inj e).symm)];exact e
  rcases q with q|⟨o,q⟩
  ·exact .inl (key q n)
  ·exact .inr ⟨o,key q λps z=>by cases z⟩
 have afn:SqL K (xK (c7.tab 0) H) a (ns.map V.int):=by
  rcases hS with q|q
  ·exact .inl (rd q λps z=>by cases z)
  ·exact .inr q
 refine⟨[c7.tab 0],xK (c7.tab 0) H,[.tab 0],[.dat (.fC ns)],⟨λb u e=>?_,rfl,by simp,λj b m e1 e2=>?_,λb hb=>?_⟩,.cons (@cg.fC (c7.at cl) _ _ _ _ afn) .nil,rfl,wp_mono (λr hr=>?_) h⟩
 ·unfold xK at e
  split at e
  ·cases e
  ·exact .inl e
 ·cases j with
  |succ j=>simp at e1
  |zero=>
   simp at e1 e2;subst e1 e2;refine⟨λ_=>by unfold xK;rw[if_pos rfl],rfl,#[],hT,True.intro,λpos jD hc=>?_⟩;have z:codeAmong pos []=some jD:=hc;simp[codeAmong]at z
 ·have:b=c7.tab 0:=by simpa using hb
  rw[this,hT];simp
 ·obtain⟨M,rfl⟩:=hr
  exactλaq aj H' v g m r=>@oz (c7.at cl) _ _ _ _ _ r
theorem apn {l:PySem.W.OpenLaw}{n k:Nat}{q:Program}{loose:List Str}{acy:(Str->Option Value)->Heap->Prop}{Sq:World->Heap->Prop}{d:DefRec}{x:Str}
    (hn:l.most=some n) (j7:n<=sizeLine) (afR:d.params.defaults=[]) (hr:Room k callerA) (Mm:((recsOf q).any λe=>e.name==d.name)=true)
    (F:∀(w:World) (mg:Str->Option Value) (aE:Addr) (h:Heap),Sq w h->h.Ns mainGlobals mg->mg d.name=some (.ref aE)->
      ∃(K:Frag) (fd:FuncData) (c P:Addr) (oc:Value) (od:Option Addr) (gi:Array (Option Value)) (dY:Value) (cd:Option Addr) (vs:Array Value) (cs:Array (Option Value)) (sp:Sp),K.In h/\K.lookup aE=some ⟨oc,od,.func fd,gi⟩/\fd.code=.ref c/\K.lookup c=some ⟨dY,cd,.fields vs,cs⟩/\vs[11]?=some (.ref P)/\K.lookup P=none/\
        (∀(s:Shared) (u:Value),BindsTo s fd ⟨[u],[]⟩ [(x,u)])/\
        (∀(H:Hp) (a:Addr) (ns:List Int),ns.length<=n->H P=some (.tbl #[])->SqL K H a (ns.map V.int)->sp [.ref a] H (λv _=>v=.bl true) λ_ _ _=>False)/\
        ∀base:Heap,K.In base->base.Ns mainGlobals mg->LamX.TabB base mg c P->FnOk l.prog w K mg base (L2.CX l.prog w) k aE fd [x] sp):
    PySem.W.WalkO q loose acy Sq l.row.toRowW d [] (λf vs=>PySem.call f vs):=by
  refine Att.attach_callB hn afR λw dS pC mg Cs aE o pm cd doc a vs ns G Y ho hd hcd hmg agt hints hlen arZ hg=>?_
  obtain⟨K,fd,c,P,oc,od,gi,dY,qM,arj,qL,sp,KX,lk,hc,NH,hP,ajR,hb,zj,hF⟩:=F w mg aE _ Y G.T.g hmg;obtain⟨dL,hm,hn1⟩:=List.any_eq_true.mp Mm;obtain⟨a1,o1,arC,c1,wg,h1,h2,h3,h4,di,iy⟩:=G.T.tab dL hm;rw[beq_iff_eq.mp hn1,hmg]at h1;cases h1
  rw[KX _ _ lk]at h2;cases h2
  cases h3
  rw[hc]at h4;cases h4
  have hd:=PySem.W.CodeHd.of di iy;obtain⟨⟨ox,gz,e1,_,e3,e4⟩,hT⟩:=iy;rw[KX _ _ NH]at e1;cases e1
  cases e3
  rw[hP]at e4;cases e4
  exact LamX.law_callTs (cs:=[(c,P)]) KX G.T.g G.T.b G.T.builtins G.T.nolimit hg (λp hp=>by rw[List.mem_singleton.mp hp];exact hT) (λp hp=>by rw[List.mem_singleton.mp hp];exact ajR) (λp hp=>by rw[List.mem_singleton.mp hp];exact hd) G.T.bmain agt hints (Nat.le_trans hlen j7) hr
    (λbase h1 h2 h3=>hF base h1 h2 (h3 _ (.head _))) hb (λH hH hS=>zj H a ns hlen (hH _ (.head _)) hS) λH e aF h=>by
      obtain⟨_,_,_,_,_,_,_,_,_,_,_,_,z⟩:=h;exact z.elim
def apO:Expr->List Expr
 | .BoolOp _ vs _=>vs
 | .BinOp a _ b _=>[a,b]
 | .UnaryOp _ a _=>[a]
 | .IfExp t a b _=>[t,a,b]
 | .Compare a _ bs _=>a::bs
 | .Call f as _ _=>f::as
 | .Attribute a _ _=>[a]
 | .Subscript a b _=>[a,b]
 | .List es _=>es
 | .Tuple es _ _=>es
 | .Lambda _ b _ _=>[b]
 | .ListComp e _ _ _=>[e]
 |_=>[]
def alP:Stmt->List Expr
 | .Return (some e) _=>[e]
 | .Assign _ e _=>[e]
 | .If t _ _ _=>[t]
 | .For _ i _ _ _=>[i]
 | .While t _ _ _=>[t]
 | .Expr e _=>[e]
 |_=>[]
def alV:Stmt->List Stmt
 | .If _ a b _=>a++b
 | .For _ _ a b _=>a++b
 | .While _ a b _=>a++b
 |_=>[]
def G2:Expr:=.Constant .none 0 ⟨0,0,0,0⟩
def aaO:List Nat->Expr->Expr
 |[],e=>e
 |i::r,e=>aaO r ((apO e).getD i G2)
def ZR:List Nat->List Stmt->Stmt
 |[],_=>.Pass ⟨0,0,0,0⟩
 |[i],l=>l.getD i (.Pass ⟨0,0,0,0⟩)
 |i::r,l=>ZR r (alV (l.getD i (.Pass ⟨0,0,0,0⟩)))
def ahY (q:Str)(fr pn loc:List Str)(b:List Stmt)(fH cI:List Nat):fE:=match aaO cI ((alP (ZR fH b)).getD 0 G2)with
 | .Lambda a e s _=>⟨q,a,e,s,fr,!pn.isEmpty,pn,loc⟩
 |_=>⟨q,⟨[],[],none,[],[],none,[]⟩,G2,default,fr,!pn.isEmpty,pn,loc⟩
theorem aeq {K:Frag}{C:Addr}(h:Li K C=true):∃nm q N bs bm sn sub tZ col dd k0 k1 k2 k3 k5,K.lookup C=some (excClassObj nm q C N bs bm true sn sub tZ col dd k0 k1 k2 k3 k5 "ValueError.__new__")/\PySem.HandSPX.refsVE bm=true:=by
 unfold Li at h;split at h
 ·rename_i cls dd cd sl e
  obtain⟨nm,bs,mro,N,q,hd,sn,sub,tZ,col,as2⟩:=cd;simp only[Bool.and_eq_true,decide_eq_true_eq,Bool.not_eq_true']at h;obtain⟨h1,h2,h3,h4,di⟩:=h;subst h1 h3 h4;split at h2
  ·rename_i c bm
   simp only[Bool.and_eq_true,beq_iff_eq]at h2;obtain⟨rfl,h2⟩:=h2;split at di
   ·rename_i k0 k1 k2 k3 s4 k5 d_
    have di:=of_decide_eq_true di;subst di;have qS:sl=#[k0,k1,k2,k3,some (.builtin "ValueError.__new__"),k5]:=Array.ext' d_;subst qS;exact⟨nm,q,N,bs,bm,sn,sub,tZ,col,dd,k0,k1,k2,k3,k5,e,h2⟩
   ·cases di
  ·cases h2
 ·cases h
theorem YM {K:Frag}{C:Addr}(h:Oo K C=true):OexC K C:=by
 unfold Oo at h;simp only[Bool.and_eq_true,decide_eq_true_eq]at h;obtain⟨h1,h2,h3,h4,di⟩:=h;exact⟨aeq h1,h2,h3,h4,di⟩
theorem ads {K:Frag}{cd:Value}{yZ:Str}(h:KI K cd yZ=true):∃c sE qM vs qL file tf,cd=.ref c/\K.lookup c=some ⟨sE,qM,.fields vs,qL⟩/\vs[2]?=some (.str file tf)/\(yZ==file)=true:=by
 unfold KI at h;split at h
 ·rename_i c
  split at h
  ·rename_i sE qM vs qL e
   split at h
   ·rename_i v0 v1 f tf r e2
    refine⟨c,sE,qM,vs,qL,f,tf,rfl,e,?_,h⟩;rw[<-Array.getElem?_toList,e2];rfl
   ·cases h
  ·cases h
 ·cases h
theorem ad3 {K:Frag}{cl:List (Str×Addr)}{C:Addr}(h:KH K cl C=true)(hn:cl.map (·.1)=[("__class__":Str)]):∃dY c1 c2 c3,cl=[(("__class__":Str),dY)]/\K.lookup dY=some ⟨c1,c2,.cell (some (.ref C)),c3⟩:=by
 unfold KH at h;split at h
 ·rename_i n dY
  split at h
  ·rename_i c1 c2 c c3 e
   have h:=beq_iff_eq.mp h;subst h;have hn:[n]=[("__class__":Str)]:=hn;cases hn
   exact⟨dY,c1,c2,c3,rfl,e⟩
  ·cases h
 ·cases h
theorem gB.fun {K:Frag}{d:gB}(e:fnX K (mA d.x "__init__" K)=d.val)(c:d.ok K=true):∃(fd:FuncData) (oc:Value) (od:Option Addr) (gi:Array (Option Value)) (doc pm:Value) (an:Option Addr) (ct:Value) (iY dY:Addr),
    fd=PySem.W.ksFn "__init__" d.qual (defArgs d.st) (defBody d.st) (defScope d.st) .none .none doc pm an (.ref iY) ct dY/\K.lookup (mA d.x "__init__" K)=some ⟨oc,od,.func fd,gi⟩/\PySem.W.codeIn K (.ref iY) d.qual=true/\
    (∃(sE:Value) (qM:Option Addr) (vs:Array Value) (qL:Array (Option Value)) (file:Str) (tf:Tok),K.lookup iY=some ⟨sE,qM,.fields vs,qL⟩/\vs[2]?=some (.str file tf)/\(d.file==file)=true)/\
    ∃(cl:Value) (Ex:Option Addr) (EI:Array (Option Value)),K.lookup dY=some ⟨cl,Ex,.cell (some (.ref (bx K d.x))),EI⟩:=by
  unfold fnX at e;unfold gB.ok at c;cases q:K.lookup (mA d.x "__init__" K)with
  |none=>rw[q]at c;cases c
  |some o=>
    obtain⟨oc,od,La,gi⟩:=o;rw[q]at c e;cases La with
    |func fd=>
      simp only[Bool.and_eq_true]at c;obtain⟨c1,c2,c3⟩:=c;obtain⟨n1,n2,n3,uu,N6,N7,uv,N8,n9,NZ,N1,N3,Yb,Yc,N4⟩:=fd;have e2:(some (n1,n2,n3,uu,N6,N7,uv.map (·.1),n9,N4,N8):DC)=d.val:=e;unfold gB.val at e2;simp only[Option.some.injEq,Prod.mk.injEq]at e2;obtain⟨h1,h2,h3,h4,di,iy,h7,iK,h9,w7⟩:=e2;obtain⟨ca,sE,qM,vs,qL,file,tf,rfl,q2,q3,pe⟩:=ads c2;obtain⟨dY,d1,d2,d3,rfl,zX⟩:=ad3 c3 h7;subst h1 h2 h3 h4 di iy iK h9 w7;exact⟨_,oc,od,gi,NZ,N1,N3,_,ca,dY,rfl,rfl,c1,⟨sE,qM,vs,qL,file,tf,q2,q3,pe⟩,d1,d2,d3,zX⟩
    |_=>cases c
def SaysE (cK:List Fk)(fn:List fT)(en:List gB)(K:Frag):Prop:=obsE cK fn en K=valE fn en
theorem SaysE.r {cK:List Fk}{fn:List fT}{en:List gB}{K:Frag}(c:SaysE cK fn en K):wj cK fn K:=by
 have c1:=(He.ba (show(((cK.all λf=>f K)&&fn.all λd=>d.ok K)&&en.all λd=>d.ok K)=true from congrArg (λz:tS=>z.1) c)).1;have c2:fn.map (λd=>wX K (d.ad K))=fn.map fT.val:=congrArg (λz:tS=>z.2.1) c;unfold wj YL aax;rw[c1,c2]
theorem SaysE.gU {cK:List Fk}{fn:List fT}{en:List gB}{K:Frag}(c:SaysE cK fn en K)(i:Nat){d:gB}(h:en[i]?=some d:=by rfl):fnX K (mA d.x "__init__" K)=d.val/\d.ok K=true:=by
 have c1:=(He.ba (show(((cK.all λf=>f K)&&fn.all λd=>d.ok K)&&en.all λd=>d.ok K)=true from congrArg (λz:tS=>z.1) c)).2;have c2:en.map (λd=>fnX K (mA d.x "__init__" K))=en.map gB.val:=congrArg (λz:tS=>z.2.2) c;have e2:(en.map λd=>fnX K (mA d.x "__init__" K))[i]?=(en.map gB.val)[i]?:=by rw[c2]
 rw[List.getElem?_map,List.getElem?_map,h]at e2;exact⟨Option.some.inj e2,List.all_eq_true.mp c1 d (List.mem_of_getElem? h)⟩
end R
namespace R
open PySem PySem.Spec PyProof.Rows L2
variable[aT]
def aeo:List Stmt->List Pos×Nat
 |[.Expr (.Call (.Attribute (.Call (.Name _ p0) [] [] fH) _ cI) [.Name _ gJ] [] rE) mS,.Assign [.Attribute (.Name _ ux) _ nK] (.Constant _ j nM) p9,.Assign [.Attribute (.Name _ akG) _ akH] (.Name _ akI) akJ]=>([p0,fH,cI,gJ,rE,mS,ux,nK,nM,p9,akG,akH,akI,akJ],j)
 |_=>([],0)
def E5 (b:List Stmt)(i:Nat):Pos:=(aeo b).1.getD i ⟨0,0,0,0⟩
structure Ar (st:Stmt)(code fld:Str)(j:Nat):Prop where
 body:defBody st=wU code fld (E5 (defBody st)) j
 hp:((defArgs st).posonlyargs++(defArgs st).args).head?.map (·.arg)=some "self"
 hpos:((E5 (defBody st) 2).endLine==(E5 (defBody st) 4).line)=true
 kind:(defScope st).kind=.function
 co:(defScope st).isCoroutine=false
 gen:(defScope st).isGenerator=false
 nocell:∀x∈(defScope st).names,x.2≠.cell
 n1:(defScope st).names.lookup ("super":Str)=some .globalImplicit
 n2:(defScope st).names.lookup ("__class__":Str)=some .free
 n3:(defScope st).names.lookup ("self":Str)=some .local
 uu:(defScope st).names.lookup (fld:Str)=some .local
 ne:fld≠"code"
 ne2:fld≠"self"
 EM:(fld==("__debug__":Str))=false
theorem HC {P:Program}{w:World}{K:Frag}{mg:Str->Option Value}{base:Heap}{x code fld:Str}{c j:Nat}{d:gB}(h:zq x fld K=true)(e:fnX K (mA d.x "__init__" K)=d.val/\d.ok K=true)(hd:d.x=x)(hf:d.file=P.main.file)(hs:(P.main.scope.names.lookup ("super":Str)).isSome=false)
    (T:Ar d.st code fld j) (hb:∀(doc pm:Value) (an:Option Addr) (cdv ct:Value) (dY:Addr) (us:List Value),us.length=2->bindArgs (PySem.W.ksFn "__init__" d.qual (defArgs d.st) (defBody d.st) (defScope d.st) .none .none doc pm an cdv ct dY) ⟨us,[]⟩=pure ((["self",fld]:List Str).zip us))
    (hc:Ks c=x) (hm:mg x=some (.ref (bx K x))):yv ⟨P,w,K,mg,base⟩ x c code fld:=by
  subst hd;have hC:cy K c=bx K d.x:=by unfold cy;rw[show EC.getD c Str.empty=d.x from hc]
  unfold zq at h;simp only[Bool.and_eq_true,decide_eq_true_eq]at h;obtain⟨h1,h2,h3,h4,di,iy,h7,iK,h9,w7⟩:=h;obtain⟨fd,oc,od,gi,doc,pm,an,ct,iY,dY,rfl,lk,hcd,L7,hcell⟩:=gB.fun e.1 e.2;have L3:∃cd,PySem.W.clsIn K (bx K d.x)=some cd/\PySem.W.alongIn K "__init__" ((cd.mro.dropWhile (· != .ref (bx K d.x))).drop 1)=some (some (.builtin "ValueError.__init__"))/\cd.hasDict=true/\PySem.HandSPX.refsVE cd.mro=true:=by
    split at h2
    · rename_i cd q
      simp only[Bool.and_eq_true,decide_eq_true_eq]at h2;exact⟨cd,q,h2⟩
    · cases h2
  have X:Q3 K P.main.file (bx K d.x) (mA d.x "__init__" K) "__init__" d.qual (defArgs d.st) (wU code fld (E5 (defBody d.st)) j) (defScope d.st) (PySem.W.ksFn "__init__" d.qual (defArgs d.st) (defBody d.st) (defScope d.st) .none .none doc pm an (.ref iY) ct dY):=
    ⟨YM h1,⟨oc,od,gi,.none,.none,doc,pm,an,ct,iY,dY,by rw[<-T.body],lk,hcd,by rw[<-hf];exact L7,hcell⟩,L3,h3,h4,di,iy⟩
  have acv:Q4 P K (bx K d.x) (defScope d.st) code fld:=⟨T.kind,T.co,T.gen,T.nocell,T.n1,T.n2,T.n3,T.uu,hs,h7,iK,T.ne,T.ne2,T.EM⟩;refine⟨?_,⟨mA d.x "__init__" K,_,?_,w7,?_,.all (hb doc pm an (.ref iY) ct dY)⟩,?_⟩
  · show OexC K (cy K c)
    rw[hC];exact YM h1
  · show PySem.W.findIn K (.ref (cy K c)) "__init__"=_
    rw[hC];exact h9
  · show FnOk P w K mg base (L2.CX P w) 1 _ _ ["self",fld] (P9 (cy K c) code fld)
    rw[hC];exact aep X acv T.hp T.hpos
  · show mg d.x=some (.ref (cy K c))
    rw[hC];exact hm
theorem aoG {K:Frag}{x:Str}(h:Nc x K=true):∃(oc:Value) (od:Option Addr) (fd:FuncData) (gi:Array (Option Value)) (dY:Value) (cd:Option Addr) (vs:Array Value) (cs:Array (Option Value)),K.lookup (bx K x)=some ⟨oc,od,.func fd,gi⟩/\fd.code=.ref (Ab K (bx K x))/\
    K.lookup (Ab K (bx K x))=some ⟨dY,cd,.fields vs,cs⟩/\vs[11]?=some (.ref (C7 K (bx K x)))/\K.lookup (C7 K (bx K x))=none:=by
  unfold Nc at h;simp only[Bool.and_eq_true]at h;obtain⟨h1,h2,h3⟩:=h;split at h1
  · rename_i oc od fd gi q1
    split at h2
    · rename_i dY cd vs cs q2
      exact⟨oc,od,fd,gi,dY,cd,vs,cs,q1,of_decide_eq_true h1,q2,of_decide_eq_true h2,Option.isNone_iff_eq_none.mp h3⟩
    · cases h2
  · cases h1
theorem exm_ok {K:Frag}{c:Nat}{xs:List Str}{b:Bool}(h:V9 c xs b K=true):PySem.W.exmAny K (.ref (cy K c)) (xs.map λx=>.ref (bx K x))=some b:=of_decide_eq_true h
theorem pD {K:Frag}{c:Nat}{x f:Str}(h:ny x f K=true)(hc:Ks c=x):u0 K (cy K c) f:=by
 have hC:cy K c=bx K x:=by unfold cy;rw[show EC.getD c Str.empty=x from hc]
 unfold ny at h;rw[Bool.and_eq_true,decide_eq_true_eq]at h;rw[hC];exact⟨L2.xfB_ok h.1,h.2⟩
end R
namespace R
open PySem PySem.Spec PyProof.Rows L2
structure lC (N:List Str)(sc:Scope)(X:Cx):Prop where
 N:X.N=N
 sc:X.env.scope=sc
section
variable[aT]
variable{N:List Str}{sc s0:Scope}{X:Cx}
theorem b7.q (h:b7 N sc s0 X):lC N sc X:=⟨h.N,h.sc⟩
theorem lC.v0 (h:lC N sc X):∀(l:List (Str×Nat)),(l.all λp=>Ag N sc p.1 p.2)=true->As X l
 |[],_=>trivial
 |p::r,e=>by
  rw[List.all_cons,Bool.and_eq_true]at e;refine⟨?_,h.v0 r e.2⟩;have e:=e.1;unfold Ag at e;simp only[Bool.and_eq_true,Bool.or_eq_true,decide_eq_true_eq,Bool.not_eq_true']at e;exact⟨by rw[h.N];exact e.1.1.1,by unfold Vis;rw[h.sc];exact e.1.1.2,e.1.2,e.2⟩
theorem lC.v (h:lC N sc X)(l:List (Str×Nat))(e:(l.all λp=>Ag N sc p.1 p.2)=true:=by decide+kernel):As X l:=h.v0 l e
theorem lC.kW (h:lC N sc X):∀(l:List Str),(l.all λp=>za sc p)=true->FG X l
 |[],_=>trivial
 |p::r,e=>by
  rw[List.all_cons,Bool.and_eq_true]at e;refine⟨?_,h.kW r e.2⟩;have e:=e.1;unfold za at e;simp only[Bool.and_eq_true,decide_eq_true_eq,Bool.not_eq_true']at e;exact⟨by unfold Gl Env.kindOf;rw[h.sc];exact e.1,e.2⟩
theorem lC.g (h:lC N sc X)(l:List Str)(e:(l.all λp=>za sc p)=true:=by decide+kernel):FG X l:=h.kW l e
theorem lC.yH {P:Program}{w:World}{K:Frag}{mg:Str->Option Value}{base:Heap}{qual:Str}{f:Addr}{cdv:Value}{A:Around}{outer:List Env}{s:Shared}{H:Hp}{E:XK}:lC N sc (yH P w K mg base N qual sc f cdv A outer s H E):=⟨rfl,rfl⟩
theorem aoI {P:Program}{w:World}{K:Frag}{mg:Str->Option Value}{base:Heap}{qual:Str}{f:Addr}{cdv:Value}{A:Around}{outer:List Env}{s:Shared}{H:Hp}{E:XK}:Takes (yH P w K mg base N qual sc f cdv A outer s H E) (λcls d _ H=>E cls d H):=takes_of rfl rfl rfl rfl
theorem B6 {k:Nat}{A:Around}(r:L2H.RoomH k A):A.units+65<cLine:=by have:=r.un;omega
theorem roomH_mark {k:Nat}{A:Around}{a:Option Value}(r:Room k A):L2H.RoomH k (A.mark a):=⟨r.dp,r.un⟩
theorem _root_.R.pS.tr {x:Str}{i:Nat}{pn:List (Addr×Obj)}{xe:Value->Shared->Prop}(h:pS X x i):pS (X.tr pn xe) x i:=⟨h.ix,h.Iu,h.nd,h.G0⟩
theorem _root_.R.pS.Ig {x:Str}{i:Nat}{pn:List (Addr×Obj)}{a:Addr}(h:pS X x i):pS (X.suite a pn) x i:=⟨h.ix,h.Iu,h.nd,h.G0⟩
theorem _root_.R.eK.tr {x:Str}{pn:List (Addr×Obj)}{xe:Value->Shared->Prop}(h:eK X x):eK (X.tr pn xe) x:=⟨h.gl,h.nd⟩
theorem _root_.R.eK.Ig {x:Str}{pn:List (Addr×Obj)}{a:Addr}(h:eK X x):eK (X.suite a pn) x:=⟨h.gl,h.nd⟩
structure DQ (X:Cx):Prop where
 ex:X.ex=[]
 st:X.stack=X.env::X.outer
 fr:X.env.frame=some X.env.locals
theorem DQ.dG {P:Program}{w:World}{K:Frag}{mg:Str->Option Value}{base:Heap}{qual:Str}{f:Addr}{cdv:Value}{A:Around}{outer:List Env}{s:Shared}{H:Hp}{E:XK}:DQ (dG P w K mg base N qual sc f cdv A outer s H E):=⟨rfl,rfl,rfl⟩
theorem kind_ok (h:lC N sc X){x:Str}(e:decide (sc.names.lookup x=some .local)=true):X.env.kindOf x=some .local:=by unfold Env.kindOf;rw[h.sc];exact of_decide_eq_true e
theorem ahr (h:lC N sc X){x:Str}{i:Nat}(e:decide (N[i]?=some x)=true):X.N[i]?=some x:=by rw[h.N];exact of_decide_eq_true e
theorem ak5 (h:lC N sc X){n:Nat}(e:decide (N.length=n)=true):X.N.length=n:=by rw[h.N];exact of_decide_eq_true e
end
theorem X0 {β:Type}{c:Nat}{b:β}:∀{l:List (Nat×β)},l.lookup c=some b->(c,b)∈l
 |[],h=>by cases h
 |(a,x)::r,h=>by
  rw[List.lookup_cons]at h;cases e:(c==a)with
  |true=>rw[e]at h;cases h;rw[eq_of_beq e];exact .head _
  |false=>rw[e]at h;exact .tail _ (X0 h)
def Ba (l:List (Nat×Bool))(c:Nat):Option Bool:=l.lookup c
theorem ad1 [aT]{K:Frag}{l:List (Nat×Bool)}{xs:List Str}(h:MM l xs K=true):∀c b,Ba l c=some b->PySem.W.exmAny K (.ref (cy K c)) (xs.map λx=>.ref (bx K x))=some b:=λc b e=>by
 unfold MM at h;rw[List.all_eq_true]at h;have e:l.lookup c=some b:=e;exact exm_ok (h (c,b) (X0 e))
def vc:List af->List R.D
 | .dat d::r=>d::vc r
 |_=>[]
theorem ae1 (ws:List R.D):vc (ws.map .dat)=ws:=by
 induction ws with
 |nil=>rfl
 |cons d r ih=>rw[List.map_cons,vc,ih]
def zv (T:fE)(b:CE):aM:=λss=>xD T b (vc ss)
def zz (C:Nat->aM)(n m:Nat):tW:=λi=>if i<m then some λws=>C (n+i) (ws.map .dat)else none
section
variable[aT]{P:Program}{w:World}{K:Frag}{mg:Str->Option Value}{base:Heap}{k:Nat}
theorem ai1 {f9:iw}{i:Nat}:wc f9 k i λ_=>bad:=⟨λ_ _ _ _ _ _ _ _ _ _ _ _ _ _ _ _ _ _ _ _ _ h=>h.elim⟩
theorem ai7 {f9:iw}{C:Nat->aM}{n m:Nat}(h:∀i,i<m->wc f9 k i λws=>C (n+i) (ws.map .dat)):I3 f9 k (zz C n m):=λi F e=>by
 unfold zz at e;split at e
 ·cases e;exact h i ‹_›
 ·cases e
theorem ai2 {f9:iw}{i:Nat}{T:fE}{b:CE}{F:aM}(h:wc f9 k i (xD T b))(e:F=zv T b):wc f9 k i λws=>F (ws.map .dat):=by
 subst e;have:(λws:List R.D=>zv T b (ws.map .dat))=xD T b:=by
  funext ws
  unfold zv;rw[ae1]
 rw[this];exact h
end
theorem aeI [aT]{P:Program}{w:World}{K:Frag}{mg:Str->Option Value}{base:Heap}{CX:CXT}{k:Nat}{f:Addr}{fd:FuncData}{ps:List Str}{n:Nat}:DB P w K mg base CX k f fd ps (gy K n λ_=>bad):=
 ⟨λ_ _ _ _ ⟨_,_,_,_,_,_,_,h⟩=>h.elim,λ_ _ _ _ _ _ _ _ _ _ _ _ _ ⟨_,_,_,_,_,_,_,h⟩=>h.elim⟩
section
variable[aT]
structure Az (q:Str)(sc:Scope)(X:Cx):Prop where
 cl:aT.cells=X.env.cells
 mkr:I4 X 0
 Zm:X.env.qual=q
 mH:aT.mH 0=q++("<lambda>":Str)
 fn:∀x c,X.env.cells.lookup x=some c->X.fn x=true
 atU:X.env.scope=sc
 has:∀x,sc.names.lookup x=some .cell->∃c,X.env.cells.lookup x=some c
variable{X:Cx}{q:Str}{sc:Scope}{N:List Str}{txt:Nat->fE}
theorem ahW {i:Nat}{T:fE}(H:Az q sc X)(L_:aT.txt=txt)(hi:txt i=T)(hq:T.qual=q++("<lambda>":Str))(hfree:(T.scope.names.all λy=>!decide (y.2=.free)||decide (sc.names.lookup y.1=some .cell))=true):I2 X 0 i T.params T.body T.scope:=by
 have e:aT.txt i=T:=by rw[L_];exact hi
 refine⟨by rw[e,hq,H.Zm],by rw[H.mH,H.Zm],by rw[e],by rw[e],by rw[e],H.cl,λy hy hf=>?_⟩;rw[List.all_eq_true]at hfree;have:=hfree y hy;simp only[Bool.or_eq_true,Bool.not_eq_true',decide_eq_false_iff_not,decide_eq_true_eq]at this;rcases this with z|z
 ·exact absurd hf z
 ·exact H.has _ z
def KA (N:List Str)(sc:Scope)(T:fE)(dM:List Nat):Bool:=lamSB T&&(decide (dM.length=T.fr.length)&&(T.fr.zip dM).all λp=>decide (N[p.2]?=some p.1)&&decide (sc.names.lookup p.1=some .cell))
theorem acZ {i:Nat}{dM:List Nat}(h:lC N sc X)(H:Az q sc X)(e:KA N sc (aT.txt i) dM=true):IL X i dM:=by
 unfold KA at e;simp only[Bool.and_eq_true,decide_eq_true_eq,List.all_eq_true]at e;obtain⟨e1,e2,e3⟩:=e;refine⟨Xm e1,H.cl,λk y hk=>?_,e2⟩;have hl:k<dM.length:=by rw[e2];exact(List.getElem?_eq_some_iff.mp hk).1
 have hj:dM[k]?=some dM[k]:=List.getElem?_eq_getElem hl;have hz:((aT.txt i).fr.zip dM)[k]?=some (y,dM[k]):=by
  rw[List.getElem?_zip_eq_some];exact⟨hk,hj⟩
 have:=e3 _ (List.mem_of_getElem? hz);exact⟨_,hj,by rw[h.N];exact this.1,by rw[h.sc];exact .inl this.2⟩
def A9 (l:List (List Nat)):r9:=λi=>l[i]?
theorem ad0 {l:List (List Nat)}(h:lC N sc X)(H:Az q sc X)(L_:aT.txt=txt)(e:((List.range l.length).all λi=>KA N sc (txt i) (l.getD i []))=true):Ao X (A9 l):=λi dM hi=>by
 unfold A9 at hi;have hl:=(List.getElem?_eq_some_iff.mp hi).1;rw[List.all_eq_true]at e;have:=e i (List.mem_range.mpr hl);rw[List.getD_eq_getElem?_getD,hi]at this;exact acZ h H (by rw[L_];exact this)
end
section
variable{P:Program}{w:World}{K:Frag}{mg:Str->Option Value}{base:Heap}{x qual:Str}{eo:Stmt}{f:Addr}{fd:FuncData}{N ps:List Str}{k:Nat}
theorem aeJ (c7:aT)(m:Bool){c:Addr}(F:Fun K x qual eo f fd)(hc:fd.code=.ref c)(S:FnScope N ps (defScope eo)){oU:aN}
    (body:∀A outer s H E,Room k (A.deeper (envOfC qual (defScope eo) s.heap.objs.size f (.ref c)))->
      @SB (c7.at (envOfC qual (defScope eo) s.heap.objs.size f (.ref c)).cells) (dG P w K mg base N qual (defScope eo) f (.ref c) A outer s H E) (λcls d _ H=>E cls d H) (defBody eo) oU):FnOk P w K mg base (L2.CX P w) (k+1) f fd ps (z8 c7 K ps.length (aR m ps.length N.length oU)):=by
  obtain⟨oc,od,kV,doc,pm,an,cdv,ct,gi,rfl,lk,hcd⟩:=F.ex;have hc:cdv=.ref c:=hc;subst hc;refine fn_of lk hcd S (λvs H Q E h=>?_) (λA outer s H vs Q E hr h=>⟨_,xP,?_⟩)
  · exact@anY (c7.at []) _ _ _ _ _ _ _ (h [])
  · exact@acN P w K mg base qual f N ps (c7.at (envOfC qual (defScope eo) s.heap.objs.size f (.ref c)).cells) m (.ref c) A outer s H vs Q E (defScope eo) (defBody eo) oU (body A outer s H E hr) (h _)
theorem ai8 (c7:aT){q:Str}{sc:Scope}{c:Addr}{A:Around}{outer:List Env}{s:Shared}{H:Hp}{E:XK}(tb:LamX.TabB base mg c (c7.tab 0))(hq:(envOfC qual sc s.heap.objs.size f (.ref c)).qual=q)(agD:c7.mH 0=q++("<lambda>":Str)):
    @Az (c7.at (envOfC qual sc s.heap.objs.size f (.ref c)).cells) q sc (dG P w K mg base N qual sc f (.ref c) A outer s H E):=
  letI:aT:=c7.at (envOfC qual sc s.heap.objs.size f (.ref c)).cells
  ⟨rfl,⟨c,rfl,tb⟩,hq,agD,λ_ _ _=>rfl,rfl,λx h=>cell_has h⟩
end
end R
namespace R
open PySem PySem.Spec PyProof.Rows L2
variable[aT]
def iB {α:Type}(pm:List Nat)(xs:List α):List α:=pm.filterMap λi=>xs[i]?
theorem aph {zs:List V}{ws:List Value}(h:Vals zs ws):∀i:Nat,(zs[i]?=none/\ws[i]?=none)\/∃z w,zs[i]?=some z/\ws[i]?=some w/\RelV z w:=by
 induction h with
 |nil=>exactλi=>.inl ⟨rfl,rfl⟩
 | @cons z w zs ws r _ ih=>exactλi=>match i with
  |0=>.inr ⟨z,w,rfl,rfl,r⟩
  |i+1=>ih i
theorem QC {zs:List V}{ws:List Value}(h:Vals zs ws):∀pm:List Nat,Vals (iB pm zs) (iB pm ws)
 |[]=>.nil
 |i::r=>by
  unfold iB;rw[List.filterMap_cons,List.filterMap_cons];rcases aph h i with⟨e1,e2⟩|⟨z,w,e1,e2,q⟩
  ·rw[e1,e2];exact QC h r
  ·rw[e1,e2];exact .cons q (QC h r)
theorem alE {K:Frag}{aa:List Addr}{G:Hp}{zs:List V}{ss:List af}(h:bM K aa G zs ss):∀i:Nat,(zs[i]?=none/\ss[i]?=none)\/∃z w,zs[i]?=some z/\ss[i]?=some w/\bF K aa G z w:=by
 induction h with
 |nil=>exactλi=>.inl ⟨rfl,rfl⟩
 | @cons z w zs ws r _ ih=>exactλi=>match i with
  |0=>.inr ⟨z,w,rfl,rfl,r⟩
  |i+1=>ih i
theorem OU {K:Frag}{aa:List Addr}{G:Hp}{zs:List V}{ss:List af}(h:bM K aa G zs ss):∀pm:List Nat,bM K aa G (iB pm zs) (iB pm ss)
 |[]=>.nil
 |i::r=>by
  unfold iB;rw[List.filterMap_cons,List.filterMap_cons];rcases alE h i with⟨e1,e2⟩|⟨z,w,e1,e2,q⟩
  ·rw[e1,e2];exact OU h r
  ·rw[e1,e2];exact .cons q (OU h r)
theorem UL {K:Frag}{x qual:Str}{st:Stmt}{f:Addr}{fd:FuncData}{ps ks:List Str}{n:Nat}{pm:List Nat}(F:Fun K x qual st f fd)
    (h:∀(kV doc pv:Value) (an:Option Addr) (cdv ct:Value) (us ws:List Value),us.length=n->ws.length=ks.length->bindArgs (PySem.W.fnOf x qual (defArgs st) (defBody st) (defScope st) .none kV doc pv an cdv ct) ⟨us,ks.zip ws⟩=pure (ps.zip (us++iB pm ws))):KBn K fd ps n ks (λus ws=>us++iB pm ws) (λus ws=>us++iB pm ws):=by
  obtain⟨oc,od,kV,doc,pv,an,cdv,ct,gi,rfl,lk,hcd⟩:=F.ex;exact⟨λs us ws X l1 l2=>.of_eq (h kV doc pv an cdv ct us ws l1 l2),λr1 r2=>r1.append (QC r2 pm)⟩
def yO (F:aM)(pm:List Nat)(fs cK:aH):CE:=λρ=>(fs ρ).bind λss=>(cK ρ).bind λzs M=>if zs.length=pm.length then F (ss++iB pm zs) M else .bad
section
variable{X:Cx}{W:WX}{e:Expr}{es:List Expr}{kws:List Keyword}{x:Str}{fs cK:aH}{F:aM}{k n np c:Nat}{p pos:Pos}{pm:List Nat}{ks:List Str}
theorem ao0 {K:Frag}{σ:L2.St}{aa:List Addr}{G H:Hp}{M:List ak}{vs:List V}{ss:List af}{Q:VK}(hK:X.K=K)(m:aK X.K aa G M H)(r:bM X.K aa G vs ss)(hl:ss.length=np)(w:wp (F ss M) (dB X W (bF X.K) Q σ aa G H)):gy K np F vs H Q (WE W σ):=by
 subst hK;exact⟨aa,G,M,ss,m,r,hl,wp_mono (λr hr=>by
  cases r with
  |ok s M2=>exact hr
  |ex c fs M2=>exact hr) w⟩
end
def intsOf:List D->Option (List Int)
 |[]=>some []
 | .int i::r=>(intsOf r).map (i::·)
 |_::_=>none
theorem VS:∀{ds:List D} {ns:List Int},intsOf ds=some ns->ds=ns.map .int
 |[],_,h=>by cases h;rfl
 |d::r,ns,h=>by
  cases d with
  |int i=>
   unfold intsOf at h;cases hr:intsOf r with
   |none=>rw[hr]at h;cases h
   |some m=>
    rw[hr]at h;cases h
    rw[VS hr];rfl
  |_=>cases h
structure Jb (K:Frag)(C:Addr)(m:Str)(g:Addr):Prop where
 ex:∃NN p rest,ClX.CRead K C NN/\PySem.W.findCls K (.ref C) NN m=some (.get (.builtin "staticmethod.__get__") (.ref p) .none (.ref C))/\PySem.W.recIn K p "staticmethod"=some (.ref g::rest)
theorem ahE {K:Frag}{x f:Str}(h:Nb x f K=true):Jb K (bx K x) f (CP x f K):=by
 unfold Nb at h;rw[Bool.and_eq_true,Bool.and_eq_true,decide_eq_true_eq]at h;obtain⟨h1,h2,h3⟩:=h;obtain⟨⟨p,g⟩,h4⟩:=Option.isSome_iff_exists.mp h3;unfold CP;rw[h4];unfold OW at h4;split at h4
 ·rename_i b j_ C e
  split at h4
  ·rename_i hh
   obtain⟨rfl,rfl⟩:=hh;split at h4
   ·rename_i eg rest e2
    cases h4
    exact⟨.type "type",_,rest,⟨h1,h2⟩,e,e2⟩
   ·cases h4
  ·cases h4
 ·cases h4
section
variable{X:Cx}{W:WX}{o e:Expr}{es:List Expr}{kws:List Keyword}{x m:Str}{aE bC:CE}{fs cK:aH}{F:aM}{k n np c:Nat}{p pos apos:Pos}{pm:List Nat}{ks:List Str}
theorem af6 {pl:Sem Bool}{pins:List (Addr×Obj)}{σ:L2.St}{H:Hp}{s:Shared}{A:Around}{E:Value->Shared->Prop}{C g:Addr}{Q:Value×List Value->Shared->Prop}(I:Inv X pins σ H s)(S:Jb X.K C m g)(h:∀aF,Inv X pins σ H aF->Q (.ref g,[]) aF):wpAny (model X.prog X.w) A (getMethod (.ref C) m pl) Q E s:=by
 obtain⟨NN,p,rest,r,h1,hp⟩:=S.ex;refine PySem.W.method_cls I.kIn r.ga (PySem.W.cls_bind I.kIn r.rd h1 ?_);exact wpAny_call (PySem.W.sm_get (s:={s with toks:=s.toks+1}) I.kIn hp (PySem.W.handed_on rfl (h _ (I.tok _))))
structure Sd (D:iw)(k:Nat)(x m:Str)(np:Nat)(F:aM):Prop where
 ex:∃f fd ps C,FnOk D.prog D.w D.K D.mg D.base (L2.CX D.prog D.w) k f fd ps (gy D.K np F)/\D.mg x=some (.ref C)/\Jb D.K C m f/\PySem.W.keepIn D.K (.ref f)=true/\Binds D.K fd ps []
 len:∀{ss M Q},wp (F ss M) Q->ss.length=np
theorem PZ {pl:Sem Bool}(C:Sd X.iR k x m n F)(hr:Room k X.A)(au:eK X x)(tk:Takes X W)(h1:jN X W (e::es) fs)
    (eZ:starEach (e::es) X.env=(false,eval e X.env)::starEach es X.env:=by rfl) (hpl:(backTo pos (starEach es X.env)).any (·.1)=false:=by rfl)
    (ht:eval (.Call (.Attribute (.Name x p) m apos) (e::es) [] pos) X.env=(do
      let lO <-eval (.Name x p) X.env
      standAt apos.atName
      let(f,first) <-holding [lO] (getMethod lO m pl)
      callWith pos f first (backTo pos (starEach (e::es) X.env)) (backToKw pos (keywordEach [] X.env))):=by rfl):bf X W (.Call (.Attribute (.Name x p) m apos) (e::es) [] pos) (bB F fs):=⟨λρ M aa G σ H Q ms en h=>by
  intro pins s I;obtain⟨f,fd,ps,Cl,c_,hm,hS,hk,hb⟩:=C.ex;refine PySem.W.methodCall_KW (pl:=pl) (thn ((pe_glob (v:=.ref Cl) au.gl hm rfl au.nd).run pins s σ H (λv H1=>v=.ref Cl/\H1=H) I ⟨rfl,rfl⟩) λu s1 ⟨v,H1,bY,cM,q1,q2⟩=>?_) ht;subst q1;subst q2;obtain rfl:u=Value.ref Cl:=cM;refine af6 bY hS λs2 d7=>?_
  have uf:=h1.seq ms en h (Q':=λvs aS=>∃aU aV M2 ss,aJ aa G H1 aU aV aS/\aK X.K aU aV M2 aS/\bM X.K aU aV vs ss/\wp (F ss M2) (dB X W (bF X.K) Q σ aU aV aS)) λaU aV M2 aS vs ss g2 m2 r2 bK=>⟨aU,aV,M2,ss,g2,m2,r2,bK⟩
  refine PySem.W.callWith_K (first:=[]) (h₀:=X.base) I.ok.mod.kin hk (thn (uf pos pins s2 d7) λus s3 ⟨vs,aS,v9,b6,aU,aV,M2,ss,g2,m2,r2,bK⟩=>⟨v9.kIn,?_⟩) eZ hpl;exact run_fnS (us:=us) (vs:=vs) c_ hr hb (passAt tk σ) v9 b6 (ao0 rfl m2 r2 (C.len bK) bK)⟩
def uq (m:Bool)(M:List ak):List af->Option (af×List ak)
 |[.dat (.tup ds)]=>some (d9 m M ds)
 |ss=>sX m M ss
theorem aj5 (jd:Bool):qG X (r5 X (.type "list")) (pu (uq jd)):=Ai (Ah call_list_of λss M s az aa G H vs Q e ms r q=>by
 unfold uq at e;split at e
 ·rename_i ds
  have e:d9 jd M ds=(s,az):=Option.some.inj e;cases r with
  |cons r cW=>
   cases cW
   cases r with
   |tup ha hp=>
    exact⟨_,_,rfl,.inr (ms.le.t (.inl (.inl ha))),λl hl=>zL (m:=jd) ms hp (by rw[e];exact q) hl⟩
 ·unfold sX at e
  split at e
  ·rename_i t _
   cases hd:iM M t with
   |none=>rw[hd]at e;cases e
   |some ds=>
    rw[hd]at e;have e:d9 jd M ds=(s,az):=Option.some.inj e;cases r with
    |cons r cW=>
     cases cW
     obtain⟨p,vs,e2,e3,e4⟩:=nG ms r (qh hd);refine⟨p,vs,by rw[e2],.inl (SqL.of e3),λl hl=>?_⟩;exact zL (m:=jd) ms (bM.toRps e4) (by rw[e];exact q) hl
  ·cases e)
end
def Sz (i:Nat)(f:CE)(ρ:List af):Option af->Ev bW
 |some (.dat (.int x))=>(f ρ).bind λs=>match s with
  | .dat (.int y)=>ok (.nx (ρ.set i (.dat (.int (x+y)))))
  |_=>bad
 |_=>bad
def CO (i:Nat)(f:CE):aN:=λρ=>Sz i f ρ ρ[i]?
theorem ao9 {X:Cx}{W:WX}{e:Expr}{aE:CE}{x:Str}{i:Nat}{vG pos:Pos}(F:pL X x i)(h1:bf X W e aE):jk X W (.AugAssign (.Name x vG) .Add e pos) (CO i aE):=⟨λρ M aa G σ H D ms en h=>by
 have h:wp (Sz i aE ρ ρ[i]? M) (eN X W D aa G H):=h;cases hn:ρ[i]? with
 |none=>rw[hn]at h;exact h.elim
 |some s0=>
  rw[hn]at h;cases s0 with
  |dat d=>
   cases d with
   |int a=>
    rcases en.at_ i _ hn with z|⟨v,e1,r⟩
    ·cases z
    ·obtain rfl:=jg r
     refine toS (ps_aug F.nd F.ix F.loc cS ip_add F.fn) ⟨_,e1,h1.lU ms en h λay au M1 H1 v s g1 m1 r1 aD=>?_⟩;split at aD
     ·rename_i b
      obtain rfl:=jg r1;exact⟨a,b,rfl,rfl,aD ay au H1 _ (aJ.refl _ _ _) m1 ((en.grow g1).set nN)⟩
     ·exact aD.elim
   |_=>exact h.elim
  |_=>exact h.elim⟩
def xm (a:Int):List Int->List Int
 |[]=>[a]
 |b::r=>if a<=b then a::b::r else b::xm a r
def srt:List Int->List Int
 |[]=>[]
 |a::r=>xm a (srt r)
theorem MC (a:Int):∀l,(xm a l).Perm (a::l)
 |[]=>.refl _
 |b::r=>by
  unfold xm;split
  ·exact .refl _
  ·exact((MC a r).cons b).trans (.swap a b r)
theorem xV:∀l,(srt l).Perm l
 |[]=>.refl _
 |a::r=>(MC a (srt r)).trans ((xV r).cons a)
theorem VN (a:Int):∀{l:List Int},l.Pairwise (·<=·)->(xm a l).Pairwise (·<=·)
 |[],_=>by unfold xm;simp
 |b::r,h=>by
  obtain⟨h1,h2⟩:=List.pairwise_cons.mp h;unfold xm;split
  ·rename_i hab
   refine List.pairwise_cons.mpr ⟨λc hc=>?_,h⟩;rcases List.mem_cons.mp hc with rfl|hc
   ·exact hab
   ·have:=h1 c hc;omega
  ·rename_i hab
   refine List.pairwise_cons.mpr ⟨λc hc=>?_,VN a h2⟩;rcases List.mem_cons.mp ((MC a r).mem_iff.mp hc)with rfl|hc
   ·omega
   ·exact h1 c hc
theorem C1:∀l,(srt l).Pairwise (·<=·)
 |[]=>.nil
 |a::r=>VN a (C1 r)
theorem Qa:∀{l1 l2:List Int},l1.Perm l2->l1.Pairwise (·<=·)->l2.Pairwise (·<=·)->l1=l2
 |[],l2,p,_,_=>(List.perm_nil.mp p.symm).symm
 |a::l1,[],p,_,_=>absurd (List.perm_nil.mp p) (by simp)
 |a::l1,b::l2,p,h1,h2=>by
  obtain⟨q1,q2⟩:=List.pairwise_cons.mp h1;obtain⟨q3,pe⟩:=List.pairwise_cons.mp h2;have e:a=b:=by
   have m1:a∈b::l2:=p.mem_iff.mp List.mem_cons_self;have m2:b∈a::l1:=p.mem_iff.mpr List.mem_cons_self;rcases List.mem_cons.mp m1 with z|z
   ·exact z
   ·rcases List.mem_cons.mp m2 with y|y
    ·exact y.symm
    ·have:=q1 b y;have:=q3 a z;omega
  subst e;rw[Qa p.cons_inv q2 pe]
theorem ZH {K:Frag}{G:Hp}:∀ns:List Int,b8 K G (ns.map V.int) (ns.map D.int)
 |[]=>.nil
 |n::ns=>.cons (.int n) (ZH ns)
def vN:List af->List Nat->List af->List af
 |ρ,i::is,s::ss=>vN (ρ.set i s) is ss
 |ρ,_,_=>ρ
def CU (is:List Nat)(fs:aH):aN:=λρ=>(fs ρ).bind λss=>if ss.length=is.length/\ss.length<=1000 then ok (.nx (vN ρ is ss))else bad
structure DF (X:Cx)(bV:List Expr)(is:List Nat):Prop where
 run:∀ss ρ aa G σ H vs,ss.length=is.length->cz X.K aa G σ ρ->bM X.K aa G vs ss->∀Q:L2.St->Hp->Prop,(∀aZ,cz X.K aa G aZ (vN ρ is ss)->Q aZ H)->Dj X bV vs σ H Q
section
variable{X:Cx}{W:WX}{es ts:List Expr}{is:List Nat}{fs:aH}{x:Str}{i:Nat}{p pos tp Qs:Pos}{kt k2}
theorem afd:DF X [] []:=⟨λss ρ aa G σ H vs hl en r Q q=>by
 cases ss with
 |nil=>cases r;exact toGs pgs_nil ⟨rfl,q _ en⟩
 |cons d ds=>cases hl⟩
theorem Fo (F:pL X x i)(h2:DF X ts is)(hs:(assignEach (.Name x p::ts) X.env).map (·.2)=assign (.Name x p) X.env::(assignEach ts X.env).map (·.2):=by rfl):DF X (.Name x p::ts) (i::is):=⟨λss ρ aa G σ H vs hl en r Q q=>by
 cases ss with
 |nil=>cases hl
 |cons s ss=>
  cases r with
  |cons r cW=>
   exact toGs (pgs_cons (pg_name F.nd F.ix F.loc F.fn) Hq hs) ⟨_,_,rfl,h2.run ss (ρ.set i s) aa G _ H _ (Nat.succ.inj hl) (en.set r) cW Q q⟩⟩
theorem aob (h1:jN X W es fs)(hg:DF X ts is)(hc:X.calm=true)(hn:(assignEach ts X.env).length=is.length:=by rfl)(eZ:(assignEach ts X.env).findIdx? (·.1)=none:=by rfl)
    (hs:swapsWithSole [.Tuple ts kt tp] (.Tuple es k2 Qs) pos.line X.env=pure false:=by rfl) (hw:swappedStores [.Tuple ts kt tp] (.Tuple es k2 Qs) X.env=pure none:=by rfl)
    (ha:(assignEach [.Tuple ts kt tp] X.env).map (·.2)=[assign (.Tuple ts kt tp) X.env]:=by rfl):jk X W (.Assign [.Tuple ts kt tp] (.Tuple es k2 Qs) pos) (CU is fs):=⟨λρ M aa G σ H D ms en h=>
  toS (ps_asg (pe_tup uy) Ho hs hw ha) (h1.lU ms en h λay au M1 H1 vs ss g1 m1 r1 aD=>by
    split at aD
    · rename_i hl
      refine⟨by rw[r1.length];exact Nat.le_trans hl.2 (by unfold sizeLine;decide),λl hf=>?_⟩;have pu:=Pure.new (o:=.tup vs) m1.le hf;have g2:aJ ay au H1 ay _ _:=pu.grow;refine toG (pg_tup hc Hq hn eZ) ⟨l,vs,rfl,.inl (.inl upd_same),by rw[r1.length,hl.1],hg.run ss ρ ay _ σ _ vs hl.1 (en.grow (g1.trans g2)) (r1.grow g2) _ λaZ oS=>?_⟩;exact aD ay _ _ aZ g2 (m1.pure pu) oS
    · exact aD.elim)⟩
end
end R
namespace R
open PySem PySem.Spec PyProof.Rows L2
abbrev nO (w:World):Obj:={cls:=.type "set",dict:=none,data:=.set #[] 0 (.fresh 0 0 (!w.params.followText "set-order"))}
section
variable{P:Program}{w:World}{A:Around}{E:Value->Shared->Prop}{s:Shared}{l:Addr}{its:Array Value}{ns:List Int}{Q:Value->Shared->Prop}
def Filled (w:World)(s:Shared)(ns:List Int)(r:Value)(s2:Shared):Prop:=
 r=.none/\∃hp tk c,s2={s with heap:=hp,toks:=tk}/\SetR w hp s.heap.objs.size (λj=>decide (j∈ns)) c/\c<=ns.length/\∀b o,s.heap.get? b=some o->hp.get? b=some o
theorem aeB (hh:A.handled=none)(hl:s.heap.IsList l its)(hit:IntsAre its.toList ns)(hb:ns.length+1<scanBound):
    codeAny (model P w) A (.call (.builtin "set.__init__") ⟨[.ref s.heap.objs.size,.ref l],[]⟩) (wants (Filled w s ns) E) {s with heap:=s.heap.push (nO w)}:=by
  have nn:its.size=ns.length:=by rw[<-IntsAre.length hit,Array.length_toList]
  have old:(s.heap.push (nO w)).get? s.heap.objs.size=some (nO w):=Heap.get?_push_size _ rfl;have isT:Shared.TypeIs {s with heap:=s.heap.push (nO w)} (.ref s.heap.objs.size) "set":=⟨_,old,rfl⟩;refine codeAny_call_builtin F.called_set.init.plain F.entry_set_init (check_set_init_1 isT ?_);have lt:l<s.heap.objs.size:=by obtain⟨o,h,_⟩:=hl;exact Heap.lt_size h
  have hl1:(s.heap.push (nO w)).IsList l its:=hl.push _;have s1:=F.sub_list_set;have s2:=F.sub_list_frozenset;obtain⟨o,ho,hc,nl,hd⟩:=hl;obtain⟨oc,od,atH,gi⟩:=o;simp only at hc hd;subst hc;subst hd;have as5:(s.heap.push (nO w)).get? l=some {cls:=.type "list",dict:=od,data:=.seq its nl,slots:=gi}:=Heap.get?_push_of_some _ ho;have ne:(Value.type "list"==Value.type "dict")=false:=by decide
  unfold Builtin.«set.__init__» noKeywords Builtin.Frozenset.updateFrom;generalize afl:pyIter=PI
  wp_walk
  subst afl;refine wpAny_pyIter_list hl1 (wpAny_bind (wpAny_runValue ?_));have h3:A.in1.in1.handled=none:=by simp[hh]
  have ir:(s.heap.push (nO w)).objs.size=s.heap.objs.size+1:=Heap.size_push ..;have n1:l≠(s.heap.push (nO w)).objs.size:=by rw[ir];exact Nat.ne_of_lt (Nat.lt_succ_of_lt lt)
  have n2:s.heap.objs.size∉[(s.heap.push (nO w)).objs.size,l]:=by
    rw[ir];simp only[List.mem_cons,List.not_mem_nil,or_false,not_or];exact⟨Nat.ne_of_lt (Nat.lt_succ_self _),Nat.ne_of_gt lt⟩
  refine set_update_ints ((Walks.list h3 _ l n1 its).toS) s.heap.objs.size n2 ns nn hb (λi v hv=>?_) (its.size-0) 0 _ (by omega) (Nat.zero_le _)
    ?st0 ?start ?rest
  case st0=>exact⟨⟨_,Heap.get?_push_size _ rfl,rfl,rfl⟩,hl1.push _⟩
  · have hi:i<ns.length:=by rw[<-nn];exact(Array.getElem?_eq_some_iff.mp hv).1
    obtain⟨t,e⟩:=IntsAre.int_at hit i v (by rw[Array.getElem?_toList];exact hv);refine⟨ns[i],t,List.getElem?_eq_getElem hi,?_⟩;rw[e,List.getD_eq_getElem?_getD,List.getElem?_eq_getElem hi]<;>rfl
  case start=>
    have q:((s.heap.push (nO w)).push {cls:=.type "list_iterator",data:=.fields #[.ref l,.int 0 0]}).get? s.heap.objs.size=some (nO w):=Heap.get?_push_of_some _ old;exact⟨0,Nat.le_refl 0,setR_new_at q⟩
  case rest=>
    rintro⟨hp,g2,d2,tk,akD⟩ c hm hc2 hS
    have q1:g2=s.gens:=hm.gens;have q2:d2=s.drawn:=hm.drawn;have q3:akD=s.os:=hm.os;subst q1 q2 q3;show wpAny _ _ _ _ _ _
    refine wpAny_pure (show wpAny _ _ (ret Value.none) _ _ _ from wpAny_pure ⟨rfl,hp,tk,c,rfl,hS,nn▸hc2,λb o e=>hm.heap b o ?_ (Heap.get?_push_of_some _ (Heap.get?_push_of_some _ e))⟩);have Xs:=Heap.lt_size e;rw[ir];simp only[List.mem_cons,List.not_mem_nil,or_false,not_or];exact⟨Nat.ne_of_lt Xs,Nat.ne_of_lt (Nat.lt_succ_of_lt Xs)⟩
set_option maxHeartbeats 8000000 in
theorem anA (hh:A.handled=none)(hl:s.heap.IsList l its)(hit:IntsAre its.toList ns)(hb:ns.length+1<scanBound)
    (h:∀(hp:Heap) (tk c:Nat),SetR w hp s.heap.objs.size (λj=>decide (j∈ns)) c->c<=ns.length->(∀b o,s.heap.get? b=some o->hp.get? b=some o)->Q (.ref s.heap.objs.size) {s with heap:=hp,toks:=tk}):
    wpAny (model P w) A (call (.type "set") [.ref l]) Q E s:=by
  obtain⟨c,tl,atu⟩:=F.called_set.mro;have m1:=F.called_set.made;have m2:=F.called_set.sub;have m3:=F.called_set.notType;have m4:=F.called_set.canCreate;have zG:=F.typeCall_set_1 (.ref l);refine wpAny_call (codeAny_of_tree (show wpAny _ _ (callAny (.type "set") _) _ _ _ from wpAny_pure ⟨Code.quiet_builtin _ (by decide+kernel),codeAny_builtin F.entry_type_call ?_⟩));rw[Around.under_plain (weight_type_call_type "set" [.ref l] []) rfl]
  repeat (any_goals (first|assumption|wp_step))
  refine codeAny_mono (code_set_led1 (.ref l) (E:=E) (Q₁:=λx s1=>x=.ref s.heap.objs.size/\s1={s with heap:=s.heap.push (nO w)}) ⟨rfl,rfl⟩) λr s1 hr=>?_
  cases r with
  |error e=>exact hr
  |ok gG=>
    cases gG with
    |ret x=>
      obtain⟨rfl,rfl⟩:=hr;have old:(s.heap.push (nO w)).get? s.heap.objs.size=some (nO w):=Heap.get?_push_size _ rfl;have isT:Shared.TypeIs {s with heap:=s.heap.push (nO w)} (.ref s.heap.objs.size) "set":=⟨_,old,rfl⟩;have XW:=F.called_set.init.lookup;have atp:=F.called_set.init.bind (.ref s.heap.objs.size)
      repeat (any_goals (first|assumption|wp_step))
      refine codeAny_mono (aeB (A:=A.in1) (E:=E) (by simp[hh]) hl hit hb) λr2 s2 hr2=>?_
      cases r2 with
      |error e=>exact hr2
      |ok f2=>
        cases f2 with
        |ret r=>
          obtain⟨rfl,hp,tk,c,rfl,a1,a2,a3⟩:=hr2
          repeat (any_goals (first|assumption|wp_step))
          exact h _ _ _ a1 a2 a3
        |_=>exact hr2.elim
    |_=>exact hr.elim
end
variable[aT]
def Zp (K:Frag):V->Hp->VK->Prop:=λx H Q=>∃(l:Addr) (ns:List Int),x=.ref l/\SqL K H l (ns.map V.int)/\ns.length<64/\
 ∀ms:List Int,ms.Pairwise (·<·)->(∀k,k∈ms↔k∈ns)->∀p,H p=none->Q (.ref p) (upd H p (.lst (ms.map V.int)))
theorem akQ {X:Cx}{a:Expr}{Ij:TE}{p cI q pos:Pos}(hg:Gl X "sorted")(hm:X.mg "sorted"=none)(fD:Gl X "set")(hm2:X.mg "set"=none)(ha:PE X a Ij)(hc:X.calm=true:=by rfl)
    (na:starEach [a] X.env=(false,eval a X.env)::starEach [] X.env:=by rfl):PE X (.Call (.Name "sorted" p) [.Call (.Name "set" cI) [a] [] q] [] pos) (tUn (Zp X.K) Ij):=by
  refine⟨λpins s σ H Q I h=>Call_ (ld_blt I hg hm boot_sorted (callWith_builtin1 (args_cons ?_ rfl) rfl rfl))⟩;refine Call_ (ld_blt I fD hm2 boot_set (callWith_type1 (args_cons (thn (ha.run pins s σ H _ I h) λv s1 ⟨x,H1,bY,r1,q1⟩=>args_nil ?_) na) na rfl));obtain⟨l,ns,rfl,hq,hl,q1⟩:=q1;cases r1
  obtain⟨its,r,pl,hz⟩:=bY.list hq;refine anA (bY.ok.hd hc) pl.isList (ns:=ns) (by simpa using intsAre_of r) (by unfold scanBound;omega) λhp tk c R as1 hk=>args_nil ?_
  refine sorted_set (s:={s1 with heap:=hp,toks:=tk}) R (bY.ok.hd hc) (by omega) λaF p out gu ms k g o hz e r1 srt mem hlen=>?_
  have Wx:∀b u,s1.heap.get? b=some u->aF.heap.get? b=some u:=λb u e=>k b u (hk b u e)
  have hle:s1.heap.objs.size<=p:=by
    have:s1.heap.objs.size<hp.objs.size:=R.lt;exact Nat.le_trans (Nat.le_of_lt this) hz
  have agj:(ms.map V.int).length<=sizeLine:=by
    rw[List.length_map,hlen];unfold sizeLine;omega
  have mem2:∀k,k∈ms↔k∈ns:=λk=>by rw[mem];simp
  refine⟨.ref p,upd H1 p (.lst (ms.map V.int)),bY.call' (ch:=[]) o (Un.laid Wx hle (bY.hok.fresh hle)) (bY.hok.laid Wx hle ⟨agj,out.toList,gu,vals_of_ints r1,by simpa using e⟩) (by rw[g];exact bY.bare) (λ_ z=>nomatch z),rfl,q1 ms srt mem2 p (bY.hok.fresh hle)⟩
def dd:List Int->List Int
 |[]=>[]
 |a::r=>if a∈dd r then dd r else a::dd r
theorem yN {k:Int}:∀{l:List Int},k∈dd l↔k∈l
 |[]=>by simp[dd]
 |a::r=>by
  unfold dd;split
  ·rename_i h
   rw[yN,List.mem_cons];exact⟨.inr,λz=>z.elim (λe=>e▸yN.mp h) id⟩
  ·rw[List.mem_cons,List.mem_cons,yN]
theorem Bq:∀{l:List Int},(dd l).Nodup
 |[]=>.nil
 |a::r=>by
  unfold dd;split
  ·exact Bq
  ·rename_i h;exact List.nodup_cons.mpr ⟨h,Bq⟩
def sset (l:List Int):List Int:=srt (dd l)
theorem Qi {k:Int}{l:List Int}:k∈sset l↔k∈l:=by unfold sset;rw[(xV _).mem_iff,yN]
theorem Qg {l ms:List Int}(h1:ms.Pairwise (·<·))(h2:∀k,k∈ms↔k∈l):ms=sset l:=by
 have nd:ms.Nodup:=h1.imp λh=>by omega
 refine Qa ?_ (h1.imp λh=>by omega) (C1 _);refine List.Perm.trans ?_ (xV _).symm;exact(List.perm_ext_iff_of_nodup nd Bq).mpr λk=>by rw[h2,yN]
theorem Qh {l:List Int}:(sset l).Pairwise (·<·):=by
 have h1:=C1 (dd l);have h2:(srt (dd l)).Nodup:=(xV _).nodup_iff.mpr Bq;exact h1.imp₂ (λa b hab hne=>by omega) h2
def rS (m:Bool)(M:List ak)(s:af):Option (af×List ak):=match iM M s with
 |some ds=>match intsOf ds with
  |some ns=>if ns.length<64 then some (d9 m M ((sset ns).map .int))else none
  |none=>none
 |none=>none
theorem aoe {X:Cx}(jd:Bool):Sh X (Zp X.K) (rS jd):=by
 intro x M s az aa G H gz Q e ms cM q;unfold rS at e;split at e
 ·rename_i ds hd
  split at e
  ·rename_i ns n_
   split at e
   ·rename_i afg
    have e:d9 jd M ((sset ns).map .int)=(s,az):=Option.some.inj e;obtain⟨p,vs,e2,e3,e4⟩:=nG ms cM (qh hd);have q3:=bM.toRps e4;rw[VS n_]at q3;have pe:=OT q3;subst pe;refine⟨p,ns,e2,SqL.of e3,afg,λl hp hw a ha=>?_⟩;rw[Qg hp hw];exact zL (m:=jd) ms (ZH (sset ns)) (by rw[e];exact q) ha
   ·cases e
  ·cases e
 ·cases e
theorem Z3 {X:Cx}{W:WX}{a:Expr}{aE:CE}{p cI q pos:Pos}(jd:Bool)(hg:eK X "sorted")(hm:X.mg "sorted"=none)(fD:eK X "set")(hm2:X.mg "set"=none)(h1:bf X W a aE)(hc:X.calm=true:=by rfl)
    (na:starEach [a] X.env=(false,eval a X.env)::starEach [] X.env:=by rfl):bf X W (.Call (.Name "sorted" p) [.Call (.Name "set" cI) [a] [] q] [] pos) (cJ (rS jd) aE):=
  Z1 (akQ hg.gl hm fD.gl hm2 cS hc na) h1 (aoe jd)
end R
namespace R
open PySem PySem.Spec PyProof.Rows L2
variable[aT]
def xW (M:List ak):af->Option (List D)
 | .dat (.tup ds)=>some ds
 |s=>iM M s
theorem aoi {K:Frag}{aa:List Addr}{G H:Hp}{M:List ak}{v:V}{s:af}{ds:List D}(ms:aK K aa G M H)(r:bF K aa G v s)(h:xW M s=some ds):∃p xs,v=.ref p/\(SqT K H p xs\/SqL K H p xs)/\b8 K G xs ds:=by
 unfold xW at h;split at h
 ·cases h
  cases r with
  |tup ha hp=>exact⟨_,_,rfl,.inl (ms.le.t (.inl (.inl ha))),hp⟩
 ·obtain⟨p,vs,e2,e3,e4⟩:=nG ms r (qh h)
  exact⟨p,vs,e2,.inr (SqL.of e3),bM.toRps e4⟩
def Ic (g:aH)(ρ:List af):Option (List D)->Ev (List af)
 |some ds=>(g ρ).bind λss=>ok (ds.map .dat++ss)
 |none=>bad
def EV (f:CE)(g:aH):aH:=λρ=>(f ρ).bind λx M=>Ic g ρ (xW M x) M
section
variable{X:Cx}{W:WX}{e:Expr}{es:List Expr}{aE:CE}{qU:aH}{p:Pos}
theorem alW (h1:bf X W e aE)(h2:jN X W es qU)(hs:starEach (.Starred e p::es) X.env=(true,eval e X.env)::starEach es X.env:=by rfl):jN X W (.Starred e p::es) (EV aE qU):=⟨λρ M aa G σ H Q ms en h=>
 toA (StX.pa_star cS uy hs) (h1.seq ms en h λay au M1 H1 v s g1 m1 r1 aD=>by
  cases hd:xW M1 s with
  |none=>rw[hd]at aD;exact aD.elim
  |some ds=>
   rw[hd]at aD;have aD:wp (Ev.bind (qU ρ) (λss=>ok (ds.map af.dat++ss)) M1) (dB X W (bM X.K) Q σ ay au H1):=aD;obtain⟨q,xs,e1,e2,e3⟩:=aoi m1 r1 hd;exact⟨q,xs,e1,e2,h2.seq m1 (en.grow g1) aD λaU aV M2 aS vs ss g2 m2 r2 bK=>bK aU aV aS (xs++vs) (aJ.refl _ _ _) m2 (bM.append (bM.zP (e3.mono g2.ex)) r2)⟩)⟩
end
def wW (s:af)(M:List ak):Option (Nat×List af)->Option (List D)->Option (af×List ak)
 |some (j,aB),some ds=>if aB.length+ds.length<=sizeLine then some (.dat .non,M.set j (.lst (aB++ds.map .dat)))else none
 |_,_=>none
def E6 (bC:CE)(ρ:List af)(x:af):Option (Nat×List af)->Ev af
 |some _=>(bC ρ).bind λs=>ofM λM=>wW s M (fY x M) (iM M s)
 |none=>bad
def yP (aE bC:CE):CE:=λρ=>(aE ρ).bind λx M=>E6 bC ρ x (fY x M) M
section
variable{X:Cx}{W:WX}{o e:Expr}{aE bC:CE}{pos apos:Pos}
theorem ani (h0:bf X W o aE)(h1:bf X W e bC)(qX:attributeBase o "extend" X.env (eval o X.env)=eval o X.env:=by rfl)
    (q9:((backTo pos (starEach [e] X.env)).all (λx=>!x.1)&&(backToKw pos (keywordEach [] X.env)).all (λx=>x.1.isSome)
      &&decide (([e]:List Expr).length+([]:List Keyword).length+(if([]:List Keyword).isEmpty then 0 else 1)<30))=true:=by rfl)
    (rg:(apos.endLine==pos.line)=true:=by rfl) (hs:starEach [e] X.env=[(false,eval e X.env)]:=by rfl):bf X W (.Call (.Attribute o "extend" apos) [e] [] pos) (yP aE bC):=⟨λρ M aa G σ H Q ms en h=>
  toE (pe_bm PySem.F.plainAttrs_list PySem.F.slot_list_extend PySem.F.type_list_extend mt_extend cS (pa_cons cS pa_nil hs) qX q9 rg hs rfl) (h0.seq ms en h λay au M1 H1 v1 s1 g1 m1 r1 aD=>by
    cases hx:fY s1 M1 with
    |none=>rw[hx]at aD;exact aD.elim
    |some p=>
      obtain⟨j,xs⟩:=p;rw[hx]at aD;have aD:wp (Ev.bind (bC ρ) (λs=>ofM λM=>wW s M (fY s1 M) (iM M s)) M1) (dB X W (bF X.K) Q σ ay au H1):=aD;obtain⟨rfl,hm,a,vs,e1,rfl,e3,e4⟩:=xF hx m1 r1;refine⟨.inl ⟨rfl,_,SqL.of e3⟩,h1.seq m1 (en.grow g1) aD λaU aV M2 aS v2 s2 g2 m2 r2 gQ=>?_⟩;obtain⟨t,az,d_,q⟩:=ji.mp gQ;cases hy:fY (.mu j) M2 with
      |none=>rw[hy]at d_;cases d_
      |some cI=>
        obtain⟨j2,aB⟩:=cI;cases hd:iM M2 s2 with
        |none=>rw[hy,hd]at d_;cases d_
        |some ds=>
          rw[hy,hd]at d_;unfold wW at d_
          dsimp only at d_
          split at d_
          · rename_i hz
            cases d_
            obtain⟨By,hm2,tX,ws,f1,f2,jE,f4⟩:=xF hy m2 (bF.grow g2 r1);cases By
            cases f2
            obtain⟨akP,zs,cP,b2,m8⟩:=nG m2 r2 (qh hd);have gw:aJ aU aV aS aU aV (upd aS a (.lst (ws++zs))):=aJ.write (List.mem_of_getElem? f1) (by rw[jE];simp);refine⟨a,akP,ws,zs,rfl,by rw[cP],jE,b2,?_,q _ _ _ _ gw (m2.write (m':=.lst (aB++ds.map .dat)) f1 hm2 trivial ⟨_,upd_same,f4.append m8⟩) xR⟩;rw[f4.length,m8.length,List.length_map];exact hz
          · cases d_)⟩
end
end R
namespace R
open PySem PySem.Spec PyProof.Rows L2
variable[aT]
end R
namespace R
open PySem PySem.Spec PyProof.Rows L2
variable[aT]
end R
namespace R
open PySem PySem.Spec PyProof.Rows L2
inductive aQ where
 |i (n:Int)
 |t (xs:List aQ)
mutual
def bq:aQ->aQ->Ordering
 | .i a,.i b=>if a<b then .lt else if a=b then .eq else .gt
 | .i _,.t _=>.lt
 | .t _,.i _=>.gt
 | .t xs,.t aB=>bZ xs aB
def bZ:List aQ->List aQ->Ordering
 |[],[]=>.eq
 |[],_::_=>.lt
 |_::_,[]=>.gt
 |x::xs,y::aB=>(bq x y).then (bZ xs aB)
end
mutual
theorem yK:∀x y:aQ,bq y x=(bq x y).swap
 | .i a,.i b=>by
  unfold bq;by_cases h1:a<b
  ·rw[if_pos h1,if_neg (by omega),if_neg (by omega)];rfl
  ·by_cases h2:a=b
   ·subst h2;rw[if_neg h1,if_pos rfl];rfl
   ·rw[if_neg h1,if_neg h2,if_pos (by omega)];rfl
 | .i _,.t _=>by unfold bq;rfl
 | .t _,.i _=>by unfold bq;rfl
 | .t xs,.t aB=>by unfold bq;exact Bl xs aB
theorem Bl:∀xs aB:List aQ,bZ aB xs=(bZ xs aB).swap
 |[],[]=>by unfold bZ;rfl
 |[],_::_=>by unfold bZ;rfl
 |_::_,[]=>by unfold bZ;rfl
 |x::xs,y::aB=>by
  unfold bZ;rw[yK x y,Bl xs aB];cases bq x y<;>rfl
end
mutual
theorem sF:∀{x y:aQ},bq x y=.eq->x=y
 | .i a,.i b,h=>by
  unfold bq at h;by_cases h1:a<b
  ·rw[if_pos h1]at h;cases h
  ·by_cases h2:a=b
   ·rw[h2]
   ·rw[if_neg h1,if_neg h2]at h;cases h
 | .i _,.t _,h=>by unfold bq at h;cases h
 | .t _,.i _,h=>by unfold bq at h;cases h
 | .t xs,.t aB,h=>by unfold bq at h;rw[Bj h]
theorem Bj:∀{xs aB:List aQ},bZ xs aB=.eq->xs=aB
 |[],[],_=>rfl
 |[],_::_,h=>by unfold bZ at h;cases h
 |_::_,[],h=>by unfold bZ at h;cases h
 |x::xs,y::aB,h=>by
  unfold bZ at h;cases e:bq x y with
  |lt=>rw[e]at h;cases h
  |gt=>rw[e]at h;cases h
  |eq=>rw[e]at h;rw[sF e,Bj h]
end
mutual
theorem ED:∀x:aQ,bq x x=.eq
 | .i a=>by unfold bq;rw[if_neg (by omega),if_pos rfl]
 | .t xs=>by unfold bq;exact Bk xs
theorem Bk:∀xs:List aQ,bZ xs xs=.eq
 |[]=>by unfold bZ;rfl
 |x::xs=>by unfold bZ;rw[ED x,Bk xs];rfl
end
mutual
theorem EE:∀{x y z:aQ},bq x y=.lt->bq y z=.lt->bq x z=.lt
 | .i a,.i b,.i c,h1,h2=>by
  unfold bq at *;have e1:a<b:=by
   by_cases h:a<b
   ·exact h
   ·rw[if_neg h]at h1;split at h1<;>cases h1
  have e2:b<c:=by
   by_cases h:b<c
   ·exact h
   ·rw[if_neg h]at h2;split at h2<;>cases h2
  rw[if_pos (by omega)]
 | .i _,.i _,.t _,_,_=>by unfold bq;rfl
 | .i _,.t _,.i _,_,h2=>by unfold bq at h2;cases h2
 | .i _,.t _,.t _,_,_=>by unfold bq;rfl
 | .t _,.i _,_,h1,_=>by unfold bq at h1;cases h1
 | .t _,.t _,.i _,_,h2=>by unfold bq at h2;cases h2
 | .t xs,.t aB,.t zs,h1,h2=>by unfold bq at *;exact Bm h1 h2
theorem Bm:∀{xs aB zs:List aQ},bZ xs aB=.lt->bZ aB zs=.lt->bZ xs zs=.lt
 |[],[],_,h1,_=>by unfold bZ at h1;cases h1
 |[],_::_,[],_,h2=>by unfold bZ at h2;cases h2
 |[],_::_,_::_,_,_=>by unfold bZ;rfl
 |_::_,[],_,h1,_=>by unfold bZ at h1;cases h1
 |_::_,_::_,[],_,h2=>by unfold bZ at h2;cases h2
 |x::xs,y::aB,z::zs,h1,h2=>by
  unfold bZ at *;cases e1:bq x y with
  |gt=>rw[e1]at h1;cases h1
  |eq=>
   obtain rfl:=sF e1;rw[e1]at h1;cases e2:bq x z with
   |gt=>rw[e2]at h2;cases h2
   |lt=>rfl
   |eq=>rw[e2]at h2;exact Bm h1 h2
  |lt=>
   cases e2:bq y z with
   |gt=>rw[e2]at h2;cases h2
   |eq=>
    obtain rfl:=sF e2;rw[e1];rfl
   |lt=>rw[EE e1 e2];rfl
end
def fu (x y:aQ):Bool:=bq x y==.lt
theorem zF {x y:aQ}:fu x y=true↔bq x y=.lt:=by
 unfold fu;cases bq x y<;>decide
theorem Ii {α:Type}(k:α->aQ):SrtO.Swo λv u=>fu (k v) (k u):=by
 refine⟨λx y h=>?_,λx y z h1 h2=>?_⟩
 ·have a:=zF.mp h
  unfold fu;rw[yK (k x) (k y),a];rfl
 ·have n1:bq (k y) (k x)≠.lt:=λq=>by rw[zF.mpr q]at h1;cases h1
  have n2:bq (k z) (k y)≠.lt:=λq=>by rw[zF.mpr q]at h2;cases h2
  cases e:fu (k z) (k x)with
  |false=>rfl
  |true=>
   have a:=zF.mp e
   exfalso
   cases e1:bq (k y) (k x)with
   |lt=>exact n1 e1
   |eq=>exact n2 (by rw[sF e1];exact a)
   |gt=>
    have q1:bq (k x) (k y)=.lt:=by rw[yK (k y) (k x),e1];rfl
    exact n2 (EE a q1)
def xo (a:aQ):List aQ->List aQ
 |[]=>[a]
 |b::r=>if fu b a then b::xo a r else a::b::r
def mF:List aQ->List aQ
 |[]=>[]
 |a::r=>xo a (mF r)
theorem MD (a:aQ):∀l,(xo a l).Perm (a::l)
 |[]=>.refl _
 |b::r=>by
  unfold xo;split
  ·exact((MD a r).cons b).trans (.swap a b r)
  ·exact .refl _
theorem nP:∀l,(mF l).Perm l
 |[]=>.refl _
 |a::r=>(MD a (mF r)).trans ((nP r).cons a)
abbrev su (l:List aQ):Prop:=l.Pairwise λx y=>fu y x=false
theorem VP (a:aQ):∀{l:List aQ},su l->su (xo a l)
 |[],_=>by unfold xo su;simp
 |b::r,h=>by
  obtain⟨h1,h2⟩:=List.pairwise_cons.mp h;unfold xo;split
  ·rename_i hab
   refine List.pairwise_cons.mpr ⟨λc hc=>?_,VP a h2⟩;rcases List.mem_cons.mp ((MD a r).mem_iff.mp hc)with rfl|hc
   ·exact(Ii id).asym _ _ hab
   ·exact h1 c hc
  ·rename_i hab
   have hab:fu b a=false:=by cases q:fu b a<;>first|rfl|exact absurd q hab
   refine List.pairwise_cons.mpr ⟨λc hc=>?_,h⟩;rcases List.mem_cons.mp hc with rfl|hc
   ·exact hab
   ·exact(Ii id).tr _ _ _ hab (h1 c hc)
theorem H6:∀l,su (mF l)
 |[]=>.nil
 |a::r=>VP a (H6 r)
theorem ajo {x y:aQ}(h1:fu x y=false)(h2:fu y x=false):x=y:=by
 cases e:bq x y with
 |eq=>exact sF e
 |lt=>rw[zF.mpr e]at h1;cases h1
 |gt=>
  have:bq y x=.lt:=by rw[yK x y,e];rfl
  rw[zF.mpr this]at h2;cases h2
theorem P_:∀{l1 l2:List aQ},l1.Perm l2->su l1->su l2->l1=l2
 |[],l2,p,_,_=>(List.perm_nil.mp p.symm).symm
 |a::l1,[],p,_,_=>absurd (List.perm_nil.mp p) (by simp)
 |a::l1,b::l2,p,h1,h2=>by
  obtain⟨q1,q2⟩:=List.pairwise_cons.mp h1;obtain⟨q3,pe⟩:=List.pairwise_cons.mp h2;have e:a=b:=by
   have m1:a∈b::l2:=p.mem_iff.mp List.mem_cons_self;have m2:b∈a::l1:=p.mem_iff.mpr List.mem_cons_self;rcases List.mem_cons.mp m1 with z|z
   ·exact z
   ·rcases List.mem_cons.mp m2 with y|y
    ·exact y.symm
    ·exact ajo (q3 a z) (q1 b y)
  subst e;rw[P_ p.cons_inv q2 pe]
mutual
def bP:aQ->PyData
 | .i n=>.int n
 | .t xs=>.tuple (bI xs)
def bI:List aQ->List PyData
 |[]=>[]
 |x::xs=>bP x::bI xs
end
mutual
def jm:aQ->aQ->Bool
 | .i _,.i _=>true
 | .t xs,.t aB=>mP xs aB
 |_,_=>false
def mP:List aQ->List aQ->Bool
 |x::xs,y::aB=>jm x y&&mP xs aB
 |_,_=>true
end
def kJ:List aQ->List aQ->Nat->Ordering
 |x::_,y::_,0=>bq x y
 |_::xs,_::aB,j+1=>kJ xs aB j
 |_,_,_=>.eq
mutual
theorem uI:∀t:aQ,(bP t).canLay0=true
 | .i _=>by unfold bP;rfl
 | .t xs=>by unfold bP;exact C9 xs
theorem C9:∀ts:List aQ,PyData.canLayAll0 (bI ts)=true
 |[]=>by unfold bI;rfl
 |t::ts=>by
  unfold bI;show((bP t).canLay0&&PyData.canLayAll0 (bI ts))=true
  rw[uI t,C9 ts];rfl
end
mutual
theorem yW:∀x y:aQ,PyData.eqv (bP x) (bP y)=(bq x y==.eq)
 | .i a,.i b=>by
  unfold bP bq PyData.eqv;by_cases h1:a<b
  ·rw[if_pos h1,beq_eq_false_iff_ne.mpr (by omega)];rfl
  ·by_cases h2:a=b
   ·subst h2;rw[if_neg h1,if_pos rfl,beq_self_eq_true];rfl
   ·rw[if_neg h1,if_neg h2,beq_eq_false_iff_ne.mpr h2];rfl
 | .i _,.t _=>by unfold bP bq PyData.eqv;rfl
 | .t _,.i _=>by unfold bP bq PyData.eqv;rfl
 | .t xs,.t aB=>by
  unfold bP bq PyData.eqv;exact BD xs aB
theorem BD:∀xs aB:List aQ,PyData.eqvAll (bI xs) (bI aB)=(bZ xs aB==.eq)
 |[],[]=>by unfold bI bZ PyData.eqvAll;rfl
 |[],_::_=>by unfold bZ;simp only[bI,PyData.eqvAll];rfl
 |_::_,[]=>by unfold bZ;simp only[bI,PyData.eqvAll];rfl
 |x::xs,y::aB=>by
  unfold bZ;simp only[bI,PyData.eqvAll];rw[yW x y,BD xs aB];cases bq x y<;>rfl
end
theorem Cj {e r:Nat->Bool}:∀(xs aB:List aQ) (i:Nat),(∀j,j<xs.length->j<aB.length->e (i+j)=(kJ xs aB j==.eq))->(∀j,j<xs.length->j<aB.length->r (i+j)=(kJ xs aB j==.lt))->
    Ob.lexAt e r (decide (xs.length<aB.length)) i (min xs.length aB.length)=(bZ xs aB==.lt)
  |[],[],i,_,_=>by unfold bZ;rfl
  |[],y::aB,i,_,_=>by
    unfold bZ;rw[List.length_nil,Nat.zero_min,Ob.lexAt_zero,decide_eq_true (by simp)];rfl
  |x::xs,[],i,_,_=>by
    unfold bZ;rw[List.length_nil,Nat.min_zero,Ob.lexAt_zero,decide_eq_false (by simp)];rfl
  |x::xs,y::aB,i,he,hr=>by
    have ih:=Cj xs aB (i+1) (λj h1 h2=>by
      have:=he (j+1) (by simp;omega) (by simp;omega);rw[show i+1+j=i+(j+1) by omega];exact this) (λj h1 h2=>by
      have:=hr (j+1) (by simp;omega) (by simp;omega);rw[show i+1+j=i+(j+1) by omega];exact this)
    have e0:e i=(bq x y==.eq):=he 0 (by simp) (by simp);have r0:r i=(bq x y==.lt):=hr 0 (by simp) (by simp);rw[List.length_cons,List.length_cons,show min (xs.length+1) (aB.length+1)=min xs.length aB.length+1 by omega,Ob.lexAt_succ,e0,r0,
      show decide (xs.length+1<aB.length+1)=decide (xs.length<aB.length) by by_cases h:xs.length<aB.length<;>simp[h],ih,show bZ (x::xs) (y::aB)=(bq x y).then (bZ xs aB) by conv=>lhs;unfold bZ]
    cases bq x y<;>rfl
theorem readsAll_len {h:Heap}:∀{ts:List aQ} {us:List Value} {as:List Addr},ReadsAll h us (bI ts) as->us.length=ts.length
 |[],us,as,r=>by unfold bI at r;cases r;rfl
 |t::ts,us,as,r=>by
  unfold bI at r;cases r with
  |cons r1 r2=>rw[List.length_cons,List.length_cons,readsAll_len r2]
theorem BC:∀(xs aB:List aQ) (A:Around) (s:Shared) (us vs:List Value) (as bs:List Addr),ReadsAll s.heap us (bI xs) as->ReadsAll s.heap vs (bI aB) bs->A.units+PyData.depthAll (bI xs)<cLine->∀j (h1:j<us.length) (h2:j<vs.length),SeqAt.EqAt A s us[j] vs[j] (kJ xs aB j==.eq)
 |[],aB,A,s,us,vs,as,bs,r1,r2,hu,j,h1,h2=>by unfold bI at r1;cases r1;exact absurd h1 (Nat.not_lt_zero _)
 |x::xs,[],A,s,us,vs,as,bs,r1,r2,hu,j,h1,h2=>by unfold bI at r2;cases r2;exact absurd h2 (Nat.not_lt_zero _)
 |x::xs,y::aB,A,s,us,vs,as,bs,r1,r2,hu,j,h1,h2=>by
  unfold bI at r1 r2;cases r1 with
  |cons a1 a2=>
   cases r2 with
   |cons cP b2=>
    have hu:A.units+max (bP x).depth (PyData.depthAll (bI xs))<cLine:=by unfold bI at hu;exact hu
    cases j with
    |zero=>
     have q:=SeqAt.eqAt_reads (bP x) (bP y) A s _ _ _ _ a1 cP (uI x) (uI y) (by omega);rw[yW]at q;exact q
    |succ j=>exact BC xs aB A s _ _ _ _ a2 b2 (by omega) j (by simpa using h1) (by simpa using h2)
mutual
theorem HD:∀(x y:aQ) (A:Around) (s:Shared) (u v:Value) (as bs:List Addr),Reads s.heap u (bP x) as->Reads s.heap v (bP y) bs->jm x y=true->A.units+(bP x).depth<cLine->Ob.RcOp .Lt A s u v (fu x y)
  | .i a,.i b,A,s,u,v,as,bs,r1,r2,_,_=>by
    unfold bP at r1 r2;cases r1
    cases r2
    have e:fu (.i a) (.i b)=decide (a<b):=by
      unfold fu bq;by_cases h:a<b
      · rw[if_pos h,decide_eq_true h];rfl
      · rw[if_neg h,decide_eq_false h];split<;>rfl
    rw[e];exact Ob.RcOp.lt_int _ _ _ _
  | .i _,.t _,_,_,_,_,_,_,_,_,h,_=>by unfold jm at h;cases h
  | .t _,.i _,_,_,_,_,_,_,_,_,h,_=>by unfold jm at h;cases h
  | .t xs,.t aB,A,s,u,v,as,bs,r1,r2,hc,hu=>by
    unfold bP at r1 r2 hu;unfold jm at hc;have hu:A.units+(PyData.depthAll (bI xs)+1)<cLine:=hu;cases r1 with
    |tuple a1 a2 a3 a4=>
      cases r2 with
      |tuple cP b2 m8 b4=>
        rename_i l1 o1 vs1 n1 l2 s_ aaz n2;have l1:=readsAll_len a4;have l2:=readsAll_len b4;have q:=Ob.RcOp.tuples_lt (A:=A) (e:=λj=>kJ xs aB j==.eq) (r:=λj=>kJ xs aB j==.lt) ⟨_,a1,a2,_,a3⟩ ⟨_,cP,b2,_,m8⟩ (by omega)
          (λj h1 h2=>by
            have:=BC xs aB A.in1 s _ _ _ _ a4 b4 (by show A.units+1+_<_;omega) j (by simpa using h1) (by simpa using h2);simpa using this)
          (λj h1 h2 _=>by
            have:=CD xs aB A.in1 s _ _ _ _ a4 b4 hc (by show A.units+1+_<_;omega) j (by simpa using h1) (by simpa using h2);simpa using this)
        have e:=Cj (e:=λj=>kJ xs aB j==.eq) (r:=λj=>kJ xs aB j==.lt) xs aB 0 (λj _ _=>by rw[Nat.zero_add]) (λj _ _=>by rw[Nat.zero_add]);rw[<-Array.length_toList,<-Array.length_toList,l1,l2,e]at q;have z:fu (.t xs) (.t aB)=(bZ xs aB==.lt):=by unfold fu bq;rfl
        rw[z];exact q
theorem CD:∀(xs aB:List aQ) (A:Around) (s:Shared) (us vs:List Value) (as bs:List Addr),ReadsAll s.heap us (bI xs) as->ReadsAll s.heap vs (bI aB) bs->mP xs aB=true->A.units+PyData.depthAll (bI xs)<cLine->∀j (h1:j<us.length) (h2:j<vs.length),Ob.RcOp .Lt A s us[j] vs[j] (kJ xs aB j==.lt)
 |[],aB,A,s,us,vs,as,bs,r1,r2,hc,hu,j,h1,h2=>by unfold bI at r1;cases r1;exact absurd h1 (Nat.not_lt_zero _)
 |x::xs,[],A,s,us,vs,as,bs,r1,r2,hc,hu,j,h1,h2=>by unfold bI at r2;cases r2;exact absurd h2 (Nat.not_lt_zero _)
 |x::xs,y::aB,A,s,us,vs,as,bs,r1,r2,hc,hu,j,h1,h2=>by
  unfold bI at r1 r2;unfold mP at hc;obtain⟨hc1,hc2⟩:=Bool.and_eq_true_iff.mp hc;cases r1 with
  |cons a1 a2=>
   cases r2 with
   |cons cP b2=>
    have hu:A.units+max (bP x).depth (PyData.depthAll (bI xs))<cLine:=by unfold bI at hu;exact hu
    cases j with
    |zero=>exact HD x y A s _ _ _ _ a1 cP hc1 (by omega)
    |succ j=>exact CD xs aB A s _ _ _ _ a2 b2 hc2 (by omega) j (by simpa using h1) (by simpa using h2)
end
section
variable{prog:Program}{w:World}{A:Around}{E:Value->Shared->Prop}{s:Shared}{b fin:Bool}{Q:Bool->Shared->Prop}
def pZ:aQ->Bool
 | .t (.i _::_)=>true
 |_=>false
def wY:aQ->Bool
 | .t (.t _::_)=>true
 |_=>false
theorem Wy:∀(xs aB:List aQ) (us vs:List Value) (as bs:List Addr) (i:Nat),ReadsAll s.heap us (bI xs) as->ReadsAll s.heap vs (bI aB) bs->mP xs aB=true->A.units+PyData.depthAll (bI xs)<cLine->
    ((b&&i==0)=true->pZ (.t xs)=true/\pZ (.t aB)=true)->fin=decide (xs.length<aB.length)->Q (bZ xs aB==.lt) s->PySem.W.KatLex prog w A b fin Q (us.zip vs) i s
  |[],[],us,vs,as,bs,i,r1,r2,hc,hu,hb,hf,q=>by
    unfold bI at r1 r2;cases r1;cases r2;rw[hf];have e:(bZ [] []==Ordering.lt)=false:=by unfold bZ;rfl
    rw[e]at q;exact q
  |[],y::aB,us,vs,as,bs,i,r1,r2,hc,hu,hb,hf,q=>by
    unfold bI at r1;cases r1;rw[hf];have e:(bZ [] (y::aB)==Ordering.lt)=true:=by unfold bZ;rfl
    rw[e]at q;have z:decide (([]:List aQ).length<(y::aB).length)=true:=decide_eq_true (by simp);rw[z,List.zip_nil_left];exact q
  |x::xs,[],us,vs,as,bs,i,r1,r2,hc,hu,hb,hf,q=>by
    unfold bI at r2;cases r2;rw[hf];have e:(bZ (x::xs) []==Ordering.lt)=false:=by unfold bZ;rfl
    rw[e]at q;have z:decide ((x::xs).length<([]:List aQ).length)=false:=decide_eq_false (by simp);rw[z,List.zip_nil_right];exact q
  |x::xs,y::aB,us,vs,as,bs,i,r1,r2,hc,hu,hb,hf,q=>by
    unfold bI at r1 r2;unfold mP at hc;obtain⟨hc1,hc2⟩:=Bool.and_eq_true_iff.mp hc;have e:bZ (x::xs) (y::aB)=(bq x y).then (bZ xs aB):=by conv=>lhs;unfold bZ
    rw[e]at q;cases r1 with
    |cons a1 a2=>
      cases r2 with
      |cons cP b2=>
        have hu:A.units+max (bP x).depth (PyData.depthAll (bI xs))<cLine:=by unfold bI at hu;exact hu
        have Zl:=SeqAt.eqAt_reads (bP x) (bP y) A s _ _ _ _ a1 cP (uI x) (uI y) (by omega);rw[yW]at Zl;rw[List.zip_cons_cons];refine PySem.W.kat_cons (Zl prog w _ _ ?_);refine PySem.W.kat_go (λe1=>?_) λe1=>?_
        · have e2:bq x y=.eq:=by cases z:bq x y<;>first|rfl|(rw[z]at e1;cases e1)
          rw[e2]at q;refine PySem.W.kat_yes (Wy xs aB _ _ _ _ (i+1) a2 b2 hc2 (by omega) (λz=>?_) (by rw[hf];by_cases h:xs.length<aB.length<;>simp[h]) q);simp at z
        · have e2:((bq x y).then (bZ xs aB)==Ordering.lt)=fu x y:=by
            unfold fu;cases z:bq x y<;>first|rfl|(rw[z]at e1;cases e1)
          rw[e2]at q;refine PySem.W.kat_no ?_;cases afC:(b&&i==0)with
          |true=>
            obtain⟨f1,f2⟩:=hb afC;cases x with
            |t _=>unfold pZ at f1;cases f1
            |i n=>
              cases y with
              |t _=>unfold pZ at f2;cases f2
              |i m=>
                unfold bP at a1 cP;cases a1
                cases cP
                refine oneLt_int ?_;have z:fu (.i n) (.i m)=decide (n<m):=by
                  unfold fu bq;by_cases h:n<m
                  · rw[if_pos h,decide_eq_true h];rfl
                  · rw[if_neg h,decide_eq_false h];split<;>rfl
                rw[z]at q;exact q
          |false=>
            exact PySem.W.kat_one _ _ (HD x y A s _ _ _ _ a1 cP hc1 (by omega) prog w _ _ q)
def lY (h:Heap)(v:Value)(t:aQ):Prop:=∃as,Reads h v (bP t) as
mutual
theorem HE {h:Heap}:∀(x y:aQ) (v:Value) (as bs:List Addr),Reads h v (bP x) as->Reads h v (bP y) bs->x=y
 | .i a,.i b,v,as,bs,r1,r2=>by unfold bP at r1 r2;cases r1;cases r2;rfl
 | .i _,.t _,v,as,bs,r1,r2=>by unfold bP at r1 r2;cases r1;cases r2
 | .t _,.i _,v,as,bs,r1,r2=>by unfold bP at r1 r2;cases r1;cases r2
 | .t xs,.t aB,v,as,bs,r1,r2=>by
  unfold bP at r1 r2;cases r1 with
  |tuple a1 a2 a3 a4=>
   cases r2 with
   |tuple cP b2 m8 b4=>
    have e:=Option.some.inj (a1.symm.trans cP);subst e;have e2:=a3.symm.trans m8;cases e2
    rw[CF xs aB _ _ _ a4 b4]
theorem CF {h:Heap}:∀(xs aB:List aQ) (vs:List Value) (as bs:List Addr),ReadsAll h vs (bI xs) as->ReadsAll h vs (bI aB) bs->xs=aB
 |[],[],_,_,_,_,_=>rfl
 |[],_::_,_,_,_,r1,r2=>by unfold bI at r1 r2;cases r1;cases r2
 |_::_,[],_,_,_,r1,r2=>by unfold bI at r1 r2;cases r2;cases r1
 |x::xs,y::aB,vs,as,bs,r1,r2=>by
  unfold bI at r1 r2;cases r1 with
  |cons a1 a2=>
   cases r2 with
   |cons cP b2=>rw[HE x y _ _ _ a1 cP,CF xs aB _ _ _ a2 b2]
end
mutual
theorem CH {h h':Heap}(k:∀b o,h.get? b=some o->o.cls=.type "tuple"->h'.get? b=some o):∀(x:aQ) (v:Value) (as:List Addr),Reads h v (bP x) as->Reads h' v (bP x) as
 | .i a,v,as,r=>by unfold bP at r⊢;cases r;exact .int _ _
 | .t xs,v,as,r=>by
  unfold bP at r⊢;cases r with
  |tuple a1 a2 a3 a4=>exact .tuple (k _ _ a1 a2) a2 a3 (CG k xs _ _ a4)
theorem CG {h h':Heap}(k:∀b o,h.get? b=some o->o.cls=.type "tuple"->h'.get? b=some o):∀(xs:List aQ) (vs:List Value) (as:List Addr),ReadsAll h vs (bI xs) as->ReadsAll h' vs (bI xs) as
 |[],vs,as,r=>by unfold bI at r⊢;cases r;exact .nil
 |x::xs,vs,as,r=>by
  unfold bI at r⊢;cases r with
  |cons a1 a2=>exact .cons (CH k x _ _ a1) (CG k xs _ _ a2)
end
theorem lY.keep {h h':Heap}{v:Value}{t:aQ}(k:∀b o,h.get? b=some o->o.cls=.type "tuple"->h'.get? b=some o)(r:lY h v t):lY h' v t:=
 let⟨as,r⟩:=r
 ⟨as,CH k t v as r⟩
def Br (t:aQ):Prop:=(bP t).depth<=60
theorem aan {vs:List Value}{k:Value->aQ}(hp:∀v∈vs,lY s.heap v (k v))(hr:∀v∈vs,∃a,v=.ref a)(hd:∀v∈vs,Br (k v))(hc:∀v∈vs,∀u∈vs,jm (k v) (k u)=true)(hb:b=true->∀v∈vs,pZ (k v)=true)(hu:A.units+61<cLine):
    SrtO.Cmp prog w A s (tuples' b) (λp=>p.1∈vs) (SrtO.lt2 λv u=>fu (k v) (k u)):=by
  intro p q hm zf;obtain⟨as,r1⟩:=hp _ hm;obtain⟨bs,r2⟩:=hp _ zf;obtain⟨a,ea⟩:=hr _ hm;obtain⟨c,vf⟩:=hr _ zf;have h3:=hc _ hm _ zf;have h4:=hd _ hm;have di:=λz=>hb z _ hm
  have iy:=λz=>hb z _ zf
  show wpAny (model prog w) A (keyLt' (tuples' b) p.1 q.1) (λr aF=>aF=s/\r=fu (k p.1) (k q.1)) (λ_ _=>False) s
  generalize k p.1=x at *;generalize k q.1=y at *;rw[ea]at r1⊢;rw[vf]at r2⊢;cases x with
  |i _=>unfold bP at r1;cases r1
  |t xs=>
    cases y with
    |i _=>unfold bP at r2;cases r2
    |t aB=>
      unfold bP at r1 r2;unfold Br bP at h4;have h4:PyData.depthAll (bI xs)+1<=60:=h4;unfold jm at h3;cases r1 with
      |tuple a1 a2 a3 a4=>
        cases r2 with
        |tuple cP b2 m8 b4=>
          refine PySem.W.kat_lt a1 a3 cP m8 ?_;refine Wy xs aB _ _ _ _ 0 a4 b4 h3 (by omega) (λz=>?_) ?_ ⟨rfl,?_⟩
          · have f7:b=true:=by cases b<;>first|rfl|(simp at z)
            exact⟨di f7,iy f7⟩
          · rw[<-Array.length_toList,<-Array.length_toList,readsAll_len a4,readsAll_len b4]
          · unfold fu bq;rfl
theorem Ll {h:Heap}{k:Value->aQ}{T:Value}{f:aQ->Bool}(hf:(f=pZ/\T=.type "int")\/(f=wY/\T=.type "tuple")):∀{vs:List Value},(∀v∈vs,lY h v (k v)/\(∃a,v=.ref a)/\f (k v)=true)->∃fs:List Value,PySem.W.KatTups h vs fs/\fs.length=vs.length/\∀x∈fs,∀M:Model,PySem.W.Looks M h (typeOf x) T
 |[],_=>⟨[],PySem.W.KatTups.nil,rfl,λ_ hm=>by simp at hm⟩
 |v::vs,hp=>by
  obtain⟨fs,h1,h2,h3⟩:=Ll (vs:=vs) hf λAf hm=>hp Af (List.mem_cons_of_mem _ hm)
  obtain⟨⟨as,r⟩,⟨a,rfl⟩,hk⟩:=hp v List.mem_cons_self;generalize k (.ref a)=x at *;cases x with
  |i _=>unfold bP at r;cases r
  |t xs=>
   unfold bP at r;cases r with
   |tuple a1 a2 a3 a4=>
    rename_i o vs1 n;cases xs with
    |nil=>rcases hf with⟨rfl,rfl⟩|⟨rfl,rfl⟩<;>(first|unfold pZ at hk|unfold wY at hk)<;>cases hk
    |cons y aB=>
     unfold bI at a4;obtain⟨tH,rest,e0⟩:∃tH rest,vs1.toList=tH::rest:=by
      generalize vs1.toList=l at a4;cases a4
      exact⟨_,_,rfl⟩
     rw[e0]at a4;have kW:vs1[0]?=some tH:=by rw[<-Array.getElem?_toList,e0];rfl
     refine⟨tH::fs,PySem.W.KatTups.cons a1 a2 a3 kW h1,by rw[List.length_cons,List.length_cons,h2],λx hm M=>?_⟩;rcases List.mem_cons.mp hm with rfl|hm
     ·cases a4 with
      |cons c1 c2=>
       rcases hf with⟨rfl,rfl⟩|⟨rfl,rfl⟩
       ·cases y with
        |t _=>unfold pZ at hk;cases hk
        |i _=>unfold bP at c1;cases c1;exact PySem.W.Looks.now
       ·cases y with
        |i _=>unfold wY at hk;cases hk
        |t _=>
         unfold bP at c1;cases c1 with
         |tuple d1 d2 d3 d4=>
          rename_i s_ aaz n2;rw[<-d2];exact(PySem.W.Looks.ld d1).andThen .now
     ·exact h3 x hm M
theorem aoY {a:Addr}{vs:List Value}{k:Value->aQ}(h0:0<vs.length)(hp:∀v∈vs,lY s.heap v (k v))(hr:∀v∈vs,∃a,v=.ref a)(hd:∀v∈vs,Br (k v))(hc:∀v∈vs,∀u∈vs,jm (k v) (k u)=true)
    (hf:(∀v∈vs,pZ (k v)=true)\/(∀v∈vs,wY (k v)=true)) (hu:A.units+61<cLine) (ha:∀o,s.heap.get? a=some o->o.cls≠.type "tuple"):SrtO.SortableO prog w A s a vs λv u=>fu (k v) (k u):=by
  intro h' keep;have um:∀v∈vs,lY h' v (k v):=λv hm=>(hp v hm).keep λb o e c=>keep b o (λz=>by subst z;exact ha o e c) e
  rcases hf with hf|hf
  · obtain⟨fs,h1,h2,h3⟩:=Ll (h:=h') (k:=k) (f:=pZ) (.inl ⟨rfl,rfl⟩) λv hm=>⟨um v hm,hr v hm,hf v hm⟩
    refine⟨tuples' true,λQ E hq=>?_,aan um hr hd hc (λ_=>hf) hu⟩;refine PySem.W.kat_kind (T:=.type "int") h1 (by omega) (λf hm=>h3 f hm _) (by rfl) ?_;have e:(Value.type "int" !=Value.type "tuple")=true:=by first|decide+kernel|rfl|decide
    rw[e];exact hq
  · obtain⟨fs,h1,h2,h3⟩:=Ll (h:=h') (k:=k) (f:=wY) (.inr ⟨rfl,rfl⟩) λv hm=>⟨um v hm,hr v hm,hf v hm⟩
    refine⟨tuples' false,λQ E hq=>?_,aan um hr hd hc (λz=>by cases z) hu⟩;refine PySem.W.kat_kind (T:=.type "tuple") h1 (by omega) (λf hm=>h3 f hm _) (by rfl) ?_;have e:(Value.type "tuple" !=Value.type "tuple")=false:=by first|decide+kernel|rfl|decide
    rw[e];exact hq
theorem adL {l:Addr}{vs:List Value}{Q:List Value->Shared->Prop}(hl:s.heap.IsTuple l vs.toArray)
    (h:Q vs {s with heap:=(s.heap.push (seqObj "list" #[] 0)).update s.heap.objs.size (Obj.mapSeq (·++vs.toArray))}) (hsz:vs.length<=sizeLine):
    wpAny (model prog w) A (collect (.ref l)) Q E s:=by
  obtain⟨o,ho,hc,n,hd⟩:=id hl;unfold collect;refine wpAny_bind (wpAny_runValue (codeAny_builtin entry_proto_collect' ?_));show wpAny _ _ (do again (.builtin "list.__iadd__" ⟨[<-newList [],.ref l],[]⟩)) _ _ s
  refine wpAny_bind (wpAny_newList (wpAny_pure ⟨Code.quiet_builtin _ (by decide+kernel),codeAny_builtin entry_list_iadd' ?_⟩));show wpAny _ _ (Builtin.List.listExtendWith (.ref s.heap.objs.size) (.ref l) (.ref s.heap.objs.size)) _ _ {s with heap:=s.heap.push (seqObj "list" #[] 0)}
  unfold Builtin.List.listExtendWith;have B5:(s.heap.push (seqObj "list" #[] 0)).get? l=some o:=Heap.get?_push_of_some _ ho;refine wpAny_bind (wpAny_typeOf (T:="tuple") ⟨o,B5,hc⟩ ?_);have ht:(Value.type "tuple"==Value.type "tuple")=true:=by rfl
  rw[if_pos (by rw[ht];simp)];refine wpAny_bind (listItems_at B5 hd ?_);refine wpAny_bind (listItems_at (xs:=#[]) (n:=0) (Heap.get?_push_size _ rfl) rfl ?_);rw[if_neg (by simp)];refine wpAny_bind (listUpdate_at (xs:=#[]) (n:=0) (Heap.get?_push_size _ rfl) rfl ?_ (Nat.zero_le _) (by show(#[]++vs.toArray).size<=sizeLine+1;simp only[Array.size_append,List.size_toArray,List.length_nil];omega));refine wpAny_pure ?_;show wpAny (model prog w) A (do
      let o <-load s.heap.objs.size
      match o.data with
      | .seq xs _=>pure xs.toList
      |_=>unsupported "internal:collect") Q E {s with heap:=(s.heap.push (seqObj "list" #[] 0)).update s.heap.objs.size (Obj.mapSeq (·++vs.toArray))}
  refine wpAny_bind (wpAny_load (get?_update_seq (Heap.get?_push_size _ rfl) _) ?_);show wpAny _ _ (pure ((#[]:Array Value)++vs.toArray).toList) Q E _
  rw[show((#[]:Array Value)++vs.toArray).toList=vs by simp];exact wpAny_pure h
theorem anW {l:Addr}{vs:List Value}{GB:Value->Value->Bool}{Q:Value->Shared->Prop}(O:SrtO.Swo GB)(hl:s.heap.IsTuple l vs.toArray)(hz:vs.length<=sizeLine)
    (hS:2<=vs.length->∀(lI:Heap) (a:Addr),lI.get? a=some (seqObj "list" vs.toArray 0)->(∀b o,s.heap.get? b=some o->b≠a/\lI.get? b=some o)->SrtO.SortableO prog w A.in1.in1 {s with heap:=lI} a vs GB)
    (h:∀out:List Value,SrtO.Srtd GB out->SrtO.Stb GB out vs->Q (.ref (s.heap.objs.size+1)) {s with heap:=sortedAll s.heap vs out.toArray}):
    wpAny (model prog w) A (call (.builtin "sorted") [.ref l]) Q E s:=by
  refine Calls.call_function_entry kind_sorted plain_sorted entry_sorted (args_sorted1 _) ?_;unfold Builtin.«sorted»;refine wpAny_bind (m:=checkCount "sorted" 1 1 _) (wpAny_pure ?_);refine wpAny_bind (adL hl ?_ hz);refine wpAny_bind (wpAny_newList ?_ hz);have hsz:((s.heap.push (seqObj "list" #[] 0)).update s.heap.objs.size (Obj.mapSeq (·++vs.toArray))).objs.size=s.heap.objs.size+1:=by
    rw[Heap.size_update,size_push']
  have Me:(((s.heap.push (seqObj "list" #[] 0)).update s.heap.objs.size (Obj.mapSeq (·++vs.toArray))).push (seqObj "list" vs.toArray 0)).get? (s.heap.objs.size+1)=some (seqObj "list" vs.toArray 0):=by
    rw[<-hsz];exact Heap.get?_push_size _ rfl
  have keep:∀b o,s.heap.get? b=some o->b≠s.heap.objs.size+1/\(((s.heap.push (seqObj "list" #[] 0)).update s.heap.objs.size (Obj.mapSeq (·++vs.toArray))).push (seqObj "list" vs.toArray 0)).get? b=some o:=λb o q=>by
    have hlt:b<s.heap.objs.size:=Heap.lt_size q;refine⟨Nat.ne_of_lt (Nat.lt_succ_of_lt hlt),Heap.get?_push_of_some _ ?_⟩;rw[Heap.get?_update_ne _ _ _ _ (Nat.ne_of_lt hlt)];exact Heap.get?_push_of_some _ q
  show wpAny _ _ _ _ _ {s with heap:=((s.heap.push (seqObj "list" #[] 0)).update s.heap.objs.size (Obj.mapSeq (·++vs.toArray))).push (seqObj "list" vs.toArray 0)}
  rw[hsz];refine wpAny_bind (wpAny_holding (wpAny_call_entry slot_list_sort ⟨_,Me,rfl⟩ entry_list_sort (SrtO.list_sort_ord O Me hz (λh2=>hS h2 _ _ Me keep) λout hs hb=>⟨_,rfl,?_⟩) (args_list_sort _)));exact wpAny_pure ⟨_,rfl,h out hs hb⟩
end
def UN:V->Value
 | .ref a=>.ref a
 |_=>.none
def rSortedT (K:Frag):List V->Hp->VK->Prop:=λvs H Q=>∃(a:Addr) (xs:List V) (ts:List aQ),vs=[V.ref a]/\(SqL K H a xs\/SqT K H a xs)/\DpAll K H xs (bI ts)/\(∀x∈xs,∃t,x=V.ref t)/\(∀t∈ts,Br t)/\
 (2<=ts.length->(∀x∈ts,∀y∈ts,jm x y=true)/\((∀x∈ts,pZ x=true)\/(∀x∈ts,wY x=true)))/\
 ∀aB p,(∃c7:V->aQ,xs.map c7=ts/\aB.map c7=mF ts)->aB.Perm xs->H p=none->Q (.ref p) (upd H p (.lst aB))
theorem Zv {h:Heap}{k:Value->aQ}(kk:∀v t,lY h v t->k v=t):∀(ts:List aQ) (vs:List Value) (as:List Addr),ReadsAll h vs (bI ts) as->vs.map k=ts/\∀v∈vs,lY h v (k v)
 |[],vs,as,r=>by unfold bI at r;cases r;exact⟨rfl,λv hv=>by simp at hv⟩
 |t::ts,vs,as,r=>by
  unfold bI at r;cases r with
  |cons r1 r2=>
   obtain⟨e1,e2⟩:=Zv kk ts _ _ r2;have e0:=kk _ _ ⟨_,r1⟩;refine⟨by rw[List.map_cons,e0,e1],λv hv=>?_⟩;rcases List.mem_cons.mp hv with rfl|hv
   ·rw[e0];exact⟨_,r1⟩
   ·exact e2 v hv
theorem cr_sortedT {X:Cx}(hu:X.A.units+65<cLine):CallR X (.builtin "sorted") (rSortedT X.K):=by
  intro pins s σ H vs us Q I r h;obtain⟨a,xs,ts,rfl,hs,hd,hx,ho,hg,q⟩:=h;obtain⟨its,b6,hl,hz⟩:∃its:List Value,Vals xs its/\(s.heap.IsList a its.toArray\/s.heap.IsTuple a its.toArray)/\xs.length<=sizeLine:=by
    rcases hs with hs|hs
    · obtain⟨its,b6,hl,hz⟩:=I.list hs
      exact⟨its,b6,.inl hl.isList,hz⟩
    · obtain⟨its,b6,hl,hz⟩:=I.tuple hs
      exact⟨its,b6,.inr hl,hz⟩
  obtain⟨u,rfl,lP⟩:=vals1 r;obtain rfl:u=Value.ref a:=lP;obtain⟨e1,e2⟩:=refs_back b6 hx;obtain⟨as,ra⟩:=Dp.readsAll I _ _ _ hd b6;obtain⟨k,kk⟩:∃k:Value->aQ,∀v t,lY s.heap v t->k v=t:=by
    classical
    refine⟨λv=>if h:∃t,lY s.heap v t then h.choose else .i 0,λv t ht=>?_⟩;have hh:∃t,lY s.heap v t:=⟨t,ht⟩;show(if h:∃t,lY s.heap v t then h.choose else .i 0)=t
    rw[dif_pos hh];obtain⟨a1,r1⟩:=hh.choose_spec;obtain⟨a2,r2⟩:=ht;exact HE _ _ _ _ _ r1 r2
  obtain⟨em,hk⟩:=Zv kk ts its as ra;have mt:∀v∈its,k v∈ts:=λv hv=>by rw[<-em];exact List.mem_map.mpr ⟨v,hv,rfl⟩
  have ln:its.length=ts.length:=by rw[<-em,List.length_map]
  have both:∀{Q:Value->Shared->Prop},(2<=its.length->∀(lI:Heap) (c:Addr),lI.get? c=some (seqObj "list" its.toArray 0)->(∀b o,s.heap.get? b=some o->b≠c/\lI.get? b=some o)->SrtO.SortableO X.prog X.w X.A.in1.in1 {s with heap:=lI} c its λv u=>fu (k v) (k u))->
      (∀out:List Value,SrtO.Srtd (λv u=>fu (k v) (k u)) out->SrtO.Stb (λv u=>fu (k v) (k u)) out its->Q (.ref (s.heap.objs.size+1)) {s with heap:=sortedAll s.heap its out.toArray})->wpAny (model X.prog X.w) X.A (call (.builtin "sorted") [.ref a]) Q X.xe s:=by
    intro Q h1 h2;rcases hl with hl|hl
    · exact SrtO.sorted_ord (Ii k) hl (by rw[<-b6.length];exact hz) h1 h2
    · exact anW (Ii k) hl (by rw[<-b6.length];exact hz) h1 h2
  refine both (λh2 lI c hc kp=>?_) λout h1 h2=>?_
  · obtain⟨g1,g2⟩:=hg (by omega)
    refine aoY (s:={s with heap:=lI}) (by omega) (λv hm=>(hk v hm).keep λb o e _=>(kp b o e).2) e2 (λv hm=>ho _ (mt v hm)) (λv hm u zf=>g1 _ (mt v hm) _ (mt u zf)) ?_ (by show X.A.units+1+1+61<_;omega) λo e=>?_
    · rcases g2 with g2|g2
      · exact .inl λv hm=>g2 _ (mt v hm)
      · exact .inr λv hm=>g2 _ (mt v hm)
    · have g9:some o=some (seqObj "list" its.toArray 0):=e.symm.trans hc
      cases g9
      intro c;exact absurd (Value.type.inj c) (by decide)
  · have h3:∀u∈out,∃a,u=Value.ref a:=λu hu=>e2 u (h2.perm.mem_iff.mp hu)
    obtain⟨n,hn⟩:=sortedAll_at s.heap its out.toArray;refine⟨.ref _,upd H _ (.lst (out.map backV)),I.laid (t':=s.toks) (λb o e=>sortedAll_old e) (Nat.le_succ _) ⟨?_,out,n,vals_back h3,hn⟩,rfl,q _ _ ?_ ?_ (I.hok.fresh (Nat.le_succ _))⟩
    · rw[List.length_map,h2.len,ln]
      rw[e1,List.length_map,ln]at hz;exact hz
    · refine⟨λx=>k (UN x),?_,?_⟩
      · rw[e1,List.map_map,<-em]
        refine List.map_congr_left λu hu=>?_
        obtain⟨c,rfl⟩:=e2 u hu;rfl
      · rw[List.map_map]
        have z:out.map ((λx=>k (UN x))∘backV)=out.map k:=List.map_congr_left λu hu=>by
          obtain⟨c,rfl⟩:=h3 u hu;rfl
        rw[z];refine P_ (((h2.perm.map k).trans (by rw[em])).trans (nP ts).symm) ?_ (H6 ts);exact SrtO.srtd_map (lt:=fu) h1
    · rw[e1]
      exact h2.perm.map backV
mutual
def eF:D->Option aQ
 | .int n=>some (.i n)
 | .tup ds=>(gq ds).map .t
 |_=>none
def gq:List D->Option (List aQ)
 |[]=>some []
 |d::ds=>match eF d,gq ds with
  |some t,some ts=>some (t::ts)
  |_,_=>none
end
mutual
def dU:aQ->D
 | .i n=>.int n
 | .t ts=>.tup (gT ts)
def gT:List aQ->List D
 |[]=>[]
 |t::ts=>dU t::gT ts
end
theorem Bp:∀ts:List aQ,gT ts=ts.map dU
 |[]=>by unfold gT;rfl
 |t::ts=>by unfold gT;rw[Bp ts];rfl
mutual
theorem Qt:∀{d:D} {t:aQ},eF d=some t->d=dU t/\py d=bP t
 | .int n,t,h=>by
  unfold eF at h;cases h
  exact⟨by unfold dU;rfl,by unfold py bP;rfl⟩
 | .tup ds,t,h=>by
  unfold eF at h;cases e:gq ds with
  |none=>rw[e]at h;cases h
  |some ts=>
   rw[e]at h;cases h
   obtain⟨e1,e2⟩:=Ac e;exact⟨by unfold dU;rw[e1],by unfold py bP;rw[e2]⟩
 | .non,t,h=>by unfold eF at h;cases h
 | .bl _,t,h=>by unfold eF at h;cases h
 | .str _,t,h=>by unfold eF at h;cases h
 | .lst _,t,h=>by unfold eF at h;cases h
 | .dK _,t,h=>by unfold eF at h;cases h
 | .dT _,t,h=>by unfold eF at h;cases h
 | .ins _ _,t,h=>by unfold eF at h;cases h
 | .fC _,t,h=>by unfold eF at h;cases h
 | .exc _ _,t,h=>by unfold eF at h;cases h
 | .fF _ _,t,h=>by unfold eF at h;cases h
 | .lam _,t,h=>by unfold eF at h;cases h
theorem Ac:∀{ds:List D} {ts:List aQ},gq ds=some ts->ds=gT ts/\e_ ds=bI ts
 |[],ts,h=>by
  unfold gq at h;cases h
  exact⟨by unfold gT;rfl,by unfold e_ bI;rfl⟩
 |d::ds,ts,h=>by
  unfold gq at h;cases e1:eF d with
  |none=>rw[e1]at h;cases h
  |some t=>
   cases e2:gq ds with
   |none=>rw[e1,e2]at h;cases h
   |some aap=>
    rw[e1,e2]at h;cases h
    obtain⟨a1,a2⟩:=Qt e1;obtain⟨cP,b2⟩:=Ac e2;exact⟨by unfold gT;rw[a1,cP],by unfold e_ bI;rw[a2,b2]⟩
end
def VY:aQ->Bool
 | .t _=>true
 |_=>false
def zR (ts:List aQ):Bool:=ts.all VY&&(decide (ts.length<2)||(ts.all (λx=>ts.all λy=>jm x y)&&(ts.all pZ||ts.all wY)))
def CZ (M:List ak):af->Option (List D)
 | .dat (.tup ds)=>some ds
 |s=>iM M s
def rQ (m:Bool)(M:List ak):List af->Option (af×List ak)
 |[s]=>match CZ M s with
  |some ds=>if ez 57 ds then match gq ds with
   |some ts=>if zR ts then some (d9 m M ((mF ts).map dU))else none
   |none=>none
   else none
  |none=>none
 |_=>none
section
variable[aT]
theorem ZI {K:Frag}{G:Hp}{c7:V->aQ}:∀{xs:List V} {ts:List aQ},b8 K G xs (ts.map dU)->xs.map c7=ts->∀x∈xs,cg K G x (dU (c7 x))
 |[],_,_,_,x,hx=>by simp at hx
 |v::vs,[],_,e,_,_=>by simp at e
 |v::vs,t::ts,.cons r1 r2,e,x,hx=>by
  rw[List.map_cons,List.cons.injEq]at e;rcases List.mem_cons.mp hx with rfl|hx
  ·rw[e.1];exact r1
  ·exact ZI r2 e.2 x hx
theorem ZJ {K:Frag}{G:Hp}{c7:V->aQ}:∀{aB:List V} {ts:List aQ},(∀x∈aB,cg K G x (dU (c7 x)))->aB.map c7=ts->b8 K G aB (ts.map dU)
 |[],ts,_,e=>by rw[<-e];exact .nil
 |y::aB,ts,h,e=>by
  rw[<-e,List.map_cons,List.map_cons];exact .cons (h y List.mem_cons_self) (ZJ (λx hx=>h x (List.mem_cons_of_mem _ hx)) rfl)
theorem ZK {K:Frag}{G:Hp}:∀{xs:List V} {ts:List aQ},b8 K G xs (ts.map dU)->ts.all VY=true->∀x∈xs,∃a,x=V.ref a
 |[],_,_,_,x,hx=>by simp at hx
 |v::vs,[],r,_,_,_=>by cases r
 |v::vs,t::ts,.cons r1 r2,h,x,hx=>by
  rw[List.all_cons,Bool.and_eq_true]at h;rcases List.mem_cons.mp hx with rfl|hx
  ·cases t with
   |i _=>cases h.1
   |t aap=>
    unfold dU at r1;cases r1
    exact⟨_,rfl⟩
  ·exact ZK r2 h.2 x hx
theorem ao2 {K:Frag}{aa:List Addr}{G H:Hp}{M:List ak}{v:V}{s:af}{ds:List D}(ms:aK K aa G M H)(r:bF K aa G v s)(h:CZ M s=some ds):∃p vs,v=V.ref p/\(SqL K H p vs\/SqT K H p vs)/\b8 K G vs ds:=by
 unfold CZ at h;split at h
 ·rename_i arq
  cases h
  have r:cg K G v (.tup ds):=r;cases r with
  |tup hq r=>exact⟨_,_,rfl,.inr (ms.le.t (.inl (.inl hq))),r⟩
 ·obtain⟨p,vs,e2,e3,e4⟩:=nG ms r (qh h)
  exact⟨p,vs,e2,.inl (SqL.of e3),bM.toRps e4⟩
theorem aa3 {X:Cx}(hu:X.A.units+65<cLine)(jd:Bool):qG X (r5 X (.builtin "sorted")) (pu (rQ jd)):=Ai (Ah (cr_sortedT hu) λss M s az aa G H vs Q e ms r q=>by
  unfold rQ at e;split at e
  · rename_i t
    split at e
    · rename_i ds hd
      split at e
      · rename_i hpl
        cases jH:gq ds with
        |none=>rw[jH]at e;cases e
        |some ts=>
          rw[jH]at e
          dsimp only at e
          split at e
          · rename_i hok
            have e:d9 jd M ((mF ts).map dU)=(s,az):=Option.some.inj e;obtain⟨ed,gu⟩:=Ac jH;cases r with
            |cons r cW=>
              cases cW
              obtain⟨p,vs,e2,e3,q3⟩:∃p vs,_=V.ref p/\(SqL X.K H p vs\/SqT X.K H p vs)/\b8 X.K G vs ds:=ao2 ms r hd;have dp:=CC ms.le 57 ds vs hpl q3;have lay:=Hv 57 ds hpl;rw[gu]at dp lay;rw[ed,Bp]at q3;unfold zR at hok;obtain⟨k1,k2⟩:=Bool.and_eq_true_iff.mp hok;refine⟨p,vs,ts,by rw[e2],e3,dp,ZK q3 k1,λt ht=>?_,λh2=>?_,λaB l agN hp hl=>?_⟩
              · have dm:∀{ts:List aQ},t∈ts->(bP t).depth<=PyData.depthAll (bI ts):=by
                  intro ts;induction ts with
                  |nil=>intro h;simp at h
                  |cons a ts ih=>
                    intro h;unfold bI;show _<=max (bP a).depth (PyData.depthAll (bI ts))
                    rcases List.mem_cons.mp h with rfl|h
                    · omega
                    · have:=ih h;omega
                have:=dm ht;unfold Br;omega
              · rw[decide_eq_false (by omega),Bool.false_or,Bool.and_eq_true,Bool.or_eq_true]at k2
                obtain⟨c1,c2⟩:=k2;refine⟨λx hx y hy=>?_,?_⟩
                · exact List.all_eq_true.mp (List.all_eq_true.mp c1 x hx) y hy
                · rcases c2 with c2|c2
                  · exact .inl λx hx=>List.all_eq_true.mp c2 x hx
                  · exact .inr λx hx=>List.all_eq_true.mp c2 x hx
              · obtain⟨c7,k3,k4⟩:=agN
                have alu:=ZI q3 k3;exact zL (m:=jd) ms (ZJ (λx hx=>alu x (hp.mem_iff.mp hx)) k4) (by rw[e];exact q) hl
          · cases e
      · cases e
    · cases e
  · cases e)
end
end R
namespace R
open PySem PySem.Spec PyProof.Rows L2
variable[aT]
def yQ (f:CE):CE:=λρ=>(f ρ).bind λs=>(frz s).bind λd=>ok (.dat d)
section
variable{X:Cx}{W:WX}{e o:Expr}{aE bC:CE}
theorem anj (h1:bf X W e aE):bf X W e (yQ aE):=⟨λρ M aa G σ H Q ms en h=>
 h1.seq ms en h λay au M1 H1 v s g1 m1 r1 aD=>by
  have aD:wp (Ev.bind (frz s) (λd=>ok (.dat d)) M1) (dB X W (bF X.K) Q σ ay au H1):=aD;obtain⟨d,M2,e1,q⟩:=ji.mp (cL.mp aD);obtain⟨aV,m2,g2,r2⟩:=wZ m1 r1 e1;exact(show dB X W (bF X.K) Q σ ay au H1 (.ok (.dat d) M2)from q) ay aV H1 v g2 m2 r2⟩
end
end R
namespace R
open PySem PySem.Spec PyProof.Rows L2
variable[aT]
end R
namespace R
open PySem PySem.Spec PyProof.Rows L2
variable[aT]
def pY {α:Type}(kvs:List (List Key×α))(k:List Key):Option α:=(kvs.find? λp=>decide (p.1=k)).map (·.2)
def adV {α:Type}(kvs:List (List Key×α))(k:List Key):Bool:=kvs.any λp=>decide (p.1=k)
def adW {α:Type}(kvs:List (List Key×α))(k:List Key)(v:α):List (List Key×α):=
 if adV kvs k then kvs.map (λp=>if p.1=k then(p.1,v)else p)else kvs++[(k,v)]
def ahS:D->Option Key
 | .int i=>some (.inl i)
 | .str x=>some (.inr x)
 |_=>none
def Gb:List D->Option (List Key)
 |[]=>some []
 |d::ds=>match ahS d,Gb ds with
  |some k,some ks=>some (k::ks)
  |_,_=>none
def TQ:Key->D
 | .inl i=>.int i
 | .inr x=>.str x
def uH (ks:List Key):D:=.tup (ks.map TQ)
def WA:af->Option (List Key)
 | .dat (.tup ds)=>Gb ds
 |_=>none
def TN (M:List ak)(x:af)(k:List Key):Option (Option af):=match x with
 | .dat (.dT kvs)=>some ((pY kvs k).map .dat)
 | .mu j=>match M[j]? with
  |some (.dT kvs)=>some ((pY kvs k).map (fB M))
  |_=>none
 |_=>none
def Ce (M:List ak)(x y:af):Option (af×List ak):=match WA y with
 |some k=>match TN M x k with
  |some (some s)=>some (s,M)
  |_=>none
 |none=>aO M x y
def adX (kvs:List (List Key×D))(d:D):List (List Key×D):=match d with
 | .dT [(k,v)]=>adW kvs k v
 |_=>kvs
def ae3 (acc:List D):List (List Key×D):=acc.foldl adX []
structure IE (K:Frag)(bD:Addr)(ay:List Addr)(au H1:Hp)(acc:List D)(aq:List Addr)(aj:Hp)(az:List ak)(H':Hp):Prop where
 g_:aJ ay au H1 aq aj H'
 out:bD∉aq
 qb:aj bD=none
 ms:aK K aq aj az H'
 at_:∃vs,H' bD=some (.dT vs)/\pO K aj vs (ae3 acc)
theorem IE.grow {K:Frag}{bD:Addr}{ay aq aU:List Addr}{au H1 aj H' aV aS:Hp}{acc:List D}{az M2:List ak}(a:IE K bD ay au H1 acc aq aj az H')(g:aJ aq aj H' aU aV aS)(m:aK K aU aV M2 aS):IE K bD ay au H1 acc aU aV M2 aS:=by
 obtain⟨vs,hv,b6⟩:=a.at_;obtain⟨n2,BR,dH⟩:=Fl g a.out a.qb hv;exact⟨a.g_.trans g,n2,BR,m,vs,dH,b6.mono g.ex⟩
def K4 (M:List ak)(s:af):Option (List (List Key)):=match s with
 | .dat (.dT kvs)=>some (kvs.map (·.1))
 | .mu j=>match M[j]? with
  |some (.dT kvs)=>some (kvs.map (·.1))
  |_=>none
 |_=>none
def Gu (m:Bool)(M:List ak):List af->Option (af×List ak):=λss=>match ss.head?.bind (K4 M)with
 |some ks=>if ss.length=1 then some (d9 m M (ks.map uH))else none
 |none=>uq m M ss
end R
namespace R
open PySem PySem.Spec PyProof.Rows L2 PySem.W PySem.Calls
def Mg (as:List Addr)(cK:List Fk)(fn:List fT)(en:List gB):PySem.W.Hook where
 α:=tS
 obs:=λs=>vD as cK fn en s.heap.get?
 val:=λ_=>valE fn en
 says:=λ_ h=>∃K:Frag,K.In h/\SaysE cK fn en K
 of:=λ_ _ q=>⟨_,He.frG_in,q⟩
 keeps:=λ_ _ _ ⟨K,i,c⟩ k=>⟨K,Frag.In.keeps i k,c⟩
theorem akp {as:List Addr}{cK:List Fk}{fn:List fT}{en:List gB}{g:Addr->Option Obj}{s:Shared}(h:∀a,g a=s.heap.get? a):vD as cK fn en g=(Mg as cK fn en).obs s:=by
 have e:g=s.heap.get?:=funext h;rw[e]<;>rfl
theorem ako {f1 f2:List Fk}{d1 d2:List fT}{e1 e2:List gB}{K:Frag}(h1:obsE f1 d1 e1 K=valE d1 e1)(h2:obsE f2 d2 e2 K=valE d2 e2):obsE (f1++f2) (d1++d2) (e1++e2) K=valE (d1++d2) (e1++e2):=by
 unfold obsE valE at *;rw[Prod.mk.injEq,Prod.mk.injEq]at h1 h2;obtain⟨a1,cP,c1⟩:=h1;obtain⟨a2,b2,c2⟩:=h2;rw[Bool.and_eq_true,Bool.and_eq_true]at a1 a2;rw[List.map_append,List.map_append,List.map_append,List.map_append,cP,b2,c1,c2,List.all_append,List.all_append,List.all_append,a1.1.1,a1.1.2,a1.2,a2.1.1,a2.1.2,a2.2];rfl
theorem akq {as:List Addr}{f1 f2:List Fk}{d1 d2:List fT}{e1 e2:List gB}{g:Addr->Option Obj}(h1:vD as f1 d1 e1 g=valE d1 e1)(h2:vD as f2 d2 e2 g=valE d2 e2):vD as (f1++f2) (d1++d2) (e1++e2) g=valE (d1++d2) (e1++e2):=ako h1 h2
theorem yd.join {r:PySem.W.OpenRow}{M:Nat}{as:List Addr}{f1 f2:List Fk}{d1 d2:List fT}{e1 e2:List gB}{w:World}(h1:yd r M as f1 d1 e1 w)(h2:yd r M as f2 d2 e2 w):yd r M as (f1++f2) (d1++d2) (e1++e2) w:=λos=>by
 obtain⟨s,hs,a⟩:=Option.map_eq_some_iff.mp (h1 os);obtain⟨s2,mQ,b⟩:=Option.map_eq_some_iff.mp (h2 os);rw[hs]at mQ;cases mQ
 rw[hs];exact congrArg some (akq a b)
theorem alK {r:PySem.W.OpenRow}{q:Program}{M:Nat}{as:List Addr}{cK:List Fk}{dl:List fT}{el:List gB}{loose:List Str}{w:World}(h1:Q2 r q M loose w)(h2:yd r M as cK dl el w):HandSHeadRun.RunEq r q (Mg as cK dl el) (λs=>vD as cK dl el (HandSHeadRun.getT s)) M loose w:=λos=>by
 obtain⟨s,hs,a⟩:=Option.map_eq_some_iff.mp (h1 os);obtain⟨s2,mQ,b⟩:=Option.map_eq_some_iff.mp (h2 os);rw[hs]at mQ;cases mQ
 obtain⟨a1,a2⟩:=Prod.mk.injEq .. ▸a;show Option.map _ _=some (true,PySem.W.openGood q loose,valE dl el)
 rw[hs];exact congrArg some (Prod.ext a1 (Prod.ext a2 b))
end R
namespace R
open PySem PySem.Spec PyProof.Rows L2
variable[aT]
end R
namespace DX
open PySem PySem.W PySem.Calls PyProof.Rows PyProof.V PySem.Spec
end DX
namespace DX
open PySem PySem.W PySem.Calls PyProof.Rows PyProof.V PySem.Spec L2
end DX
namespace R
open PySem PySem.Spec PyProof.Rows L2
variable[aT]
end R
namespace R
open PySem PySem.Spec PyProof.Rows L2
variable[aT]
end R
namespace R
open PySem PySem.Spec PyProof.Rows L2
variable[aT]
end R
namespace DX
open PySem PySem.W PySem.Calls PyProof.Rows PyProof.V PySem.Spec
end DX
namespace DX
open PySem PySem.W PySem.Calls PyProof.Rows PyProof.V PySem.Spec L2
end DX
namespace R
open PySem PySem.Spec PyProof.Rows L2
variable[aT]
section
variable{X:Cx}{W:WX}{o e:Expr}{aE bC:CE}{pos apos:Pos}
def ae9 (g:Str->Str->List ak->Option (af×List ak))(aE bC:CE):CE:=λρ=>(aE ρ).bind λx=>(u5 x).bind λu=>(bC ρ).bind λy=>(u5 y).bind λz=>ofM λM=>g u z M
def ao1 (a b:Str)(M:List ak):Option (af×List ak):=if(b.length==0)=false/\a.length+2<=sizeLine then some (.dat (.lst ((Txt.split a b).map .str)),M)else none
end
end R
namespace R
open PySem PySem.Spec PyProof.Rows L2
namespace Sf
def iO (x y:Str):Bool:=decide (x.cps.toList<y.cps.toList)
theorem OV (x:Str):iO x x=false:=decide_eq_false (List.lt_irrefl _)
theorem alR {x y:Str}(h:iO x y=true):iO y x=false:=decide_eq_false λq=>absurd (of_decide_eq_true h) (List.lt_asymm q)
theorem aab {x y:Str}(h:x.cps.toList=y.cps.toList):x=y:=by
 cases x;cases y;simp only[Str.mk.injEq];exact Array.toList_inj.mp h
theorem ZU {x y:Str}(h1:iO x y=false)(h2:iO y x=false):x=y:=by
 refine aab ?_;have a:=of_decide_eq_false h1;have b:=of_decide_eq_false h2;exact List.le_antisymm (List.not_lt.mp b) (List.not_lt.mp a)
theorem alS {x y z:Str}(h1:iO x y=true)(h2:iO y z=true):iO x z=true:=decide_eq_true (List.lt_trans (of_decide_eq_true h1) (of_decide_eq_true h2))
inductive aQ where
 |i (n:Int)
 |s (z:Str) (h:PyData.strOk z=true)
 |t (xs:List aQ)
mutual
def bq:aQ->aQ->Ordering
 | .i a,.i b=>if a<b then .lt else if a=b then .eq else .gt
 | .s a _,.s b _=>if iO a b then .lt else if iO b a then .gt else .eq
 | .i _,.s _ _=>.lt
 | .s _ _,.i _=>.gt
 | .i _,.t _=>.lt
 | .t _,.i _=>.gt
 | .s _ _,.t _=>.lt
 | .t _,.s _ _=>.gt
 | .t xs,.t aB=>bZ xs aB
def bZ:List aQ->List aQ->Ordering
 |[],[]=>.eq
 |[],_::_=>.lt
 |_::_,[]=>.gt
 |x::xs,y::aB=>(bq x y).then (bZ xs aB)
end
mutual
theorem yK:∀x y:aQ,bq y x=(bq x y).swap
 | .i a,.i b=>by
  unfold bq;by_cases h1:a<b
  ·rw[if_pos h1,if_neg (by omega),if_neg (by omega)];rfl
  ·by_cases h2:a=b
   ·subst h2;rw[if_neg h1,if_pos rfl];rfl
   ·rw[if_neg h1,if_neg h2,if_pos (by omega)];rfl
 | .s a _,.s b _=>by
  unfold bq;cases h1:iO a b with
  |true=>rw[alR h1];rfl
  |false=>cases h2:iO b a<;>rfl
 | .i _,.s _ _=>by unfold bq;rfl
 | .s _ _,.i _=>by unfold bq;rfl
 | .i _,.t _=>by unfold bq;rfl
 | .t _,.i _=>by unfold bq;rfl
 | .s _ _,.t _=>by unfold bq;rfl
 | .t _,.s _ _=>by unfold bq;rfl
 | .t xs,.t aB=>by unfold bq;exact Bl xs aB
theorem Bl:∀xs aB:List aQ,bZ aB xs=(bZ xs aB).swap
 |[],[]=>by unfold bZ;rfl
 |[],_::_=>by unfold bZ;rfl
 |_::_,[]=>by unfold bZ;rfl
 |x::xs,y::aB=>by
  unfold bZ;rw[yK x y,Bl xs aB];cases bq x y<;>rfl
end
mutual
theorem sF:∀{x y:aQ},bq x y=.eq->x=y
 | .i a,.i b,h=>by
  unfold bq at h;by_cases h1:a<b
  ·rw[if_pos h1]at h;cases h
  ·by_cases h2:a=b
   ·rw[h2]
   ·rw[if_neg h1,if_neg h2]at h;cases h
 | .s a _,.s b _,h=>by
  unfold bq at h;cases h1:iO a b with
  |true=>rw[h1]at h;cases h
  |false=>
   cases h2:iO b a with
   |true=>rw[h1,h2]at h;cases h
   |false=>cases ZU h1 h2;rfl
 | .i _,.s _ _,h=>by unfold bq at h;cases h
 | .s _ _,.i _,h=>by unfold bq at h;cases h
 | .i _,.t _,h=>by unfold bq at h;cases h
 | .t _,.i _,h=>by unfold bq at h;cases h
 | .s _ _,.t _,h=>by unfold bq at h;cases h
 | .t _,.s _ _,h=>by unfold bq at h;cases h
 | .t xs,.t aB,h=>by unfold bq at h;rw[Bj h]
theorem Bj:∀{xs aB:List aQ},bZ xs aB=.eq->xs=aB
 |[],[],_=>rfl
 |[],_::_,h=>by unfold bZ at h;cases h
 |_::_,[],h=>by unfold bZ at h;cases h
 |x::xs,y::aB,h=>by
  unfold bZ at h;cases e:bq x y with
  |lt=>rw[e]at h;cases h
  |gt=>rw[e]at h;cases h
  |eq=>rw[e]at h;rw[sF e,Bj h]
end
mutual
theorem ED:∀x:aQ,bq x x=.eq
 | .i a=>by unfold bq;rw[if_neg (by omega),if_pos rfl]
 | .s a _=>by unfold bq;rw[OV];rfl
 | .t xs=>by unfold bq;exact Bk xs
theorem Bk:∀xs:List aQ,bZ xs xs=.eq
 |[]=>by unfold bZ;rfl
 |x::xs=>by unfold bZ;rw[ED x,Bk xs];rfl
end
mutual
theorem EE:∀{x y z:aQ},bq x y=.lt->bq y z=.lt->bq x z=.lt
 | .i a,.i b,.i c,h1,h2=>by
  unfold bq at *;have e1:a<b:=by
   by_cases h:a<b
   ·exact h
   ·rw[if_neg h]at h1;split at h1<;>cases h1
  have e2:b<c:=by
   by_cases h:b<c
   ·exact h
   ·rw[if_neg h]at h2;split at h2<;>cases h2
  rw[if_pos (by omega)]
 | .s a _,.s b _,.s c _,h1,h2=>by
  unfold bq at *;have e1:iO a b=true:=by
   cases h:iO a b with
   |true=>rfl
   |false=>rw[h]at h1;simp at h1;split at h1<;>cases h1
  have e2:iO b c=true:=by
   cases h:iO b c with
   |true=>rfl
   |false=>rw[h]at h2;simp at h2;split at h2<;>cases h2
  rw[if_pos (alS e1 e2)]
 | .i _,.i _,.s _ _,_,_=>by unfold bq;rfl
 | .i _,.i _,.t _,_,_=>by unfold bq;rfl
 | .i _,.s _ _,.i _,_,h2=>by unfold bq at h2;cases h2
 | .i _,.s _ _,.s _ _,_,_=>by unfold bq;rfl
 | .i _,.s _ _,.t _,_,_=>by unfold bq;rfl
 | .i _,.t _,.i _,_,h2=>by unfold bq at h2;cases h2
 | .i _,.t _,.s _ _,_,h2=>by unfold bq at h2;cases h2
 | .i _,.t _,.t _,_,_=>by unfold bq;rfl
 | .s _ _,.i _,_,h1,_=>by unfold bq at h1;cases h1
 | .s _ _,.s _ _,.i _,_,h2=>by unfold bq at h2;cases h2
 | .s _ _,.s _ _,.t _,_,_=>by unfold bq;rfl
 | .s _ _,.t _,.i _,_,h2=>by unfold bq at h2;cases h2
 | .s _ _,.t _,.s _ _,_,h2=>by unfold bq at h2;cases h2
 | .s _ _,.t _,.t _,_,_=>by unfold bq;rfl
 | .t _,.i _,_,h1,_=>by unfold bq at h1;cases h1
 | .t _,.s _ _,_,h1,_=>by unfold bq at h1;cases h1
 | .t _,.t _,.i _,_,h2=>by unfold bq at h2;cases h2
 | .t _,.t _,.s _ _,_,h2=>by unfold bq at h2;cases h2
 | .t xs,.t aB,.t zs,h1,h2=>by unfold bq at *;exact Bm h1 h2
theorem Bm:∀{xs aB zs:List aQ},bZ xs aB=.lt->bZ aB zs=.lt->bZ xs zs=.lt
 |[],[],_,h1,_=>by unfold bZ at h1;cases h1
 |[],_::_,[],_,h2=>by unfold bZ at h2;cases h2
 |[],_::_,_::_,_,_=>by unfold bZ;rfl
 |_::_,[],_,h1,_=>by unfold bZ at h1;cases h1
 |_::_,_::_,[],_,h2=>by unfold bZ at h2;cases h2
 |x::xs,y::aB,z::zs,h1,h2=>by
  unfold bZ at *;cases e1:bq x y with
  |gt=>rw[e1]at h1;cases h1
  |eq=>
   obtain rfl:=sF e1;rw[e1]at h1;cases e2:bq x z with
   |gt=>rw[e2]at h2;cases h2
   |lt=>rfl
   |eq=>rw[e2]at h2;exact Bm h1 h2
  |lt=>
   cases e2:bq y z with
   |gt=>rw[e2]at h2;cases h2
   |eq=>
    obtain rfl:=sF e2;rw[e1];rfl
   |lt=>rw[EE e1 e2];rfl
end
def fu (x y:aQ):Bool:=bq x y==.lt
mutual
def bP:aQ->PyData
 | .i n=>.int n
 | .s z _=>.str z
 | .t xs=>.tuple (bI xs)
def bI:List aQ->List PyData
 |[]=>[]
 |x::xs=>bP x::bI xs
end
mutual
def jm:aQ->aQ->Bool
 | .i _,.i _=>true
 | .s _ _,.s _ _=>true
 | .t xs,.t aB=>mP xs aB
 |_,_=>false
def mP:List aQ->List aQ->Bool
 |x::xs,y::aB=>jm x y&&mP xs aB
 |_,_=>true
end
def kJ:List aQ->List aQ->Nat->Ordering
 |x::_,y::_,0=>bq x y
 |_::xs,_::aB,j+1=>kJ xs aB j
 |_,_,_=>.eq
mutual
theorem uI:∀t:aQ,(bP t).canLay0=true
 | .i _=>by unfold bP;rfl
 | .s _ h=>by unfold bP;exact h
 | .t xs=>by unfold bP;exact C9 xs
theorem C9:∀ts:List aQ,PyData.canLayAll0 (bI ts)=true
 |[]=>by unfold bI;rfl
 |t::ts=>by
  unfold bI;show((bP t).canLay0&&PyData.canLayAll0 (bI ts))=true
  rw[uI t,C9 ts];rfl
end
mutual
theorem yW:∀x y:aQ,PyData.eqv (bP x) (bP y)=(bq x y==.eq)
 | .i a,.i b=>by
  unfold bP bq PyData.eqv;by_cases h1:a<b
  ·rw[if_pos h1,beq_eq_false_iff_ne.mpr (by omega)];rfl
  ·by_cases h2:a=b
   ·subst h2;rw[if_neg h1,if_pos rfl,beq_self_eq_true];rfl
   ·rw[if_neg h1,if_neg h2,beq_eq_false_iff_ne.mpr h2];rfl
 | .s a _,.s b _=>by
  unfold bP bq PyData.eqv;cases h1:iO a b with
  |true=>
   have:a≠b:=λq=>by rw[q,OV]at h1;cases h1
   rw[beq_eq_false_iff_ne.mpr this];rfl
  |false=>
   cases h2:iO b a with
   |true=>
    have:a≠b:=λq=>by rw[q,OV]at h2;cases h2
    rw[beq_eq_false_iff_ne.mpr this];rfl
   |false=>rw[ZU h1 h2,beq_self_eq_true];rfl
 | .i _,.s _ _=>by unfold bP bq PyData.eqv;rfl
 | .s _ _,.i _=>by unfold bP bq PyData.eqv;rfl
 | .i _,.t _=>by unfold bP bq PyData.eqv;rfl
 | .t _,.i _=>by unfold bP bq PyData.eqv;rfl
 | .s _ _,.t _=>by unfold bP bq PyData.eqv;rfl
 | .t _,.s _ _=>by unfold bP bq PyData.eqv;rfl
 | .t xs,.t aB=>by
  unfold bP bq PyData.eqv;exact BD xs aB
theorem BD:∀xs aB:List aQ,PyData.eqvAll (bI xs) (bI aB)=(bZ xs aB==.eq)
 |[],[]=>by unfold bI bZ PyData.eqvAll;rfl
 |[],_::_=>by unfold bZ;simp only[bI,PyData.eqvAll];rfl
 |_::_,[]=>by unfold bZ;simp only[bI,PyData.eqvAll];rfl
 |x::xs,y::aB=>by
  unfold bZ;simp only[bI,PyData.eqvAll];rw[yW x y,BD xs aB];cases bq x y<;>rfl
end
theorem Cj {e r:Nat->Bool}:∀(xs aB:List aQ) (i:Nat),(∀j,j<xs.length->j<aB.length->e (i+j)=(kJ xs aB j==.eq))->(∀j,j<xs.length->j<aB.length->r (i+j)=(kJ xs aB j==.lt))->
    Ob.lexAt e r (decide (xs.length<aB.length)) i (min xs.length aB.length)=(bZ xs aB==.lt)
  |[],[],i,_,_=>by unfold bZ;rfl
  |[],y::aB,i,_,_=>by
    unfold bZ;rw[List.length_nil,Nat.zero_min,Ob.lexAt_zero,decide_eq_true (by simp)];rfl
  |x::xs,[],i,_,_=>by
    unfold bZ;rw[List.length_nil,Nat.min_zero,Ob.lexAt_zero,decide_eq_false (by simp)];rfl
  |x::xs,y::aB,i,he,hr=>by
    have ih:=Cj xs aB (i+1) (λj h1 h2=>by
      have:=he (j+1) (by simp;omega) (by simp;omega);rw[show i+1+j=i+(j+1) by omega];exact this) (λj h1 h2=>by
      have:=hr (j+1) (by simp;omega) (by simp;omega);rw[show i+1+j=i+(j+1) by omega];exact this)
    have e0:e i=(bq x y==.eq):=he 0 (by simp) (by simp);have r0:r i=(bq x y==.lt):=hr 0 (by simp) (by simp);rw[List.length_cons,List.length_cons,show min (xs.length+1) (aB.length+1)=min xs.length aB.length+1 by omega,Ob.lexAt_succ,e0,r0,
      show decide (xs.length+1<aB.length+1)=decide (xs.length<aB.length) by by_cases h:xs.length<aB.length<;>simp[h],ih,show bZ (x::xs) (y::aB)=(bq x y).then (bZ xs aB) by conv=>lhs;unfold bZ]
    cases bq x y<;>rfl
theorem readsAll_len {h:Heap}:∀{ts:List aQ} {us:List Value} {as:List Addr},ReadsAll h us (bI ts) as->us.length=ts.length
 |[],us,as,r=>by unfold bI at r;cases r;rfl
 |t::ts,us,as,r=>by
  unfold bI at r;cases r with
  |cons r1 r2=>rw[List.length_cons,List.length_cons,readsAll_len r2]
theorem BC:∀(xs aB:List aQ) (A:Around) (s:Shared) (us vs:List Value) (as bs:List Addr),ReadsAll s.heap us (bI xs) as->ReadsAll s.heap vs (bI aB) bs->A.units+PyData.depthAll (bI xs)<cLine->∀j (h1:j<us.length) (h2:j<vs.length),SeqAt.EqAt A s us[j] vs[j] (kJ xs aB j==.eq)
 |[],aB,A,s,us,vs,as,bs,r1,r2,hu,j,h1,h2=>by unfold bI at r1;cases r1;exact absurd h1 (Nat.not_lt_zero _)
 |x::xs,[],A,s,us,vs,as,bs,r1,r2,hu,j,h1,h2=>by unfold bI at r2;cases r2;exact absurd h2 (Nat.not_lt_zero _)
 |x::xs,y::aB,A,s,us,vs,as,bs,r1,r2,hu,j,h1,h2=>by
  unfold bI at r1 r2;cases r1 with
  |cons a1 a2=>
   cases r2 with
   |cons cP b2=>
    have hu:A.units+max (bP x).depth (PyData.depthAll (bI xs))<cLine:=by unfold bI at hu;exact hu
    cases j with
    |zero=>
     have q:=SeqAt.eqAt_reads (bP x) (bP y) A s _ _ _ _ a1 cP (uI x) (uI y) (by omega);rw[yW]at q;exact q
    |succ j=>exact BC xs aB A s _ _ _ _ a2 b2 (by omega) j (by simpa using h1) (by simpa using h2)
mutual
theorem HD:∀(x y:aQ) (A:Around) (s:Shared) (u v:Value) (as bs:List Addr),Reads s.heap u (bP x) as->Reads s.heap v (bP y) bs->jm x y=true->A.units+(bP x).depth<cLine->Ob.RcOp .Lt A s u v (fu x y)
  | .i a,.i b,A,s,u,v,as,bs,r1,r2,_,_=>by
    unfold bP at r1 r2;cases r1
    cases r2
    have e:fu (.i a) (.i b)=decide (a<b):=by
      unfold fu bq;by_cases h:a<b
      · rw[if_pos h,decide_eq_true h];rfl
      · rw[if_neg h,decide_eq_false h];split<;>rfl
    rw[e];exact Ob.RcOp.lt_int _ _ _ _
  | .s a ha,.s b hb,A,s,u,v,as,bs,r1,r2,_,_=>by
    unfold bP at r1 r2;cases r1
    cases r2
    have e:fu (.s a ha) (.s b hb)=decide (a.cps.toList<b.cps.toList):=by
      unfold fu bq;show _=iO a b
      cases h1:iO a b with
      |true=>rfl
      |false=>cases h2:iO b a<;>rfl
    rw[e];exactλ_ _ _ _ h=>PySem.P.lt_str h
  | .i _,.s _ _,_,_,_,_,_,_,_,_,h,_=>by unfold jm at h;cases h
  | .s _ _,.i _,_,_,_,_,_,_,_,_,h,_=>by unfold jm at h;cases h
  | .s _ _,.t _,_,_,_,_,_,_,_,_,h,_=>by unfold jm at h;cases h
  | .t _,.s _ _,_,_,_,_,_,_,_,_,h,_=>by unfold jm at h;cases h
  | .i _,.t _,_,_,_,_,_,_,_,_,h,_=>by unfold jm at h;cases h
  | .t _,.i _,_,_,_,_,_,_,_,_,h,_=>by unfold jm at h;cases h
  | .t xs,.t aB,A,s,u,v,as,bs,r1,r2,hc,hu=>by
    unfold bP at r1 r2 hu;unfold jm at hc;have hu:A.units+(PyData.depthAll (bI xs)+1)<cLine:=hu;cases r1 with
    |tuple a1 a2 a3 a4=>
      cases r2 with
      |tuple cP b2 m8 b4=>
        rename_i l1 o1 vs1 n1 l2 s_ aaz n2;have l1:=readsAll_len a4;have l2:=readsAll_len b4;have q:=Ob.RcOp.tuples_lt (A:=A) (e:=λj=>kJ xs aB j==.eq) (r:=λj=>kJ xs aB j==.lt) ⟨_,a1,a2,_,a3⟩ ⟨_,cP,b2,_,m8⟩ (by omega)
          (λj h1 h2=>by
            have:=BC xs aB A.in1 s _ _ _ _ a4 b4 (by show A.units+1+_<_;omega) j (by simpa using h1) (by simpa using h2);simpa using this)
          (λj h1 h2 _=>by
            have:=CD xs aB A.in1 s _ _ _ _ a4 b4 hc (by show A.units+1+_<_;omega) j (by simpa using h1) (by simpa using h2);simpa using this)
        have e:=Cj (e:=λj=>kJ xs aB j==.eq) (r:=λj=>kJ xs aB j==.lt) xs aB 0 (λj _ _=>by rw[Nat.zero_add]) (λj _ _=>by rw[Nat.zero_add]);rw[<-Array.length_toList,<-Array.length_toList,l1,l2,e]at q;have z:fu (.t xs) (.t aB)=(bZ xs aB==.lt):=by unfold fu bq;rfl
        rw[z];exact q
theorem CD:∀(xs aB:List aQ) (A:Around) (s:Shared) (us vs:List Value) (as bs:List Addr),ReadsAll s.heap us (bI xs) as->ReadsAll s.heap vs (bI aB) bs->mP xs aB=true->A.units+PyData.depthAll (bI xs)<cLine->∀j (h1:j<us.length) (h2:j<vs.length),Ob.RcOp .Lt A s us[j] vs[j] (kJ xs aB j==.lt)
 |[],aB,A,s,us,vs,as,bs,r1,r2,hc,hu,j,h1,h2=>by unfold bI at r1;cases r1;exact absurd h1 (Nat.not_lt_zero _)
 |x::xs,[],A,s,us,vs,as,bs,r1,r2,hc,hu,j,h1,h2=>by unfold bI at r2;cases r2;exact absurd h2 (Nat.not_lt_zero _)
 |x::xs,y::aB,A,s,us,vs,as,bs,r1,r2,hc,hu,j,h1,h2=>by
  unfold bI at r1 r2;unfold mP at hc;obtain⟨hc1,hc2⟩:=Bool.and_eq_true_iff.mp hc;cases r1 with
  |cons a1 a2=>
   cases r2 with
   |cons cP b2=>
    have hu:A.units+max (bP x).depth (PyData.depthAll (bI xs))<cLine:=by unfold bI at hu;exact hu
    cases j with
    |zero=>exact HD x y A s _ _ _ _ a1 cP hc1 (by omega)
    |succ j=>exact CD xs aB A s _ _ _ _ a2 b2 hc2 (by omega) j (by simpa using h1) (by simpa using h2)
end
section
variable{prog:Program}{w:World}{A:Around}{E:Value->Shared->Prop}{s:Shared}{b fin:Bool}{Q:Bool->Shared->Prop}
def lY (h:Heap)(v:Value)(t:aQ):Prop:=∃as,Reads h v (bP t) as
mutual
theorem HE {h:Heap}:∀(x y:aQ) (v:Value) (as bs:List Addr),Reads h v (bP x) as->Reads h v (bP y) bs->x=y
 | .i a,.i b,v,as,bs,r1,r2=>by unfold bP at r1 r2;cases r1;cases r2;rfl
 | .s a _,.s b _,v,as,bs,r1,r2=>by unfold bP at r1 r2;cases r1;cases r2;rfl
 | .i _,.s _ _,v,as,bs,r1,r2=>by unfold bP at r1 r2;cases r1;cases r2
 | .s _ _,.i _,v,as,bs,r1,r2=>by unfold bP at r1 r2;cases r1;cases r2
 | .s _ _,.t _,v,as,bs,r1,r2=>by unfold bP at r1 r2;cases r1;cases r2
 | .t _,.s _ _,v,as,bs,r1,r2=>by unfold bP at r1 r2;cases r1;cases r2
 | .i _,.t _,v,as,bs,r1,r2=>by unfold bP at r1 r2;cases r1;cases r2
 | .t _,.i _,v,as,bs,r1,r2=>by unfold bP at r1 r2;cases r1;cases r2
 | .t xs,.t aB,v,as,bs,r1,r2=>by
  unfold bP at r1 r2;cases r1 with
  |tuple a1 a2 a3 a4=>
   cases r2 with
   |tuple cP b2 m8 b4=>
    have e:=Option.some.inj (a1.symm.trans cP);subst e;have e2:=a3.symm.trans m8;cases e2
    rw[CF xs aB _ _ _ a4 b4]
theorem CF {h:Heap}:∀(xs aB:List aQ) (vs:List Value) (as bs:List Addr),ReadsAll h vs (bI xs) as->ReadsAll h vs (bI aB) bs->xs=aB
 |[],[],_,_,_,_,_=>rfl
 |[],_::_,_,_,_,r1,r2=>by unfold bI at r1 r2;cases r1;cases r2
 |_::_,[],_,_,_,r1,r2=>by unfold bI at r1 r2;cases r2;cases r1
 |x::xs,y::aB,vs,as,bs,r1,r2=>by
  unfold bI at r1 r2;cases r1 with
  |cons a1 a2=>
   cases r2 with
   |cons cP b2=>rw[HE x y _ _ _ a1 cP,CF xs aB _ _ _ a2 b2]
end
mutual
theorem CH {h h':Heap}(k:∀b o,h.get? b=some o->o.cls=.type "tuple"->h'.get? b=some o):∀(x:aQ) (v:Value) (as:List Addr),Reads h v (bP x) as->Reads h' v (bP x) as
 | .i a,v,as,r=>by unfold bP at r⊢;cases r;exact .int _ _
 | .s a _,v,as,r=>by unfold bP at r⊢;cases r;exact .str _ _
 | .t xs,v,as,r=>by
  unfold bP at r⊢;cases r with
  |tuple a1 a2 a3 a4=>exact .tuple (k _ _ a1 a2) a2 a3 (CG k xs _ _ a4)
theorem CG {h h':Heap}(k:∀b o,h.get? b=some o->o.cls=.type "tuple"->h'.get? b=some o):∀(xs:List aQ) (vs:List Value) (as:List Addr),ReadsAll h vs (bI xs) as->ReadsAll h' vs (bI xs) as
 |[],vs,as,r=>by unfold bI at r⊢;cases r;exact .nil
 |x::xs,vs,as,r=>by
  unfold bI at r⊢;cases r with
  |cons a1 a2=>exact .cons (CH k x _ _ a1) (CG k xs _ _ a2)
end
theorem lY.keep {h h':Heap}{v:Value}{t:aQ}(k:∀b o,h.get? b=some o->o.cls=.type "tuple"->h'.get? b=some o)(r:lY h v t):lY h' v t:=
 let⟨as,r⟩:=r
 ⟨as,CH k t v as r⟩
end
mutual
def eF:D->Option aQ
 | .int n=>some (.i n)
 | .str z=>if h:PyData.strOk z=true then some (.s z h)else none
 | .tup ds=>(gq ds).map .t
 |_=>none
def gq:List D->Option (List aQ)
 |[]=>some []
 |d::ds=>match eF d,gq ds with
  |some t,some ts=>some (t::ts)
  |_,_=>none
end
mutual
def dU:aQ->D
 | .i n=>.int n
 | .s z _=>.str z
 | .t ts=>.tup (gT ts)
def gT:List aQ->List D
 |[]=>[]
 |t::ts=>dU t::gT ts
end
mutual
theorem Qt:∀{d:D} {t:aQ},eF d=some t->d=dU t/\py d=bP t
 | .int n,t,h=>by
  unfold eF at h;cases h
  exact⟨by unfold dU;rfl,by unfold py bP;rfl⟩
 | .str n,t,h=>by
  unfold eF at h;split at h
  ·cases h
   exact⟨by unfold dU;rfl,by unfold py bP;rfl⟩
  ·cases h
 | .tup ds,t,h=>by
  unfold eF at h;cases e:gq ds with
  |none=>rw[e]at h;cases h
  |some ts=>
   rw[e]at h;cases h
   obtain⟨e1,e2⟩:=Ac e;exact⟨by unfold dU;rw[e1],by unfold py bP;rw[e2]⟩
 | .non,t,h=>by unfold eF at h;cases h
 | .bl _,t,h=>by unfold eF at h;cases h
 | .lst _,t,h=>by unfold eF at h;cases h
 | .dK _,t,h=>by unfold eF at h;cases h
 | .dT _,t,h=>by unfold eF at h;cases h
 | .ins _ _,t,h=>by unfold eF at h;cases h
 | .fC _,t,h=>by unfold eF at h;cases h
 | .exc _ _,t,h=>by unfold eF at h;cases h
 | .fF _ _,t,h=>by unfold eF at h;cases h
 | .lam _,t,h=>by unfold eF at h;cases h
theorem Ac:∀{ds:List D} {ts:List aQ},gq ds=some ts->ds=gT ts/\e_ ds=bI ts
 |[],ts,h=>by
  unfold gq at h;cases h
  exact⟨by unfold gT;rfl,by unfold e_ bI;rfl⟩
 |d::ds,ts,h=>by
  unfold gq at h;cases e1:eF d with
  |none=>rw[e1]at h;cases h
  |some t=>
   cases e2:gq ds with
   |none=>rw[e1,e2]at h;cases h
   |some aap=>
    rw[e1,e2]at h;cases h
    obtain⟨a1,a2⟩:=Qt e1;obtain⟨cP,b2⟩:=Ac e2;exact⟨by unfold gT;rw[a1,cP],by unfold e_ bI;rw[a2,b2]⟩
end
end Sf
end R
namespace R
open PySem PySem.Spec PyProof.Rows L2
namespace SX
open Sf
end SX
variable[aT]
end R
namespace Ja
open PySem PySem.Spec PyProof.Rows L2 R
variable[aT]
section
variable{P:Program}{w:World}{K:Frag}{mg:Str->Option Value}{base:Heap}{x qual:Str}{eo:Stmt}{f:Addr}{fd:FuncData}{N ps:List Str}{k:Nat}
abbrev dG (P:Program)(w:World)(K:Frag)(mg:Str->Option Value)(base:Heap)(N:List Str)(qual:Str)(sc:Scope)(f:Addr)(cdv:Value)(A:Around)(outer:List Env)(s:Shared)(H:Hp)(E:XK):Cx:=cxOf (L2N.CX P w) P w K mg base N qual sc f cdv A outer s H E
end
section
variable{N:List Str}{sc s0:Scope}{X:Cx}
theorem b7.dG {P:Program}{w:World}{K:Frag}{mg:Str->Option Value}{base:Heap}{qual:Str}{f:Addr}{cdv:Value}{A:Around}{outer:List Env}{s:Shared}{H:Hp}{E:XK}:b7 N sc s0 (dG P w K mg base N qual sc f cdv A outer s H E):=⟨rfl,rfl,λ_ _=>rfl,rfl⟩
end
end Ja
namespace R
open PySem PySem.Spec PyProof.Rows L2
variable[aT]
end R
namespace Ja
open PySem PySem.Spec PyProof.Rows L2 R
end Ja
namespace R
open PySem PySem.Spec PyProof.Rows L2
variable[aT]
def ah6 (M:List ak):List af->Option (af×List ak)
 |[.dat (.str z)]=>match PySem.intText? z with
  |some n=>if z.length<=640 then some (.dat (.int n),M)else none
  |none=>none
 |_=>none
end R
namespace R
open PySem PySem.Spec PyProof.Rows L2
def t9 (zs:List Str):Nat:=((List.range zs.length).filter λi=>decide (zs[i]?.getD Str.empty∉zs.take i)).length
variable[aT]
end R
namespace R
open PySem PySem.Spec PyProof.Rows L2
variable[aT]
end R
namespace PySem.W
open PySem PySem.Spec PySem.Calls PyProof.Rows
section
open Builtin Builtin.ObjectAttr
variable{prog:Program}{w:World}{A:Around}{E:Value->Shared->Prop}{R:Result->Shared->Prop}{hp:Heap}{g:Array GenState}{d:Drawn}{t:Nat}{os:OsState}{B:String}{aqM:List Value}
end
end PySem.W
namespace R
open PySem PySem.Spec PyProof.Rows L2
variable[aT]
end R
namespace PySem.HandSPX
open PySem PySem.Spec PySem.Calls PyProof.Rows PySem.W
end PySem.HandSPX
namespace R
open PySem PySem.Spec PyProof.Rows L2
variable[aT]
abbrev ab8:Type:=List D->aN
structure acf (X:Cx)(W:WX)(aoS:List Expr)(f:ab8):Prop where
 run:∀ds ρ M aa G σ H vs D,aK X.K aa G M H->cz X.K aa G σ ρ->b8 X.K G vs ds->wp (f ds ρ M) (eN X W D aa G H)->Dj X aoS vs σ H D.nx
end R
namespace uU
open PySem PySem.Spec PyProof.Rows L2
mutual
def vC:NestedKey->Bool
 | .num _=>true
 | .tup ks=>uw ks
 |_=>false
def uw:List NestedKey->Bool
 |[]=>true
 |k::ks=>vC k&&uw ks
end
section
variable{P:Program}{w:World}{A:Around}{E:Value->Shared->Prop}{s:Shared}
def pR (P:Program)(w:World)(s:Shared)(m:Sem Bool)(b:Bool):Prop:=∀(A:Around) (E:Value->Shared->Prop) (Q:Bool->Shared->Prop),Q b s->wpAny (model P w) A m Q E s
theorem pR.of_eq {m:Sem Bool}{b:Bool}(h:m=pure b):pR P w s m b:=λA E Q q=>by rw[h];exact wpAny_pure q
theorem am2 {n:Nat}{a:Addr}{o:Obj}{vs:Array Value}{m:Nat}(ho:s.heap.get? a=some o)(hc:o.cls=.type "tuple")(hd:o.data=.seq vs m)
    (hq:∀v∈vs.toList,pR P w s (hashByValue n v) true):pR P w s (hashByValue (n+1) (.ref a)) true:=λA E Q h=>by
  have ty:s.TypeIs (.ref a) "tuple":=⟨o,ho,hc⟩;unfold hashByValue;refine wpAny_bind (wpAny_specialOf ty F.slot_tuple_hash.lookup ?_);show wpAny _ _ (seqItems? (.ref a) >>=_) _ _ s
  refine wpAny_bind (wpAny_seqItems ho hd (wpAny_bind ?_));show wpAny _ _ (forIn vs _ _) _ _ s
  rw[<-Array.forIn_toList];refine wpAny_forIn_list _ (λl r t=>r.1=none/\t=s/\∀v∈l,pR P w s (hashByValue n v) true) _ (λv l r t hr=>?_) (λr t hr=>?_) _ _ ⟨rfl,rfl,hq⟩
  · obtain⟨q1,q2,q3⟩:=hr
    subst q2;refine wpAny_bind (q3 v List.mem_cons_self _ _ _ ?_);simp only[Bool.not_true,Bool.false_eq_true,if_false];exact wpAny_pure ⟨rfl,rfl,λu hu=>q3 u (List.mem_cons_of_mem _ hu)⟩
  · obtain⟨r1,r2⟩:=r
    obtain⟨q1,q2,_⟩:=hr;simp only at q1;subst q1 q2;exact wpAny_pure h
theorem am1 {n:Nat}{a:Addr}{o:Obj}{vs:Array Value}{m:Nat}(ho:s.heap.get? a=some o)(hc:o.cls=.type "tuple")(hd:o.data=.seq vs m)
    (hq:∀v∈vs.toList,pR P w s (ofAClassStatement n v) false):pR P w s (ofAClassStatement (n+1) (.ref a)) false:=λA E Q h=>by
  have ty:s.TypeIs (.ref a) "tuple":=⟨o,ho,hc⟩;unfold ofAClassStatement;refine wpAny_bind (wpAny_typeOf ty ?_)
  dsimp only
  have e:(("tuple":String)=="tuple")=true:=by decide
  simp only[e,if_true,Bool.not_true,Bool.false_eq_true,if_false]
  try refine wpAny_bind (wpAny_pure ?_)
  try simp only[Bool.not_true,Bool.false_eq_true,if_false]
  show wpAny _ _ (seqItems? (.ref a) >>=_) _ _ s
  refine wpAny_bind (wpAny_seqItems ho hd ?_)
  dsimp only
  refine wpAny_bind ?_;show wpAny _ _ (forIn vs _ _) _ _ s
  rw[<-Array.forIn_toList];refine wpAny_forIn_list _ (λl r t=>r.1=none/\t=s/\∀v∈l,pR P w s (ofAClassStatement n v) false) _ (λv l r t hr=>?_) (λr t hr=>?_) _ _ ⟨rfl,rfl,hq⟩
  · obtain⟨q1,q2,q3⟩:=hr
    subst q2;refine wpAny_bind (q3 v List.mem_cons_self _ _ _ ?_);simp only[Bool.false_eq_true,if_false];exact wpAny_pure ⟨rfl,rfl,λu hu=>q3 u (List.mem_cons_of_mem _ hu)⟩
  · obtain⟨r1,r2⟩:=r
    obtain⟨q1,q2,_⟩:=hr;simp only at q1;subst q1 q2;exact wpAny_pure h
mutual
theorem afy:∀(k:NestedKey) (v:Value) (n:Nat) (s:Shared),NestedIs s.heap k v->k.depth<=n->vC k=true->pR P w s (hashByValue n v) true
 | .none,_,_,_,_,_,h=>by cases h
 | .text _,_,_,_,_,_,h=>by cases h
 | .num i,_,n,s,x,_,_=>by cases x<;>exact .of_eq (by cases n<;>rfl)
 | .tup ks,_,n,s,x,hn,h=>by
  cases x with
  |tup h1 h2 h3 h4=>
   simp only[NestedKey.depth]at hn;cases n with
   |zero=>omega
   |succ n=>exact am2 h1 h2 h3 (Vg ks _ n s h4 (by omega) h)
theorem Vg:∀(ks:List NestedKey) (vs:List Value) (n:Nat) (s:Shared),NestedAll s.heap ks vs->NestedKey.depthAll ks<=n->uw ks=true->∀v∈vs,pR P w s (hashByValue n v) true
 |[],_,n,s,x,_,_,v,hv=>by cases x;cases hv
 |k::ks,_,n,s,x,hn,h,v,hv=>by
  cases x with
  |cons oH ig=>
   simp only[NestedKey.depthAll]at hn;unfold uw at h;rw[Bool.and_eq_true]at h;rcases List.mem_cons.mp hv with e|hv
   ·rw[e];exact afy k _ n s oH (by omega) h.1
   ·exact Vg ks _ n s ig (by omega) h.2 v hv
end
mutual
theorem adB:∀(k:NestedKey) (v:Value) (n:Nat) (s:Shared),NestedIs s.heap k v->k.depth<=n->pR P w s (ofAClassStatement n v) false
 | .none,_,n,s,x,_=>by cases x;exact .of_eq (by cases n<;>rfl)
 | .text _,_,n,s,x,_=>by cases x;exact .of_eq (by cases n<;>rfl)
 | .num i,_,n,s,x,_=>by cases x<;>exact .of_eq (by cases n<;>rfl)
 | .tup ks,_,n,s,x,hn=>by
  cases x with
  |tup h1 h2 h3 h4=>
   simp only[NestedKey.depth]at hn;cases n with
   |zero=>omega
   |succ n=>exact am1 h1 h2 h3 (Tn ks _ n s h4 (by omega))
theorem Tn:∀(ks:List NestedKey) (vs:List Value) (n:Nat) (s:Shared),NestedAll s.heap ks vs->NestedKey.depthAll ks<=n->∀v∈vs,pR P w s (ofAClassStatement n v) false
 |[],_,n,s,x,_,v,hv=>by cases x;cases hv
 |k::ks,_,n,s,x,hn,v,hv=>by
  cases x with
  |cons oH ig=>
   simp only[NestedKey.depthAll]at hn;rcases List.mem_cons.mp hv with e|hv
   ·rw[e];exact adB k _ n s oH (by omega)
   ·exact Tn ks _ n s ig (by omega) v hv
end
structure qA (h:Heap)(k:NestedKey)(b:Addr):Prop where
 is:NestedIs h k (.ref b)
 dp:k.depth<=8
 num:vC k=true
theorem qA.kind {h:Heap}{k:NestedKey}{b:Addr}(x:qA h k b):(nestedKind P w).is h k b:=⟨x.is,x.dp⟩
theorem qA.inj {h:Heap}{k e7:NestedKey}{b:Addr}(x:qA h k b)(y:qA h e7 b):k=e7:=NestedIs.inj _ _ _ x.is y.is
theorem qA.stay {h h':Heap}{k:NestedKey}{b:Addr}(x:qA h k b)(q:∀c o vs n,h.get? c=some o->o.data=.seq vs n->h'.get? c=some o):qA h' k b:=⟨NestedIs.at q _ _ x.is,x.dp,x.num⟩
theorem qA.keep {h h':Heap}{k:NestedKey}{b:Addr}(x:qA h k b)(q:∀c o,h.get? c=some o->h'.get? c=some o):qA h' k b:=x.stay λc o _ _ e _=>q c o e
abbrev ym:Type:=Addr×NestedKey
def lines (w:World)(L:List ym):List (Int×Value):=L.map λp=>(p.2.hash w,Value.ref p.1)
theorem aj3 (L:List ym):(lines w L).length=L.length:=by unfold lines;rw[List.length_map]
structure Tab (w:World)(h:Heap)(a:Addr)(L:List ym)(es:Array (Int×Value))(gu:Nat)(t:SetTable):Prop where
 ob:∃o,h.get? a=some o/\o.ExactSet/\o.data=.set es gu t
 rows:es.toList=lines w L
 tab:TabOk t (L.map λp=>p.2.hash w)
 nd:(L.map (·.2)).Nodup
 plain:t.plain=true
 led:w.params.followText "set-order"=true\/t.led=true
 room:L.length*5<t.mask*3
 few:L.length<64
variable{a:Addr}{L:List ym}{es:Array (Int×Value)}{gu:Nat}{t:SetTable}
theorem anH (h:es.toList=lines w L):es.size=L.length:=by rw[<-aj3 (w:=w) L,<-h,Array.length_toList]
theorem Tab.size (R:Tab w s.heap a L es gu t):es.size=L.length:=anH R.rows
theorem Tab.line (R:Tab w s.heap a L es gu t){i:Nat}{p:ym}(h:L[i]?=some p):es[i]?=some (p.2.hash w,Value.ref p.1):=by
 have q:es.toList[i]?=some (p.2.hash w,Value.ref p.1):=by rw[R.rows];unfold lines;rw[List.getElem?_map,h];rfl
 rw[<-Array.getElem?_toList];exact q
end
end uU
namespace R
open PySem PySem.Spec PyProof.Rows L2 uU
variable[aT]
mutual
def jX:aQ->NestedKey
 | .i n=>.num n
 | .t ts=>.tup (lu ts)
def lu:List aQ->List NestedKey
 |[]=>[]
 |t::ts=>jX t::lu ts
end
mutual
theorem ak3:∀{x y:aQ},jX x=jX y->x=y
 | .i a,.i b,h=>by unfold jX at h;cases h;rfl
 | .i _,.t _,h=>by unfold jX at h;cases h
 | .t _,.i _,h=>by unfold jX at h;cases h
 | .t xs,.t aB,h=>by unfold jX at h;injection h with h;rw[YC h]
theorem YC:∀{xs aB:List aQ},lu xs=lu aB->xs=aB
 |[],[],_=>rfl
 |[],_::_,h=>by unfold lu at h;cases h
 |_::_,[],h=>by unfold lu at h;cases h
 |x::xs,y::aB,h=>by
  unfold lu at h
  injection h with h1 h2
  rw[ak3 h1,YC h2]
end
mutual
theorem ak4:∀t:aQ,vC (jX t)=true
 | .i _=>by unfold jX vC;rfl
 | .t ts=>by unfold jX vC;exact YD ts
theorem YD:∀ts:List aQ,uw (lu ts)=true
 |[]=>by unfold lu uw;rfl
 |t::ts=>by unfold lu uw;rw[ak4 t,YD ts];rfl
end
abbrev aoP (t:aQ):Nat:=(jX t).depth
section
variable{X:Cx}{pins:List (Addr×Obj)}{σ:L2.St}{G H:Hp}{s:Shared}
mutual
theorem ajZ (le:fj G H)(I:Inv X pins σ H s):∀(t:aQ) {v:V} {u:Value},cg X.K G v (dU t)->RelV v u->NestedIs s.heap (jX t) u
 | .i n,v,u,r,q=>by
  unfold dU at r;cases r
  obtain⟨t,rfl⟩:=q;unfold jX;exact .int n t
 | .t ts,v,u,r,q=>by
  unfold dU at r;cases r with
  |tup hg cW=>
   obtain⟨its,b6,ht,_⟩:=I.tuple (le.t (.inl (.inl hg)));obtain rfl:u=Value.ref _:=q;obtain⟨o,h1,h2,n,h3⟩:=ht;unfold jX;exact .tup h1 h2 h3 (by simpa using Yu le I ts cW b6)
theorem Yu (le:fj G H)(I:Inv X pins σ H s):∀(ts:List aQ) {vs:List V} {us:List Value},b8 X.K G vs (gT ts)->Vals vs us->NestedAll s.heap (lu ts) us
 |[],_,_,r,q=>by
  unfold gT at r;cases r
  cases q
  unfold lu;exact .nil
 |t::ts,_,_,r,q=>by
  unfold gT at r;cases r with
  |cons r cW=>
   cases q with
   |cons q Hz=>
    unfold lu;exact .cons (ajZ le I t r q) (Yu le I ts cW Hz)
end
structure DP (K:Frag)(G:Hp)(b:Addr)(t:aQ):Prop where
 alD:cg K G (.ref b) (dU t)
 dp:aoP t<=8
theorem DP.mono {K:Frag}{G aj:Hp}{b:Addr}{t:aQ}(e:cG G aj)(x:DP K G b t):DP K aj b t:=⟨cg.mono e x.alD,x.dp⟩
abbrev uY:Type:=Addr×aQ
def alC (L:List uY):List ym:=L.map λp=>(p.1,jX p.2)
def ach (w:World)(a:Addr)(L:List uY):HO:=.ext λh=>∃es gu t,Tab w h a (alC L) es gu t
end
end R
namespace R
open PySem PySem.Spec PyProof.Rows L2 uU
variable[aT]
end R
namespace R
open PySem PySem.Spec PyProof.Rows L2 uU
variable[aT]
mutual
theorem ala:∀t:aQ,py (dU t)=bP t
 | .i n=>by unfold dU py bP;rfl
 | .t ts=>by unfold dU py bP;rw[Zk ts]
theorem Zk:∀ts:List aQ,e_ (gT ts)=bI ts
 |[]=>by unfold gT e_ bI;rfl
 |t::ts=>by unfold gT e_ bI;rw[ala t,Zk ts]
end
end R
namespace R
open PySem PySem.Spec PyProof.Rows L2 uU
def sG:List aQ->List aQ
 |[]=>[]
 |t::ts=>if ts.any (λu=>bq t u==.eq)then sG ts else t::sG ts
theorem acC {t:aQ}{ts:List aQ}:ts.any (λu=>bq t u==.eq)=true↔t∈ts:=by
 rw[List.any_eq_true];constructor
 ·rintro⟨u,h1,h2⟩
  have e:t=u:=sF (by simpa using h2);rw[e];exact h1
 ·exactλh=>⟨t,h,by rw[ED];rfl⟩
theorem NQ {u:aQ}:∀{ts:List aQ},u∈sG ts↔u∈ts
 |[]=>Iff.rfl
 |t::ts=>by
  unfold sG;have ih:=NQ (u:=u) (ts:=ts);split
  ·rename_i h
   rw[ih,List.mem_cons];exact⟨.inr,λz=>z.elim (λe=>e▸acC.mp h) id⟩
  ·rw[List.mem_cons,List.mem_cons,ih]
variable[aT]
mutual
theorem aoX:∀t:aQ,eF (dU t)=some t
 | .i n=>by unfold dU eF;rfl
 | .t ts=>by unfold dU eF;rw[aal ts];rfl
theorem aal:∀ts:List aQ,gq (gT ts)=some ts
 |[]=>by unfold gT gq;rfl
 |t::ts=>by unfold gT gq;rw[aoX t,aal ts]
end
structure IF (w:World)(K:Frag)(bD:Addr)(ay:List Addr)(au H1:Hp)(acc:List D)(aq:List Addr)(aj:Hp)(az:List ak)(H':Hp):Prop where
 g_:aJ ay au H1 aq aj H'
 out:bD∉aq
 qb:aj bD=none
 ms:aK K aq aj az H'
 at_:∃L:List uY,H' bD=some (ach w bD L)/\(∀p∈L,DP K aj p.1 p.2/\plain 57 (dU p.2)=true)/\(∀t,t∈L.map (·.2)↔dU t∈acc)/\(∀d∈acc,∃t,d=dU t)/\L.length<=acc.length
section
variable{w:World}{K:Frag}{bD:Addr}{ay aq aU:List Addr}{au H1 aj H' aV aS:Hp}{acc:List D}{az M2:List ak}
theorem IF.grow (a:IF w K bD ay au H1 acc aq aj az H')(g:aJ aq aj H' aU aV aS)(m:aK K aU aV M2 aS):IF w K bD ay au H1 acc aU aV M2 aS:=by
 obtain⟨L,h1,h2,h3⟩:=a.at_;obtain⟨n2,BR,dH⟩:=Fl g a.out a.qb h1;exact⟨a.g_.trans g,n2,BR,m,L,dH,λp hp=>⟨(h2 p hp).1.mono g.ex,(h2 p hp).2⟩,h3⟩
end
end R
namespace R
open PySem PySem.Spec PyProof.Rows L2
variable[aT]
end R
namespace R
open PySem PySem.Spec PyProof.Rows L2 uU
variable[aT]
structure AE (ks:List uY)(i:Nat)(L:List uY):Prop where
 sub:∀p∈L,p∈ks.take i
 all:∀p∈ks.take i,p.2∈L.map (·.2)
 len:L.length<=i
theorem AE.zero (ks:List uY):AE ks 0 []:=⟨λ_ h=>(by cases h),λ_ h=>(by simp at h),Nat.le_refl _⟩
theorem AE.next {ks L qB:List uY}{i:Nat}{x:uY}(g:AE ks i L)(h:ks[i]?=some x)(c1:x.2∈L.map (·.2)->qB=L)(c2:x.2∉L.map (·.2)->qB.Perm (x::L)):AE ks (i+1) qB:=by
 have tn:ks.take (i+1)=ks.take i++[x]:=by rw[List.take_add_one,h];rfl
 by_cases m:x.2∈L.map (·.2)
 ·rw[c1 m]
  refine⟨λp hp=>by rw[tn];exact List.mem_append_left _ (g.sub p hp),λp hp=>?_,Nat.le_succ_of_le g.len⟩;rw[tn]at hp;rcases List.mem_append.mp hp with z|z
  ·exact g.all p z
  ·rw[List.mem_singleton.mp z];exact m
 ·have pm:=c2 m
  refine⟨λp hp=>?_,λp hp=>?_,by rw[pm.length_eq];exact Nat.succ_le_succ g.len⟩
  ·rw[tn]
   rcases List.mem_cons.mp (pm.mem_iff.mp hp)with e|z
   ·rw[e];exact List.mem_append_right _ List.mem_cons_self
   ·exact List.mem_append_left _ (g.sub p z)
  ·rw[(pm.map (·.2)).mem_iff,List.map_cons]
   rw[tn]at hp;rcases List.mem_append.mp hp with z|z
   ·exact List.mem_cons_of_mem _ (g.all p z)
   ·rw[List.mem_singleton.mp z];exact List.mem_cons_self
end R
namespace R
open PySem PySem.Spec PyProof.Rows L2
variable[aT]
end R
namespace R
open PySem PySem.Spec PyProof.Rows L2 uU
variable[aT]
mutual
theorem afx (w xZ:World):∀k:NestedKey,vC k=true->k.hash w=k.hash xZ
 | .none,h=>by cases h
 | .text _,h=>by cases h
 | .num i,_=>rfl
 | .tup ks,h=>by
  unfold vC at h;unfold NestedKey.hash;rw[Vh w xZ ks h]
theorem Vh (w xZ:World):∀ks:List NestedKey,uw ks=true->NestedKey.hashes w ks=NestedKey.hashes xZ ks
 |[],_=>rfl
 |k::ks,h=>by
  unfold uw at h;rw[Bool.and_eq_true]at h;unfold NestedKey.hashes;rw[afx w xZ k h.1,Vh w xZ ks h.2]
end
mutual
theorem ak2:∀(t:aQ) {k:NestedKey},yq (dU t) k->k=jX t
 | .i n,k,h=>by
  unfold dU at h;cases h
  unfold jX;rfl
 | .t ts,k,h=>by
  unfold dU at h;cases h with
  |t h=>
   unfold jX;rw[YB ts h]
theorem YB:∀(ts:List aQ) {ks:List NestedKey},yr (gT ts) ks->ks=lu ts
 |[],ks,h=>by
  unfold gT at h;cases h
  unfold lu;rfl
 |t::ts,ks,h=>by
  unfold gT at h;cases h with
  |cons h1 h2=>
   unfold lu;rw[ak2 t h1,YB ts h2]
end
mutual
theorem ak1:∀t:aQ,yq (dU t) (jX t)
 | .i n=>by unfold dU jX;exact .i n
 | .t ts=>by unfold dU jX;exact .t (YA ts)
theorem YA:∀ts:List aQ,yr (gT ts) (lu ts)
 |[]=>by unfold gT lu;exact .nil
 |t::ts=>by unfold gT lu;exact .cons (ak1 t) (YA ts)
end
end R
namespace R
open PySem PySem.Spec PyProof.Rows L2
structure fN where
 ad:List Addr
 ok:List (Addr×Obj)->Prop
def jZ (aH:fN)(cp:List (Addr×Obj)):Prop:=cp.map Prod.fst=aH.ad/\aH.ok cp
def mR:fN:=⟨[],λ_=>True⟩
abbrev Cons:=V->Hp->(Hp->Prop)->Prop
def IV (X:Cx)(aH:fN)(cons:Cons):Protocol:=λ_ _ v s F_=>
 ∃(x:V) (cp ip:List (Addr×Obj)) (σ:L2.St) (H:Hp) (Q:Hp->Prop),jZ aH cp/\(∀p∈ip,p.1∉aH.ad)/\RelV x v/\Inv X (cp++ip) σ H s/\cons x H Q/\
  ∀(aF:Shared) (H':Hp) (fW:List (Addr×Obj)),jZ aH fW->Q H'->Inv X (fW++ip) σ H' aF->F_ (.send .none) aF
structure GE where
 nx:Nat->L2.St->Hp->Prop
 rt:Nat->VK
 bk:Nat->L2.St->Hp->Prop:=λ_ _ _=>False
 ct:Nat->L2.St->Hp->Prop:=λ_ _ _=>False
abbrev Jc:=GE->Nat->L2.St->Hp->Prop
def GE.at (D:GE)(k:Nat):Ends:={nx:=D.nx k,rt:=D.rt k,bk:=D.bk k,ct:=D.ct k}
def abg (X:Cx)(aH:fN)(ip:List (Addr×Obj))(D:GE)(k:Nat)(f:Flow)(s:Shared):Prop:=
 ∃cp:List (Addr×Obj),jZ aH cp/\SP X (cp++ip) (D.at k) f s
structure v7 (X:Cx)(A:Around)(c:Code)(fs:List Frame)(gd:Bool->Bool):Prop where
 over:A.over c fs=X.A
 split:splitAtGen fs=none
 guard:fs.any Frame.guarded=false
 gd:gd false=false
structure abf (X:Cx)(aH:fN)(cons:Cons)(N:Nat)(ip:List (Addr×Obj))(A:Around)(Re:GenEnd)(c:Code)(fs:List Frame)(K:Flow->Sem PySem.Fin)(J:Value->Sem PySem.Fin)(D:GE):Prop where
 ok:∀(n k:Nat) (dS s:Shared) (f:Flow),n+k=N->abg X aH ip D k f s->Seg (model X.prog X.w) A Re (IV X aH cons) n dS c (K f) fs s
 exc:∀(n:Nat) (dS:Shared) (e:Value) (s:Shared),X.xe e s->Seg (model X.prog X.w) A Re (IV X aH cons) n dS c (J e) fs s
def apm (X:Cx)(aH:fN)(cons:Cons)(N:Nat)(st:List Stmt):Jc:=λD k σ H=>
 ∀(A:Around) (ip cp:List (Addr×Obj)) (Re:GenEnd) (n:Nat) (dS:Shared) (c:Code) (fs:List Frame) (K:Flow->Sem PySem.Fin) (J:Value->Sem PySem.Fin) (gd:Bool->Bool) (lv:List Value->List Value) (s:Shared),
  v7 X A c fs gd->n+k=N->jZ aH cp->(∀p∈ip,p.1∉aH.ad)->abf X aH cons N ip A Re c fs K J D->Inv X (cp++ip) σ H s->Seg (model X.prog X.w) A Re (IV X aH cons) n dS c ((execs st X.env).wrap K J gd lv) fs s
section
variable{X:Cx}{aH:fN}{cons:Cons}{N:Nat}{st:Stmt}{rest:List Stmt}{D:GE}{k:Nat}{σ:L2.St}{H:Hp}
theorem UX {A:Around}{c c':Code}{fs:List Frame}{gd:Bool->Bool}{kk:Result->Sem PySem.Fin}{l kp:List Value}{p:Pos}(g:v7 X A c fs gd)(hw:c'.weight=0)(hu:c'.cUnits=0):
    v7 X A c' (.ret kk none (gd false) l c p kp::fs) id where
  over:=(GenW.over_loop hw hu).trans g.over
  split:=by
    show(splitAtGen fs).map _=none
    rw[g.split];rfl
  guard:=by
    show(gd false||fs.any Frame.guarded)=false
    rw[g.gd,g.guard];rfl
  gd:=rfl
end
section
variable{X:Cx}{aH:fN}{cons:Cons}{N:Nat}{D:GE}{k:Nat}{σ:L2.St}{H:Hp}
theorem aeL {cp fW ip:List (Addr×Obj)}{H:Hp}{b:Addr}(h:jZ aH cp)(h':jZ aH fW)(f:FpOk X (cp++ip) H b):FpOk X (fW++ip) H b:=by
 obtain⟨f0,f1,f2,jE,f4,sM⟩:=f;refine⟨f0,f1,f2,jE,f4,λp hp=>?_⟩;rcases List.mem_append.mp hp with z|z
 ·exact sM p (List.mem_append_left _ z)
 rcases List.mem_append.mp z with z|z
 ·have hm:p.1∈cp.map Prod.fst:=by rw[h.1,<-h'.1];exact List.mem_map.mpr ⟨p,z,rfl⟩
  obtain⟨q,hq,e⟩:=List.mem_map.mp hm;rw[<-e];exact sM q (List.mem_append_right _ (List.mem_append_left _ hq))
 ·exact sM p (List.mem_append_right _ (List.mem_append_right _ z))
end
end R
namespace R
open PySem PySem.Spec PyProof.Rows L2 GenW
structure yf (P:Program)(w:World)(K:Frag)(mg:Str->Option Value)(base:Heap)(N:List Str)(qual:Str)(scope:Scope)(f:Addr)(cd:Value)(body:List Stmt)(k:Nat)(outer:List Env)(s:Shared)(H:Hp)(vs:List V)(a:Addr)(g:Nat)(go:Obj)(aF:Shared):Prop where
 at_:aF.heap.get? a=some go
 FW:∀h:Heap,h.get? a=some go->h.IsGen a g
 nocell:∀v,go.data≠.cell v
 lo:s.heap.objs.size<a
 gen:aF.gens[g]?=some (.fresh (.func body (envOfC qual scope s.heap.objs.size f cd)))
 os:aF.os=s.os
 bare:AllBare aF.gens
 lim:aF.heap.NoLimit
 keep:∀b o,s.heap.get? b=some o->aF.heap.get? b=some o
 inv:∀(A:Around) (E:XK),Room k A->A.frames=some outer->Inv (gcxOf P w K mg base N qual scope f cd A outer s H E [(a,go)]) [] (start N vs) H aF
section
variable{P:Program}{w:World}{K:Frag}{mg:Str->Option Value}{base:Heap}{k:Nat}{f:Addr}{name qual:Str}{params:Arguments}{body:List Stmt}{scope:Scope}{qP kV doc pm cdv ct oc:Value}{an od:Option Addr}
    {gi:Array (Option Value)} {N ps:List Str}
theorem U7 (lk:K.lookup f=some ⟨oc,od,.func (PySem.W.fnOf name qual params body scope qP kV doc pm an cdv ct),gi⟩)(hcd:PySem.W.codeIn K cdv qual=true)(S:GScope N ps scope)
    (A:Around) (outer:List Env) (s:Shared) (H:Hp) (args:Args) (us:List Value) (vs:List V) (hr:Room (k+1) A) (e0:Env0 P w K mg base A outer s H) (hb:BindsTo s (PySem.W.fnOf name qual params body scope qP kV doc pm an cdv ct) args (ps.zip us)) (r:Vals vs us) (hl:vs.length=ps.length):
    codeAny (model P w) A (.call (.ref f) args) (λr aF=>match r with|.ok (.ret u)=>∃a g go,u=.ref a/\yf P w K mg base N qual scope f cdv body k outer s H vs a g go aF|_=>False) s:=by
  have KX:K.In s.heap:=e0.mod.kin.keeps λb o e=>(e0.bs b o e).1
  have lim:s.heap.NoLimit:=e0.mod.nolimit.keeps λb o e=>(e0.bs b o e).1
  have hkind:∀y∈ps.zip us,scope.names.lookup y.1=some .local\/(scope.names.lookup y.1=some .cell/\((cellsFrom (s.heap.objs.size+1) scope.names []).lookup y.1).isSome=true):=λ⟨n,v⟩ hy=>by
    rcases S.par n (List.of_mem_zip hy).1 with q|q
    · exact .inl q
    · exact .inr ⟨q,PySem.W.cellsFrom_some _ _ _ (.inl q)⟩
  refine codeAny_call_generator hr.depth (KX _ _ lk) rfl S.co S.gen rfl (PySem.W.codeRec_of KX hcd) (hb _ _ _ _ ?_);refine wpAny_newFunctionEnv_cells S.kind hkind λenv he s1 x=>?_
  subst he;have XD:s1.heap.NoLimit:=lim.keeps x.toInCall.keep;refine⟨XD,?_⟩;obtain⟨h1,tk,sL,hk1⟩:=x.done;have akC:s1.os=s.os:=by rw[sL]
  have af4:s1.gens=s.gens:=by rw[sL]
  have NK:s.heap.objs.size<s1.heap.objs.size:=x.toInCall.ns.lt;have au3:s.heap.objs.size<=s1.heap.objs.size:=Nat.le_of_lt NK;have ahN:∀b o,s.heap.get? b=some o->s1.heap.get? b=some o:=x.toInCall.keep;have main:∀(go:Obj) (nm xQ:Value) (Qp:Nat),go.cls=.type "generator"->go.data=.fields #[.int s1.gens.size 0,nm,xQ]->go.slots=#[]->(∀h:Heap,(h.push go).get? h.objs.size=some go)->
      yf P w K mg base N qual scope f cdv body k outer s H vs s1.heap.objs.size s1.gens.size go {s1 with gens:=s1.gens.push (.fresh (.func body (envOfC qual scope s.heap.objs.size f cdv))),toks:=Qp,heap:=s1.heap.push go}:=by
    intro go nm xQ Qp ag3 Vp FF Vr;have Vo:∀v,go.data≠.cell v:=λv q=>by rw[Vp]at q;cases q
    have Fw:AllBare (s1.gens.push (.fresh (.func body (envOfC qual scope s.heap.objs.size f cdv)))):=AllBare.push (by rw[af4];exact e0.bare) rfl;refine⟨Vr _,λh e=>⟨go,nm,xQ,e,ag3,Vp,FF⟩,Vo,NK,Array.getElem?_push_size ..,akC,Fw,XD.keeps λb o e=>Heap.get?_push_of_some _ e,λb o e=>Heap.get?_push_of_some _ (ahN b o e),λII E agx hfr=>?_⟩;have ae6:Env0 P w K mg base II outer s H:=⟨hfr,e0.mod,e0.bs,e0.bsz,e0.funs,e0.frf,e0.hok,e0.bare⟩;have bY:Inv (gcxOf P w K mg base N qual scope f cdv II outer s H E []) [] (start N vs) H s1:=inv_startG S agx.hd ae6 hl r x;have WR:∀b o,s1.heap.get? b=some o->(s1.heap.push go).get? b=some o:=λb o e=>Heap.get?_push_of_some _ e
    have d7:Inv (gcxOf P w K mg base N qual scope f cdv II outer s H E []) [] (start N vs) H {s1 with gens:=s1.gens.push (.fresh (.func body (envOfC qual scope s.heap.objs.size f cdv))),toks:=Qp,heap:=s1.heap.push go}:=
      bY.call' (ch:=[]) rfl (Un.kept WR) (bY.hok.kept WR) Fw λb z=>by simp at z
    refine Inv.pinnedG d7 λp hp=>?_
    have hp:p∈[(s1.heap.objs.size,go)]:=by simpa using hp
    rw[List.mem_singleton.mp hp];exact⟨Vr _,bY.hok.fresh (Nat.le_refl _),Nat.ne_of_gt NK,bY.nofs (Nat.le_refl _),Vo⟩
  exact⟨_,_,_,rfl,main _ _ _ _ rfl rfl rfl λh=>Heap.get?_push_size _ rfl⟩
end
end R
namespace R
open PySem PySem.Spec PyProof.Rows L2 GenW
section
variable{X:Cx}{pins:List (Addr×Obj)}{σ:L2.St}{H:Hp}{s aF:Shared}
theorem VU (I:Inv X pins σ H s)(hh:aF.heap=s.heap)(ho:aF.os=s.os)(hb:AllBare aF.gens):Inv X pins σ H aF:=by
 obtain⟨h1,h2,h3,h4,di,iy,h7,iK,h9,w7,afe⟩:=I;exact⟨h1,ho.trans h2,hb,by rw[hh];exact h4,by rw[hh];exact di,by rw[hh];exact iy,h7,iK,by rw[hh];exact h9,by rw[hh];exact w7,afe⟩
theorem ME {g:Nat}{x:GenState}(I:Inv X pins σ H s)(hx:x.bare=true):Inv X pins σ H (s.setGen g x):=VU I rfl rfl (allBare_setGen I.bare hx)
end
def qN (S:Addr):Cons:=λx H Q=>∃acc,H S=some (.lst acc)/\acc.length<sizeLine/\Q (upd H S (.lst (acc++[x])))
end R
namespace R
open PySem PySem.Spec PyProof.Rows L2 GenW
structure pJ where
 N:List Str
 qual:Str
 scope:Scope
 f:Addr
 cd:Value
 body:List Stmt
 k:Nat
 sc:Shared
 H:Hp
 vs:List V
 a:Addr
 g:Nat
 go:Obj
abbrev pJ.j4 (G:pJ)(X:Cx)(A:Around)(E:XK):Cx:=gcxOf X.prog X.w X.K X.mg X.base G.N G.qual G.scope G.f G.cd A X.stack G.sc G.H E [(G.a,G.go)]
def pJ.run (G:pJ)(X:Cx)(E:XK)(aH:fN)(cons:Cons)(Qf:Hp->Prop)(aS:Hp):Prop:=
 ∀A:Around,Room G.k A->A.frames=some X.stack->apm (G.j4 X A E) aH cons sizeLine G.body {nx:=λ_ _ H'=>Qf H',rt:=λ_ v H'=>v=.non/\Qf H'} 0 (start G.N G.vs) aS
structure DE (X:Cx)(pins:List (Addr×Obj))(σ:L2.St)(G:pJ)(u:Value)(s1:Shared):Prop where
 val:u=.ref G.a
 inv:Inv X pins σ G.H G.sc
 made:yf X.prog X.w X.K X.mg X.base G.N G.qual G.scope G.f G.cd G.body G.k X.stack G.sc G.H G.vs G.a G.g G.go s1
def Iw (X:Cx)(e:Expr)(k:Nat):L2.St->Hp->(pJ->Prop)->Prop:=λσ H R=>
 ∀pins s,Inv X pins σ H s->wpAny (model X.prog X.w) X.A (eval e X.env) (λu s1=>∃G,DE X pins σ G u s1/\G.k=k/\R G) X.xe s
section
variable{X:Cx}{pins:List (Addr×Obj)}{σ:L2.St}{H:Hp}
theorem ah8 {G:pJ}{u:Value}{s1 aF:Shared}{A:Around}{E:XK}{cp:List (Addr×Obj)}{aZ:L2.St}{H':Hp}(M:DE X pins σ G u s1)(I:Inv (G.j4 X A E) cp aZ H' aF):Inv X pins σ H' aF:=
 M.inv.call' (ch:=[]) I.os I.base I.hok I.bare λb hb=>by simp at hb
end
end R
namespace R
open PySem PySem.Spec PyProof.Rows L2 GenW
end R
namespace R
open PySem PySem.Spec PyProof.Rows L2 GenW
def lK:XK:=λ_ _ _=>False
end R
namespace R
open PySem PySem.Spec PyProof.Rows L2 GenW
end R
namespace R
open PySem PySem.Spec PyProof.Rows L2 GenW
variable[aT]
theorem aae:sizeLine=16777216:=by decide
inductive nR:Type where
 |nx (ρ:List af) (c:Nat) (L:List D)|bk (ρ:List af) (c:Nat) (L:List D)|ct (ρ:List af) (c:Nat) (L:List D)
abbrev eX:Type:=List af->Nat->List D->Ev nR
abbrev Flt:Type:=D->Option (List D)
def akY (c:Nat)(L:List D):bW->Ev nR
 | .nx ρ=>ok (.nx ρ c L)
 | .bk ρ=>ok (.bk ρ c L)
 | .ct ρ=>ok (.ct ρ c L)
 | .rt _=>bad
def ue (f:aN):eX:=λρ c L=>Ev.bind (f ρ) (akY c L)
def af0 (g:eX):nR->Ev nR
 | .nx ρ c L=>g ρ c L
 |r=>ok r
def w6 (f g:eX):eX:=λρ c L=>Ev.bind (f ρ c L) (af0 g)
def LA:eX:=λρ c L=>ok (.nx ρ c L)
def Lz (a b:eX)(ρ:List af)(c:Nat)(L:List D):Bool->Ev nR:=λk=>if k then a ρ c L else b ρ c L
def Ff (t:cX)(a b:eX):eX:=λρ c L=>Ev.bind (t ρ) (Lz a b ρ c L)
def Dy (ct:Flt)(ρ:List af)(c:Nat)(L:List D):D->Ev nR:=λd=>match ct d with
 |some es=>if c<4000/\L.length<4000 then ok (.nx ρ (c+1) (L++es))else bad
 |none=>bad
def LB (ct:Flt)(e:CE):eX:=λρ c L=>Ev.bind (Ev.bind (e ρ) frz) (Dy ct ρ c L)
def Ly (k:eX):nR->Ev nR
 | .nx ρ c L=>k ρ c L
 | .ct ρ c L=>k ρ c L
 | .bk ρ c L=>ok (.nx ρ c L)
def p_ (g:dX)(b:eX):List D->eX
 |[],ρ,c,L=>ok (.nx ρ c L)
 |d::ds,ρ,c,L=>match g (.dat d) ρ with
  |some aY=>Ev.bind (b aY c L) (Ly (p_ g b ds))
  |none=>bad
def UT (g:dX)(b:eX)(ρ:List af)(c:Nat)(L:List D):Its->Ev nR
 | .data ds=>p_ g b ds ρ c L
 | .live _ _ _=>bad
def BO (fi:jt)(g:dX)(b:eX):eX:=λρ c L=>Ev.bind (fi ρ) (UT g b ρ c L)
structure vZ (K:Frag)(S:Addr)(ct:Flt)(cons:Cons):Prop where
 run:∀{ay aa:List Addr} {au H1 G H:Hp} {L es:List D} {M:List ak} {v:V} {d:D} {sr:Hp->Prop},Acc K S ay au H1 L aa G M H->H1 S=none->cg K G v d->ct d=some es->L.length<sizeLine->
  (∀H',Acc K S ay au H1 (L++es) aa G M H'->sr H')->cons v H sr
def kL:Flt:=λd=>some [d]
theorem Tw {K:Frag}{S:Addr}:vZ K S kL (qN S):=⟨λ{ay aa au H1 G H L es M v d sr} a hS r e hl k=>by
 cases e
 obtain⟨vs,e1,e2,e3⟩:=a.push hS r hl;exact⟨vs,e1,e2,k _ e3⟩⟩
def aex (w:Str):Flt
 | .tup [d,.str q]=>some (if q=w then[d]else[])
 |_=>none
section
variable(X:Cx)(W:WX)
def mZ (D:GE)(S:Addr)(ay:List Addr)(au H1:Hp)(aa:List Addr)(G:Hp):Re nR->Prop
 | .ok (.nx cO c L) az=>∀aq aj H' aZ,g8 aa G aq aj->Acc X.K S ay au H1 L aq aj az H'->cz X.K aq aj aZ cO->D.nx c aZ H'
 | .ok (.bk cO c L) az=>∀aq aj H' aZ,g8 aa G aq aj->Acc X.K S ay au H1 L aq aj az H'->cz X.K aq aj aZ cO->D.bk c aZ H'
 | .ok (.ct cO c L) az=>∀aq aj H' aZ,g8 aa G aq aj->Acc X.K S ay au H1 L aq aj az H'->cz X.K aq aj aZ cO->D.ct c aZ H'
 | .ex c fs az=>∀aZ,PX X W aZ ay au H1 c fs az
end
section
variable{X:Cx}{W:WX}{aH:fN}{cons:Cons}{S:Addr}{st:Stmt}{rest body orelse:List Stmt}{f g a b:eX}{e bV it:Expr}{pos ya:Pos}{kO:CE}{cA:cX}{ct:Flt}
theorem mZ.shift {D:GE}{ay aa aU:List Addr}{au H1 G aV:Hp}{r:Re nR}(l:g8 aa G aU aV)(h:mZ X W D S ay au H1 aa G r):mZ X W D S ay au H1 aU aV r:=by
 cases r with
 |ex c fs M1=>exact h
 |ok v M1=>
  cases v with
  |nx aY c1 fO=>exactλ_ _ _ _ jV=>h _ _ _ _ (l.trans jV)
  |bk aY c1 fO=>exactλ_ _ _ _ jV=>h _ _ _ _ (l.trans jV)
  |ct aY c1 fO=>exactλ_ _ _ _ jV=>h _ _ _ _ (l.trans jV)
theorem aeW {k:eX}{D:GE}{jw:Nat->L2.St->Hp->Prop}{ay IG aa:List Addr}{au H1 iV G:Hp}{r:Re nR}(l0:g8 IG iV aa G)(h:wp (aX (Ly k) r) (mZ X W D S ay au H1 IG iV))
    (hn:∀iT c2 L2 M2,wp (k iT c2 L2 M2) (mZ X W D S ay au H1 IG iV)->∀aq aj H' aZ,g8 aa G aq aj->Acc X.K S ay au H1 L2 aq aj M2 H'->cz X.K aq aj aZ iT->jw c2 aZ H'):mZ X W {D with nx:=jw,ct:=jw,bk:=D.nx} S ay au H1 aa G r:=by
  cases r with
  |ex c fs M1=>exact h
  |ok a M1=>
    cases a with
    |nx aY c1 fO=>exact hn aY c1 fO M1 h
    |ct aY c1 fO=>exact hn aY c1 fO M1 h
    |bk aY c1 fO=>exactλ_ _ _ _ jV=>h _ _ _ _ (l0.trans jV)
end
end R
namespace R
open PySem PySem.Spec PyProof.Rows L2 GenW
variable[aT]
def alk (n:Nat):Re nR->T (Re af)
 | .ok (.nx _ _ L) M=>.ret (.ok (.dat (.lst L)) (cut n M))
 |_=>.bad
def qj (np n:Nat)(b:eX):aM:=λss M=>if ss.length=np then(b (ss++List.replicate (n-np) .un) 0 [] M).bind (alk M.length)else .bad
def qE (K:Frag)(Qd:Addr->Hp->Prop)(aa:List Addr)(G H:Hp):Re af->Prop
 | .ok s az=>∃L,s=.dat (.lst L)/\∀ay au H1 aq aj H' S,aJ aa G H ay au H1->H1 S=none->Acc K S ay au H1 L aq aj az H'->Qd S H'
 | .ex _ _ _=>False
theorem Su {K:Frag}{S:Addr}{aa aq:List Addr}{G H aj H':Hp}{L:List D}{az:List ak}{AF:Prop}(a:Acc K S aa G H L aq aj az H')(q:∀aU,Acc K S aa G H L aU aj (cut aa.length az) H'->AF):AF:=by
 unfold cut at q;by_cases h:closed aa.length az=true
 ·rw[if_pos h]at q
  exact q _ ⟨LK a.g_,λz=>a.out (List.mem_of_mem_take z),a.qb,GO a.ms h,a.at_⟩
 ·rw[if_neg h]at q
  exact q aq a
def aeG:D->Flt
 | .str w=>aex w
 |_=>kL
section
variable{X:Cx}{W:WX}{k:Nat}{e o:Expr}{aE:CE}{m:Str}{pos apos p:Pos}{aqb:Addr->fN}{ard:Addr->Cons}{ct:Flt}
theorem qE.shift {K:Frag}{Qd:Addr->Hp->Prop}{aa ay:List Addr}{G H au H1:Hp}{r:Re af}(g:aJ aa G H ay au H1)(h:qE K Qd aa G H r):qE K Qd ay au H1 r:=by
 cases r with
 |ex c fs M1=>exact h
 |ok s M1=>
  obtain⟨L,e,q⟩:=h;exact⟨L,e,λaU aV aS aq aj H' S g2=>q aU aV aS aq aj H' S (g.trans g2)⟩
theorem ajB {np n:Nat}{b:eX}{ss:List af}{M:List ak}{Q:Re af->Prop}(w:wp (qj np n b ss M) Q):wp (qj np n b ss M) λr=>(∃s az,r=.ok s az)/\Q r:=by
 unfold qj at w⊢;split
 ·rename_i e
  rw[if_pos e]at w;refine wp_bind.mpr (wp_mono (λr hr=>?_) (wp_bind.mp w));cases r with
  |ex c fs M1=>exact(show False from hr).elim
  |ok v M1=>
   cases v with
   |nx aY c1 fO=>exact⟨⟨_,_,rfl⟩,hr⟩
   |bk aY c1 fO=>exact(show False from hr).elim
   |ct aY c1 fO=>exact(show False from hr).elim
 ·rename_i e
  rw[if_neg e]at w;exact w.elim
end
end R
namespace R
open PySem PySem.Spec PyProof.Rows L2 GenW
variable[aT]
abbrev Fq (P:Program)(w:World)(K:Frag)(mg:Str->Option Value)(base:Heap)(N:List Str)(qual:Str)(sc:Scope)(f:Addr)(cdv:Value)(A:Around)(outer:List Env)(s:Shared)(H:Hp)(pn:List (Addr×Obj)):Cx:=gcxOf P w K mg base N qual sc f cdv A outer s H lK pn
theorem b7.Fq {P:Program}{w:World}{K:Frag}{mg:Str->Option Value}{base:Heap}{N:List Str}{qual:Str}{sc s0:Scope}{f:Addr}{cdv:Value}{A:Around}{outer:List Env}{s:Shared}{H:Hp}{pn:List (Addr×Obj)}:b7 N sc s0 (Fq P w K mg base N qual sc f cdv A outer s H pn):=⟨rfl,rfl,λ_ _=>rfl,rfl⟩
def Dw (m:Bool):af->Ev af:=λs M=>match s with
 | .dat (.lst L)=>.ret (.ok (d9 m M L).1 (d9 m M L).2)
 |_=>.bad
def ve (m:Bool)(f:CE):CE:=λρ=>Ev.bind (f ρ) (Dw m)
section
variable{X:Cx}{W:WX}{k:Nat}{e elt bV iter:Expr}{f:CE}{pos p:Pos}{nm:Str}{ifs:List Expr}{scope:Scope}{own:List (Str×Nat)}
theorem aq6 {m:Bool}{ρ:List af}{M:List ak}{aa:List Addr}{G H:Hp}{σ:L2.St}{Q:VK}(h:wp (ve m f ρ M) (dB X W (bF X.K) Q σ aa G H)):
    wp (f ρ M) (λr=>match r with|.ok s az=>qE X.K (λS H'=>Q (.ref S) H') aa G H (.ok s az)|.ex c fs az=>PX X W σ aa G H c fs az):=wp_mono (λr hr=>by
  cases r with
  |ex c fs M1=>exact hr
  |ok s M1=>
    have hr:wp (Dw m s M1) (dB X W (bF X.K) Q σ aa G H):=hr;unfold Dw at hr;split at hr
    · exact⟨_,rfl,λay au H1 aq aj H' S g1 hS a=>AL (X:=X) (m:=m) hS g1 a λaU aV aS v g2 m2 r2=>hr aU aV aS v g2 m2 r2⟩
    · exact hr.elim) (cL.mp h)
end
end R
namespace R
open PySem PySem.Spec PyProof.Rows L2 PySem.W PySem.Calls
def Sa (cK:List Fk)(fn:List fT)(en:List gB)(ts:List Jd)(w:World)(K:Frag):Prop:=SaysE cK fn en K/\(ts.map λt=>He.dicW K (bx K t.1))=ts.map λt=>some (He.keysIn w.params t.2)
theorem Sa.tab {cK:List Fk}{fn:List fT}{en:List gB}{ts:List Jd}{w:World}{K:Frag}(c:Sa cK fn en ts w K)(i:Nat){t:Jd}(h:ts[i]?=some t:=by rfl):He.dicW K (bx K t.1)=some (He.keysIn w.params t.2):=by
 have e:(ts.map λt=>He.dicW K (bx K t.1))[i]?=(ts.map λt=>some (He.keysIn w.params t.2))[i]?:=by rw[c.2]
 rw[List.getElem?_map,List.getElem?_map,h]at e;exact Option.some.inj e
end R
namespace R
open PySem PySem.Spec PyProof.Rows L2 PySem.W PySem.Calls
end R
namespace R
open PySem PySem.Spec PyProof.Rows L2 PySem.W PySem.Calls
end R
namespace R
open PySem PySem.Spec PyProof.Rows L2
variable[aT]
end R
namespace R
open PySem PySem.Spec PyProof.Rows L2 uU PySem.Froz
namespace TS
structure Jg (P:Program)(w:World)(h:Heap)(a:Addr)(l:List Str)(D:SD):Prop where
 at_:h.get? a=some (sObj "set" D)
 ok:TxOk P w D l
 ris:Ris D.2.2.place.toList
 led:w.params.followText "set-order"=true\/D.2.2.led=true
 nd:l.Nodup
section
variable{P:Program}{w:World}{A:Around}{E:Value->Shared->Prop}{s:Shared}{a:Addr}{l:List Str}{D:SD}
theorem Jg.keep {h h':Heap}(R:Jg P w h a l D)(k:∀o,h.get? a=some o->h'.get? a=some o):Jg P w h' a l D:=⟨k _ R.at_,R.ok,R.ris,R.led,R.nd⟩
end
end TS
end R
namespace R
open PySem PySem.Spec PyProof.Rows L2
abbrev g7 (X:Cx)(t:Shared):Cx:={X with s_0:=t}
abbrev gD:Type:=Shared->Prop
def mY (X:Cx)(Fa:gD)(pins:List (Addr×Obj))(σ:L2.St)(H:Hp)(s:Shared):Prop:=∃t,Fa t/\Inv (g7 X t) pins σ H s
abbrev se (X:Cx)(Fa:gD):Prop:=∀t,Fa t->t.heap.objs.size=X.s_0.heap.objs.size
def pK (X:Cx)(Fa:gD)(aH:fN)(cons:Cons):Protocol:=λ_ _ v s F_=>
 ∃(x:V) (cp ip:List (Addr×Obj)) (σ:L2.St) (H:Hp) (Q:Hp->Prop),jZ aH cp/\(∀p∈ip,p.1∉aH.ad)/\RelV x v/\mY X Fa (cp++ip) σ H s/\cons x H Q/\
  ∀(aF:Shared) (H':Hp) (fW:List (Addr×Obj)),jZ aH fW->Q H'->mY X Fa (fW++ip) σ H' aF->F_ (.send .none) aF
def abh (X:Cx)(Fa:gD)(aH:fN)(ip:List (Addr×Obj))(D:GE)(k:Nat)(f:Flow)(s:Shared):Prop:=
 ∃cp:List (Addr×Obj),jZ aH cp/\∃t,Fa t/\SP (g7 X t) (cp++ip) (D.at k) f s
structure IT (X:Cx)(Fa:gD)(aH:fN)(cons:Cons)(N:Nat)(ip:List (Addr×Obj))(A:Around)(Re:GenEnd)(c:Code)(fs:List Frame)(K:Flow->Sem PySem.Fin)(J:Value->Sem PySem.Fin)(D:GE):Prop where
 ok:∀(n k:Nat) (dS s:Shared) (f:Flow),n+k=N->abh X Fa aH ip D k f s->Seg (model X.prog X.w) A Re (pK X Fa aH cons) n dS c (K f) fs s
 exc:∀(n:Nat) (dS:Shared) (e:Value) (s:Shared),X.xe e s->Seg (model X.prog X.w) A Re (pK X Fa aH cons) n dS c (J e) fs s
def Aj (X:Cx)(Fa:gD)(aH:fN)(cons:Cons)(N:Nat)(st:Stmt):Jc:=λD k σ H=>
 ∀(A:Around) (ip cp:List (Addr×Obj)) (Re:GenEnd) (n:Nat) (dS:Shared) (c:Code) (fs:List Frame) (K:Flow->Sem PySem.Fin) (J:Value->Sem PySem.Fin) (gd:Bool->Bool) (lv:List Value->List Value) (s:Shared),
  v7 X A c fs gd->n+k=N->jZ aH cp->(∀p∈ip,p.1∉aH.ad)->IT X Fa aH cons N ip A Re c fs K J D->mY X Fa (cp++ip) σ H s->Seg (model X.prog X.w) A Re (pK X Fa aH cons) n dS c ((exec st X.env).wrap K J gd lv) fs s
def tK (X:Cx)(Fa:gD)(aH:fN)(cons:Cons)(N:Nat)(st:List Stmt):Jc:=λD k σ H=>
 ∀(A:Around) (ip cp:List (Addr×Obj)) (Re:GenEnd) (n:Nat) (dS:Shared) (c:Code) (fs:List Frame) (K:Flow->Sem PySem.Fin) (J:Value->Sem PySem.Fin) (gd:Bool->Bool) (lv:List Value->List Value) (s:Shared),
  v7 X A c fs gd->n+k=N->jZ aH cp->(∀p∈ip,p.1∉aH.ad)->IT X Fa aH cons N ip A Re c fs K J D->mY X Fa (cp++ip) σ H s->Seg (model X.prog X.w) A Re (pK X Fa aH cons) n dS c ((execs st X.env).wrap K J gd lv) fs s
section
variable{X:Cx}{Fa:gD}{aH:fN}{cons:Cons}{N:Nat}{st:Stmt}{rest:List Stmt}{D:GE}{k:Nat}{σ:L2.St}{H:Hp}
theorem aps (h:∀t,Fa t->wS (g7 X t) st (D.at k) σ H):Aj X Fa aH cons N st D k σ H:=by
 intro A ip cp Re n dS c fs K J gd lv s g hn hc hi kk ⟨t,cA,I⟩;refine seg_wrap ?_;rw[g.over];exact wpAny_mono (h t cA _ s I) (λf aF hs=>kk.ok n k dS aF f hn ⟨cp,hc,t,cA,hs⟩) λx aF hx=>kk.exc n dS x aF hx
theorem aaD (h:D.nx k σ H):tK X Fa aH cons N [] D k σ H:=by
 intro A ip cp Re n dS c fs K J gd lv s g hn hc hi kk ⟨t,cA,I⟩;exact seg_execs_nil (kk.ok n k dS s .next hn ⟨cp,hc,t,cA,σ,H,I,h⟩)
theorem aaC (h:Aj X Fa aH cons N st {D with nx:=λe7 aZ H'=>tK X Fa aH cons N rest D e7 aZ H'} k σ H):tK X Fa aH cons N (st::rest) D k σ H:=by
 intro A ip cp Re n dS c fs K J gd lv s g hn hc hi kk I;refine seg_execs_cons ?_;refine h A ip cp Re n dS c fs _ J gd lv s g hn hc hi ⟨λj9 e7 rV aF f n8 ⟨fW,l_,t',qW,hs⟩=>?_,kk.exc⟩ I;cases f with
 |next=>
  obtain⟨aZ,H',eL,q⟩:=hs;exact q A ip fW Re j9 rV c fs K J gd lv aF g n8 l_ hi kk ⟨t',qW,eL⟩
 |brk=>exact kk.ok j9 e7 rV aF .brk n8 ⟨fW,l_,t',qW,hs⟩
 |cont=>exact kk.ok j9 e7 rV aF .cont n8 ⟨fW,l_,t',qW,hs⟩
 |ret u=>exact kk.ok j9 e7 rV aF (.ret u) n8 ⟨fW,l_,t',qW,hs⟩
theorem apr {test:Expr}{body orelse:List Stmt}{pos:Pos}(h:∀t,Fa t->wT (g7 X t) test σ H λb H1=>if b=true then tK X Fa aH cons N body D k σ H1 else tK X Fa aH cons N orelse D k σ H1):Aj X Fa aH cons N (.If test body orelse pos) D k σ H:=by
 intro A ip cp Re n dS c fs K J gd lv s g hn hc hi kk ⟨t,cA,I⟩;rw[exec_If];refine seg_at ?_;show Seg _ _ _ _ _ _ _ ((isTrue test X.env (eval test X.env) >>=λb=>if b=true then execs body X.env else execs orelse X.env).wrap K J gd lv) _ _
 refine seg_bind_wrap ?_;rw[g.over];refine wpAny_mono (h t cA _ s I) (λb aF hb=>?_) λx aF hx=>kk.exc n dS x aF hx
 obtain⟨H1,bY,q⟩:=hb;cases b with
 |true=>
  rw[if_pos rfl]at q⊢;exact q A ip cp Re n dS c fs K J gd lv aF g hn hc hi kk ⟨t,cA,bY⟩
 |false=>
  rw[if_neg Bool.false_ne_true]at q⊢;exact q A ip cp Re n dS c fs K J gd lv aF g hn hc hi kk ⟨t,cA,bY⟩
theorem apt {e:Expr}{ya pos:Pos}(hco:X.env.scope.isCoroutine=false)(hint:interactive X.env=false)(h:∀t,Fa t->wE (g7 X t) e σ H λx H1=>k<N/\cons x H1 λaS=>D.nx (k+1) σ aS):Aj X Fa aH cons N (.Expr (.Yield (some e) ya) pos) D k σ H:=by
 intro A ip cp Re n dS c fs K J gd lv s g hn hc hi kk ⟨t,cA,I⟩;cases n with
 |zero=>
  rw[exec_Expr X.env _ pos hint rfl];show Seg _ _ _ _ 0 dS c (.at pos λ_=>((eval e X.env >>=λv=>(standAt ya >>=λ_=>yieldOut X.env v)) >>=λx=>dropValue (.Yield (some e) ya) pos x).wrap K J gd lv) fs s
  refine seg_at ?_;rw[Sem.bind_eq_wrap',Sem.bind_eq_wrap',Sem.wrap_wrap,Sem.wrap_wrap];refine seg_wrap ?_;rw[g.over];refine wpAny_mono (h t cA _ s I) (λv aF hv=>?_) λx aF hx=>kk.exc _ dS x aF hx
  obtain⟨x,H1,bY,b6,hlt,q⟩:=hv;exact absurd hlt (by omega)
 |succ m=>
  refine seg_Expr_Yield g.split g.gd g.guard ?_ hco hint;rw[g.over];refine wpAny_mono (h t cA _ s I) (λv aF hv=>?_) λx aF hx=>kk.exc _ dS x aF hx
  obtain⟨x,H1,bY,b6,hlt,q⟩:=hv;intro F_ hk;refine⟨x,cp,ip,σ,H1,_,hc,hi,b6,⟨t,cA,bY⟩,q,λly IW adP afM hq ⟨aos,aeO,abk⟩=>hk .none ly ?_⟩;exact kk.ok m (k+1) ly ly .next (by omega) ⟨adP,afM,aos,aeO,σ,IW,abk,hq⟩
theorem Z4 {ip:List (Addr×Obj)}{A:Around}{Re:GenEnd}{c:Code}{fs:List Frame}{K:Flow->Sem PySem.Fin}{J:Value->Sem PySem.Fin}{gd:Bool->Bool}{lv:List Value->List Value}{n:Nat}{dS s:Shared}{e:Value}
    (g:v7 X A c fs gd) (kk:IT X Fa aH cons N ip A Re c fs K J D) (h:cameBackBy (model X.prog X.w) X.A X.env X.xe e s):
    Seg (model X.prog X.w) A Re (pK X Fa aH cons) n dS c (((Sem.raise e:Sem Flow).onRaise (cameBack X.env)).wrap K J gd lv) fs s:=by
  show Seg _ _ _ _ _ _ _ (((cameBack X.env e).bind λ_=>(Sem.raise e:Sem Flow)).wrap K J gd lv) _ _
  rw[Sem.bind_eq_wrap,Sem.wrap_wrap];refine seg_wrap ?_;rw[g.over];exact wpAny_mono h (λ_ aF hx=>kk.exc n dS e aF hx) λx aF hx=>kk.exc n dS x aF hx
end
section
variable{X:Cx}{Fa:gD}{aH:fN}{cons:Cons}{N:Nat}{D:GE}{k:Nat}{σ:L2.St}{H:Hp}
theorem aeM {t t':Shared}{pins:List (Addr×Obj)}{H:Hp}{b:Addr}(e:t.heap.objs.size=t'.heap.objs.size)(f:FpOk (g7 X t) pins H b):FpOk (g7 X t') pins H b:=by
 obtain⟨f0,f1,f2,jE,f4,sM⟩:=f;exact⟨f0,f1,f2,jE.imp id λz=>by show t'.heap.objs.size<=b;rw[<-e];exact z,f4,sM⟩
def aeV (X:Cx)(Fa:gD)(aH:fN)(cons:Cons)(N:Nat)(bV:Expr)(body:List Stmt)(D:GE)(J:It)(W:Nat->Nat->Nat->L2.St->Hp->Prop):Prop:=
 ∀i m k σ H,W i m k σ H->(J.stop i H/\D.nx k σ H)\/(J.go i H/\∃jw:Nat->L2.St->Hp->Prop,(∀e7 aZ H',jw e7 aZ H'->∃m',m'<m/\W (i+1) m' e7 aZ H')/\
  ∀x H',J.yld i H x H'->∀t,Fa t->Di (g7 X t) bV x σ H' λfS aS=>tK X Fa aH cons N body {D with nx:=jw,ct:=jw,bk:=D.nx} k fS aS)
theorem apq {bV iter:Expr}{body:List Stmt}{pos:Pos}(hF:se X Fa)(hp:PassesOwn (model X.prog X.w) X.A X.env X.xe)(Vi:X.calm=true)(hs:∀x,foldedSetIterable iter X.env x=pure x)
    (h:∀t,Fa t->Dk (g7 X t) bV iter σ H λJ H1=>∃W:Nat->Nat->Nat->L2.St->Hp->Prop,(∃m,W 0 m k σ H1)/\aeV X Fa aH cons N bV body D J W):Aj X Fa aH cons N (.For bV iter body [] pos) D k σ H:=by
  intro A ip cp Re n dS c fs K J gd lv s g hn hc hi kk ⟨t0,Ls,I⟩;rw[exec_For];refine seg_at ?_;show Seg _ _ _ _ _ _ _ ((eval iter X.env >>=λv=>foldedSetIterable iter X.env v >>=λx=>standAt iter.pos >>=λ_=>holding [x] (pyIter x) >>=λit=>runOwn (.forLoop bV it body [] X.env) X.env).wrap K J gd lv) _ _
  refine seg_bind_wrap ?_;rw[g.over];refine wpAny_mono (h t0 Ls _ s I) (λv s1 h1=>?_) λx aF hx=>kk.exc n dS x aF hx
  refine seg_bind_wrap ?_;rw[g.over];refine wpAny_of_eq (hs v) ?_;refine seg_bind_wrap (wpAny_standAt ?_);refine seg_bind_wrap ?_;rw[g.over];refine wpAny_holding (wpAny_mono h1 (λu s2 h2=>?_) λx aF hx=>kk.exc n dS x aF hx);obtain⟨it,bQ,tn,aqs,aS,e,d7,T,H9,f2,W,⟨m0,tH⟩,turn⟩:=h2;subst e;show Seg _ _ _ _ _ _ _ ((runOwn (.forLoop bV (.ref it) body [] X.env) X.env).wrap K J gd lv) _ _
  unfold runOwn;refine seg_call λp=>?_
  have gl:=λ(kk:Result->Sem PySem.Fin)=>UX (kk:=kk) (c':=.forLoop bV (.ref it) body [] X.env) (l:=lv []) (kp:=[]) (p:=p) g rfl rfl
  have arS:=λ(kk:Result->Sem PySem.Fin)=>UX (kk:=kk) (c':=.block [] X.env) (l:=lv []) (kp:=[]) (p:=p) g rfl rfl
  have Ie:∀{fW:List (Addr×Obj)} {H':Hp} (t:Shared),Fa t->jZ aH fW->(∀b∈bQ,H' b=none)->∀b∈bQ,FpOk (g7 X t) (fW++ip) H' b:=λ{fW H'} t cA l_ hn b hb=>aeL hc l_ (aeM (((hF t0 Ls)).trans (hF t cA).symm) ⟨hn b hb,(f2 b hb).2⟩)
  have ajU:∀{fW:List (Addr×Obj)} {H':Hp} {b:Addr} {t:Shared},jZ aH fW->FpOk (g7 X t) (fW++ip) H' b->b∉aH.ad:=λ{fW H' b t} l_ f hb=>by
    rw[<-l_.1]at hb;obtain⟨q,hq,e⟩:=List.mem_map.mp hb;exact f.2.2.2.2.2 q (List.mem_append_right _ (List.mem_append_left _ hq)) e
  have loop:∀(m i n k:Nat) (dS s:Shared) (σ:L2.St) (H:Hp) (cp:List (Addr×Obj)),n+k=N->jZ aH cp->W i m k σ H->mY X Fa (cp++ip) σ H s->tn i s.heap->(∀b∈bQ,H b=none)->
      Seg (model X.prog X.w) A Re (pK X Fa aH cons) n dS (.forLoop bV (.ref it) body [] X.env) ((model X.prog X.w).den (.forLoop bV (.ref it) body [] X.env))
        (.ret (λr=>((match r with|.ok f=>(.pure f:Sem Flow)|.error e=>.raise e).onRaise (cameBack X.env)).wrap K J gd lv) none (gd false) (lv []) c p []::fs) s:=by
    intro m;induction m using Nat.strongRecOn with
    |ind m ih=>
      intro i n k dS s σ H cp hn hc w ⟨t,cA,I⟩ st fr;have ee:∀(c':Code) (FE:v7 X A c' (.ret (λr=>((match r with|.ok f=>(.pure f:Sem Flow)|.error e=>.raise e).onRaise (cameBack X.env)).wrap K J gd lv) none (gd false) (lv []) c p []::fs) id) (n:Nat) (dS:Shared) (x:Value) (aF:Shared),X.xe x aF->Seg (model X.prog X.w) A Re (pK X Fa aH cons) n dS c'
          ((do noteFrame x X.env;theTreesLotGoes x:Sem Unit).wrap (λ_=>.raise x) .raise id id)
          (.ret (λr=>((match r with|.ok f=>(.pure f:Sem Flow)|.error e=>.raise e).onRaise (cameBack X.env)).wrap K J gd lv) none (gd false) (lv []) c p []::fs) aF:=λc' FE n dS x aF hx=>by
        refine seg_wrap ?_;rw[FE.over];refine wpAny_bind (wpAny_mono (hp x aF hx) (λ_ ly LZ=>wpAny_theTreesLotGoes ?_) λy ly LZ=>?_)
        · exact seg_leaf (.error x) (Z4 g kk LZ)
        · exact seg_leaf (.error y) (Z4 g kk LZ)
      have n5:∀(x:Value),(((do noteFrame x X.env;theTreesLotGoes x:Sem Unit).bind λ_=>(Sem.raise x:Sem PySem.Fin)))=((do noteFrame x X.env;theTreesLotGoes x:Sem Unit).wrap (λ_=>.raise x) .raise id id):=λx=>Sem.bind_eq_wrap _ _
      show Seg _ _ _ _ _ _ _ ((forTurn bV (.ref it) body [] X.env).onRaise (λx=>do noteFrame x X.env;theTreesLotGoes x)) _ _
      rw[Sem.onRaise_eq_wrap];unfold forTurn;refine seg_bind_wrap (wpAny_standAt ?_);refine seg_bind_wrap ?_;rw[(gl _).over];have ex:∀(x:Value) (aF:Shared),X.xe x aF->Seg (model X.prog X.w) A Re (pK X Fa aH cons) n dS (.forLoop bV (.ref it) body [] X.env) (((do noteFrame x X.env;theTreesLotGoes x:Sem Unit).bind λ_=>(Sem.raise x:Sem PySem.Fin)))
          (.ret (λr=>((match r with|.ok f=>(.pure f:Sem Flow)|.error e=>.raise e).onRaise (cameBack X.env)).wrap K J gd lv) none (gd false) (lv []) c p []::fs) aF:=λx aF hx=>by
        rw[n5];exact ee _ (gl _) n dS x aF hx
      rcases turn i m k σ H w with⟨stop,xQ⟩|⟨go,jw,afk,step⟩
      · refine wpAny_onRaise (wpAny_mono (T.done (g7 X t) rfl rfl rfl Vi i (cp++ip) s σ H (λ_ _=>False) I (Ie t cA hc fr) st stop) (λr s4 ⟨hr,Aw⟩=>?_) λ_ _ z=>z.elim)
        subst hr;show Seg _ _ _ _ _ _ _ (Sem.pure (.again (.block [] X.env))) _ _
        refine seg_again rfl ?_;show Seg _ _ _ _ _ _ _ (((execs [] X.env).onRaise (λx=>do noteFrame x X.env;theTreesLotGoes x)) >>=λf=>(Sem.pure (Fin.done f))) _ _
        refine seg_leaf (.ok .next) (kk.ok n k dS s4 .next hn ⟨cp,hc,t,cA,σ,H,Aw,xQ⟩)
      · refine wpAny_onRaise (wpAny_mono (T.item (g7 X t) rfl rfl rfl Vi i (cp++ip) s σ H (λ_ _=>False) I (Ie t cA hc fr) st go) (λr s4 ⟨u,hr,h4⟩=>?_) λ_ _ z=>z.elim)
        subst hr;refine seg_bind_wrap ?_;rw[(gl _).over];refine wpAny_mono h4 (λ_ s5 ⟨x,tV,abl,ql,aq4,Qj,UG⟩=>?_) λ_ _ z=>z.elim
        have Rg:=abl.pinned (Ie t cA hc UG) (T.obj _ _ Qj);rw[List.append_assoc]at Rg;refine seg_bind_wrap ?_;rw[(gl _).over];refine wpAny_mono (step x tV aq4 t cA _ s5 u Rg ql) (λ_ alO ⟨QS,uR,abm,alb⟩=>?_) λx aF hx=>ex x aF hx
        have ag7:∀q∈ip++pinsAt bQ s5.heap,q.1∉aH.ad:=λq hq=>by
          rcases List.mem_append.mp hq with z|z
          · exact hi q z
          · exact ajU hc (Ie t cA hc UG q.1 (of_pinsAt z).1)
        rw[Sem.bind_eq_wrap',Sem.wrap_wrap];rw[Sem.wrap_congr (execs body X.env) _ _ (K':=λf=>match f with
            | .next|.cont=>.pure (.again (.forLoop bV (.ref it) body [] X.env))
            | .brk=>.pure (.done .next)
            | .ret v=>.pure (.done (.ret v))) (H':=λe=>(do noteFrame e X.env;theTreesLotGoes e:Sem Unit).wrap (λ_=>.raise e) .raise id id)
          (λf=>by cases f<;>rfl) (λe=>by first|exact n5 e|exact Sem.bind_eq_wrap _ _|rfl)]
        refine alb A (ip++pinsAt bQ s5.heap) cp Re n dS _ _ _ _ id id alO (gl _) hn hc ag7 ⟨λj9 e7 rV vK f n8 ⟨fW,l_,t',qW,sP⟩=>?_,λj9 rV x vK hx=>ee _ (gl _) j9 rV x vK hx⟩ ⟨t,cA,abm⟩;have again:∀{r6:L2.St} {mJ:Hp},Inv (g7 X t') (fW++(ip++pinsAt bQ s5.heap)) r6 mJ vK->jw e7 r6 mJ->
            Seg (model X.prog X.w) A Re (pK X Fa aH cons) j9 rV (.forLoop bV (.ref it) body [] X.env) (Sem.pure (.again (.forLoop bV (.ref it) body [] X.env)))
              (.ret (λr=>((match r with|.ok f=>(.pure f:Sem Flow)|.error e=>.raise e).onRaise (cameBack X.env)).wrap K J gd lv) none (gd false) (lv []) c p []::fs) vK:=λ{r6 mJ} oM uv=>by
          obtain⟨m',hm,apl⟩:=afk e7 r6 mJ uv;rw[<-List.append_assoc]at oM;have YW:∀b∈bQ,∀o,s5.heap.get? b=some o->vK.heap.get? b=some o/\mJ b=none:=λb hb o e=>
            let z:=oM.pin (b,o) (List.mem_append_right _ (List.mem_append_right _ (mem_pinsAt hb e)))
            ⟨z.1,z.2.1⟩
          refine seg_again rfl (ih m' hm (i+1) j9 e7 rV vK r6 mJ fW n8 l_ apl ⟨t',qW,oM.unpinned⟩ (T.keep _ _ _ Qj λb hb o e=>(YW b hb o e).1) λb hb=>?_);obtain⟨o,e,d⟩:=T.obj _ _ Qj b hb;exact(YW b hb o e).2
        cases f with
        |next=>obtain⟨r6,mJ,oM,uv⟩:=sP;exact again oM uv
        |cont=>obtain⟨r6,mJ,oM,uv⟩:=sP;exact again oM uv
        |brk=>
          obtain⟨r6,mJ,oM,OM⟩:=sP;rw[<-List.append_assoc]at oM;exact seg_leaf (.ok .next) (kk.ok j9 e7 rV vK .next n8 ⟨fW,l_,t',qW,r6,mJ,oM.unpinned,OM⟩)
        |ret v=>
          obtain⟨qv,r6,mJ,oM,ON,OM⟩:=sP;rw[<-List.append_assoc]at oM;exact seg_leaf (.ok (.ret v)) (kk.ok j9 e7 rV vK (.ret v) n8 ⟨fW,l_,t',qW,qv,r6,mJ,oM.unpinned,ON,OM⟩)
  exact loop m0 0 n k dS s2 σ aS cp hn hc tH ⟨t0,Ls,d7⟩ H9 λb hb=>(f2 b hb).1
end
end R
namespace R
open PySem PySem.Spec PyProof.Rows L2 GenW
section
variable{P:Program}{w:World}{K:Frag}{mg:Str->Option Value}{base:Heap}{k:Nat}{f:Addr}{name qual:Str}{params:Arguments}{body:List Stmt}{scope:Scope}{qP kV doc pm cdv ct oc:Value}{an od:Option Addr}
    {gi:Array (Option Value)} {N ps:List Str}
def Ra (X:Cx)(Fa:gD)(aH:fN)(Q:Hp->Prop)(Er:Value->Shared->Prop):GenEnd:=λ_ _ r s=>
 ((r=.ok (.ret .none)\/r=.ok .next)/\∃cp σ H,jZ aH cp/\mY X Fa cp σ H s/\Q H)\/∃e,r=.error e/\Er e s
theorem Z5 {Fa:gD}{A:Around}{outer:List Env}{s s2:Shared}{H aS:Hp}{E:XK}{pn cp:List (Addr×Obj)}{aH:fN}{cons:Cons}{I6:Nat}{Q:Hp->Prop}{σ:L2.St}
    (hc:jZ aH cp) (I:mY (gcxOf P w K mg base N qual scope f cdv A outer s H E pn) Fa cp σ aS s2)
    (hb:tK (gcxOf P w K mg base N qual scope f cdv A outer s H E pn) Fa aH cons I6 body {nx:=λ_ _ H'=>Q H',rt:=λ_ v H'=>v=.non/\Q H'} 0 σ aS):
    Seg (model P w) A (Ra (gcxOf P w K mg base N qual scope f cdv A outer s H E pn) Fa aH Q λe aF=>CX P w outer H s E e aF/\∀p∈pn,aF.heap.get? p.1=some p.2) (pK (gcxOf P w K mg base N qual scope f cdv A outer s H E pn) Fa aH cons) I6 s2
      (.func body (envOfC qual scope s.heap.objs.size f cdv)) ((model P w).den (.func body (envOfC qual scope s.heap.objs.size f cdv))) [] s2:=by
  refine seg_func ?_;refine hb A [] cp _ I6 s2 _ [] _ _ id id s2 ⟨over_func,rfl,rfl,rfl⟩ (Nat.add_zero _) hc (λp hp=>by simp at hp) ⟨λn k dS aF gG hn ⟨fW,l_,t',qW,hs⟩=>?_,λn dS e aF hx=>?_⟩ (by rw[List.append_nil];exact I)
  · cases gG with
    |next=>
      obtain⟨aZ,H',hI,hQ⟩:=hs;rw[List.append_nil]at hI;exact seg_end (.ok (.ret .none)) (.inl ⟨.inl rfl,fW,aZ,H',l_,⟨t',qW,hI⟩,hQ⟩)
    |brk=>obtain⟨_,_,_,q⟩:=hs;exact False.elim q
    |cont=>obtain⟨_,_,_,q⟩:=hs;exact False.elim q
    |ret u=>
      obtain⟨v,aZ,H',hI,b6,ev,hQ⟩:=hs;rw[List.append_nil]at hI;subst ev;have aem:u=Value.none:=b6;subst aem;exact seg_end (.ok (.ret .none)) (.inl ⟨.inl rfl,fW,aZ,H',l_,⟨t',qW,hI⟩,hQ⟩)
  · refine seg_wrap ?_
    rw[over_func];refine wpAny_mono (show wpAny (model P w) (A.deeper (envOfC qual scope s.heap.objs.size f cdv)) (leaving (envOfC qual scope s.heap.objs.size f cdv) e) (λ_ ly=>CX P w outer H s E e ly/\∀p∈pn,ly.heap.get? p.1=some p.2) (λ_ _=>False) aF from hx) (λ_ ly q=>?_) λ_ ly q=>q.elim
    exact seg_end (.error e) (.inr ⟨e,rfl,q⟩)
end
section
variable{P:Program}{w:World}{X:Cx}{Fa:gD}{aH:fN}{cons:Cons}{Qf:Hp->Prop}{Er:Value->Shared->Prop}{a:Addr}{g:Nat}{go:Obj}
def AI (P:Program)(w:World)(X:Cx)(Fa:gD)(aH:fN)(cons:Cons)(Qf:Hp->Prop)(Er:Value->Shared->Prop)(g:Nat)(A:Around)(m:Nat)(s:Shared):Prop:=
 ∃bU:GenState,s.gens[g]?=some bU/\bU.Goes (model P w) A (Ra X Fa aH Qf Er) (pK X Fa aH cons) m (.send .none) (s.setGen g .running)
theorem Ul {g:Nat}{x:GenState}{pins:List (Addr×Obj)}{σ:L2.St}{H:Hp}{s:Shared}(I:mY X Fa pins σ H s)(hx:x.bare=true):mY X Fa pins σ H (s.setGen g x):=let⟨t,cA,J⟩:=I;⟨t,cA,ME J hx⟩
theorem Yx {A:Around}{E:Value->Shared->Prop}{Q:Option Value->Shared->Prop}{m:Nat}{s:Shared}(hh:A.handled=none)(hd:A.depth<recursionLimit)(hl:s.heap.NoLimit)(FH:∀h:Heap,h.get? a=some go->h.IsGen a g)(hg:s.heap.get? a=some go)(Mi:(a,go)∈X.pn)
    (hs:AI P w X Fa aH cons Qf Er g A.in1 m s)
    (hY:∀(v:Value) (x:V) (cp ip:List (Addr×Obj)) (σ:L2.St) (H:Hp) (sr:Hp->Prop) (s1:Shared),jZ aH cp->(∀p∈ip,p.1∉aH.ad)->RelV x v->mY X Fa (cp++ip) σ H s1->cons x H sr->
      (∀(aF:Shared) (H':Hp) (fW:List (Addr×Obj)),jZ aH fW->sr H'->mY X Fa (fW++ip) σ H' aF->aF.gens=s1.gens->∃m',m'<m/\AI P w X Fa aH cons Qf Er g A.in1 m' aF)->Q (some v) s1)
    (hP:∀(cp:List (Addr×Obj)) (σ:L2.St) (H:Hp) (s1:Shared),jZ aH cp->mY X Fa cp σ H s1->Qf H->Q none s1)
    (hE:∀e s1,Er e s1->s1.heap.get? a=some go/\NotStop (model P w) e s1.heap/\E e (s1.setGen g .finished)):
    wpAny (model P w) A (pyNext (.ref a)) Q E s:=by
  obtain⟨bU,FF,ag4⟩:=hs;have FE:g<s.gens.size:=(Array.getElem?_eq_some_iff.mp FF).1;refine wpAny_gsz (n:=g+1) FE (next_genG (A:=A) (F:=λn dS s1=>∃(cp:List (Addr×Obj)) (σ:L2.St) (H:Hp),jZ aH cp/\mY X Fa cp σ H s1/\Qf H) (Er:=Er) (Y:=pK X Fa aH cons) (Q:=λr s1=>g+1<=s1.gens.size->Q r s1) (E:=λe s1=>g+1<=s1.gens.size->E e s1) hh hl hd (FH _ hg) FF ag4 (λv pC LL Fw hv hsz=>?_) (λpC hp h' hk hsz=>?_) λe pC he=>?_)
  · obtain⟨x,cp,ip,σ,H,sr,hc,hi,b6,I,hq,hk⟩:=hv
    have agA:g<pC.gens.size:=by
      have q:(pC.setGen g LL).gens.size=pC.gens.size:=setGen_size _ _ _;have as6:g+1<=(pC.setGen g LL).gens.size:=hsz;omega
    refine hY v x cp ip σ H sr _ hc hi b6 (Ul I Fw) hq λaF H' fW l_ xg eL ag0=>?_
    have z:=hk (aF.setGen g .running) H' fW l_ xg (Ul eL rfl);cases m with
    |zero=>exact False.elim z
    |succ m=>exact⟨m,Nat.lt_succ_self m,LL,by rw[ag0];exact setGen_at agA,z⟩
  · obtain⟨cp,σ,H,hc,⟨t,cA,I⟩,hq⟩:=hp
    have d7:Inv (g7 X t) cp σ H {pC with heap:=h'}:=I.kept (t':=pC.toks) hk;exact hP cp σ H _ hc ⟨t,cA,VU d7 rfl rfl (allBare_setGen I.bare rfl)⟩ hq
  · obtain⟨h1,h2,h3⟩:=hE e pC he
    exact⟨FH _ h1,h2,λ_=>h3⟩
end
section
variable{P:Program}{w:World}{X:Cx}{Fa:gD}{Qf:Hp->Prop}{Er:Value->Shared->Prop}{a S:Addr}{g:Nat}{go:Obj}{A:Around}{R:Result->Shared->Prop}{res:Value}
theorem ae5 (hh:A.handled=none)(hd:A.depth<recursionLimit)(FH:∀h:Heap,h.get? a=some go->h.IsGen a g)(Mi:(a,go)∈X.pn)
    (hend:∀σ H s1,mY X Fa [] σ H s1->Qf H->R (.ok (.ret res)) s1)
    (L6:∀e s1,Er e s1->s1.heap.get? a=some go/\NotStop (model P w) e s1.heap/\R (.error e) (s1.setGen g .finished)):
    ∀(m:Nat) (s:Shared),s.heap.get? a=some go->s.heap.NoLimit->AI P w X Fa mR (qN S) Qf Er g A.in1.in1 m s->
      codeAny (model P w) A (.builtin "list.extend.loop" ⟨[.ref S,.ref a,res],[]⟩) R s:=by
  intro m;induction m using Nat.strongRecOn with
  |ind m ih=>
    intro s hg hl hs;refine codeAny_builtin F.entry_extend_loop ?_;rw[Around.under_plainId F.plain_extend_loop _];show wpAny _ A.in1 (pyNext (.ref a) >>=_) _ _ s
    refine wpAny_bind (Yx (A:=A.in1) hh hd hl FH hg Mi hs (λv x cp ip σ H sr s1 hc hi b6 I hq hk=>?_) (λcp σ H s1 hc I hq=>?_) L6)
    · obtain rfl:cp=[]:=List.map_eq_nil_iff.mp hc.1
      obtain⟨acc,hS,hz,hq⟩:=hq;obtain⟨t,cA,I⟩:=I;rw[List.nil_append]at I;obtain⟨_,its,c,CN,hle,eS⟩:=I.lstM hS;show wpAny _ A.in1 (updateSeq S (·.push v) >>=_) _ _ _
      refine wpAny_bind ?_;refine wpAny_updateSeq eS rfl (wpAny_pure ⟨plainId_quiet F.plain_extend_loop _,?_⟩) (by rw[List.size_toArray];omega) (by show(its.toArray.push v).size<=sizeLine+1;rw[Array.size_push,List.size_toArray];omega);have d7:=I.lset (its':=its++[v]) (t':=s1.toks) (f:=(·.push v)) hS eS (by simp) (CN.append (.cons b6 .nil)) (by rw[List.length_append,List.length_singleton];omega);obtain⟨m',hm,sP⟩:=hk {s1 with heap:=s1.heap.update S (Obj.mapSeq (·.push v))} _ [] ⟨rfl,trivial⟩ hq ⟨t,cA,by rw[List.nil_append];exact d7⟩ rfl;exact ih m' hm _ (d7.pin (a,go) (List.mem_append_left _ Mi)).1 d7.nolimit sP
    · obtain rfl:cp=[]:=List.map_eq_nil_iff.mp hc.1
      exact wpAny_pure (hend σ H s1 I hq)
end
section
variable{P:Program}{w:World}{K:Frag}{mg:Str->Option Value}{base:Heap}{k:Nat}{f:Addr}{qual:Str}{body:List Stmt}{scope:Scope}{cdv:Value}{N:List Str}{outer:List Env}{s s1:Shared}{H:Hp}{vs:List V}{a:Addr}{g:Nat}{go:Obj}{A:Around}{E:XK}
theorem acT {Fa:gD}(hFa:Fa s){Q':Value->Shared->Prop}{QZ:Value->Shared->Prop}(hr:Room (k+1) A)(hfr:A.frames=some outer)(G:yf P w K mg base N qual scope f cdv body k outer s H vs a g go s1)
    (hb:∀S,H S=none->∃Qf:Hp->Prop,tK (gcxOf P w K mg base N qual scope f cdv A.in1.in1.in1 outer s H E [(a,go)]) Fa mR (qN S) sizeLine body {nx:=λ_ _ H'=>Qf H',rt:=λ_ v H'=>v=.non/\Qf H'} 0 (start N vs) (upd H S (.lst []))/\
      ∀σ H' aF,mY (gcxOf P w K mg base N qual scope f cdv A.in1.in1.in1 outer s H E [(a,go)]) Fa [] σ H' aF->Qf H'->Q' (.ref S) aF)
    (L6:∀e aF,CX P w outer H s E e aF->NotStop (model P w) e aF.heap/\QZ e (aF.setGen g .finished)):
    wpAny (model P w) A (call (.type "list") [.ref a]) Q' QZ s1:=by
  have ha2:a<s1.heap.objs.size:=Heap.lt_size G.at_;have hSa:s1.heap.objs.size≠a:=Nat.ne_of_gt ha2;have hcl:cStatics<s1.heap.objs.size:=let⟨_,hn,_⟩:=G.lim;hn.lt;have nu:Room k A.in1.in1.in1:=⟨hr.hd,by have:=hr.dp;show A.depth+3*k+5<_;omega,by have:=hr.un;show A.units+1+1+1+16*k+200<_;omega⟩;have Rf:=G.inv A.in1.in1.in1 E nu hfr;have afp:H s1.heap.objs.size=none:=Rf.hok.fresh (Nat.le_refl _);obtain⟨Qf,hb,hQ⟩:=hb _ afp;refine callType_codes (Q₁:=λobj pC=>obj=.ref s1.heap.objs.size/\pC={s1 with heap:=s1.heap.push {cls:=.type "list",data:=.seq #[]}}) F.called_list (F.typeCall_list_1 _) F.entry_list_init
    (code_list_new _ ⟨rfl,rfl⟩) λobj pC lI=>?_
  obtain⟨rfl,rfl⟩:=lI;have hS:(s1.heap.push {cls:=.type "list",data:=.seq #[]}).get? s1.heap.objs.size=some {cls:=.type "list",data:=.seq #[]}:=Heap.get?_push_size _ rfl;refine⟨⟨_,hS,rfl⟩,F.args_list_init_2 _ _,?_⟩;show wpAny _ A.in1.in1 (do let old <-Builtin.List.listItems (.ref s1.heap.objs.size);Builtin.List.listUpdate (.ref s1.heap.objs.size) (λ_=>#[]);letGo old.toList.reverse;Builtin.List.listExtendWith (.ref s1.heap.objs.size) (.ref a) .none) _ _ _
  refine wpAny_bind ?_;unfold Builtin.List.listItems;refine wpAny_bind (wpAny_seqItems hS rfl (wpAny_pure ?_));show wpAny _ A.in1.in1 (updateSeq s1.heap.objs.size (λ_=>#[]) >>=λ_=>letGo (#[]:Array Value).toList.reverse >>=λ_=>Builtin.List.listExtendWith (.ref s1.heap.objs.size) (.ref a) .none) _ _ _
  refine wpAny_bind (wpAny_updateSeq hS rfl ?_);have hS2:=Heap.get?_update_self (Obj.mapSeq (λ_=>(#[]:Array Value))) hS rfl;refine wpAny_bind (wpAny_letGo ?_);unfold Builtin.List.listExtendWith;have up:∀(h:Heap) (f:Obj->Obj),(∀b o,s1.heap.get? b=some o->h.get? b=some o)->∀b o,s1.heap.get? b=some o->(h.update s1.heap.objs.size f).get? b=some o:=λh f q b o e=>
    (Heap.get?_update_other _ _ (Ne.symm (Nat.ne_of_lt (Heap.lt_size e)))).trans (q b o e)
  have k1:∀b o,s1.heap.get? b=some o->(s1.heap.push {cls:=.type "list",data:=.seq #[]}).get? b=some o:=λb o e=>Heap.get?_push_of_some _ e
  have k2:=up _ (Obj.mapSeq (λ_=>(#[]:Array Value))) k1;have Fp:∀{h:Heap},(∀b o,s1.heap.get? b=some o->h.get? b=some o)->h.IsGen a g:=λ{h} q=>G.FW h (q a go G.at_)
  refine wpAny_bind (wpAny_typeOf (Heap.IsGen.typeIs (s:={s1 with heap:=_}) (Fp k2)) ?_);have h1:Builtin.List.listSameRef (.ref s1.heap.objs.size) (.ref a)=false:=by simp[Builtin.List.listSameRef,hSa]
  have h2:(Value.type "generator"==Value.type "list")=false:=by decide
  have h3:(Value.type "generator"==Value.type "tuple")=false:=by decide
  simp only[h1,h2,h3,Bool.or_false,Bool.false_eq_true,if_false];refine wpAny_bind (wpAny_pyIter_gen (s:={s1 with heap:=_}) (Fp k2) ?_);refine wpAny_bind (wpAny_holding ?_);unfold Builtin.List.listLengthHint;refine wpAny_bind (wpAny_specialOf (Heap.IsGen.typeIs (s:={s1 with heap:=_}) (Fp k2)) F.gen_no_len ?_);show wpAny _ A.in1.in1 (specialOf (Value.ref a) (Str.ofString "__length_hint__") >>=_) _ _ _
  refine wpAny_bind (wpAny_specialOf (Heap.IsGen.typeIs (s:={s1 with heap:=_}) (Fp k2)) F.gen_no_hint ?_);refine wpAny_pure ?_;show wpAny _ A.in1.in1 (rule "list.extend.makes-room" >>=λ_=>Builtin.List.listTouch (.ref s1.heap.objs.size) >>=λ_=>
    again (.builtin "list.extend.loop" ⟨[.ref s1.heap.objs.size,.ref a,.none],[]⟩)) _ _ _
  refine wpAny_bind (wpAny_rule ?_);refine wpAny_bind ?_;show wpAny _ A.in1.in1 (updateSeq s1.heap.objs.size (·.push .none) >>=λ_=>updateSeq s1.heap.objs.size (·.pop)) _ _ _
  refine wpAny_bind (wpAny_updateSeq hS2 rfl ?_);have Vb:=Heap.get?_update_self (Obj.mapSeq (·.push Value.none)) hS2 rfl;refine wpAny_updateSeq (hz:=by seq_fits) Vb rfl ?_;have afo:=Heap.get?_update_self (Obj.mapSeq (·.pop)) Vb rfl;have k4:=up _ (Obj.mapSeq (·.pop)) (up _ (Obj.mapSeq (·.push Value.none)) k2);refine wpAny_pure ⟨plainId_quiet F.plain_extend_loop _,?_⟩
  have bY:Inv (gcxOf P w K mg base N qual scope f cdv A.in1.in1.in1 outer s H E [(a,go)]) [] (start N vs) (upd H s1.heap.objs.size (.lst [])) {s1 with heap:=(((s1.heap.push {cls:=.type "list",data:=.seq #[]}).update s1.heap.objs.size (Obj.mapSeq λ_=>#[])).update s1.heap.objs.size (Obj.mapSeq λx=>x.push Value.none)).update s1.heap.objs.size (Obj.mapSeq λx=>x.pop)}:=
    Rf.laid (t':=s1.toks) k4 (Nat.le_refl _) ⟨Nat.zero_le _,[],_,.nil,afo⟩
  refine ae5 (Fa:=Fa) (P:=P) (w:=w) (X:=gcxOf P w K mg base N qual scope f cdv A.in1.in1.in1 outer s H E [(a,go)]) (Qf:=Qf) (S:=s1.heap.objs.size) (A:=A.in1) (g:=g) (Er:=λe aF=>CX P w outer H s E e aF/\∀p∈[(a,go)],aF.heap.get? p.1=some p.2) hr.hd (by have:=hr.dp;show A.depth<_;omega) G.FW (List.mem_singleton.mpr rfl)
    (λσ H' aF eL hq=>⟨rfl,hQ σ H' aF eL hq⟩) (λe aF ⟨hc,hp⟩=>⟨hp (a,go) (List.mem_singleton.mpr rfl),L6 e aF hc⟩) sizeLine _ (k4 a go G.at_) bY.nolimit ⟨_,G.gen,rfl,?_⟩
  exact Z5 (aH:=mR) (cp:=[]) ⟨rfl,trivial⟩ ⟨s,hFa,ME bY rfl⟩ hb
end
def pJ.HK (G:pJ)(X:Cx)(E:XK)(Fa:gD)(aH:fN)(cons:Cons)(Qf:Hp->Prop)(aS:Hp):Prop:=
 ∀A:Around,Room G.k A->A.frames=some X.stack->tK (G.j4 X A E) Fa aH cons sizeLine G.body {nx:=λ_ _ H'=>Qf H',rt:=λ_ v H'=>v=.non/\Qf H'} 0 (start G.N G.vs) aS
end R
namespace R
open PySem PySem.Spec PyProof.Rows L2 GenW
variable[aT]
section
variable(X:Cx)(Fa:gD)(W:WX)
structure yD (aH:fN)(cons:Cons)(S:Addr)(st:Stmt)(f:eX):Prop where
 run:∀ρ c L M ay au H1 aa G σ H D,Acc X.K S ay au H1 L aa G M H->H1 S=none->cz X.K aa G σ ρ->wp (f ρ c L M) (mZ X W D S ay au H1 aa G)->Aj X Fa aH cons sizeLine st D c σ H
structure m6 (aH:fN)(cons:Cons)(S:Addr)(st:List Stmt)(f:eX):Prop where
 run:∀ρ c L M ay au H1 aa G σ H D,Acc X.K S ay au H1 L aa G M H->H1 S=none->cz X.K aa G σ ρ->wp (f ρ c L M) (mZ X W D S ay au H1 aa G)->tK X Fa aH cons sizeLine st D c σ H
end
section
variable{X:Cx}{Fa:gD}{W:WX}{aH:fN}{cons:Cons}{S:Addr}{st:Stmt}{rest body orelse:List Stmt}{f g a b:eX}{e bV it:Expr}{pos ya:Pos}{kO:CE}{cA:cX}{ct:Flt}
theorem anD:m6 X Fa W aH cons S [] LA:=⟨λρ c L M ay au H1 aa G σ H D ac hS en w=>aaD (w aa G H σ (g8.refl _ _) ac en)⟩
theorem anC (h1:yD X Fa W aH cons S st f)(h2:m6 X Fa W aH cons S rest g):m6 X Fa W aH cons S (st::rest) (w6 f g):=⟨λρ c L M ay au H1 aa G σ H D ac hS en w=>by
 refine aaC (h1.run ρ c L M ay au H1 aa G σ H _ ac hS en (wp_mono (λr hr=>?_) (cL.mp w)));cases r with
 |ex k fs M1=>exact hr
 |ok v M1=>
  cases v with
  |nx aY c1 fO=>exactλaq aj H' aZ l1 a1 e1=>h2.run aY c1 fO M1 ay au H1 aq aj aZ H' D a1 hS e1 (wp_mono (λ_=>mZ.shift l1) hr)
  |bk aY c1 fO=>exact hr
  |ct aY c1 fO=>exact hr⟩
theorem HV (h1:yD X Fa W aH cons S st f):m6 X Fa W aH cons S [st] f:=⟨λρ c L M ay au H1 aa G σ H D ac hS en w=>by
 refine aaC (h1.run ρ c L M ay au H1 aa G σ H _ ac hS en (wp_mono (λr hr=>?_) w));cases r with
 |ex k fs M1=>exact hr
 |ok v M1=>
  cases v with
  |nx aY c1 fO=>exactλaq aj H' aZ l1 a1 e1=>aaD (hr aq aj H' aZ l1 a1 e1)
  |bk aY c1 fO=>exact hr
  |ct aY c1 fO=>exact hr⟩
end
end R
namespace R
open PySem PySem.Spec PyProof.Rows L2 GenW
section
variable{X:Cx}{pins:List (Addr×Obj)}{σ:L2.St}{H:Hp}{s aF:Shared}
def abu (X:Cx)(σ:L2.St)(h:Heap)(m:Str->Option Value):Prop:=∀(i:Nat) (x:Str) (v:V),X.N[i]?=some x->σ[i]?=some (some v)->Vis X.env.scope x->∃u,RelV v u/\Look X.env h m x u
theorem ahc {i:Nat}{x:Str}{v:V}{u:Value}{m:Str->Option Value}(I:Inv X pins σ H s)(hN:X.N.Nodup)(hi:X.N[i]?=some x)(hk:X.env.scope.names.lookup x=some .local)(hn:s.heap.Ns X.env.locals m)(hl:abu X σ s.heap m)(r:RelV v u)
    (n8:aF.heap.Ns X.env.locals λy=>if y=x then some u else m y) (kp:∀b o,b≠X.env.locals->s.heap.get? b=some o->aF.heap.get? b=some o) (ho:aF.os=s.os) (hb:AllBare aF.gens):Inv X pins (σ.set i (some v)) H aF:=by
  have old:∀b o,X.s_0.heap.get? b=some o->b≠X.env.locals:=λb o e=>Nat.ne_of_lt (Nat.lt_of_lt_of_le (Heap.lt_size e) I.ok.above)
  have ag8:i<σ.length:=by rw[I.len];exact(List.getElem?_eq_some_iff.mp hi).1
  have Bb:∀c w,c≠X.env.locals->s.heap.IsCell c w->aF.heap.IsCell c w:=λc w hc ⟨o,h1,h2⟩=>⟨o,kp c o hc h1,h2⟩
  refine⟨I.ok,ho.trans I.os,hb,⟨λb o e n hf hx=>kp b o (old b o e) (I.base.keep b o e n hf hx),λb o e n hf hx=>?_,I.base.free,λb o e hx=>?_,I.base.tups,I.base.frzs,I.base.tbls⟩,⟨_,n8,λj y w e1 e2 e3=>?_⟩,λy c e=>?_,I.free,I.freeC,λp hp=>?_,λb ob e=>?_,by simpa using I.len⟩
  · obtain⟨sl,e1⟩:=I.base.slot b o e n hf hx
    exact⟨sl,kp b _ (old b o e) e1⟩
  · obtain⟨cQ,e1⟩:=I.base.there b o e hx
    exact⟨cQ,kp b _ (old b o e) e1⟩
  · by_cases hj:j=i
    · subst hj
      rw[hi]at e1;cases e1
      rw[List.getElem?_set_self ag8]at e2;cases e2
      exact⟨u,r,.inl ⟨hk,by simp⟩⟩
    · rw[List.getElem?_set_ne (Ne.symm hj)]at e2
      obtain⟨Ad,gx,q⟩:=hl j y w e1 e2 e3;refine⟨Ad,gx,?_⟩;rcases q with⟨k,e⟩|⟨k,c,e,z⟩
      · have akj:y≠x:=λe=>hj (nodup_ix hN e1 (e▸hi))
        exact .inl ⟨k,by simp[akj,e]⟩
      · exact .inr ⟨k,c,e,Bb c _ (I.cne y c e) z⟩
  · obtain⟨w,z⟩:=I.cell y c e
    exact⟨w,Bb c _ (I.cne y c e) z⟩
  · obtain⟨e,n,ne,lg,d⟩:=I.pin p hp
    exact⟨kp _ _ ne e,n,ne,lg,d⟩
  · refine(I.hok b ob e).stay (λc w hc q=>kp c w (λz=>?_) q) (λ_ q=>q) λ_ _ q=>q
    rw[z]at hc;have fr:=I.free;rcases hc with hc|hc
    · rw[<-hc,fr]at e;cases e
    · rw[fr]at hc;cases hc
theorem UM {h h' base:Heap}{L:Addr}{oL:Obj}(k:∀b o,b≠L->h.get? b=some o->h'.get? b=some o)(hL:h'.get? L=some oL)(hd:∀vs,oL.data≠.fields vs):∀{l:List Env},h.FunFrames base l->h'.FunFrames base l
 |[],_=>trivial
 |env::rest,⟨h1,⟨a,o,h2,h3,h4,di⟩,iy⟩=>by
  refine⟨h1,?_,UM k hL hd iy⟩;by_cases e:a=L
  ·subst e
   exact⟨a,oL,h2,h3,hL,hd⟩
  ·exact⟨a,o,h2,h3,k a o e h4,di⟩
theorem ahb {t t':Shared}{L:Addr}{oL:Obj}(I:Inv (g7 X t) pins σ H s)(hL:L∈frs X.outer)(hT:∃m,t.heap.Ns L m)(nd:∃es gu,oL.data=.dict es gu)(sz:t'.heap.objs.size=t.heap.objs.size)(k1:∀b,b≠L->t'.heap.get? b=t.heap.get? b)(l1:t'.heap.get? L=some oL)(o1:t'.os=t.os)
    (k2:∀b,b≠L->aF.heap.get? b=s.heap.get? b) (l2:aF.heap.get? L=some oL) (s_:aF.os=s.os) (hb:AllBare aF.gens):Inv (g7 X t') pins σ H aF:=by
  obtain⟨es,gu,nd⟩:=nd;obtain⟨q1,oT,q2,q3⟩:=I.ok.funs.mem hL;have q1:X.base.get? L=none:=q1;have q2:t.heap.get? L=some oT:=q2;have nb:∀b o,X.base.get? b=some o->b≠L:=λb o e z=>by rw[z,q1]at e;cases e
  have hn:H L=none:=I.base.free L oT q2 (I.ok.frf L hL) λz=>I.ok.exfs L z hL
  obtain⟨sl,e1⟩:=I.base.slot L oT q2 (I.ok.frf L hL) hL λz=>I.ok.exfs L z hL
  have lt:L<t.heap.objs.size:=Heap.lt_size q2;have ajY:L≠X.env.locals:=Nat.ne_of_lt (Nat.lt_of_lt_of_le lt I.ok.above);have ajX:∀vs,oL.data≠.fields vs:=λvs z=>by rw[nd]at z;cases z
  have xq:∀b o,b≠L->s.heap.get? b=some o->aF.heap.get? b=some o:=λb o hb e=>(k2 b hb).trans e
  have ajV:∀c w,s.heap.IsCell c w->c≠L:=λc w ⟨o,h1,h2⟩ z=>by
    obtain⟨m,akm,arx,arw,hN,hd,_⟩:=hT;have hN:t.heap.get? L=some akm:=hN;rw[q2]at hN;cases hN
    rw[z]at h1;rw[e1]at h1;cases h1
    have h2:oT.data=_:=h2;rw[hd]at h2;cases h2
  have Bb:∀c w,s.heap.IsCell c w->aF.heap.IsCell c w:=λc w z=>by
    have hc:=ajV c w z;obtain⟨o,h1,h2⟩:=z;exact⟨o,xq c o hc h1,h2⟩
  refine⟨⟨I.ok.mod,I.ok.kind,I.ok.glob,I.ok.blt,?_,I.ok.inj,I.ok.has,λy c h1 h2=>?_,I.ok.hd,I.ok.frames,I.ok.stk,I.ok.exf,λb o e=>?_,?_,I.ok.noex,I.ok.exfs,?_,I.ok.frf⟩,?_,hb,⟨λb o e n hf hx=>?_,λb o e n hf hx=>?_,λb o e n hx=>?_,λb o e hx=>?_,I.base.tups,I.base.frzs,I.base.tbls⟩,?_,λy c e=>?_,I.free,I.freeC,λp hp=>?_,λb ob e=>?_,I.len⟩
  · show t'.heap.objs.size<=_
    rw[sz];exact I.ok.above
  · show t'.heap.objs.size<=_
    rw[sz];exact I.ok.cab y c h1 h2
  · obtain⟨ir,f7⟩:=I.ok.bs b o e
    exact⟨(k1 b (nb b o e)).trans ir,f7⟩
  · show _<=t'.heap.objs.size
    rw[sz];exact I.ok.bsz
  · exact UM (λb o hb e=>(k1 b hb).trans e) l1 ajX I.ok.funs
  · exact(s_.trans I.os).trans o1.symm
  · have oY:b≠L:=λz=>hf (z▸hL)
    have e:t'.heap.get? b=some o:=e;rw[k1 b oY]at e;exact xq b o oY (I.base.keep b o e n hf hx)
  · have e:t'.heap.get? b=some o:=e
    by_cases oY:b=L
    · subst oY
      rw[l1]at e;cases e
      exact⟨oL.slots,l2⟩
    · rw[k1 b oY]at e
      obtain⟨sl,e2⟩:=I.base.slot b o e n hf hx;exact⟨sl,xq b _ oY e2⟩
  · have e:t'.heap.get? b=some o:=e
    by_cases oY:b=L
    · rw[oY];exact hn
    · rw[k1 b oY]at e
      exact I.base.free b o e n hx
  · have e:t'.heap.get? b=some o:=e
    by_cases oY:b=L
    · rw[oY];exact⟨oL,l2⟩
    · rw[k1 b oY]at e
      obtain⟨cQ,e2⟩:=I.base.there b o e hx;exact⟨cQ,xq b _ oY e2⟩
  · obtain⟨m,⟨o,sL,aeh,h1,h2⟩,hl⟩:=I.loc
    refine⟨m,⟨o,sL,aeh,xq _ _ (Ne.symm ajY) h1,h2⟩,λi y v a1 a2 a3=>?_⟩;obtain⟨u,r,q⟩:=hl i y v a1 a2 a3;exact⟨u,r,q.imp id λ⟨k,c,e,z⟩=>⟨k,c,e,Bb c _ z⟩⟩
  · obtain⟨w,z⟩:=I.cell y c e
    exact⟨w,Bb c _ z⟩
  · obtain⟨e,n,ne,lg,d⟩:=I.pin p hp
    exact⟨xq _ _ (λz=>lg (z▸hL)) e,n,ne,lg,d⟩
  · refine(I.hok b ob e).stay (λc w hc q=>xq c w (λz=>?_) q) (λ_ q=>q) λ_ _ q=>q
    rw[z]at hc;rcases hc with hc|hc
    · rw[<-hc,hn]at e;cases e
    · rw[hn]at hc;cases hc
theorem apM {l x:Str}{dz ix k:Nat}{rE mS ux nK nM p9 pos:Pos}{e:Expr}{S:Addr}{D:Ends}(hc:X.calm=true)(hr:Room (k+1) X.A)(hs:∀x,foldedSetIterable e X.env x=pure x)(hN:X.N.Nodup)(BX:X.N[ix]?=some x)(BZ:X.env.scope.names.lookup x=some .local)
    (qe:X.N[dz]?=some l) (BY:X.env.scope.names.lookup l=some .local) (B_:l≠x) (vg:(x==("__debug__":Str))=false) (afS:(l==("__debug__":Str))=false) (eZ:X.stack=X.env::X.outer/\X.env.frame=some X.env.locals) (zl:σ[dz]?=some (some (.ref S)))
    (hint:interactive X.env=false) (hsw:swapsWith (.Call (.Attribute (.Name l mS) "append" ux) [.Name x nK] [] nM) none p9.line X.env=pure false)
    (qX:attributeBase (.Name l mS) "append" X.env (eval (.Name l mS) X.env)=eval (.Name l mS) X.env)
    (q9:((backTo nM (starEach [.Name x nK] X.env)).all (λx=>!x.1)&&(backToKw nM (keywordEach [] X.env)).all (λx=>x.1.isSome)
      &&decide (([.Name x nK]:List Expr).length+([]:List Keyword).length+(if([]:List Keyword).isEmpty then 0 else 1)<30))=true) (rg:(ux.endLine==nM.line)=true)
    (Mr:backTo nM (starEach [.Name x nK] X.env)=[(false,eval (.Name x nK) X.env)])
    (h:Iw X e k σ H λG=>G.H S=some (.lst [])/\∃Qf:Hp->Prop,(∀Fa,se (G.j4 X X.A.in1 lK) Fa->G.HK X lK Fa mR (qN S) Qf G.H)/\∀H' aZ,aZ.length=σ.length->(∀i,i≠ix->aZ[i]?=σ[i]?)->Qf H'->D.nx aZ H'):
    wS X (.For (.Name x rE) e [.Expr (.Call (.Attribute (.Name l mS) "append" ux) [.Name x nK] [] nM) p9] [] pos) D σ H:=by
  intro pins s I;refine wpAny_For (thn (h pins s I) λu s1 ⟨G,M,hk,arY,Qf,xh,hq⟩=>?_) hs;obtain rfl:=M.val;subst hk;refine wpAny_pyIter_gen (M.made.FW _ M.made.at_) ?_;obtain⟨Fa,hFa⟩:∃Fa:gD,Fa=λt=>t.heap.objs.size=G.sc.heap.objs.size/\∃tR:L2.St,tR.length=σ.length/\(∀i,i≠ix->tR[i]?=σ[i]?)/\Inv X pins tR G.H t:=⟨_,rfl⟩
  have hF:se (G.j4 X X.A.in1 lK) Fa:=λt cA=>by rw[hFa]at cA;exact cA.1
  have VB:Room G.k X.A.in1:=⟨hr.hd,by have:=hr.dp;show X.A.depth+3*G.k+5<_;omega,by have:=hr.un;show X.A.units+1+16*G.k+200<_;omega⟩;have abn:=M.made.inv X.A.in1 lK VB M.inv.ok.frames;have Va:X.env.locals∈frs X.stack:=by
    rw[eZ.1];unfold frs;rw[List.filterMap_cons,eZ.2];exact List.mem_cons_self
  have hkind:X.env.scope.kind=.function:=M.inv.ok.kind;have L3:(X.env.scope.kind==.class||(X.env.scope.kind==.module&&X.env.locals !=X.env.globals))=false:=by rw[hkind];rfl
  have sl:AI X.prog X.w (G.j4 X X.A.in1 lK) Fa mR (qN S) Qf (λe aF=>CX X.prog X.w X.stack G.H G.sc lK e aF/\∀p∈[(G.a,G.go)],aF.heap.get? p.1=some p.2) G.g X.A.in1 sizeLine s1:=by
    refine⟨.fresh (.func G.body (envOfC G.qual G.scope G.sc.heap.objs.size G.f G.cd)),M.made.gen,rfl,?_⟩;exact Z5 (aH:=mR) (cp:=[]) ⟨rfl,trivial⟩ ⟨G.sc,by rw[hFa];exact⟨rfl,σ,rfl,λ_ _=>rfl,M.inv⟩,ME abn rfl⟩ (xh Fa hF X.A.in1 VB M.inv.ok.frames)
  refine codeAny_forLoop (λn s=>s.heap.get? G.a=some G.go/\s.heap.NoLimit/\AI X.prog X.w (G.j4 X X.A.in1 lK) Fa mR (qN S) Qf (λe aF=>CX X.prog X.w X.stack G.H G.sc lK e aF/\∀p∈[(G.a,G.go)],aF.heap.get? p.1=some p.2) G.g X.A.in1 n s) (λn s hI=>?_) sizeLine ⟨M.made.at_,M.made.lim,sl⟩;obtain⟨hg,hl,Mn⟩:=hI;refine Yx (X:=G.j4 X X.A.in1 lK) (M.inv.ok.hd hc) (by have:=hr.dp;omega) hl M.made.FW hg (List.mem_singleton.mpr rfl) Mn (λv xv cp ip QT v8 sr s2 L0 hi b6 d7 afO hk=>?_) (λcp QT v8 s2 L0 d7 hQ=>?_) λe s2 ⟨he,hp⟩=>?_
  · obtain rfl:cp=[]:=List.map_eq_nil_iff.mp L0.1
    obtain⟨acc,hS,hz,afm⟩:=afO;obtain⟨t,cA,d7⟩:=d7;rw[hFa]at cA;obtain⟨sz,tR,a1,a2,It⟩:=cA;rw[List.nil_append]at d7;have Ri:Inv X pins tR v8 s2:=It.call' (ch:=[]) d7.os d7.base d7.hok d7.bare λb hb=>by simp at hb
    obtain⟨m,hn,FJ⟩:=It.loc;obtain⟨oT,es,gu,q1,q2,q3⟩:=id hn;obtain⟨slt,e1⟩:=d7.base.slot X.env.locals oT q1 It.free Va λz=>by
      have z:X.env.locals∈([]:List Addr):=z;simp at z
    have j7:s2.heap.Ns X.env.locals m:=⟨_,es,gu,e1,q2,q3⟩;refine wpAny_assign_Name (wpAny_storeName_local BZ j7 (λh' n8 sP=>?_) L3);obtain⟨oL,Ud,Ua,r1,r2,r3⟩:=id n8;obtain⟨t3,zk⟩:∃t3:Shared,t3={t with heap:=t.heap.update X.env.locals λ_=>oL}:=⟨_,rfl⟩;have g1:t3.heap.get? X.env.locals=some oL:=by rw[zk];exact Heap.get?_update_self (λ_=>oL) q1 (Obj.isFreed_of_dict r2)
    have g2:∀b,b≠X.env.locals->t3.heap.get? b=t.heap.get? b:=λb hb=>by rw[zk];exact Heap.get?_update_other _ _ (Ne.symm hb)
    have g3:t3.heap.objs.size=t.heap.objs.size:=by rw[zk];exact Heap.size_update _ _ _
    have abo:Inv X pins (tR.set ix (some xv)) G.H t3:=ahc It hN BX BZ hn FJ b6 ⟨oL,Ud,Ua,g1,r2,r3⟩ (λb o hb e=>(g2 b hb).trans e) (by rw[zk]) (by rw[zk];exact It.bare);have v9:Inv (g7 (G.j4 X X.A.in1 lK) t3) ip QT v8 {s2 with heap:=h',toks:=s2.toks+1}:=ahb d7 Va ⟨m,hn⟩ ⟨Ud,Ua,r2⟩ g3 g2 g1 (by rw[zk]) sP.2 r1 rfl d7.bare;obtain⟨ir,its,c,CN,hle,eS⟩:=v9.lstM hS;have Mn:dz≠ix:=λz=>B_ (by
      rw[z,BX]at qe;exact(Option.some.inj qe).symm)
    have agm:m l=some (.ref S):=by
      obtain⟨u,lP,lk⟩:=FJ dz l (.ref S) qe (by rw[a2 dz Mn];exact zl) (.inl BY);have lP:u=.ref S:=lP;rcases lk with⟨_,lk⟩|⟨kk,_⟩
      · rw[lk,lP]
      · have kk:X.env.scope.names.lookup l=some .cell\/X.env.scope.names.lookup l=some .free:=kk
        rcases kk with kk|kk<;>(rw[BY]at kk;cases kk)
    refine wpAny_execs_cons (wpAny_Expr ?_ hint hsw);refine wpAny_Call_append qX q9 rg Mr ?_;refine wpAny_Name (wpAny_loadName_local hkind BY n8 (v:=.ref S) (by rw[if_neg B_];exact agm) ?_) afS;refine⟨S,its.toArray,rfl,⟨_,c,eS,rfl,rfl,rfl⟩,?_⟩;refine wpAny_Name (wpAny_loadName_local hkind BZ n8 (v:=v) (by simp) ?_) vg;refine wpAny_list_append_plain ⟨c,eS⟩ (λzb pl sb=>?_) (by rw[List.size_toArray];omega);obtain⟨c2,pl⟩:=pl;refine wpAny_execs_nil ?_;have Aw:Inv (g7 (G.j4 X X.A.in1 lK) t3) ip QT (upd v8 S (.lst (acc++[xv]))) {s2 with heap:=zb,toks:=s2.toks+1}:=v9.write (t':=s2.toks+1) (by rw[hS];trivial) (.inl rfl) (λb u hb q=>(sb.2 b hb).trans q) ⟨_,pl⟩ ⟨by rw[List.length_append];exact hz,its++[v],c2,CN.append (.cons b6 .nil),by
      rw[pl];simp⟩
    obtain⟨m',hm,agy⟩:=hk {s2 with heap:=zb,toks:=s2.toks+1} _ [] ⟨rfl,trivial⟩ afm ⟨t3,by
      rw[hFa];refine⟨g3.trans sz,_,by simpa using a1,λi hi=>?_,abo⟩;rw[List.getElem?_set_ne (Ne.symm hi)];exact a2 i hi,by rw[List.nil_append];exact Aw⟩ rfl
    exact⟨m',hm,(Aw.pin (G.a,G.go) (List.mem_append_left _ (List.mem_singleton.mpr rfl))).1,Aw.nolimit,agy⟩
  · obtain rfl:cp=[]:=List.map_eq_nil_iff.mp L0.1
    obtain⟨t,cA,d7⟩:=d7;rw[hFa]at cA;obtain⟨sz,tR,a1,a2,It⟩:=cA;have Ri:Inv X pins tR v8 s2:=It.call' (ch:=[]) d7.os d7.base d7.hok d7.bare λb hb=>by simp at hb
    refine wpAny_execs_nil ?_;exact⟨tR,v8,Ri,hq v8 tR a1 a2 hQ⟩
  · obtain⟨_,_,_,_,_,_,_,_,_,_,_,_,z⟩:=he
    exact z.elim
end
end R
namespace R
open PySem PySem.Spec PyProof.Rows L2 GenW
variable[aT]
structure So (X:Cx)(W:WX)(k:Nat)(e:Expr)(f:CE):Prop where
 run:∀ρ M aa G σ H (lE:Re af->Prop),aK X.K aa G M H->cz X.K aa G σ ρ->wp (f ρ M) (λr=>match r with|.ok s az=>lE (.ok s az)|.ex c fs az=>PX X W σ aa G H c fs az)->
  Iw X e k σ H λcH=>∃ay au M1 ss np b,aJ aa G H ay au cH.H/\aK X.K ay au M1 cH.H/\bM X.K ay au cH.vs ss/\cH.N.length-np=cH.N.length-ss.length/\
   (∀(A:Around) (S:Addr) (Fa:gD),Room k A->se (cH.j4 X A lK) Fa->m6 (cH.j4 X A lK) Fa m5 mR (qN S) S cH.body b)/\wp (qj np cH.N.length b ss M1) lE
section
variable{X:Cx}{W:WX}{k:Nat}{e o:Expr}{aE f:CE}{m:Str}{pos apos p:Pos}
theorem af1 {cH:pJ}{np:Nat}{b:eX}{S:Addr}{aH:fN}{cons:Cons}{aa:List Addr}{iV H1:Hp}{M:List ak}{ss:List af}{Qd:Addr->Hp->Prop}{Fa:gD}
    (hb:∀A:Around,Room cH.k A->m6 (cH.j4 X A lK) Fa m5 aH cons S cH.body b) (hn:cH.N.length-np=cH.N.length-ss.length) (ms:aK X.K aa iV M H1) (r:bM X.K aa iV cH.vs ss) (hS:H1 S=none)
    (w:wp (qj np cH.N.length b ss M) (qE X.K Qd aa iV H1)):cH.HK X lK Fa aH cons (λH'=>Qd S H') (upd H1 S (.lst [])):=by
  intro A nu hfr;unfold qj at w;split at w
  · rename_i e
    have en:=BB (K:=X.K) (aa:=aa) (G:=iV) (N:=cH.N) r;rw[<-e]at w;refine(hb A nu).run _ 0 [] M aa iV H1 aa iV (start cH.N cH.vs) (upd H1 S (.lst [])) _ (DV (X:=X) hS ms) hS en (wp_mono (λr hr=>?_) (wp_bind.mp w));cases r with
    |ex c fs M1=>exact(show False from hr).elim
    |ok v M1=>
      cases v with
      |nx aY c1 fO=>
        intro aq aj H' aZ _ a1 _;obtain⟨L,yS,q⟩:=(show qE X.K Qd aa iV H1 (.ok (.dat (.lst fO)) (cut M.length M1))from hr);cases yS
        rw[show M.length=aa.length from ms.len.symm]at q;exact Su a1 λaU a2=>q aa iV H1 aU aj H' S (aJ.refl _ _ _) hS a2
      |bk aY c1 fO=>exact(show False from hr).elim
      |ct aY c1 fO=>exact(show False from hr).elim
  · exact w.elim
end
abbrev sY (H:Hp)(S:Addr):Hp:=λa=>if a=S then none else H a
section
variable{K:Frag}{aa aq:List Addr}{G aj H H':Hp}{M:List ak}{S:Addr}
theorem oq {a:Addr}(h:a≠S):sY H S a=H a:=if_neg h
theorem GL:sY H S S=none:=if_pos rfl
theorem ajJ (ms:aK K aa G M H)(h:S∉aa)(g:G S=none):aK K aa G M (sY H S):=by
 refine⟨λa u e=>?_,ms.len,ms.nd,λj a m e1 e2=>?_,λa ha=>?_⟩
 ·have:a≠S:=λz=>by rw[z,g]at e;cases e
  rw[oq this];exact ms.le a u e
 ·have:a≠S:=λz=>h (z▸List.mem_of_getElem? e1)
  obtain⟨q1,q2⟩:=ms.mo j a m e1 e2;exact⟨q1,q2.mono (cG.refl G) (λ_ _ z=>z) (oq this)⟩
 ·rw[oq (show a≠S fromλz=>h (z▸ha))]
  exact ms.fk a ha
theorem afb (g:aJ aa G H aq aj H')(h:S∉aa):aJ aa G (sY H S) aq aj (sY H' S):=by
 have e0:∀{a:Addr} {o:HO},sY H S a=some o->a≠S/\H a=some o:=λ{a o} e=>by
  by_cases z:a=S
  ·rw[z,GL]at e;cases e
  ·rw[oq z]at e;exact⟨z,e⟩
 have e1:∀{a:Addr},sY H S a≠none->a≠S/\H a≠none:=λ{a} e=>by
  by_cases z:a=S
  ·rw[z]at e;exact absurd GL e
  ·rw[oq z]at e;exact⟨z,e⟩
 obtain⟨more,fH,cI⟩:=g.pre;refine⟨g.ex,⟨more,fH,λa ha=>?_⟩,λa o e n=>?_,λa e n=>?_,λa e=>?_⟩
 ·by_cases z:a=S
  ·rw[z];exact GL
  ·rw[oq z];exact cI a ha
 ·obtain⟨z,e⟩:=e0 e
  rw[oq z];exact g.fr a o e n
 ·obtain⟨z,e⟩:=e1 e
  unfold Same;rw[oq z];exact g.l5 a e n
 ·obtain⟨z,e⟩:=e1 e
  rw[oq z];exact g.fk a e
theorem ajF {o:HO}(e:H S=some o):upd (sY H S) S o=H:=by
 funext a
 by_cases z:a=S
 ·rw[z,upd_same,e]
 ·rw[upd_ne z,oq z]
end
def Fi (dz ix j:Nat)(ρ:List af):Re af->T (Re bW)
 | .ok (.dat (.lst L)) az=>if az.length=j then .ret (.ok (.nx (((ρ.set dz .un).set ix .un).set dz (.mu j))) (az++[.lst (L.map .dat)]))else .bad
 | .ok _ _=>.bad
 | .ex _ _ _=>.bad
def FU:Option ak->Bool
 |some (.lst [])=>true
 |_=>false
theorem ahf {o:Option ak}(h:FU o=true):o=some (.lst []):=by
 unfold FU at h;split at h
 ·rfl
 ·cases h
def z5 (dz ix j:Nat)(f:CE):aN:=λρ M=>
 if FU M[j]?=true/\M.length=j+1/\closed j M=true/\((ρ.set dz .un).set ix .un).all (mO j)=true/\dz<ρ.length then(f ((ρ.set dz .un).set ix .un) (M.take j)).bind (Fi dz ix j ρ)else .bad
def z4 (dz ix:Nat)(f:CE):aN:=λρ M=>match ρ[dz]? with
 |some (.mu j)=>z5 dz ix j f ρ M
 |_=>.bad
theorem alQ {dz ix:Nat}{f:CE}{ρ:List af}{M:List ak}{Q:Re bW->Prop}(h:wp (z4 dz ix f ρ M) Q):∃j,ρ[dz]?=some (.mu j)/\wp (z5 dz ix j f ρ M) Q:=by
 unfold z4 at h;split at h
 ·rename_i j e
  exact⟨j,e,h⟩
 ·exact h.elim
section
variable{X:Cx}{W:WX}{k:Nat}{e:Expr}{f:CE}
set_option maxHeartbeats 8000000 in
theorem aoa {l x:Str}{dz ix:Nat}{rE mS ux nK nM p9 pos:Pos}(he:So X W k e f)(hr:Room (k+1) X.A)(hc:X.calm=true)(hx:pL X x ix)(BZ:X.env.scope.names.lookup x=some .local)
    (hl:pS X l dz) (BY:X.env.scope.names.lookup l=some .local) (vg:(x==("__debug__":Str))=false) (eZ:X.stack=X.env::X.outer/\X.env.frame=some X.env.locals) (B_:l≠x:=by decide)
    (hs:∀x,foldedSetIterable e X.env x=pure x:=by intro _;rfl) (hint:interactive X.env=false) (hsw:swapsWith (.Call (.Attribute (.Name l mS) "append" ux) [.Name x nK] [] nM) none p9.line X.env=pure false:=by rfl)
    (qX:attributeBase (.Name l mS) "append" X.env (eval (.Name l mS) X.env)=eval (.Name l mS) X.env:=by rfl)
    (q9:((backTo nM (starEach [.Name x nK] X.env)).all (λx=>!x.1)&&(backToKw nM (keywordEach [] X.env)).all (λx=>x.1.isSome)
      &&decide (([.Name x nK]:List Expr).length+([]:List Keyword).length+(if([]:List Keyword).isEmpty then 0 else 1)<30))=true:=by rfl) (rg:(ux.endLine==nM.line)=true:=by rfl)
    (Mr:backTo nM (starEach [.Name x nK] X.env)=[(false,eval (.Name x nK) X.env)]:=by rfl):
    jk X W (.For (.Name x rE) e [.Expr (.Call (.Attribute (.Name l mS) "append" ux) [.Name x nK] [] nM) p9] [] pos) (z4 dz ix f):=⟨λρ M aa G σ H D ms en h=>by
  obtain⟨j,hj,h⟩:=alQ h;unfold z5 at h;by_cases LY:FU M[j]?=true/\M.length=j+1/\closed j M=true/\((ρ.set dz .un).set ix .un).all (mO j)=true/\dz<ρ.length
  case neg=>
    rw[if_neg LY]at h;exact h.elim
  rw[if_pos LY]at h;obtain⟨c1,c2,c3,c4,c5⟩:=LY;have c1:=ahf c1
  have at5:aa.length=j+1:=ms.len.trans c2;obtain⟨S,hS⟩:∃S,aa[j]?=some S:=⟨aa[j],List.getElem?_eq_getElem (by omega)⟩;obtain⟨gl,vs,afi,Mv⟩:=ms.mo j S _ hS c1;have aeY:G S=none:=gl trivial;cases Mv
  have T4:aa=aa.take j++[S]:=by
    refine List.ext_getElem? λi=>?_
    by_cases hi:i<j
    · rw[List.getElem?_append_left (by rw[List.length_take];omega),List.getElem?_take_of_lt hi]
    · by_cases hi2:i=j
      · subst hi2
        rw[hS,List.getElem?_append_right (by rw[List.length_take];omega),List.length_take,Nat.min_eq_left (by omega),Nat.sub_self];rfl
      · rw[List.getElem?_eq_none (by omega),List.getElem?_eq_none (by rw[List.length_append,List.length_take,List.length_singleton];omega)]
  have Ye:S∉aa.take j:=λz=>by
    have nd:=ms.nd;rw[T4,List.nodup_append]at nd;exact nd.2.2 S z S (List.mem_singleton.mpr rfl) rfl
  have l0:(aa.take j).length=j:=by rw[List.length_take];omega
  have ajG:aK X.K (aa.take j) G (M.take j) H:=GO ms c3;have aed:cz X.K (aa.take j) G σ ((ρ.set dz .un).set ix .un):=by
    refine⟨by rw[List.length_set,List.length_set];exact en.len,λi s hs=>?_⟩;have cs:=List.all_eq_true.mp c4 s (List.mem_of_getElem? hs);by_cases h1:i=ix
    · subst h1
      left
      have:=(List.getElem?_eq_some_iff.mp hs).1;rw[List.length_set]at this;rw[List.getElem?_set_self (by rw[List.length_set]at *;exact this)]at hs;exact(Option.some.inj hs).symm
    · rw[List.getElem?_set_ne (Ne.symm h1)]at hs
      by_cases h2:i=dz
      · subst h2
        left
        rw[List.getElem?_set_self c5]at hs;exact(Option.some.inj hs).symm
      · rw[List.getElem?_set_ne (Ne.symm h2)]at hs
        exact(en.at_ i s hs).imp id λ⟨v,e1,r⟩=>⟨v,e1,KP cs r⟩
  have zl:σ[dz]?=some (some (.ref S)):=by
    rcases en.at_ dz _ hj with z|⟨v,e1,a,e2,e3⟩
    · cases z
    · rw[hS]at e2
      cases e2
      rw[e1,e3]
  refine apM (S:=S) hc hr hs hx.nd hx.ix BZ hl.ix BY B_ vg hl.nd eZ zl hint hsw qX q9 rg Mr ?_;intro pins s I;refine thn (he.run _ _ _ _ σ H (λr=>wp (Fi dz ix j ρ r) (eN X W D aa G H)) ajG aed (wp_mono (λr hr=>?_) (wp_bind.mp h)) pins s I) λu s1 ⟨cH,Rq,hk,ay,au,M1,ss,np,b,g1,m1,r1,nq,hb,aD⟩=>⟨cH,Rq,hk,?_⟩
  · cases r with
    |ok s az=>exact hr
    |ex c fs az=>exact(show False from hr).elim
  obtain⟨n1,aeZ,hS1⟩:=Fl g1 Ye aeY afi;refine⟨hS1,?_⟩;have qe:dz≠ix:=λz=>B_ (by
    have h1:=hl.ix;rw[z,hx.ix]at h1;exact(Option.some.inj h1).symm)
  have bK:wp (qj np cH.N.length b ss M1) (qE X.K (λqF H'=>qF=S->∀aZ:L2.St,aZ.length=σ.length->(∀i,i≠ix->aZ[i]?=σ[i]?)->D.nx aZ H') ay au (sY cH.H S)):=wp_mono (λr hr=>by
    obtain⟨⟨s2,az,rfl⟩,hr⟩:=hr;unfold Fi at hr;split at hr
    · rename_i r0 L aqw e0
      cases e0
      by_cases FI:az.length=j
      case neg=>
        rw[if_neg FI]at hr;exact hr.elim
      rw[if_pos FI]at hr;refine⟨L,rfl,λaU aV aS aq aj H' qF g2 hS2 a eS aZ a1 a2=>?_⟩;subst eS;obtain⟨dO,er,g3,m3,uJ⟩:∃dO er,aJ aU aV aS dO er H'/\aK X.K dO er (d9 true az L).2 H'/\bF X.K dO er (.ref qF) (d9 true az L).1:=
        AL (X:=X) (m:=true) (Q:=λv H'=>∃dO er,aJ aU aV aS dO er H'/\aK X.K dO er (d9 true az L).2 H'/\bF X.K dO er v (d9 true az L).1) hS2 (aJ.refl _ _ _) a λdO er fh v g m r=>⟨dO,er,g,m,r⟩
      have m3:aK X.K dO er (az++[.lst (L.map .dat)]) H':=m3;obtain⟨a3,v4,QB⟩:∃a,dO[az.length]?=some a/\V.ref qF=.ref a:=uJ;cases QB
      rw[FI]at v4;have oi:dO.length=j+1:=by rw[m3.len,List.length_append,FI];rfl
      have BP:aJ (aa.take j) G (sY H qF) dO er H':=((afb g1 Ye).trans g2).trans g3;obtain⟨more,fH,cI⟩:=BP.pre;have ae7:dO=aa:=by
        rw[T4,fH]
        congr 1
        have lm:more.length=1:=by
          rw[fH,List.length_append,l0]at oi;omega
        match more,lm,fH with
        |[b],_,fH=>
          rw[fH,List.getElem?_append_right (by omega),l0,Nat.sub_self]at v4;have:b=qF:=Option.some.inj v4;rw[this]
      subst ae7;have nm:∀a,a∉dO->a≠qF/\a∉dO.take j:=λa h=>⟨λz=>h (by rw[z];exact List.mem_of_getElem? hS),λz=>h (List.mem_of_mem_take z)⟩
      have US:aJ dO G H dO er H':=by
        refine⟨BP.ex,⟨[],by simp,by simp⟩,λa o e n=>?_,λa e n=>?_,λa e=>?_⟩
        · obtain⟨ir,f7⟩:=nm a n
          exact BP.fr a o (by rw[oq ir];exact e) f7
        · obtain⟨ir,f7⟩:=nm a n
          have q:=BP.l5 a (by rw[oq ir];exact e) f7;unfold Same at q;rw[oq ir]at q;exact q
        · by_cases z:a=qF
          · rw[z];exact m3.fk qF (List.mem_of_getElem? hS)
          · exact BP.fk a (by rw[oq z];exact e)
      have hr:eN X W D dO G H (.ok (.nx (((ρ.set dz .un).set ix .un).set dz (.mu j))) (az++[.lst (L.map .dat)])):=hr;refine hr dO er H' aZ US m3 ⟨by rw[a1,en.len];simp,λi s hs=>?_⟩;by_cases h1:i=dz
      · subst h1
        rw[List.getElem?_set_self (by rw[List.length_set,List.length_set];exact c5)]at hs;have hs:=Option.some.inj hs;subst hs;exact .inr ⟨.ref qF,by rw[a2 i qe];exact zl,qF,hS,rfl⟩
      · rw[List.getElem?_set_ne (Ne.symm h1)]at hs
        by_cases h2:i=ix
        · subst h2
          left
          have:=(List.getElem?_eq_some_iff.mp hs).1;rw[List.length_set]at this;rw[List.getElem?_set_self this]at hs;exact(Option.some.inj hs).symm
        · rw[List.getElem?_set_ne (Ne.symm h2),List.getElem?_set_ne (Ne.symm h1)]at hs
          have q:=(en.grow US).at_ i s hs;rw[a2 i h2];exact q
    · exact hr.elim
    · exact hr.elim) (ajB aD)
  have B4:=ajJ m1 n1 aeZ;refine⟨λH'=>S=S->∀aZ:L2.St,aZ.length=σ.length->(∀i,i≠ix->aZ[i]?=σ[i]?)->D.nx aZ H',λFa hF=>?_,λH' aZ a1 a2 q=>q rfl aZ a1 a2⟩;have cW:=af1 (S:=S) (Fa:=Fa) (aH:=mR) (cons:=qN S) (λA nu=>hb A S Fa (by rw[<-hk];exact nu) hF) nq B4 r1 GL bK;rw[ajF hS1]at cW;exact cW⟩
end
section
variable{X:Cx}{x:Str}{i:Nat}
theorem pS.re (h:pS X x i)(t:Shared):pS (g7 X t) x i:=⟨h.ix,h.Iu,h.nd,h.G0⟩
theorem pL.re (h:pL X x i)(t:Shared):pL (g7 X t) x i:=⟨h.ix,h.loc,h.fn,h.nd⟩
theorem eK.re (h:eK X x)(t:Shared):eK (g7 X t) x:=⟨h.gl,h.nd⟩
theorem aoL (h:Takes X m5)(t:Shared):Takes (g7 X t) m5:=λu aF x=>by
 obtain⟨_,_,_,_,_,_,_,_,_,_,_,_,_,_,_,_,z⟩:=x;exact z.elim
end
end R
namespace R
open PySem PySem.Spec PyProof.Rows L2 GenW
variable[aT]
abbrev pT (E:XK):WX:=λcls d _ H=>E cls d H
abbrev AJ (X:Cx)(Fa:gD)(W:WX):Prop:=∀t,Fa t->Takes (g7 X t) W
section
variable{X:Cx}{Fa:gD}{W:WX}{aH:fN}{cons:Cons}{S:Addr}{st:Stmt}{rest body orelse:List Stmt}{f g a b:eX}{e bV it:Expr}{pos ya:Pos}{kO:CE}{cA:cX}{ct:Flt}
theorem aop {fs:aN}(h:∀t,Fa t->jk (g7 X t) W st fs):yD X Fa W aH cons S st (ue fs):=⟨λρ c L M ay au H1 aa G σ H D ac hS en w=>by
 refine aps λt lH=>((h t lH).run ρ M aa G σ H (D.at c) ac.ms en (wp_mono (λr hr=>?_) (cL.mp w)))
 cases r with
 |ex k fs M1=>exactλaZ=>PX.shift ac.g_ (hr aZ)
 |ok v M1=>
  cases v with
  |nx aY=>exactλaq aj H' aZ g1 m1 e1=>hr aq aj H' aZ g1.gZ (ac.grow g1 m1) e1
  |bk aY=>exactλaq aj H' aZ g1 m1 e1=>hr aq aj H' aZ g1.gZ (ac.grow g1 m1) e1
  |ct aY=>exactλaq aj H' aZ g1 m1 e1=>hr aq aj H' aZ g1.gZ (ac.grow g1 m1) e1
  |rt s=>exact(show False from hr).elim⟩
theorem aoo {test:Expr}(h:∀t,Fa t->ST (g7 X t) W test cA)(h1:m6 X Fa W aH cons S body a)(h2:m6 X Fa W aH cons S orelse b):yD X Fa W aH cons S (.If test body orelse pos) (Ff cA a b):=⟨λρ c L M ay au H1 aa G σ H D ac hS en w=>by
 refine apr λt lH=>((h t lH).run ρ M aa G σ H _ ac.ms en (wp_mono (λr hr=>?_) (cL.mp w)))
 cases r with
 |ex k fs M1=>exact PX.shift ac.g_ (hr σ)
 |ok v M1=>
  intro aq aj H' Af g1 m1 hv;have hv:Af=v:=hv;subst hv;cases Af with
  |true=>
   rw[if_pos rfl];exact h1.run ρ c L M1 ay au H1 aq aj σ H' D (ac.grow g1 m1) hS (en.grow g1) (wp_mono (λ_=>mZ.shift g1.gZ) hr)
  |false=>
   rw[if_neg Bool.false_ne_true];exact h2.run ρ c L M1 ay au H1 aq aj σ H' D (ac.grow g1 m1) hS (en.grow g1) (wp_mono (λ_=>mZ.shift g1.gZ) hr)⟩
theorem aoq (ug:vZ X.K S ct cons)(hco:X.env.scope.isCoroutine=false)(hint:interactive X.env=false)(h:∀t,Fa t->bf (g7 X t) W e kO):yD X Fa W aH cons S (.Expr (.Yield (some e) ya) pos) (LB ct kO):=⟨λρ c L M ay au H1 aa G σ H D ac hS en w=>by
 refine apt hco hint λt lH=>((h t lH).run ρ M aa G σ H _ ac.ms en (wp_mono (λr hr=>?_) (cL.mp (cL.mp w))))
 cases r with
 |ex k fs M1=>exact PX.shift ac.g_ (hr σ)
 |ok s M1=>
  intro aU aV aS v g2 m2 r2;obtain⟨d,ck,ef,hr⟩:=ji.mp (show wp (ofM (λM=>iJ M s) M1) _ from hr);obtain⟨er,m3,g3,r3⟩:=wZ m2 r2 ef;have a3:=ac.grow (g2.trans g3) m3;have hr:wp (Dy ct ρ c L d ck) (mZ X W D S ay au H1 aa G):=hr;unfold Dy at hr;cases L4:ct d with
  |none=>rw[L4]at hr;exact hr.elim
  |some es=>
   rw[L4]at hr
   dsimp only at hr
   by_cases hl:c<4000/\L.length<4000
   ·rw[if_pos hl]at hr
    refine⟨by rw[aae];omega,ug.run a3 hS r3 L4 (by rw[aae];omega) λH' a4=>?_⟩;exact hr _ _ H' σ (g2.trans g3).gZ a4 (en.grow (g2.trans g3))
   ·rw[if_neg hl]at hr
    exact hr.elim⟩
theorem aad {fi:jt}{gt:dX}{ts:List Nat}{bd:eX}(hF:se X Fa)(hi:∀t,Fa t->pP (g7 X t) W bV it fi)(hg:∀t,Fa t->GT (g7 X t) bV ts gt)(hb:m6 X Fa W aH cons S body bd)(hp:PassesOwn (model X.prog X.w) X.A X.env X.xe)(hc:X.calm=true)(hs:∀x,foldedSetIterable it X.env x=pure x:=by intro _;rfl):
    yD X Fa W aH cons S (.For bV it body [] pos) (BO fi gt bd):=⟨λρ c L M ay au H1 aa G σ H D ac hS en w=>by
  refine apq hF hp hc hs λt lH=>((hi t lH).run ρ M aa G σ H _ ac.ms en (wp_mono (λr hr=>?_) (cL.mp w)))
  cases r with
  |ex k fs M1=>exact PX.shift ac.g_ (hr σ)
  |ok its M1=>
    intro aU aV aS J g2 m2 i7;cases its with
    |live n item fin=>exact(show False from hr).elim
    |data ds=>
    have hr:wp (p_ gt bd ds ρ c L M1) (mZ X W D S ay au H1 aa G):=hr;have a2:=ac.grow g2 m2;refine⟨λi m k aZ H'=>m=ds.length-i/\i<=ds.length/\∃aq aj az cO qB,g8 aU aV aq aj/\Acc X.K S ay au H1 qB aq aj az H'/\cz X.K aq aj aZ cO/\wp (p_ gt bd (ds.drop i) cO k qB az) (mZ X W D S ay au H1 aa G),⟨ds.length,by simp,Nat.zero_le _,aU,aV,M1,ρ,L,g8.refl _ _,a2,en.grow g2,by rw[List.drop_zero];exact hr⟩,?_⟩
    rintro i m k aZ H' ⟨rfl,hle,aq,aj,az,cO,qB,jV,tX,oS,ii⟩
    by_cases hlt:i<ds.length
    · rw[List.drop_eq_getElem_cons hlt]at ii
      have e1:(Its.data ds).at_ az i=some (.dat ds[i]):=by show ds[i]?.map af.dat=_;rw[List.getElem?_eq_getElem hlt];rfl
      cases qT:gt (.dat ds[i]) cO with
      |none=>simp only[p_,qT]at ii;exact ii.elim
      |some aY=>
      simp only[p_,qT]at ii;refine .inr ⟨i7.goes i aq aj az H' hlt jV tX.ms (by rw[e1];rfl),λk2 fS Rc=>∃aq aj az cO qB,g8 aU aV aq aj/\Acc X.K S ay au H1 qB aq aj az Rc/\cz X.K aq aj fS cO/\wp (p_ gt bd (ds.drop (i+1)) cO k2 qB az) (mZ X W D S ay au H1 aa G),λk2 fS Rc z=>⟨ds.length-(i+1),by omega,rfl,hlt,z⟩,λx fh y t2 afr=>?_⟩;obtain⟨Gc,pu,r⟩:=i7.yld i aq aj az H' x fh _ hlt jV tX.ms e1 y;have g3:=pu.grow (aa:=aq);have a3:=tX.grow g3 (tX.ms.pure pu);have oi:g8 aa G aq Gc:=(g2.gZ.trans jV).trans g3.gZ;refine(hg t2 afr).run _ cO aY aq Gc aZ fh x qT pu.le (oS.grow g3) r _ λtQ Le _=>?_
      exact hb.run aY k qB az ay au H1 aq Gc tQ fh _ a3 hS Le (wp_mono (λr hr=>aeW oi hr λiT c2 L2 M2 hk pH pI lD ab2 Xj a4 e4=>⟨pH,pI,M2,iT,L2,(jV.trans g3.gZ).trans Xj,a4,e4,hk⟩) (cL.mp ii))
    · have e:i=ds.length:=by omega
      subst e;rw[List.drop_length]at ii;exact .inl ⟨i7.stops aq aj az H' jV tX.ms rfl,ii aq aj H' aZ (g2.gZ.trans jV) tX oS⟩⟩
end
abbrev I7 (K:Frag)(ns:Nat->Bool):Prop:=∀c,ns c=true->PySem.W.subIn K (.ref (cy K c)) (.type "StopIteration")=some false
def alp (ns:Nat->Bool)(n:Nat):Re nR->T (Re af)
 | .ok (.nx _ _ L) M=>.ret (.ok (.dat (.lst L)) (cut n M))
 | .ex c fs M=>if ns c=true then .ret (.ex c fs (cut n M))else .bad
 |_=>.bad
def mw (ns:Nat->Bool)(np n:Nat)(b:eX):aM:=λss M=>if ss.length=np then(b (ss++List.replicate (n-np) .un) 0 [] M).bind (alp ns M.length)else .bad
theorem X5 {ns:Nat->Bool}{np n:Nat}{b:eX}{ss:List af}{M:List ak}{Q:Re af->Prop}(w:wp (mw ns np n b ss M) Q):ss.length=np:=by
 unfold mw at w;split at w
 ·assumption
 ·exact w.elim
theorem ajA {ns:Nat->Bool}{np n:Nat}{b:eX}{ss:List af}{M:List ak}{Q:Re af->Prop}(w:wp (mw ns np n b ss M) λr=>match r with|.ok s az=>Q (.ok s az)|.ex _ _ _=>False):wp (qj np n b ss M) Q:=by
 unfold mw at w;unfold qj;split at w
 ·rename_i e
  rw[if_pos e];refine wp_bind.mpr (wp_mono (λr hr=>?_) (wp_bind.mp w));cases r with
  |ex c fs M1=>
   have hr:wp (if ns c=true then(R.T.ret (.ex c fs (cut M.length M1)):T (Re af))else .bad) _:=hr;split at hr
   ·exact(show False from hr).elim
   ·exact hr.elim
  |ok v M1=>
   cases v with
   |nx aY c1 fO=>exact hr
   |bk aY c1 fO=>exact(show False from hr).elim
   |ct aY c1 fO=>exact(show False from hr).elim
 ·exact w.elim
structure Au (D:iw)(k:Nat)(f:Addr)(fd:FuncData)(ps:List Str)(n:Nat)(iW:Flt->eX):Prop where
 ex:∃(N:List Str) (qual:Str) (scope:Scope) (cd:Value) (body:List Stmt),N.length=n/\
  (∀(A:Around) (outer:List Env) (s:Shared) (H:Hp) (args:Args) (us:List Value) (vs:List V),Room (k+2) A->Env0 D.prog D.w D.K D.mg D.base A outer s H->BindsTo s fd args (ps.zip us)->Vals vs us->vs.length=ps.length->
   codeAny (model D.prog D.w) A (.call (.ref f) args) (λr aF=>match r with|.ok (.ret u)=>∃a g go,u=.ref a/\yf D.prog D.w D.K D.mg D.base N qual scope f cd body (k+1) outer s H vs a g go aF|_=>False) s)/\
  (∀(A:Around) (outer:List Env) (s:Shared) (H:Hp) (E:XK) (pn:List (Addr×Obj)) (aH:fN) (cons:Cons) (S:Addr) (ct:Flt) (Fa:gD),Room (k+1) A->vZ D.K S ct cons->se (gcxOf D.prog D.w D.K D.mg D.base N qual scope f cd A outer s H E pn) Fa->
   AJ (gcxOf D.prog D.w D.K D.mg D.base N qual scope f cd A outer s H E pn) Fa (pT E)->m6 (gcxOf D.prog D.w D.K D.mg D.base N qual scope f cd A outer s H E pn) Fa (pT E) aH cons S body (iW ct))
abbrev n7 (P:Program)(w:World)(K:Frag)(mg:Str->Option Value)(base:Heap)(N:List Str)(qual:Str)(sc:Scope)(f:Addr)(cdv:Value)(A:Around)(outer:List Env)(s:Shared)(H:Hp)(E:XK)(pn:List (Addr×Obj)):Cx:=gcxOf P w K mg base N qual sc f cdv A outer s H E pn
theorem Y9 {P:Program}{w:World}{K:Frag}{mg:Str->Option Value}{base:Heap}{N:List Str}{qual:Str}{sc:Scope}{f:Addr}{cdv:Value}{A:Around}{outer:List Env}{s:Shared}{H:Hp}{E:XK}{pn:List (Addr×Obj)}:
    PassesOwn (model (n7 P w K mg base N qual sc f cdv A outer s H E pn).prog (n7 P w K mg base N qual sc f cdv A outer s H E pn).w) (n7 P w K mg base N qual sc f cdv A outer s H E pn).A (n7 P w K mg base N qual sc f cdv A outer s H E pn).env (n7 P w K mg base N qual sc f cdv A outer s H E pn).xe:=owns_gcx
theorem b7.n7 {P:Program}{w:World}{K:Frag}{mg:Str->Option Value}{base:Heap}{N:List Str}{qual:Str}{sc s0:Scope}{f:Addr}{cdv:Value}{A:Around}{outer:List Env}{s:Shared}{H:Hp}{E:XK}{pn:List (Addr×Obj)}:b7 N sc s0 (n7 P w K mg base N qual sc f cdv A outer s H E pn):=⟨rfl,rfl,λ_ _=>rfl,rfl⟩
section
variable{P:Program}{w:World}{K:Frag}{mg:Str->Option Value}{base:Heap}{x qual:Str}{eo:Stmt}{f:Addr}{fd:FuncData}{N ps:List Str}{k:Nat}
theorem UZ (F:L2.Fun K x qual eo f fd)(S:GScope N ps (defScope eo)){iW:Flt->eX}
    (body:∀(cdv:Value) (A:Around) (outer:List Env) (s:Shared) (H:Hp) (E:XK) (pn:List (Addr×Obj)) (aH:fN) (cons:Cons) (uX:Addr) (ct:Flt) (Fa:gD),Room k (A.deeper (envOfC qual (defScope eo) s.heap.objs.size f cdv))->A.handled=none->vZ K uX ct cons->se (n7 P w K mg base N qual (defScope eo) f cdv A outer s H E pn) Fa->
      AJ (n7 P w K mg base N qual (defScope eo) f cdv A outer s H E pn) Fa (pT E)->m6 (n7 P w K mg base N qual (defScope eo) f cdv A outer s H E pn) Fa (pT E) aH cons uX (defBody eo) (iW ct)):Au ⟨P,w,K,mg,base⟩ k f fd ps N.length iW:=by
  obtain⟨oc,od,kV,doc,pm,an,cdv,ct,gi,rfl,lk,hcd⟩:=F.ex;exact⟨N,qual,defScope eo,cdv,defBody eo,rfl,λA outer s H args us vs hr e0 sD r hl=>U7 lk hcd S A outer s H args us vs hr e0 sD r hl,
    λA outer s H E pn aH cons uX ct Fa hr ug hF hT=>body cdv A outer s H E pn aH cons uX ct Fa (hr.deeper _) hr.hd ug hF hT⟩
end
structure yC (X:Cx)(W:WX)(ns:Nat->Bool)(k:Nat)(e:Expr)(ct:Flt)(f:CE):Prop where
 run:∀ρ M aa G σ H (lE:Re af->Prop),aK X.K aa G M H->cz X.K aa G σ ρ->wp (f ρ M) (λr=>match r with|.ok s az=>lE (.ok s az)|.ex c fs az=>PX X W σ aa G H c fs az/\lE (.ex c fs az))->
  Iw X e k σ H λcH=>∃ay au M1 ss np b,aJ aa G H ay au cH.H/\aK X.K ay au M1 cH.H/\bM X.K ay au cH.vs ss/\cH.N.length-np=cH.N.length-ss.length/\
   (∀(A:Around) (S:Addr) (Fa:gD) (E:XK) (aH:fN) (cons:Cons),vZ X.K S ct cons->Room k A->se (cH.j4 X A E) Fa->AJ (cH.j4 X A E) Fa (pT E)->m6 (cH.j4 X A E) Fa (pT E) aH cons S cH.body b)/\wp (mw ns np cH.N.length b ss M1) lE
def aen:Re af->T (Re af)
 | .ok s M=>.ret (.ok s M)
 | .ex _ _ _=>.bad
def Bv (f:CE):CE:=λρ M=>(f ρ M).bind aen
section
variable{X:Cx}{W:WX}{k:Nat}{e o:Expr}{es:List Expr}{kws:List Keyword}{aE f:CE}{fs cK:aH}{x m:Str}{pos apos p:Pos}{ns:Nat->Bool}{ct:Flt}
theorem yC.toF (h:yC X W ns k e kL f):So X W k e (Bv f):=⟨λρ M aa G σ H lE ms en w=>by
 intro pins s I;refine thn (h.run ρ M aa G σ H (λr=>match r with|.ok s az=>lE (.ok s az)|.ex _ _ _=>False) ms en (wp_mono (λr hr=>?_) (wp_bind.mp w)) pins s I) λu s1 ⟨cH,M,hk,ay,au,M1,ss,np,b,g1,m1,r1,nq,hb,aD⟩=>⟨cH,M,hk,ay,au,M1,ss,np,b,g1,m1,r1,nq,λA S Fa nu hF=>?_,ajA aD⟩
 ·cases r with
  |ok s az=>exact hr
  |ex c fs az=>exact(show False from hr).elim
 ·exact hb A S Fa lK mR (qN S) Tw nu hF λt _=>aoL (takes_gcx (E:=lK)) t⟩
theorem af2 {cH:pJ}{np:Nat}{b:eX}{S:Addr}{aH:fN}{cons:Cons}{aa:List Addr}{iV H1:Hp}{M:List ak}{ss:List af}{Qd:Addr->Hp->Prop}{Fa:gD}{E:XK}
    (hb:∀A:Around,Room cH.k A->m6 (cH.j4 X A E) Fa (pT E) aH cons S cH.body b) (hn:cH.N.length-np=cH.N.length-ss.length) (ms:aK X.K aa iV M H1) (r:bM X.K aa iV cH.vs ss) (hS:H1 S=none)
    (w:wp (mw ns np cH.N.length b ss M) λr=>match r with
      | .ok s az=>qE X.K Qd aa iV H1 (.ok s az)
      | .ex c fs az=>ns c=true->∀aq aj H' d bU,aJ aa iV H1 aq aj H'->aK X.K aq aj az H'->aj d=some (.xd bU)->gR X.K aj bU fs->E (.ref (cy X.K c)) (some d) H'):cH.HK X E Fa aH cons (λH'=>Qd S H') (upd H1 S (.lst [])):=by
  intro A nu hfr;unfold mw at w;split at w
  · rename_i e
    have en:=BB (K:=X.K) (aa:=aa) (G:=iV) (N:=cH.N) r;rw[<-e]at w;refine(hb A nu).run _ 0 [] M aa iV H1 aa iV (start cH.N cH.vs) (upd H1 S (.lst [])) _ (DV (X:=X) hS ms) hS en (wp_mono (λr hr=>?_) (wp_bind.mp w));cases r with
    |ex c fs M1=>
      have hr:wp (if ns c=true then(R.T.ret (.ex c fs (cut M.length M1)):T (Re af))else .bad) _:=hr;split at hr
      · rename_i hc
        intro aZ aq aj H' d bU g1 m1 e1 r1;have hr:ns c=true->∀aq aj H' d bU,aJ aa iV H1 aq aj H'->aK X.K aq aj (cut M.length M1) H'->aj d=some (.xd bU)->gR X.K aj bU fs->E (.ref (cy X.K c)) (some d) H':=hr;rw[show M.length=aa.length from ms.len.symm]at hr;exact oQ ms g1 m1 λaU g2 m2 _=>hr hc aU aj H' d bU g2 m2 e1 r1
      · exact hr.elim
    |ok v M1=>
      cases v with
      |nx aY c1 fO=>
        intro aq aj H' aZ _ a1 _;obtain⟨L,yS,q⟩:=(show qE X.K Qd aa iV H1 (.ok (.dat (.lst fO)) (cut M.length M1))from hr);cases yS
        rw[show M.length=aa.length from ms.len.symm]at q;exact Su a1 λaU a2=>q aa iV H1 aU aj H' S (aJ.refl _ _ _) hS a2
      |bk aY c1 fO=>exact(show False from hr).elim
      |ct aY c1 fO=>exact(show False from hr).elim
  · exact w.elim
theorem ZP {pins:List (Addr×Obj)}{σ:L2.St}{H:Hp}{s:Shared}{f:Addr}{fd:FuncData}{ps:List Str}{n np:Nat}{iW:Flt->eX}{aa:List Addr}{G:Hp}{M:List ak}{us us':List Value}{kw:List (Str×Value)}{vs:List V}{ss:List af}{lE:Re af->Prop}(D:Au X.iR k f fd ps n iW)(hr:Room (k+2) X.A)
    (I:Inv X pins σ H s) (sD:BindsTo s fd ⟨us,kw⟩ (ps.zip us')) (b6:Vals vs us') (r:bM X.K aa G vs ss) (nq:np=ps.length) (w:wp (mw ns np n (iW ct) ss M) lE):
    wpAny (model X.prog X.w) X.A (call (.ref f) us kw) (λu s1=>∃cH,DE X pins σ cH u s1/\cH.k=k+1/\cH.H=H/\cH.vs=vs/\cH.N.length=n/\cH.N.length-np=cH.N.length-ss.length/\
      ∀(A:Around) (S:Addr) (Fa:gD) (E:XK) (aH:fN) (cons:Cons),vZ X.K S ct cons->Room (k+1) A->se (cH.j4 X A E) Fa->AJ (cH.j4 X A E) Fa (pT E)->m6 (cH.j4 X A E) Fa (pT E) aH cons S cH.body (iW ct)) X.xe s:=by
  obtain⟨N,qual,scope,cd,body,hN,afN,afI⟩:=D.ex;have hl:=X5 w;have agH:vs.length=ps.length:=by rw[<-nq,<-hl,r.length]
  refine wpAny_call (codeAny_mono (afN X.A X.stack s H ⟨us,kw⟩ us' vs hr I.env0 sD b6 agH) λq aF hq=>?_);cases q with
  |error e=>exact False.elim hq
  |ok gG=>
    cases gG with
    |next=>exact False.elim hq
    |brk=>exact False.elim hq
    |cont=>exact False.elim hq
    |ret u=>
      obtain⟨a,g,go,rfl,mk⟩:=hq;exact⟨⟨N,qual,scope,f,cd,body,k+1,s,H,vs,a,g,go⟩,⟨rfl,I,mk⟩,rfl,rfl,rfl,hN,by rw[hl],λA S Fa E aH cons ug nu hF hT=>afI A X.stack s H E _ aH cons S ct Fa nu ug hF hT⟩
structure QW (D:iw)(ns:Nat->Bool)(k:Nat)(x:Str)(np:Nat)(ct:Flt)(F:aM):Prop where
 ex:∃e7 f fd ps n iW,k=e7+1/\Au D e7 f fd ps n iW/\D.mg x=some (.ref f)/\PySem.W.keepIn D.K (.ref f)=true/\Binds D.K fd ps []/\np=ps.length/\∀ss M Q,wp (F ss M) Q->wp (mw ns np n (iW ct) ss M) Q
structure QV (D:iw)(ns:Nat->Bool)(k:Nat)(x:Str)(ks:List Str)(pm:List Nat)(np:Nat)(ct:Flt)(F:aM):Prop where
 ex:∃e7 f fd ps n iW,k=e7+1/\Au D e7 f fd ps n iW/\D.mg x=some (.ref f)/\PySem.W.keepIn D.K (.ref f)=true/\KBn D.K fd ps 0 ks (λus ws=>us++iB pm ws) (λus ws=>us++iB pm ws)/\np=ps.length/\∀ss M Q,wp (F ss M) Q->wp (mw ns np n (iW ct) ss M) Q
theorem QM {np:Nat}{F:aM}(C:QW X.iR ns k x np ct F)(hr:Room (k+1) X.A)(uQ:eK X x)(h1:jN X W (e::es) fs)
    (he:starEach (e::es) X.env=(false,eval e X.env)::starEach es X.env:=by rfl) (hpl:(backTo pos (starEach es X.env)).any (·.1)=false:=by rfl):yC X W ns k (.Call (.Name x p) (e::es) [] pos) ct (bB F fs):=⟨λρ M aa G σ H lE ms en h=>by
  obtain⟨e7,f,fd,ps,n,iW,rfl,IS,hm,hk,hb,nq,hF⟩:=C.ex;intro pins s I;have uf:=h1.run ρ M aa G σ H (λvs H1=>∃ay au M1 ss,aJ aa G H ay au H1/\aK X.K ay au M1 H1/\bM X.K ay au vs ss/\wp (F ss M1) λr=>match r with|.ok s az=>lE (.ok s az)|.ex c fs az=>PX X W σ aa G H c fs az/\lE (.ex c fs az)) ms en (wp_mono (λr hr=>by
    cases r with
    |ex c fs M1=>exact hr.1
    |ok ss M1=>exactλay au H1 vs g1 m1 r1=>⟨ay,au,M1,ss,g1,m1,r1,hr⟩) (cL.mp h))
  refine wpAny_Call_Name_kw (ld_glob I uQ.gl hm ?_ uQ.nd);refine PySem.W.callWith_K (h₀:=X.base) I.ok.mod.kin hk (thn (uf pos pins s I) λus s1 ⟨vs,H1,bY,r,ay,au,M1,ss,g1,m1,r1,aD⟩=>⟨bY.kIn,?_⟩) he hpl;have bK:wp (mw ns np n (iW ct) ss M1) lE:=hF _ _ _ (wp_mono (λr hr=>by
    cases r with
    |ex c fs M1=>exact hr.2
    |ok s M1=>exact hr) aD)
  have hl:us.length=ps.length:=by rw[<-r.length,r1.length,X5 bK,nq]
  have sD:=hb s1 us bY.kIn (by rw[List.append_nil];exact hl);rw[List.append_nil]at sD;refine wpAny_mono (ZP (us':=us) (np:=np) IS hr bY sD r r1 nq bK) (λu s2 ⟨cH,M2,hk,hH,hv,hn,Mb,hb⟩=>⟨cH,M2,hk,?_⟩) λ_ _ h=>h
  subst hH hn;exact⟨ay,au,M1,ss,np,_,g1,m1,by rw[hv];exact r1,Mb,hb,bK⟩⟩
theorem aq8 {np:Nat}{F:aM}{ks:List Str}{pm:List Nat}(C:QV X.iR ns k x ks pm np ct F)(hr:Room (k+1) X.A)(uQ:eK X x)(h2:SK X W kws cK)(ri:pm.length=ks.length)
    (hall:(backToKw pos (keywordEach kws X.env)).all (·.1.isSome)=true:=by rfl) (agc:(backToKw pos (keywordEach kws X.env)).filterMap (·.1)=ks:=by rfl)
    (hpl:((backTo pos (starEach [] X.env)).any (·.1)||(backToKw pos (keywordEach kws X.env)).any (·.1.isNone))=false:=by rfl):yC X W ns k (.Call (.Name x p) [] kws pos) ct (yO F pm av cK):=⟨λρ M aa G σ H lE ms en h=>by
  obtain⟨e7,f,fd,ps,n,iW,rfl,IS,hm,hk,hb,nq,hF⟩:=C.ex;intro pins s I;have aD:wp (Ev.bind (cK ρ) (λzs M=>if zs.length=pm.length then F ([]++iB pm zs) M else .bad) M) _:=h;refine wpAny_Call_Name_kw (ld_glob I uQ.gl hm ?_ uQ.nd);refine PySem.W.callWith_KW0 (h₀:=X.base) I.ok.mod.kin hk hall ?_ hpl;have agd:=h2.run ρ M aa G σ H (λzs aS=>∃aU aV M2 ts,aJ aa G H aU aV aS/\aK X.K aU aV M2 aS/\bM X.K aU aV zs ts/\ts.length=pm.length/\wp (F ([]++iB pm ts) M2) λr=>match r with|.ok s az=>lE (.ok s az)|.ex c fs az=>PX X W σ aa G H c fs az/\lE (.ex c fs az)) ms en (wp_mono (λr hr=>by
    cases r with
    |ex c fs M1=>exact hr.1
    |ok ts M2=>
      intro aU aV aS zs g2 m2 r2;have hr:wp (if ts.length=pm.length then F ([]++iB pm ts) M2 else .bad) _:=hr;by_cases hz:ts.length=pm.length
      · rw[if_pos hz]at hr;exact⟨aU,aV,M2,ts,g2,m2,r2,hz,hr⟩
      · rw[if_neg hz]at hr;exact hr.elim) (cL.mp aD))
  refine thn (agd pos pins s I) λws s2 ⟨zs,aS,d7,z3,aU,aV,M2,ts,g2,m2,r2,hz,bK⟩=>⟨d7.kIn,?_⟩
  rw[agc];have gQ:wp (mw ns np n (iW ct) ([]++iB pm ts) M2) lE:=hF _ _ _ (wp_mono (λr hr=>by
    cases r with
    |ex c fs M1=>exact hr.2
    |ok s M1=>exact hr) bK)
  have sD:=hb.to s2 [] ws d7.kIn rfl (z3.length.symm.trans (by rw[r2.length,hz,ri]));have cW:bM X.K aU aV ([]++iB pm zs) ([]++iB pm ts):=OU r2 pm;have b6:Vals ([]++iB pm zs) ([]++iB pm ws):=hb.rel .nil z3;refine wpAny_mono (ZP (us':=[]++iB pm ws) (np:=np) IS hr d7 sD b6 cW nq gQ) (λu s3 ⟨cH,ck,hk,hH,hv,hn,Mb,hb⟩=>⟨cH,ck,hk,?_⟩) λ_ _ h=>h
  subst hH hn;exact⟨aU,aV,M2,[]++iB pm ts,np,_,g2,m2,by rw[hv];exact cW,Mb,hb,gQ⟩⟩
theorem aer {pins:List (Addr×Obj)}{σ:L2.St}{G:pJ}{u e:Value}{s1 aF:Shared}{E:XK}(M:DE X pins σ G u s1)(hx:PassesAt (CX X.prog X.w) X σ E)(n_:NoStop X.K E)(hc:CX X.prog X.w X.stack G.H G.sc E e aF)(g:Nat):
    NotStop (model X.prog X.w) e aF.heap/\X.xe e (aF.setGen g .finished):=by
  have bY:=M.inv;have kin:X.K.In aF.heap:=by
    obtain⟨a,B,H',cls,d,_,gG,_,nQ,_⟩:=id hc;refine bY.ok.mod.kin.keeps λb o nY=>gG.1 b o (nQ.keep b o (bY.bs b o nY).1 (bY.bs b o nY).2 λhm=>?_)
    rcases List.mem_cons.mp (bY.stkSub b hm)with z|z
    · have h1:=Heap.lt_size nY
      have h2:=Nat.le_trans bY.ok.bsz bY.ok.above;rw[z]at h1;exact absurd (Nat.lt_of_lt_of_le h1 h2) (Nat.lt_irrefl _)
    · exact bY.ok.nofr nY z
  refine⟨notStop_of n_ kin hc,hx pins G.H G.sc e _ bY ?_⟩;obtain⟨a,B,H',cls,d,ir,gG,f7,nQ,pF,Dz,QN,QO⟩:=hc;exact⟨a,B,H',cls,d,ir,gG,f7,nQ,pF,Dz,allBare_setGen QN rfl,QO⟩
theorem apo {σ:L2.St}{H:Hp}{nm:Str}{E:XK}{Q:VK}(hx:PassesAt (CX X.prog X.w) X σ E)(n_:NoStop X.K E)(hr:Room (k+1) X.A)(hg:Gl X nm)(hmg:X.mg nm=none)(hv:bootBuiltins nm=some (.type "list"))(hnm:nm≠"__name__")(afP:(nm==("__debug__":Str))=false)
    (he:starEach [e] X.env=(false,eval e X.env)::starEach [] X.env)
    (h:Iw X e k σ H λG=>∀S,G.H S=none->∃Qf:Hp->Prop,G.HK X E (λt=>t=G.sc) mR (qN S) Qf (upd G.H S (.lst []))/\∀H',Qf H'->Q (.ref S) H'):wE X (.Call (.Name nm p) [e] [] pos) σ H Q:=by
  intro pins s I;refine wpAny_Call_Name_kw (ld_blt I hg hmg hv ?_ hnm afP);refine PyProof.Rows.callWith_type1 ?_ he rfl;rw[he];show wpAny _ _ (spliced ((false,eval e X.env)::backTo pos (starEach [] X.env))) _ _ s
  refine Calls.spliced_cons (thn (h pins s I) λu s1 ⟨G,M,hk,hR⟩=>?_);refine Calls.spliced_nil ?_;obtain rfl:=M.val;subst hk;refine acT (Fa:=λt=>t=G.sc) (hFa:=rfl) (Q':=λv aF=>EP X pins σ Q v aF) (E:=E) hr M.inv.ok.frames M.made (λS hS=>?_) λe aF hc=>aer M hx n_ hc G.g
  obtain⟨Qf,xh,hq⟩:=hR S hS;have nu:Room G.k X.A.in1.in1.in1:=⟨hr.hd,by have:=hr.dp;show X.A.depth+3*G.k+5<_;omega,by have:=hr.un;show X.A.units+1+1+1+16*G.k+200<_;omega⟩;exact⟨Qf,xh _ nu M.inv.ok.frames,λaZ H' aF eL q=>by
    obtain⟨t,cA,eL⟩:=eL;subst cA;exact⟨.ref S,H',ah8 M eL,rfl,hq H' q⟩⟩
abbrev Q0 (K:Frag)(W:WX)(σ:L2.St):XK:=λcls d H=>PySem.W.subIn K cls (.type "StopIteration")=some false/\W cls d σ H
theorem akO {σ:L2.St}(tk:Takes X W):PassesAt (CX X.prog X.w) X σ (Q0 X.K W σ):=λpins H s e aF I c=>passAt tk σ pins H s e aF I (by
 obtain⟨a,B,H',cls,d,ir,gG,f7,nQ,pF,Dz,QN,QO⟩:=c;exact⟨a,B,H',cls,d,ir,gG,f7,nQ,pF,Dz,QN,QO.2⟩)
theorem PN {m:Bool}(h:yC X W ns k e kL f)(hn:I7 X.K ns)(hr:Room (k+1) X.A)(tk:Takes X W)(abi:eK X "list")(hm:X.mg "list"=none)
    (he:starEach [e] X.env=(false,eval e X.env)::starEach [] X.env:=by rfl):bf X W (.Call (.Name "list" p) [e] [] pos) (ve m f):=⟨λρ M aa G σ H Q ms en w=>by
  refine apo (E:=Q0 X.K W σ) (akO tk) (λ_ _ _ h=>h.1) hr abi.gl hm rfl (by decide) (by decide) he ?_;intro pins s I;refine thn (h.run ρ M aa G σ H (λr=>match r with|.ok s az=>qE X.K (λS H'=>Q (.ref S) H') aa G H (.ok s az)|.ex c fs az=>PX X W σ aa G H c fs az) ms en (wp_mono (λr hr=>by
    cases r with
    |ex c fs M1=>exact⟨hr,hr⟩
    |ok s M1=>exact hr) (aq6 w)) pins s I) λu s1 ⟨cH,M1,hk,ay,au,Rq,ss,np,b,g1,m1,r1,nq,hb,aD⟩=>⟨cH,M1,hk,λS hS=>?_⟩
  refine⟨λH'=>Q (.ref S) H',af2 (ns:=ns) (Qd:=λS H'=>Q (.ref S) H') (λA nu=>hb A S _ _ mR (qN S) Tw (by rw[<-hk];exact nu) (λt ht=>by subst ht;rfl) λt ht=>by
    subst ht;exact takes_gcx) nq m1 r1 hS (wp_mono (λr hr=>?_) aD),λH' h=>h⟩
  cases r with
  |ok s az=>exact qE.shift g1 hr
  |ex c fs az=>exactλhc aq aj H' d bU g2 m2 e2 r2=>⟨hn c hc,hr aq aj H' d bU (g1.trans g2) m2 e2 r2⟩⟩
end
end R
namespace R
open PySem PySem.Spec PyProof.Rows L2 GenW
variable[aT]
theorem akg {K:Frag}{l:List Nat}(h:Wk l K=true):I7 K λc=>l.contains c:=λc hc=>by
 have:=List.all_eq_true.mp h c (by simpa using hc);exact of_decide_eq_true this
def alo (ns:Nat->Bool)(n:Nat):Re bW->T (Re af)
 | .ex c fs M=>if ns c=true then .ret (.ex c fs (cut n M))else .bad
 |_=>.bad
def X6 (ns:Nat->Bool)(np n:Nat)(f:aN):aM:=λss M=>if ss.length=np then(f (ss++List.replicate (n-np) .un) M).bind (alo ns M.length)else .bad
def BN (ns:Nat->Bool)(np n:Nat)(b:Flt->eX)(f:aN):aM:=λss M=>match ss with
 | .dat (.bl _)::ss=>X6 ns np n f ss M
 | .dat d::ss=>mw ns np n (b (aeG d)) ss M
 |_=>.bad
def Fz (l:List Stmt):Stmt:=l.headD (.Pass ⟨0,0,0,0⟩)
structure Q_ (D:iw)(k:Nat)(f:Addr)(fd:FuncData)(ps:List Str)(n:Nat)(fs:aN):Prop where
 ex:∃(N:List Str) (qual:Str) (scope:Scope) (cd:Value) (st:Stmt) (rest:List Stmt),N.length=n/\
  (∀(A:Around) (outer:List Env) (s:Shared) (H:Hp) (args:Args) (us:List Value) (vs:List V),Room (k+2) A->Env0 D.prog D.w D.K D.mg D.base A outer s H->BindsTo s fd args (ps.zip us)->Vals vs us->vs.length=ps.length->
   codeAny (model D.prog D.w) A (.call (.ref f) args) (λr aF=>match r with|.ok (.ret u)=>∃a g go,u=.ref a/\yf D.prog D.w D.K D.mg D.base N qual scope f cd (st::rest) (k+1) outer s H vs a g go aF|_=>False) s)/\
  (∀(A:Around) (outer:List Env) (s:Shared) (H:Hp) (E:XK) (pn:List (Addr×Obj)),Room (k+1) A->jk (gcxOf D.prog D.w D.K D.mg D.base N qual scope f cd A outer s H E pn) (pT E) st fs)
theorem aoJ {P:Program}{w:World}{K:Frag}{mg:Str->Option Value}{base:Heap}{N:List Str}{qual:Str}{sc:Scope}{f:Addr}{cdv:Value}{A:Around}{outer:List Env}{s:Shared}{H:Hp}{E:XK}{pn:List (Addr×Obj)}:Takes (n7 P w K mg base N qual sc f cdv A outer s H E pn) (pT E):=takes_gcx
section
variable{P:Program}{w:World}{K:Frag}{mg:Str->Option Value}{base:Heap}{x qual:Str}{eo:Stmt}{f:Addr}{fd:FuncData}{N ps:List Str}{k:Nat}
theorem UY (F:L2.Fun K x qual eo f fd)(S:GScope N ps (defScope eo)){fs:aN}(hb:defBody eo=Fz (defBody eo)::(defBody eo).tail)
    (body:∀(cdv:Value) (A:Around) (outer:List Env) (s:Shared) (H:Hp) (E:XK) (pn:List (Addr×Obj)),Room k (A.deeper (envOfC qual (defScope eo) s.heap.objs.size f cdv))->A.handled=none->
      jk (n7 P w K mg base N qual (defScope eo) f cdv A outer s H E pn) (pT E) (Fz (defBody eo)) fs):Q_ ⟨P,w,K,mg,base⟩ k f fd ps N.length fs:=by
  obtain⟨oc,od,kV,doc,pm,an,cdv,ct,gi,rfl,lk,hcd⟩:=F.ex;refine⟨N,qual,defScope eo,cdv,Fz (defBody eo),(defBody eo).tail,rfl,λA outer s H args us vs hr e0 sD r hl=>?_,λA outer s H E pn hr=>body cdv A outer s H E pn (hr.deeper _) hr.hd⟩;rw[<-hb];exact U7 lk hcd S A outer s H args us vs hr e0 sD r hl
end
end R
namespace jx
open PySem PySem.Spec PyProof.Rows L2 R
def xJ:Nat->Bool:=λc=>YH.contains c
abbrev Rr:List Str:=["_law_script"]
abbrev abA:List Str:=["_law_script"]
theorem amE:FnScope Rr abA (defScope OY):=fP
def acG (C:Nat->aM):aN:=
 (bT (dw true (ai (bu (pu (sX false)) (ai (nc (ah 0) ou (nH (λ_=>ok (.dat (.int 63))))) av)) (ai (λ_=>ok (.dat (.int 0))) (ai (λ_=>ok (.dat (.int 0))) (ai (λ_=>ok (.dat (.int 4912))) (ai (λ_=>ok (.dat (.int 0))) av)))))))
abbrev Ru:List Str:=["_law_hand","_law_many","_law_cell","_law_digit","_law_seed"]
abbrev abB:List Str:=["_law_hand","_law_many"]
theorem amF:FnScope Ru abB (defScope OZ):=fP
def acH (C:Nat->aM):aN:=
  (aL (dj (tAnd (bz (ao (cmp .Eq) (ao aO (ah 0) (λ_=>ok (.dat (.int 2)))) (λ_=>ok (.dat (.int 0))))) (bz (ao (cmp .Lt) (ao aO (ah 0) (λ_=>ok (.dat (.int 1)))) (bu (b_ [(0,C 32)]) (ai (ao aO (ah 0) (λ_=>ok (.dat (.int 0)))) av))))) (aL (bL 2 (ao aO (ao aO (ah 0) (λ_=>ok (.dat (.int 0)))) (ao aO (ah 0) (λ_=>ok (.dat (.int 1))))))
  (aL (sIx (ao (bin .Add) (ao aO (ah 0) (λ_=>ok (.dat (.int 1)))) (λ_=>ok (.dat (.int 1)))) (ah 0) (λ_=>ok (.dat (.int 1))))
  (dj (bz (ao (cmp .GtE) (ah 2) (ao (bin .Pow) (λ_=>ok (.dat (.int 10))) (λ_=>ok (.dat (.int 18)))))) (sIx (ah 2) (ah 0) (λ_=>ok (.dat (.int 2)))) (sIx (ao (bin .Mod) (bu (pu ie) (ai (ao (bin .Add) (ao (bin .Add) (ao (bin .Mult) (ao aO (ah 0) (λ_=>ok (.dat (.int 3)))) (λ_=>ok (.dat (.int 40961)))) (ao (bin .Mult) (ao (bin .Mod) (bu (pu ie) (ai (ah 2) av)) (λ_=>ok (.dat (.int 2147483549)))) (λ_=>ok (.dat (.int 28657))))) (λ_=>ok (.dat (.int 7)))) av)) (λ_=>ok (.dat (.int 2147483647)))) (ah 0) (λ_=>ok (.dat (.int 3))))))) dR)
  (aL (dj (bz (ao (cmp .Gt) (ao aO (ah 0) (λ_=>ok (.dat (.int 2)))) (λ_=>ok (.dat (.int 0))))) (aL (bL 3 (ao (bin .Mod) (bu (pu ie) (ai (ao aO (ah 0) (λ_=>ok (.dat (.int 2)))) av)) (ah 1)))
  (aL (sIx (ao (bin .FloorDiv) (ao aO (ah 0) (λ_=>ok (.dat (.int 2)))) (ah 1)) (ah 0) (λ_=>ok (.dat (.int 2))))
  (bT (ah 3)))) dR)
  (aL (sIx (ao (bin .Add) (ao aO (ah 0) (λ_=>ok (.dat (.int 4)))) (λ_=>ok (.dat (.int 1)))) (ah 0) (λ_=>ok (.dat (.int 4))))
  (aL (bL 4 (ao aO (ah 0) (λ_=>ok (.dat (.int 3)))))
  (aL (sIx (ao (bin .Mod) (bu (pu ie) (ai (ao (bin .Add) (ao (bin .Add) (ao (bin .Add) (ao (bin .Mult) (ah 4) (ah 4)) (ao (bin .Mult) (ah 4) (λ_=>ok (.dat (.int 17389))))) (ao (bin .Mult) (ao aO (ah 0) (λ_=>ok (.dat (.int 4)))) (λ_=>ok (.dat (.int 611953))))) (λ_=>ok (.dat (.int 4099)))) av)) (λ_=>ok (.dat (.int 2147483647)))) (ah 0) (λ_=>ok (.dat (.int 3))))
  (bT (ao (bin .Mod) (bu (pu ie) (ai (ao (bin .Add) (ao (bin .FloorDiv) (ao aO (ah 0) (λ_=>ok (.dat (.int 3)))) (λ_=>ok (.dat (.int 61)))) (ao (bin .Mult) (ao (bin .Mod) (bu (pu ie) (ai (ao aO (ah 0) (λ_=>ok (.dat (.int 3)))) av)) (λ_=>ok (.dat (.int 8191)))) (λ_=>ok (.dat (.int 37))))) av)) (ah 1))))))))
abbrev RS:List Str:=["_law_hand","_law_things"]
abbrev abX:List Str:=["_law_hand","_law_things"]
theorem an1:FnScope RS abX (defScope Pj):=fP
def Kd (C:Nat->aM):aN:=
 (bT (ao aO (ah 1) (bB (C 1) (ai (ah 0) (ai (bu (b_ [(0,C 32)]) (ai (ah 1) av)) av)))))
abbrev I5:List Str:=["board","size","chord"]
abbrev ac4:List Str:=["board"]
theorem HR:L2.GScope I5 ac4 (defScope vL):=⟨rfl,rfl,rfl,by decide+kernel,rfl,by decide+kernel,by decide+kernel⟩
def Kh (C:Nat->aM)(ct:Flt):eX:=
  (w6 (ue (f5 (bB (C 4) (ai (ah 0) av))))
  (BO (fX (ao (bin .Add) (bu (b_ [(0,C 32)]) (ai (ah 0) av)) (λ_=>ok (.dat (.int 1))))) (br 1) (BO (cF (bB (C 5) (ai (m_ "crossings" [(0,C 6)] (ah 0)) (ai (ah 1) av)))) (br 2) (Ff (bz (bB (C 7) (ai (ah 0) (ai (ah 2) av)))) (LB ct (ah 2)) LA))))
def OO (C:Nat->aM):aN:=
 (f5 (bB (C 4) (ai (ah 0) av)))
abbrev R1:List Str:=["board"]
abbrev ac5:List Str:=["board"]
theorem an8:FnScope R1 ac5 (defScope Pu):=fP
def Kl (C:Nat->aM):aN:=
 (dj (bz (ao (cmp .Gt) (bu (b_ [(0,C 32)]) (ai (ah 0) av)) (λ_=>ok (.dat (.int 8))))) (mV 19 "TooWide" "most" (λ_=>ok (.dat (.int 8)))) dR)
abbrev R3:List Str:=["some","size","found","at","one"]
abbrev ac6:List Str:=["some","size"]
theorem an9:FnScope R3 ac6 (defScope Pw):=fP
def Km (C:Nat->aM):aN:=
  (aL (bL 2 (dw false (ai (dg av) av)))
  (aL (fR (fX (bu (b_ [(0,C 32)]) (ai (ah 0) av))) (br 3) (fJ [3] (bL 2 (ao (bin .Add) (ah 2) (cV false [4] (cF (ah 2)) (br 4) (bz (ao (cmp .Lt) (bu (b_ [(0,C 32)]) (ai (ah 4) av)) (ah 1))) (dg (EV (ah 4) (ai (ao aO (ah 0) (ah 3)) av))))))))
  (bT (bu (pu (rQ false)) (ai (cV false [4] (cF (ah 2)) (br 4) (bz (ao (cmp .Eq) (bu (b_ [(0,C 32)]) (ai (ah 4) av)) (ah 1))) (ah 4)) av)))))
abbrev R4:List Str:=["self"]
abbrev ac7:List Str:=["self"]
theorem ana:FnScope R4 ac7 (defScope Px):=fP
def wH (C:Nat->aM):aN:=
 (bT (bu (pu (sX false)) (ai (j5 "own_keys" [0] (ah 0)) av)))
abbrev R5:List Str:=["board","chord"]
abbrev ac8:List Str:=["board","chord"]
theorem anb:FnScope R5 ac8 (defScope Py):=fP
def Kn (C:Nat->aM):aN:=
 (bT (ao (cmp .Eq) (bB (C 8) (ai (ah 0) (ai (ah 1) av))) (dw false av)))
abbrev R6:List Str:=["board","closed","found","row","columns","key"]
abbrev ac9:List Str:=["board","closed"]
theorem anc:FnScope R6 ac9 (defScope Pz):=fP
def Ko (C:Nat->aM):aN:=
  (aL (f5 (yU "need_keys" [(0,C 9)] (ah 0) (ai (ah 1) av)))
  (aL (bL 2 (dw true av))
  (aL (fR (fX (vd [(0,C 10)] (ah 0))) (br 3) (fJ [3,4] (aL (bL 4 (bB (C 11) (ai (ah 0) (ai (ah 1) (ai (ah 3) av)))))
  (f5 (yP (ah 2) (cV false [5] (cF (m_ "crossings" [(0,C 6)] (ah 0))) (br 5) (tAnd (bz (ao (cmp .Eq) (ao aO (ah 5) (λ_=>ok (.dat (.int 0)))) (ah 3))) (tAnd (bz (ao (cmp .In) (ao aO (ah 5) (λ_=>ok (.dat (.int 1)))) (ah 4))) (bz (ao (cmp .NotIn) (ah 5) (ah 1))))) (ah 5)))))))
  (bT (ah 2)))))
abbrev Rv:List Str:=["self","some","at","key"]
abbrev abC:List Str:=["self","some"]
theorem amG:FnScope Rv abC (defScope O0):=fP
def J0 (C:Nat->aM):aN:=
 (fR (mj (ah 1)) (gH 2 (cZ (br 2) (cZ (br 3) gY))) (fJ [2,3] (dj (tOr (bz (yV (oO .NotIn [(0,C 31)] [(0,C 28)]) (ah 3) (ah 0))) (bz (ao (cmp .In) (ah 3) (bu (pu (uq false)) (ai (nc (ah 1) ou (nH (ah 2))) av))))) (mV 14 "BadKey" "given" (ah 3)) dR)))
abbrev Rw:List Str:=["self"]
abbrev abD:List Str:=["self"]
theorem amH:FnScope Rw abD (defScope O2):=fP
def Ea (C:Nat->aM):aN:=
 (bT (bu (b_ [(0,C 32)]) (ai (j5 "own_signs" [0] (ah 0)) av)))
abbrev Rx:List Str:=["board","closed","row","signs","rows","columns","at","here","key"]
abbrev abE:List Str:=["board","closed","row"]
theorem amI:FnScope Rx abE (defScope O3):=fP
def J2 (C:Nat->aM):aN:=
  (aL (CU [3,4,5,6] (ai (m_ "signs" [(0,C 12)] (ah 0)) (ai (dw true (ai (ah 2) av)) (ai (dw true av) (ai (λ_=>ok (.dat (.int 0))) av)))))
  (aL (HM (bz (ao (cmp .Lt) (ah 6) (bu (b_ [(0,C 32)]) (ai (ah 4) av)))) (fJ [7,8] (aL (bL 7 (ao aO (ah 4) (ah 6)))
  (aL (fR (cF (ah 1)) (br 8) (dj (tAnd (bz (ao (cmp .Eq) (ao aO (ah 8) (λ_=>ok (.dat (.int 0)))) (ah 7))) (tAnd (bz (ao (cmp .In) (ao aO (ao aO (ah 3) (ah 7)) (ao aO (ah 8) (λ_=>ok (.dat (.int 1))))) (λ_=>ok (.dat (.str "o>"))))) (bz (ao (cmp .NotIn) (ao aO (ah 8) (λ_=>ok (.dat (.int 1)))) (ah 5))))) (f5 (sH (ah 5) (ao aO (ah 8) (λ_=>ok (.dat (.int 1)))))) dR))
  (aL (fR (cF (ah 1)) (br 8) (dj (tAnd (bz (ao (cmp .In) (ao aO (ah 8) (λ_=>ok (.dat (.int 1)))) (ah 5))) (tAnd (bz (ao (cmp .In) (ao aO (ao aO (ah 3) (ao aO (ah 8) (λ_=>ok (.dat (.int 0))))) (ao aO (ah 8) (λ_=>ok (.dat (.int 1))))) (λ_=>ok (.dat (.str "o<"))))) (bz (ao (cmp .NotIn) (ao aO (ah 8) (λ_=>ok (.dat (.int 0)))) (ah 4))))) (f5 (sH (ah 4) (ao aO (ah 8) (λ_=>ok (.dat (.int 0)))))) dR))
  (CO 6 (λ_=>ok (.dat (.int 1)))))))))
  (bT (ah 5))))
abbrev Ry:List Str:=["self"]
abbrev abF:List Str:=["self"]
theorem amJ:FnScope Ry abF (defScope O4):=fP
def wC (C:Nat->aM):aN:=
 (bT (bu (pu (sX false)) (ai (j5 "own_signs" [0] (ah 0)) av)))
abbrev Rz:List Str:=["_law_plan_here"]
abbrev abG:List Str:=["_law_plan_here"]
theorem amK:FnScope Rz abG (defScope O5):=fP
def wD (C:Nat->aM):aN:=
 (bT (Bu true 0 (C 14) (ai (ao aO (ah 0) (λ_=>ok (.dat (.int 0)))) (ai (ao aO (ah 0) (λ_=>ok (.dat (.int 1)))) av))))
abbrev RA:List Str:=["self","ticks","rows","at","place","signs","early","other","good","sign","shown","row","column"]
abbrev abH:List Str:=["self","ticks","rows"]
theorem amL:FnScope RA abH (defScope O6):=fP
def J3 (C:Nat->aM):aN:=
  (aL (f5 (bB (C 15) (ai (ah 1) (ai (λ_=>ok (.dat (.int 1))) (ai (λ_=>ok (.dat (.int 6))) av)))))
  (aL (dj (tNot (bz (nW .LtE .LtE (λ_=>ok (.dat (.int 1))) (bu (b_ [(0,C 32)]) (ai (ah 2) av)) (λ_=>ok (.dat (.int 4)))))) (mV 18 "BadRow" "at" (cJ Cv (λ_=>ok (.dat (.int 1))))) dR)
  (aL (fR (mj (ah 2)) (gH 2 (cZ (br 3) (cZ (gH 2 (cZ (br 4) (cZ (br 5) gY))) gY))) (fJ [3,4,5,8] (aL (dj (tOr (tNot (bz (nW .LtE .Lt (λ_=>ok (.dat (.int 0))) (ah 4) (ah 1)))) (bz (ao (cmp .In) (ah 4) (cV false [6,7] (cF (nc (ah 2) ou (nH (ah 3)))) (gH 2 (cZ (br 6) (cZ (br 7) gY))) fc (ah 6))))) (mV 18 "BadRow" "at" (ah 3)) dR)
  (aL (bL 8 (i9 (nW .LtE .LtE (λ_=>ok (.dat (.int 1))) (bu (b_ [(0,C 32)]) (ai (ah 5) av)) (λ_=>ok (.dat (.int 4)))) (bu (pu (qI true)) (ai (cV false [9] (cF (ah 5)) (br 9) fc (ao (cmp .In) (ah 9) (λ_=>ok (.dat (.str ".o><"))))) av))))
  (dj (tOr (tNot (bz (ah 8))) (bz (ao (cmp .NotEq) (bu (b_ [(0,C 32)]) (ai (ah 5) av)) (bu (b_ [(0,C 32)]) (ai (ao aO (ao aO (ah 2) (λ_=>ok (.dat (.int 0)))) (λ_=>ok (.dat (.int 1)))) av))))) (mV 18 "BadRow" "at" (ah 3)) dR)))))
  (aL (sFld "own_ticks" [0] (ah 1) (ah 0))
  (aL (sFld "own_places" [0] (cV false [4,5] (cF (ah 2)) (gH 2 (cZ (br 4) (cZ (br 5) gY))) fc (ah 4)) (ah 0))
  (aL (sFld "own_signs" [0] (cV false [4,5] (cF (ah 2)) (gH 2 (cZ (br 4) (cZ (br 5) gY))) fc (ah 5)) (ah 0))
  (aL (bL 10 (cV false [4,5] (cF (ah 2)) (gH 2 (cZ (br 4) (cZ (br 5) gY))) fc (oh [(cJ j6 (ah 4)),(λ_=>ok (.dat (.str " "))),(cJ j6 (ah 5))] Str.empty)))
  (aL (sFld "own_text" [0] (oh [(cJ j6 (ah 1)),(λ_=>ok (.dat (.str ": "))),(cJ j6 (yR (λ_=>ok (.dat (.str " / "))) (ah 10)))] Str.empty) (ah 0))
  (sFld "own_keys" [0] (Bt false [11,5,12,9] (mj (j5 "own_signs" [0] (ah 0))) (gH 2 (cZ (br 11) (cZ (br 5) gY))) fc (mj (ah 5)) [12,9] (gH 2 (cZ (br 12) (cZ (br 9) gY))) (bz (ao (cmp .NotEq) (ah 9) (λ_=>ok (.dat (.str "."))))) (dg (ai (ah 11) (ai (ah 12) av)))) (ah 0))))))))))
abbrev RB:List Str:=["number","least","most"]
abbrev abI:List Str:=["number","least","most"]
theorem amM:FnScope RB abI (defScope O7):=fP
def J4 (C:Nat->aM):aN:=
 (dj (tNot (bz (nW .LtE .LtE (ah 1) (ah 0) (ah 2)))) (mV 12 "BadNumber" "given" (ah 0)) dR)
abbrev RC:List Str:=["_law_plan_here","_law_found","_law_row","_law_signs","_law_column"]
abbrev abJ:List Str:=["_law_plan_here"]
theorem amN:FnScope RC abJ (defScope O8):=fP
def Eb (C:Nat->aM):aN:=
  (aL (bL 1 (dw false av))
  (aL (fR (fX (bu (b_ [(0,C 32)]) (ai (ao aO (ah 0) (λ_=>ok (.dat (.int 1)))) av))) (br 2) (fJ [2,3] (aL (bL 3 (ao aO (ao aO (ao aO (ah 0) (λ_=>ok (.dat (.int 1)))) (ah 2)) (λ_=>ok (.dat (.int 1)))))
  (bL 1 (ao (bin .Add) (ah 1) (cV false [4] (fX (bu (b_ [(0,C 32)]) (ai (ah 3) av))) (br 4) (bz (ao (cmp .NotEq) (ao aO (ah 3) (ah 4)) (λ_=>ok (.dat (.str "."))))) (dg (ai (ah 2) (ai (ah 4) av)))))))))
  (bT (ah 1))))
abbrev RD:List Str:=["_law_hand","_law_high","_law_wide","_law_most","_law_longest","_law_height","_law_width","_law_ticks","_law_places","_law_left","_law_rows","_law_row","_law_signs","_law_column","_law_sign_here"]
abbrev abK:List Str:=["_law_hand","_law_high","_law_wide","_law_most","_law_longest"]
theorem amO:FnScope RD abK (defScope O9):=fP
def J5 (C:Nat->aM):aN:=
  (aL (oA 5 6 (ao (bin .Add) (λ_=>ok (.dat (.int 1))) (bB (C 1) (ai (ah 0) (ai (ah 1) av)))) (ao (bin .Add) (λ_=>ok (.dat (.int 1))) (bB (C 1) (ai (ah 0) (ai (ah 2) av)))))
  (aL (bL 7 (ao (bin .Add) (ah 5) (bB (C 1) (ai (ah 0) (ai (bu (pu zH) (ai (λ_=>ok (.dat (.int 1))) (ai (ao (bin .Sub) (ao (bin .Add) (ah 4) (λ_=>ok (.dat (.int 1)))) (ah 5)) av))) av)))))
  (aL (bL 8 (bB (C 18) (ai (ah 0) (ai (cJ (Co false) (ah 7)) av))))
  (aL (oA 9 10 (ah 3) (dw true av))
  (aL (fR (fX (ah 5)) (br 11) (fJ [11,12,13,14] (aL (bL 12 (λ_=>ok (.dat (.str ""))))
  (aL (fR (fX (ah 6)) (br 13) (fJ [13,14] (aL (bL 14 (Bs (bz (ao (cmp .Gt) (ah 9) (λ_=>ok (.dat (.int 0))))) (bB (C 2) (ai (ah 0) (ai (dw false (ai (λ_=>ok (.dat (.str "o"))) (ai (λ_=>ok (.dat (.str "o"))) (ai (λ_=>ok (.dat (.str "o"))) (ai (λ_=>ok (.dat (.str "o"))) (ai (λ_=>ok (.dat (.str ">"))) (ai (λ_=>ok (.dat (.str "<"))) (ai (λ_=>ok (.dat (.str "."))) av)))))))) av))) (λ_=>ok (.dat (.str ".")))))
  (aL (bL 9 (ao (bin .Sub) (ah 9) (bu (pu ie) (ai (ao (cmp .NotEq) (ah 14) (λ_=>ok (.dat (.str ".")))) av))))
  (bL 12 (ao (bin .Add) (ah 12) (ah 14)))))))
  (f5 (sH (ah 10) (dg (ai (ao aO (ah 8) (ah 11)) (ai (ah 12) av)))))))))
  (bT (dg (ai (ah 7) (ai (ah 10) av)))))))))
abbrev RE:List Str:=["_law_hand","_law_things","_law_found","_law_thing"]
abbrev abL:List Str:=["_law_hand","_law_things"]
theorem amP:FnScope RE abL (defScope O_):=fP
def J6 (C:Nat->aM):aN:=
  (aL (bL 2 (dw true av))
  (aL (fR (cF (ah 1)) (br 3) (fJ [3] (f5 (ET (ah 2) (bB (C 1) (ai (ah 0) (ai (ao (bin .Add) (bu (b_ [(0,C 32)]) (ai (ah 2) av)) (λ_=>ok (.dat (.int 1)))) av))) (ah 3)))))
  (bT (ah 2))))
abbrev RH:List Str:=["_law_parts","_law_size","_law_part"]
abbrev abN:List Str:=["_law_parts"]
theorem amR:FnScope RH abN (defScope Pa):=fP
def J7 (C:Nat->aM):aN:=
 (bT (cV false [1,2] (cF (bu (pu (rQ false)) (ai (cV false [2] (cF (ah 0)) (br 2) fc (dg (ai (bu (b_ [(0,C 32)]) (ai (ah 2) av)) (ai (ah 2) av)))) av))) (gH 2 (cZ (br 1) (cZ (br 2) gY))) fc (ah 2)))
abbrev RI:List Str:=["_law_found","_law_due","_law_k"]
abbrev abO:List Str:=["_law_found","_law_due"]
theorem amS:FnScope RI abO (defScope Pb):=fP
def Ed (C:Nat->aM):aN:=
  (aL (dj (tOr (bz (ao (cmp .Is) (ah 0) (λ_=>ok (.dat .non)))) (bz (ao (cmp .Is) (ah 1) (λ_=>ok (.dat .non))))) (bT (i9 (ao (cmp .Is) (ah 0) (λ_=>ok (.dat .non))) (ao (cmp .Is) (ah 1) (λ_=>ok (.dat .non))))) dR)
  (aL (dj (bz (cJ (gm ["list","tuple"]) (ah 1))) (aL (dj (tOr (bz (ao (cmp .NotEq) (cJ (gm ["list"]) (ah 0)) (cJ (gm ["list"]) (ah 1)))) (bz (ao (cmp .NotEq) (cJ (gm ["tuple"]) (ah 0)) (cJ (gm ["tuple"]) (ah 1))))) (bT (λ_=>ok (.dat (.bl false)))) dR)
  (bT (i9 (ao (cmp .Eq) (bu (b_ [(0,C 32)]) (ai (ah 0) av)) (bu (b_ [(0,C 32)]) (ai (ah 1) av))) (bu (pu (qI true)) (ai (cV false [2] (fX (bu (b_ [(0,C 32)]) (ai (ah 1) av))) (br 2) fc (bB (C 20) (ai (ao aO (ah 0) (ah 2)) (ai (ao aO (ah 1) (ah 2)) av)))) av))))) dR)
  (aL (dj (tOr (bz (ao (cmp .NotEq) (cJ (gm ["bool"]) (ah 0)) (cJ (gm ["bool"]) (ah 1)))) (bz (ao (cmp .NotEq) (cJ (gm ["int"]) (ah 0)) (cJ (gm ["int"]) (ah 1))))) (bT (λ_=>ok (.dat (.bl false)))) dR)
  (bT (i9 (ao (cmp .Eq) (cJ (gm ["str"]) (ah 0)) (cJ (gm ["str"]) (ah 1))) (ao (cmp .Eq) (ah 0) (ah 1)))))))
abbrev RJ:List Str:=["height","width","row"]
abbrev abP:List Str:=["height","width"]
theorem amT:FnScope RJ abP (defScope Pc):=fP
def wF (C:Nat->aM):aN:=
  (aL (f5 (bB (C 15) (ai (ah 0) (ai (λ_=>ok (.dat (.int 1))) (ai (λ_=>ok (.dat (.int 4))) av)))))
  (aL (f5 (bB (C 15) (ai (ah 1) (ai (λ_=>ok (.dat (.int 1))) (ai (λ_=>ok (.dat (.int 4))) av)))))
  (bT (Bu true 0 (C 14) (ai (ah 0) (ai (cV false [2] (fX (ah 0)) (br 2) fc (dg (ai (ah 2) (ai (ao (bin .Mult) (λ_=>ok (.dat (.str "o"))) (ah 1)) av)))) av))))))
abbrev RK:List Str:=["_law_ask","_law_e"]
abbrev abQ:List Str:=["_law_ask"]
theorem amU:FnScope RK abQ (defScope CV):=fP
def Ef (C:Nat->aM):aN:=
 (HL (bT (dg (ai (λ_=>ok (.dat (.str ""))) (ai (ES (zz C 35 1) (ah 0)) av)))) 2 1 (Ba KG) (bT (ao (bin .Add) (dg (ai (m9 "code" [12,13,14,18,19,28,29] (ah 1)) av)) (bB (C 23) (ai (ah 1) av)))))
abbrev RL:List Str:=["_law_e"]
abbrev abR:List Str:=["_law_e"]
theorem amV:FnScope RL abR (defScope HP):=fP
def yE (C:Nat->aM):aN:=
  (aL (dj (bz (ao (cmp .In) (m9 "code" [12,13,14,18,19,28,29] (ah 0)) (dg (ai (λ_=>ok (.dat (.str "BadNumber"))) (ai (λ_=>ok (.dat (.str "BadText"))) (ai (λ_=>ok (.dat (.str "BadKey"))) (ai (λ_=>ok (.dat (.str "BadWord"))) (ai (λ_=>ok (.dat (.str "BadLook"))) (ai (λ_=>ok (.dat (.str "BadState"))) (ai (λ_=>ok (.dat (.str "BadLimit"))) av)))))))))) (bT (dg (ai (m9 "given" [12,13,14] (ah 0)) av))) dR)
  (aL (dj (bz (ao (cmp .In) (m9 "code" [12,13,14,18,19,28,29] (ah 0)) (dg (ai (λ_=>ok (.dat (.str "BadRow"))) (ai (λ_=>ok (.dat (.str "BadCommand"))) av))))) (bT (dg (ai (m9 "at" [18] (ah 0)) av))) dR)
  (aL (dj (bz (ao (cmp .In) (m9 "code" [12,13,14,18,19,28,29] (ah 0)) (dg (ai (λ_=>ok (.dat (.str "TooWide"))) (ai (λ_=>ok (.dat (.str "Full"))) av))))) (bT (dg (ai (m9 "most" [19] (ah 0)) av))) dR)
  (aL (dj (bz (ao (cmp .In) (m9 "code" [12,13,14,18,19,28,29] (ah 0)) (dg (ai (λ_=>ok (.dat (.str "TooSoon"))) (ai (λ_=>ok (.dat (.str "Steady"))) av))))) (bT (dg (ai (m9 "key" [] (ah 0)) av))) dR)
  (bT (Bs (bz (ao (cmp .In) (m9 "code" [12,13,14,18,19,28,29] (ah 0)) (dg (ai (λ_=>ok (.dat (.str "BadName"))) (ai (λ_=>ok (.dat (.str "TakenName"))) (ai (λ_=>ok (.dat (.str "NoName"))) av)))))) (dg (ai (m9 "name" [28] (ah 0)) av)) (dg av)))))))
abbrev RM:List Str:=["_law_things","_law_found","_law_thing","_law_part"]
abbrev abS:List Str:=["_law_things"]
theorem amW:FnScope RM abS (defScope Pd):=fP
def J8 (C:Nat->aM):aN:=
  (aL (bL 1 (dw false (ai (dg av) av)))
  (aL (fR (cF (ah 0)) (br 2) (fJ [2] (bL 1 (ao (bin .Add) (ah 1) (cV false [3] (cF (ah 1)) (br 3) fc (ao (bin .Add) (ah 3) (dg (ai (ah 2) av))))))))
  (bT (ah 1))))
abbrev RN:List Str:=["_law_plan_here","_law_chord","_law_found","_law_row","_law_columns","_law_key"]
abbrev abT:List Str:=["_law_plan_here","_law_chord"]
theorem amX:FnScope RN abT (defScope Pe):=fP
def J9 (C:Nat->aM):aN:=
  (aL (bL 2 (dw false av))
  (aL (fR (fX (bu (b_ [(0,C 32)]) (ai (ao aO (ah 0) (λ_=>ok (.dat (.int 1)))) av))) (br 3) (fJ [3,4] (aL (bL 4 (bB (C 26) (ai (ah 0) (ai (ah 1) (ai (ah 3) av)))))
  (bL 2 (ao (bin .Add) (ah 2) (cV false [5] (cF (bB (C 16) (ai (ah 0) av))) (br 5) (tAnd (bz (ao (cmp .Eq) (ao aO (ah 5) (λ_=>ok (.dat (.int 0)))) (ah 3))) (tAnd (bz (ao (cmp .In) (ao aO (ah 5) (λ_=>ok (.dat (.int 1)))) (ah 4))) (bz (ao (cmp .NotIn) (ah 5) (ah 1))))) (ah 5)))))))
  (bT (ah 2))))
abbrev RO:List Str:=["_law_plan_here","_law_closed","_law_row","_law_rows","_law_columns","_law_forth","_law_key","_law_back","_law_turn"]
abbrev abU:List Str:=["_law_plan_here","_law_closed","_law_row"]
theorem amY:FnScope RO abU (defScope Pf):=fP
def J_ (C:Nat->aM):aN:=
  (aL (xT (gH 2 (cZ (br 3) (cZ (br 4) gY))) (dg (ai (dw false (ai (ah 2) av)) (ai (dw false av) av))))
  (aL (bL 5 (cV false [6] (cF (ah 1)) (br 6) (bz (ao (cmp .In) (bB (C 27) (ai (ah 0) (ai (ah 6) av))) (λ_=>ok (.dat (.str "o>"))))) (ah 6)))
  (aL (bL 7 (cV false [6] (cF (ah 1)) (br 6) (bz (ao (cmp .In) (bB (C 27) (ai (ah 0) (ai (ah 6) av))) (λ_=>ok (.dat (.str "o<"))))) (ah 6)))
  (aL (fR (fX (λ_=>ok (.dat (.int 5)))) (br 8) (fJ [8] (aL (bL 4 (ao (bin .Add) (ah 4) (cV false [6] (cF (ah 5)) (br 6) (bz (ao (cmp .In) (ao aO (ah 6) (λ_=>ok (.dat (.int 0)))) (ah 3))) (ao aO (ah 6) (λ_=>ok (.dat (.int 1)))))))
  (aL (bL 3 (ao (bin .Add) (ah 3) (cV false [6] (cF (ah 7)) (br 6) (bz (ao (cmp .In) (ao aO (ah 6) (λ_=>ok (.dat (.int 1)))) (ah 4))) (ao aO (ah 6) (λ_=>ok (.dat (.int 0)))))))
  (xT (gH 2 (cZ (br 4) (cZ (br 3) gY))) (dg (ai (cJ (rS false) (ah 4)) (ai (cJ (rS false) (ah 3)) av))))))))
  (bT (ah 4))))))
abbrev RP:List Str:=["_law_plan_here","_law_key"]
abbrev abV:List Str:=["_law_plan_here","_law_key"]
theorem amZ:FnScope RP abV (defScope Pg):=fP
def Ka (C:Nat->aM):aN:=
 (bT (ao aO (ao aO (ao aO (ao aO (ah 0) (λ_=>ok (.dat (.int 1)))) (ao aO (ah 1) (λ_=>ok (.dat (.int 0))))) (λ_=>ok (.dat (.int 1)))) (ao aO (ah 1) (λ_=>ok (.dat (.int 1))))))
abbrev RQ:List Str:=["self","key"]
abbrev abW:List Str:=["self","key"]
theorem an0:FnScope RQ abW (defScope Ph):=fP
def Kc (C:Nat->aM):aN:=
 (bT (i9 (bB (C 29) (ai (ah 1) av)) (ao (cmp .In) (ah 1) (j5 "own_keys" [0] (ah 0)))))
abbrev RT:List Str:=["value"]
abbrev abY:List Str:=["value"]
theorem an2:FnScope RT abY (defScope Pk):=fP
def wG (C:Nat->aM):aN:=
 (bT (i9 (cJ (gm ["tuple"]) (ah 0)) (i9 (ao (cmp .Eq) (bu (b_ [(0,C 32)]) (ai (ah 0) av)) (λ_=>ok (.dat (.int 2)))) (i9 (bB (C 30) (ai (ao aO (ah 0) (λ_=>ok (.dat (.int 0)))) av)) (bB (C 30) (ai (ao aO (ah 0) (λ_=>ok (.dat (.int 1)))) av))))))
abbrev RU:List Str:=["value"]
abbrev abZ:List Str:=["value"]
theorem an3:FnScope RU abZ (defScope Pn):=fP
def yF (C:Nat->aM):aN:=
 (bT (i9 (cJ (gm ["int"]) (ah 0)) (T6 (cJ (gm ["bool"]) (ah 0)))))
abbrev RV:List Str:=["self","other"]
abbrev ac0:List Str:=["self","other"]
theorem an4:FnScope RV ac0 (defScope Po):=fP
def Ke (C:Nat->aM):aN:=
 (bT (i9 (cJ (MG 0 [0]) (ah 1)) (ao (cmp .Eq) (j5 "own_text" [0] (ah 0)) (j5 "own_text" [0] (ah 1)))))
abbrev RW:List Str:=["self"]
abbrev ac1:List Str:=["self"]
theorem an5:FnScope RW ac1 (defScope Pp):=fP
def Eh (C:Nat->aM):aN:=
 (bT (bu (b_ [(0,C 32)]) (ai (j5 "own_keys" [0] (ah 0)) av)))
abbrev RX:List Str:=["self"]
abbrev ac2:List Str:=["self"]
theorem an6:FnScope RX ac2 (defScope Pq):=fP
def Kf (C:Nat->aM):aN:=
 (bT (oh [(λ_=>ok (.dat (.str "Board("))),(cJ j6 (vd [(0,C 10)] (ah 0))),(λ_=>ok (.dat (.str " by "))),(cJ j6 (vd [(0,C 34)] (ah 0))),(λ_=>ok (.dat (.str ")")))] Str.empty))
abbrev RY:List Str:=["self"]
abbrev ac3:List Str:=["self"]
theorem an7:FnScope RY ac3 (defScope Pr):=fP
def Kg (C:Nat->aM):aN:=
 (bT (bu (b_ [(0,C 32)]) (ai (ao aO (j5 "own_signs" [0] (ah 0)) (λ_=>ok (.dat (.int 0)))) av)))
abbrev RG:List Str:=["_law_script","_law_hand","_law_plan_here","_law_board_z","_law_keys_here","_law_due","_law_part","_law_found","_law_chord","_law_wide"]
abbrev abM:List Str:=["_law_script"]
theorem amQ:FnScope RG abM (defScope tD):=fP
def oj:Nat->fE
 |0=>ahY "law.<locals>.<lambda>" ["_law_wide"] [] [] (defBody tD) [8] [0,0,1]
 |_=>⟨Str.empty,defArgs tD,G2,defScope tD,[],false,[],[]⟩
def KC:List (List Nat):=[[9]]
def Ec (C:Nat->aM):aN:=
  (aL (bL 1 (bB (C 0) (ai (ah 0) av)))
  (aL (bL 2 (bB (C 2) (ai (ah 1) (ai (dw false (ai (bB (C 17) (ai (ah 1) (ai (λ_=>ok (.dat (.int 3))) (ai (λ_=>ok (.dat (.int 3))) (ai (λ_=>ok (.dat (.int 6))) (ai (λ_=>ok (.dat (.int 4))) av)))))) (ai (bB (C 17) (ai (ah 1) (ai (λ_=>ok (.dat (.int 3))) (ai (λ_=>ok (.dat (.int 3))) (ai (λ_=>ok (.dat (.int 6))) (ai (λ_=>ok (.dat (.int 4))) av)))))) (ai (bB (C 17) (ai (ah 1) (ai (λ_=>ok (.dat (.int 2))) (ai (λ_=>ok (.dat (.int 4))) (ai (λ_=>ok (.dat (.int 8))) (ai (λ_=>ok (.dat (.int 3))) av)))))) av)))) av))))
  (aL (oA 3 4 (bB (C 13) (ai (ah 2) av)) (bB (C 16) (ai (ah 2) av)))
  (aL (bL 5 (cV false [6] (cF (bB (C 19) (ai (bB (C 24) (ai (ah 4) av)) av))) (br 6) (bz (ao (cmp .Eq) (bB (C 25) (ai (ah 2) (ai (ah 6) av))) (dw false av))) (ah 6)))
  (aL (bL 7 (dw true av))
  (aL (z4 7 8 (Bv (bB (λss=>C 3 (.dat .non::ss)) (ai (ah 3) av))))
  (aL (dj (tOr (tNot (bz (bB (C 20) (ai (yQ (ah 7)) (ai (ah 5) av))))) (bz (ao (cmp .NotEq) (ve false (yO (λss=>C 3 (.dat .non::ss)) [0] av (ai (ah 3) av))) (ah 5)))) (bT (λ_=>ok (.dat (.bl false)))) dR)
  (aL (bL 9 (bB (C 2) (ai (ah 1) (ai (dw false (ai (bB (C 21) (ai (λ_=>ok (.dat (.int 3))) (ai (λ_=>ok (.dat (.int 3))) av))) (ai (bB (C 21) (ai (λ_=>ok (.dat (.int 4))) (ai (λ_=>ok (.dat (.int 4))) av))) av))) av))))
  (bT (i9 (ao (cmp .Eq) (ER (A9 KC) (C 22) (yT 0 0)) (dg (ai (λ_=>ok (.dat (.str "TooWide"))) (ai (λ_=>ok (.dat (.int 8))) av)))) (ao (cmp .Eq) (bu (b_ [(0,C 32)]) (ai (ve false (bB (λss=>C 3 (.dat .non::ss)) (ai (bB (C 21) (ai (λ_=>ok (.dat (.int 1))) (ai (λ_=>ok (.dat (.int 4))) av))) av))) av)) (λ_=>ok (.dat (.int 16))))))))))))))
def yG (C:Nat->aM):CE:=
 (ve false (bB (λss=>C 3 (.dat .non::ss)) (ai (ah 0) av)))
abbrev jj (C:Nat->aM)(i m:Nat):Prop:=∀{ss M Q},wp (C i ss M) Q->ss.length=m
structure uV [aT](C:Nat->aM)(D:iw)(k:Nat):Prop where
 bS:ab7 D.mg
 k1:1<=k
 d_len:Aq D k "__len__" 1 [(0,C 32)]
 yI:iU D k "_law_draw" 2 (C 1)
 zI:jj C 1 2
 Ky:iU D k "check_chords" 1 (C 4)
 Oe:jj C 4 1
 NL:AD D k "crossings" [(0,C 6)]
 S5:iU D k "parts_of" 2 (C 5)
 Yq:jj C 5 2
 S6:iU D k "is_safe" 2 (C 7)
 Yr:jj C 7 2
 LC:∃t,D.mg "MOST_CHORD"=some (.int 8 t)
 Zs:yv D "TooWide" 19 "TooWide" "most"
 BE:∀c∈([0]:List Nat),v5 D.K (cy D.K c) "own_keys"
 S7:iU D k "feigned" 2 (C 8)
 Ys:jj C 8 2
 XX:AD D k "need_keys" [(0,C 9)]
 Ov:I_ D k "height" [(0,C 10)]
 SR:iU D k "lines_reached" 3 (C 11)
 Yh:jj C 11 3
 TU:IM D k [(0,C 31)]
 d_in:Aq D k "__contains__" 2 [(0,C 28)]
 Zq:yv D "BadKey" 14 "BadKey" "given"
 yX:∀c∈([0]:List Nat),v5 D.K (cy D.K c) "own_signs"
 XY:AD D k "signs" [(0,C 12)]
 Nh:Rp D k "Board" 0 3 (C 14)
 UU:∃t,D.mg "MOST_TICKS"=some (.int 6 t)
 El:iU D k "check_number" 3 (C 15)
 GW:jj C 15 3
 BQ:∃t,D.mg "MOST_LINES"=some (.int 4 t)
 HB:yv D "BadRow" 18 "BadRow" "at"
 UW:∃t,D.mg "SIGNS"=some (.str ".o><" t)
 Ug:∀c∈([0]:List Nat),v5 D.K (cy D.K c) "own_ticks"
 Ue:∀c∈([0]:List Nat),v5 D.K (cy D.K c) "own_places"
 E8:∀c∈([0]:List Nat),v5 D.K (cy D.K c) "own_text"
 Zr:yv D "BadNumber" 12 "BadNumber" "given"
 SV:iU D k "_law_mixed" 2 (C 18)
 Yj:jj C 18 2
 En:iU D k "_law_pick" 2 (C 2)
 GZ:jj C 2 2
 Kv:iU D k "_law_like" 2 (C 20)
 N_:jj C 20 2
 U4:D.mg "FeintError"=some (.ref (bx D.K "FeintError"))
 U5:D.mg "NoName"=some (.ref (bx D.K "NoName"))
 U6:D.mg "NothingLeft"=some (.ref (bx D.K "NothingLeft"))
 cat:∀c b,Ba KG c=some b->PySem.W.exmAny D.K (.ref (cy D.K c)) ((["FeintError","NoName","NothingLeft"]:List Str).map λx=>.ref (bx D.K x))=some b
 lam:I3 D k (zz C 35 1)
 Ti:QX D k "_law_fields" 1 (C 23)
 Yl:jj C 23 1
 x_code:∀c∈([12,13,14,18,19,28,29]:List Nat),u0 D.K (cy D.K c) "code"
 aaS:∀c∈([12,13,14]:List Nat),u0 D.K (cy D.K c) "given"
 x_at:∀c∈([18]:List Nat),u0 D.K (cy D.K c) "at"
 aaU:∀c∈([19]:List Nat),u0 D.K (cy D.K c) "most"
 aaT:∀c∈([]:List Nat),u0 D.K (cy D.K c) "key"
 aaV:∀c∈([28]:List Nat),u0 D.K (cy D.K c) "name"
 S3:iU D k "_law_reach" 3 (C 26)
 Yo:jj C 26 3
 Ku:iU D k "_law_keys" 1 (C 16)
 N9:jj C 16 1
 Kw:iU D k "_law_sign" 2 (C 27)
 Oa:jj C 27 2
 S4:iU D k "is_pair" 1 (C 29)
 Yp:jj C 29 1
 Kx:iU D k "is_number" 1 (C 30)
 Od:jj C 30 1
 VJ:Rh D "Board" 0 [0]
 YU:I_ D k "width" [(0,C 34)]
 SQ:iU D k "_law_start" 1 (C 0)
 Yg:jj C 0 1
 Em:iU D k "_law_plan" 5 (C 17)
 GX:jj C 17 5
 SS:iU D k "_law_made" 1 (C 13)
 Yi:jj C 13 1
 S0:iU D k "_law_subsets" 1 (C 24)
 Ym:jj C 24 1
 SW:iU D k "_law_by_size" 1 (C 19)
 Yk:jj C 19 1
 S1:iU D k "_law_feigned" 2 (C 25)
 Yn:jj C 25 2
 Eo:QW D xJ k "safe_chords" 1 kL (λss=>C 3 (.dat .non::ss))
 U3:QV D xJ k "safe_chords" ["board"] [0] 1 kL (λss=>C 3 (.dat .non::ss))
 ns:I7 D.K xJ
 Ia:Sd D k "Board" "full" 2 (C 21)
 SY:iU D k "_law_try" 1 (C 22)
 ajS:jj C 22 1
section
variable[aT]
abbrev gk (N:List Str)(s:Stmt)(b:(Nat->aM)->aN):Prop:=∀{C:Nat->aM} {X:Cx} {W:WX} {k:Nat},b7 N (defScope s) (defScope s) X->Takes X W->PassesOwn (model X.prog X.w) X.A X.env X.xe->Room (k+1) X.A->uV C X.iR k->SB X W (defBody s) (b C)
theorem am3:gk Rr OY acG:=@λC X W k h tk po hr P=>by
 obtain⟨hv0,-⟩:=h.v [("_law_script",0)];obtain⟨cj,-⟩:=h.g ["list"];exact(cC (eH (lS true (aG (rK cj (P.bS.all "list" (by decide)) (by rfl) (by decide) (NC false) (aG (PY (aA hv0) P7 (P8 bE)) bA)) (aG bE (aG bE (aG bE (aG bE bA))))))))
theorem am4:gk Ru OZ acH:=@λC X W k h tk po hr P=>by
  obtain⟨hv0,dH,hv1,h_,kY,-⟩:=h.v [("_law_hand",0),("_law_cell",2),("_law_many",1),("_law_digit",3),("_law_seed",4)];obtain⟨hl2,jo,nk,-⟩:=h.l [("_law_cell",2),("_law_digit",3),("_law_seed",4)];obtain⟨cj,c6,-⟩:=h.g ["len","int"];exact(cB (kg (qo (uG (eE (hu hr) (cN (aA hv0) bE) bE) (qp (eE (hu hr) (cN (aA hv0) bE) (gM cj (P.bS.all "len" (by decide)) (by rfl) (by decide) (i6 hr P.d_len) (aG (cN (aA hv0) bE) bA)))))) (cB (gO hl2 (cN (cN (aA hv0) bE) (cN (aA hv0) bE)))
  (cB (z_ (eU (cN (aA hv0) bE) bE) (aA hv0) bE)
  (cC (kg (eE (hu hr) (aA dH) (eU bE bE)) (cC (z_ (aA dH) (aA hv0) bE)) (cC (z_ (eU (rK c6 (P.bS.all "int" (by decide)) (by rfl) (by decide) int_ok (aG (eU (eU (eU (cN (aA hv0) bE) bE) (eU (eU (rK c6 (P.bS.all "int" (by decide)) (by rfl) (by decide) int_ok (aG (aA dH) bA)) bE) bE)) bE) bA)) bE) (aA hv0) bE)))))) lA)
  (cB (kg (eE (hu hr) (cN (aA hv0) bE) bE) (cB (gO jo (eU (rK c6 (P.bS.all "int" (by decide)) (by rfl) (by decide) int_ok (aG (cN (aA hv0) bE) bA)) (aA hv1)))
  (cB (z_ (eU (cN (aA hv0) bE) (aA hv1)) (aA hv0) bE)
  (cC (eH (aA h_))))) lA)
  (cB (z_ (eU (cN (aA hv0) bE) bE) (aA hv0) bE)
  (cB (gO nk (cN (aA hv0) bE))
  (cB (z_ (eU (rK c6 (P.bS.all "int" (by decide)) (by rfl) (by decide) int_ok (aG (eU (eU (eU (eU (aA kY) (aA kY)) (eU (aA kY) bE)) (eU (cN (aA hv0) bE) bE)) bE) bA)) bE) (aA hv0) bE)
  (cC (eH (eU (rK c6 (P.bS.all "int" (by decide)) (by rfl) (by decide) int_ok (aG (eU (eU (cN (aA hv0) bE) bE) (eU (eU (rK c6 (P.bS.all "int" (by decide)) (by rfl) (by decide) int_ok (aG (cN (aA hv0) bE) bA)) bE) bE)) bA)) (aA hv1)))))))))
theorem amr:gk RS Pj Kd:=@λC X W k h tk po hr P=>by
 obtain⟨hv1,hv0,-⟩:=h.v [("_law_things",1),("_law_hand",0)];obtain⟨cj,c6,-⟩:=h.g ["len","_law_draw"];exact(cC (eH (cN (aA hv1) (fM P.yI P.zI hr.dn c6 tk (aG (aA hv0) (aG (gM cj (P.bS.all "len" (by decide)) (by rfl) (by decide) (i6 hr P.d_len) (aG (aA hv1) bA)) bA))))))
theorem amy {C:Nat->aM}{X:Cx}{Fa:gD}{W:WX}{k:Nat}{aH:fN}{cons:Cons}{uX:Addr}{ct:Flt}(h:b7 I5 (defScope vL) (defScope vL) X)(Il:AJ X Fa W)(po:PassesOwn (model X.prog X.w) X.A X.env X.xe)(hr:Room (k+1) X.A)(ug:vZ X.K uX ct cons)(hF:se X Fa)(P:uV C X.iR k):m6 X Fa W aH cons uX (defBody vL) (Kh C ct):=by
 obtain⟨hv0,hv1,dH,-⟩:=h.v [("board",0),("size",1),("chord",2)];obtain⟨hl1,hl2,-⟩:=h.l [("size",1),("chord",2)];obtain⟨cj,c6,fD,jn,q_,-⟩:=h.g ["check_chords","len","range","parts_of","is_safe"];exact(anC (aop (λt lH=>(rR (fM P.Ky P.Oe hr.dn (cj.re t) (Il t lH) (aG (aA (hv0.re t)) bA)))))
 (HV (aad hF (λt lH=>(rN (fD.re t) (P.bS.all "range" (by decide)) (eU (gM (c6.re t) (P.bS.all "len" (by decide)) (by rfl) (by decide) (i6 hr P.d_len) (aG (aA (hv0.re t)) bA)) bE))) (λt lH=>(dJ (hl1.re t))) (HV (aad hF (λt lH=>(jK (fM P.S5 P.Yq hr.dn (jn.re t) (Il t lH) (aG (PR P.NL hr.dn (Il t lH) (aA (hv0.re t))) (aG (aA (hv1.re t)) bA))))) (λt lH=>(dJ (hl2.re t))) (HV (aoo (λt lH=>(Ib (fM P.S6 P.Yr hr.dn (q_.re t) (Il t lH) (aG (aA (hv0.re t)) (aG (aA (dH.re t)) bA))))) (HV (aoq ug (by rw[h.sc];rfl) (by unfold interactive;rw[h.sc];rfl) (λt lH=>(aA (dH.re t))))) anD)) po h.calm)) po h.calm)))
theorem ao4 {C:Nat->aM}{X:Cx}{W:WX}{k:Nat}(h:b7 I5 (defScope vL) (defScope vL) X)(tk:Takes X W)(po:PassesOwn (model X.prog X.w) X.A X.env X.xe)(hr:Room (k+1) X.A)(P:uV C X.iR k):jk X W (Fz (defBody vL)) (OO C):=by
 obtain⟨hv0,-⟩:=h.v [("board",0)];obtain⟨cj,-⟩:=h.g ["check_chords"];exact(rR (fM P.Ky P.Oe hr.dn cj tk (aG (aA hv0) bA)))
theorem amz:gk R1 Pu Kl:=@λC X W k h tk po hr P=>by
 obtain⟨hv0,-⟩:=h.v [("board",0)];obtain⟨cj,c6,fD,-⟩:=h.g ["len","MOST_CHORD","TooWide"];exact(cC (kg (eE (hu hr) (gM cj (P.bS.all "len" (by decide)) (by rfl) (by decide) (i6 hr P.d_len) (aG (aA hv0) bA)) (xU c6 P.LC)) (cC (Aa P.Zs h.calm tk hr P.k1 fD (xU c6 P.LC))) lA))
theorem amA:gk R3 Pw Km:=@λC X W k h tk po hr P=>by
  obtain⟨hv0,dH,-⟩:=h.v [("some",0),("found",2)];obtain⟨hl2,jo,-⟩:=h.l [("found",2),("at",3)];obtain⟨cj,c6,fD,-⟩:=h.g ["len","range","sorted"];exact(cB (gO hl2 (lS false (aG (iP bA) bA)))
  (cB (pB (rN c6 (P.bS.all "range" (by decide)) (gM cj (P.bS.all "len" (by decide)) (by rfl) (by decide) (i6 hr P.d_len) (aG (aA hv0) bA))) (dJ jo) (qn [3] (cC (gO hl2 (eU (aA dH) (mW (ts:=[4]) (own:=[("one",4)]) false (jK (aA dH)) (λ_ _ _ _ _=>by refine jA h λhb=>?_;obtain⟨qY,-⟩:=hb.l [("one",4)];exact(dJ qY)) (by decide) (λ_ _ _ _ _=>by refine jB h λhb=>?_;obtain⟨jT,q7,-⟩:=hb.v [("one",4),("size",1)];obtain⟨l7,-⟩:=hb.g ["len"];exact(rP (eE (hu hr) (gM l7 (P.bS.all "len" (by decide)) (by rfl) (by decide) (i6 hr P.d_len) (aG (aA jT) bA)) (aA q7)))) (λ_ _ _ _ _=>by refine jR h λhb=>?_;obtain⟨jT,w_,q8,-⟩:=hb.v [("one",4),("some",0),("at",3)];exact(iP (alW (aA jT) (aG (cN (aA w_) (aA q8)) bA)))) h.calm (h.nd (by decide+kernel)) (jP h (⟨by decide+kernel,by decide+kernel,by decide+kernel,by decide+kernel,by decide+kernel⟩))))))) po h.calm)
  (cC (eH (gM fD (P.bS.all "sorted" (by decide)) (by rfl) (by decide) (aa3 (by exact hu hr) false) (aG (mW (ts:=[4]) (own:=[("one",4)]) false (jK (aA dH)) (λ_ _ _ _ _=>by refine jA h λhb=>?_;obtain⟨qY,-⟩:=hb.l [("one",4)];exact(dJ qY)) (by decide) (λ_ _ _ _ _=>by refine jB h λhb=>?_;obtain⟨jT,q7,-⟩:=hb.v [("one",4),("size",1)];obtain⟨l7,-⟩:=hb.g ["len"];exact(rP (eE (hu hr) (gM l7 (P.bS.all "len" (by decide)) (by rfl) (by decide) (i6 hr P.d_len) (aG (aA jT) bA)) (aA q7)))) (λ_ _ _ _ _=>by refine jR h λhb=>?_;obtain⟨jT,-⟩:=hb.v [("one",4)];exact(aA jT)) h.calm (h.nd (by decide+kernel)) (jP h (⟨by decide+kernel,by decide+kernel,by decide+kernel,by decide+kernel,by decide+kernel⟩))) bA))))))
theorem amB:gk R4 Px wH:=@λC X W k h tk po hr P=>by
 obtain⟨hv0,-⟩:=h.v [("self",0)];obtain⟨cj,-⟩:=h.g ["list"];exact(cC (eH (rK cj (P.bS.all "list" (by decide)) (by rfl) (by decide) (NC false) (aG (uE P.BE (aA hv0)) bA))))
theorem amC:gk R5 Py Kn:=@λC X W k h tk po hr P=>by
 obtain⟨hv0,hv1,-⟩:=h.v [("board",0),("chord",1)];obtain⟨cj,-⟩:=h.g ["feigned"];exact(cC (eH (pq (hu hr) (fM P.S7 P.Ys hr.dn cj tk (aG (aA hv0) (aG (aA hv1) bA))) (lS false bA))))
theorem amD:gk R6 Pz Ko:=@λC X W k h tk po hr P=>by
  obtain⟨hv0,hv1,h_,dH,-⟩:=h.v [("board",0),("closed",1),("row",3),("found",2)];obtain⟨hl2,jo,nk,-⟩:=h.l [("found",2),("row",3),("columns",4)];obtain⟨cj,c6,-⟩:=h.g ["range","lines_reached"];exact(cB (rR (anw P.XX hr.dn tk (aA hv0) (aG (aA hv1) bA)))
  (cB (gO hl2 (lS true bA))
  (cB (pB (rN cj (P.bS.all "range" (by decide)) (PV P.Ov hr (aA hv0))) (dJ jo) (qn [3,4] (cB (gO nk (fM P.SR P.Yh hr.dn c6 tk (aG (aA hv0) (aG (aA hv1) (aG (aA h_) bA)))))
  (cC (rR (ani (aA dH) (mW (ts:=[5]) (own:=[("key",5)]) false (jK (PR P.NL hr.dn tk (aA hv0))) (λ_ _ _ _ _=>by refine jA h λhb=>?_;obtain⟨qZ,-⟩:=hb.l [("key",5)];exact(dJ qZ)) (by decide) (λ_ _ _ _ _=>by refine jB h λhb=>?_;obtain⟨l8,q8,jT,q7,-⟩:=hb.v [("key",5),("row",3),("columns",4),("closed",1)];exact(rP (qo (uG (eE (hu hr) (cN (aA l8) bE) (aA q8)) (uG (eE (hu hr) (cN (aA l8) bE) (aA jT)) (qp (eE (hu hr) (aA l8) (aA q7)))))))) (λ_ _ _ _ _=>by refine jR h λhb=>?_;obtain⟨l8,-⟩:=hb.v [("key",5)];exact(aA l8)) h.calm (h.nd (by decide+kernel)) (jP h (⟨by decide+kernel,by decide+kernel,by decide+kernel,by decide+kernel,by decide+kernel⟩)))))))) po h.calm)
  (cC (eH (aA dH))))))
theorem am5:gk Rv O0 J0:=@λC X W k h tk po hr P=>by
 obtain⟨hv1,h_,hv0,dH,-⟩:=h.v [("some",1),("key",3),("self",0),("at",2)];obtain⟨jo,hl2,-⟩:=h.l [("key",3),("at",2)];obtain⟨cj,c6,fD,-⟩:=h.g ["enumerate","list","BadKey"];exact(cC (pB (HW cj (P.bS.all "enumerate" (by decide)) (aA hv1)) (qd (jc (dJ hl2) (jc (dJ jo) qc)) h.calm) (qn [2,3] (cC (kg (qo (xX (aoh (hu hr) hr P.TU P.d_in (aA h_) (aA hv0)) (qp (eE (hu hr) (aA h_) (rK c6 (P.bS.all "list" (by decide)) (by rfl) (by decide) (aj5 false) (aG (PY (aA hv1) P7 (P8 (aA dH))) bA)))))) (cC (Aa P.Zq h.calm tk hr P.k1 fD (aA h_))) lA))) po h.calm))
theorem am6:gk Rw O2 Ea:=@λC X W k h tk po hr P=>by
 obtain⟨hv0,-⟩:=h.v [("self",0)];obtain⟨cj,-⟩:=h.g ["len"];exact(cC (eH (gM cj (P.bS.all "len" (by decide)) (by rfl) (by decide) (i6 hr P.d_len) (aG (uE P.yX (aA hv0)) bA))))
theorem am7:gk Rx O3 J2:=@λC X W k h tk po hr P=>by
  obtain⟨dH,hv0,FP,kY,hv1,o4,sQ,h_,hv5,-⟩:=h.v [("row",2),("board",0),("at",6),("rows",4),("closed",1),("key",8),("here",7),("signs",3),("columns",5)];obtain⟨hl6,rf,nk,jo,hl7,hl8,-⟩:=h.l [("at",6),("columns",5),("rows",4),("signs",3),("here",7),("key",8)];obtain⟨cj,-⟩:=h.g ["len"];exact(cB (aob (aG (PR P.XY hr.dn tk (aA hv0)) (aG (lS true (aG (aA dH) bA)) (aG (lS true bA) (aG bE bA)))) (Fo jo (Fo nk (Fo rf (Fo hl6 afd)))) h.calm)
  (cB (aod (eE (hu hr) (aA FP) (gM cj (P.bS.all "len" (by decide)) (by rfl) (by decide) (i6 hr P.d_len) (aG (aA kY) bA))) (qn [7,8] (cB (gO hl7 (cN (aA kY) (aA FP)))
  (cB (pB (jK (aA hv1)) (dJ hl8) (cC (kg (qo (uG (eE (hu hr) (cN (aA o4) bE) (aA sQ)) (uG (eE (hu hr) (cN (cN (aA h_) (aA sQ)) (cN (aA o4) bE)) eV) (qp (eE (hu hr) (cN (aA o4) bE) (aA hv5)))))) (cC (rR (PF (aA hv5) (cN (aA o4) bE)))) lA)) po h.calm)
  (cB (pB (jK (aA hv1)) (dJ hl8) (cC (kg (qo (uG (eE (hu hr) (cN (aA o4) bE) (aA hv5)) (uG (eE (hu hr) (cN (cN (aA h_) (cN (aA o4) bE)) (cN (aA o4) bE)) eV) (qp (eE (hu hr) (cN (aA o4) bE) (aA kY)))))) (cC (rR (PF (aA kY) (cN (aA o4) bE)))) lA)) po h.calm)
  (cC (ao9 hl6 bE)))))) po)
  (cC (eH (aA hv5)))))
theorem am8:gk Ry O4 wC:=@λC X W k h tk po hr P=>by
 obtain⟨hv0,-⟩:=h.v [("self",0)];obtain⟨cj,-⟩:=h.g ["list"];exact(cC (eH (rK cj (P.bS.all "list" (by decide)) (by rfl) (by decide) (NC false) (aG (uE P.yX (aA hv0)) bA))))
theorem am9:gk Rz O5 wD:=@λC X W k h tk po hr P=>by
 obtain⟨hv0,-⟩:=h.v [("_law_plan_here",0)];obtain⟨cj,-⟩:=h.g ["Board"];exact(cC (eH (Z0 true P.Nh hr cj tk (aG (cN (aA hv0) bE) (aG (cN (aA hv0) bE) bA)))))
theorem ama:gk RA O6 J3:=@λC X W k h tk po hr P=>by
  obtain⟨hv1,dH,kY,h_,hv5,o4,hv0,FO,-⟩:=h.v [("ticks",1),("rows",2),("place",4),("at",3),("signs",5),("good",8),("self",0),("shown",10)];obtain⟨rf,nk,jo,hl8,Ma,-⟩:=h.l [("signs",5),("place",4),("at",3),("good",8),("shown",10)];obtain⟨cj,c6,fD,jn,q_,vh,vj,-⟩:=h.g ["MOST_TICKS","check_number","len","MOST_LINES","BadRow","enumerate","all"];exact(cB (rR (fM P.El P.GW hr.dn c6 tk (aG (aA hv1) (aG bE (aG (xU cj P.UU) bA)))))
  (cB (kg (C3 (Qk (hu hr) bE (gM fD (P.bS.all "len" (by decide)) (by rfl) (by decide) (i6 hr P.d_len) (aG (aA dH) bA)) (xU jn P.BQ))) (cC (Aa P.HB h.calm tk hr P.k1 q_ (anx bE))) lA)
  (cB (pB (HW vh (P.bS.all "enumerate" (by decide)) (aA dH)) (qd (jc (dJ jo) (jc (qd (jc (dJ nk) (jc (dJ rf) qc)) h.calm) qc)) h.calm) (qn [3,4,5,8] (cB (kg (qo (xX (C3 (Qk (hu hr) bE (aA kY) (aA hv1))) (qp (eE (hu hr) (aA kY) (mW (ts:=[6,7]) (own:=[("early",6),("other",7)]) false (jK (PY (aA dH) P7 (P8 (aA h_)))) (λ_ _ _ _ _=>by refine jA h λhb=>?_;obtain⟨afH,q6,-⟩:=hb.l [("other",7),("early",6)];exact(qd (jc (dJ q6) (jc (dJ afH) qc)) hb.calm)) (by decide) (λ_ _ _ _ _=>by refine jB h λhb=>?_;exact rO) (λ_ _ _ _ _=>by refine jR h λhb=>?_;obtain⟨jU,-⟩:=hb.v [("early",6)];exact(aA jU)) h.calm (h.nd (by decide+kernel)) (jP h (⟨by decide+kernel,by decide+kernel,by decide+kernel,by decide+kernel,by decide+kernel⟩))))))) (cC (Aa P.HB h.calm tk hr P.k1 q_ (aA h_))) lA)
  (cB (gO hl8 (rJ (anh (hu hr) bE (gM fD (P.bS.all "len" (by decide)) (by rfl) (by decide) (i6 hr P.d_len) (aG (aA hv5) bA)) (xU jn P.BQ)) (uF (gM vj (P.bS.all "all" (by decide)) (by rfl) (by decide) (Sv h.calm) (aG (mW (ts:=[9]) (own:=[("sign",9)]) false (jK (aA hv5)) (λ_ _ _ _ _=>by refine jA h λhb=>?_;obtain⟨LV,-⟩:=hb.l [("sign",9)];exact(dJ LV)) (by decide) (λ_ _ _ _ _=>by refine jB h λhb=>?_;exact rO) (λ_ _ _ _ _=>by refine jR h λhb=>?_;obtain⟨LX,-⟩:=hb.v [("sign",9)];obtain⟨l7,-⟩:=hb.g ["SIGNS"];exact(pq (hu hr) (aA LX) (anm l7 P.UW))) h.calm (h.nd (by decide+kernel)) (jP h (⟨by decide+kernel,by decide+kernel,by decide+kernel,by decide+kernel,by decide+kernel⟩))) bA)))))
  (cC (kg (qo (xX (C3 (Ib (aA o4))) (qp (eE (hu hr) (gM fD (P.bS.all "len" (by decide)) (by rfl) (by decide) (i6 hr P.d_len) (aG (aA hv5) bA)) (gM fD (P.bS.all "len" (by decide)) (by rfl) (by decide) (i6 hr P.d_len) (aG (cN (cN (aA dH) bE) bE) bA)))))) (cC (Aa P.HB h.calm tk hr P.k1 q_ (aA h_))) lA))))) po h.calm)
  (cB (C2 P.Ug (aA hv1) (aA hv0))
  (cB (C2 P.Ue (mW (ts:=[4,5]) (own:=[("place",4),("signs",5)]) false (jK (aA dH)) (λ_ _ _ _ _=>by refine jA h λhb=>?_;obtain⟨qZ,qY,-⟩:=hb.l [("signs",5),("place",4)];exact(qd (jc (dJ qY) (jc (dJ qZ) qc)) hb.calm)) (by decide) (λ_ _ _ _ _=>by refine jB h λhb=>?_;exact rO) (λ_ _ _ _ _=>by refine jR h λhb=>?_;obtain⟨jT,-⟩:=hb.v [("place",4)];exact(aA jT)) h.calm (h.nd (by decide+kernel)) (jP h (⟨by decide+kernel,by decide+kernel,by decide+kernel,by decide+kernel,by decide+kernel⟩))) (aA hv0))
  (cB (C2 P.yX (mW (ts:=[4,5]) (own:=[("place",4),("signs",5)]) false (jK (aA dH)) (λ_ _ _ _ _=>by refine jA h λhb=>?_;obtain⟨qZ,qY,-⟩:=hb.l [("signs",5),("place",4)];exact(qd (jc (dJ qY) (jc (dJ qZ) qc)) hb.calm)) (by decide) (λ_ _ _ _ _=>by refine jB h λhb=>?_;exact rO) (λ_ _ _ _ _=>by refine jR h λhb=>?_;obtain⟨l8,-⟩:=hb.v [("signs",5)];exact(aA l8)) h.calm (h.nd (by decide+kernel)) (jP h (⟨by decide+kernel,by decide+kernel,by decide+kernel,by decide+kernel,by decide+kernel⟩))) (aA hv0))
  (cB (H8 (ts:=[4,5]) (own:=[("place",4),("signs",5)]) false Ma (h.loc (by decide+kernel)) (jK (aA dH)) (λ_ _ _ _ _=>by refine jA h λhb=>?_;obtain⟨qZ,qY,-⟩:=hb.l [("signs",5),("place",4)];exact(qd (jc (dJ qY) (jc (dJ qZ) qc)) hb.calm)) (by decide) (λ_ _ _ _ _=>by refine jB h λhb=>?_;exact rO) (λ_ _ _ _ _=>by refine jR h λhb=>?_;obtain⟨jT,l8,-⟩:=hb.v [("place",4),("signs",5)];exact(PM (kr.cons (z6 (aA jT)) (kr.cons eV (kr.cons (z6 (aA l8)) kr.nil))))) h.calm (jP h (⟨by decide+kernel,by decide+kernel,by decide+kernel,by decide+kernel,by decide+kernel⟩)) (h.Ih (by intro V l6;obtain⟨⟩:=V;cases l6;rfl)))
  (cB (C2 P.E8 (PM (kr.cons (z6 (aA hv1)) (kr.cons eV (kr.cons (z6 (anr eV (aA FO))) kr.nil)))) (aA hv0))
  (cC (C2 P.BE (anu (ts:=[11,5]) (C_:=[12,9]) (own:=[("row",11),("signs",5),("column",12),("sign",9)]) (vs1:=[12,9]) false (HW vh (P.bS.all "enumerate" (by decide)) (uE P.yX (aA hv0))) (λ_ _ _ _ _=>by refine jA h λhb=>?_;obtain⟨qZ,afE,-⟩:=hb.l [("signs",5),("row",11)];exact(qd (jc (dJ afE) (jc (dJ qZ) qc)) hb.calm)) (by decide) (λ_ _ _ _ _=>by refine jB h λhb=>?_;exact rO) (λ_ _ _ _ _=>by refine ad2 h λhb=>?_;obtain⟨l8,-⟩:=hb.v [("signs",5)];obtain⟨l7,-⟩:=hb.g ["enumerate"];exact(HW l7 (P.bS.all "enumerate" (by decide)) (aA l8))) (λ_ _ _ _ _=>by refine jA h λhb=>?_;obtain⟨LV,afF,-⟩:=hb.l [("sign",9),("column",12)];exact(qd (jc (dJ afF) (jc (dJ LV) qc)) hb.calm)) (by decide) (λ_ _ _ _ _=>by refine jB h λhb=>?_;obtain⟨LX,-⟩:=hb.v [("sign",9)];exact(rP (eE (hu hr) (aA LX) eV))) (λ_ _ _ _ _=>by refine jR h λhb=>?_;obtain⟨afK,afL,-⟩:=hb.v [("row",11),("column",12)];exact(iP (aG (aA afK) (aG (aA afL) bA)))) h.calm (h.nd (by decide+kernel)) (jP h (⟨by decide+kernel,by decide+kernel,by decide+kernel,by decide+kernel,by decide+kernel⟩)) (by decide)) (aA hv0)))))))))))
theorem amb:gk RB O7 J4:=@λC X W k h tk po hr P=>by
 obtain⟨hv1,hv0,dH,-⟩:=h.v [("least",1),("number",0),("most",2)];obtain⟨cj,-⟩:=h.g ["BadNumber"];exact(cC (kg (C3 (Qk (hu hr) (aA hv1) (aA hv0) (aA dH))) (cC (Aa P.Zr h.calm tk hr P.k1 cj (aA hv0))) lA))
theorem amc:gk RC O8 Eb:=@λC X W k h tk po hr P=>by
  obtain⟨hv0,dH,hv1,h_,-⟩:=h.v [("_law_plan_here",0),("_law_row",2),("_law_found",1),("_law_signs",3)];obtain⟨hl1,hl2,jo,-⟩:=h.l [("_law_found",1),("_law_row",2),("_law_signs",3)];obtain⟨cj,c6,-⟩:=h.g ["len","range"];exact(cB (gO hl1 (lS false bA))
  (cB (pB (rN c6 (P.bS.all "range" (by decide)) (gM cj (P.bS.all "len" (by decide)) (by rfl) (by decide) (i6 hr P.d_len) (aG (cN (aA hv0) bE) bA))) (dJ hl2) (qn [2,3] (cB (gO jo (cN (cN (cN (aA hv0) bE) (aA dH)) bE))
  (cC (gO hl1 (eU (aA hv1) (mW (ts:=[4]) (own:=[("_law_column",4)]) false (rN c6 (P.bS.all "range" (by decide)) (gM cj (P.bS.all "len" (by decide)) (by rfl) (by decide) (i6 hr P.d_len) (aG (aA h_) bA))) (λ_ _ _ _ _=>by refine jA h λhb=>?_;obtain⟨qY,-⟩:=hb.l [("_law_column",4)];exact(dJ qY)) (by decide) (λ_ _ _ _ _=>by refine jB h λhb=>?_;obtain⟨q8,jT,-⟩:=hb.v [("_law_signs",3),("_law_column",4)];exact(rP (eE (hu hr) (cN (aA q8) (aA jT)) eV))) (λ_ _ _ _ _=>by refine jR h λhb=>?_;obtain⟨nj,jT,-⟩:=hb.v [("_law_row",2),("_law_column",4)];exact(iP (aG (aA nj) (aG (aA jT) bA)))) h.calm (h.nd (by decide+kernel)) (jP h (⟨by decide+kernel,by decide+kernel,by decide+kernel,by decide+kernel,by decide+kernel⟩)))))))) po h.calm)
  (cC (eH (aA hv1)))))
theorem amd:gk RD O9 J5:=@λC X W k h tk po hr P=>by
  obtain⟨hv0,hv1,dH,hv5,kY,sQ,h_,FP,VF,VE,VD,FO,o4,agF,-⟩:=h.v [("_law_hand",0),("_law_high",1),("_law_wide",2),("_law_height",5),("_law_longest",4),("_law_ticks",7),("_law_most",3),("_law_width",6),("_law_left",9),("_law_sign_here",14),("_law_signs",12),("_law_rows",10),("_law_places",8),("_law_row",11)];obtain⟨rf,hl6,hl7,hl8,hl9,Ma,agg,Vt,agh,agi,-⟩:=h.l [("_law_height",5),("_law_width",6),("_law_ticks",7),("_law_places",8),("_law_left",9),("_law_rows",10),("_law_row",11),("_law_signs",12),("_law_column",13),("_law_sign_here",14)];obtain⟨cj,c6,fD,jn,q_,vh,vj,-⟩:=h.g ["_law_draw","max","list","range","_law_mixed","_law_pick","int"];exact(cB (Qe rf hl6 (eU bE (fM P.yI P.zI hr.dn cj tk (aG (aA hv0) (aG (aA hv1) bA)))) (eU bE (fM P.yI P.zI hr.dn cj tk (aG (aA hv0) (aG (aA dH) bA)))) h.calm (by decide) (h.loc (by decide+kernel)) (h.loc (by decide+kernel)) (hw:=h.sw (by intro V l6;obtain⟨⟩:=V;cases l6;rfl)))
  (cB (gO hl7 (eU (aA hv5) (fM P.yI P.zI hr.dn cj tk (aG (aA hv0) (aG (gM c6 (P.bS.all "max" (by decide)) (by rfl) (by decide) (ajr h.calm) (aG bE (aG (eU (eU (aA kY) bE) (aA hv5)) bA))) bA)))))
  (cB (gO hl8 (fM P.SV P.Yj hr.dn q_ tk (aG (aA hv0) (aG (anv false fD (P.bS.all "list" (by decide)) jn (P.bS.all "range" (by decide)) h.calm (aA sQ)) bA))))
  (cB (Qe hl9 Ma (aA h_) (lS true bA) h.calm (by decide) (h.loc (by decide+kernel)) (h.loc (by decide+kernel)) (hw:=h.sw (by intro V l6;obtain⟨⟩:=V;cases l6;rfl)))
  (cB (pB (rN jn (P.bS.all "range" (by decide)) (aA hv5)) (dJ agg) (qn [11,12,13,14] (cB (gO Vt eV)
  (cB (pB (rN jn (P.bS.all "range" (by decide)) (aA FP)) (dJ agh) (qn [13,14] (cB (gO agi (ZZ (eE (hu hr) (aA VF) bE) (fM P.En P.GZ hr.dn vh tk (aG (aA hv0) (aG (lS false (aG eV (aG eV (aG eV (aG eV (aG eV (aG eV (aG eV bA)))))))) bA))) eV))
  (cB (gO hl9 (eU (aA VF) (rK vj (P.bS.all "int" (by decide)) (by rfl) (by decide) int_ok (aG (pq (hu hr) (aA VE) eV) bA))))
  (cC (gO Vt (eU (aA VD) (aA VE))))))) po h.calm)
  (cC (rR (PF (aA FO) (iP (aG (cN (aA o4) (aA agF)) (aG (aA VD) bA))))))))) po h.calm)
  (cC (eH (iP (aG (aA sQ) (aG (aA FO) bA))))))))))
theorem ame:gk RE O_ J6:=@λC X W k h tk po hr P=>by
  obtain⟨hv1,dH,hv0,h_,-⟩:=h.v [("_law_things",1),("_law_found",2),("_law_hand",0),("_law_thing",3)];obtain⟨hl2,jo,-⟩:=h.l [("_law_found",2),("_law_thing",3)];obtain⟨cj,c6,-⟩:=h.g ["len","_law_draw"];exact(cB (gO hl2 (lS true bA))
  (cB (pB (jK (aA hv1)) (dJ jo) (qn [3] (cC (rR (ano (aA dH) (fM P.yI P.zI hr.dn c6 tk (aG (aA hv0) (aG (eU (gM cj (P.bS.all "len" (by decide)) (by rfl) (by decide) (i6 hr P.d_len) (aG (aA dH) bA)) bE) bA))) (aA h_))))) po h.calm)
  (cC (eH (aA dH)))))
theorem amg:gk RH Pa J7:=@λC X W k h tk po hr P=>by
 obtain⟨hv0,-⟩:=h.v [("_law_parts",0)];obtain⟨cj,-⟩:=h.g ["sorted"];exact(cC (eH (mW (ts:=[1,2]) (own:=[("_law_size",1),("_law_part",2)]) false (jK (gM cj (P.bS.all "sorted" (by decide)) (by rfl) (by decide) (aa3 (by exact hu hr) false) (aG (mW (ts:=[2]) (own:=[("_law_part",2)]) false (jK (aA hv0)) (λ_ _ _ _ _=>by refine jA h λhb=>?_;obtain⟨w9,-⟩:=hb.l [("_law_part",2)];exact(dJ w9)) (by decide) (λ_ _ _ _ _=>by refine jB h λhb=>?_;exact rO) (λ_ _ _ _ _=>by refine jR h λhb=>?_;obtain⟨nj,-⟩:=hb.v [("_law_part",2)];obtain⟨l7,-⟩:=hb.g ["len"];exact(iP (aG (gM l7 (P.bS.all "len" (by decide)) (by rfl) (by decide) (i6 hr P.d_len) (aG (aA nj) bA)) (aG (aA nj) bA)))) h.calm (h.nd (by decide+kernel)) (jP h (⟨by decide+kernel,by decide+kernel,by decide+kernel,by decide+kernel,by decide+kernel⟩))) bA))) (λ_ _ _ _ _=>by refine jA h λhb=>?_;obtain⟨w9,afD,-⟩:=hb.l [("_law_part",2),("_law_size",1)];exact(qd (jc (dJ afD) (jc (dJ w9) qc)) hb.calm)) (by decide) (λ_ _ _ _ _=>by refine jB h λhb=>?_;exact rO) (λ_ _ _ _ _=>by refine jR h λhb=>?_;obtain⟨nj,-⟩:=hb.v [("_law_part",2)];exact(aA nj)) h.calm (h.nd (by decide+kernel)) (jP h (⟨by decide+kernel,by decide+kernel,by decide+kernel,by decide+kernel,by decide+kernel⟩)))))
theorem amh:gk RI Pb Ed:=@λC X W k h tk po hr P=>by
  obtain⟨hv0,hv1,-⟩:=h.v [("_law_found",0),("_law_due",1)];obtain⟨cj,c6,fD,jn,q_,vh,vj,ze,FD,-⟩:=h.g ["isinstance","list","tuple","len","range","all","bool","int","str"];exact(cB (kg (qo (xX (eE (hu hr) (aA hv0) HS) (qp (eE (hu hr) (aA hv1) HS)))) (cC (eH (rJ (pq (hu hr) (aA hv0) HS) (uF (pq (hu hr) (aA hv1) HS))))) lA)
  (cB (kg (Ib (anq cj (P.bS.all "isinstance" (by decide)) c6 (P.bS.all "list" (by decide)) (by rfl) (by decide) fD (P.bS.all "tuple" (by decide)) (by rfl) (by decide) (aA hv1))) (cB (kg (qo (xX (eE (hu hr) (pA cj (P.bS.all "isinstance" (by decide)) c6 (P.bS.all "list" (by decide)) (by rfl) (by decide) (aA hv0)) (pA cj (P.bS.all "isinstance" (by decide)) c6 (P.bS.all "list" (by decide)) (by rfl) (by decide) (aA hv1))) (qp (eE (hu hr) (pA cj (P.bS.all "isinstance" (by decide)) fD (P.bS.all "tuple" (by decide)) (by rfl) (by decide) (aA hv0)) (pA cj (P.bS.all "isinstance" (by decide)) fD (P.bS.all "tuple" (by decide)) (by rfl) (by decide) (aA hv1)))))) (cC (eH PL)) lA)
  (cC (eH (rJ (pq (hu hr) (gM jn (P.bS.all "len" (by decide)) (by rfl) (by decide) (i6 hr P.d_len) (aG (aA hv0) bA)) (gM jn (P.bS.all "len" (by decide)) (by rfl) (by decide) (i6 hr P.d_len) (aG (aA hv1) bA))) (uF (gM vh (P.bS.all "all" (by decide)) (by rfl) (by decide) (Sv h.calm) (aG (mW (ts:=[2]) (own:=[("_law_k",2)]) false (rN q_ (P.bS.all "range" (by decide)) (gM jn (P.bS.all "len" (by decide)) (by rfl) (by decide) (i6 hr P.d_len) (aG (aA hv1) bA))) (λ_ _ _ _ _=>by refine jA h λhb=>?_;obtain⟨w9,-⟩:=hb.l [("_law_k",2)];exact(dJ w9)) (by decide) (λ_ _ _ _ _=>by refine jB h λhb=>?_;exact rO) (λ_ _ _ _ _=>by refine jR h λhb=>?_;obtain⟨w_,nj,q7,-⟩:=hb.v [("_law_found",0),("_law_k",2),("_law_due",1)];obtain⟨l7,-⟩:=hb.g ["_law_like"];exact(fM P.Kv P.N_ hr.dn l7 Ik (aG (cN (aA w_) (aA nj)) (aG (cN (aA q7) (aA nj)) bA)))) h.calm (h.nd (by decide+kernel)) (jP h (⟨by decide+kernel,by decide+kernel,by decide+kernel,by decide+kernel,by decide+kernel⟩))) bA))))))) lA)
  (cB (kg (qo (xX (eE (hu hr) (pA cj (P.bS.all "isinstance" (by decide)) vj (P.bS.all "bool" (by decide)) (by rfl) (by decide) (aA hv0)) (pA cj (P.bS.all "isinstance" (by decide)) vj (P.bS.all "bool" (by decide)) (by rfl) (by decide) (aA hv1))) (qp (eE (hu hr) (pA cj (P.bS.all "isinstance" (by decide)) ze (P.bS.all "int" (by decide)) (by rfl) (by decide) (aA hv0)) (pA cj (P.bS.all "isinstance" (by decide)) ze (P.bS.all "int" (by decide)) (by rfl) (by decide) (aA hv1)))))) (cC (eH PL)) lA)
  (cC (eH (rJ (pq (hu hr) (pA cj (P.bS.all "isinstance" (by decide)) FD (P.bS.all "str" (by decide)) (by rfl) (by decide) (aA hv0)) (pA cj (P.bS.all "isinstance" (by decide)) FD (P.bS.all "str" (by decide)) (by rfl) (by decide) (aA hv1))) (uF (pq (hu hr) (aA hv0) (aA hv1)))))))))
theorem ami:gk RJ Pc wF:=@λC X W k h tk po hr P=>by
  obtain⟨hv0,hv1,-⟩:=h.v [("height",0),("width",1)];obtain⟨cj,c6,fD,jn,-⟩:=h.g ["MOST_LINES","check_number","range","Board"];exact(cB (rR (fM P.El P.GW hr.dn c6 tk (aG (aA hv0) (aG bE (aG (xU cj P.BQ) bA)))))
  (cB (rR (fM P.El P.GW hr.dn c6 tk (aG (aA hv1) (aG bE (aG (xU cj P.BQ) bA)))))
  (cC (eH (Z0 true P.Nh hr jn tk (aG (aA hv0) (aG (mW (ts:=[2]) (own:=[("row",2)]) false (rN fD (P.bS.all "range" (by decide)) (aA hv0)) (λ_ _ _ _ _=>by refine jA h λhb=>?_;obtain⟨w9,-⟩:=hb.l [("row",2)];exact(dJ w9)) (by decide) (λ_ _ _ _ _=>by refine jB h λhb=>?_;exact rO) (λ_ _ _ _ _=>by refine jR h λhb=>?_;obtain⟨nj,q7,-⟩:=hb.v [("row",2),("width",1)];exact(iP (aG (aA nj) (aG (eU eV (aA q7)) bA)))) h.calm (h.nd (by decide+kernel)) (jP h (⟨by decide+kernel,by decide+kernel,by decide+kernel,by decide+kernel,by decide+kernel⟩))) bA)))))))
theorem amj {C:Nat->aM}{X:Cx}{W:WX}{k:Nat}(h:b7 RK (defScope CV) (defScope CV) X)(tx:DQ X)(tk:Takes X W)(po:PassesOwn (model X.prog X.w) X.A X.env X.xe)(hr:Room (k+1) X.A)(P:uV C X.iR k):SB X W (defBody CV) (Ef C):=by
 obtain⟨hv0,hv1,-⟩:=h.v [("_law_ask",0),("_law_e",1)];obtain⟨cj,c6,fD,jn,-⟩:=h.g ["FeintError","NoName","NothingLeft","_law_fields"];exact(cC (aoc tx.ex tx.st tx.fr (h.nd (by decide+kernel)) (ak5 h.q (by decide+kernel)) (ahr h.q (by decide+kernel)) (kind_ok h.q (by decide+kernel)) (aoQ cj P.U4 c6 P.U5 fD P.U6) tk P.cat (λW pn xe tk po=>cC (eH (iP (aG eV (aG (ang P.lam hr.dn tk (aA hv0.tr)) bA))))) (λa pn=>cC (eH (eU (iP (aG (rL P.x_code (aA hv1.Ig)) bA)) (anf P.Ti P.Yl (roomH_mark hr.dn) jn.Ig aoM (aG (aA hv1.Ig) bA)))))))
theorem amk {C:Nat->aM}{X:Cx}{W:WX}{k:Nat}(h:lC RL (defScope HP) X)(tk:Takes X W)(hr:L2H.RoomH (k+1) X.A)(P:uV C X.iR k):SB X W (defBody HP) (yE C):=by
  obtain⟨hv0,-⟩:=h.v [("_law_e",0)];exact(cB (kg (eE (B6 hr) (rL P.x_code (aA hv0)) (iP (aG eV (aG eV (aG eV (aG eV (aG eV (aG eV (aG eV bA))))))))) (cC (eH (iP (aG (rL P.aaS (aA hv0)) bA)))) lA)
  (cB (kg (eE (B6 hr) (rL P.x_code (aA hv0)) (iP (aG eV (aG eV bA)))) (cC (eH (iP (aG (rL P.x_at (aA hv0)) bA)))) lA)
  (cB (kg (eE (B6 hr) (rL P.x_code (aA hv0)) (iP (aG eV (aG eV bA)))) (cC (eH (iP (aG (rL P.aaU (aA hv0)) bA)))) lA)
  (cB (kg (eE (B6 hr) (rL P.x_code (aA hv0)) (iP (aG eV (aG eV bA)))) (cC (eH (iP (aG (rL P.aaT (aA hv0)) bA)))) lA)
  (cC (eH (ZZ (eE (B6 hr) (rL P.x_code (aA hv0)) (iP (aG eV (aG eV (aG eV bA))))) (iP (aG (rL P.aaV (aA hv0)) bA)) (iP bA))))))))
theorem aml:gk RM Pd J8:=@λC X W k h tk po hr P=>by
  obtain⟨hv0,hv1,-⟩:=h.v [("_law_things",0),("_law_found",1)];obtain⟨hl1,hl2,-⟩:=h.l [("_law_found",1),("_law_thing",2)];exact(cB (gO hl1 (lS false (aG (iP bA) bA)))
  (cB (pB (jK (aA hv0)) (dJ hl2) (qn [2] (cC (gO hl1 (eU (aA hv1) (mW (ts:=[3]) (own:=[("_law_part",3)]) false (jK (aA hv1)) (λ_ _ _ _ _=>by refine jA h λhb=>?_;obtain⟨afG,-⟩:=hb.l [("_law_part",3)];exact(dJ afG)) (by decide) (λ_ _ _ _ _=>by refine jB h λhb=>?_;exact rO) (λ_ _ _ _ _=>by refine jR h λhb=>?_;obtain⟨q8,nj,-⟩:=hb.v [("_law_part",3),("_law_thing",2)];exact(eU (aA q8) (iP (aG (aA nj) bA)))) h.calm (h.nd (by decide+kernel)) (jP h (⟨by decide+kernel,by decide+kernel,by decide+kernel,by decide+kernel,by decide+kernel⟩))))))) po h.calm)
  (cC (eH (aA hv1)))))
theorem amm:gk RN Pe J9:=@λC X W k h tk po hr P=>by
  obtain⟨hv0,hv1,h_,dH,-⟩:=h.v [("_law_plan_here",0),("_law_chord",1),("_law_row",3),("_law_found",2)];obtain⟨hl2,jo,nk,-⟩:=h.l [("_law_found",2),("_law_row",3),("_law_columns",4)];obtain⟨cj,c6,fD,jn,-⟩:=h.g ["len","range","_law_reach","_law_keys"];exact(cB (gO hl2 (lS false bA))
  (cB (pB (rN c6 (P.bS.all "range" (by decide)) (gM cj (P.bS.all "len" (by decide)) (by rfl) (by decide) (i6 hr P.d_len) (aG (cN (aA hv0) bE) bA))) (dJ jo) (qn [3,4] (cB (gO nk (fM P.S3 P.Yo hr.dn fD tk (aG (aA hv0) (aG (aA hv1) (aG (aA h_) bA)))))
  (cC (gO hl2 (eU (aA dH) (mW (ts:=[5]) (own:=[("_law_key",5)]) false (jK (fM P.Ku P.N9 hr.dn jn tk (aG (aA hv0) bA))) (λ_ _ _ _ _=>by refine jA h λhb=>?_;obtain⟨qZ,-⟩:=hb.l [("_law_key",5)];exact(dJ qZ)) (by decide) (λ_ _ _ _ _=>by refine jB h λhb=>?_;obtain⟨l8,q8,jT,q7,-⟩:=hb.v [("_law_key",5),("_law_row",3),("_law_columns",4),("_law_chord",1)];exact(rP (qo (uG (eE (hu hr) (cN (aA l8) bE) (aA q8)) (uG (eE (hu hr) (cN (aA l8) bE) (aA jT)) (qp (eE (hu hr) (aA l8) (aA q7)))))))) (λ_ _ _ _ _=>by refine jR h λhb=>?_;obtain⟨l8,-⟩:=hb.v [("_law_key",5)];exact(aA l8)) h.calm (h.nd (by decide+kernel)) (jP h (⟨by decide+kernel,by decide+kernel,by decide+kernel,by decide+kernel,by decide+kernel⟩)))))))) po h.calm)
  (cC (eH (aA dH)))))
theorem amn:gk RO Pf J_:=@λC X W k h tk po hr P=>by
  obtain⟨dH,hv1,kY,hv5,h_,sQ,-⟩:=h.v [("_law_row",2),("_law_closed",1),("_law_columns",4),("_law_forth",5),("_law_rows",3),("_law_back",7)];obtain⟨nk,jo,rf,hl7,hl8,-⟩:=h.l [("_law_columns",4),("_law_rows",3),("_law_forth",5),("_law_back",7),("_law_turn",8)];obtain⟨cj,c6,fD,-⟩:=h.g ["range","sorted","set"];exact(cB (aa6 (qd (jc (dJ jo) (jc (dJ nk) qc)) h.calm) (iP (aG (lS false (aG (aA dH) bA)) (aG (lS false bA) bA))) (hw:=h.sw (by intro V l6;obtain⟨⟩:=V;cases l6;rfl)))
  (cB (H8 (ts:=[6]) (own:=[("_law_key",6)]) false rf (h.loc (by decide+kernel)) (jK (aA hv1)) (λ_ _ _ _ _=>by refine jA h λhb=>?_;obtain⟨q6,-⟩:=hb.l [("_law_key",6)];exact(dJ q6)) (by decide) (λ_ _ _ _ _=>by refine jB h λhb=>?_;obtain⟨w_,jU,-⟩:=hb.v [("_law_plan_here",0),("_law_key",6)];obtain⟨l7,-⟩:=hb.g ["_law_sign"];exact(rP (eE (hu hr) (fM P.Kw P.Oa hr.dn l7 Ik (aG (aA w_) (aG (aA jU) bA))) eV))) (λ_ _ _ _ _=>by refine jR h λhb=>?_;obtain⟨jU,-⟩:=hb.v [("_law_key",6)];exact(aA jU)) h.calm (jP h (⟨by decide+kernel,by decide+kernel,by decide+kernel,by decide+kernel,by decide+kernel⟩)) (h.Ih (by intro V l6;obtain⟨⟩:=V;cases l6;rfl)))
  (cB (H8 (ts:=[6]) (own:=[("_law_key",6)]) false hl7 (h.loc (by decide+kernel)) (jK (aA hv1)) (λ_ _ _ _ _=>by refine jA h λhb=>?_;obtain⟨q6,-⟩:=hb.l [("_law_key",6)];exact(dJ q6)) (by decide) (λ_ _ _ _ _=>by refine jB h λhb=>?_;obtain⟨w_,jU,-⟩:=hb.v [("_law_plan_here",0),("_law_key",6)];obtain⟨l7,-⟩:=hb.g ["_law_sign"];exact(rP (eE (hu hr) (fM P.Kw P.Oa hr.dn l7 Ik (aG (aA w_) (aG (aA jU) bA))) eV))) (λ_ _ _ _ _=>by refine jR h λhb=>?_;obtain⟨jU,-⟩:=hb.v [("_law_key",6)];exact(aA jU)) h.calm (jP h (⟨by decide+kernel,by decide+kernel,by decide+kernel,by decide+kernel,by decide+kernel⟩)) (h.Ih (by intro V l6;obtain⟨⟩:=V;cases l6;rfl)))
  (cB (pB (rN cj (P.bS.all "range" (by decide)) bE) (dJ hl8) (qn [8] (cB (gO nk (eU (aA kY) (mW (ts:=[6]) (own:=[("_law_key",6)]) false (jK (aA hv5)) (λ_ _ _ _ _=>by refine jA h λhb=>?_;obtain⟨q6,-⟩:=hb.l [("_law_key",6)];exact(dJ q6)) (by decide) (λ_ _ _ _ _=>by refine jB h λhb=>?_;obtain⟨jU,q8,-⟩:=hb.v [("_law_key",6),("_law_rows",3)];exact(rP (eE (hu hr) (cN (aA jU) bE) (aA q8)))) (λ_ _ _ _ _=>by refine jR h λhb=>?_;obtain⟨jU,-⟩:=hb.v [("_law_key",6)];exact(cN (aA jU) bE)) h.calm (h.nd (by decide+kernel)) (jP h (⟨by decide+kernel,by decide+kernel,by decide+kernel,by decide+kernel,by decide+kernel⟩)))))
  (cB (gO jo (eU (aA h_) (mW (ts:=[6]) (own:=[("_law_key",6)]) false (jK (aA sQ)) (λ_ _ _ _ _=>by refine jA h λhb=>?_;obtain⟨q6,-⟩:=hb.l [("_law_key",6)];exact(dJ q6)) (by decide) (λ_ _ _ _ _=>by refine jB h λhb=>?_;obtain⟨jU,jT,-⟩:=hb.v [("_law_key",6),("_law_columns",4)];exact(rP (eE (hu hr) (cN (aA jU) bE) (aA jT)))) (λ_ _ _ _ _=>by refine jR h λhb=>?_;obtain⟨jU,-⟩:=hb.v [("_law_key",6)];exact(cN (aA jU) bE)) h.calm (h.nd (by decide+kernel)) (jP h (⟨by decide+kernel,by decide+kernel,by decide+kernel,by decide+kernel,by decide+kernel⟩)))))
  (cC (aa6 (qd (jc (dJ nk) (jc (dJ jo) qc)) h.calm) (iP (aG (Z3 false c6 (P.bS.all "sorted" (by decide)) fD (P.bS.all "set" (by decide)) (aA kY) (hc:=h.calm)) (aG (Z3 false c6 (P.bS.all "sorted" (by decide)) fD (P.bS.all "set" (by decide)) (aA h_) (hc:=h.calm)) bA))) (hw:=h.sw (by intro V l6;obtain⟨⟩:=V;cases l6;rfl))))))) po h.calm)
  (cC (eH (aA kY)))))))
theorem amo:gk RP Pg Ka:=@λC X W k h tk po hr P=>by
 obtain⟨hv0,hv1,-⟩:=h.v [("_law_plan_here",0),("_law_key",1)];exact(cC (eH (cN (cN (cN (cN (aA hv0) bE) (cN (aA hv1) bE)) bE) (cN (aA hv1) bE))))
theorem amq:gk RQ Ph Kc:=@λC X W k h tk po hr P=>by
 obtain⟨hv1,hv0,-⟩:=h.v [("key",1),("self",0)];obtain⟨cj,-⟩:=h.g ["is_pair"];exact(cC (eH (rJ (fM P.S4 P.Yp hr.dn cj tk (aG (aA hv1) bA)) (uF (pq (hu hr) (aA hv1) (uE P.BE (aA hv0)))))))
theorem ams:gk RT Pk wG:=@λC X W k h tk po hr P=>by
 obtain⟨hv0,-⟩:=h.v [("value",0)];obtain⟨cj,c6,fD,jn,-⟩:=h.g ["isinstance","tuple","len","is_number"];exact(cC (eH (rJ (pA cj (P.bS.all "isinstance" (by decide)) c6 (P.bS.all "tuple" (by decide)) (by rfl) (by decide) (aA hv0)) (rJ (pq (hu hr) (gM fD (P.bS.all "len" (by decide)) (by rfl) (by decide) (i6 hr P.d_len) (aG (aA hv0) bA)) bE) (rJ (fM P.Kx P.Od hr.dn jn tk (aG (cN (aA hv0) bE) bA)) (uF (fM P.Kx P.Od hr.dn jn tk (aG (cN (aA hv0) bE) bA))))))))
theorem amt:gk RU Pn yF:=@λC X W k h tk po hr P=>by
 obtain⟨hv0,-⟩:=h.v [("value",0)];obtain⟨cj,c6,fD,-⟩:=h.g ["isinstance","int","bool"];exact(cC (eH (rJ (pA cj (P.bS.all "isinstance" (by decide)) c6 (P.bS.all "int" (by decide)) (by rfl) (by decide) (aA hv0)) (uF (anz (pA cj (P.bS.all "isinstance" (by decide)) fD (P.bS.all "bool" (by decide)) (by rfl) (by decide) (aA hv0)))))))
theorem amu:gk RV Po Ke:=@λC X W k h tk po hr P=>by
 obtain⟨hv1,hv0,-⟩:=h.v [("other",1),("self",0)];obtain⟨cj,c6,-⟩:=h.g ["isinstance","Board"];exact(cC (eH (rJ (anp cj (P.bS.all "isinstance" (by decide)) c6 P.VJ (aA hv1)) (uF (pq (hu hr) (uE P.E8 (aA hv0)) (uE P.E8 (aA hv1)))))))
theorem amv:gk RW Pp Eh:=@λC X W k h tk po hr P=>by
 obtain⟨hv0,-⟩:=h.v [("self",0)];obtain⟨cj,-⟩:=h.g ["len"];exact(cC (eH (gM cj (P.bS.all "len" (by decide)) (by rfl) (by decide) (i6 hr P.d_len) (aG (uE P.BE (aA hv0)) bA))))
theorem amw:gk RX Pq Kf:=@λC X W k h tk po hr P=>by
 obtain⟨hv0,-⟩:=h.v [("self",0)];exact(cC (eH (PM (kr.cons eV (kr.cons (z6 (PV P.Ov hr (aA hv0))) (kr.cons eV (kr.cons (z6 (PV P.YU hr (aA hv0))) (kr.cons eV kr.nil))))))))
theorem amx:gk RY Pr Kg:=@λC X W k h tk po hr P=>by
 obtain⟨hv0,-⟩:=h.v [("self",0)];obtain⟨cj,-⟩:=h.g ["len"];exact(cC (eH (gM cj (P.bS.all "len" (by decide)) (by rfl) (by decide) (i6 hr P.d_len) (aG (cN (uE P.yX (aA hv0)) bE) bA))))
theorem amf {C:Nat->aM}{X:Cx}{W:WX}{k:Nat}(h:b7 RG (defScope tD) (defScope tD) X)(DL:Az "law.<locals>." (defScope tD) X)(kt:aT.txt=oj)(eZ:X.stack=X.env::X.outer/\X.env.frame=some X.env.locals)(tk:Takes X W)(po:PassesOwn (model X.prog X.w) X.A X.env X.xe)(hr:Room (k+1) X.A)(P:uV C X.iR k):SB X W (defBody tD) (Ec C):=by
  obtain⟨hv0,hv1,dH,kY,h_,sQ,hv5,-⟩:=h.v [("_law_script",0),("_law_hand",1),("_law_plan_here",2),("_law_keys_here",4),("_law_board_z",3),("_law_found",7),("_law_due",5)];obtain⟨hl1,hl2,jo,nk,rf,hl7,hl8,hl9,-⟩:=h.l [("_law_hand",1),("_law_plan_here",2),("_law_board_z",3),("_law_keys_here",4),("_law_due",5),("_law_found",7),("_law_chord",8),("_law_wide",9)];obtain⟨cj,c6,fD,jn,q_,vh,vj,ze,FD,Vn,L8,ag1,ag2,-⟩:=h.g ["_law_start","_law_plan","_law_pick","_law_made","_law_keys","_law_subsets","_law_by_size","safe_chords","_law_like","list","Board","_law_try","len"];exact(cB (gO hl1 (fM P.SQ P.Yg hr.dn cj tk (aG (aA hv0) bA)))
  (cB (gO hl2 (fM P.En P.GZ hr.dn fD tk (aG (aA hv1) (aG (lS false (aG (fM P.Em P.GX hr.dn c6 tk (aG (aA hv1) (aG bE (aG bE (aG bE (aG bE bA)))))) (aG (fM P.Em P.GX hr.dn c6 tk (aG (aA hv1) (aG bE (aG bE (aG bE (aG bE bA)))))) (aG (fM P.Em P.GX hr.dn c6 tk (aG (aA hv1) (aG bE (aG bE (aG bE (aG bE bA)))))) bA)))) bA))))
  (cB (Qe jo nk (fM P.SS P.Yi hr.dn jn tk (aG (aA dH) bA)) (fM P.Ku P.N9 hr.dn q_ tk (aG (aA dH) bA)) h.calm (by decide) (h.loc (by decide+kernel)) (h.loc (by decide+kernel)) (hw:=h.sw (by intro V l6;obtain⟨⟩:=V;cases l6;rfl)))
  (cB (H8 (ts:=[6]) (own:=[("_law_part",6)]) false rf (h.loc (by decide+kernel)) (jK (fM P.SW P.Yk hr.dn vj tk (aG (fM P.S0 P.Ym hr.dn vh tk (aG (aA kY) bA)) bA))) (λ_ _ _ _ _=>by refine jA h λhb=>?_;obtain⟨q6,-⟩:=hb.l [("_law_part",6)];exact(dJ q6)) (by decide) (λ_ _ _ _ _=>by refine jB h λhb=>?_;obtain⟨nj,jU,-⟩:=hb.v [("_law_plan_here",2),("_law_part",6)];obtain⟨l7,-⟩:=hb.g ["_law_feigned"];exact(rP (eE (hu hr) (fM P.S1 P.Yn hr.dn l7 Ik (aG (aA nj) (aG (aA jU) bA))) (lS false bA)))) (λ_ _ _ _ _=>by refine jR h λhb=>?_;obtain⟨jU,-⟩:=hb.v [("_law_part",6)];exact(aA jU)) h.calm (jP h (⟨by decide+kernel,by decide+kernel,by decide+kernel,by decide+kernel,by decide+kernel⟩)) (h.Ih (by intro V l6;obtain⟨⟩:=V;cases l6;rfl)))
  (cB (gO hl7 (lS true bA))
  (cB (aoa (yC.toF (QM P.Eo hr ze (aG (aA h_) bA))) hr h.calm hl8 (by rw[h.sc];decide+kernel) sQ (by rw[h.sc];decide+kernel) (by decide) eZ (hint:=by unfold interactive;rw[h.sc];rfl))
  (cB (kg (qo (xX (C3 (Ib (fM P.Kv P.N_ hr.dn FD tk (aG (anj (aA sQ)) (aG (aA hv5) bA))))) (qp (eE (hu hr) (PN (aq8 P.U3 hr ze (anJ (aA h_) anK) rfl) P.ns hr tk Vn (P.bS.all "list" (by decide))) (aA hv5))))) (cC (eH PL)) lA)
  (cB (gO hl9 (fM P.En P.GZ hr.dn fD tk (aG (aA hv1) (aG (lS false (aG (PZ P.Ia hr.dn L8 tk (aG bE (aG bE bA))) (aG (PZ P.Ia hr.dn L8 tk (aG bE (aG bE bA))) bA))) bA))))
  (cC (eH (rJ (pq (hu hr) (ane P.SY (ad0 h.q DL kt (by decide+kernel)) DL.fn hr.dn ag1 (ant DL.mkr (ahW (T:=oj 0) DL kt rfl rfl (by decide+kernel)) (by rw[kt];rfl))) (iP (aG eV (aG bE bA)))) (uF (pq (hu hr) (gM ag2 (P.bS.all "len" (by decide)) (by rfl) (by decide) (i6 hr P.d_len) (aG (PN (QM P.Eo hr ze (aG (PZ P.Ia hr.dn L8 tk (aG bE (aG bE bA))) bA)) P.ns hr tk Vn (P.bS.all "list" (by decide))) bA)) bE)))))))))))))
theorem anO {C:Nat->aM}{X:Cx}{W:WX}{k:Nat}(h:b7 (oj 0).N (oj 0).scope (oj 0).scope X)(tk:Takes X W)(po:PassesOwn (model X.prog X.w) X.A X.env X.xe)(hr:Room (k+1) X.A)(P:uV C X.iR k):bf X W (oj 0).body (yG C):=by
 obtain⟨hv0,-⟩:=h.v [("_law_wide",0)];obtain⟨cj,c6,-⟩:=h.g ["safe_chords","list"];exact(PN (QM P.Eo hr cj (aG (aA hv0) bA)) P.ns hr tk c6 (P.bS.all "list" (by decide)))
end
def bh (C:Nat->aM):Nat->aM
 |0=>xO
 |1=>gK
 |2=>aR false 2 2 (Kd C)
 |3=>BN xJ 1 3 (Kh C) (OO C)
 |4=>aR false 1 1 (Kl C)
 |5=>aR false 2 5 (Km C)
 |6=>aR false 1 1 (wH C)
 |7=>aR false 2 2 (Kn C)
 |8=>aR false 2 6 (Ko C)
 |9=>aR false 2 4 (J0 C)
 |10=>aR false 1 1 (Ea C)
 |11=>aR false 3 9 (J2 C)
 |12=>aR false 1 1 (wC C)
 |13=>aR false 1 1 (wD C)
 |14=>aR false 3 13 (J3 C)
 |15=>aR false 3 3 (J4 C)
 |16=>aR false 1 5 (Eb C)
 |17=>aR false 5 15 (J5 C)
 |18=>aR false 2 4 (J6 C)
 |19=>aR false 1 3 (J7 C)
 |20=>aR false 2 3 (Ed C)
 |21=>aR false 2 3 (wF C)
 |22=>aR false 1 2 (Ef C)
 |23=>aR false 1 1 (yE C)
 |24=>aR false 1 4 (J8 C)
 |25=>aR false 2 6 (J9 C)
 |26=>aR false 3 9 (J_ C)
 |27=>aR false 2 2 (Ka C)
 |28=>aR false 2 2 (Kc C)
 |29=>aR false 1 1 (wG C)
 |30=>aR false 1 1 (yF C)
 |31=>aR false 2 2 (Ke C)
 |32=>aR false 1 1 (Eh C)
 |33=>aR false 1 1 (Kf C)
 |34=>aR false 1 1 (Kg C)
 |35=>zv (oj 0) (yG C)
 |_=>λ_=>bad
section
variable{n:Nat}
theorem adi:a_ bh (n+1) 6=aR false 1 1 (wH (a_ bh n)):=rfl
theorem ad4:a_ bh (n+1) 10=aR false 1 1 (Ea (a_ bh n)):=rfl
theorem ad5:a_ bh (n+1) 12=aR false 1 1 (wC (a_ bh n)):=rfl
theorem ad6:a_ bh (n+1) 13=aR false 1 1 (wD (a_ bh n)):=rfl
theorem ad7:a_ bh (n+1) 16=aR false 1 5 (Eb (a_ bh n)):=rfl
theorem ad8:a_ bh (n+1) 20=aR false 2 3 (Ed (a_ bh n)):=rfl
theorem ad9:a_ bh (n+1) 21=aR false 2 3 (wF (a_ bh n)):=rfl
theorem ada:a_ bh (n+1) 22=aR false 1 2 (Ef (a_ bh n)):=rfl
theorem adb:a_ bh (n+1) 23=aR false 1 1 (yE (a_ bh n)):=rfl
theorem ade:a_ bh (n+1) 29=aR false 1 1 (wG (a_ bh n)):=rfl
theorem adf:a_ bh (n+1) 30=aR false 1 1 (yF (a_ bh n)):=rfl
theorem adg:a_ bh (n+1) 32=aR false 1 1 (Eh (a_ bh n)):=rfl
theorem adh:a_ bh (n+1) 35=zv (oj 0) (yG (a_ bh n)):=rfl
@[simp]theorem aqP:A9 KC 0=some [9]:=rfl
@[simp]theorem atl {d0:D}:zw (oj 0) [d0]=[.dat d0]:=rfl
end
theorem aev:Ar (inClass (top 7) 0) "TooWide" "most" 0:=⟨rfl,rfl,rfl,rfl,rfl,rfl,by decide+kernel,by decide+kernel,by decide+kernel,by decide+kernel,by decide+kernel,by decide,by decide,by decide⟩
theorem aes:Ar (inClass (top 5) 0) "BadKey" "given" 0:=⟨rfl,rfl,rfl,rfl,rfl,rfl,by decide+kernel,by decide+kernel,by decide+kernel,by decide+kernel,by decide+kernel,by decide,by decide,by decide⟩
theorem aeu:Ar (inClass (top 6) 0) "BadRow" "at" 0:=⟨rfl,rfl,rfl,rfl,rfl,rfl,by decide+kernel,by decide+kernel,by decide+kernel,by decide+kernel,by decide+kernel,by decide,by decide,by decide⟩
theorem aet:Ar (inClass (top 3) 0) "BadNumber" "given" 0:=⟨rfl,rfl,rfl,rfl,rfl,rfl,by decide+kernel,by decide+kernel,by decide+kernel,by decide+kernel,by decide+kernel,by decide,by decide,by decide⟩
section
variable[aT]{P:Program}{w:World}{K:Frag}{h:Heap}{mg:Str->Option Value}{base:Heap}
abbrev gA [aT](P:Program)(w:World)(K:Frag)(mg:Str->Option Value)(base:Heap)(n:Nat)(ad:Frag->Addr)(ps:List Str)(m i:Nat):Prop:=∃fd,FnOk P w K mg base (L2.CX P w) (2*n+2) (ad K) fd ps (gy K m (a_ bh n i))/\Binds K fd ps []
structure QU (P:Program)(w:World)(K:Frag)(mg:Str->Option Value)(base:Heap)(n:Nat):Prop where
 Jj:gA P w K mg base n (λK=>bx K "_law_start") ["_law_script"] 1 0
 Jk:gA P w K mg base n (λK=>bx K "_law_draw") ["_law_hand","_law_many"] 2 1
 JG:gA P w K mg base n (λK=>bx K "_law_pick") ["_law_hand","_law_things"] 2 2
 DU:∃fd iW fs,Au ⟨P,w,K,mg,base⟩ (2*n+1) ((λK=>bx K "safe_chords":Frag->Addr) K) fd ["board"] 3 iW/\Q_ ⟨P,w,K,mg,base⟩ (2*n+1) ((λK=>bx K "safe_chords":Frag->Addr) K) fd ["board"] 3 fs/\(∀ss M Q,wp (a_ bh n 3 (.dat .non::ss) M) Q->wp (mw xJ 1 3 (iW kL) ss M) Q)/\(∀ss M Q,wp (a_ bh n 3 (.dat (.bl true)::ss) M) Q->wp (X6 xJ 1 3 fs ss M) Q)/\Binds K fd ["board"] []/\KBn K fd ["board"] 0 ["board"] (λus ws=>us++iB [0] ws) (λus ws=>us++iB [0] ws)
 JM:gA P w K mg base n (λK=>bx K "check_chords") ["board"] 1 4
 JN:gA P w K mg base n (λK=>bx K "parts_of") ["some","size"] 2 5
 JO:gA P w K mg base n (mA "Board" "crossings") ["self"] 1 6
 JP:gA P w K mg base n (λK=>bx K "is_safe") ["board","chord"] 2 7
 JQ:gA P w K mg base n (λK=>bx K "feigned") ["board","closed"] 2 8
 Jl:gA P w K mg base n (mA "Board" "need_keys") ["self","some"] 2 9
 Jm:∃fd,FnOk P w K mg base (L2.CX P w) (2*n+2) ((zT "Board" "height":Frag->Addr) K) fd ["self"] (gy K 1 (a_ bh n 10))/\Binds K fd ["self"] []
 Jo:gA P w K mg base n (λK=>bx K "lines_reached") ["board","closed","row"] 3 11
 Jp:gA P w K mg base n (mA "Board" "signs") ["self"] 1 12
 Jq:gA P w K mg base n (λK=>bx K "_law_made") ["_law_plan_here"] 1 13
 Jr:gA P w K mg base n (mA "Board" "__init__") ["self","ticks","rows"] 3 14
 Js:gA P w K mg base n (λK=>bx K "check_number") ["number","least","most"] 3 15
 Jt:gA P w K mg base n (λK=>bx K "_law_keys") ["_law_plan_here"] 1 16
 Ju:gA P w K mg base n (λK=>bx K "_law_plan") ["_law_hand","_law_high","_law_wide","_law_most","_law_longest"] 5 17
 Jv:gA P w K mg base n (λK=>bx K "_law_mixed") ["_law_hand","_law_things"] 2 18
 Jw:gA P w K mg base n (λK=>bx K "_law_by_size") ["_law_parts"] 1 19
 Jx:gA P w K mg base n (λK=>bx K "_law_like") ["_law_found","_law_due"] 2 20
 Jy:∃fd,FnOk P w K mg base (L2.CX P w) (2*n+2) ((CP "Board" "full":Frag->Addr) K) fd ["height","width"] (gy K 2 (a_ bh n 21))/\Binds K fd ["height","width"] []
 Jz:gA P w K mg base n (λK=>bx K "_law_try") ["_law_ask"] 1 22
 JA:∃fd,DB P w K mg base (L2.CX P w) (2*n+2) ((λK=>bx K "_law_fields":Frag->Addr) K) fd ["_law_e"] (gy K 1 (a_ bh n 23))/\Binds K fd ["_law_e"] []
 JB:gA P w K mg base n (λK=>bx K "_law_subsets") ["_law_things"] 1 24
 JC:gA P w K mg base n (λK=>bx K "_law_feigned") ["_law_plan_here","_law_chord"] 2 25
 JD:gA P w K mg base n (λK=>bx K "_law_reach") ["_law_plan_here","_law_closed","_law_row"] 3 26
 JE:gA P w K mg base n (λK=>bx K "_law_sign") ["_law_plan_here","_law_key"] 2 27
 JF:gA P w K mg base n (mA "Board" "__contains__") ["self","key"] 2 28
 JH:gA P w K mg base n (λK=>bx K "is_pair") ["value"] 1 29
 JI:gA P w K mg base n (λK=>bx K "is_number") ["value"] 1 30
 JJ:gA P w K mg base n (mA "Board" "__eq__") ["self","other"] 2 31
 JK:gA P w K mg base n (mA "Board" "__len__") ["self"] 1 32
 Ss:gA P w K mg base n (mA "Board" "__repr__") ["self"] 1 33
 JL:∃fd,FnOk P w K mg base (L2.CX P w) (2*n+2) ((zT "Board" "width":Frag->Addr) K) fd ["self"] (gy K 1 (a_ bh n 34))/\Binds K fd ["self"] []
 Nt:wc ⟨P,w,K,mg,base⟩ (2*n+2) 0 λws=>a_ bh n (35+0) (ws.map .dat)
theorem aiq:∀(n:Nat) {ss:List af} {M:List ak} {Q:Re af->Prop},wp (a_ bh n 0 ss M) Q->ss.length=1
 |0,_,_,_,h=>h.elim
 |n+1,ss,M,Q,h=>al3 h
theorem air:∀(n:Nat) {ss:List af} {M:List ak} {Q:Re af->Prop},wp (a_ bh n 1 ss M) Q->ss.length=2
 |0,_,_,_,h=>h.elim
 |n+1,ss,M,Q,h=>al2 h
abbrev gj (i m:Nat):Prop:=∀(n:Nat) {ss:List af} {M:List ak} {Q:Re af->Prop},wp (a_ bh n i ss M) Q->ss.length=m
theorem aiL:gj 2 2
 |0,_,_,_,h=>h.elim
 |n+1,ss,M,Q,h=>gp (show wp (aR false 2 2 (Kd (a_ bh n)) ss M) Q from h)
theorem aiQ:gj 4 1
 |0,_,_,_,h=>h.elim
 |n+1,ss,M,Q,h=>gp (show wp (aR false 1 1 (Kl (a_ bh n)) ss M) Q from h)
theorem aiR:gj 5 2
 |0,_,_,_,h=>h.elim
 |n+1,ss,M,Q,h=>gp (show wp (aR false 2 5 (Km (a_ bh n)) ss M) Q from h)
theorem aiS:gj 6 1
 |0,_,_,_,h=>h.elim
 |n+1,ss,M,Q,h=>gp (show wp (aR false 1 1 (wH (a_ bh n)) ss M) Q from h)
theorem aiT:gj 7 2
 |0,_,_,_,h=>h.elim
 |n+1,ss,M,Q,h=>gp (show wp (aR false 2 2 (Kn (a_ bh n)) ss M) Q from h)
theorem aiU:gj 8 2
 |0,_,_,_,h=>h.elim
 |n+1,ss,M,Q,h=>gp (show wp (aR false 2 6 (Ko (a_ bh n)) ss M) Q from h)
theorem ais:gj 9 2
 |0,_,_,_,h=>h.elim
 |n+1,ss,M,Q,h=>gp (show wp (aR false 2 4 (J0 (a_ bh n)) ss M) Q from h)
theorem atf:gj 10 1
 |0,_,_,_,h=>h.elim
 |n+1,ss,M,Q,h=>gp (show wp (aR false 1 1 (Ea (a_ bh n)) ss M) Q from h)
theorem ait:gj 11 3
 |0,_,_,_,h=>h.elim
 |n+1,ss,M,Q,h=>gp (show wp (aR false 3 9 (J2 (a_ bh n)) ss M) Q from h)
theorem aiu:gj 12 1
 |0,_,_,_,h=>h.elim
 |n+1,ss,M,Q,h=>gp (show wp (aR false 1 1 (wC (a_ bh n)) ss M) Q from h)
theorem aiv:gj 13 1
 |0,_,_,_,h=>h.elim
 |n+1,ss,M,Q,h=>gp (show wp (aR false 1 1 (wD (a_ bh n)) ss M) Q from h)
theorem aiw:gj 14 3
 |0,_,_,_,h=>h.elim
 |n+1,ss,M,Q,h=>gp (show wp (aR false 3 13 (J3 (a_ bh n)) ss M) Q from h)
theorem aix:gj 15 3
 |0,_,_,_,h=>h.elim
 |n+1,ss,M,Q,h=>gp (show wp (aR false 3 3 (J4 (a_ bh n)) ss M) Q from h)
theorem aiy:gj 16 1
 |0,_,_,_,h=>h.elim
 |n+1,ss,M,Q,h=>gp (show wp (aR false 1 5 (Eb (a_ bh n)) ss M) Q from h)
theorem aiz:gj 17 5
 |0,_,_,_,h=>h.elim
 |n+1,ss,M,Q,h=>gp (show wp (aR false 5 15 (J5 (a_ bh n)) ss M) Q from h)
theorem aiA:gj 18 2
 |0,_,_,_,h=>h.elim
 |n+1,ss,M,Q,h=>gp (show wp (aR false 2 4 (J6 (a_ bh n)) ss M) Q from h)
theorem aiB:gj 19 1
 |0,_,_,_,h=>h.elim
 |n+1,ss,M,Q,h=>gp (show wp (aR false 1 3 (J7 (a_ bh n)) ss M) Q from h)
theorem aiC:gj 20 2
 |0,_,_,_,h=>h.elim
 |n+1,ss,M,Q,h=>gp (show wp (aR false 2 3 (Ed (a_ bh n)) ss M) Q from h)
theorem aiD:gj 21 2
 |0,_,_,_,h=>h.elim
 |n+1,ss,M,Q,h=>gp (show wp (aR false 2 3 (wF (a_ bh n)) ss M) Q from h)
theorem aiE:gj 22 1
 |0,_,_,_,h=>h.elim
 |n+1,ss,M,Q,h=>gp (show wp (aR false 1 2 (Ef (a_ bh n)) ss M) Q from h)
theorem aiF:gj 23 1
 |0,_,_,_,h=>h.elim
 |n+1,ss,M,Q,h=>gp (show wp (aR false 1 1 (yE (a_ bh n)) ss M) Q from h)
theorem aiG:gj 24 1
 |0,_,_,_,h=>h.elim
 |n+1,ss,M,Q,h=>gp (show wp (aR false 1 4 (J8 (a_ bh n)) ss M) Q from h)
theorem aiH:gj 25 2
 |0,_,_,_,h=>h.elim
 |n+1,ss,M,Q,h=>gp (show wp (aR false 2 6 (J9 (a_ bh n)) ss M) Q from h)
theorem aiI:gj 26 3
 |0,_,_,_,h=>h.elim
 |n+1,ss,M,Q,h=>gp (show wp (aR false 3 9 (J_ (a_ bh n)) ss M) Q from h)
theorem aiJ:gj 27 2
 |0,_,_,_,h=>h.elim
 |n+1,ss,M,Q,h=>gp (show wp (aR false 2 2 (Ka (a_ bh n)) ss M) Q from h)
theorem aiK:gj 28 2
 |0,_,_,_,h=>h.elim
 |n+1,ss,M,Q,h=>gp (show wp (aR false 2 2 (Kc (a_ bh n)) ss M) Q from h)
theorem aiM:gj 29 1
 |0,_,_,_,h=>h.elim
 |n+1,ss,M,Q,h=>gp (show wp (aR false 1 1 (wG (a_ bh n)) ss M) Q from h)
theorem aiN:gj 30 1
 |0,_,_,_,h=>h.elim
 |n+1,ss,M,Q,h=>gp (show wp (aR false 1 1 (yF (a_ bh n)) ss M) Q from h)
theorem aiO:gj 31 2
 |0,_,_,_,h=>h.elim
 |n+1,ss,M,Q,h=>gp (show wp (aR false 2 2 (Ke (a_ bh n)) ss M) Q from h)
theorem aiP:gj 32 1
 |0,_,_,_,h=>h.elim
 |n+1,ss,M,Q,h=>gp (show wp (aR false 1 1 (Eh (a_ bh n)) ss M) Q from h)
theorem atg:gj 33 1
 |0,_,_,_,h=>h.elim
 |n+1,ss,M,Q,h=>gp (show wp (aR false 1 1 (Kf (a_ bh n)) ss M) Q from h)
theorem ath:gj 34 1
 |0,_,_,_,h=>h.elim
 |n+1,ss,M,Q,h=>gp (show wp (aR false 1 1 (Kg (a_ bh n)) ss M) Q from h)
structure abq (K:Frag):Prop where
 WT:PySem.W.keepIn K (.ref (bx K "_law_draw"))=true
 Xd:PySem.W.keepIn K (.ref (bx K "check_chords"))=true
 Xe:PySem.W.keepIn K (.ref (bx K "parts_of"))=true
 Xf:PySem.W.keepIn K (.ref (bx K "is_safe"))=true
 Xg:PySem.W.keepIn K (.ref (bx K "feigned"))=true
 WU:PySem.W.keepIn K (.ref (bx K "lines_reached"))=true
 WW:PySem.W.keepIn K (.ref (bx K "check_number"))=true
 W0:PySem.W.keepIn K (.ref (bx K "_law_mixed"))=true
 Xa:PySem.W.keepIn K (.ref (bx K "_law_pick"))=true
 W3:PySem.W.keepIn K (.ref (bx K "_law_like"))=true
 W9:PySem.W.keepIn K (.ref (bx K "_law_reach"))=true
 WY:PySem.W.keepIn K (.ref (bx K "_law_keys"))=true
 W_:PySem.W.keepIn K (.ref (bx K "_law_sign"))=true
 Xb:PySem.W.keepIn K (.ref (bx K "is_pair"))=true
 Xc:PySem.W.keepIn K (.ref (bx K "is_number"))=true
 WS:PySem.W.keepIn K (.ref (bx K "_law_start"))=true
 WZ:PySem.W.keepIn K (.ref (bx K "_law_plan"))=true
 WV:PySem.W.keepIn K (.ref (bx K "_law_made"))=true
 W7:PySem.W.keepIn K (.ref (bx K "_law_subsets"))=true
 W2:PySem.W.keepIn K (.ref (bx K "_law_by_size"))=true
 W8:PySem.W.keepIn K (.ref (bx K "_law_feigned"))=true
 W5:PySem.W.keepIn K (.ref (bx K "_law_try"))=true
 W6:PySem.W.keepIn K (.ref (bx K "_law_fields"))=true
 Nm:PySem.W.keepIn K (.ref (bx K "safe_chords"))=true
 W4:PySem.W.keepIn K (.ref (CP "Board" "full" K))=true
theorem ahP (c:wj cK dl K):abq K where
 WT:=by
  obtain⟨fd,F⟩:=c.def_ 1;exact F.kp
 Xd:=by
  obtain⟨fd,F⟩:=c.def_ 4;exact F.kp
 Xe:=by
  obtain⟨fd,F⟩:=c.def_ 5;exact F.kp
 Xf:=by
  obtain⟨fd,F⟩:=c.def_ 7;exact F.kp
 Xg:=by
  obtain⟨fd,F⟩:=c.def_ 8;exact F.kp
 WU:=by
  obtain⟨fd,F⟩:=c.def_ 11;exact F.kp
 WW:=by
  obtain⟨fd,F⟩:=c.def_ 15;exact F.kp
 W0:=by
  obtain⟨fd,F⟩:=c.def_ 18;exact F.kp
 Xa:=by
  obtain⟨fd,F⟩:=c.def_ 2;exact F.kp
 W3:=by
  obtain⟨fd,F⟩:=c.def_ 20;exact F.kp
 W9:=by
  obtain⟨fd,F⟩:=c.def_ 26;exact F.kp
 WY:=by
  obtain⟨fd,F⟩:=c.def_ 16;exact F.kp
 W_:=by
  obtain⟨fd,F⟩:=c.def_ 27;exact F.kp
 Xb:=by
  obtain⟨fd,F⟩:=c.def_ 29;exact F.kp
 Xc:=by
  obtain⟨fd,F⟩:=c.def_ 30;exact F.kp
 WS:=by
  obtain⟨fd,F⟩:=c.def_ 0;exact F.kp
 WZ:=by
  obtain⟨fd,F⟩:=c.def_ 17;exact F.kp
 WV:=by
  obtain⟨fd,F⟩:=c.def_ 13;exact F.kp
 W7:=by
  obtain⟨fd,F⟩:=c.def_ 24;exact F.kp
 W2:=by
  obtain⟨fd,F⟩:=c.def_ 19;exact F.kp
 W8:=by
  obtain⟨fd,F⟩:=c.def_ 25;exact F.kp
 W5:=by
  obtain⟨fd,F⟩:=c.def_ 22;exact F.kp
 W6:=by
  obtain⟨fd,F⟩:=c.def_ 23;exact F.kp
 Nm:=by
  obtain⟨fd,F⟩:=c.def_ 3;exact F.kp
 W4:=by
  obtain⟨fd,F⟩:=c.def_ 21;exact F.kp
theorem jC [aT]{D:iw}{k:Nat}{np:Nat}{x:Str}{F:aM}{f:Addr}{ps:List Str}(h:∃fd,FnOk D.prog D.w D.K D.mg D.base (L2.CX D.prog D.w) k f fd ps (gy D.K np F)/\Binds D.K fd ps [])(g:D.mg x=some (.ref f))(p:PySem.W.keepIn D.K (.ref f)=true):iU D k x np F:=let⟨fd,c_,hb⟩:=h;⟨_,fd,_,c_,g,p,hb⟩
theorem Zg (kt:aT.txt=oj)(sN:("/claim/cut.py":Str)=P.main.file)(sO:(P.main.scope.names.lookup ("super":Str)).isSome=false)(X:K.In h)(G:h.Ns mainGlobals mg)(ce:SaysE cK dl el K){n:Nat}(a:QU P w K mg base n):uV (a_ bh n) ⟨P,w,K,mg,base⟩ (2*n+2):=
  have c:=ce.r;have kp:=ahP c
  { bS:=⟨λx hx=>He.free_ok X G (List.all_eq_true.mp (c.fact 0) x hx)⟩
    k1:=by omega
    d_len:=λi8 r_ hl=>by
      have hl:=vR hl;obtain⟨rfl,rfl⟩:=hl;obtain⟨fd,c_,hb⟩:=a.JK;have M:=He.meth_ok (c.fact 1);exact⟨⟨_,fd,_,c_,M.at_,M.fn,hb⟩,aiP _⟩
    yI:=jC a.Jk (He.glo_ok X G (c.fact 2)) kp.WT
    zI:=air _
    Ky:=jC a.JM (He.glo_ok X G (c.fact 3)) kp.Xd
    Oe:=aiQ _
    NL:=λi8 r_ hl=>by
      have hl:=vR hl;obtain⟨rfl,rfl⟩:=hl;obtain⟨fd,c_,hb⟩:=a.JO;exact⟨_,⟨_,fd,_,c_,He.meth_ok (c.fact 4),He.cls_ok (c.fact 5),hb⟩,aiS _⟩
    S5:=jC a.JN (He.glo_ok X G (c.fact 6)) kp.Xe
    Yq:=aiR _
    S6:=jC a.JP (He.glo_ok X G (c.fact 7)) kp.Xf
    Yr:=aiT _
    LC:=He.int_ok X G (c.fact 8)
    Zs:=HC (c.fact 9) (ce.gU 0) rfl sN sO aev (λ_ _ _ _ _ _ us hl=>match us,hl with|[_,_],_=>rfl) rfl (He.glo_ok X G (c.fact 10))
    BE:=λi8 h0=>by
      obtain rfl:=List.mem_singleton.mp h0;exact⟨He.cls_ok (c.fact 5),He.noat_ok (c.fact 11)⟩
    S7:=jC a.JQ (He.glo_ok X G (c.fact 12)) kp.Xg
    Ys:=aiU _
    XX:=λi8 r_ hl=>by
      have hl:=vR hl;obtain⟨rfl,rfl⟩:=hl;obtain⟨fd,c_,hb⟩:=a.Jl;exact⟨_,⟨_,fd,_,c_,He.meth_ok (c.fact 13),He.cls_ok (c.fact 5),hb⟩,ais _⟩
    Ov:=λi8 r_ hl=>by
      have hl:=vR hl;obtain⟨rfl,rfl⟩:=hl;obtain⟨fd,c_,hb⟩:=a.Jm;exact⟨⟨_,_,fd,_,c_,He.cls_ok (c.fact 5),Wr (c.fact 14),hb⟩⟩
    SR:=jC a.Jo (He.glo_ok X G (c.fact 15)) kp.WU
    Yh:=ait _
    TU:=λi8 r_ hl=>by
      have hl:=vR hl;obtain⟨rfl,rfl⟩:=hl;obtain⟨fd,c_,hb⟩:=a.JJ;have M:=He.meth_ok (c.fact 16);exact⟨⟨⟨_,fd,_,c_,M.at_,M.fn,hb⟩,aiO _⟩,(V8 (c.fact 17)).1,(V8 (c.fact 17)).2⟩
    d_in:=λi8 r_ hl=>by
      have hl:=vR hl;obtain⟨rfl,rfl⟩:=hl;obtain⟨fd,c_,hb⟩:=a.JF;have M:=He.meth_ok (c.fact 18);exact⟨⟨_,fd,_,c_,M.at_,M.fn,hb⟩,aiK _⟩
    Zq:=HC (c.fact 19) (ce.gU 1) rfl sN sO aes (λ_ _ _ _ _ _ us hl=>match us,hl with|[_,_],_=>rfl) rfl (He.glo_ok X G (c.fact 20))
    yX:=λi8 h0=>by
      obtain rfl:=List.mem_singleton.mp h0;exact⟨He.cls_ok (c.fact 5),He.noat_ok (c.fact 21)⟩
    XY:=λi8 r_ hl=>by
      have hl:=vR hl;obtain⟨rfl,rfl⟩:=hl;obtain⟨fd,c_,hb⟩:=a.Jp;exact⟨_,⟨_,fd,_,c_,He.meth_ok (c.fact 22),He.cls_ok (c.fact 5),hb⟩,aiu _⟩
    Nh:=by
      obtain⟨fd,c_,hb⟩:=a.Jr;exact⟨⟨_,fd,_,c_,He.mkr_ok (c.fact 23),(He.glo_ok X G (c.fact 24)),hb⟩,aiw _⟩
    UU:=He.int_ok X G (c.fact 25)
    El:=jC a.Js (He.glo_ok X G (c.fact 26)) kp.WW
    GW:=aix _
    BQ:=He.int_ok X G (c.fact 27)
    HB:=HC (c.fact 28) (ce.gU 2) rfl sN sO aeu (λ_ _ _ _ _ _ us hl=>match us,hl with|[_,_],_=>rfl) rfl (He.glo_ok X G (c.fact 29))
    UW:=He.str_ok X G (c.fact 30)
    Ug:=λi8 h0=>by
      obtain rfl:=List.mem_singleton.mp h0;exact⟨He.cls_ok (c.fact 5),He.noat_ok (c.fact 31)⟩
    Ue:=λi8 h0=>by
      obtain rfl:=List.mem_singleton.mp h0;exact⟨He.cls_ok (c.fact 5),He.noat_ok (c.fact 32)⟩
    E8:=λi8 h0=>by
      obtain rfl:=List.mem_singleton.mp h0;exact⟨He.cls_ok (c.fact 5),He.noat_ok (c.fact 33)⟩
    Zr:=HC (c.fact 34) (ce.gU 3) rfl sN sO aet (λ_ _ _ _ _ _ us hl=>match us,hl with|[_,_],_=>rfl) rfl (He.glo_ok X G (c.fact 35))
    SV:=jC a.Jv (He.glo_ok X G (c.fact 36)) kp.W0
    Yj:=aiA _
    En:=jC a.JG (He.glo_ok X G (c.fact 37)) kp.Xa
    GZ:=aiL _
    Kv:=jC a.Jx (He.glo_ok X G (c.fact 38)) kp.W3
    N_:=aiC _
    U4:=(He.glo_ok X G (c.fact 39))
    U5:=(He.glo_ok X G (c.fact 40))
    U6:=(He.glo_ok X G (c.fact 41))
    cat:=ad1 (c.fact 42)
    lam:=ai7 λi hi=>match i,hi with
      |0,_=>a.Nt
      |n+1,h=>absurd h (by omega)
    Ti:=by
      obtain⟨fd,c_,hb⟩:=a.JA;exact⟨_,fd,_,c_,(He.glo_ok X G (c.fact 43)),kp.W6,hb⟩
    Yl:=aiF _
    x_code:=λi8 h0=>by
      simp only[List.mem_cons,List.not_mem_nil,or_false]at h0;rcases h0 with rfl|rfl|rfl|rfl|rfl|rfl|rfl
      · exact pD (c.fact 44) rfl
      · exact pD (c.fact 45) rfl
      · exact pD (c.fact 46) rfl
      · exact pD (c.fact 47) rfl
      · exact pD (c.fact 48) rfl
      · exact pD (c.fact 49) rfl
      · exact pD (c.fact 50) rfl
    aaS:=λi8 h0=>by
      simp only[List.mem_cons,List.not_mem_nil,or_false]at h0;rcases h0 with rfl|rfl|rfl
      · exact pD (c.fact 51) rfl
      · exact pD (c.fact 52) rfl
      · exact pD (c.fact 53) rfl
    x_at:=λi8 h0=>by
      obtain rfl:=List.mem_singleton.mp h0;exact pD (c.fact 54) rfl
    aaU:=λi8 h0=>by
      obtain rfl:=List.mem_singleton.mp h0;exact pD (c.fact 55) rfl
    aaT:=λi8 h0=>by simp at h0
    aaV:=λi8 h0=>by
      obtain rfl:=List.mem_singleton.mp h0;exact pD (c.fact 56) rfl
    S3:=jC a.JD (He.glo_ok X G (c.fact 57)) kp.W9
    Yo:=aiI _
    Ku:=jC a.Jt (He.glo_ok X G (c.fact 58)) kp.WY
    N9:=aiy _
    Kw:=jC a.JE (He.glo_ok X G (c.fact 59)) kp.W_
    Oa:=aiJ _
    S4:=jC a.JH (He.glo_ok X G (c.fact 60)) kp.Xb
    Yp:=aiM _
    Kx:=jC a.JI (He.glo_ok X G (c.fact 61)) kp.Xc
    Od:=aiN _
    VJ:=⟨(He.glo_ok X G (c.fact 24)),(Wh (c.fact 62)).1,(Wh (c.fact 62)).2⟩
    YU:=λi8 r_ hl=>by
      have hl:=vR hl;obtain⟨rfl,rfl⟩:=hl;obtain⟨fd,c_,hb⟩:=a.JL;exact⟨⟨_,_,fd,_,c_,He.cls_ok (c.fact 5),Wr (c.fact 63),hb⟩⟩
    SQ:=jC a.Jj (He.glo_ok X G (c.fact 64)) kp.WS
    Yg:=aiq _
    Em:=jC a.Ju (He.glo_ok X G (c.fact 65)) kp.WZ
    GX:=aiz _
    SS:=jC a.Jq (He.glo_ok X G (c.fact 66)) kp.WV
    Yi:=aiv _
    S0:=jC a.JB (He.glo_ok X G (c.fact 67)) kp.W7
    Ym:=aiG _
    SW:=jC a.Jw (He.glo_ok X G (c.fact 68)) kp.W2
    Yk:=aiB _
    S1:=jC a.JC (He.glo_ok X G (c.fact 69)) kp.W8
    Yn:=aiH _
    Eo:=by
      obtain⟨fd,iW,fs,IU,GR,hX,hR,hb,hk0⟩:=a.DU;exact⟨2*n+1,_,fd,_,_,iW,rfl,IU,(He.glo_ok X G (c.fact 70)),kp.Nm,hb,rfl,hX⟩
    U3:=by
      obtain⟨fd,iW,fs,IU,GR,hX,hR,hb,hk0⟩:=a.DU;exact⟨2*n+1,_,fd,_,_,iW,rfl,IU,(He.glo_ok X G (c.fact 70)),kp.Nm,hk0,rfl,hX⟩
    ns:=akg (c.fact 71)
    Ia:=by
      obtain⟨fd,c_,hb⟩:=a.Jy;exact⟨⟨_,fd,_,_,c_,(He.glo_ok X G (c.fact 24)),ahE (c.fact 72),kp.W4,hb⟩,aiD _⟩
    SY:=jC a.Jz (He.glo_ok X G (c.fact 73)) kp.W5
    ajS:=aiE _
  }
theorem fU {K:Frag}{x qual:Str}{st:Stmt}{f:Addr}{fd:FuncData}{ps:List Str}(F:Fun K x qual st f fd)(h:∀(kV doc pm:Value) (an:Option Addr) (cdv ct:Value) (us:List Value),us.length=ps.length->bindArgs (PySem.W.fnOf x qual (defArgs st) (defBody st) (defScope st) .none kV doc pm an cdv ct) ⟨us,[]⟩=pure (ps.zip us):=by exactλ_ _ _ _ _ _ us hl=>match us,hl with|[_],_=>rfl):Binds K fd ps []:=F.binds h
theorem iI {K:Frag}{x qual:Str}{st:Stmt}{f:Addr}{fd:FuncData}{ps:List Str}(F:Fun K x qual st f fd)(h:∀(kV doc pm:Value) (an:Option Addr) (cdv ct:Value) (us:List Value),us.length=ps.length->bindArgs (PySem.W.fnOf x qual (defArgs st) (defBody st) (defScope st) .none kV doc pm an cdv ct) ⟨us,[]⟩=pure (ps.zip us):=by exactλ_ _ _ _ _ _ us hl=>match us,hl with|[_,_],_=>rfl):Binds K fd ps []:=F.binds h
theorem u6 {K:Frag}{x qual:Str}{st:Stmt}{f:Addr}{fd:FuncData}{ps:List Str}(F:Fun K x qual st f fd)(h:∀(kV doc pm:Value) (an:Option Addr) (cdv ct:Value) (us:List Value),us.length=ps.length->bindArgs (PySem.W.fnOf x qual (defArgs st) (defBody st) (defScope st) .none kV doc pm an cdv ct) ⟨us,[]⟩=pure (ps.zip us):=by exactλ_ _ _ _ _ _ us hl=>match us,hl with|[_,_,_],_=>rfl):Binds K fd ps []:=F.binds h
theorem SG {K:Frag}{x qual:Str}{st:Stmt}{f:Addr}{fd:FuncData}{ps:List Str}(F:Fun K x qual st f fd)(h:∀(kV doc pm:Value) (an:Option Addr) (cdv ct:Value) (us:List Value),us.length=ps.length->bindArgs (PySem.W.fnOf x qual (defArgs st) (defBody st) (defScope st) .none kV doc pm an cdv ct) ⟨us,[]⟩=pure (ps.zip us):=by exactλ_ _ _ _ _ _ us hl=>match us,hl with|[_,_,_,_,_],_=>rfl):Binds K fd ps []:=F.binds h
theorem Sw (kt:aT.txt=oj)(sN:("/claim/cut.py":Str)=P.main.file)(sO:(P.main.scope.names.lookup ("super":Str)).isSome=false)(X:K.In h)(G:h.Ns mainGlobals mg)(ce:SaysE cK dl el K):∀n,QU P w K mg base n
 |0=>
  have c:=ce.r
  {
  Jj:=by
   obtain⟨fd,F⟩:=c.def_ 0;exact⟨fd,gc,(fU F)⟩
  Jk:=by
   obtain⟨fd,F⟩:=c.def_ 1;exact⟨fd,gc,(iI F)⟩
  JG:=by
   obtain⟨fd,F⟩:=c.def_ 2;exact⟨fd,gc,(iI F)⟩
  DU:=by
   obtain⟨fd,F⟩:=c.def_ 3;exact⟨fd,λ_ _ _ _=>bad,λ_=>bad,UZ F HR (λ_ _ _ _ _ _ _ _ _ _ _ _ _ _ _ _ _=>⟨λ_ _ _ _ _ _ _ _ _ _ _ _ _ _ _ w=>w.elim⟩),UY F HR rfl (λ_ _ _ _ _ _ _ _ _=>⟨λ_ _ _ _ _ _ _ _ _ w=>w.elim⟩),λ_ _ _ w=>w.elim,λ_ _ _ w=>w.elim,(fU F),UL F λ_ _ _ _ _ _ us ws h1 h2=>match us,ws,h1,h2 with|[],[_],_,_=>rfl⟩
  JM:=by
   obtain⟨fd,F⟩:=c.def_ 4;exact⟨fd,gc,(fU F)⟩
  JN:=by
   obtain⟨fd,F⟩:=c.def_ 5;exact⟨fd,gc,(iI F)⟩
  JO:=by
   obtain⟨fd,F⟩:=c.def_ 6;exact⟨fd,gc,(fU F)⟩
  JP:=by
   obtain⟨fd,F⟩:=c.def_ 7;exact⟨fd,gc,(iI F)⟩
  JQ:=by
   obtain⟨fd,F⟩:=c.def_ 8;exact⟨fd,gc,(iI F)⟩
  Jl:=by
   obtain⟨fd,F⟩:=c.def_ 9;exact⟨fd,gc,(iI F)⟩
  Jm:=by
   obtain⟨fd,F⟩:=c.def_ 10;exact⟨fd,gc,(fU F)⟩
  Jo:=by
   obtain⟨fd,F⟩:=c.def_ 11;exact⟨fd,gc,(u6 F)⟩
  Jp:=by
   obtain⟨fd,F⟩:=c.def_ 12;exact⟨fd,gc,(fU F)⟩
  Jq:=by
   obtain⟨fd,F⟩:=c.def_ 13;exact⟨fd,gc,(fU F)⟩
  Jr:=by
   obtain⟨fd,F⟩:=c.def_ 14;exact⟨fd,gc,(u6 F)⟩
  Js:=by
   obtain⟨fd,F⟩:=c.def_ 15;exact⟨fd,gc,(u6 F)⟩
  Jt:=by
   obtain⟨fd,F⟩:=c.def_ 16;exact⟨fd,gc,(fU F)⟩
  Ju:=by
   obtain⟨fd,F⟩:=c.def_ 17;exact⟨fd,gc,(SG F)⟩
  Jv:=by
   obtain⟨fd,F⟩:=c.def_ 18;exact⟨fd,gc,(iI F)⟩
  Jw:=by
   obtain⟨fd,F⟩:=c.def_ 19;exact⟨fd,gc,(fU F)⟩
  Jx:=by
   obtain⟨fd,F⟩:=c.def_ 20;exact⟨fd,gc,(iI F)⟩
  Jy:=by
   obtain⟨fd,F⟩:=c.def_ 21;exact⟨fd,gc,(iI F)⟩
  Jz:=by
   obtain⟨fd,F⟩:=c.def_ 22;exact⟨fd,gc,(fU F)⟩
  JA:=by
   obtain⟨fd,F⟩:=c.def_ 23;exact⟨fd,aeI,(fU F)⟩
  JB:=by
   obtain⟨fd,F⟩:=c.def_ 24;exact⟨fd,gc,(fU F)⟩
  JC:=by
   obtain⟨fd,F⟩:=c.def_ 25;exact⟨fd,gc,(iI F)⟩
  JD:=by
   obtain⟨fd,F⟩:=c.def_ 26;exact⟨fd,gc,(u6 F)⟩
  JE:=by
   obtain⟨fd,F⟩:=c.def_ 27;exact⟨fd,gc,(iI F)⟩
  JF:=by
   obtain⟨fd,F⟩:=c.def_ 28;exact⟨fd,gc,(iI F)⟩
  JH:=by
   obtain⟨fd,F⟩:=c.def_ 29;exact⟨fd,gc,(fU F)⟩
  JI:=by
   obtain⟨fd,F⟩:=c.def_ 30;exact⟨fd,gc,(fU F)⟩
  JJ:=by
   obtain⟨fd,F⟩:=c.def_ 31;exact⟨fd,gc,(iI F)⟩
  JK:=by
   obtain⟨fd,F⟩:=c.def_ 32;exact⟨fd,gc,(fU F)⟩
  Ss:=by
   obtain⟨fd,F⟩:=c.def_ 33;exact⟨fd,gc,(fU F)⟩
  JL:=by
   obtain⟨fd,F⟩:=c.def_ 34;exact⟨fd,gc,(fU F)⟩
  Nt:=ai1
  }
 |n+1=>
  have c:=ce.r;have Q:=Zg kt sN sO X G ce (Sw kt sN sO X G ce n)
  {
  Jj:=by
   obtain⟨fd,F⟩:=c.def_ 0;exact⟨fd,(fn_ok true F amE (λcdv A outer s H E hr=>am3 b7.dG f6 fZ hr Q)).imp agW,fU F⟩
  Jk:=by
   obtain⟨fd,F⟩:=c.def_ 1;exact⟨fd,(fn_ok false F amF (λcdv A outer s H E hr=>am4 b7.dG f6 fZ hr Q)).imp agV,iI F⟩
  JG:=by
   obtain⟨fd,F⟩:=c.def_ 2;exact⟨fd,fn_ok false F an1 (λcdv A outer s H E hr=>amr b7.dG f6 fZ hr Q),(iI F)⟩
  DU:=by
   obtain⟨fd,F⟩:=c.def_ 3;exact⟨fd,λct=>Kh (a_ bh n) ct,OO (a_ bh n),UZ F HR (λcdv A outer s H E pn aH cons uX ct Fa hr hh ug hF hT=>amy b7.n7 hT Y9 hr ug hF Q),UY F HR rfl (λcdv A outer s H E pn hr hh=>ao4 b7.n7 aoJ Y9 hr Q),λ_ _ _ w=>w,λ_ _ _ w=>w,(fU F),UL F λ_ _ _ _ _ _ us ws h1 h2=>match us,ws,h1,h2 with|[],[_],_,_=>rfl⟩
  JM:=by
   obtain⟨fd,F⟩:=c.def_ 4;exact⟨fd,fn_ok false F an8 (λcdv A outer s H E hr=>amz b7.dG f6 fZ hr Q),(fU F)⟩
  JN:=by
   obtain⟨fd,F⟩:=c.def_ 5;exact⟨fd,fn_ok false F an9 (λcdv A outer s H E hr=>amA b7.dG f6 fZ hr Q),(iI F)⟩
  JO:=by
   obtain⟨fd,F⟩:=c.def_ 6;exact⟨fd,fn_ok false F ana (λcdv A outer s H E hr=>amB b7.dG f6 fZ hr Q),(fU F)⟩
  JP:=by
   obtain⟨fd,F⟩:=c.def_ 7;exact⟨fd,fn_ok false F anb (λcdv A outer s H E hr=>amC b7.dG f6 fZ hr Q),(iI F)⟩
  JQ:=by
   obtain⟨fd,F⟩:=c.def_ 8;exact⟨fd,fn_ok false F anc (λcdv A outer s H E hr=>amD b7.dG f6 fZ hr Q),(iI F)⟩
  Jl:=by
   obtain⟨fd,F⟩:=c.def_ 9;exact⟨fd,fn_ok false F amG (λcdv A outer s H E hr=>am5 b7.dG f6 fZ hr Q),(iI F)⟩
  Jm:=by
   obtain⟨fd,F⟩:=c.def_ 10;exact⟨fd,fn_ok false F amH (λcdv A outer s H E hr=>am6 b7.dG f6 fZ hr Q),(fU F)⟩
  Jo:=by
   obtain⟨fd,F⟩:=c.def_ 11;exact⟨fd,fn_ok false F amI (λcdv A outer s H E hr=>am7 b7.dG f6 fZ hr Q),(u6 F)⟩
  Jp:=by
   obtain⟨fd,F⟩:=c.def_ 12;exact⟨fd,fn_ok false F amJ (λcdv A outer s H E hr=>am8 b7.dG f6 fZ hr Q),(fU F)⟩
  Jq:=by
   obtain⟨fd,F⟩:=c.def_ 13;exact⟨fd,fn_ok false F amK (λcdv A outer s H E hr=>am9 b7.dG f6 fZ hr Q),(fU F)⟩
  Jr:=by
   obtain⟨fd,F⟩:=c.def_ 14;exact⟨fd,fn_ok false F amL (λcdv A outer s H E hr=>ama b7.dG f6 fZ hr Q),(u6 F)⟩
  Js:=by
   obtain⟨fd,F⟩:=c.def_ 15;exact⟨fd,fn_ok false F amM (λcdv A outer s H E hr=>amb b7.dG f6 fZ hr Q),(u6 F)⟩
  Jt:=by
   obtain⟨fd,F⟩:=c.def_ 16;exact⟨fd,fn_ok false F amN (λcdv A outer s H E hr=>amc b7.dG f6 fZ hr Q),(fU F)⟩
  Ju:=by
   obtain⟨fd,F⟩:=c.def_ 17;exact⟨fd,fn_ok false F amO (λcdv A outer s H E hr=>amd b7.dG f6 fZ hr Q),(SG F)⟩
  Jv:=by
   obtain⟨fd,F⟩:=c.def_ 18;exact⟨fd,fn_ok false F amP (λcdv A outer s H E hr=>ame b7.dG f6 fZ hr Q),(iI F)⟩
  Jw:=by
   obtain⟨fd,F⟩:=c.def_ 19;exact⟨fd,fn_ok false F amR (λcdv A outer s H E hr=>amg b7.dG f6 fZ hr Q),(fU F)⟩
  Jx:=by
   obtain⟨fd,F⟩:=c.def_ 20;exact⟨fd,fn_ok false F amS (λcdv A outer s H E hr=>amh b7.dG f6 fZ hr Q),(iI F)⟩
  Jy:=by
   obtain⟨fd,F⟩:=c.def_ 21;exact⟨fd,fn_ok false F amT (λcdv A outer s H E hr=>ami b7.dG f6 fZ hr Q),(iI F)⟩
  Jz:=by
   obtain⟨fd,F⟩:=c.def_ 22;exact⟨fd,fn_ok false F amU (λcdv A outer s H E hr=>amj b7.dG DQ.dG f6 fZ hr Q),(fU F)⟩
  JA:=by
   obtain⟨fd,F⟩:=c.def_ 23;exact⟨fd,aeK false F amV (λcdv A outer s H E hr=>amk lC.yH aoI hr Q),(fU F)⟩
  JB:=by
   obtain⟨fd,F⟩:=c.def_ 24;exact⟨fd,fn_ok false F amW (λcdv A outer s H E hr=>aml b7.dG f6 fZ hr Q),(fU F)⟩
  JC:=by
   obtain⟨fd,F⟩:=c.def_ 25;exact⟨fd,fn_ok false F amX (λcdv A outer s H E hr=>amm b7.dG f6 fZ hr Q),(iI F)⟩
  JD:=by
   obtain⟨fd,F⟩:=c.def_ 26;exact⟨fd,fn_ok false F amY (λcdv A outer s H E hr=>amn b7.dG f6 fZ hr Q),(u6 F)⟩
  JE:=by
   obtain⟨fd,F⟩:=c.def_ 27;exact⟨fd,fn_ok false F amZ (λcdv A outer s H E hr=>amo b7.dG f6 fZ hr Q),(iI F)⟩
  JF:=by
   obtain⟨fd,F⟩:=c.def_ 28;exact⟨fd,fn_ok false F an0 (λcdv A outer s H E hr=>amq b7.dG f6 fZ hr Q),(iI F)⟩
  JH:=by
   obtain⟨fd,F⟩:=c.def_ 29;exact⟨fd,fn_ok false F an2 (λcdv A outer s H E hr=>ams b7.dG f6 fZ hr Q),(fU F)⟩
  JI:=by
   obtain⟨fd,F⟩:=c.def_ 30;exact⟨fd,fn_ok false F an3 (λcdv A outer s H E hr=>amt b7.dG f6 fZ hr Q),(fU F)⟩
  JJ:=by
   obtain⟨fd,F⟩:=c.def_ 31;exact⟨fd,fn_ok false F an4 (λcdv A outer s H E hr=>amu b7.dG f6 fZ hr Q),(iI F)⟩
  JK:=by
   obtain⟨fd,F⟩:=c.def_ 32;exact⟨fd,fn_ok false F an5 (λcdv A outer s H E hr=>amv b7.dG f6 fZ hr Q),(fU F)⟩
  Ss:=by
   obtain⟨fd,F⟩:=c.def_ 33;exact⟨fd,fn_ok false F an6 (λcdv A outer s H E hr=>amw b7.dG f6 fZ hr Q),(fU F)⟩
  JL:=by
   obtain⟨fd,F⟩:=c.def_ 34;exact⟨fd,fn_ok false F an7 (λcdv A outer s H E hr=>amx b7.dG f6 fZ hr Q),(fU F)⟩
  Nt:=by
   have S:LamS (aT.txt 0):=by rw[kt];exact Xm (by decide+kernel)
   have B:Rn (aT.txt 0):=by rw[kt];exact⟨λ_ _ _ _ _ _ _=>rfl,λz=>(by cases z)⟩
   refine ai2 (T:=oj 0) (b:=yG (a_ bh n)) ?_ rfl;have sj:=ai3 (f9:=⟨P,w,K,mg,base⟩) (k:=2*n+3) (i:=0) (b:=yG (a_ bh n)) S B (λcl f c2 A outer s H E hr=>by
    rw[kt]at S hr⊢;exact anO (b7.qi S) aoK al4 hr Q)
   rw[kt]at sj;exact sj
  }
end
abbrev Gj:aM:=aR false 1 10 (Ec (a_ bh 18))
instance at3:R.aT:=⟨oj,λ_=>0,λ_=>Str.empty,[]⟩
end jx
namespace jx
open PySem PySem.Spec PyProof.Rows L2 R
abbrev hk:PySem.W.Hook:=Mg JW cK dl el
def ob (s:PySem.W.SharedT):tS:=vD JW cK dl el (HandSHeadRun.getT s)
theorem akn (s:PySem.W.SharedT):ob s=hk.obs s.abs:=akp (HandSHeadRun.getT_eq s)
theorem run (w:World):HandSHeadRun.RunEq AG (PySem.W.view AG.prog [44]) hk ob 6000 loose w:=alK (alI w) (alH w)
@[reducible]def rA (K:Frag):aT:=⟨oj,λ_=>C7 K (bx K "law"),λ_=>"law.<locals>.<lambda>",[]⟩
theorem facts {P:Program}{w:World}{K:Frag}{h:Heap}{mg:Str->Option Value}{f:Addr}(sN:("/claim/cut.py":Str)=P.main.file)(sO:(P.main.scope.names.lookup ("super":Str)).isSome=false)(X:K.In h)(G:h.Ns mainGlobals mg)(hfa:mg ("law":Str)=some (.ref f))(ce:SaysE cK dl el K):
    ∃(fd:FuncData) (c:Addr) (oc:Value) (od:Option Addr) (gi:Array (Option Value)) (dY:Value) (cd:Option Addr) (vs:Array Value) (cs:Array (Option Value)),K.lookup f=some ⟨oc,od,.func fd,gi⟩/\fd.code=.ref c/\K.lookup c=some ⟨dY,cd,.fields vs,cs⟩/\vs[11]?=some (.ref ((rA K).tab 0))/\K.lookup ((rA K).tab 0)=none/\
      (∀(s:Shared) (v:Value),BindsTo s fd ⟨[v],[]⟩ [("_law_script",v)])/\∀base:Heap,K.In base->base.Ns mainGlobals mg->LamX.TabB base mg c ((rA K).tab 0)->FnOk P w K mg base (L2.CX P w) 40 f fd ["_law_script"] (z8 (rA K) K 1 Gj):=by
  have c:=SaysE.r ce;have e:=hfa.symm.trans (He.glo_ok X G (c.fact 74));cases e
  obtain⟨fd,F⟩:=c.def_ 35;obtain⟨oc,od,arD,gi,dY,cd,vs,cs,q1,q2,q3,pe,zX⟩:=aoG (c.fact 75);obtain⟨atF,atG,kV,doc,pm,an,cdv,ct,atN,afZ,lk,hcd⟩:=F.ex;have e2:=q1.symm.trans lk;cases e2
  refine⟨fd,_,oc,od,gi,dY,cd,vs,cs,q1,q2,q3,pe,zX,λs v=>?_,λbase _ _ tb=>?_⟩
  · rw[afZ]
    exact .of_eq rfl
  · refine aeJ (rA K) false F q2 amQ λA outer s H E hr=>?_
    letI:aT:=(rA K).at (envOfC "law" (defScope tD) s.heap.objs.size (bx K "law") (.ref (Ab K (bx K "law")))).cells
    exact amf b7.dG (ai8 (rA K) tb rfl rfl) rfl ⟨rfl,rfl⟩ f6 fZ hr (Zg rfl sN sO X G ce (Sw rfl sN sO X G ce 18))
end jx
namespace R
open PySem PySem.Spec PyProof.Rows L2
variable[aT]
@[irreducible]def W {α:Type}(t:T α)(Q:α->Prop):Prop:=wp t Q
theorem acp {α:Type}{t:T α}{Q:α->Prop}:W t Q↔wp t Q:=by unfold W;exact Iff.rfl
theorem qH {α:Type}{a:α}{Q:α->Prop}:W (.ret a) Q=Q a:=by unfold W;rfl
theorem ack {α:Type}{n:Int}{k:Int->T α}{Q:α->Prop}:W (.draw n k) Q=∀d,0<=d->d<n->W (k d) Q:=by unfold W;rfl
theorem acj {α β:Type}{f:α->T β}{Q:β->Prop}{t:T α}:W (t.bind f) Q↔W t λa=>W (f a) Q:=by unfold W;exact wp_bind
section
variable{M:List ak}{j:Nat}{n:Int}{t:bN}
theorem QG {m:Bool}{np n:Nat}{b:aN}{ss:List af}{Q:Re af->Prop}(e:ss.length=np)(h:wp (b (ss++List.replicate (n-np) .un) M) λr=>wp (mD m M.length r) Q):wp (aR m np n b ss M) Q:=by
 unfold aR;rw[if_pos e];exact wp_bind.mpr h
theorem alr {m:Bool}{d:D}{k:Nat}{Q:Re af->Prop}(hl:M.length=k)(h:Q (.ok (.dat d) M)):wp (mD m k (.ok (.rt (.dat d)) M)) Q:=by
 show wp (clean m k (.dat d) M) Q
 unfold clean
 dsimp only
 rw[gr hl];exact h
theorem wp_seq {α β:Type}{m:Ev α}{f:α->Ev β}{Q:Re β->Prop}(h:wp (m M) λr=>wp (aX f r) Q):wp (Ev.bind m f M) Q:=cL.mpr h
theorem atI_get {α:Type}{xs:List α}{i:Int}(h0:0<=i)(h1:i<(xs.length:Int)):∃a∈xs,xs[i.toNat]?=some a/\atI xs i=some a:=by
 have hk:i.toNat<xs.length:=by omega
 refine⟨xs[i.toNat],List.getElem_mem hk,List.getElem?_eq_getElem hk,?_⟩;unfold atI ixN;rw[if_pos h0,if_pos h1];show xs[i.toNat]?=_
 exact List.getElem?_eq_getElem hk
theorem Cw (hj:M[j]?=some .hand):fB M (.mu j)=.mu j:=by simp only[fB,hj]
def oN (t_:aM)(t:bN):aN:=(bT (ao aO (ah 1) (bB t_ (ai (ah 0) (ai (bu (b_ t) (ai (ah 1) av)) av)))))
theorem akT {ds:List D}{Q:Re af->Prop}(hj:M[j]?=some .hand)(h1:ds≠[])(h2:ds.length<=sizeLine)(h:∀d∈ds,Q (.ok (.dat d) M)):wp (aR false 2 2 (oN gK t) [.mu j,.dat (.lst ds)] M) Q:=by
 refine QG rfl ?_;have hn:(0:Int)<(ds.length:Int):=by
  cases ds with
  |nil=>exact absurd rfl h1
  |cons a r=>simp only[List.length_cons];omega
 have j7:(ds.length:Int)<1073741824:=by unfold sizeLine at h2;omega
 have ago:0<ds.length:=by omega
 simp[oN,bT,ao,ah,bB,ai,av,bu,Ev.bind,T.bind,aX,R.ok,je,Cw hj,b_,lenOf,eT,g5,h2,gK,hj,hn,j7,ago,wp,ofM,aO];intro d d1 d2;obtain⟨a,ha,_,e⟩:=atI_get d1 d2;rw[e];exact alr (m:=false) rfl (h a ha)
def NY (t_:aM)(t:bN):aN:=(fJ [3] (f5 (ET (ah 2) (bB t_ (ai (ah 0) (ai (ao (bin .Add) (bu (b_ t) (ai (ah 2) av)) (λ_=>ok (.dat (.int 1)))) av))) (ah 3))))
def AY (t_:aM)(t:bN):aN:=
  (aL (bL 2 (dw true av))
  (aL (fR (cF (ah 1)) (br 3) (NY t_ t))
  (bT (ah 2))))
theorem Cy {k:Nat}{xs:List af}(hj:M[k]?=some (.lst xs)):fB M (.mu k)=.mu k:=by simp only[fB,hj]
theorem zA {m:ak}:(M++[m])[M.length]?=some m:=by simp
theorem Xp {m m':ak}:(M++[m]).set M.length m'=M++[m']:=by simp
theorem Zf {m m':ak}(hj:M[j]?=some m):(M++[m'])[j]?=some m:=by
 rw[List.getElem?_append_left (List.getElem?_eq_some_iff.mp hj).1];exact hj
theorem VR {α:Type}(d:α)(es:List α)(k:Nat):(es.take k++[d]++es.drop k).Perm (d::es):=by
 have h:(es.take k++[d]++es.drop k).Perm ([d]++es.take k++es.drop k):=List.Perm.append_right _ List.perm_append_comm;refine h.trans ?_;rw[List.append_assoc,List.take_append_drop];exact List.Perm.refl _
theorem X4 (hj:M[j]?=some .hand)(L:af):∀(ds es:List D) {Q:Re bW->Prop},es.length+ds.length<sizeLine->(∀fs:List D,fs.Perm (es++ds)->Q (.ok (.nx [.mu j,L,.mu M.length,.un]) (M++[.lst (fs.map .dat)])))->
    wp (gv (br 3) (NY gK t) ds [.mu j,L,.mu M.length,.un] (M++[.lst (es.map .dat)])) Q
  |[],es,Q,_,h=>by
    have:=h es (by rw[List.append_nil]);exact this
  |d::ds,es,Q,hl,h=>by
    have kW:(M++[.lst (es.map af.dat)])[M.length]?=some (.lst (es.map af.dat)):=zA;have g1:(M++[ak.lst (es.map af.dat)])[j]?=some .hand:=Zf hj;have hz:es.length<=sizeLine:=by simp only[List.length_cons]at hl;omega
    have hz2:es.length<sizeLine:=by simp only[List.length_cons]at hl;omega
    have q1:(0:Int)<(es.length:Int)+1:=by omega
    have q2:(es.length:Int)+1<1073741824:=by unfold sizeLine at hz2;omega
    simp[gv,br,NY,fJ,f5,ET,ah,bB,ai,av,ao,bu,Ev.bind,T.bind,aX,R.ok,je,Cw g1,Cy kW,b_,lenOf,eT,g5,fY,hz,hz2,gK,g1,q1,q2,wp,ofM,bin,zA,ud,dN,nh];intro k k1 k2;have hk:k<9223372036854775808:=by omega
    rw[if_pos ⟨k1,hk⟩];have ih:=X4 hj L ds (es.take k.toNat++[d]++es.drop k.toNat) (Q:=Q) (by
      have:=(VR d es k.toNat).length_eq;simp only[List.length_cons]at this hl⊢;omega) λfs hf=>h fs (hf.trans (((VR d es k.toNat).append_right ds).trans (by
        rw[List.cons_append];exact(List.perm_middle (a:=d) (l₁:=es) (l₂:=ds)).symm)))
    have e:List.map af.dat (es.take k.toNat++[d]++es.drop k.toNat)=List.take k.toNat (es.map af.dat)++af.dat d::List.drop k.toNat (es.map af.dat):=by simp[List.map_take,List.map_drop]
    rw[e]at ih;exact ih
def Cl (M:List ak):Prop:=closed M.length M=true
theorem K3 {N:List ak}(hc:Cl M):cut M.length (M++N)=M:=by
 unfold cut closed;unfold Cl closed at hc;rw[List.take_length]at hc;rw[List.take_left,if_pos hc]
theorem ajx {ds:List D}{Q:Re af->Prop}(hc:Cl M)(hj:M[j]?=some .hand)(h2:ds.length<sizeLine)(h:∀fs:List D,fs.Perm ds->Q (.ok (.dat (.lst fs)) M)):wp (aR false 2 4 (AY gK t) [.mu j,.dat (.lst ds)] M) Q:=by
 refine QG rfl ?_;refine wp_seq ?_;simp[bL,dw,av,Ev.bind,T.bind,aX,R.ok,ofM,wp,iD];refine wp_seq ?_;simp only[fR];refine wp_seq ?_;simp[cF,ah,Ev.bind,T.bind,aX,R.ok,je,qf,wp];have:=X4 (t:=t) hj (.dat (.lst ds)) ds [] (Q:=λr=>wp (aX (iD (bT (ah 2))) r) λr=>wp (mD false M.length r) Q) (by simpa using h2) λfs hf=>?_
 ·rw[List.map_nil]at this;exact this
 ·have kW:(M++[.lst (fs.map af.dat)])[M.length]?=some (.lst (fs.map af.dat)):=zA
  simp[aX,iD,bT,ah,Ev.bind,T.bind,R.ok,Cy kW,wp,mD,clean,iJ,oW,K3 hc];exact h fs (by simpa using hf)
theorem apE {α:Type}{a:α}{Q:Re α->Prop}(h:Q (.ok a M)):wp (ok a M) Q:=h
theorem Ak {α:Type}{a:α}{Q:α->Prop}:wp (.ret a) Q=Q a:=by rw[wp]
theorem apD {g:aN}{ρ:List af}{Q:Re bW->Prop}(h:wp (g ρ M) Q):wp (aX (iD g) (.ok (.nx ρ) M)) Q:=h
theorem apI {i:Nat}{f:CE}{g:aN}{ρ:List af}{s:af}{M1:List ak}{Q:Re bW->Prop}(e:f ρ M=.ret (.ok s M1))(h:wp (g (ρ.set i s) M1) Q):wp (aL (bL i f) g ρ M) Q:=by
 unfold aL bL;refine wp_seq (wp_seq ?_);rw[e,Ak];exact h
theorem apH {fi:jt}{gt:dX}{b g:aN}{ρ:List af}{ds:List D}{Q:Re bW->Prop}(e:fi ρ M=.ret (.ok (.data ds) M))(h:wp (gv gt b ds ρ M) λr=>wp (aX (iD g) r) Q):wp (aL (fR fi gt b) g ρ M) Q:=by
 unfold aL fR;refine wp_seq (wp_seq ?_);rw[e,Ak];exact h
def Gives (f:CE)(ρ:List af)(M:List ak)(P:af->Prop):Prop:=∀Q:Re af->Prop,(∀s,P s->Q (.ok s M))->wp (f ρ M) Q
theorem apJ {i:Nat}{f:CE}{g:aN}{ρ:List af}{P:af->Prop}{Q:Re bW->Prop}(e:Gives f ρ M P)(h:∀s,P s->wp (g (ρ.set i s) M) Q):wp (aL (bL i f) g ρ M) Q:=by
 unfold aL bL;refine wp_seq (wp_seq ?_);exact e _ λs p=>h s p
theorem apG {i l:Nat}{f g:CE}{k:aN}{ρ:List af}{wg yt:af->Prop}{Q:Re bW->Prop}(e1:Gives f ρ M wg)(e2:Gives g ρ M yt)(h:∀s u,wg s->yt u->wp (k ((ρ.set i s).set l u) M) Q):wp (aL (oA i l f g) k ρ M) Q:=by
 unfold aL oA;refine wp_seq (wp_seq ?_);refine e1 _ λs p=>?_
 refine wp_seq ?_;exact e2 _ λu cI=>h s u p cI
theorem apF {i l:Nat}{f g:CE}{k:aN}{ρ:List af}{s u:af}{M2:List ak}{Q:Re bW->Prop}(e1:f ρ M=.ret (.ok s M))(e2:g ρ M=.ret (.ok u M2))(h:wp (k ((ρ.set i s).set l u) M2) Q):wp (aL (oA i l f g) k ρ M) Q:=by
 unfold aL oA;refine wp_seq (wp_seq ?_);rw[e1,Ak];refine wp_seq ?_;rw[e2,Ak];exact h
theorem zM {ρ:List af}:av ρ M=.ret (.ok [] M):=rfl
theorem qO {ρ:List af}{f:CE}{g:aH}{s:af}{ss:List af}{M1 M2:List ak}(h1:f ρ M=.ret (.ok s M1))(h2:g ρ M1=.ret (.ok ss M2)):ai f g ρ M=.ret (.ok (s::ss) M2):=by
 unfold ai Ev.bind;rw[h1];show((g ρ M1).bind _)=_
 rw[h2];rfl
theorem qq {ρ:List af}{i:Nat}{s:af}(h:ρ[i]?=some s)(hu:s≠.un)(hn:fB M s=s):ah i ρ M=.ret (.ok s M):=by
 unfold ah;rw[h];cases s with
 |un=>exact absurd rfl hu
 |dat d=>rfl
 |mu j=>show T.ret (Re.ok (fB M (.mu j)) M)=_;rw[hn]
 |raw v=>rfl
theorem acX {F:aM}{fs:aH}{ρ:List af}{ss:List af}{M1:List ak}{Q:Re af->Prop}(e:fs ρ M=.ret (.ok ss M1))(h:wp (F ss M1) Q):wp (bB F fs ρ M) Q:=by
 unfold bB;refine wp_seq ?_;rw[e,Ak];exact h
theorem Ot {g:List ak->af->Option (af×List ak)}{f:CE}{ρ:List af}{s u:af}{M1 M2:List ak}(h1:f ρ M=.ret (.ok s M1))(h2:g M1 s=some (u,M2)):cJ g f ρ M=.ret (.ok u M2):=by
 unfold cJ Ev.bind;rw[h1];show(ofM (λM=>g M s) M1)=_
 unfold ofM
 dsimp only
 rw[h2]
theorem nJ {g:List ak->af->af->Option (af×List ak)}{f Lj:CE}{ρ:List af}{s aF u:af}{M1 M2 ck:List ak}(h1:f ρ M=.ret (.ok s M1))(h2:Lj ρ M1=.ret (.ok aF M2))(h3:g M2 s aF=some (u,ck)):ao g f Lj ρ M=.ret (.ok u ck):=by
 unfold ao Ev.bind;rw[h1];show((Lj ρ M1).bind _)=_
 rw[h2];show(ofM (λM=>g M s aF) M2)=_
 unfold ofM
 dsimp only
 rw[h3]
theorem als {f:CE}{ρ:List af}{s:af}{M1:List ak}{Q:Re bW->Prop}(e:f ρ M=.ret (.ok s M1))(h:Q (.ok (.rt s) M1)):wp (bT f ρ M) Q:=by
 unfold bT;refine wp_seq ?_;rw[e,Ak];exact h
theorem Qw {fs:aH}{ρ:List af}{ss:List af}{ds:List D}{M1 M2:List ak}(e:fs ρ M=.ret (.ok ss M1))(h:gW M1 ss=some (ds,M2))(hz:ds.length<=sizeLine):dg fs ρ M=.ret (.ok (.dat (.tup ds)) M2):=by
 unfold dg Ev.bind;rw[e];simp only[T.bind,aX,ofM,h,if_pos hz]
end
def yg (f:CE)(ρ:List af)(M:List ak)(P:af->Prop):Prop:=∀Q:Re af->Prop,(∀s,P s->Q (.ok s M))->W (f ρ M) Q
theorem oX {f:CE}{ρ:List af}{M:List ak}{P:af->Prop}:yg f ρ M P=Gives f ρ M P:=by unfold yg W Gives;rfl
section
variable{M:List ak}{j:Nat}{n:Int}{t:bN}
theorem Si {m:Bool}{np n:Nat}{b:aN}{ss:List af}{Q:Re af->Prop}(e:ss.length=np)(h:W (b (ss++List.replicate (n-np) .un) M) λr=>W (mD m M.length r) Q):W (aR m np n b ss M) Q:=by
 (try rw[oX]at *);unfold W at *
 exact QG e h
theorem uZ {α β:Type}{m:Ev α}{f:α->Ev β}{Q:Re β->Prop}(h:W (m M) λr=>W (aX f r) Q):W (Ev.bind m f M) Q:=by
 (try rw[oX]at *);unfold W at *
 exact wp_seq h
theorem Oz {ds:List D}{Q:Re af->Prop}(hj:M[j]?=some .hand)(h1:ds≠[])(h2:ds.length<=sizeLine)(h:∀d∈ds,Q (.ok (.dat d) M)):W (aR false 2 2 (oN gK t) [.mu j,.dat (.lst ds)] M) Q:=by
 (try rw[oX]at *);unfold W at *
 exact akT hj h1 h2 h
theorem ajw {ds:List D}{Q:Re af->Prop}(hc:Cl M)(hj:M[j]?=some .hand)(h2:ds.length<sizeLine)(h:∀fs:List D,fs.Perm ds->Q (.ok (.dat (.lst fs)) M)):W (aR false 2 4 (AY gK t) [.mu j,.dat (.lst ds)] M) Q:=by
 (try rw[oX]at *);unfold W at *
 exact ajx hc hj h2 h
theorem Sj {α:Type}{a:α}{Q:Re α->Prop}(h:Q (.ok a M)):W (ok a M) Q:=by
 (try rw[oX]at *);unfold W at *
 exact apE h
theorem DS {g:aN}{ρ:List af}{Q:Re bW->Prop}(h:W (g ρ M) Q):W (aX (iD g) (.ok (.nx ρ) M)) Q:=by
 (try rw[oX]at *);unfold W at *
 exact apD h
theorem acu {i:Nat}{f:CE}{g:aN}{ρ:List af}{s:af}{M1:List ak}{Q:Re bW->Prop}(e:f ρ M=.ret (.ok s M1))(h:W (g (ρ.set i s) M1) Q):W (aL (bL i f) g ρ M) Q:=by
 (try rw[oX]at *);unfold W at *
 exact apI e h
theorem Sk {fi:jt}{gt:dX}{b g:aN}{ρ:List af}{ds:List D}{Q:Re bW->Prop}(e:fi ρ M=.ret (.ok (.data ds) M))(h:W (gv gt b ds ρ M) λr=>W (aX (iD g) r) Q):W (aL (fR fi gt b) g ρ M) Q:=by
 (try rw[oX]at *);unfold W at *
 exact apH e h
theorem Sm {i:Nat}{f:CE}{g:aN}{ρ:List af}{P:af->Prop}{Q:Re bW->Prop}(e:yg f ρ M P)(h:∀s,P s->W (g (ρ.set i s) M) Q):W (aL (bL i f) g ρ M) Q:=by
 (try rw[oX]at *);unfold W at *
 exact apJ e h
theorem acs {i l:Nat}{f g:CE}{k:aN}{ρ:List af}{wg yt:af->Prop}{Q:Re bW->Prop}(e1:yg f ρ M wg)(e2:yg g ρ M yt)(h:∀s u,wg s->yt u->W (k ((ρ.set i s).set l u) M) Q):W (aL (oA i l f g) k ρ M) Q:=by
 (try rw[oX]at *);unfold W at *
 exact apG e1 e2 h
theorem acr {i l:Nat}{f g:CE}{k:aN}{ρ:List af}{s u:af}{M2:List ak}{Q:Re bW->Prop}(e1:f ρ M=.ret (.ok s M))(e2:g ρ M=.ret (.ok u M2))(h:W (k ((ρ.set i s).set l u) M2) Q):W (aL (oA i l f g) k ρ M) Q:=by
 (try rw[oX]at *);unfold W at *
 exact apF e1 e2 h
theorem acR {F:aM}{fs:aH}{ρ:List af}{ss:List af}{M1:List ak}{Q:Re af->Prop}(e:fs ρ M=.ret (.ok ss M1))(h:W (F ss M1) Q):W (bB F fs ρ M) Q:=by
 (try rw[oX]at *);unfold W at *
 exact acX e h
theorem alq {f:CE}{ρ:List af}{s:af}{M1:List ak}{Q:Re bW->Prop}(e:f ρ M=.ret (.ok s M1))(h:Q (.ok (.rt s) M1)):W (bT f ρ M) Q:=by
 (try rw[oX]at *);unfold W at *
 exact als e h
end
def nI (z:Str):Prop:=∀c∈z.cps.toList,c∈([46,111,62,60]:List Nat)
instance (z:Str):Decidable (nI z):=inferInstanceAs (Decidable (∀c∈z.cps.toList,c∈([46,111,62,60]:List Nat)))
def dQ (r:Int×Str):D:=.tup [.int r.1,.str r.2]
def dI (k:Int)(rows:List (Int×Str)):D:=.tup [.int k,.lst (rows.map dQ)]
structure yu (high wide most:Nat)(k:Int)(rows:List (Int×Str))(w:Nat):Prop where
 h1:1<=rows.length
 h2:rows.length<=high
 aD:1<=w
 bK:w<=wide
 k1:(rows.length:Int)<=k
 k2:k<=most
 nd:(rows.map (·.1)).Nodup
 lo:∀r∈rows,0<=r.1/\r.1<k
 oE:∀r∈rows,r.2.length=w/\nI r.2
def OA (o_:aM):CE:=(Bs (bz (ao (cmp .Gt) (ah 9) (λ_=>ok (.dat (.int 0))))) (bB o_ (ai (ah 0) (ai (dw false (ai (λ_=>ok (.dat (.str "o"))) (ai (λ_=>ok (.dat (.str "o"))) (ai (λ_=>ok (.dat (.str "o"))) (ai (λ_=>ok (.dat (.str "o"))) (ai (λ_=>ok (.dat (.str ">"))) (ai (λ_=>ok (.dat (.str "<"))) (ai (λ_=>ok (.dat (.str "."))) av)))))))) av))) (λ_=>ok (.dat (.str "."))))
def Hs (o_:aM):aN:=(fJ [13,14] (aL (bL 14 (OA o_))
  (aL (bL 9 (ao (bin .Sub) (ah 9) (bu (pu ie) (ai (ao (cmp .NotEq) (ah 14) (λ_=>ok (.dat (.str ".")))) av))))
  (bL 12 (ao (bin .Add) (ah 12) (ah 14))))))
def YY:aN:=bL 12 (λ_=>ok (.dat (.str "")))
def YZ (o_:aM):aN:=fR (fX (ah 6)) (br 13) (Hs o_)
def Y0:aN:=f5 (sH (ah 10) (dg (ai (ao aO (ah 8) (ah 11)) (ai (ah 12) av))))
def Y3 (o_:aM):aN:=aL (YZ o_) Y0
def Y4 (o_:aM):aN:=aL YY (Y3 o_)
def Ht (o_:aM):aN:=fJ [11,12,13,14] (Y4 o_)
def D8 (t_ o_ ajP:aM):aN:=
  (aL (oA 5 6 (ao (bin .Add) (λ_=>ok (.dat (.int 1))) (bB t_ (ai (ah 0) (ai (ah 1) av)))) (ao (bin .Add) (λ_=>ok (.dat (.int 1))) (bB t_ (ai (ah 0) (ai (ah 2) av)))))
  (aL (bL 7 (ao (bin .Add) (ah 5) (bB t_ (ai (ah 0) (ai (bu (pu zH) (ai (λ_=>ok (.dat (.int 1))) (ai (ao (bin .Sub) (ao (bin .Add) (ah 4) (λ_=>ok (.dat (.int 1)))) (ah 5)) av))) av)))))
  (aL (bL 8 (bB ajP (ai (ah 0) (ai (cJ (Co false) (ah 7)) av))))
  (aL (oA 9 10 (ah 3) (dw true av))
  (aL (fR (fX (ah 5)) (br 11) (Ht o_))
  (bT (dg (ai (ah 7) (ai (ah 10) av)))))))))
section
variable{M:List ak}{j:Nat}{n:Int}{t:bN}
theorem aku {a b:Str}(ha:nI a)(hb:nI b):nI (a++b):=λc hc=>by
 rw[Str.cps_append,Array.toList_append,List.mem_append]at hc;exact hc.elim (ha c) (hb c)
theorem Sl {f g:aN}{ρ:List af}{Q:Re bW->Prop}(h:W (f ρ M) λr=>W (aX (iD g) r) Q):W (aL f g ρ M) Q:=uZ h
theorem acm {f:aN}{vs:List Nat}{ρ:List af}{Q:Re bW->Prop}(h:W (f ρ M) λr=>W (aX (λr=>ok (ud vs r)) r) Q):W (fJ vs f ρ M) Q:=uZ h
theorem CI {f:CE}{ρ:List af}{i:Int}(e:f ρ M=.ret (.ok (.dat (.int i)) M))(h1:0<=i)(h2:i<4611686018427387904):fX f ρ M=.ret (.ok (.data (rng 0 i.toNat)) M):=by
 unfold fX Ev.bind;simp only[e,T.bind,aX];rw[if_pos ⟨by omega,by omega⟩];rfl
theorem eW {ρ:List af}{i:Nat}{d:D}(h:ρ[i]?=some (.dat d)):ah i ρ M=.ret (.ok (.dat d) M):=by
 unfold ah;rw[h];rfl
theorem vH {lo:Int}{k:Nat}:(rng lo k).length=k:=by simp[rng]
theorem aco {LG:Nat}{b:aN}{d:D}{ds:List D}{ρ:List af}{Q:Re bW->Prop}(h:W (b (ρ.set LG (.dat d)) M) λr=>W (aX (nh (gv (br LG) b ds)) r) Q):W (gv (br LG) b (d::ds) ρ M) Q:=uZ h
theorem acn {k:List af->Ev bW}{ρ:List af}{Q:Re bW->Prop}(h:W (k ρ M) Q):W (aX (nh k) (.ok (.nx ρ) M)) Q:=h
theorem zZ {k n:Nat}:rng (k:Int) (n+1)=.int (k:Int)::rng ((k+1:Nat):Int) n:=by
 unfold rng;rw[List.range_succ_eq_map,List.map_cons,List.map_map]
 congr 1
 simp;intro a _;omega
theorem akR {fs:List D}{n:Nat}(h:fs.Perm (rng 0 n)):∃ps:List Int,fs=ps.map .int/\ps.length=n/\ps.Nodup/\∀p∈ps,0<=p/\p<n:=by
 have key:∀d∈fs,∃i:Nat,i<n/\d=.int i:=λd hd=>by
  have:=h.mem_iff.mp hd;unfold rng at this;obtain⟨i,hi,e⟩:=List.mem_map.mp this;exact⟨i,List.mem_range.mp hi,by rw[<-e];congr 1;omega⟩
 let unI:D->Int:=λd=>match d with
  | .int i=>i
  |_=>0
 have e1:fs=(fs.map unI).map .int:=by
  rw[List.map_map]
  conv=>lhs;rw[<-List.map_id fs]
  apply List.map_congr_left
  intro d hd;obtain⟨i,_,rfl⟩:=key d hd;rfl
 refine⟨fs.map unI,e1,by rw[List.length_map,h.length_eq,vH],?_,?_⟩
 ·have h2:(fs.map unI).Perm ((rng 0 n).map unI):=h.map unI
  rw[h2.nodup_iff];have e2:(rng 0 n).map unI=(List.range n).map λi:Nat=>(i:Int):=by
   unfold rng;rw[List.map_map];apply List.map_congr_left
   intro a _;show(0:Int)+a=a
   omega
  rw[e2];exact List.Pairwise.map _ (λa b h e=>h (Int.ofNat.inj e)) List.nodup_range
 ·intro p hp
  obtain⟨d,hd,rfl⟩:=List.mem_map.mp hp;obtain⟨i,hi,rfl⟩:=key d hd;show(0:Int)<=i/\(i:Int)<n
  omega
theorem K_ {ρ:List af}{j:Nat}{n a:Int}{aE fi:CE}(hj:M[j]?=some .hand)(h0:ρ[0]?=some (.mu j))(hi:fi ρ M=.ret (.ok (.dat (.int n)) M))(hf:aE ρ M=.ret (.ok (.dat (.int a)) M))(hn:0<n)(j7:n<1073741824):
    yg (ao (bin .Add) aE (bB gK (ai (ah 0) (ai fi av)))) ρ M λs=>∃d,0<=d/\d<n/\s=.dat (.int (a+d)):=λQ h=>by
  simp[ao,hf,bB,ai,av,ah,h0,hi,Cw hj,je,Ev.bind,T.bind,aX,R.ok,gK,hj,hn,j7,ack,ofM,bin,qH];exactλd d1 d2=>h _ ⟨d,d1,d2,rfl⟩
end
def cnt (z:Str):Nat:=z.cps.toList.countP λc=>decide (c≠46)
def u_ (rows:List (Int×Str)):Nat:=(rows.map λr=>cnt r.2).sum
section
variable{M:List ak}{j:Nat}{n:Int}{t:bN}
theorem adJ:cnt "."=0:=by decide
theorem cnt_nil:cnt ""=0:=by decide
theorem adI {a b:Str}:cnt (a++b)=cnt a+cnt b:=by
 unfold cnt;rw[Str.cps_append,Array.toList_append,List.countP_append]
theorem adK {a:Str}:cnt a<=a.length:=by
 unfold cnt;exact List.countP_le_length
theorem adH {rows:List (Int×Str)}{p:Int}{z:Str}:u_ (rows++[(p,z)])=u_ rows+cnt z:=by
 unfold u_;simp
theorem anG {ρ:List af}{left:Int}(hj:M[j]?=some .hand)(h0:ρ[0]?=some (.mu j))(h9:ρ[9]?=some (.dat (.int left)))(Q:Re af->Prop)(h:∀z:Str,z.length=1->nI z->(0<left\/z=".")->Q (.ok (.dat (.str z)) M)):
    W (OA (aR false 2 2 (oN gK t)) ρ M) Q:=by
  have dot:Q (.ok (.dat (.str ".")) M):=h "." (by decide) (by decide) (.inr rfl);unfold OA Bs;refine uZ ?_;by_cases c:0<left
  · simp[bz,ao,ah,h9,je,Ev.bind,T.bind,aX,R.ok,ofM,cmp,dh,jO,c,qH]
    simp[bB,ai,av,ah,h0,Cw hj,Ev.bind,T.bind,aX,R.ok,dw,ofM,qH,gW,iJ];rw[if_pos (by decide)];refine Oz hj (by simp) (by decide) λd hd=>?_
    simp only[List.mem_cons,List.not_mem_nil,or_false]at hd;rcases hd with e|e|e|e|e|e|e<;>subst e<;>exact h _ (by decide) (by decide) (.inl c)
  · simp[bz,ao,ah,h9,je,Ev.bind,T.bind,aX,R.ok,ofM,cmp,dh,jO,c,qH]
    exact dot
theorem ah5 (hj:M[j]?=some .hand)(a1 a2 a3 a4 gF tY lG wz wo wu:af)(d:D)(signs:Str)(left:Int)(gh:0<=left)(Q:Re bW->Prop)(hl:signs.length+1<=sizeLine)
    (h:∀(nB:Int) (z:Str),z.length=1->nI z->0<=nB->nB+cnt z<=left->Q (.ok (.nx [.mu j,a1,a2,a3,a4,gF,tY,lG,wz,.dat (.int nB),wo,wu,.dat (.str (signs++z)),.un,.un]) M)):
    W (Hs (aR false 2 2 (oN gK t)) [.mu j,a1,a2,a3,a4,gF,tY,lG,wz,.dat (.int left),wo,wu,.dat (.str signs),.dat d,.un] M) Q:=by
  unfold Hs fJ;refine uZ ?_;unfold aL;refine uZ ?_;unfold bL;refine uZ ?_;refine anG hj rfl rfl _ λz hz hk hd=>?_
  have Mw:signs.length+z.length<=sizeLine:=by omega
  by_cases c:z="."
  · have ih:=h left z hz hk gh (by subst c;rw[adJ];omega)
    simp[aX,iD,ao,bu,ai,av,ah,Ev.bind,T.bind,R.ok,ofM,je,eT,g5,pu,ie,cmp,dh,bin,qH,decide_eq_true c,Mw,ud,dN];exact ih
  · have ih:=h (left-1) z hz hk (by have:=hd.resolve_right c;omega) (by have:=adK (a:=z);omega)
    simp[aX,iD,ao,bu,ai,av,ah,Ev.bind,T.bind,R.ok,ofM,je,eT,g5,pu,ie,cmp,dh,bin,qH,c,ud,dN,Mw];exact ih
theorem VM (hj:M[j]?=some .hand)(a1 a2 a3 a4 gF tY lG wz wo wu:af):∀(ds:List D) (signs:Str) (left:Int) (Q:Re bW->Prop),0<=left->signs.length+ds.length<=sizeLine->nI signs->
    (∀(nB:Int) (HX:Str),HX.length=signs.length+ds.length->nI HX->0<=nB->nB+cnt HX<=left+cnt signs->Q (.ok (.nx [.mu j,a1,a2,a3,a4,gF,tY,lG,wz,.dat (.int nB),wo,wu,.dat (.str HX),.un,.un]) M))->
    W (gv (br 13) (Hs (aR false 2 2 (oN gK t))) ds [.mu j,a1,a2,a3,a4,gF,tY,lG,wz,.dat (.int left),wo,wu,.dat (.str signs),.un,.un] M) Q
  |[],signs,left,Q,gh,_,ho,h=>Sj (h left signs rfl ho gh (by omega))
  |d::ds,signs,left,Q,gh,hl,ho,h=>by
    simp only[List.length_cons]at hl h;refine uZ ?_;refine ah5 hj a1 a2 a3 a4 gF tY lG wz wo wu d signs left gh _ (by omega) λl z hz hk agf hlz=>?_
    refine VM hj a1 a2 a3 a4 gF tY lG wz wo wu ds (signs++z) l Q agf (by rw[Str.length_append];omega) (aku ho hk) λjV aF e o q1 q2=>h jV aF (by rw[e,Str.length_append];omega) o q1 (by rw[adI]at q2;omega)
theorem akE (hj:M[j]?=some .hand){abp:Nat}(a1 a2 a3 a4 gF lG:af)(ps:List Int)(w:Nat)(k:Nat)(p:Int)(hp:ps[k]?=some p)(hw:w<=4)(rows:List (Int×Str))(left:Int)(gh:0<=left)(Q:Re bW->Prop)(hl:rows.length<sizeLine)
    (h:∀(nB:Int) (z:Str),z.length=w->nI z->0<=nB->nB+cnt z<=left->Q (.ok (.nx [.mu j,a1,a2,a3,a4,gF,.dat (.int w),lG,.dat (.lst (ps.map .int)),.dat (.int nB),.mu M.length,.un,.un,.un,.un]) (M++[.lst ((rows++[(p,z)]).map λr=>.dat (dQ r))]))):
    W (Ht (aR false 2 2 (oN gK t)) [.mu j,a1,a2,a3,a4,gF,.dat (.int w),lG,.dat (.lst (ps.map .int)),.dat (.int left),.mu M.length,.dat (.int k),.un,.un,.un] (M++[.lst (rows.map λr=>.dat (dQ r))])) Q:=by
  have kW:(M++[.lst (rows.map λr=>af.dat (dQ r))])[M.length]?=some (.lst (rows.map λr=>af.dat (dQ r))):=zA;have g1:(M++[ak.lst (rows.map λr=>af.dat (dQ r))])[j]?=some .hand:=Zf hj;have LU:atI (ps.map D.int) (k:Int)=some (.int p):=by
    have hk:=(List.getElem?_eq_some_iff.mp hp).1;unfold atI ixN;rw[if_pos (by omega),List.length_map,if_pos (by omega)];show(ps.map D.int)[k]?=_
    rw[List.getElem?_map,hp];rfl
  unfold Ht;refine acm ?_;unfold Y4 YY;refine acu rfl ?_;unfold Y3 YZ;refine Sk (CI (i:=(w:Int)) (eW rfl) (by omega) (by omega)) ?_;refine VM g1 a1 a2 a3 a4 gF _ lG _ _ _ _ _ left _ gh ?_ (by decide) λjV aF e o zW q1=>?_
  · rw[vH]
    show 0+(w:Int).toNat<=sizeLine
    unfold sizeLine;omega
  · have g9:aF.length=w:=by
      rw[vH]at e;have:aF.length=0+(w:Int).toNat:=e;omega
    have hh:=h jV aF g9 o zW (by rw[cnt_nil]at q1;omega);have q2:(2:Nat)<=sizeLine:=by decide
    refine DS ?_;simp[q2,hl,aX,iD,Y0,f5,sH,dg,ai,av,ah,Ev.bind,T.bind,R.ok,ofM,je,Cy kW,fY,hl,ao,aO,LU,gW,iJ,ud,dN,qH];simpa[dQ]using hh
theorem YT (hj:M[j]?=some .hand)(a1 a2 a3 a4 gF lG:af)(ps:List Int)(w:Nat)(hw:w<=4):∀(n k:Nat) (rows:List (Int×Str)) (left:Int) (Q:Re bW->Prop),0<=left->k+n<=ps.length->rows.length+n<sizeLine->rows.map (·.1)=ps.take k->(∀r∈rows,r.2.length=w/\nI r.2)->
    (∀(nB:Int) (CJ:List (Int×Str)),CJ.map (·.1)=ps.take (k+n)->(∀r∈CJ,r.2.length=w/\nI r.2)->0<=nB->nB+u_ CJ<=left+u_ rows->Q (.ok (.nx [.mu j,a1,a2,a3,a4,gF,.dat (.int w),lG,.dat (.lst (ps.map .int)),.dat (.int nB),.mu M.length,.un,.un,.un,.un]) (M++[.lst (CJ.map λr=>.dat (dQ r))])))->
    W (gv (br 11) (Ht (aR false 2 2 (oN gK t))) (rng (k:Int) n) [.mu j,a1,a2,a3,a4,gF,.dat (.int w),lG,.dat (.lst (ps.map .int)),.dat (.int left),.mu M.length,.un,.un,.un,.un] (M++[.lst (rows.map λr=>.dat (dQ r))])) Q
  |0,k,rows,left,Q,gh,_,_,h1,h2,h=>by
    show W (ok _ _) Q
    exact Sj (h left rows (by rw[Nat.add_zero];exact h1) h2 gh (by omega))
  |n+1,k,rows,left,Q,gh,hk,hl,h1,h2,h=>by
    rw[zZ];refine aco ?_;have hp:ps[k]?=some (ps[k]'(by omega)):=List.getElem?_eq_getElem _;refine akE (abp:=0) hj a1 a2 a3 a4 gF lG ps w k _ hp hw rows left gh _ (by omega) λjV z hz agb zW q1=>?_
    refine acn ?_;refine YT hj a1 a2 a3 a4 gF lG ps w hw n (k+1) (rows++[(ps[k]'(by omega),z)]) jV Q zW (by omega) (by rw[List.length_append];simp only[List.length_cons,List.length_nil];omega) ?_ ?_ λl2 r2 e o q2 q3=>h l2 r2 (by rw[e];congr 1;omega) o q2 (by rw[adH]at q3;omega)
    · rw[List.map_append,h1,List.take_succ,hp];rfl
    · intro r hr
      rw[List.mem_append]at hr;rcases hr with hr|hr
      · exact h2 r hr
      · simp only[List.mem_singleton]at hr
        subst hr;exact⟨hz,agb⟩
theorem OE {high wide most longest:Nat}{Q:Re af->Prop}(hc:Cl M)(hj:M[j]?=some .hand)(hh:1<=high/\high<=4)(hw:1<=wide/\wide<=4)(hg:high<=longest/\longest<=100)
    (h:∀k rows w,yu high wide longest k rows w->u_ rows<=most->Q (.ok (.dat (dI k rows)) M)):
    W (aR false 5 15 (D8 gK (aR false 2 2 (oN gK t)) (aR false 2 4 (AY gK t))) [.mu j,.dat (.int high),.dat (.int wide),.dat (.int most),.dat (.int longest)] M) Q:=by
  refine Si rfl ?_;unfold D8;refine acs (K_ hj rfl (n:=(high:Int)) (eW rfl) rfl (by omega) (by omega)) (K_ hj rfl (n:=(wide:Int)) (eW rfl) rfl (by omega) (by omega)) ?_
  rintro _ _ ⟨d1,a1,cP,rfl⟩ ⟨d2,a2,b2,rfl⟩
  obtain⟨x,rfl⟩:=Int.eq_ofNat_of_zero_le a1;obtain⟨y,rfl⟩:=Int.eq_ofNat_of_zero_le a2;have em:∀ρ:List af,ρ[4]?=some (.dat (.int longest))->ρ[5]?=some (.dat (.int (1+(x:Int))))->(bu (pu zH) (ai (λ_=>ok (.dat (.int 1))) (ai (ao (bin .Sub) (ao (bin .Add) (ah 4) (λ_=>ok (.dat (.int 1)))) (ah 5)) av))) ρ M=.ret (.ok (.dat (.int ((longest:Int)-x))) M):=by
    intro ρ h4 di;have e:((longest:Int)+1-(1+(x:Int)))=(longest:Int)-x:=by omega
    have e2:(if 1<(longest:Int)-x then(longest:Int)-x else 1)=(longest:Int)-x:=by
      split
      · rfl
      · omega
    simp[bu,ai,av,ao,ah,h4,di,je,Ev.bind,T.bind,aX,R.ok,ofM,bin,pu,zH,eT,g5,e,e2]
  refine Sm (K_ hj rfl (em _ rfl rfl) (eW rfl) (by omega) (by omega)) ?_
  rintro _ ⟨d3,a3,m8,rfl⟩
  obtain⟨z,rfl⟩:=Int.eq_ofNat_of_zero_le a3;have el:(1+(x:Int)+(z:Int))=((1+x+z:Nat):Int):=by omega
  have n5:(1+(y:Int))=((1+y:Nat):Int):=by omega
  rw[el,n5];refine Sm (P:=λs=>∃ps:List Int,s=.dat (.lst (ps.map .int))/\ps.length=1+x+z/\ps.Nodup/\∀p∈ps,0<=p/\p<((1+x+z:Nat):Int)) (λaqA h2=>?_) ?_
  · have q:(-(2^62):Int)<=((1+x+z:Nat):Int)/\((1+x+z:Nat):Int)<=16777216:=by omega
    refine acR (qO (qq rfl (by simp) (Cw hj)) (qO (Ot (eW (d:=.int ((1+x+z:Nat):Int)) rfl) (u:=.dat (.lst (rng 0 (1+x+z)))) (M2:=M) (by
      unfold Co
      dsimp only
      rw[if_pos q,Int.toNat_natCast];rfl)) zM)) ?_
    refine ajw hc hj (by rw[vH];unfold sizeLine;omega) λfs hf=>?_
    obtain⟨ps,e1,e2,e3,e4⟩:=akR hf;exact h2 _ ⟨ps,by rw[e1],e2,e3,e4⟩
  · rintro _ ⟨ps,rfl,fH,cI,gJ⟩
    refine acr (s:=.dat (.int most)) (u:=.mu M.length) (M2:=M++[.lst []]) (eW rfl) (by
      have zX:(0:Nat)<=sizeLine:=Nat.zero_le _;simp[dw,av,Ev.bind,T.bind,aX,R.ok,ofM]) ?_
    have ex:(1+(x:Int))=((1+x:Nat):Int):=by omega
    rw[ex];refine Sk (CI (i:=((1+x:Nat):Int)) (eW rfl) (by omega) (by omega)) ?_;rw[Int.toNat_natCast];refine YT hj _ _ _ _ _ _ ps (1+y) (by omega) (1+x) 0 [] _ _ (by omega) (by omega) (by simp only[List.length_nil];unfold sizeLine;omega) (by simp) (by simp) λjV rows r1 r2 zW q1=>?_
    refine DS ?_;have kW:(M++[ak.lst (rows.map λr=>af.dat (dQ r))])[M.length]?=some (.lst (rows.map λr=>af.dat (dQ r))):=zA;refine alq (Qw (qO (eW rfl) (qO (qq rfl (by simp) (Cy kW)) zM)) (ds:=[.int ((1+x+z:Nat):Int),.lst (rows.map dQ)]) (M2:=M++[ak.fz (some (.lst (rows.map dQ)))]) (by
      have ua:qQ (M++[ak.lst (rows.map λr=>af.dat (dQ r))]) (rows.map λr=>af.dat (dQ r))=some (rows.map dQ):=by
        have:=EL (M++[ak.lst (rows.map λr=>af.dat (dQ r))]) (rows.map dQ);rw[List.map_map]at this;exact this
      simp[gW,iJ,oW,ua]) (show 2<=sizeLine by decide)) ?_
    show W (clean false M.length (.dat (dI _ rows)) _) Q
    unfold clean
    dsimp only
    rw[K3 hc,qH];have atQ:rows.length=1+x:=by
      have:=congrArg List.length r1;rw[List.length_map,List.length_take]at this;omega
    refine h _ rows (1+y) ⟨by omega,by omega,by omega,by omega,by omega,by omega,?_,?_,λr hr=>r2 r hr⟩ (by
      have:u_ []=0:=rfl;omega)
    · rw[r1]
      exact cI.sublist (List.take_sublist _ _)
    · intro r hr
      have:r.1∈ps.take (0+(1+x)):=by rw[<-r1];exact List.mem_map_of_mem hr
      exact gJ _ (List.mem_of_mem_take this)
end
def mL (lk:aM)(t:bN):aN:=
  (aL (dj (tOr (bz (ao (cmp .Is) (ah 0) (λ_=>ok (.dat .non)))) (bz (ao (cmp .Is) (ah 1) (λ_=>ok (.dat .non))))) (bT (i9 (ao (cmp .Is) (ah 0) (λ_=>ok (.dat .non))) (ao (cmp .Is) (ah 1) (λ_=>ok (.dat .non))))) dR)
  (aL (dj (bz (cJ (gm ["list","tuple"]) (ah 1))) (aL (dj (tOr (bz (ao (cmp .NotEq) (cJ (gm ["list"]) (ah 0)) (cJ (gm ["list"]) (ah 1)))) (bz (ao (cmp .NotEq) (cJ (gm ["tuple"]) (ah 0)) (cJ (gm ["tuple"]) (ah 1))))) (bT (λ_=>ok (.dat (.bl false)))) dR)
  (bT (i9 (ao (cmp .Eq) (bu (b_ t) (ai (ah 0) av)) (bu (b_ t) (ai (ah 1) av))) (bu (pu (qI true)) (ai (cV false [2] (fX (bu (b_ t) (ai (ah 1) av))) (br 2) fc (bB lk (ai (ao aO (ah 0) (ah 2)) (ai (ao aO (ah 1) (ah 2)) av)))) av))))) dR)
  (aL (dj (tOr (bz (ao (cmp .NotEq) (cJ (gm ["bool"]) (ah 0)) (cJ (gm ["bool"]) (ah 1)))) (bz (ao (cmp .NotEq) (cJ (gm ["int"]) (ah 0)) (cJ (gm ["int"]) (ah 1))))) (bT (λ_=>ok (.dat (.bl false)))) dR)
  (bT (i9 (ao (cmp .Eq) (cJ (gm ["str"]) (ah 0)) (cJ (gm ["str"]) (ah 1))) (ao (cmp .Eq) (ah 0) (ah 1)))))))
def good:Nat->D->Bool
 |_,.non=>true
 |_,.bl _=>true
 |_,.int _=>true
 |_,.str _=>true
 |k+1,.lst ds=>ds.all (good k)&&decide (ds.length<4000)
 |k+1,.tup ds=>ds.all (good k)&&decide (ds.length<4000)
 |_,_=>false
section
variable{M:List ak}{t:bN}{lk:aM}
theorem K1 {turn:af->Ev (List D)}{g:D->List D}:∀{ds:List D},(∀d∈ds,turn (.dat d) M=.ret (.ok (g d) M))->pW turn ds M=.ret (.ok (ds.flatMap g) M)
 |[],_=>rfl
 |d::ds,h=>by
  have ih:=K1 (ds:=ds) λd hd=>h d (List.mem_cons_of_mem _ hd)
  unfold pW Ev.bind;rw[h d List.mem_cons_self];simp only[T.bind,aX,ih,R.ok,List.flatMap_cons]
theorem aik {own:List Nat}{fi:jt}{gt:dX}{tt:cX}{e:CE}{ρ:List af}{ds:List D}{g:D->List D}(h1:fi ρ M=.ret (.ok (.data ds) M))(hz:ds.length<sizeLine)(h2:∀d∈ds,jr gt tt e (dN ρ own) (.dat d) M=.ret (.ok (g d) M)):
    cV false own fi gt tt e ρ M=.ret (.ok (.dat (.lst (ds.flatMap g))) M):=by
  unfold cV Ev.bind;rw[h1];simp only[T.bind,aX];rw[if_pos (show(Its.data ds).n<sizeLine from hz)];unfold gS;simp only[List.drop_zero,K1 h2,T.bind,aX,ofM,d9];rfl
theorem Hg {gt:dX}{e:CE}{ρ aY:List af}{s:af}{d:D}(h1:gt s ρ=some aY)(h2:e aY M=.ret (.ok (.dat d) M)):jr gt fc e ρ s M=.ret (.ok [d] M):=by
 unfold jr;rw[h1];simp only[fc,eT,g5,Ev.bind,R.ok,T.bind,aX,if_true,h2,frz,ofM,iJ]
def isB (d:D)(ns:List String)(b:Bool):Prop:=∀M:List ak,gm ns M (.dat d)=some (.dat (.bl b),M)
theorem nb {M:List ak}{a b:Bool}:cmp .NotEq M (.dat (.bl a)) (.dat (.bl b))=some (.dat (.bl (a !=b)),M):=by cases a<;>cases b<;>rfl
theorem nY {M:List ak}{a b:Bool}:cmp .Eq M (.dat (.bl a)) (.dat (.bl b))=some (.dat (.bl (a==b)),M):=by cases a<;>cases b<;>rfl
theorem acW {F:aM}{fs:aH}{ρ:List af}{ss:List af}{M1:List ak}{r:T (Re af)}(e:fs ρ M=.ret (.ok ss M1))(h:F ss M1=r):bB F fs ρ M=r:=by
 unfold bB Ev.bind;rw[e];exact h
theorem XC {c:D}{ds:List D}(BX:∀i,aO M (.dat c) (.dat (.int i))=(atI ds i).map λd=>(.dat d,M))(hlen:lenOf M (.dat c)=some ds.length)(hz:ds.length<4000)(hlk:∀d∈ds,lk [.dat d,.dat d] M=.ret (.ok (.dat (.bl true)) M)):
    cV false [2] (fX (bu (b_ t) (ai (ah 1) av))) (br 2) fc (bB lk (ai (ao aO (ah 0) (ah 2)) (ai (ao aO (ah 1) (ah 2)) av))) [.dat c,.dat c,.un] M=.ret (.ok (.dat (.lst ((List.replicate ds.length true).map .bl))) M):=by
  have hz2:ds.length<=sizeLine:=Nat.le_trans (Nat.le_of_lt hz) (by decide);have e1:bu (b_ t) (ai (ah 1) av) [.dat c,.dat c,.un] M=.ret (.ok (.dat (.int (ds.length:Int))) M):=by
    simp[bu,ai,av,ah,je,Ev.bind,T.bind,aX,R.ok,b_,hlen,hz2,eT,g5]
  have r:=aik (own:=[2]) (gt:=br 2) (tt:=fc) (e:=bB lk (ai (ao aO (ah 0) (ah 2)) (ai (ao aO (ah 1) (ah 2)) av))) (g:=λ_=>[.bl true]) (CI e1 (by omega) (by omega)) (by rw[vH,Int.toNat_natCast];exact Nat.lt_of_lt_of_le hz (by decide)) (λd hd=>by
    rw[Int.toNat_natCast]at hd;unfold rng at hd;obtain⟨i,hi,rfl⟩:=List.mem_map.mp hd;have hi:=List.mem_range.mp hi;obtain⟨a,ha,_,e⟩:=atI_get (xs:=ds) (i:=((0:Int)+(i:Nat))) (by omega) (by omega);refine Hg (aY:=[.dat c,.dat c,.dat (.int ((0:Int)+(i:Nat)))]) rfl ?_;refine acW (qO (nJ (eW rfl) (eW rfl) (by rw[BX,e];rfl)) (qO (nJ (eW rfl) (eW rfl) (by rw[BX,e];rfl)) zM)) (hlk a ha))
  rw[r,Int.toNat_natCast]
  congr 3
  rw[List.map_replicate];have:∀l:List D,(l.flatMap λ_=>[D.bl true])=List.replicate l.length (D.bl true):=by
    intro l;induction l with
    |nil=>rfl
    |cons a l ih=>rw[List.flatMap_cons,ih];rfl
  rw[this,vH]
theorem SI {n:Nat}:qK (List.replicate n (D.bl true))=some (List.replicate n true):=by
 have:=SM (List.replicate n true)
 rwa[List.map_replicate]at this
theorem Bc {M:List ak}{d:D}:cmp .Is M (.dat d) (.dat .non)=some (.dat (.bl (isNon d)),M):=by cases d<;>rfl
theorem Bx {M:List ak}{i k:Int}:cmp .Eq M (.dat (.int i)) (.dat (.int k))=some (.dat (.bl (decide (i=k))),M):=rfl
theorem es {M:List ak}{i k:Str}:cmp .Eq M (.dat (.str i)) (.dat (.str k))=some (.dat (.bl (decide (i=k))),M):=rfl
theorem aj0 {k:Nat}(hlk:∀d,good k d=true->lk [.dat d,.dat d] M=.ret (.ok (.dat (.bl true)) M)){d:D}(h:good (k+1) d=true):aR false 2 3 (mL lk t) [.dat d,.dat d] M=.ret (.ok (.dat (.bl true)) M):=by
 have key:mL lk t [.dat d,.dat d,.un] M=.ret (.ok (.rt (.dat (.bl true))) M):=by
  cases d with
  |non=>rfl
  |bl b=>
   have i1:∀b,isB (.bl b) ["list","tuple"] false:=λb M=>rfl
   have kZ:∀b,isB (.bl b) ["bool"] true:=λb M=>rfl
   have nv:∀b,isB (.bl b) ["int"] true:=λb M=>rfl
   have rm:∀b,isB (.bl b) ["str"] false:=λb M=>rfl
   simp[mL,aL,dj,bT,tOr,bz,i9,ao,cJ,ah,je,Ev.bind,T.bind,aX,R.ok,ofM,jO,iD,dR,i1 b M,kZ b M,nv b M,rm b M,nb,nY,Bc,Bx,es,isNon]
  |int i=>
   have i1:isB (.int i) ["list","tuple"] false:=λM=>rfl
   have kZ:isB (.int i) ["bool"] false:=λM=>rfl
   have nv:isB (.int i) ["int"] true:=λM=>rfl
   have rm:isB (.int i) ["str"] false:=λM=>rfl
   simp[mL,aL,dj,bT,tOr,bz,i9,ao,cJ,ah,je,Ev.bind,T.bind,aX,R.ok,ofM,jO,iD,dR,i1 M,kZ M,nv M,rm M,nb,nY,Bc,Bx,es,isNon]
  |str z=>
   have i1:isB (.str z) ["list","tuple"] false:=λM=>rfl
   have kZ:isB (.str z) ["bool"] false:=λM=>rfl
   have nv:isB (.str z) ["int"] false:=λM=>rfl
   have rm:isB (.str z) ["str"] true:=λM=>rfl
   simp[mL,aL,dj,bT,tOr,bz,i9,ao,cJ,ah,je,Ev.bind,T.bind,aX,R.ok,ofM,jO,iD,dR,i1 M,kZ M,nv M,rm M,nb,nY,Bc,Bx,es,isNon]
  |lst ds=>
   have i1:isB (.lst ds) ["list","tuple"] true:=λM=>rfl
   have kZ:isB (.lst ds) ["list"] true:=λM=>rfl
   have nv:isB (.lst ds) ["tuple"] false:=λM=>rfl
   unfold good at h;rw[Bool.and_eq_true,List.all_eq_true,decide_eq_true_eq]at h;have hz:ds.length<=sizeLine:=Nat.le_trans (Nat.le_of_lt h.2) (by decide);have hc:=XC (M:=M) (t:=t) (lk:=lk) (c:=.lst ds) (ds:=ds) (λi=>rfl) rfl h.2 λd hd=>hlk d (h.1 d hd)
   simp[mL,aL,dj,bT,tOr,bz,i9,ao,cJ,bu,ai,av,ah,je,Ev.bind,T.bind,aX,R.ok,ofM,jO,iD,dR,i1 M,kZ M,nv M,nb,nY,Bc,Bx,es,isNon,b_,lenOf,hz,eT,g5];rw[hc];simp[T.bind,aX,R.ok,Ev.bind,pu,qI,iM,ofM,eT,g5,SI,iD]
  |tup ds=>
   have i1:isB (.tup ds) ["list","tuple"] true:=λM=>rfl
   have kZ:isB (.tup ds) ["list"] false:=λM=>rfl
   have nv:isB (.tup ds) ["tuple"] true:=λM=>rfl
   unfold good at h;rw[Bool.and_eq_true,List.all_eq_true,decide_eq_true_eq]at h;have hz:ds.length<=sizeLine:=Nat.le_trans (Nat.le_of_lt h.2) (by decide);have hc:=XC (M:=M) (t:=t) (lk:=lk) (c:=.tup ds) (ds:=ds) (λi=>rfl) rfl h.2 λd hd=>hlk d (h.1 d hd)
   simp[mL,aL,dj,bT,tOr,bz,i9,ao,cJ,bu,ai,av,ah,je,Ev.bind,T.bind,aX,R.ok,ofM,jO,iD,dR,i1 M,kZ M,nv M,nb,nY,Bc,Bx,es,isNon,b_,lenOf,hz,eT,g5];rw[hc];simp[T.bind,aX,R.ok,Ev.bind,pu,qI,iM,ofM,eT,g5,SI,iD]
  |_=>cases h
 unfold aR;rw[if_pos (show[af.dat d,af.dat d].length=2 from rfl)];show(mL lk t [.dat d,.dat d,.un] M).bind _=_
 rw[key];show clean false _ (.dat (.bl true)) _=_
 unfold clean
 dsimp only
 rw[gr rfl]
end
def Iter (M:List ak)(its:Its)(ds:List D):Prop:=match its with
 | .data es=>es=ds
 | .live n item fin=>n=ds.length/\(∀(i:Nat) d,ds[i]?=some d->item M i=some (.dat d))/\fin M=true
section
variable{M:List ak}
theorem Tv {item:List ak->Nat->Option af}{fin:List ak->Bool}{turn:af->Ev (List D)}{g:D->List D}:∀(n i:Nat) (ds:List D),n=ds.length->(∀(k:Nat) d,ds[k]?=some d->item M (i+k)=some (.dat d))->fin M=true->(∀d∈ds,turn (.dat d) M=.ret (.ok (g d) M))->
    pX item fin turn n i M=.ret (.ok (ds.flatMap g) M)
  |0,i,[],e,_,hf,_=>by
    unfold pX;rw[if_pos hf];rfl
  |0,i,d::ds,e,_,_,_=>by simp at e
  |n+1,i,[],e,_,_,_=>by simp at e
  |n+1,i,d::ds,e,hi,hf,hb=>by
    have h0:=hi 0 d rfl;unfold pX;rw[Nat.add_zero]at h0;have ih:=Tv n (i+1) ds (by simpa using e) (λk d hk=>by
      have:=hi (k+1) d hk
      rwa[show i+(k+1)=i+1+k by omega]at this) hf λd hd=>hb d (List.mem_cons_of_mem _ hd)
    simp only[h0,Ev.bind,hb d List.mem_cons_self,T.bind,aX,ih,R.ok,List.flatMap_cons]
theorem MH {its:Its}{ds:List D}(h:Iter M its ds):its.n=ds.length:=by
 cases its with
 |data es=>have h:es=ds:=h;subst h;rfl
 |live n item fin=>exact h.1
theorem KY {its:Its}{turn:af->Ev (List D)}{g:D->List D}{ds:List D}(h2:Iter M its ds)(hb:∀d∈ds,turn (.dat d) M=.ret (.ok (g d) M)):gS its turn 0 M=.ret (.ok (ds.flatMap g) M):=by
 cases its with
 |data es=>
  have h2:es=ds:=h2;subst h2;unfold gS;simp only[List.drop_zero];exact K1 hb
 |live n item fin=>
  obtain⟨e1,e2,e3⟩:=h2;unfold gS;simp only[Nat.sub_zero];exact Tv n 0 ds e1 (λk d hk=>by rw[Nat.zero_add];exact e2 k d hk) e3 hb
theorem Gn {own:List Nat}{fi:jt}{its:Its}{gt:dX}{tt:cX}{e:CE}{ρ:List af}{ds:List D}{g:D->List D}(h1:fi ρ M=.ret (.ok its M))(h2:Iter M its ds)(hz:ds.length<sizeLine)(hb:∀d∈ds,jr gt tt e (dN ρ own) (.dat d) M=.ret (.ok (g d) M)):
    cV false own fi gt tt e ρ M=.ret (.ok (.dat (.lst (ds.flatMap g))) M):=by
  unfold cV Ev.bind;rw[h1];simp only[T.bind,aX];rw[if_pos (show its.n<sizeLine by rw[MH h2];exact hz)];simp only[KY h2 hb,T.bind,aX,ofM,d9];rfl
theorem aih {own vs1:List Nat}{fi ng:jt}{its:Its}{mq:D->Its}{sL:D->List D}{gt LN:dX}{t1:cX}{e:CE}{ρ:List af}{aY:D->List af}{ds:List D}{g:D->D->List D}(h1:fi ρ M=.ret (.ok its M))(h2:Iter M its ds)(hz:ds.length<=4000)
    (hg:∀d∈ds,gt (.dat d) (dN ρ own)=some (aY d)) (hi:∀d∈ds,ng (aY d) M=.ret (.ok (mq d) M)) (hI:∀d∈ds,Iter M (mq d) (sL d)) (VH:∀d∈ds,(sL d).length<=4000)
    (hb:∀d∈ds,∀x∈sL d,jr LN t1 e (dN (aY d) vs1) (.dat x) M=.ret (.ok (g d x) M)):
    Bt false own fi gt fc ng vs1 LN t1 e ρ M=.ret (.ok (.dat (.lst (ds.flatMap λd=>(sL d).flatMap (g d)))) M):=by
  unfold Bt Ev.bind;rw[h1];simp only[T.bind,aX];rw[if_pos (show its.n<=4000 by rw[MH h2];exact hz)];have afA:∀d∈ds,vS gt fc ng vs1 LN t1 e (dN ρ own) (.dat d) M=.ret (.ok ((sL d).flatMap (g d)) M):=λd hd=>by
    unfold vS;rw[hg d hd];have q:(mq d).n<=4000:=by rw[MH (hI d hd)];exact VH d hd
    simp only[fc,eT,g5,Ev.bind,R.ok,T.bind,aX,if_true,hi d hd,if_pos q];exact KY (hI d hd) (hb d hd)
  simp only[KY h2 afA,T.bind,aX,ofM,d9];rfl
end
structure uW (M:List ak)(R:af)(ds:List D):Prop where
 it:∃its,qf M R=some its/\Iter M its ds
 en:∃its,sJ M R=some its/\Iter M its (fq 0 ds)
 len:lenOf M R=some ds.length
 ix:∀i,aO M R (.dat (.int i))=(atI ds i).map λd=>(.dat d,M)
 sl:∀k:Nat,∃s,tF M R none (some (k:Int))=some (s,M)/\qf M s=some (.data (ds.take k))
 fB:fB M R=R
 un:R≠.un
theorem EY:∀(ds:List D) (j:Nat),(fq j ds).length=ds.length
 |[],_=>rfl
 |d::ds,j=>by simp[fq,EY ds (j+1)]
theorem adR {ds:List D}{k:Nat}:cutD ds none (some (k:Int))=ds.take k:=by
 unfold cutD;rw[HT.sIx_nat,HT.sIx_none,List.drop_zero,Nat.sub_zero];by_cases h:k<=ds.length
 ·rw[Nat.min_eq_left h]
 ·rw[Nat.min_eq_right (by omega),List.take_of_length_le (Nat.le_refl _),List.take_of_length_le (by omega)]
section
variable{M:List ak}{ds:List D}
theorem alN:uW M (.dat (.lst ds)) ds:=⟨⟨_,rfl,rfl⟩,⟨_,rfl,rfl⟩,rfl,λi=>rfl,λk=>⟨.dat (.lst (ds.take k)),by
 show some (af.dat (.lst (cutD ds none (some (k:Int)))),M)=_
 rw[adR],rfl⟩,rfl,by simp⟩
theorem cin {p:Int}{ps:List Int}:cmp .In M (.dat (.int p)) (.dat (.lst (ps.map .int)))=some (.dat (.bl (decide (p∈ps))),M):=by
 have e0:plain 58 (.int p)=true:=by simp[plain]
 have e1:ez 58 (ps.map D.int)=true:=by
  induction ps with
  |nil=>simp[ez]
  |cons a ps ih=>simp[ez,plain,ih]
 have e2:((e_ (ps.map D.int)).any λz=>PyData.eqv z (py (.int p)))=decide (p∈ps):=by
  induction ps with
  |nil=>simp[e_]
  |cons a ps ih=>
   have ih:=ih (by
    rw[List.map_cons]at e1;unfold ez at e1;exact(Bool.and_eq_true_iff.mp e1).2)
   have e3:PyData.eqv (py (.int a)) (py (.int p))=decide (a=p):=by
    rw[Bool.eq_iff_iff];simp[py,PyData.eqv]
   simp only[List.map_cons,e_,List.any_cons,ih,e3];by_cases q:a=p
   ·simp[q]
   ·have q2:¬p=a:=λz=>q z.symm
    simp[q,q2]
 unfold cmp;simp only[dh,oG,e0,e1,e2,Bool.and_self,if_true];rfl
end
def Fg:dX:=gH 2 (cZ (br 4) (cZ (br 5) gY))
def Mz (t:bN):cX:=(tOr (tNot (bz (nW .LtE .Lt (λ_=>ok (.dat (.int 0))) (ah 4) (ah 1)))) (bz (ao (cmp .In) (ah 4) (cV false [6,7] (cF (nc (ah 2) ou (nH (ah 3)))) (gH 2 (cZ (br 6) (cZ (br 7) gY))) fc (ah 6)))))
def My (t:bN):CE:=(i9 (nW .LtE .LtE (λ_=>ok (.dat (.int 1))) (bu (b_ t) (ai (ah 5) av)) (λ_=>ok (.dat (.int 4)))) (bu (pu (qI true)) (ai (cV false [9] (cF (ah 5)) (br 9) fc (ao (cmp .In) (ah 9) (λ_=>ok (.dat (.str ".o><"))))) av)))
def MA (t:bN):cX:=(tOr (tNot (bz (ah 8))) (bz (ao (cmp .NotEq) (bu (b_ t) (ai (ah 5) av)) (bu (b_ t) (ai (ao aO (ao aO (ah 2) (λ_=>ok (.dat (.int 0)))) (λ_=>ok (.dat (.int 1)))) av)))))
structure dW (k:Int)(rows:List (Int×Str))(w:Nat):Prop where
 h1:1<=rows.length
 h2:rows.length<=4
 aD:1<=w
 bK:w<=4
 k1:1<=k
 k2:k<=6
 nd:(rows.map (·.1)).Nodup
 lo:∀r∈rows,0<=r.1/\r.1<k
 oE:∀r∈rows,r.2.length=w/\nI r.2
theorem yu.Kq {high wide most w:Nat}{k:Int}{rows:List (Int×Str)}(h:yu high wide most k rows w)(a:high<=4)(b:wide<=4)(c:most<=6):dW k rows w:=
 ⟨h.h1,by have:=h.h2;omega,h.aD,by have:=h.bK;omega,by have:=h.h1;have:=h.k1;omega,by have:=h.k2;omega,h.nd,h.lo,h.oE⟩
section
variable{M:List ak}{t:bN}{RR:af}{k:Int}{rows:List (Int×Str)}{w:Nat}
theorem vp {f:CE}{ρ:List af}{s:af}{n:Nat}(h1:f ρ M=.ret (.ok s M))(h2:lenOf M s=some n)(hz:n<=sizeLine):bu (b_ t) (ai f av) ρ M=.ret (.ok (.dat (.int (n:Int))) M):=by
 unfold bu Ev.bind;rw[qO h1 zM];simp only[T.bind,aX,b_,h2,eT,g5,if_pos hz]
end
def qm (r:Int×Str):Str:=Str.ofString (toString r.1)++" "++r.2
def Qn (k:Int)(rows:List (Int×Str)):Str:=Str.ofString (toString k)++": "++Txt.join " / " (rows.map qm)
def Cg:D->Int×Str
 | .tup [.int i,.str z]=>(i,z)
 |_=>(0,Str.empty)
def sU (d x:D):List D:=match d,x with
 | .tup [.int i,_],.tup [.int c,.str s]=>if s="." then[]else[.tup [.int i,.int c]]
 |_,_=>[]
def sV (i:Nat)(z:Str):List D:=(fq 0 (iQ z)).flatMap (sU (.tup [.int (i:Nat),.str z]))
def gn:Nat->List (Int×Str)->List D
 |_,[]=>[]
 |i,r::rows=>sV i r.2++gn (i+1) rows
def u7 (k:Int)(rows:List (Int×Str)):List (Str×D):=[("own_ticks",.int k),("own_places",.lst (rows.map λr=>.int r.1)),("own_signs",.lst (rows.map λr=>.str r.2)),("own_text",.str (Qn k rows)),("own_keys",.lst (gn 0 rows))]
def aP (k:Int)(rows:List (Int×Str)):D:=.ins 0 (u7 k rows)
section
variable{M:List ak}{t:bN}{RR:af}{k:Int}{rows:List (Int×Str)}{w:Nat}
theorem aeF {f:Str}{kU n6:CE}{ρ:List af}{v:af}{s:Nat}{fs:List (Str×af)}(h1:kU ρ M=.ret (.ok v M))(h2:n6 ρ M=.ret (.ok (.mu s) M))(h3:M[s]?=some (.ins 0 fs))(h4:fs.length<1000):sFld f [0] kU n6 ρ M=.ret (.ok (.nx ρ) (M.set s (.ins 0 (putS f v fs)))):=by
 unfold sFld Ev.bind;rw[h1];simp only[T.bind,aX];rw[h2];simp only[T.bind,aX,ofM,H_,h3];rw[if_pos (by simp[h4])];rfl
def Fe (h:Int×Str->D):D->List D
 | .tup [.int p,.str z]=>[h (p,z)]
 |_=>[]
theorem Uq (h:Int×Str->D):∀l:List (Int×Str),(l.map dQ).flatMap (Fe h)=l.map h
 |[]=>rfl
 |a::l=>by rw[List.map_cons,List.flatMap_cons,Uq h l];rfl
theorem OR {e:CE}{h:Int×Str->D}{s tN qu qv tO x9 tM x8 x_:af}(hR:uW M RR (rows.map dQ))(hz:rows.length<=4)(he:∀r∈rows,e [s,.dat (.int k),RR,tN,.dat (.int r.1),.dat (.str r.2),qu,qv,tO,x9,tM,x8,x_] M=.ret (.ok (.dat (h r)) M)):
    cV false [4,5] (cF (ah 2)) Fg fc e [s,.dat (.int k),RR,tN,.un,.un,qu,qv,tO,x9,tM,x8,x_] M=.ret (.ok (.dat (.lst (rows.map h))) M):=by
  obtain⟨its,e1,e2⟩:=hR.it;have hi:cF (ah 2) [s,.dat (.int k),RR,tN,.un,.un,qu,qv,tO,x9,tM,x8,x_] M=.ret (.ok its M):=by
    unfold cF Ev.bind;rw[qq rfl hR.un hR.fB];simp only[T.bind,aX,e1]
  rw[<-Uq h];refine Gn hi e2 (by rw[List.length_map];unfold sizeLine;omega) λd hd=>?_
  obtain⟨r,hr,rfl⟩:=List.mem_map.mp hd;exact Hg (aY:=[s,.dat (.int k),RR,tN,.dat (.int r.1),.dat (.str r.2),qu,qv,tO,x9,tM,x8,x_]) rfl (he r hr)
theorem anS {p:Int}(h0:0<=p)(h1:p<=100):p.natAbs.log2<1920:=by
 have:=Nat.log2_le_self p.natAbs;omega
theorem P6 {p:Int}(h0:0<=p)(h1:p<=100):(Str.ofString (toString p)).length<=3:=by
 obtain⟨n,rfl⟩:=Int.eq_ofNat_of_zero_le h0;have key:∀n:Fin 101,(Str.ofString (toString ((n:Nat):Int))).length<=3:=by decide+kernel
 exact key ⟨n,by omega⟩
theorem Uv {f:CE}{ρ:List af}{p:Int}(e:f ρ M=.ret (.ok (.dat (.int p)) M))(h0:0<=p)(h1:p<=100):cJ j6 f ρ M=.ret (.ok (.dat (.str (Str.ofString (toString p)))) M):=
 Ot e (by
  unfold j6
  dsimp only
  rw[if_pos (anS h0 h1)])
theorem Uw {f:CE}{ρ:List af}{z:Str}(e:f ρ M=.ret (.ok (.dat (.str z)) M))(h:z.length<=sizeLine):cJ j6 f ρ M=.ret (.ok (.dat (.str z)) M):=
 Ot e (by
  unfold j6
  dsimp only
  rw[if_pos h])
theorem zp {f:CE}{fs:List CE}{acc y:Str}{ρ:List af}{r:T (Re af)}(e:f ρ M=.ret (.ok (.dat (.str y)) M))(hz:(acc++y).length<=sizeLine)(h:oh fs (acc++y) ρ M=r):oh (f::fs) acc ρ M=r:=by
 unfold oh Ev.bind;rw[e];simp only[T.bind,aX,u5,R.ok,Ev.bind];rw[if_pos hz];exact h
theorem alA {ρ:List af}{p:Int}{z:Str}(h4:ρ[4]?=some (.dat (.int p)))(di:ρ[5]?=some (.dat (.str z)))(h0:0<=p)(h1:p<=100)(hz:z.length<=4):
    oh [(cJ j6 (ah 4)),(λ_=>ok (.dat (.str " "))),(cJ j6 (ah 5))] Str.empty ρ M=.ret (.ok (.dat (.str (qm (p,z)))) M):=by
  have l1:=P6 h0 h1;have l2:(Str.ofString " ").length=1:=by decide
  have q:z.length<=sizeLine:=Nat.le_trans hz (by decide);refine zp (Uv (eW h4) h0 h1) (by rw[Str.empty_append];unfold sizeLine;omega) ?_;rw[Str.empty_append];refine zp rfl (by rw[Str.length_append];show _+(Str.ofString " ").length<=_;unfold sizeLine;omega) ?_;refine zp (Uw (eW di) q) (by rw[Str.length_append,Str.length_append];show _+(Str.ofString " ").length+_<=_;unfold sizeLine;omega) ?_;rfl
theorem YQ {gt:dX}{tt:cX}{e:CE}{ρ aY:List af}{s:af}{d:D}{b:Bool}(h1:gt s ρ=some aY)(h2:tt aY M=.ret (.ok b M))(h3:e aY M=.ret (.ok (.dat d) M)):jr gt tt e ρ s M=.ret (.ok (if b then[d]else[]) M):=by
 unfold jr;rw[h1];cases b<;>simp[eT,g5,Ev.bind,R.ok,T.bind,aX,h2,h3,frz,ofM,iJ]
def WD:CE:=(Bt false [11,5,12,9] (mj (j5 "own_signs" [0] (ah 0))) (gH 2 (cZ (br 11) (cZ (br 5) gY))) fc (mj (ah 5)) [12,9] (gH 2 (cZ (br 12) (cZ (br 9) gY))) (bz (ao (cmp .NotEq) (ah 9) (λ_=>ok (.dat (.str "."))))) (dg (ai (ah 11) (ai (ah 12) av))))
theorem EZ {ds:List D}:∀{j:Nat} {d:D},d∈fq j ds->∃i x,d=.tup [.int (i:Nat),x]/\x∈ds:=by
 induction ds with
 |nil=>intro j d h;simp[fq]at h
 |cons a ds ih=>
  intro j d h;unfold fq at h;rcases List.mem_cons.mp h with e|e
  ·exact⟨j,a,e,List.mem_cons_self⟩
  ·obtain⟨i,x,e1,e2⟩:=ih e
   exact⟨i,x,e1,List.mem_cons_of_mem _ e2⟩
theorem WN:∀(rows:List (Int×Str)) (i:Nat),((fq i (rows.map λr=>.str r.2)).flatMap λd=>(fq 0 (iQ (Cg d).2)).flatMap (sU d))=gn i rows
 |[],_=>rfl
 |r::rows,i=>by
  rw[List.map_cons];show((D.tup [.int (i:Nat),.str r.2]::fq (i+1) (rows.map λr=>.str r.2)).flatMap _)=sV i r.2++gn (i+1) rows
  rw[List.flatMap_cons,WN rows (i+1)];rfl
theorem ahL {s:Nat}{oH ig tN Dm aaN qu qv tO x9 tM x8 x_:af}{fs:List (Str×af)}(h3:M[s]?=some (.ins 0 fs))(h4:fs.lookup ("own_signs":Str)=some (.dat (.lst (rows.map λr=>.str r.2))))(hz:rows.length<=4)(hz2:∀r∈rows,r.2.length<=4):
    WD [.mu s,oH,ig,tN,Dm,aaN,qu,qv,tO,x9,tM,x8,x_] M=.ret (.ok (.dat (.lst (gn 0 rows))) M):=by
  have hn:fB M (.mu s)=.mu s:=by simp only[fB,h3]
  have hf:mj (j5 "own_signs" [0] (ah 0)) [.mu s,oH,ig,tN,Dm,aaN,qu,qv,tO,x9,tM,x8,x_] M=.ret (.ok (.data (fq 0 (rows.map λr=>.str r.2))) M):=by
    unfold mj j5 Ev.bind;rw[qq rfl (by simp) hn];simp[T.bind,aX,ofM,clsAt,h3,qV,h4,je,sJ]
  rw[<-WN rows 0];refine aih (mq:=λd=>.data (fq 0 (iQ (Cg d).2))) (aY:=λd=>[.mu s,oH,ig,tN,Dm,.dat (.str (Cg d).2),qu,qv,tO,.un,tM,.dat (.int (Cg d).1),.un]) hf rfl (by rw[EY,List.length_map];omega) (λd hd=>?_) (λd hd=>?_) (λd hd=>rfl) (λd hd=>?_) λd hd x hx=>?_
  · obtain⟨i,y,rfl,hy⟩:=EZ hd
    obtain⟨r,hr,rfl⟩:=List.mem_map.mp hy;rfl
  · unfold mj Ev.bind
    rw[eW (d:=.str (Cg d).2) rfl];rfl
  · obtain⟨i,y,rfl,hy⟩:=EZ hd
    obtain⟨r,hr,rfl⟩:=List.mem_map.mp hy;rw[EY];unfold iQ;rw[List.length_map];have:=hz2 r hr;show r.2.length<=4000
    omega
  · obtain⟨i,y,rfl,hy⟩:=EZ hd
    obtain⟨r,hr,rfl⟩:=List.mem_map.mp hy;obtain⟨c,oJ,rfl,VG⟩:=EZ hx;unfold iQ at VG;obtain⟨q,hq,rfl⟩:=List.mem_map.mp VG;have e9:∀ρ:List af,ρ[9]?=some (.dat (sgn q))->ao (cmp .NotEq) (ah 9) (λ_=>ok (.dat (.str "."))) ρ M=.ret (.ok (.dat (.bl (!decide ((⟨#[q]⟩:Str)=".")))) M):=λρ h=>nJ (eW h) rfl rfl
    have r1:=YQ (M:=M) (gt:=gH 2 (cZ (br 12) (cZ (br 9) gY))) (tt:=bz (ao (cmp .NotEq) (ah 9) (λ_=>ok (.dat (.str "."))))) (e:=dg (ai (ah 11) (ai (ah 12) av))) (ρ:=dN [.mu s,oH,ig,tN,Dm,.dat (.str r.2),qu,qv,tO,.un,tM,.dat (.int (i:Nat)),.un] [12,9]) (aY:=[.mu s,oH,ig,tN,Dm,.dat (.str r.2),qu,qv,tO,.dat (sgn q),tM,.dat (.int (i:Nat)),.dat (.int (c:Nat))]) (s:=.dat (.tup [.int (c:Nat),sgn q])) (d:=.tup [.int (i:Nat),.int (c:Nat)]) (b:=!decide ((⟨#[q]⟩:Str)=".")) rfl (by
      unfold bz Ev.bind;rw[e9 _ rfl];rfl) (Qw (qO (eW rfl) (qO (eW rfl) zM)) rfl (show 2<=sizeLine by decide))
    have e2:(if(!decide ((⟨#[q]⟩:Str)="."))=true then[D.tup [.int (i:Nat),.int (c:Nat)]]else[])=sU (.tup [.int (i:Nat),.str r.2]) (.tup [.int (c:Nat),sgn q]):=by
      unfold sU sgn;by_cases h:(⟨#[q]⟩:Str)="."<;>simp[h]
    rw[e2]at r1;exact r1
end
section
variable{M:List ak}{t:bN}{RR:af}{k:Int}{rows:List (Int×Str)}{w:Nat}{ρ:List af}
theorem vM {f g:aN}{ρ aY:List af}{M1:List ak}{r:T (Re bW)}(h1:f ρ M=.ret (.ok (.nx aY) M1))(h2:g aY M1=r):aL f g ρ M=r:=by
 unfold aL Ev.bind;rw[h1];exact h2
theorem HU {e:CE}{s:af}{i:Nat}{M1:List ak}(h:e ρ M=.ret (.ok s M1)):bL i e ρ M=.ret (.ok (.nx (ρ.set i s)) M1):=by
 unfold bL Ev.bind;rw[h];rfl
theorem af7 (u:Str)(aB:List Str):(Txt.join u aB).length<=(aB.map (·.length)).sum+aB.length*u.length:=by
 have e:Txt.join u aB=Str.join u aB:=by first|exact StrLaws.glued_eq_join u aB|exact PySem.glued_eq_join u aB|exact PySem.Builtin.Str.glued_eq_join u aB|exact PyProof.glued_eq_join u aB
 rw[e];exact StrLaws.join_length_le u aB
theorem strs_map:∀aB:List Str,strsOf (aB.map .str)=some aB
 |[]=>rfl
 |y::aB=>by rw[List.map_cons,strsOf,strs_map aB];rfl
theorem Ql {B:Nat}:∀aB:List Str,(∀y∈aB,y.length<=B)->(aB.map (·.length)).sum<=aB.length*B
 |[],_=>by simp
 |y::aB,h=>by
  have ih:=Ql aB λz hz=>h z (List.mem_cons_of_mem _ hz)
  have:=h y List.mem_cons_self;simp only[List.map_cons,List.sum_cons,List.length_cons,Nat.add_mul];omega
theorem ahw {f:CE}{aB:List Str}(e:f ρ M=.ret (.ok (.dat (.lst (aB.map .str))) M))(hz:aB.length<=4)(hl:∀y∈aB,y.length<=8):yR (λ_=>ok (.dat (.str " / "))) f ρ M=.ret (.ok (.dat (.str (Txt.join " / " aB))) M):=by
 have oi:(Str.ofString " / ").length=3:=by decide
 have hs:=Ql aB hl;unfold yR Ev.bind;simp only[R.ok,T.bind,aX,u5,Ev.bind];rw[e];simp only[T.bind,aX,ofM,FY,iM,strs_map];rw[if_pos (by rw[oi];omega)]
theorem alz {r:Int×Str}(h0:0<=r.1)(h1:r.1<=100)(hz:r.2.length<=4):(qm r).length<=8:=by
 have l1:=P6 h0 h1;unfold qm;rw[Str.length_append,Str.length_append];show _+(Str.ofString " ").length+_<=8
 have l2:(Str.ofString " ").length=1:=by decide
 omega
theorem aoR {l:af}(h1:ρ[1]?=some (.dat (.int k)))(w7:ρ[10]?=some (.dat (.lst ((rows.map qm).map .str))))(b:dW k rows w):
    oh [(cJ j6 (ah 1)),(λ_=>ok (.dat (.str ": "))),(cJ j6 (yR (λ_=>ok (.dat (.str " / "))) (ah 10)))] Str.empty ρ M=.ret (.ok (.dat (.str (Qn k rows))) M):=by
  have k1:=b.k1;have k2:=b.k2;have hy:∀y∈rows.map qm,y.length<=8:=λy hy=>by
    obtain⟨r,hr,rfl⟩:=List.mem_map.mp hy;have:=b.lo r hr;have:=(b.oE r hr).1;have:=b.bK;exact alz (by omega) (by omega) (by omega)
  have hl:(rows.map qm).length<=4:=by rw[List.length_map];exact b.h2
  have hs:=Ql (rows.map qm) hy;have hj:=af7 " / " (rows.map qm);have oi:(Str.ofString " / ").length=3:=by decide
  have l2:(Str.ofString ": ").length=2:=by decide
  have hj:(Txt.join " / " (rows.map qm)).length<=100:=by
    have hj:_<=_+_*(Str.ofString " / ").length:=hj;rw[oi]at hj;omega
  have l1:=P6 (p:=k) (by omega) (by omega);refine zp (Uv (eW h1) (by omega) (by omega)) (by rw[Str.empty_append];unfold sizeLine;omega) ?_;rw[Str.empty_append];refine zp rfl (by rw[Str.length_append];show _+(Str.ofString ": ").length<=_;unfold sizeLine;omega) ?_;refine zp (Uw (ahw (eW w7) hl hy) (by unfold sizeLine;omega)) (by rw[Str.length_append,Str.length_append];show _+(Str.ofString ": ").length+_<=_;unfold sizeLine;omega) ?_;rfl
theorem BF {f:Str}{kU:CE}{v:af}{s:Nat}{fs fs':List (Str×af)}(hl:s<M.length)(h0:ρ[0]?=some (.mu s))(h1:kU ρ (M.set s (.ins 0 fs))=.ret (.ok v (M.set s (.ins 0 fs))))(h4:fs.length<1000)(e:putS f v fs=fs'):
    sFld f [0] kU (ah 0) ρ (M.set s (.ins 0 fs))=.ret (.ok (.nx ρ) (M.set s (.ins 0 fs'))):=by
  have g:(M.set s (.ins 0 fs))[s]?=some (.ins 0 fs):=oB hl;have hn:fB (M.set s (.ins 0 fs)) (.mu s)=.mu s:=by simp only[fB,g]
  rw[aeF h1 (qq h0 (by simp) hn) g h4,e,set_set]
end
section
variable{M:List ak}{t:bN}{RR:af}{k:Int}{rows:List (Int×Str)}{w:Nat}{ρ:List af}
theorem TV:∀fs:List (Str×D),oR M (fs.map λp=>(p.1,af.dat p.2))=some fs
 |[]=>rfl
 |(f,d)::fs=>by
  rw[List.map_cons];unfold oR;rw[TV fs];rfl
theorem Ux {b:aN}{d f_:D}(e:b [.dat d] M=.ret (.ok (.rt (.dat f_)) M)):aR false 1 1 b [.dat d] M=.ret (.ok (.dat f_) M):=by
 unfold aR;rw[if_pos (show[af.dat d].length=1 from rfl)];show(b [.dat d] M).bind _=_
 rw[e];show clean false M.length (.dat f_) M=_
 unfold clean
 dsimp only
 rw[gr rfl]
theorem Us {f:Str}{d:D}{o:af}(h0:ρ[0]?=some (.dat (aP k rows)))(e:(u7 k rows).lookup f=some d):j5 f [0] (ah 0) ρ M=.ret (.ok (.dat d) M):=by
 unfold j5 Ev.bind;rw[eW h0];simp[T.bind,aX,ofM,clsAt,aP,qV,e]
theorem afX (b:dW k rows w):aR false 1 1 (bT (bu (b_ t) (ai (j5 "own_signs" [0] (ah 0)) av))) [.dat (aP k rows)] M=.ret (.ok (.dat (.int (rows.length:Int))) M):=Ux (by
 have:=b.h2;unfold bT Ev.bind;rw[vp (s:=.dat (.lst (rows.map λr=>.str r.2))) (n:=rows.length) (Us (o:=.un) rfl rfl) (by simp[lenOf]) (by unfold sizeLine;omega)];rfl)
end
section
variable{M:List ak}{t:bN}{RR:af}{k:Int}{rows:List (Int×Str)}{w:Nat}{ρ:List af}
theorem ahB (d x:D):(sU d x).length<=1:=by
 unfold sU;split
 ·split<;>simp
 ·simp
theorem Um {α:Type}{f:α->List D}(h:∀a,(f a).length<=1):∀l:List α,(l.flatMap f).length<=l.length
 |[]=>by simp
 |a::l=>by
  have:=Um h l;have:=h a;simp only[List.flatMap_cons,List.length_append,List.length_cons];omega
theorem WK (i:Nat)(z:Str):(sV i z).length<=z.length:=by
 unfold sV;refine Nat.le_trans (Um (λx=>ahB _ x) _) ?_;rw[EY];unfold iQ;rw[List.length_map];exact Nat.le_refl _
theorem Nk:∀(rows:List (Int×Str)) (i:Nat),(∀r∈rows,r.2.length<=4)->(gn i rows).length<=rows.length*4
 |[],_,_=>by simp[gn]
 |r::rows,i,h=>by
  have a:=Nk rows (i+1) λx hx=>h x (List.mem_cons_of_mem _ hx)
  have b:=WK i r.2;have c:=h r List.mem_cons_self;unfold gn;rw[List.length_append,List.length_cons,Nat.add_mul];omega
theorem dW.keys (b:dW k rows w):(gn 0 rows).length<=16:=by
 have:=Nk rows 0 λr hr=>by
  have:=(b.oE r hr).1;have:=b.bK;omega
 have:=b.h2;omega
theorem aip (b:dW k rows w):aR false 1 1 (bT (bu (b_ t) (ai (j5 "own_keys" [0] (ah 0)) av))) [.dat (aP k rows)] M=.ret (.ok (.dat (.int ((gn 0 rows).length:Int))) M):=Ux (by
 have:=b.keys;unfold bT Ev.bind;rw[vp (s:=.dat (.lst (gn 0 rows))) (n:=(gn 0 rows).length) (Us (o:=.un) rfl rfl) rfl (by unfold sizeLine;omega)];rfl)
end
section
variable{M:List ak}{t:bN}{RR:af}{k:Int}{rows:List (Int×Str)}{w:Nat}{ρ:List af}
def Xh (t:bN):CE:=(cV false [4] (fX (bu (b_ t) (ai (ah 3) av))) (br 4) (bz (ao (cmp .NotEq) (ao aO (ah 3) (ah 4)) (λ_=>ok (.dat (.str "."))))) (dg (ai (ah 2) (ai (ah 4) av))))
def Gh (t:bN):aN:=(fJ [2,3] (aL (bL 3 (ao aO (ao aO (ao aO (ah 0) (λ_=>ok (.dat (.int 1)))) (ah 2)) (λ_=>ok (.dat (.int 1)))))
 (bL 1 (ao (bin .Add) (ah 1) (Xh t)))))
def D6 (t:bN):aN:=
  (aL (bL 1 (dw false av))
  (aL (fR (fX (bu (b_ t) (ai (ao aO (ah 0) (λ_=>ok (.dat (.int 1)))) av))) (br 2) (Gh t))
  (bT (ah 1))))
def w5 (i:Nat)(z:Str):D->List D
 | .int c=>if z.cps.toList[c.toNat]?=some 46 then[]else[.tup [.int (i:Nat),.int c]]
 |_=>[]
theorem P0 {c:Nat}:((⟨#[c]⟩:Str)=".")↔c=46:=by
 have e:(Str.ofString ".")=⟨#[46]⟩:=by decide
 show((⟨#[c]⟩:Str)=Str.ofString ".")↔_
 rw[e];simp
theorem WO (i:Nat)(z:Str):∀(cs:List Nat) (j:Nat),(∀q:Nat,z.cps.toList[j+q]?=cs[q]?)->(rng (j:Int) cs.length).flatMap (w5 i z)=(fq j (cs.map sgn)).flatMap (sU (.tup [.int (i:Nat),.str z]))
 |[],j,_=>rfl
 |c::cs,j,h=>by
  rw[List.length_cons,zZ,List.map_cons];unfold fq;rw[List.flatMap_cons,List.flatMap_cons,WO i z cs (j+1) λq=>by
   have:=h (q+1);rw[List.getElem?_cons_succ]at this;rw[<-this]
   congr 1
   omega]
  congr 1
  have h0:=h 0;rw[Nat.add_zero,List.getElem?_cons_zero]at h0;unfold w5 sU sgn;simp only[Int.toNat_natCast,h0,Option.some.injEq,P0]
theorem WJ (i:Nat)(z:Str):(rng 0 z.length).flatMap (w5 i z)=sV i z:=by
 have:=WO i z z.cps.toList 0 λq=>by rw[Nat.zero_add]
 exact this
theorem ahR {i:Nat}{z:Str}(h2:ρ[2]?=some (.dat (.int (i:Int))))(h3:ρ[3]?=some (.dat (.str z)))(h4:4<ρ.length)(hz:z.length<=4):Xh t ρ M=.ret (.ok (.dat (.lst (sV i z))) M):=by
 have q1:z.length<=sizeLine:=Nat.le_trans hz (by decide);have oi:bu (b_ t) (ai (ah 3) av) ρ M=.ret (.ok (.dat (.int (z.length:Int))) M):=vp (eW h3) rfl q1;rw[<-WJ];have:=Gn (own:=[4]) (fi:=fX (bu (b_ t) (ai (ah 3) av))) (its:=.data (rng 0 z.length)) (gt:=br 4) (tt:=bz (ao (cmp .NotEq) (ao aO (ah 3) (ah 4)) (λ_=>ok (.dat (.str "."))))) (e:=dg (ai (ah 2) (ai (ah 4) av))) (ds:=rng 0 z.length) (g:=w5 i z) (M:=M) (ρ:=ρ) (by
  have:=CI oi (by omega) (by omega);rw[Int.toNat_natCast]at this;exact this) rfl (by rw[vH];unfold sizeLine;omega) (λd hd=>by
  unfold rng at hd;obtain⟨c,hc,rfl⟩:=List.mem_map.mp hd;have hc:=List.mem_range.mp hc;have e0:((0:Int)+(c:Nat))=((c:Nat):Int):=by omega
  rw[e0];have hlen:c<z.cps.toList.length:=hc;have e1:z.cps.toList[c]?=some z.cps.toList[c]:=List.getElem?_eq_getElem hlen;have cI:((dN ρ [4]).set 4 (.dat (.int (c:Int))))[2]?=some (.dat (.int (i:Int))):=by unfold dN dN;rw[List.set_set,List.getElem?_set_ne (by omega)];exact h2
  have gJ:((dN ρ [4]).set 4 (.dat (.int (c:Int))))[3]?=some (.dat (.str z)):=by unfold dN dN;rw[List.set_set,List.getElem?_set_ne (by omega)];exact h3
  have rE:((dN ρ [4]).set 4 (.dat (.int (c:Int))))[4]?=some (.dat (.int (c:Int))):=List.getElem?_set_self (by unfold dN dN;rw[List.length_set];exact h4);have ex:aO M (.dat (.str z)) (.dat (.int (c:Int)))=some (.dat (.str ⟨#[z.cps.toList[c]]⟩),M):=by
   unfold aO
   dsimp only
   rw[if_pos q1];have:atI z.cps.toList (c:Int)=some z.cps.toList[c]:=by
    unfold atI ixN;rw[if_pos (by omega),if_pos (by omega)];show z.cps.toList[c]?=_
    exact e1
   rw[this];rfl
  have r1:=YQ (M:=M) (gt:=br 4) (tt:=bz (ao (cmp .NotEq) (ao aO (ah 3) (ah 4)) (λ_=>ok (.dat (.str "."))))) (e:=dg (ai (ah 2) (ai (ah 4) av))) (ρ:=dN ρ [4]) (aY:=(dN ρ [4]).set 4 (.dat (.int (c:Int)))) (s:=.dat (.int (c:Int))) (d:=.tup [.int (i:Nat),.int (c:Nat)]) (b:=!decide ((⟨#[z.cps.toList[c]]⟩:Str)=".")) rfl (by
   unfold bz Ev.bind;rw[nJ (nJ (eW gJ) (eW rE) ex) rfl (u:=.dat (.bl (!decide ((⟨#[z.cps.toList[c]]⟩:Str)=".")))) (ck:=M) rfl];rfl) (Qw (qO (eW cI) (qO (eW rE) zM)) rfl (show 2<=sizeLine by decide))
  have e2:(if(!decide ((⟨#[z.cps.toList[c]]⟩:Str)="."))=true then[D.tup [.int (i:Nat),.int (c:Nat)]]else[])=w5 i z (.int (c:Int)):=by
   unfold w5;simp only[Int.toNat_natCast,e1,Option.some.injEq];by_cases h:z.cps.toList[c]=46
   ·rw[if_pos h,decide_eq_true (P0.mpr h)];rfl
   ·rw[if_neg h,decide_eq_false (λq=>h (P0.mp q))];rfl
  rw[e2]at r1;exact r1)
 exact this
theorem WI:∀(rows:List (Int×Str)) (i:Nat) (r:Int×Str),gn i (rows++[r])=gn i rows++sV (i+rows.length) r.2
 |[],i,r=>by simp[gn]
 |x::rows,i,r=>by
  rw[List.cons_append];unfold gn;rw[WI rows (i+1) r,List.append_assoc,List.length_cons]
  congr 2
  congr 1
  omega
theorem ahQ {i:Nat}{r:Int×Str}{acc:List D}(hr:rows[i]?=some r)(hz:r.2.length<=4)(ha:acc.length<=1000):
    Gh t [.dat (dI k rows),.dat (.lst acc),.dat (.int (i:Int)),.un,.un] M=.ret (.ok (.nx [.dat (dI k rows),.dat (.lst (acc++sV i r.2)),.un,.un,.un]) M):=by
  have hk:=WK i r.2;have e1:∀ρ:List af,ρ[0]?=some (.dat (dI k rows))->ρ[2]?=some (.dat (.int (i:Int)))->ao aO (ao aO (ao aO (ah 0) (λ_=>ok (.dat (.int 1)))) (ah 2)) (λ_=>ok (.dat (.int 1))) ρ M=.ret (.ok (.dat (.str r.2)) M):=by
    intro ρ h0 h2;have hi:i<rows.length:=(List.getElem?_eq_some_iff.mp hr).1;have e:atI (rows.map dQ) (i:Int)=some (dQ r):=by
      unfold atI ixN;rw[if_pos (by omega),List.length_map,if_pos (by omega)];show(rows.map dQ)[i]?=_
      rw[List.getElem?_map,hr];rfl
    exact nJ (nJ (nJ (eW h0) rfl (u:=.dat (.lst (rows.map dQ))) (ck:=M) rfl) (eW h2) (u:=.dat (dQ r)) (ck:=M) (by
      show((atI (rows.map dQ) (i:Int)).map λd=>(af.dat d,M))=_
      rw[e];rfl)) rfl rfl
  unfold Gh fJ Ev.bind;rw[vM (HU (e1 _ rfl rfl)) (HU (nJ (eW rfl) (ahR (i:=i) (z:=r.2) rfl rfl (by simp) hz) (u:=.dat (.lst (acc++sV i r.2))) (ck:=M) (by
    unfold bin;simp only[iM];rw[if_pos (by unfold sizeLine;omega)])))]
  rfl
theorem Xi (hz:∀r∈rows,r.2.length<=4)(hn:rows.length<=4):∀(n i:Nat),i+n=rows.length->gv (br 2) (Gh t) (rng (i:Int) n) [.dat (dI k rows),.dat (.lst (gn 0 (rows.take i))),.un,.un,.un] M=.ret (.ok (.nx [.dat (dI k rows),.dat (.lst (gn 0 rows)),.un,.un,.un]) M)
 |0,i,e=>by
  have:rows.take i=rows:=List.take_of_length_le (by omega);rw[this];rfl
 |n+1,i,e=>by
  have hi:i<rows.length:=by omega
  have hr:rows[i]?=some rows[i]:=List.getElem?_eq_getElem hi;have hm:rows[i]∈rows:=List.getElem_mem hi;have ha:(gn 0 (rows.take i)).length<=1000:=by
   have:=Nk (rows.take i) 0 λr hr=>hz r (List.mem_of_mem_take hr)
   have h2:(rows.take i).length<=4:=by rw[List.length_take];omega
   omega
  rw[zZ];unfold gv;simp only[br,List.set_cons_succ,List.set_cons_zero];unfold Ev.bind;rw[ahQ (k:=k) (rows:=rows) hr (hz _ hm) ha];simp only[T.bind,aX,nh];have ih:=Xi hz hn n (i+1) (by omega);have ael:rows.take (i+1)=rows.take i++[rows[i]]:=by rw[List.take_succ,hr];rfl
  rw[ael,WI,List.length_take,Nat.min_eq_left (by omega),Nat.zero_add]at ih;exact ih
theorem aib (b:dW k rows w):aR false 1 5 (D6 t) [.dat (dI k rows)] M=.ret (.ok (.dat (.lst (gn 0 rows))) M):=by
 have h2:=b.h2;have hz:∀r∈rows,r.2.length<=4:=λr hr=>by
  have:=(b.oE r hr).1;have:=b.bK;omega
 have hl:bu (b_ t) (ai (ao aO (ah 0) (λ_=>ok (.dat (.int 1)))) av) [.dat (dI k rows),.dat (.lst []),.un,.un,.un] M=.ret (.ok (.dat (.int (rows.length:Int))) M):=
  vp (s:=.dat (.lst (rows.map dQ))) (nJ (eW rfl) rfl (u:=.dat (.lst (rows.map dQ))) (ck:=M) rfl) (by simp[lenOf]) (by unfold sizeLine;omega)
 have Vu:=Xi (M:=M) (t:=t) (k:=k) hz h2 rows.length 0 (by omega);rw[List.take_zero]at Vu;have e:D6 t [.dat (dI k rows),.un,.un,.un,.un] M=.ret (.ok (.rt (.dat (.lst (gn 0 rows)))) M):=by
  unfold D6;refine vM (HU (s:=.dat (.lst [])) (M1:=M) (by simp[dw,av,Ev.bind,T.bind,aX,R.ok,ofM,gW])) ?_;refine vM (aY:=[.dat (dI k rows),.dat (.lst (gn 0 rows)),.un,.un,.un]) (M1:=M) ?_ ?_
  ·simp only[List.set_cons_succ,List.set_cons_zero]
   unfold fR Ev.bind;rw[CI hl (by omega) (by omega),Int.toNat_natCast];exact Vu
  ·unfold bT Ev.bind
   rw[eW rfl];rfl
 unfold aR;rw[if_pos (show[af.dat (dI k rows)].length=1 from rfl)];show(D6 t [.dat (dI k rows),.un,.un,.un,.un] M).bind _=_
 rw[e];show clean false M.length (.dat _) M=_
 unfold clean
 dsimp only
 rw[gr rfl]
end
theorem aab {a b:Str}(h:a.cps.toList=b.cps.toList):a=b:=by
 obtain⟨⟨a⟩⟩:=a;obtain⟨⟨b⟩⟩:=b;have h:a=b:=h;rw[h]
section
variable{M:List ak}{t:bN}{k e7:Int}{rows CJ:List (Int×Str)}{w xZ:Nat}{ρ:List af}
theorem aeH {b:aN}{d e f_:D}(h:b [.dat d,.dat e] M=.ret (.ok (.rt (.dat f_)) M)):aR false 2 2 b [.dat d,.dat e] M=.ret (.ok (.dat f_) M):=by
 unfold aR;rw[if_pos (show[af.dat d,af.dat e].length=2 from rfl)];show(b [.dat d,.dat e] M).bind _=_
 rw[h];show clean false M.length (.dat f_) M=_
 unfold clean
 dsimp only
 rw[gr rfl]
end
section
variable{M:List ak}
theorem Cl.app {m:ak}(h:Cl M)(hm:pV (M.length+1) m=true)(agn:∀x∈M,pV M.length x=true->pV (M.length+1) x=true):Cl (M++[m]):=by
 unfold Cl closed at *;rw[List.take_length]at h;rw[List.length_append,List.length_singleton,List.take_of_length_le (by simp),List.all_append,Bool.and_eq_true];refine⟨?_,by simpa using hm⟩;rw[List.all_eq_true]at h⊢;exactλx hx=>agn x hx (h x hx)
theorem Eu {n:Nat}{s:af}(h:mO n s=true):mO (n+1) s=true:=by
 cases s<;>simp_all [mO]
 omega
theorem ady {n:Nat}{m:ak}(h:pV n m=true):pV (n+1) m=true:=by
 cases m<;>simp_all [pV]
 ·exactλx hx=>Eu (h x hx)
 ·exactλa b hx=>Eu (h a b hx)
 ·exactλa b hx=>Eu (h a b hx)
 ·exactλa b hx=>Eu (h a b hx)
theorem Cl.lst {ds:List D}(h:Cl M):Cl (M++[.lst (ds.map .dat)]):=h.app (by simp[pV,mO]) λ_ _=>ady
theorem Cl.set {j:Nat}{m:ak}(h:Cl M)(hm:pV M.length m=true):Cl (M.set j m):=by
 unfold Cl closed at *;rw[List.take_length]at h;rw[List.take_length,List.length_set,List.all_eq_true];rw[List.all_eq_true]at h;intro x hx;rcases List.mem_or_eq_of_mem_set hx with e|e
 ·exact h x e
 ·rw[e];exact hm
end
section
variable{α β:Type}{M M1:List ak}{ρ aY:List af}{s s1:af}{i j k:Nat}{Q:Re bW->Prop}
@[simp]theorem uK {m:Ev α}{f:α->Ev β}:Ev.bind m f M=(m M).bind (aX f):=by rw[Ev.bind]
@[simp]theorem bR {a:α}{f:α->T β}:(T.ret a).bind f=f a:=by rw[T.bind]
@[simp]theorem cD {f:α->Ev β}{a:α}:aX f (.ok a M)=f a M:=by rw[aX]
@[simp]theorem aaX {f:α->Ev β}{c:Nat}{fs:List (Str×D)}:aX f (.ex c fs M)=.ret (.ex c fs M):=by rw[aX]
@[simp]theorem Ds {a:α}:R.ok a M=.ret (.ok a M):=by rw[R.ok]
def lM:Option (α×List ak)->T (Re α)
 |some (a,M)=>.ret (.ok a M)
 |none=>.bad
@[simp]theorem vE {a:α}:lM (some (a,M))=.ret (.ok a M):=by rw[lM]
@[simp]theorem Dr {f:List ak->Option (α×List ak)}:ofM f M=lM (f M):=by
 unfold ofM lM;cases f M with
 |none=>rfl
 |some p=>rfl
def Bw:Option af->List ak->T (Re af)
 |some .un,_=>.bad
 |some s,M=>.ret (.ok (fB M s) M)
 |none,_=>.bad
def G8:Option ak->Nat->af
 |some (.fz (some d)),_=>.dat d
 |_,j=>.mu j
@[simp]theorem auI {d:D}:fB M (.dat d)=.dat d:=id rfl
@[simp]theorem aaW:fB M (.mu j)=G8 M[j]? j:=by
 show(match M[j]? with
  |some (.fz (some d))=>af.dat d
  |_=>.mu j)=_
 cases M[j]? with
 |none=>rfl
 |some m=>
  cases m with
  |fz o=>cases o<;>rfl
  |_=>rfl
@[simp]theorem akf {d:D}:G8 (some (.fz (some d))) j=.dat d:=id rfl
@[simp]theorem atE {xs:List af}:G8 (some (.lst xs)) j=.mu j:=id rfl
@[simp]theorem atD:G8 (some .hand) j=.mu j:=id rfl
@[simp]theorem aaQ:ah i ρ M=Bw ρ[i]? M:=by
 unfold ah Bw;cases ρ[i]? with
 |none=>rfl
 |some s=>cases s<;>rfl
@[simp]theorem art {d:D}:Bw (some (.dat d)) M=.ret (.ok (.dat d) M):=id rfl
@[simp]theorem aea:Bw (some (.mu j)) M=.ret (.ok (fB M (.mu j)) M):=id rfl
@[simp]theorem apU:av ρ M=.ret (.ok [] M):=id rfl
def MK (s:af):List af->Ev (List af):=λss=>ok (s::ss)
def V4 (g:aH)(ρ:List af):af->Ev (List af):=λs=>(g ρ).bind (MK s)
@[simp]theorem ahy {ss:List af}:MK s ss M=.ret (.ok (s::ss) M):=id rfl
@[simp]theorem ahx {g:aH}:V4 g ρ s M=(g ρ M).bind (aX (MK s)):=id rfl
@[simp]theorem apR {f:CE}{g:aH}:ai f g ρ M=(f ρ M).bind (aX (V4 g ρ)):=id rfl
def MY (g:List ak->af->Option (af×List ak)):af->Ev af:=λx=>ofM λM=>g M x
@[simp]theorem asF {g:List ak->af->Option (af×List ak)}:MY g s M=lM (g M s):=by unfold MY;rw[Dr]
@[simp]theorem auq {g:List ak->af->Option (af×List ak)}{aE:CE}:cJ g aE ρ M=(aE ρ M).bind (aX (MY g)):=id rfl
def Ci (g:List ak->af->af->Option (af×List ak))(x:af):af->Ev af:=λy=>ofM λM=>g M x y
def Wl (g:List ak->af->af->Option (af×List ak))(bC:CE)(ρ:List af):af->Ev af:=λx=>(bC ρ).bind (Ci g x)
@[simp]theorem xr {g:List ak->af->af->Option (af×List ak)}:Ci g s s1 M=lM (g M s s1):=by unfold Ci;rw[Dr]
@[simp]theorem asJ {g:List ak->af->af->Option (af×List ak)}{bC:CE}:Wl g bC ρ s M=(bC ρ M).bind (aX (Ci g s)):=id rfl
@[simp]theorem aur {g:List ak->af->af->Option (af×List ak)}{aE bC:CE}:ao g aE bC ρ M=(aE ρ M).bind (aX (Wl g bC ρ)):=id rfl
def Wn (g:List af->Ev af):List af->Ev af:=λss=>eT (g ss)
@[simp]theorem ahD {g:List af->Ev af}{ss:List af}:Wn g ss M=(g ss M).bind g5:=id rfl
@[simp]theorem apV {g:List af->Ev af}{fs:aH}:bu g fs ρ M=(fs ρ M).bind (aX (Wn g)):=id rfl
def MZ (g:af->af->Ev af)(x:af):af->Ev af:=λy=>eT (g x y)
def Wm (g:af->af->Ev af)(bC:CE)(ρ:List af):af->Ev af:=λx=>(bC ρ).bind (MZ g x)
@[simp]theorem asI {g:af->af->Ev af}:MZ g s s1 M=(g s s1 M).bind g5:=id rfl
@[simp]theorem asH {g:af->af->Ev af}{bC:CE}:Wm g bC ρ s M=(bC ρ M).bind (aX (MZ g s)):=id rfl
@[simp]theorem aus {g:af->af->Ev af}{aE bC:CE}:yV g aE bC ρ M=(aE ρ M).bind (aX (Wm g bC ρ)):=id rfl
@[simp]theorem apW {a:α}:g5 (.ok a M)=.ret (.ok a M):=id rfl
@[simp]theorem Dq {b:Bool}:jO (.dat (.bl b)) M=.ret (.ok b M):=id rfl
@[simp]theorem Du {f:CE}:bz f ρ M=(f ρ M).bind (aX jO):=id rfl
theorem Cc {c:Prop}[Decidable c]{f g:Ev α}:(if c then f else g) M=if c then f M else g M:=by split<;>rfl
def Wj:Bool->Ev Bool:=λb=>ok (!b)
@[simp]theorem MX {b:Bool}:Wj b M=.ret (.ok (!b) M):=id rfl
@[simp]theorem QK {f:cX}:tNot f ρ M=(f ρ M).bind (aX Wj):=id rfl
def MI (g:cX)(ρ:List af):Bool->Ev Bool:=λb=>if b then g ρ else ok false
def M6 (g:cX)(ρ:List af):Bool->Ev Bool:=λb=>if b then ok true else g ρ
@[simp]theorem aso {g:cX}{b:Bool}:MI g ρ b M=if b=true then g ρ M else .ret (.ok false M):=by unfold MI;rw[Cc];rfl
@[simp]theorem Wo {g:cX}{b:Bool}:M6 g ρ b M=if b=true then .ret (.ok true M)else g ρ M:=by unfold M6;rw[Cc];rfl
@[simp]theorem auS {f g:cX}:tAnd f g ρ M=(f ρ M).bind (aX (MI g ρ)):=id rfl
@[simp]theorem ab0 {f g:cX}:tOr f g ρ M=(f ρ M).bind (aX (M6 g ρ)):=id rfl
def Lb (g:CE)(ρ:List af):af->Ev af:=λs=>match s with
 | .dat (.bl true)=>g ρ
 | .dat (.bl false)=>ok (.dat (.bl false))
 |_=>bad
@[simp]theorem apP {f g:CE}:i9 f g ρ M=(f ρ M).bind (aX (Lb g ρ)):=id rfl
@[simp]theorem ae8 {g:CE}:Lb g ρ (.dat (.bl true)) M=g ρ M:=id rfl
@[simp]theorem T5 {g:CE}:Lb g ρ (.dat (.bl false)) M=.ret (.ok (.dat (.bl false)) M):=id rfl
def Es (gI:CmpOp)(gb:CE)(ρ:List af)(y:af):Option Bool->Ev af
 |some true=>(gb ρ).bind λz=>ofM λM=>cmp gI M y z
 |some false=>ok (.dat (.bl false))
 |none=>bad
def FZ (op gI:CmpOp)(gb:CE)(ρ:List af)(x:af):af->Ev af:=λy M=>Es gI gb ρ y (dh op M x y) M
def MN (op gI:CmpOp)(bC gb:CE)(ρ:List af):af->Ev af:=λx=>(bC ρ).bind (FZ op gI gb ρ x)
@[simp]theorem V6 {op gI:CmpOp}{gb:CE}:FZ op gI gb ρ s s1 M=Es gI gb ρ s1 (dh op M s s1) M:=id rfl
@[simp]theorem V7 {op gI:CmpOp}{bC gb:CE}:MN op gI bC gb ρ s M=(bC ρ M).bind (aX (FZ op gI gb ρ s)):=id rfl
@[simp]theorem aaP {op gI:CmpOp}{aE bC gb:CE}:nW op gI aE bC gb ρ M=(aE ρ M).bind (aX (MN op gI bC gb ρ)):=by
 unfold nW MN FZ Ev.bind
 congr 1;congr 1;funext x M2;congr 1;congr 1;funext y ck
 cases dh op ck x y with
 |none=>rfl
 |some b=>cases b<;>rfl
@[simp]theorem KJ {gI:CmpOp}{gb:CE}{y:af}:Es gI gb ρ y (some true) M=(gb ρ M).bind (aX (Ci (cmp gI) y)):=id rfl
@[simp]theorem Tf {gI:CmpOp}{gb:CE}{y:af}:Es gI gb ρ y (some false) M=.ret (.ok (.dat (.bl false)) M):=id rfl
@[simp]theorem aaZ:dR ρ M=.ret (.ok (.nx ρ) M):=id rfl
@[simp]theorem iF {f g:aN}:aL f g ρ M=(f ρ M).bind (aX (iD g)):=id rfl
@[simp]theorem iS {g:aN}:iD g (.nx ρ) M=g ρ M:=id rfl
def Wt (i:Nat)(ρ:List af):af->Ev bW:=λs=>ok (.nx (ρ.set i s))
@[simp]theorem M_:Wt i ρ s M=.ret (.ok (.nx (ρ.set i s)) M):=id rfl
@[simp]theorem QJ {f:CE}:bL i f ρ M=(f ρ M).bind (aX (Wt i ρ)):=id rfl
def aaj (M:List ak):Option (List af)->T (Re bW)
 |some ρ=>.ret (.ok (.nx ρ) M)
 |none=>.bad
@[simp]theorem au4:aaj M (some ρ)=.ret (.ok (.nx ρ) M):=id rfl
def Nd (g:dX)(ρ:List af):af->Ev bW:=λs=>G_ ((g s ρ).map .nx)
@[simp]theorem asY {g:dX}:Nd g ρ s M=aaj M (g s ρ):=by
 unfold Nd;cases g s ρ<;>rfl
@[simp]theorem auQ {g:dX}{f:CE}:xT g f ρ M=(f ρ M).bind (aX (Nd g ρ)):=id rfl
def M7 (j:Nat)(ρ:List af):af->Ev bW:=λt=>ok (.nx (ρ.set j t))
def Wq (i j:Nat)(g:CE)(ρ:List af):af->Ev bW:=λs=>(g ρ).bind (M7 j (ρ.set i s))
@[simp]theorem asO:M7 j ρ s M=.ret (.ok (.nx (ρ.set j s)) M):=id rfl
@[simp]theorem asN {g:CE}:Wq i j g ρ s M=(g ρ M).bind (aX (M7 j (ρ.set i s))):=id rfl
@[simp]theorem auM {f g:CE}:oA i j f g ρ M=(f ρ M).bind (aX (Wq i j g ρ)):=id rfl
def Ws:af->Ev bW:=λs=>ok (.rt s)
@[simp]theorem asR:Ws s M=.ret (.ok (.rt s) M):=id rfl
@[simp]theorem auP {f:CE}:bT f ρ M=(f ρ M).bind (aX Ws):=id rfl
def V_ (ρ:List af):af->Ev bW:=λ_=>ok (.nx ρ)
@[simp]theorem ahz:V_ ρ s M=.ret (.ok (.nx ρ) M):=id rfl
@[simp]theorem apZ {f:CE}:f5 f ρ M=(f ρ M).bind (aX (V_ ρ)):=id rfl
def MQ (f g:aN)(ρ:List af):Bool->Ev bW:=λb=>if b then f ρ else g ρ
@[simp]theorem MR {f g:aN}{b:Bool}:MQ f g ρ b M=if b=true then f ρ M else g ρ M:=by unfold MQ;rw[Cc]
@[simp]theorem QI {c:cX}{f g:aN}:dj c f g ρ M=(c ρ M).bind (aX (MQ f g ρ)):=id rfl
def F0 (vs:List Nat):bW->Ev bW:=λr=>ok (ud vs r)
@[simp]theorem asw {vs:List Nat}{r:bW}:F0 vs r M=.ret (.ok (ud vs r) M):=id rfl
@[simp]theorem Dt {vs:List Nat}{f:aN}:fJ vs f ρ M=(f ρ M).bind (aX (F0 vs)):=id rfl
@[simp]theorem auz {vs:List Nat}:ud vs (.nx ρ)=.nx (dN ρ vs):=id rfl
@[simp]theorem auV:dN ρ []=ρ:=id rfl
@[simp]theorem auU {v:Nat}{vs:List Nat}:dN ρ (v::vs)=(dN ρ vs).set v .un:=id rfl
@[simp]theorem tP {k:List af->Ev bW}:nh k (.nx ρ) M=k ρ M:=id rfl
def UD (g:dX)(b:aN)(ρ:List af):Its->Ev bW
 | .data ds=>gv g b ds ρ
 | .live n item fin=>forL item fin g b n 0 ρ
@[simp]theorem vY {fi:jt}{g:dX}{b:aN}:fR fi g b ρ M=(fi ρ M).bind (aX (UD g b ρ)):=by
 unfold fR Ev.bind;rfl
@[simp]theorem vX {g:dX}{b:aN}{ds:List D}:UD g b ρ (.data ds) M=gv g b ds ρ M:=id rfl
theorem uL {g:dX}{b:aN}{d:D}{ds:List D}(h:g (.dat d) ρ=some aY):gv g b (d::ds) ρ M=(b aY M).bind (aX (nh (gv g b ds))):=by
 rw[gv,h];rfl
@[simp]theorem auB {i:Nat}:br i s ρ=some (ρ.set i s):=id rfl
def Mx:af->Ev Its
 | .dat (.int n)=>if -(2^62)<=n/\n<2^62 then ok (.data (rng 0 n.toNat))else bad
 |_=>bad
@[simp]theorem auF {f:CE}:fX f ρ M=(f ρ M).bind (aX Mx):=by
 unfold fX Ev.bind;rfl
@[simp]theorem agR {n:Int}(h0:-1000000<=n)(h1:n<=1000000):Mx (.dat (.int n)) M=.ret (.ok (.data (rng 0 n.toNat)) M):=by
 unfold Mx
 dsimp only
 rw[if_pos ⟨by omega,by omega⟩];rfl
def zm (M:List ak):Option Its->T (Re Its)
 |some its=>.ret (.ok its M)
 |none=>.bad
def Wg:af->Ev Its:=λs M=>zm M (qf M s)
def Wf:af->Ev Its:=λs M=>zm M (sJ M s)
@[simp]theorem asA:Wg s M=zm M (qf M s):=id rfl
@[simp]theorem asz:Wf s M=zm M (sJ M s):=id rfl
@[simp]theorem auG {f:CE}:cF f ρ M=(f ρ M).bind (aX Wg):=by
 unfold cF Ev.bind
 congr 1
@[simp]theorem auE {f:CE}:mj f ρ M=(f ρ M).bind (aX Wf):=by
 unfold mj Ev.bind
 congr 1
@[simp]theorem as7 {its:Its}:zm M (some its)=.ret (.ok its M):=id rfl
@[simp]theorem asd {ds:List D}:qf M (.dat (.lst ds))=some (.data ds):=id rfl
@[simp]theorem ase {ds:List D}:qf M (.dat (.tup ds))=some (.data ds):=id rfl
@[simp]theorem aru {ds:List D}:sJ M (.dat (.lst ds))=some (.data (fq 0 ds)):=id rfl
@[simp]theorem arv {ds:List D}:sJ M (.dat (.tup ds))=some (.data (fq 0 ds)):=id rfl
@[simp]theorem apQ {F:aM}{fs:aH}:bB F fs ρ M=(fs ρ M).bind (aX F):=id rfl
end
@[simp]theorem tE:sizeLine=16777216:=by decide
section
variable{α β:Type}{M M1:List ak}{ρ aY:List af}{s s1:af}{i j k:Nat}{x y:Int}{u z:Str}{b c:Bool}{d e:D}{ds es:List D}{t:bN}
@[simp]theorem aqD {a:α}{Q:α->Prop}:W (.ret a) Q=Q a:=qH
def Ww (f:α->T β)(Q:β->Prop):α->Prop:=λa=>W (f a) Q
@[simp]theorem at0 {f:α->T β}{Q:β->Prop}{a:α}:Ww f Q a=W (f a) Q:=id rfl
@[simp]theorem aqC {t:T α}{f:α->T β}{Q:β->Prop}:W (t.bind f) Q=W t (Ww f Q):=propext acj
@[simp]theorem acI:bin .Add M (.dat (.int x)) (.dat (.int y))=some (.dat (.int (x+y)),M):=id rfl
@[simp]theorem aqL (h:ds.length+es.length<=16777216):bin .Add M (.dat (.tup ds)) (.dat (.tup es))=some (.dat (.tup (ds++es)),M):=by
 show(if ds.length+es.length<=sizeLine then some (af.dat (D.tup (ds++es)),M)else none)=_
 rw[if_pos (by rw[tE];exact h)]
@[simp]theorem Ej (h:ds.length+es.length<=16777216):bin .Add M (.dat (.lst ds)) (.dat (.lst es))=some (.dat (.lst (ds++es)),M):=by
 show(if ds.length+es.length<=sizeLine then some (af.dat (D.lst (ds++es)),M)else none)=_
 rw[if_pos (by rw[tE];exact h)]
@[simp]theorem acJ (h0:0<=x)(h1:x<=1000)(h2:u.length<=1000):bin .Mult M (.dat (.str u)) (.dat (.int x))=some (.dat (.str (Txt.mul u x)),M):=by
 show(if -(2^63)<=x/\x<=16777216/\u.length*x.toNat<=16777216 then some (af.dat (.str (Txt.mul u x)),M)else none)=_
 have hx:x.toNat<=1000:=by omega
 have:=Nat.mul_le_mul h2 hx;rw[if_pos ⟨by omega,by omega,by omega⟩]
def KU (M:List ak):Option Bool->Option (af×List ak)
 |some b=>some (.dat (.bl b),M)
 |none=>none
@[simp]theorem auc {op:CmpOp}{s s1:af}:cmp op M s s1=KU M (dh op M s s1):=by
 unfold cmp KU;cases dh op M s s1<;>rfl
@[simp]theorem ar4:KU M (some b)=some (.dat (.bl b),M):=id rfl
@[simp]theorem arb:dh .Lt M (.dat (.int x)) (.dat (.int y))=some (decide (x<y)):=id rfl
@[simp]theorem ara:dh .LtE M (.dat (.int x)) (.dat (.int y))=some (decide (x<=y)):=id rfl
@[simp]theorem ar8:dh .Gt M (.dat (.int x)) (.dat (.int y))=some (decide (y<x)):=id rfl
@[simp]theorem ar6:dh .Eq M (.dat (.int x)) (.dat (.int y))=some (decide (x=y)):=id rfl
@[simp]theorem ar7:dh .Eq M (.dat (.str u)) (.dat (.str z))=some (decide (u=z)):=id rfl
@[simp]theorem ar5:dh .Eq M (.dat (.bl b)) (.dat (.bl c))=some (b==c):=by cases b<;>cases c<;>rfl
@[simp]theorem arc:dh .NotEq M (.dat (.bl b)) (.dat (.bl c))=some (!(b==c)):=by cases b<;>cases c<;>rfl
@[simp]theorem ar9:dh .Is M (.dat d) (.dat .non)=some (isNon d):=by cases d<;>rfl
@[simp]theorem asa:isNon (.int x)=false:=id rfl
@[simp]theorem asb:isNon (.str u)=false:=id rfl
@[simp]theorem as9:isNon (.bl b)=false:=id rfl
def zE (m:Bool)(ss:List af)(M:List ak):T (Re af):=if ss.length<=16777216 then(if m then .ret (.ok (.mu M.length) (M++[.lst ss]))else match gW M ss with
 |some (ds,az)=>.ret (.ok (.dat (.lst ds)) az)
 |none=>.bad)else .bad
@[simp]theorem aum {m:Bool}{f:aH}:dw m f ρ M=(f ρ M).bind (aX (zE m)):=by
 unfold dw Ev.bind
 congr 1;congr 1;funext ss M2
 unfold ofM zE
 dsimp only
 all_goals (
  rw[tE];by_cases h:ss.length<=16777216
  ·rw[if_pos h,if_pos h]
   cases m with
   |true=>rfl
   |false=>
    simp only[Bool.false_eq_true,if_false];cases gW M2 ss with
    |none=>rfl
    |some p=>rfl
  ·rw[if_neg h,if_neg h])
@[simp]theorem atn {ss:List af}(h:ss.length<=16777216):zE true ss M=.ret (.ok (.mu M.length) (M++[.lst ss])):=by
 unfold zE;rw[if_pos h];rfl
def XS:Option (List D×List ak)->T (Re af)
 |some (ds,az)=>.ret (.ok (.dat (.lst ds)) az)
 |none=>.bad
@[simp]theorem ato:XS (some (ds,M))=.ret (.ok (.dat (.lst ds)) M):=id rfl
@[simp]theorem atm {ss:List af}(h:ss.length<=16777216):zE false ss M=XS (gW M ss):=by
 unfold zE;rw[if_pos h];rfl
def tG (M:List ak):Option (List D×List ak)->T (Re af)
 |some (ds,az)=>if ds.length<=16777216 then .ret (.ok (.dat (.tup ds)) az)else .bad
 |none=>.bad
def kTup:List af->Ev af:=λss M=>tG M (gW M ss)
@[simp]theorem asZ {ss:List af}:kTup ss M=tG M (gW M ss):=id rfl
@[simp]theorem auw {f:aH}:dg f ρ M=(f ρ M).bind (aX kTup):=by
 unfold dg kTup Ev.bind
 congr 1;congr 1;funext ss M2
 unfold ofM tG
 dsimp only
 all_goals (
  rw[tE];cases gW M2 ss with
  |none=>rfl
  |some p=>
   obtain⟨ds,az⟩:=p
   dsimp only
   by_cases h:ds.length<=16777216
   ·rw[if_pos h,if_pos h]
   ·rw[if_neg h,if_neg h])
@[simp]theorem aua (h:ds.length<=16777216):tG M (some (ds,M1))=.ret (.ok (.dat (.tup ds)) M1):=by
 unfold tG;dsimp only;rw[if_pos h]
@[simp]theorem arO:gW M []=some ([],M):=id rfl
def UP (r:List af):Option (D×List ak)->Option (List D×List ak)
  |some (d,M1)=>match gW M1 r with
      |some (ds,M2)=>some (d::ds,M2)
      |none=>none
  |none=>none
@[simp]theorem aeS {r:List af}:gW M (s::r)=UP r (iJ M s):=by
 rw[gW];rfl
def UQ (d:D):Option (List D×List ak)->Option (List D×List ak)
 |some (ds,M2)=>some (d::ds,M2)
 |none=>none
@[simp]theorem arN {r:List af}:UP r (some (d,M))=UQ d (gW M r):=id rfl
@[simp]theorem arM:UQ d (some (ds,M))=some (d::ds,M):=id rfl
@[simp]theorem UO:iJ M (.dat d)=some (d,M):=id rfl
def Fd (M:List ak)(j:Nat):Option ak->Option (D×List ak)
  |some m=>match oW M m with
      |some d=>some (d,M.set j (.fz (some d)))
      |none=>none
  |none=>none
@[simp]theorem arL:iJ M (.mu j)=Fd M j M[j]?:=by
 unfold iJ Fd
 dsimp only
 all_goals (
  cases M[j]?<;>rfl)
def Lv (M:List ak)(j:Nat):Option D->Option (D×List ak)
 |some d=>some (d,M.set j (.fz (some d)))
 |none=>none
@[simp]theorem arJ {m:ak}:Fd M j (some m)=Lv M j (oW M m):=by
 unfold Fd Lv
 dsimp only
@[simp]theorem arK:Lv M j (some d)=some (d,M.set j (.fz (some d))):=id rfl
@[simp]theorem arQ {xs:List af}:oW M (.lst xs)=(qQ M xs).map .lst:=id rfl
@[simp]theorem arP {c:Nat}{xs:List (Str×af)}:oW M (.ins c xs)=(oR M xs).map (.ins c):=id rfl
@[simp]theorem asn:aO M (.dat (.tup ds)) (.dat (.int x))=(atI ds x).map λd=>(.dat d,M):=id rfl
@[simp]theorem ash:aO M (.dat (.lst ds)) (.dat (.int x))=(atI ds x).map λd=>(.dat d,M):=id rfl
@[simp]theorem asm (h:z.length<=16777216):aO M (.dat (.str z)) (.dat (.int x))=(atI z.cps.toList x).map λc=>(.dat (.str ⟨#[c]⟩),M):=by
 show(if z.length<=sizeLine then(atI z.cps.toList x).map λc=>(af.dat (.str ⟨#[c]⟩),M)else none)=_
 rw[tE,if_pos h]
@[simp]theorem aqI {a:α}{r:List α}:atI (a::r) 0=some a:=by
 unfold atI ixN;rw[if_pos (by omega),if_pos (by simp only[List.length_cons];omega)];rfl
@[simp]theorem aqJ {a a1:α}{r:List α}:atI (a::a1::r) 1=some a1:=by
 unfold atI ixN;rw[if_pos (by omega),if_pos (by simp only[List.length_cons];omega)];rfl
theorem atI_nat {xs:List α}{a:α}(h:xs[i]?=some a):atI xs (i:Int)=some a:=by
 have hk:=(List.getElem?_eq_some_iff.mp h).1;unfold atI ixN;rw[if_pos (by omega),if_pos (by omega)];exact h
theorem AO {f:α->β}{xs:List α}{x:Int}:atI (xs.map f) x=(atI xs x).map f:=by
 unfold atI;rw[List.length_map];cases ixN xs.length x with
 |none=>rfl
 |some k=>simp
@[simp]theorem ate:lenOf M (.dat (.tup ds))=some ds.length:=id rfl
@[simp]theorem atc:lenOf M (.dat (.lst ds))=some ds.length:=id rfl
def Ny:Option ak->Option Nat
 |some (.lst xs)=>some xs.length
 |_=>none
@[simp]theorem atd:lenOf M (.mu j)=Ny M[j]?:=by
 unfold lenOf Ny
 dsimp only
 all_goals (
  cases M[j]? with
  |none=>rfl
  |some m=>cases m<;>rfl)
@[simp]theorem ata {xs:List af}:Ny (some (.lst xs))=some xs.length:=id rfl
def xy (t:bN)(s:af)(M:List ak):Option Nat->T (Re af)
  |some n=>if n<=16777216 then .ret (.ok (.dat (.int (n:Nat))) M)else .bad
  |none=>match clsAt M s with
      |some c=>match t.lookup c with
        |some F=>(F [s] M).bind wK
        |none=>.bad
      |none=>.bad
@[simp]theorem auH:b_ t [s] M=xy t s M (lenOf M s):=by
 unfold b_ xy
 dsimp only
 all_goals (
  rw[tE]
  all_goals (cases lenOf M s<;>rfl))
@[simp]theorem at9 {n:Nat}(h:n<=16777216):xy t s M (some n)=.ret (.ok (.dat (.int (n:Nat))) M):=by
 unfold xy;dsimp only;rw[if_pos h]
@[simp]theorem apY {g:List ak->List af->Option (af×List ak)}{ss:List af}:pu g ss M=lM (g M ss):=by
 rw[pu,Dr]
@[simp]theorem XO:iM M (.dat (.lst ds))=some ds:=id rfl
@[simp]theorem ae2 {r:List af}:qR (.dat d::r)=(qR r).map (d::·):=id rfl
@[simp]theorem TX:qR (ds.map .dat)=some ds:=by
 induction ds with
 |nil=>rfl
 |cons d r ih=>rw[List.map_cons,ae2,ih];rfl
@[simp]theorem ati {m:Bool}:sX m M [s]=(iM M s).map λds=>d9 m M ds:=id rfl
@[simp]theorem GJ:d9 false M ds=(.dat (.lst ds),M):=id rfl
def DZ (bC:CE)(ρ:List af)(x:af):Option (Nat×List af)->Ev af
 |some _=>(bC ρ).bind λs=>ofM λM2=>match fY x M2 with
  |some (j,aB)=>if aB.length<16777216 then some (.dat .non,M2.set j (.lst (aB++[s])))else none
  |none=>none
 |none=>bad
def MJ (bC:CE)(ρ:List af):af->Ev af:=λx M=>DZ bC ρ x (fY x M) M
@[simp]theorem asq {bC:CE}:MJ bC ρ s M=DZ bC ρ s (fY s M) M:=id rfl
@[simp]theorem aud {aE bC:CE}:sH aE bC ρ M=(aE ρ M).bind (aX (MJ bC ρ)):=by
 unfold sH MJ Ev.bind
 congr 1;congr 1;funext x M2
 unfold DZ;rw[tE];cases fY x M2<;>rfl
def D0 (s:af)(M:List ak):Option (Nat×List af)->Option (af×List ak)
 |some (j,aB)=>if aB.length<16777216 then some (.dat .non,M.set j (.lst (aB++[s])))else none
 |none=>none
def V3 (x:af):af->Ev af:=λs M=>lM (D0 s M (fY x M))
@[simp]theorem asp {x:af}:V3 x s M=lM (D0 s M (fY x M)):=id rfl
@[simp]theorem aqG {bC:CE}{x:af}{p:Nat×List af}:DZ bC ρ x (some p) M=(bC ρ M).bind (aX (V3 x)):=by
 show(bC ρ M).bind (aX _)=_
 congr 1
@[simp]theorem aqH {aB:List af}(h:aB.length<16777216):D0 s M (some (j,aB))=some (.dat .non,M.set j (.lst (aB++[s]))):=by
 unfold D0;dsimp only;rw[if_pos h]
def NW (j:Nat):Option ak->Option (Nat×List af)
 |some (.lst xs)=>some (j,xs)
 |_=>none
@[simp]theorem atw:fY (.mu j) M=NW j M[j]?:=by
 unfold fY NW
 dsimp only
 all_goals (
  cases M[j]? with
  |none=>rfl
  |some m=>cases m<;>rfl)
@[simp]theorem atv {xs:List af}:NW j (some (.lst xs))=some (j,xs):=id rfl
def Lm (f:Str)(cs:List Nat)(M:List ak)(s:af):Option Nat->Option (af×List ak)
 |some c=>if cs.contains c then qV f M s else none
 |none=>none
def Wc (f:Str)(cs:List Nat):af->Ev af:=λs M=>lM (Lm f cs M s (clsAt M s))
@[simp]theorem asy {f:Str}{cs:List Nat}:Wc f cs s M=lM (Lm f cs M s (clsAt M s)):=id rfl
@[simp]theorem arE {f:Str}{cs:List Nat}{c:Nat}:Lm f cs M s (some c)=if cs.contains c=true then qV f M s else none:=id rfl
@[simp]theorem auj {f:Str}{cs:List Nat}{aE:CE}:j5 f cs aE ρ M=(aE ρ M).bind (aX (Wc f cs)):=by
 rw[j5,uK];rfl
def Hw (t:bN)(o:af)(M:List ak):Option Nat->T (Re af)
 |some c=>match t.lookup c with
  |some F=>(F [o] M).bind g5
  |none=>.bad
 |none=>.bad
def M9 (t:bN):af->Ev af:=λo M=>Hw t o M (clsAt M o)
@[simp]theorem asQ:M9 t s M=Hw t s M (clsAt M s):=id rfl
@[simp]theorem aut {aE:CE}:vd t aE ρ M=(aE ρ M).bind (aX (M9 t)):=by
 unfold vd M9 Ev.bind
 congr 1
def GH (t:bN)(o:af)(M:List ak):Option Nat->T (Re af)
 |some c=>match t.lookup c with
  |some F=>F [o] M
  |none=>.bad
 |none=>.bad
def MV (m:Str)(t:bN):af->Ev af:=λo M=>GH t o M (k_ M m o)
@[simp]theorem asB {m:Str}:MV m t s M=GH t s M (k_ M m s):=id rfl
@[simp]theorem aup {m:Str}{aE:CE}:m_ m t aE ρ M=(aE ρ M).bind (aX (MV m t)):=by
 unfold m_ MV Ev.bind
 congr 1
def MW (F:aM)(o:af):List af->Ev af:=λss=>F (o::ss)
@[simp]theorem asC {F:aM}{o:af}{ss:List af}:MW F o ss M=F (o::ss) M:=id rfl
def Ct (t:bN)(fs:aH)(ρ:List af)(o:af):Option Nat->Ev af
 |some c=>match t.lookup c with
  |some F=>(fs ρ).bind (MW F o)
  |none=>bad
 |none=>bad
def MU (m:Str)(t:bN)(fs:aH)(ρ:List af):af->Ev af:=λo M=>Ct t fs ρ o (k_ M m o) M
@[simp]theorem asE {m:Str}{fs:aH}:MU m t fs ρ s M=Ct t fs ρ s (k_ M m s) M:=id rfl
@[simp]theorem auo {m:Str}{aE:CE}{fs:aH}:yU m t aE fs ρ M=(aE ρ M).bind (aX (MU m t fs ρ)):=by
 unfold yU MU Ev.bind
 congr 1;congr 1;funext o M2
 unfold Ct;cases k_ M2 m o with
 |none=>rfl
 |some c=>dsimp only;cases t.lookup c<;>rfl
@[simp]theorem atP {c:Nat}{F:aM}{o:af}:Hw [(c,F)] o M (some c)=(F [o] M).bind g5:=by
 unfold Hw;simp[List.lookup]
@[simp]theorem atq {c:Nat}{F:aM}{o:af}:GH [(c,F)] o M (some c)=F [o] M:=by
 unfold GH;simp[List.lookup]
@[simp]theorem atr {c:Nat}{F:aM}{o:af}{fs:aH}:Ct [(c,F)] fs ρ o (some c) M=(fs ρ M).bind (aX (MW F o)):=by
 unfold Ct;simp[List.lookup]
def Cf (fz:Bool)(c:Nat)(F:aM):List af->Ev af:=λss M=>(F (.mu M.length::ss) (M++[.ins c []])).bind (ur fz M.length)
@[simp]theorem kMak_r {fz:Bool}{c:Nat}{F:aM}{ss:List af}:Cf fz c F ss M=(F (.mu M.length::ss) (M++[.ins c []])).bind (ur fz M.length):=id rfl
@[simp]theorem aun {fz:Bool}{c:Nat}{F:aM}{fs:aH}:Bu fz c F fs ρ M=(fs ρ M).bind (aX (Cf fz c F)):=by rw[Bu,uK];rfl
end
section
variable{α β:Type}{M M1 M2:List ak}{ρ aY:List af}{s s1:af}{i j k n:Nat}{x y:Int}{u z:Str}{b c:Bool}{d e:D}{ds es:List D}{t:bN}
def Gm (m:Bool)(g:dX)(t:cX)(e:CE)(ρ:List af)(its:Its):Ev af:=if its.n<16777216 then Ev.bind (gS its (jr g t e ρ) 0) λds=>ofM λM=>some (d9 m M ds)else bad
@[simp]theorem apT {m:Bool}{own:List Nat}{fi:jt}{g:dX}{t:cX}{e:CE}:cV m own fi g t e ρ M=(fi ρ M).bind (aX (Gm m g t e (dN ρ own))):=by
 unfold cV Gm;rw[uK,tE]
def Wi (m:Bool):List D->Ev af:=λds M=>lM (some (d9 m M ds))
@[simp]theorem F4 {m:Bool}:Wi m ds M=lM (some (d9 m M ds)):=id rfl
@[simp]theorem aij {m:Bool}{g:dX}{t:cX}{e:CE}(h:ds.length<16777216):Gm m g t e ρ (.data ds) M=(pW (jr g t e ρ) ds M).bind (aX (Wi m)):=by
 unfold Gm;rw[if_pos (show(Its.data ds).n<16777216 from h),uK];rfl
theorem Bg {turn:af->Ev (List D)}{f h:α->D}:∀{xs:List α},(∀x∈xs,turn (.dat (f x)) M=.ret (.ok [h x] M))->pW turn (xs.map f) M=.ret (.ok (xs.map h) M)
 |[],_=>rfl
 |x::r,q=>by
  rw[List.map_cons,pW,uK,q x List.mem_cons_self,bR,cD,uK,Bg λy hy=>q y (List.mem_cons_of_mem _ hy)];rfl
theorem t7 {turn:af->Ev (List D)}{f h:α->D}{p:α->Bool}:∀{xs:List α},(∀x∈xs,turn (.dat (f x)) M=.ret (.ok (if p x then[h x]else[]) M))->pW turn (xs.map f) M=.ret (.ok ((xs.filter p).map h) M)
 |[],_=>rfl
 |x::r,q=>by
  rw[List.map_cons,pW,uK,q x List.mem_cons_self,bR,cD,uK,t7 λy hy=>q y (List.mem_cons_of_mem _ hy)];cases e:p x with
  |true=>rw[List.filter_cons_of_pos e];rfl
  |false=>rw[List.filter_cons_of_neg (by rw[e];decide)];rfl
def Oq (t:cX)(e:CE):Option (List af)->Ev (List D)
 |some aY=>Ev.bind (eT (t aY)) λk=>if k then Ev.bind (eT (Ev.bind (e aY) frz)) λd=>ok [d]else ok []
 |none=>bad
@[simp]theorem auL {g:dX}{t:cX}{e:CE}:jr g t e ρ s M=Oq t e (g s ρ) M:=by
 unfold jr Oq;cases g s ρ<;>rfl
def M5:D->Ev (List D):=λd=>ok [d]
def M4 (e:CE)(ρ:List af):Bool->Ev (List D):=λk=>if k then Ev.bind (eT (Ev.bind (e ρ) frz)) M5 else ok []
@[simp]theorem asL:M5 d M=.ret (.ok [d] M):=id rfl
@[simp]theorem asM {e:CE}:M4 e ρ b M=if b=true then(((e ρ M).bind (aX frz)).bind g5).bind (aX M5)else .ret (.ok [] M):=by unfold M4;rw[Cc];rfl
@[simp]theorem atM {t:cX}{e:CE}:Oq t e (some ρ) M=((t ρ M).bind g5).bind (aX (M4 e ρ)):=by
 show(Ev.bind (eT (t ρ)) _) M=_
 rw[uK];rfl
@[simp]theorem auT:fc ρ M=.ret (.ok true M):=id rfl
@[simp]theorem auA:frz s M=lM (iJ M s):=by rw[frz,Dr]
@[simp]theorem arR {n:Nat}{f:List D->List af->Option (List af)}(h:ds.length=n):gH n f (.dat (.tup ds)) ρ=f ds ρ:=by
 show(if ds.length=n then f ds ρ else none)=_
 rw[if_pos h]
@[simp]theorem auD:gY [] ρ=some ρ:=id rfl
def LM (g:List D->List af->Option (List af))(ds:List D):Option (List af)->Option (List af)
 |some aY=>g ds aY
 |none=>none
@[simp]theorem auC {f:dX}{g:List D->List af->Option (List af)}:cZ f g (d::ds) ρ=LM g ds (f (.dat d) ρ):=by
 unfold cZ LM
 dsimp only
 all_goals (cases f (.dat d) ρ<;>rfl)
@[simp]theorem arW {g:List D->List af->Option (List af)}:LM g ds (some ρ)=g ds ρ:=id rfl
theorem jG {m:Bool}{np n:Nat}{b:aN}{ss:List af}(h:ss.length=np):aR m np n b ss M=(b (ss++List.replicate (n-np) .un) M).bind (mD m M.length):=by
 unfold aR;rw[if_pos h]
@[simp]theorem mU {m:Bool}:mD m n (.ok (.rt (.dat d)) M)=.ret (.ok (.dat d) (cut n M)):=id rfl
@[simp]theorem HF {m:Bool}:mD m n (.ok (.nx ρ) M)=.ret (.ok (.dat .non) (cut n M)):=id rfl
@[simp]theorem OQ {m:Bool}{c:Nat}{fs:List (Str×D)}:mD m n (.ex c fs M)=.ret (.ex c fs (cut n M)):=id rfl
def Be (n:Nat):Option (D×List ak)->T (Re af)
 |some (d,az)=>.ret (.ok (.dat d) (cut n az))
 |none=>.bad
@[simp]theorem aqV:Be n (some (d,M))=.ret (.ok (.dat d) (cut n M)):=id rfl
theorem Zx (h:n<=j):mD false n (.ok (.rt (.mu j)) M)=Be n (iJ M (.mu j)):=by
 show clean false n (.mu j) M=_
 unfold clean Be
 dsimp only
 rw[if_neg (by omega)];simp only[Bool.false_eq_true,if_false]
 all_goals (cases iJ M (.mu j)<;>rfl)
@[simp]theorem aln:mD false M1.length (.ok (.rt (.mu M1.length)) M)=Be M1.length (iJ M (.mu M1.length)):=Zx (Nat.le_refl _)
@[simp]theorem alm:mD false M1.length (.ok (.rt (.mu (M1.length+i))) M)=Be M1.length (iJ M (.mu (M1.length+i))):=Zx (Nat.le_add_right _ _)
def NT (n:Nat):Option (D×List ak)->T (Re af)
 |some (d,M2)=>.ret (.ok (.dat d) (cut n M2))
 |none=>.bad
@[simp]theorem ats:NT n (some (d,M))=.ret (.ok (.dat d) (cut n M)):=id rfl
@[simp]theorem ajD:ur true n (.ok (.dat .non) M)=NT n (iJ M (.mu n)):=by
 unfold ur NT;simp only[if_true]
 all_goals (cases iJ M (.mu n)<;>rfl)
@[simp]theorem ajC {fz:Bool}{c:Nat}{fs:List (Str×D)}:ur fz n (.ex c fs M)=.ret (.ex c fs (cut n M)):=id rfl
@[simp]theorem K2 {xs:List ak}(h:Cl M):cut M.length (M++xs)=M:=K3 h
@[simp]theorem aro {f:α->D}{xs:List α}:qQ M (xs.map (af.dat∘f))=some (xs.map f):=by
 rw[<-List.map_map];exact EL _ _
@[simp]theorem arp {f:α->D}{xs:List α}:qQ M (xs.map λx=>af.dat (f x))=some (xs.map f):=by
 have:=EL M (xs.map f);rwa[List.map_map]at this
@[simp]theorem asj {k:Int}{rows:List (Int×Str)}:aO M (.dat (dI k rows)) (.dat (.int 0))=some (.dat (.int k),M):=id rfl
@[simp]theorem asl {k:Int}{rows:List (Int×Str)}:aO M (.dat (dI k rows)) (.dat (.int 1))=some (.dat (.lst (rows.map dQ)),M):=id rfl
@[simp]theorem as8 {k:Int}{rows:List (Int×Str)}:D.ins 0 (u7 k rows)=aP k rows:=id rfl
@[simp]theorem ark {fs:List (Str×D)}:oR M (fs.map λp=>(p.1,af.dat p.2))=some fs:=TV fs
@[simp]theorem ar1 {k:Int}{rows:List (Int×Str)}:clsAt M (.dat (aP k rows))=some 0:=id rfl
@[simp]theorem atb {k:Int}{rows:List (Int×Str)}:lenOf M (.dat (aP k rows))=none:=id rfl
theorem ain {c:Nat}{F:aM}(h:clsAt M s=some c):xy [(c,F)] s M none=(F [s] M).bind wK:=by
 unfold xy;simp[h,List.lookup]
@[simp]theorem at8 {F:aM}{k:Int}{rows:List (Int×Str)}:xy [(0,F)] (.dat (aP k rows)) M none=(F [.dat (aP k rows)] M).bind wK:=ain rfl
end
section
variable{M:List ak}{ρ:List af}
@[simp]theorem insAt_board {m:Str}{k:Int}{rows:List (Int×Str)}:k_ M m (.dat (aP k rows))=if((u7 k rows).lookup m).isNone then some 0 else none:=id rfl
theorem SH {m:Str}{k:Int}{rows:List (Int×Str)}(h:m≠"own_ticks"/\m≠"own_places"/\m≠"own_signs"/\m≠"own_text"/\m≠"own_keys"):((u7 k rows).lookup m).isNone=true:=by
 have b:∀a:Str,m≠a->(m==a)=false:=λa h=>by simpa using h
 unfold u7;simp only[List.lookup,b _ h.1,b _ h.2.1,b _ h.2.2.1,b _ h.2.2.2.1,b _ h.2.2.2.2];rfl
end
def aI (p:Int×Int):D:=.tup [.int p.1,.int p.2]
def nA (i:Nat)(z:Str):List (Int×Int):=((List.range z.length).filter λc=>decide (z.cps.toList[c]?≠some 46)).map λc:Nat=>((i:Int),(c:Int))
def bG:Nat->List (Int×Str)->List (Int×Int)
 |_,[]=>[]
 |i,r::rows=>nA i r.2++bG (i+1) rows
theorem ahK (i:Nat)(z:Str):sV i z=(nA i z).map aI:=by
 rw[<-WJ];unfold rng nA;generalize List.range z.length=l;induction l with
 |nil=>rfl
 |cons c r ih=>
  have e0:((0:Int)+(c:Nat))=((c:Nat):Int):=by omega
  rw[List.map_cons,List.flatMap_cons,ih,e0];unfold w5;simp only[Int.toNat_natCast];by_cases h:z.cps.toList[c]?=some 46
  ·rw[if_pos h,List.filter_cons_of_neg (by rw[decide_eq_false (λq=>q h)];decide)];rfl
  ·rw[if_neg h,List.filter_cons_of_pos (p:=λc=>decide (z.cps.toList[c]?≠some 46)) (decide_eq_true h)];rfl
theorem zu:∀(rows:List (Int×Str)) (i:Nat),gn i rows=(bG i rows).map aI
 |[],_=>rfl
 |r::rows,i=>by rw[gn,bG,List.map_append,ahK,zu rows (i+1)]
section
variable{M:List ak}{t:bN}{lk:aM}
theorem aiY {d:D}(h:good 0 d=true):aR false 2 3 (mL lk t) [.dat d,.dat d] M=.ret (.ok (.dat (.bl true)) M):=by
 have key:mL lk t [.dat d,.dat d,.un] M=.ret (.ok (.rt (.dat (.bl true))) M):=by
  cases d with
  |non=>rfl
  |bl b=>
   have i1:∀b,isB (.bl b) ["list","tuple"] false:=λb M=>rfl
   have kZ:∀b,isB (.bl b) ["bool"] true:=λb M=>rfl
   have nv:∀b,isB (.bl b) ["int"] true:=λb M=>rfl
   have rm:∀b,isB (.bl b) ["str"] false:=λb M=>rfl
   simp[mL,i1 b M,kZ b M,nv b M,rm b M]
  |int i=>
   have i1:isB (.int i) ["list","tuple"] false:=λM=>rfl
   have kZ:isB (.int i) ["bool"] false:=λM=>rfl
   have nv:isB (.int i) ["int"] true:=λM=>rfl
   have rm:isB (.int i) ["str"] false:=λM=>rfl
   simp[mL,i1 M,kZ M,nv M,rm M]
  |str z=>
   have i1:isB (.str z) ["list","tuple"] false:=λM=>rfl
   have kZ:isB (.str z) ["bool"] false:=λM=>rfl
   have nv:isB (.str z) ["int"] false:=λM=>rfl
   have rm:isB (.str z) ["str"] true:=λM=>rfl
   simp[mL,i1 M,kZ M,nv M,rm M]
  |_=>cases h
 rw[jG (by rfl)];show(mL lk t [.dat d,.dat d,.un] M).bind _=_
 rw[key,bR,mU,gr rfl]
theorem XA {L:Nat->aM}{tt:Nat->bN}(hL:∀n,L (n+1)=aR false 2 3 (mL (L n) (tt n))):∀(k n:Nat) (d:D),k<=n->good k d=true->L (n+1) [.dat d,.dat d] M=.ret (.ok (.dat (.bl true)) M)
 |0,n,d,_,h=>by rw[hL];exact aiY h
 |k+1,0,d,hk,h=>by omega
 |k+1,n+1,d,hk,h=>by
  rw[hL];exact aj0 (k:=k) (λd hd=>XA hL k n d (by omega) hd) h
end
theorem acq {m:Bool}{np n:Nat}{b:aN}{ss:List af}{M:List ak}{Q:Re af->Prop}(e:ss.length=np)(h:W (b (ss++List.replicate (n-np) .un) M) λr=>W (mD m M.length r) Q):W (aR m np n b ss M) Q:=Si e h
section
variable{α β:Type}{M M1:List ak}{ρ:List af}{s:af}{i j n c:Nat}{d:D}{ds ws:List D}{fs:List (Str×D)}{F:aM}{eO:r9}{code fld f:Str}{x y:Int}
@[simp]theorem auO {kO:CE}:mV c code fld kO ρ M=(ai kO av ρ M).bind (aX (E4 c code fld)):=id rfl
@[simp]theorem arz:E4 c code fld [.dat d] M=.ret (.ex c [(fld,d),("code",.str code)] M):=id rfl
@[simp]theorem auR {bC fs:aN}{cat:Nat->Option Bool}:HL bC n i cat fs ρ M=(bC ρ M).bind (A_ n i cat fs):=id rfl
def KD (n i:Nat)(fs:aN)(c:Nat)(es:List (Str×D))(M:List ak):Option Bool->T (Re bW)
 |some true=>(fs ((List.replicate n .un).set i (.dat (.exc c es))) M).bind (Hf i)
 |some false=>.ret (.ex c es M)
 |none=>.bad
@[simp]theorem aqR {cat:Nat->Option Bool}{es:aN}:A_ n i cat es (.ex c fs M)=KD n i es c fs M (cat c):=by
 unfold A_ KD
 dsimp only
 all_goals (
  cases cat c with
  |none=>rfl
  |some b=>cases b<;>rfl)
@[simp]theorem aqQ {es:aN}:KD n i es c fs M (some true)=(es ((List.replicate n .un).set i (.dat (.exc c fs))) M).bind (Hf i):=id rfl
@[simp]theorem aqS {l:List (Nat×Bool)}:Ba l c=l.lookup c:=id rfl
@[simp]theorem atL:Hf i (.ok (.rt s) M)=if(jq s&&M.all iA)=true then .ret (.ok (.rt s) M)else .bad:=id rfl
def Kz:Option sj->List D->List ak->T (Re af)
 |some F,ws,M=>F ws M
 |none,_,_=>.bad
@[simp]theorem auh {tb:tW}{aE:CE}:ES tb aE ρ M=(aE ρ M).bind (aX (A8 tb)):=id rfl
@[simp]theorem aqO {tb:tW}:A8 tb (.dat (.fF i ws)) M=Kz (tb i) ws M:=by
 unfold A8 Kz
 dsimp only
 all_goals (cases tb i<;>rfl)
def Xl (C:Nat->aM)(j:Nat):sj:=λws=>C j (ws.map .dat)
@[simp]theorem ahZ {C:Nat->aM}{m:Nat}(h:i<m):zz C n m i=some (Xl C (n+i)):=by unfold zz Xl;rw[if_pos h]
@[simp]theorem aqN {F:sj}:Kz (some F) ws M=F ws M:=id rfl
@[simp]theorem at6 {t:fE}{b:CE}{ss:List af}:zv t b ss M=xD t b (vc ss) M:=id rfl
@[simp]theorem arn:vc []=[]:=id rfl
@[simp]theorem arl {r:List af}:vc (.dat d::r)=d::vc r:=id rfl
@[simp]theorem att {t:fE}{b:CE}:xD t b ws M=if(jJ ws&&M.all iA)=true then(b (zw t ws) M).bind (Nu M.length)else .bad:=id rfl
@[simp]theorem at7:Nu n (.ex c fs M)=.ret (.ex c fs (cut n M)):=id rfl
@[simp]theorem ak7:fQ (.int x)=true:=id rfl
@[simp]theorem ak9 {z:Str}:fQ (.str z)=true:=id rfl
@[simp]theorem ak8:fQ (.lst ds)=jJ ds:=id rfl
@[simp]theorem atz:fQ (.tup ds)=jJ ds:=id rfl
@[simp]theorem ak6:fQ (.ins c fs)=vA fs:=id rfl
@[simp]theorem atA:jJ []=true:=id rfl
@[simp]theorem akc:jJ (d::ds)=(fQ d&&jJ ds):=id rfl
@[simp]theorem akb:vA []=true:=id rfl
@[simp]theorem aka:vA ((f,d)::fs)=(fQ d&&vA fs):=id rfl
@[simp]theorem atB:jq (.dat d)=fQ d:=id rfl
theorem vB:∀{ds:List D},jJ ds=ds.all fQ
 |[]=>rfl
 |d::r=>by rw[akc,List.all_cons,vB]
theorem G5 {f:α->D}{xs:List α}(h:∀a,fQ (f a)=true):jJ (xs.map f)=true:=by
 rw[vB,List.all_map,List.all_eq_true];exactλa _=>h a
def EU (eG i:Nat)(M:List ak):Option ak->T (Re af)
 |some (.tab j)=>if j=eG then .ret (.ok (.dat (.lam i)) M)else .bad
 |_=>.bad
@[simp]theorem aul {eG:Nat}:yT eG i ρ M=EU eG i M M[eG]?:=by
 unfold yT EU;cases M[eG]? with
 |none=>rfl
 |some m=>cases m<;>rfl
@[simp]theorem ars {eG:Nat}:EU eG i M (some (.tab eG))=.ret (.ok (.dat (.lam i)) M):=by unfold EU;dsimp only;rw[if_pos rfl]
def KR (F:aM):Option (D×List ak)->T (Re af)
 |some (d,M)=>(F [.dat d] M).bind yJ
 |none=>.bad
@[simp]theorem aue {aE:CE}:ER eO F aE ρ M=(aE ρ M).bind (aX (Bf eO ρ F)):=id rfl
@[simp]theorem ar3:Bf eO ρ F (.dat d) M=KR F (clo eO ρ M d):=by
 unfold Bf KR;rw[UO]
 all_goals (try dsimp only)
 all_goals (cases clo eO ρ M d<;>rfl)
@[simp]theorem ar2:KR F (some (d,M))=(F [.dat d] M).bind yJ:=id rfl
@[simp]theorem ar0:clo eO ρ M (.lam i)=wL eO ρ i M:=id rfl
def Ez (i:Nat):Option (List D×List ak)->Option (D×List ak)
 |some (ds,M1)=>if jJ ds then some (.fF i ds,M1)else none
 |none=>none
def EA (i:Nat)(M:List ak):Option (List af)->Option (D×List ak)
 |some ss=>Ez i (gW M ss)
 |none=>none
def KQ (ρ:List af)(i:Nat)(M:List ak):Option (List Nat)->Option (D×List ak)
 |some dM=>EA i M (qa ρ dM)
 |none=>none
@[simp]theorem aqW:wL eO ρ i M=KQ ρ i M (eO i):=by
 unfold wL KQ EA Ez;cases eO i with
 |none=>rfl
 |some dM=>
  dsimp only
  all_goals (
   cases qa ρ dM with
   |none=>rfl
   |some ss=>
    all_goals (try dsimp only)
    all_goals (cases gW M ss<;>rfl))
@[simp]theorem aqX {dM:List Nat}:KQ ρ i M (some dM)=EA i M (qa ρ dM):=id rfl
@[simp]theorem aqZ {ss:List af}:EA i M (some ss)=Ez i (gW M ss):=id rfl
@[simp]theorem aqY:Ez i (some (ds,M))=if jJ ds=true then some (.fF i ds,M)else none:=id rfl
def LF (o:Option (List af)):Option af->Option (List af)
 |some .un=>none
 |some s=>o.map (s::·)
 |none=>none
@[simp]theorem arV:qa ρ []=some []:=id rfl
@[simp]theorem arU {dM:List Nat}:qa ρ (j::dM)=LF (qa ρ dM) ρ[j]?:=by
 rw[qa];unfold LF;cases ρ[j]? with
 |none=>rfl
 |some s=>cases s<;>rfl
@[simp]theorem arT {o:Option (List af)}:LF o (some (.dat d))=o.map (.dat d::·):=id rfl
@[simp]theorem aqU:yJ (.ok s M)=if(jq s&&M.all iA)=true then .ret (.ok s M)else .bad:=id rfl
def Ln (M:List ak):Option af->T (Re af)
 |some s=>.ret (.ok s M)
 |none=>.bad
def MP (f:Str)(cs:List Nat):af->Ev af:=λs M=>Ln M (y9 f cs s)
@[simp]theorem asx {cs:List Nat}:MP f cs s M=Ln M (y9 f cs s):=id rfl
@[simp]theorem auk {cs:List Nat}{aE:CE}:m9 f cs aE ρ M=(aE ρ M).bind (aX (MP f cs)):=by
 unfold m9 MP Ev.bind
 congr 1;congr 1;funext s M2
 cases y9 f cs s<;>rfl
@[simp]theorem arF:Ln M (some s)=.ret (.ok s M):=id rfl
@[simp]theorem arG {cs:List Nat}:y9 f cs (.dat (.exc c fs))=if cs.contains c=true then(fs.lookup f).map .dat else none:=id rfl
def ML (F:aM)(pm:List Nat)(ss:List af):List af->Ev af:=λzs M=>if zs.length=pm.length then F (ss++iB pm zs) M else .bad
@[simp]theorem asr {pm:List Nat}{ss zs:List af}:ML F pm ss zs M=if zs.length=pm.length then F (ss++iB pm zs) M else .bad:=id rfl
def V5 (F:aM)(pm:List Nat)(cK:aH)(ρ:List af):List af->Ev af:=λss=>(cK ρ).bind (ML F pm ss)
@[simp]theorem ass {pm:List Nat}{ss:List af}{cK:aH}:V5 F pm cK ρ ss M=(cK ρ M).bind (aX (ML F pm ss)):=id rfl
@[simp]theorem auf {pm:List Nat}{fs cK:aH}:yO F pm fs cK ρ M=(fs ρ M).bind (aX (V5 F pm cK ρ)):=id rfl
def D_ (tb:tW)(cat:List (Nat×Bool))(cs:List Nat)(oK:aM):aN:=HL (bT (dg (ai (λ_=>ok (.dat (.str ""))) (ai (ES tb (ah 0)) av)))) 2 1 (Ba cat) (bT (ao (bin .Add) (dg (ai (m9 "code" cs (ah 1)) av)) (bB oK (ai (ah 1) av))))
theorem aoZ {tb:tW}{cat:List (Nat×Bool)}{cs:List Nat}{oK:aM}{es:List D}{F:sj}(ht:tb i=some F)(h:F ws M=.ret (.ex c fs M))(hc:cat.lookup c=some true)(hs:cs.contains c=true)(hl:fs.lookup ("code":Str)=some (.str code))(hf:oK [.dat (.exc c fs)] M=.ret (.ok (.dat (.tup es)) M))
    (h1:jJ es=true) (h2:M.all iA=true) (h3:es.length<=1000):aR false 1 2 (D_ tb cat cs oK) [.dat (.fF i ws)] M=.ret (.ok (.dat (.tup (.str code::es))) M):=by
  rw[jG (by rfl)];have key:D_ tb cat cs oK [.dat (.fF i ws),.un] M=.ret (.ok (.rt (.dat (.tup (.str code::es)))) M):=by
    unfold D_;have sP:c∈cs:=by simpa using hs
    have hb:bin .Add M (.dat (.tup [R.D.str code])) (.dat (.tup es))=some (af.dat (R.D.tup (R.D.str code::es)),M):=by
      show(if _ then some (af.dat (R.D.tup ([R.D.str code]++es)),M)else none)=_
      rw[if_pos (by rw[tE];simp only[List.length_cons,List.length_nil];omega)];rfl
    simp[ht,h,hc,sP,hl,hf,h1,h2,hb]
  show(D_ tb cat cs oK [.dat (.fF i ws),.un] M).bind _=_
  rw[key,bR,mU,gr rfl]
def sC (c:Nat):aN:=dj (tNot (bz (nW .LtE .LtE (ah 1) (ah 0) (ah 2)))) (mV c "BadNumber" "given" (ah 0)) dR
def Cz (x:Int):List (Str×D):=[("given",.int x),("code",.str "BadNumber")]
theorem Te {lo hi:Int}:aR false 3 3 (sC c) [.dat (.int x),.dat (.int lo),.dat (.int hi)] M=if lo<=x/\x<=hi then .ret (.ok (.dat .non) M)else .ret (.ex c (Cz x) M):=by
 rw[jG (by rfl)];have key:sC c [.dat (.int x),.dat (.int lo),.dat (.int hi)] M=if lo<=x/\x<=hi then .ret (.ok (.nx [.dat (.int x),.dat (.int lo),.dat (.int hi)]) M)else .ret (.ex c (Cz x) M):=by
  unfold sC Cz;by_cases h1:lo<=x
  ·by_cases h2:x<=hi
   ·simp[h1,h2]
   ·simp[h1,h2]
  ·simp[h1]
 show(sC c [.dat (.int x),.dat (.int lo),.dat (.int hi)] M).bind _=_
 rw[key];split
 ·rw[bR,HF,gr rfl]
 ·rw[bR,OQ,gr rfl]
theorem Td {lo hi:Int}(h1:lo<=x)(h2:x<=hi):aR false 3 3 (sC c) [.dat (.int x),.dat (.int lo),.dat (.int hi)] M=.ret (.ok (.dat .non) M):=by rw[Te,if_pos ⟨h1,h2⟩]
end
section
variable{α β:Type}{M M1:List ak}{ρ:List af}{s v:af}{i j n c:Nat}{d:D}{ds ws:List D}{fs:List (Str×af)}{F:aM}{code fld f g:Str}{x y a b:Int}{cs:List Nat}
@[simp]theorem TJ {m:ak}:cut (M.length+1) (M++[m])=M++[m]:=gr (by simp)
end
def jL (d e:D):Bool:=PyData.eqv (py d) (py e)
def mE (d e:List D):Bool:=PyData.eqvAll (e_ d) (e_ e)
section
variable{M:List ak}{a b:Int}{u z:Str}{p q:Bool}{d e:D}{ds es:List D}{n:Nat}
@[simp]theorem P5:jL (.int a) (.int b)=decide (a=b):=by unfold jL;rfl
@[simp]theorem Z_:jL (.tup ds) (.tup es)=mE ds es:=by unfold jL mE;rfl
@[simp]theorem anR:jL (.lst ds) (.lst es)=mE ds es:=by unfold jL mE;rfl
@[simp]theorem aa2:mE [] []=true:=by unfold mE;rfl
@[simp]theorem HY:mE (d::ds) (e::es)=(jL d e&&mE ds es):=by unfold mE jL;rfl
@[simp]theorem au0:mE [] (e::es)=false:=by unfold mE;rfl
@[simp]theorem anT:mE (d::ds) []=false:=by unfold mE;rfl
@[simp]theorem CB:plain n (.int a)=true:=by unfold plain;rfl
@[simp]theorem OC:plain (n+1) (.tup ds)=ez n ds:=by rw[plain]
@[simp]theorem Y7:plain (n+1) (.lst ds)=ez n ds:=by rw[plain]
@[simp]theorem zV:ez n []=true:=by rw[ez]
@[simp]theorem xN:ez n (d::ds)=(plain n d&&ez n ds):=by rw[ez]
def wR (d e:D):Option Bool:=if(plain 58 d&&plain 58 e)=true then some (jL d e)else none
theorem aei (h1:plain 58 d=true)(h2:plain 58 e=true):wR d e=some (jL d e):=by unfold wR;rw[h1,h2];rfl
@[simp]theorem KW:dh .Eq M (.dat (.lst ds)) (.dat (.lst es))=wR (.lst ds) (.lst es):=by unfold wR jL;rfl
@[simp]theorem adG:dh .NotEq M (.dat (.lst ds)) (.dat (.lst es))=(wR (.lst ds) (.lst es)).map (!·):=by
 show(if _ then some (!_)else none)=_
 unfold wR jL;split<;>rfl
@[simp]theorem Ub (h1:ez 57 ds=true)(h2:ez 57 es=true):wR (.lst ds) (.lst es)=some (mE ds es):=by
 rw[aei (by rw[Y7];exact h1) (by rw[Y7];exact h2),anR]
end
section
variable{M:List ak}{j:Nat}{n:Int}
theorem aiZ {tt:Nat->bN}{L:Nat->aM}(hL:∀n,L (n+1)=aR false 2 3 (mL (L n) (tt n))){k n:Nat}{d:D}(hk:k<=n)(g:good k d=true):L (n+1) [.dat d,.dat d] M=.ret (.ok (.dat (.bl true)) M):=XA hL k n d hk g
end
def vI (i:Int):List (Str×D):=[("at",.int i),("code",.str "BadRow")]
def Ca (t:bN):aN:=(fJ [3,4,5,8] (aL (dj (Mz t) (mV 18 "BadRow" "at" (ah 3)) dR)
  (aL (bL 8 (My t))
  (dj (MA t) (mV 18 "BadRow" "at" (ah 3)) dR))))
def zQ (z:Str):Bool:=z.cps.toList.all λc=>decide (c∈([46,111,62,60]:List Nat))
def pG (z:Str):Bool:=(decide (1<=z.length)&&decide (z.length<=4))&&zQ z
theorem YN {z:Str}:zQ z=true↔nI z:=by
 unfold zQ nI;simp only[List.all_eq_true,decide_eq_true_eq]
def uB (k:Int)(rows:List (Int×Str))(i:Nat)(r:Int×Str):Bool:=(!(decide (0<=r.1)&&decide (r.1<k))||decide (r.1∈(rows.take i).map (·.1)))||(!pG r.2|| !decide (r.2.length=((rows.map (·.2)).headD Str.empty).length))
section
variable{M:List ak}{t:bN}{RR:af}{k:Int}{rows:List (Int×Str)}{s:af}{i:Nat}{p:Int}{z:Str}
theorem ap2 (hR:uW M RR (rows.map dQ))(hn:rows.length<=1000):
    Mz t [s,.dat (.int k),RR,.dat (.int (i:Int)),.dat (.int p),.dat (.str z),.un,.un,.un,.un,.un,.un,.un] M=.ret (.ok (!(decide (0<=p)&&decide (p<k))||decide (p∈(rows.take i).map (·.1))) M):=by
  obtain⟨sl,e1,e2⟩:=hR.sl i;have dH:ah 2 [s,.dat (.int k),RR,.dat (.int (i:Int)),.dat (.int p),.dat (.str z),.un,.un,.un,.un,.un,.un,.un] M=.ret (.ok RR M):=qq rfl hR.un hR.fB;have hi:cF (nc (ah 2) ou (nH (ah 3))) [s,.dat (.int k),RR,.dat (.int (i:Int)),.dat (.int p),.dat (.str z),.un,.un,.un,.un,.un,.un,.un] M=.ret (.ok (.data ((rows.map dQ).take i)) M):=by
    unfold cF nc Ev.bind;rw[dH];simp[T.bind,aX,ou,nH,Ev.bind,R.ok,ah,je,ofM,e1,e2]
  have hl:=Gn (own:=[6,7]) (gt:=gH 2 (cZ (br 6) (cZ (br 7) gY))) (tt:=fc) (e:=ah 6) (ds:=(rows.map dQ).take i) (g:=λd=>match d with
    | .tup [.int q,_]=>[.int q]
    |_=>[]) hi rfl (by rw[List.length_take,List.length_map];unfold sizeLine;omega) (λd hd=>by
      have hd:=List.mem_of_mem_take hd;obtain⟨r,hr,rfl⟩:=List.mem_map.mp hd;exact Hg (aY:=[s,.dat (.int k),RR,.dat (.int (i:Int)),.dat (.int p),.dat (.str z),.dat (.int r.1),.dat (.str r.2),.un,.un,.un,.un,.un]) rfl (eW rfl))
  have hf:∀l:List (Int×Str),((l.map dQ).flatMap λd=>match d with
    | .tup [.int q,_]=>[D.int q]
    |_=>[])=(l.map (·.1)).map .int:=by
    intro l;induction l with
    |nil=>rfl
    |cons a l ih=>rw[List.map_cons,List.flatMap_cons,ih];rfl
  rw[<-List.map_take,hf]at hl;have hc:ao (cmp .In) (ah 4) (cV false [6,7] (cF (nc (ah 2) ou (nH (ah 3)))) (gH 2 (cZ (br 6) (cZ (br 7) gY))) fc (ah 6)) [s,.dat (.int k),RR,.dat (.int (i:Int)),.dat (.int p),.dat (.str z),.un,.un,.un,.un,.un,.un,.un] M=.ret (.ok (.dat (.bl (decide (p∈(rows.take i).map (·.1))))) M):=
    nJ (eW rfl) hl (by rw[cin])
  unfold Mz;rw[ab0,QK,Du];by_cases h0:0<=p
  · by_cases h1:p<k
    · simp only[h0,h1,decide_true,Bool.and_self,Bool.not_true,Bool.false_or]
      rw[show nW .LtE .Lt (λ_=>ok (.dat (.int 0))) (ah 4) (ah 1) [s,.dat (.int k),RR,.dat (.int (i:Int)),.dat (.int p),.dat (.str z),.un,.un,.un,.un,.un,.un,.un] M=.ret (.ok (.dat (.bl true)) M) by simp[h0,h1]];simp only[bR,cD,Dq,MX,Wo,Bool.not_true,Bool.false_eq_true,if_false,Du];rw[hc,bR,cD,Dq]
    · simp[h0,h1]
  · simp[h0]
theorem anE {c:Nat}:cmp .In M (.dat (sgn c)) (.dat (.str ".o><"))=some (.dat (.bl (decide (c∈([46,111,62,60]:List Nat)))),M):=by
 have e:(Str.ofString ".o><").cps.toList=[46,111,62,60]:=by decide
 unfold cmp sgn;simp only[dh,e];rfl
theorem acM {α:Type}(f:α->Bool):∀l:List α,qK (l.map λa=>D.bl (f a))=some (l.map f):=by
 intro l;induction l with
 |nil=>rfl
 |cons a l ih=>simp only[List.map_cons,qK,ih];rfl
theorem ap3 {ρ:List af}(di:ρ[5]?=some (.dat (.str z)))(h9:9<ρ.length)(hz:z.length<=1000):My t ρ M=.ret (.ok (.dat (.bl (pG z))) M):=by
  have hz2:z.length<=sizeLine:=Nat.le_trans hz (by decide);have vo:bu (b_ t) (ai (ah 5) av) ρ M=.ret (.ok (.dat (.int (z.length:Int))) M):=vp (eW di) rfl hz2;have hi:cF (ah 5) ρ M=.ret (.ok (.data (iQ z)) M):=by
    unfold cF Ev.bind;rw[eW di];rfl
  have hl:=Gn (own:=[9]) (gt:=br 9) (tt:=fc) (e:=ao (cmp .In) (ah 9) (λ_=>ok (.dat (.str ".o><")))) (ds:=iQ z) (g:=λd=>match d with
      | .str u=>[.bl (match u.cps.toList with|[c]=>decide (c∈([46,111,62,60]:List Nat))|_=>false)]
      |_=>[]) hi rfl (by
      unfold iQ;rw[List.length_map];have:z.cps.toList.length=z.length:=rfl;rw[this];unfold sizeLine;omega) (λd hd=>by
      unfold iQ at hd;obtain⟨c,hc,rfl⟩:=List.mem_map.mp hd;refine Hg (aY:=(dN ρ [9]).set 9 (.dat (sgn c))) rfl ?_;refine nJ (eW (d:=sgn c) ?_) rfl (anE (M:=M));exact List.getElem?_set_self (by unfold dN dN;rw[List.length_set];exact h9))
  have hf:((iQ z).flatMap λd=>match d with
      | .str u=>[D.bl (match u.cps.toList with|[c]=>decide (c∈([46,111,62,60]:List Nat))|_=>false)]
      |_=>[])=z.cps.toList.map λc=>D.bl (decide (c∈([46,111,62,60]:List Nat))):=by
    unfold iQ;induction z.cps.toList with
    |nil=>rfl
    |cons a l ih=>rw[List.map_cons,List.flatMap_cons,ih];rfl
  rw[hf]at hl;have ha:bu (pu (qI true)) (ai (cV false [9] (cF (ah 5)) (br 9) fc (ao (cmp .In) (ah 9) (λ_=>ok (.dat (.str ".o><"))))) av) ρ M=.ret (.ok (.dat (.bl (zQ z))) M):=by
    rw[apV,apR,hl];have:(z.cps.toList.map λc=>decide (c∈([46,111,62,60]:List Nat))).all id=zQ z:=by
      unfold zQ;rw[List.all_map];rfl
    simp only[bR,cD,ahx,apU,ahy,ahD,apY,qI,XO,acM,Option.map_some,if_true,this,vE,apW]
  unfold My pG;rw[apP,aaP];simp only[Ds,bR,cD,V7,vo,V6,dh];by_cases h1:1<=z.length
  · by_cases h2:z.length<=4
    · simp only[h1,h2,decide_true,Bool.true_and]
      rw[show decide ((1:Int)<=(z.length:Int))=true from by simp;omega];simp only[KJ,bR,cD,xr,Ds,cmp,dh,Option.map_some,vE];rw[show decide ((z.length:Int)<=4)=true from by simp;omega];simp only[ae8,bR,cD,ha]
    · simp only[h1,h2,decide_true,decide_false,Bool.and_false,Bool.false_and]
      rw[show decide ((1:Int)<=(z.length:Int))=true from by simp;omega];simp only[KJ,bR,cD,xr,Ds,cmp,dh,Option.map_some,vE];rw[show decide ((z.length:Int)<=4)=false from by simp;omega];simp only[T5,bR,cD]
  · simp only[h1,decide_false,Bool.false_and]
    rw[show decide ((1:Int)<=(z.length:Int))=false from by simp;omega];simp only[Tf,T5,bR,cD]
theorem ap4 {ρ:List af}{z0:Str}{p0:Int}{g:Bool}(di:ρ[5]?=some (.dat (.str z)))(iK:ρ[8]?=some (.dat (.bl g)))(h2:ρ[2]?=some RR)(hR:uW M RR (rows.map dQ))(h0:rows[0]?=some (p0,z0))(hz:z.length<=1000)(agM:z0.length<=1000):MA t ρ M=.ret (.ok (!g|| !decide (z.length=z0.length)) M):=by
 have q1:z.length<=sizeLine:=Nat.le_trans hz (by decide);have q2:z0.length<=sizeLine:=Nat.le_trans agM (by decide);have vo:bu (b_ t) (ai (ah 5) av) ρ M=.ret (.ok (.dat (.int (z.length:Int))) M):=vp (eW di) rfl q1;have agw:aO M RR (.dat (.int 0))=some (.dat (dQ (p0,z0)),M):=by
  rw[hR.ix];have hl:0<rows.length:=(List.getElem?_eq_some_iff.mp h0).1;have:atI (rows.map dQ) 0=some (dQ (p0,z0)):=by
   unfold atI ixN;rw[if_pos (by omega),List.length_map,if_pos (by omega)];show(rows.map dQ)[0]?=_
   rw[List.getElem?_map,h0];rfl
  rw[this];rfl
 have l0:bu (b_ t) (ai (ao aO (ao aO (ah 2) (λ_=>ok (.dat (.int 0)))) (λ_=>ok (.dat (.int 1)))) av) ρ M=.ret (.ok (.dat (.int (z0.length:Int))) M):=
  vp (s:=.dat (.str z0)) (nJ (nJ (qq h2 hR.un hR.fB) rfl agw) rfl rfl) rfl q2
 unfold MA;rw[ab0,QK,Du,eW iK];have hc:ao (cmp .NotEq) (bu (b_ t) (ai (ah 5) av)) (bu (b_ t) (ai (ao aO (ao aO (ah 2) (λ_=>ok (.dat (.int 0)))) (λ_=>ok (.dat (.int 1)))) av)) ρ M=.ret (.ok (.dat (.bl (!decide (z.length=z0.length)))) M):=
  nJ vo l0 (by
   unfold cmp;simp only[dh];by_cases h:z.length=z0.length
   ·rw[h];simp
   ·rw[decide_eq_false h,decide_eq_false (by omega)];rfl)
 simp only[bR,cD,Dq,MX,Wo];cases g with
 |true=>simp only[Bool.not_true,Bool.false_eq_true,if_false,Du,hc,bR,cD,Dq,Bool.false_or]
 |false=>simp only[Bool.not_false,if_true,Bool.true_or]
theorem ah4 (hR:uW M RR (rows.map dQ))(hn:rows.length<=1000)(hz:∀r∈rows,r.2.length<=1000)(hr:rows[i]?=some (p,z)):
    Ca t [s,.dat (.int k),RR,.dat (.int (i:Int)),.dat (.int p),.dat (.str z),.un,.un,.un,.un,.un,.un,.un] M=if uB k rows i (p,z)=true then .ret (.ex 18 (vI i) M)else .ret (.ok (.nx [s,.dat (.int k),RR,.un,.un,.un,.un,.un,.un,.un,.un,.un,.un]) M):=by
  have hm:(p,z)∈rows:=List.mem_of_getElem? hr;have h0:rows[0]?=some (rows[0]'(Nat.lt_of_le_of_lt (Nat.zero_le _) (List.getElem?_eq_some_iff.mp hr).1)):=List.getElem?_eq_getElem _;obtain⟨⟨p0,z0⟩,h0⟩:∃r,rows[0]?=some r:=⟨_,h0⟩;have hd:(rows.map (·.2)).headD Str.empty=z0:=by
    cases rows with
    |nil=>cases h0
    |cons a l=>cases h0;rfl
  have t1:=ap2 (t:=t) (s:=s) (k:=k) (p:=p) (z:=z) (i:=i) hR hn;have t2:=ap3 (M:=M) (t:=t) (ρ:=[s,.dat (.int k),RR,.dat (.int (i:Int)),.dat (.int p),.dat (.str z),.un,.un,.un,.un,.un,.un,.un]) (z:=z) rfl (by simp) (hz _ hm);have t3:=ap4 (M:=M) (t:=t) (ρ:=[s,.dat (.int k),RR,.dat (.int (i:Int)),.dat (.int p),.dat (.str z),.un,.un,.dat (.bl (pG z)),.un,.un,.un,.un]) (z:=z) (g:=pG z) rfl rfl rfl hR h0 (hz _ hm) (hz _ (List.mem_of_getElem? h0));unfold Ca uB;rw[hd];rw[Dt,iF,QI,t1,bR,cD,MR];by_cases cP:(!(decide (0<=p)&&decide (p<k))||decide (p∈(rows.take i).map (·.1)))=true
  · rw[if_pos cP]
    simp only[cP,Bool.true_or,if_true];simp[vI]
  · rw[if_neg cP]
    have cP:(!(decide (0<=p)&&decide (p<k))||decide (p∈(rows.take i).map (·.1)))=false:=by simpa using cP
    simp only[cP,Bool.false_or,aaZ,bR,cD,iS,iF,QJ,t2,M_,List.set_cons_succ,List.set_cons_zero,QI,t3,MR];by_cases b2:(!pG z|| !decide (z.length=z0.length))=true
    · rw[if_pos b2,if_pos b2]
      simp[vI]
    · rw[if_neg b2,if_neg b2]
      simp
end
section
variable{M:List ak}{t:bN}{RR:af}{k:Int}{rows:List (Int×Str)}{s:af}{i:Nat}{p:Int}{z:Str}
def Lw:dX:=gH 2 (cZ (br 3) (cZ (gH 2 (cZ (br 4) (cZ (br 5) gY))) gY))
def oV (k:Int)(all:List (Int×Str)):Nat->List (Int×Str)->Option Nat
 |_,[]=>none
 |i,r::l=>if uB k all i r then some i else oV k all (i+1) l
abbrev rF (s:af)(k:Int)(RR:af):List af:=[s,.dat (.int k),RR,.un,.un,.un,.un,.un,.un,.un,.un,.un,.un]
theorem ZA (hR:uW M RR (rows.map dQ))(hn:rows.length<=1000)(hz:∀r∈rows,r.2.length<=1000):∀(l:List (Int×Str)) (i:Nat),(∀j,l[j]?=rows[i+j]?)->
    gv Lw (Ca t) (fq i (l.map dQ)) (rF s k RR) M=(match oV k rows i l with
      |some i=>.ret (.ex 18 (vI i) M)
      |none=>.ret (.ok (.nx (rF s k RR)) M))
  |[],i,_=>rfl
  |r::l,i,h=>by
    have h0:rows[i]?=some (r.1,r.2):=(h 0).symm;rw[List.map_cons,fq,uL (aY:=[s,.dat (.int k),RR,.dat (.int (i:Int)),.dat (.int r.1),.dat (.str r.2),.un,.un,.un,.un,.un,.un,.un]) rfl,ah4 hR hn hz h0];unfold oV;by_cases b:uB k rows i r=true
    · rw[if_pos b,if_pos b,bR,aaX]
    · rw[if_neg b,if_neg b,bR,cD,tP]
      exact ZA hR hn hz l (i+1) λj=>by
        have:=h (j+1);rw[show i+1+j=i+(j+1) by omega];exact this
end
section
variable{M:List ak}{t:bN}{RR:af}{k:Int}{rows:List (Int×Str)}{w:Nat}
def JZ:aN:=
  (aL (sFld "own_ticks" [0] (ah 1) (ah 0))
  (aL (sFld "own_places" [0] (cV false [4,5] (cF (ah 2)) Fg fc (ah 4)) (ah 0))
  (aL (sFld "own_signs" [0] (cV false [4,5] (cF (ah 2)) Fg fc (ah 5)) (ah 0))
  (aL (bL 10 (cV false [4,5] (cF (ah 2)) Fg fc (oh [(cJ j6 (ah 4)),(λ_=>ok (.dat (.str " "))),(cJ j6 (ah 5))] Str.empty)))
  (aL (sFld "own_text" [0] (oh [(cJ j6 (ah 1)),(λ_=>ok (.dat (.str ": "))),(cJ j6 (yR (λ_=>ok (.dat (.str " / "))) (ah 10)))] Str.empty) (ah 0))
  (sFld "own_keys" [0] WD (ah 0)))))))
def AU (adx:aM)(t:bN):aN:=
  (aL (f5 (bB adx (ai (ah 1) (ai (λ_=>ok (.dat (.int 1))) (ai (λ_=>ok (.dat (.int 6))) av)))))
  (aL (dj (tNot (bz (nW .LtE .LtE (λ_=>ok (.dat (.int 1))) (bu (b_ t) (ai (ah 2) av)) (λ_=>ok (.dat (.int 4)))))) (mV 18 "BadRow" "at" (cJ Cv (λ_=>ok (.dat (.int 1))))) dR)
  (aL (fR (mj (ah 2)) Lw (Ca t)) JZ)))
theorem ah3 {s:Nat}(hs:M[s]?=some (.ins 0 []))(hR:∀fs,uW (M.set s (.ins 0 fs)) RR (rows.map dQ))(b:dW k rows w):
    ∃cO,JZ (rF (.mu s) k RR) M=.ret (.ok (.nx cO) (M.set s (.ins 0 ((u7 k rows).map λp=>(p.1,.dat p.2))))):=by
  have hl:s<M.length:=(List.getElem?_eq_some_iff.mp hs).1;have self:M.set s (.ins 0 [])=M:=by
    apply List.ext_getElem?
    intro q;by_cases e:s=q
    · subst e;rw[oB hl,hs]
    · rw[List.getElem?_set_ne e]
  have b2:=b.h2;refine⟨[.mu s,.dat (.int k),RR,.un,.un,.un,.un,.un,.un,.un,.dat (.lst (rows.map λr=>.str (qm r))),.un,.un],?_⟩;unfold JZ;have hz:∀r∈rows,r.2.length<=4:=λr hr=>by
    have:=(b.oE r hr).1;have:=b.bK;omega
  have k1:=b.k1;have k2:=b.k2;have ajO:∀{g:aN} {ρ:List af} {r:T (Re bW)},g ρ (M.set s (.ins 0 []))=r->g ρ M=r:=λh=>by rw[self]at h;exact h
  refine ajO ?_;refine vM (BF (fs':=[("own_ticks",.dat (.int k))]) hl rfl (eW rfl) (by simp) rfl) ?_;refine vM (BF (fs':=[("own_ticks",.dat (.int k)),("own_places",.dat (.lst (rows.map λr=>.int r.1)))]) hl rfl (OR (h:=λr=>.int r.1) (hR _) b2 λr hr=>eW rfl) (by simp) rfl) ?_;refine vM (BF (fs':=[("own_ticks",.dat (.int k)),("own_places",.dat (.lst (rows.map λr=>.int r.1))),("own_signs",.dat (.lst (rows.map λr=>.str r.2)))]) hl rfl (OR (h:=λr=>.str r.2) (hR _) b2 λr hr=>eW rfl) (by simp) rfl) ?_;refine vM (HU (OR (h:=λr=>.str (qm r)) (hR _) b2 λr hr=>alA rfl rfl (b.lo r hr).1 (by have:=(b.lo r hr).2;omega) (hz r hr))) ?_;refine vM (BF (fs':=[("own_ticks",.dat (.int k)),("own_places",.dat (.lst (rows.map λr=>.int r.1))),("own_signs",.dat (.lst (rows.map λr=>.str r.2))),("own_text",.dat (.str (Qn k rows)))]) hl rfl (aoR (l:=.un) (k:=k) (rows:=rows) (w:=w) rfl (by simp[List.map_map,Function.comp]) b) (by simp) rfl) ?_;exact BF hl rfl (ahL (oB hl) rfl b2 hz) (by simp) rfl
def Ek {α:Type}(k:Int)(rows:List (Int×Str))(good:α)(num:α)(row:Int->α):α:=if 1<=k/\k<=6 then if 1<=rows.length/\rows.length<=4 then(match oV k rows 0 rows with
    |some i=>row i
    |none=>good)else row (-1)else num
theorem UI {k:Int}{all:List (Int×Str)}:∀{l:List (Int×Str)} {i:Nat},oV k all i l=none->∀(j:Nat) r,l[j]?=some r->uB k all (i+j) r=false
 |[],_,_,j,r,h=>by simp at h
 |a::l,i,e,j,r,h=>by
  unfold oV at e;split at e
  ·cases e
  ·rename_i hb
   cases j with
   |zero=>simp at h;subst h;simpa using hb
   |succ j=>
    have:=UI e j r (by simpa using h)
    rwa[show i+1+j=i+(j+1) by omega]at this
theorem UJ (k1:1<=k)(k2:k<=6)(h1:1<=rows.length)(h2:rows.length<=4)(e:oV k rows 0 rows=none):dW k rows ((rows.map (·.2)).headD Str.empty).length:=by
 have g:∀(j:Nat) r,rows[j]?=some r->(0<=r.1/\r.1<k)/\r.1∉(rows.take j).map (·.1)/\pG r.2=true/\r.2.length=((rows.map (·.2)).headD Str.empty).length:=λj r hr=>by
  have:=UI e j r hr;rw[Nat.zero_add]at this;unfold uB at this;simp only[Bool.or_eq_false_iff,Bool.not_eq_false',Bool.and_eq_true,decide_eq_true_eq,decide_eq_false_iff_not]at this;exact⟨this.1.1,this.1.2,this.2.1,this.2.2⟩
 have Fj:∀r∈rows,(0<=r.1/\r.1<k)/\pG r.2=true/\r.2.length=((rows.map (·.2)).headD Str.empty).length:=λr hr=>by
  obtain⟨j,hj⟩:=List.getElem?_of_mem hr;have:=g j r hj;exact⟨this.1,this.2.2⟩
 have h0:rows[0]?=some (rows[0]'(by omega)):=List.getElem?_eq_getElem _;have tH:=Fj _ (List.mem_of_getElem? h0);have z0:=tH.2.1;unfold pG at z0;simp only[Bool.and_eq_true,decide_eq_true_eq]at z0;refine⟨h1,h2,by rw[<-tH.2.2];exact z0.1.1,by rw[<-tH.2.2];exact z0.1.2,k1,k2,?_,λr hr=>(Fj r hr).1,λr hr=>⟨(Fj r hr).2.2,?_⟩⟩
 ·unfold List.Nodup
  rw[List.pairwise_iff_getElem];intro i j hi hj Vs;rw[List.length_map]at hi hj;intro q;have q:rows[i].1=rows[j].1:=by simpa using q
  refine(g j rows[j] (List.getElem?_eq_getElem hj)).2.1 ?_;rw[<-q];refine List.mem_map.mpr ⟨rows[i],?_,rfl⟩;rw[List.mem_take_iff_getElem];exact⟨i,by omega,rfl⟩
 ·have:=(Fj r hr).2.1
  unfold pG at this;rw[Bool.and_eq_true]at this;exact YN.mp this.2
theorem ajz {c:Nat}(h:Cl M)(hR:∀m,uW (M++[m]) RR (rows.map dQ))(hD:∀M,sJ M RR=some (.data (fq 0 (rows.map dQ))))(hn:rows.length<=1000)(hz:∀r∈rows,r.2.length<=1000):Cf true 0 (aR false 3 13 (AU (aR false 3 3 (sC c)) t)) [.dat (.int k),RR] M=
    Ek k rows (.ret (.ok (.dat (aP k rows)) M)) (.ret (.ex c (Cz k) M)) λi=>.ret (.ex 18 (vI i) M):=by
  have Et:∀m:ak,cut M.length (M++[m])=M:=λm=>K2 h
  have hM:=hR (ak.ins 0 []);rw[kMak_r,jG (by rfl)];show((AU (aR false 3 3 (sC c)) t (rF (.mu M.length) k RR) (M++[ak.ins 0 []])).bind (mD false (M++[ak.ins 0 []]).length)).bind (ur true M.length)=_
  unfold AU Ek;rw[iF,apZ,apQ,show(ai (ah 1) (ai (λ_=>ok (.dat (.int 1))) (ai (λ_=>ok (.dat (.int 6))) av))) (rF (.mu M.length) k RR) (M++[ak.ins 0 []])=.ret (.ok [.dat (.int k),.dat (.int 1),.dat (.int 6)] (M++[ak.ins 0 []]))from by simp,bR,cD,Te];by_cases hk:1<=k/\k<=6
  · rw[if_pos hk,if_pos hk]
    simp only[bR,cD,ahz,iS,iF,QI,QK,Du];have l2:bu (b_ t) (ai (ah 2) av) (rF (.mu M.length) k RR) (M++[ak.ins 0 []])=.ret (.ok (.dat (.int (rows.length:Int))) (M++[ak.ins 0 []])):=by
      have:=vp (t:=t) (M:=M++[ak.ins 0 []]) (f:=ah 2) (ρ:=rF (.mu M.length) k RR) (qq rfl hM.un hM.fB) hM.len (by rw[List.length_map];unfold sizeLine;omega);rw[List.length_map]at this;exact this
    have ch:nW .LtE .LtE (λ_=>ok (.dat (.int 1))) (bu (b_ t) (ai (ah 2) av)) (λ_=>ok (.dat (.int 4))) (rF (.mu M.length) k RR) (M++[ak.ins 0 []])=.ret (.ok (.dat (.bl (decide (1<=rows.length/\rows.length<=4)))) (M++[ak.ins 0 []])):=by
      rw[aaP];simp only[Ds,bR,cD,V7,l2,V6,dh];by_cases a1:1<=rows.length
      · rw[show decide ((1:Int)<=(rows.length:Int))=true from by simp;omega]
        simp only[KJ,bR,cD,xr,Ds,cmp,dh,Option.map_some,vE];have:decide ((rows.length:Int)<=4)=decide (1<=rows.length/\rows.length<=4):=by
          by_cases a2:rows.length<=4
          · rw[decide_eq_true (by omega),decide_eq_true ⟨a1,a2⟩]
          · rw[decide_eq_false (by omega),decide_eq_false (λq=>a2 q.2)]
        rw[this]
      · rw[show decide ((1:Int)<=(rows.length:Int))=false from by simp;omega]
        rw[Tf,decide_eq_false (λq=>a1 q.1)]
    rw[ch];simp only[bR,cD,Dq,MX,MR];by_cases hl:1<=rows.length/\rows.length<=4
    · rw[if_pos hl,decide_eq_true hl]
      simp only[Bool.not_true,Bool.false_eq_true,if_false,aaZ,bR,cD,iS,iF];obtain⟨its,e1,e2⟩:=hM.en;have tu:=ZA (t:=t) (s:=.mu M.length) (k:=k) hM hn hz rows 0 (λj=>by rw[Nat.zero_add]);have hf:fR (mj (ah 2)) Lw (Ca t) (rF (.mu M.length) k RR) (M++[ak.ins 0 []])=(match oV k rows 0 rows with
          |some i=>.ret (.ex 18 (vI i) (M++[ak.ins 0 []]))
          |none=>.ret (.ok (.nx (rF (.mu M.length) k RR)) (M++[ak.ins 0 []]))):=by
        rw[vY];have hi:mj (ah 2) (rF (.mu M.length) k RR) (M++[ak.ins 0 []])=.ret (.ok its (M++[ak.ins 0 []])):=by
          unfold mj Ev.bind;rw[qq rfl hM.un hM.fB];simp only[T.bind,aX,e1]
        rw[hi,bR,cD];have e3:=hD (M++[ak.ins 0 []]);rw[e1]at e3;cases e3
        rw[vX];exact tu
      rw[hf];cases hb:oV k rows 0 rows with
      |some i=>
        simp only[bR,aaX,OQ,ajC,TJ,Et,List.length_append,List.length_cons,List.length_nil]
      |none=>
        have b:=UJ hk.1 hk.2 hl.1 hl.2 hb;obtain⟨cO,e⟩:=ah3 (M:=M++[ak.ins 0 []]) (RR:=RR) (s:=M.length) zA (λfs=>by rw[Xp];exact hR _) b;rw[Xp]at e;simp only[bR,cD,iS,e,HF];rw[show(M++[ak.ins 0 []]).length=M.length+1 from by simp,TJ,ajD];simp[Et]
    · rw[if_neg hl,decide_eq_false hl]
      simp[vI,Cv,Et]
  · rw[if_neg hk,if_neg hk]
    simp[Et]
theorem ajy {c:Nat}(h:Cl M)(hn:rows.length<=1000)(hz:∀r∈rows,r.2.length<=1000):Cf true 0 (aR false 3 13 (AU (aR false 3 3 (sC c)) t)) [.dat (.int k),.dat (.lst (rows.map dQ))] M=
    Ek k rows (.ret (.ok (.dat (aP k rows)) M)) (.ret (.ex c (Cz k) M)) λi=>.ret (.ex 18 (vI i) M):=ajz h (λ_=>alN) (λ_=>rfl) hn hz
end
section
variable{α β:Type}{M:List ak}{ρ:List af}{s:af}{l u:Option Int}{ds:List D}{z:Str}{xs:List α}{x y:Int}{i:Nat}
@[simp]theorem auJ:ou ρ M=.ret (.ok none M):=id rfl
def M3:af->Ev (Option Int):=λs=>match s with
 | .dat (.int i)=>ok (some i)
 |_=>bad
@[simp]theorem asK:M3 (.dat (.int x)) M=.ret (.ok (some x) M):=id rfl
@[simp]theorem auK {f:CE}:nH f ρ M=(f ρ M).bind (aX M3):=by
 unfold nH M3 Ev.bind;rfl
def F8 (x:af)(l:Option Int):Option Int->Ev af:=λu M=>lM (tF M x l u)
@[simp]theorem asU:F8 s l u M=lM (tF M s l u):=id rfl
def F7 (hi:r8)(ρ:List af)(x:af):Option Int->Ev af:=λl=>(hi ρ).bind (F8 x l)
@[simp]theorem asT {hi:r8}:F7 hi ρ s l M=(hi ρ M).bind (aX (F8 s l)):=id rfl
def Na (lo hi:r8)(ρ:List af):af->Ev af:=λx=>(lo ρ).bind (F7 hi ρ x)
@[simp]theorem asS {lo hi:r8}:Na lo hi ρ s M=(lo ρ M).bind (aX (F7 hi ρ s)):=id rfl
@[simp]theorem auu {f:CE}{lo hi:r8}:nc f lo hi ρ M=(f ρ M).bind (aX (Na lo hi ρ)):=by
 unfold nc Na F7 F8 Ev.bind
 congr 1
@[simp]theorem atY:tF M (.dat (.lst ds)) l u=some (.dat (.lst (cutD ds l u)),M):=id rfl
@[simp]theorem atZ:tF M (.dat (.tup ds)) l u=some (.dat (.tup (cutD ds l u)),M):=id rfl
theorem adQ (h:0<=x):cutD xs none (some x)=xs.take x.toNat:=by
 obtain⟨k,rfl⟩:=Int.eq_ofNat_of_zero_le h;unfold cutD;rw[HT.sIx_nat,HT.sIx_none,List.drop_zero,Nat.sub_zero];by_cases h:k<=xs.length
 ·rw[Nat.min_eq_left h];rfl
 ·rw[Nat.min_eq_right (by omega),List.take_of_length_le (Nat.le_refl _),List.take_of_length_le (by simp;omega)]
end
end R
namespace R
open PySem PySem.Spec PyProof.Rows L2
section
variable{α:Type}
@[simp]theorem atR {x:Int}{z:Str}:dQ (x,z)=.tup [.int x,.str z]:=rfl
end
end R
namespace R
open PySem PySem.Spec PyProof.Rows L2
variable[aT]
section
variable{M:List ak}{k:Int}{rows:List (Int×Str)}{w:Nat}{u z:Str}
theorem WH:∀(rows:List (Int×Str)) (i:Nat),jJ (gn i rows)=true
 |[],_=>rfl
 |r::rows,i=>by
  have key:∀l:List D,jJ (l.flatMap (sU (.tup [.int (i:Nat),.str r.2])))=true:=by
   intro l;induction l with
   |nil=>rfl
   |cons d l ih=>
    rw[List.flatMap_cons,vB,List.all_append,<-vB,<-vB,ih,Bool.and_true];unfold sU;split
    ·rename_i h1 h2
     cases h1
     split<;>rfl
    ·rfl
  rw[gn,vB,List.all_append,<-vB,<-vB,WH rows (i+1),Bool.and_true];exact key _
@[simp]theorem Oh:fQ (aP k rows)=true:=by
 unfold aP u7;simp only[ak6,aka,ak7,ak8,ak9,akb,WH,Bool.and_true,Bool.true_and];rw[G5 (λ_=>rfl),G5 (λ_=>rfl)];rfl
end
end R
namespace R
open PySem PySem.Spec PyProof.Rows L2
theorem aie [aT](c7:aT){K:Frag}{F:aM}{ns:List Int}{H:Hp}{a:Addr}(hT:H (c7.tab 0)=some (.tbl #[]))(hS:SqL K H a (ns.map V.int))(h:W (F [.dat (.fC ns)] [.tab 0]) λr=>∃M,r=.ok (.dat (.bl true)) M):z8 c7 K 1 F [.ref a] H (λv _=>v=.bl true) λ_ _ _=>False:=
 aid c7 hT hS (acp.mp h)
end R
namespace R
open PySem PySem.Spec PyProof.Rows L2
variable[aT]
section
variable{α:Type}{M:List ak}{ρ:List af}{s:af}{x y p:Int}{xs:List α}{f:α->Int}{ds:List D}{c:Nat}
theorem VT:∀ns:List Int,intsOf (ns.map D.int)=some ns
 |[]=>rfl
 |n::r=>by rw[List.map_cons,intsOf,VT r];rfl
end
section
variable{M:List ak}{k r q:Int}{rows:List (Int×Str)}{w c:Nat}{tU Q9:aM}
theorem aeE:qV "own_signs" M (.dat (aP k rows))=some (.dat (.lst (rows.map λr=>D.str r.2)),M):=rfl
end
end R
namespace er
open PySem PySem.Spec PyProof.Rows L2 R
variable[aT]
section
variable{k:Int}{rows:List (Int×Str)}{w a:Nat}{x:Int×Str}
theorem UH:∀{l:List (Int×Str)} {all:List (Int×Str)} {i:Nat},(∀(j:Nat) r,l[j]?=some r->uB k all (i+j) r=false)->oV k all i l=none
 |[],_,_,_=>rfl
 |r::l,all,i,h1=>by
  unfold oV;have h0:=h1 0 r rfl;rw[Nat.add_zero]at h0;rw[if_neg (by rw[h0];decide)];exact UH λj r hr=>by
   have:=h1 (j+1) r (by simpa using hr)
   rwa[show i+(j+1)=i+1+j by omega]at this
theorem afa {all:List (Int×Str)}{i:Nat}{r:Int×Str}(h0:0<=r.1)(h1:r.1<k)(h2:r.1∉(all.take i).map (·.1))(h3:pG r.2=true)(h4:r.2.length=((all.map (·.2)).headD Str.empty).length):uB k all i r=false:=by
 unfold uB;simp only[h3,Bool.not_true,Bool.false_or,Bool.or_eq_false_iff,Bool.not_eq_false',Bool.and_eq_true,decide_eq_true_eq,decide_eq_false_iff_not];exact⟨⟨⟨h0,h1⟩,h2⟩,h4⟩
theorem afW (all:List (Int×Str)){r:Int×Str}(h:all[0]?=some r):((all.map (·.2)).headD Str.empty)=r.2:=by
 cases all with
 |nil=>cases h
 |cons b l=>cases h;rfl
variable(bH:dW k rows w)(ha:a<rows.length)
include bH
theorem aq9 {r:Int×Str}(h:r∈rows):pG r.2=true:=by
 have h1:=(bH.oE r h).1;have aD:=bH.aD;have bK:=bH.bK;unfold pG;rw[YN.mpr (bH.oE r h).2,decide_eq_true (by omega),decide_eq_true (by omega)];rfl
theorem akd {i:Nat}{r:Int×Str}(h:rows[i]?=some r):r.1∉(rows.take i).map (·.1):=by
 intro hp;have nd:=bH.nd;have hi:=(List.getElem?_eq_some_iff.mp h).1;have e:rows=rows.take i++r::rows.drop (i+1):=by
  have:rows[i]=r:=(List.getElem?_eq_some_iff.mp h).2;rw[<-this,List.getElem_cons_drop,List.take_append_drop]
 rw[e,List.map_append,List.nodup_append]at nd;exact nd.2.2 r.1 hp r.1 (by simp) rfl
theorem acA:oV k rows 0 rows=none:=UH λj r hr=>by
 rw[Nat.zero_add];have hm:=List.mem_of_getElem? hr;have r0:rows[0]?=some (rows[0]'(by have:=bH.h1;omega)):=List.getElem?_eq_getElem _;exact afa (bH.lo r hm).1 (bH.lo r hm).2 (akd bH hr) (aq9 bH hm) (by rw[afW _ r0,(bH.oE r hm).1,(bH.oE _ (List.mem_of_getElem? r0)).1])
end
end er
namespace R
open PySem PySem.Spec PyProof.Rows L2
variable[aT]
section
variable{M:List ak}{ρ:List af}{k:Int}{rows:List (Int×Str)}{w:Nat}{F:aM}{d:D}{ds xs:List D}{v:Bool}{rW:bN}
@[simp]theorem atj {m:Bool}:uq m M [.dat (.tup ds)]=some (d9 m M ds):=id rfl
def sR (d:D)(ds:List D):Bool:=(e_ ds).any λz=>PyData.eqv z (py d)
theorem Tg (h1:plain 58 (.tup xs)=true)(h2:ez 58 ds=true):dh .In M (.dat (.tup xs)) (.dat (.lst ds))=some (sR (.tup xs) ds):=by
 show(if plain 58 (.tup xs)&&ez 58 ds then some (sR (.tup xs) ds)else none)=_
 rw[h1,h2];rfl
theorem al0:∀(rows:List (Int×Str)) (i:Nat),ez 58 (gn i rows)=true:=by
 intro rows i;rw[zu];generalize bG i rows=l;induction l with
 |nil=>simp
 |cons p l ih=>rw[List.map_cons,xN,ih,Bool.and_true];unfold aI;simp
theorem adw {a b:Int}{i:Nat}:dh .In M (.dat (.tup [.int a,.int b])) (.dat (.lst (gn i rows)))=some (sR (.tup [.int a,.int b]) (gn i rows)):=Tg (by simp) (al0 _ _)
def D5 (kh:aM):aN:=(bT (i9 (bB kh (ai (ah 1) av)) (ao (cmp .In) (ah 1) (j5 "own_keys" [0] (ah 0)))))
theorem Ur:qV "own_keys" M (.dat (aP k rows))=some (.dat (.lst (gn 0 rows)),M):=rfl
theorem adN {a b:Int}(e:F [.dat (.tup [.int a,.int b])] M=.ret (.ok (.dat (.bl true)) M)):aR false 2 2 (D5 F) [.dat (aP k rows),.dat (.tup [.int a,.int b])] M=.ret (.ok (.dat (.bl (sR (.tup [.int a,.int b]) (gn 0 rows)))) M):=aeH (by
 unfold D5;simp[e,Ur,adw])
theorem adE {turn:af->Ev (List D)}{f:Nat->D}{n:Nat}(h:∀i:Nat,turn (.dat (.int (i:Int))) M=.ret (.ok [f i] M)):pW turn (rng 0 n) M=.ret (.ok ((List.range n).map f) M):=by
 unfold rng;exact Bg λi _=>by rw[Int.zero_add];exact h i
theorem agX {e:D}:sR d (e::ds)=(jL e d||sR d ds):=by unfold sR jL;rfl
theorem agY:sR d []=false:=rfl
def YK (n:Nat):Str:=Txt.mul "o" (n:Int)
def fK (a b:Nat):List (Int×Str):=(List.range (a+1)).map λi:Nat=>((i:Int),YK (b+1))
theorem aeP:∀a:Nat,a<4->∀b:Nat,b<4->oV ((a:Int)+1) (fK a b) 0 (fK a b)=none:=by decide+kernel
theorem aeQ:∀a:Nat,a<4->∀b:Nat,b<4->(((fK a b).map (·.2)).headD Str.empty).length=b+1:=by decide+kernel
theorem UK {a b:Nat}:(fK a b).length=a+1:=by unfold fK;simp
theorem E_ {a b:Nat}(ha:a<4)(hb:b<4):dW (1+(a:Int)) (fK a b) (b+1):=by
 have h:=UJ (k:=(a:Int)+1) (rows:=fK a b) (by omega) (by omega) (by rw[UK];omega) (by rw[UK];omega) (aeP a ha b hb);rw[aeQ a ha b hb]at h;rw[Int.add_comm];exact h
end
section
variable{M:List ak}{ρ:List af}{s t:af}{y z u v:Str}{ds es:List D}{x:Int}
def JY (i:Nat)(a:Int)(ρ:List af):af->Ev bW
 | .dat (.int b)=>ok (.nx (ρ.set i (.dat (.int (a+b)))))
 |_=>bad
@[simp]theorem aqK {i:Nat}{a b:Int}:JY i a ρ (.dat (.int b)) M=.ret (.ok (.nx (ρ.set i (.dat (.int (a+b))))) M):=id rfl
theorem aaY {i:Nat}{f:CE}{a:Int}(h:ρ[i]?=some (.dat (.int a))):CO i f ρ M=(f ρ M).bind (aX (JY i a ρ)):=by
 unfold CO;rw[h];show Ev.bind (f ρ) _ M=Ev.bind (f ρ) (JY i a ρ) M
 rfl
end
section
variable{M:List ak}{p v:Str}{d:Int}
def words:List Str:=["down","up","keep"]
def ahi (p:Str):Bool:=p.cps.toList.all λc=>decide (c∈([48,49,50,63]:List Nat))
def aly (d:Int)(p v:Str):Bool:=decide (v∈words)&&(decide ((p.length:Int)=d)&&ahi p)
end
section
variable{M:List ak}{d:Int}{xs:List D}{s:af}{RR:af}{Q5 Fa aqq:aM}{g:D->Bool}{rows:List (Str×Str)}
structure R_ (d:Int)(rows:List (Str×Str)):Prop where
 n:rows.length<=12
 r:∀r∈rows,aly d r.1 r.2=true
end
section
variable{M:List ak}{j:Nat}{d:Int}{t:bN}
local macro_rules|`(tactic|walk_at"sx")=>`(tactic|simp(maxSteps:=5000000) (disch:=first|omega|(simp;done)|((simp only[Str.length_append,List.length_cons,List.length_nil,List.length_map,List.length_append,List.length_take,List.length_drop])<;>omega)) [-kMak_r])
local macro_rules|`(tactic|walk_at"sx*")=>`(tactic|simp(maxSteps:=5000000) (disch:=first|omega|(simp[*];done)|((simp only[Str.length_append,List.length_cons,List.length_nil,List.length_map,List.length_append])<;>omega)) [*,-kMak_r])
abbrev N0:List ak:=[.tab 0,.hand]
end
section
variable{M:List ak}{ρ:List af}{s:af}{ds:List D}{aE bC f:CE}{g:aH}{c:Nat}{code:Str}{j:Nat}{m:Bool}{ns:List Int}{z:Str}
def Wv (ds:List D):List af->Ev (List af):=λss=>ok (ds.map .dat++ss)
@[simp]theorem asV {ss:List af}:Wv ds ss M=.ret (.ok (ds.map .dat++ss) M):=id rfl
def Wu (g:aH)(ρ:List af):af->Ev (List af):=λx M=>Ic g ρ (xW M x) M
@[simp]theorem asW:Wu g ρ s M=Ic g ρ (xW M s) M:=id rfl
@[simp]theorem auv:EV f g ρ M=(f ρ M).bind (aX (Wu g ρ)):=id rfl
@[simp]theorem au2:Ic g ρ (some ds) M=(g ρ M).bind (aX (Wv ds)):=id rfl
@[simp]theorem au1:xW M (.dat (.tup ds))=some ds:=id rfl
def Wb (x:af):af->Ev af:=λs M=>lM (wW s M (fY x M) (iM M s))
@[simp]theorem asu {x:af}:Wb x s M=lM (wW s M (fY x M) (iM M s)):=id rfl
def Wa (bC:CE)(ρ:List af):af->Ev af:=λx M=>E6 bC ρ x (fY x M) M
@[simp]theorem asv:Wa bC ρ s M=E6 bC ρ s (fY s M) M:=id rfl
@[simp]theorem aui:yP aE bC ρ M=(aE ρ M).bind (aX (Wa bC ρ)):=id rfl
@[simp]theorem arA {x:af}{p:Nat×List af}:E6 bC ρ x (some p) M=(bC ρ M).bind (aX (Wb x)):=by
 show(bC ρ M).bind (aX _)=_
 congr 1
@[simp]theorem arB {aB:List af}(h:aB.length+ds.length<=16777216):wW s M (some (j,aB)) (some ds)=some (.dat .non,M.set j (.lst (aB++ds.map .dat))):=by
 unfold wW;dsimp only;rw[tE,if_pos h]
@[simp]theorem aa7 (h:ns.length<64):rS m M (.dat (.lst (ns.map D.int)))=some (d9 m M ((sset ns).map .int)):=by
 unfold rS;rw[XO]
 dsimp only
 rw[VT]
 dsimp only
 rw[if_pos h]
end
end R
namespace R
abbrev aC:Type:=Int×Int
section
variable(fw bw:aC->Bool)(K:List aC)
def stC (here:Int)(cols:List Int)(k:aC):List Int:=if k.1=here/\fw k=true/\k.2∉cols then cols++[k.2]else cols
def mG (cols:List Int)(rs:List Int)(k:aC):List Int:=if k.2∈cols/\bw k=true/\k.1∉rs then rs++[k.1]else rs
def om:Nat->Nat->List Int->List Int->List Int×List Int
 |0,_,rs,cols=>(rs,cols)
 |n+1,at_,rs,cols=>if at_<rs.length then om n (at_+1) (K.foldl (mG bw (K.foldl (stC fw (rs.getD at_ 0)) cols)) rs) (K.foldl (stC fw (rs.getD at_ 0)) cols)else(rs,cols)
def xB (r:Int):List Int:=(om fw bw K 200 0 [r] []).2
end
section
variable{fw bw:aC->Bool}{K:List aC}{here x:Int}{cols rs:List Int}{k:aC}
theorem Lo:∀{K:List aC} {cols:List Int},x∈K.foldl (stC fw here) cols↔x∈cols\/∃k∈K,k.1=here/\fw k=true/\k.2=x
 |[],cols=>by simp
 |k::K,cols=>by
  rw[List.foldl_cons,Lo];unfold stC;split
  ·rename_i h
   simp only[List.mem_append,List.mem_cons,List.not_mem_nil,or_false];constructor
   ·rintro((h1|h1)|⟨q,h1,h2⟩)
    ·exact .inl h1
    ·exact .inr ⟨k,.inl rfl,h.1,h.2.1,h1.symm⟩
    ·exact .inr ⟨q,.inr h1,h2⟩
   ·rintro(h1|⟨q,rfl|h1,h2,h3,h4⟩)
    ·exact .inl (.inl h1)
    ·exact .inl (.inr h4.symm)
    ·exact .inr ⟨q,h1,h2,h3,h4⟩
  ·rename_i h
   constructor
   ·rintro(h1|⟨q,h1,h2⟩)
    ·exact .inl h1
    ·exact .inr ⟨q,List.mem_cons_of_mem _ h1,h2⟩
   ·rintro(h1|⟨q,h1,h2,h3,h4⟩)
    ·exact .inl h1
    ·rcases List.mem_cons.mp h1 with rfl|h1
     ·refine .inl ?_
      rw[<-h4];exact Decidable.byContradiction λz=>h ⟨h2,h3,z⟩
     ·exact .inr ⟨q,h1,h2,h3,h4⟩
theorem Uz:∀{K:List aC} {cols:List Int},cols.Nodup->(K.foldl (stC fw here) cols).Nodup
 |[],_,h=>h
 |k::K,cols,h=>by
  rw[List.foldl_cons];refine Uz ?_;unfold stC;split
  ·rename_i q
   rw[List.nodup_append];exact⟨h,by simp,λa ha b hb=>by simp at hb;subst hb;exactλe=>q.2.2 (e▸ha)⟩
  ·exact h
theorem BG:∀{K:List aC} {rs:List Int},∃more,K.foldl (mG bw cols) rs=rs++more/\∀x∈more,∃k∈K,k.1=x/\bw k=true/\k.2∈cols
 |[],rs=>⟨[],by simp,by simp⟩
 |k::K,rs=>by
  rw[List.foldl_cons];unfold mG;split
  ·rename_i h
   obtain⟨more,e,hm⟩:=BG (K:=K) (rs:=rs++[k.1]);refine⟨k.1::more,?_,λx hx=>?_⟩
   ·show K.foldl (mG bw cols) _=_
    rw[e,List.append_assoc];rfl
   ·rcases List.mem_cons.mp hx with rfl|hx
    ·exact⟨k,List.mem_cons_self,rfl,h.2.1,h.1⟩
    ·obtain⟨q,h1,h2⟩:=hm x hx
     exact⟨q,List.mem_cons_of_mem _ h1,h2⟩
  ·obtain⟨more,e,hm⟩:=BG (K:=K) (rs:=rs)
   exact⟨more,e,λx hx=>by obtain⟨q,h1,h2⟩:=hm x hx;exact⟨q,List.mem_cons_of_mem _ h1,h2⟩⟩
theorem UA:∀{K:List aC} {rs:List Int},∀k∈K,k.2∈cols->bw k=true->k.1∈K.foldl (mG bw cols) rs
 |[],_,k,h,_,_=>by cases h
 |e7::K,rs,k,h,h1,h2=>by
  rw[List.foldl_cons];rcases List.mem_cons.mp h with rfl|h
  ·obtain⟨more,e,_⟩:=BG (bw:=bw) (cols:=cols) (K:=K) (rs:=mG bw cols rs k)
   rw[e];refine List.mem_append_left _ ?_;unfold mG;split
   ·simp
   ·rename_i q
    exact Decidable.byContradiction λz=>q ⟨h1,h2,z⟩
  ·exact UA k h h1 h2
theorem UC:∀{K:List aC} {rs:List Int},rs.Nodup->(K.foldl (mG bw cols) rs).Nodup
 |[],_,h=>h
 |k::K,rs,h=>by
  rw[List.foldl_cons];refine UC ?_;unfold mG;split
  ·rename_i q
   rw[List.nodup_append];exact⟨h,by simp,λa ha b hb=>by simp at hb;subst hb;exactλe=>q.2.2 (e▸ha)⟩
  ·exact h
theorem zJ {α:Type}[DecidableEq α]:∀{a b:List α},a.Nodup->(∀x∈a,x∈b)->a.length<=b.length
 |[],_,_,_=>Nat.zero_le _
 |x::a,b,h,hs=>by
  obtain⟨h1,h2⟩:=List.nodup_cons.mp h;have hx:=hs x List.mem_cons_self;have:=zJ (a:=a) (b:=b.erase x) h2 λy hy=>(List.mem_erase_of_ne (λe:y=x=>h1 (by rw[<-e];exact hy))).mpr (hs y (List.mem_cons_of_mem _ hy))
  rw[List.length_erase_of_mem hx]at this;have hp:0<b.length:=List.length_pos_of_mem hx;rw[List.length_cons];omega
structure mK (fw bw:aC->Bool)(K:List aC)(r0:Int)(n:Nat)(rs cols:List Int):Prop where
 hd:rs[0]?=some r0
 nd:rs.Nodup
 sub:∀r∈rs,r=r0\/∃k∈K,k.1=r
 col:∀c∈cols,∃j r,j<n/\rs[j]?=some r/\∃k∈K,k.1=r/\fw k=true/\k.2=c
 row:∀i r,0<i->rs[i]?=some r->∃k∈K,k.1=r/\bw k=true/\∃j gx,j<i/\rs[j]?=some gx/\∃e7∈K,e7.1=gx/\fw e7=true/\e7.2=k.2
 all:∀j r,j<n->rs[j]?=some r->∀k∈K,k.1=r->fw k=true->k.2∈cols
 SE:∀k∈K,k.2∈cols->bw k=true->k.1∈rs
 EF:cols.Nodup
theorem mK.len {r0:Int}{n:Nat}(h:mK fw bw K r0 n rs cols):rs.length<=K.length+1:=by
 have:=zJ (a:=rs) (b:=r0::K.map (·.1)) h.nd λr hr=>by
  rcases h.sub r hr with rfl|⟨k,hk,rfl⟩
  ·exact List.mem_cons_self
  ·exact List.mem_cons_of_mem _ (List.mem_map.mpr ⟨k,hk,rfl⟩)
 rwa[List.length_cons,List.length_map]at this
theorem mK.start (r0:Int):mK fw bw K r0 0 [r0] [] where
 hd:=rfl
 nd:=by simp
 sub:=λr hr=>by simp at hr;exact .inl hr
 col:=λc hc=>by cases hc
 row:=λi r hi hr=>by
  cases i with
  |zero=>omega
  |succ i=>simp at hr
 all:=λj r hj=>by omega
 SE:=λk _ hc=>by cases hc
 EF:=by simp
theorem mK.step {r0:Int}{n:Nat}(h:mK fw bw K r0 n rs cols)(hn:n<rs.length):mK fw bw K r0 (n+1) (K.foldl (mG bw (K.foldl (stC fw (rs.getD n 0)) cols)) rs) (K.foldl (stC fw (rs.getD n 0)) cols):=by
 have e0:rs[n]?=some (rs.getD n 0):=by rw[List.getD_eq_getElem?_getD,List.getElem?_eq_getElem hn];rfl
 generalize rs.getD n 0=here at e0;obtain⟨more,em,hm⟩:=BG (bw:=bw) (cols:=K.foldl (stC fw here) cols) (K:=K) (rs:=rs);have old:∀{j r},rs[j]?=some r->(rs++more)[j]?=some r:=λ{j r} e=>by
  rw[List.getElem?_append_left (List.getElem?_eq_some_iff.mp e).1];exact e
 have src:∀c∈K.foldl (stC fw here) cols,∃j r,j<n+1/\rs[j]?=some r/\∃k∈K,k.1=r/\fw k=true/\k.2=c:=λc hc=>by
  rcases Lo.mp hc with hc|⟨k,hk,h1,h2,h3⟩
  ·obtain⟨j,r,hj,gU,q⟩:=h.col c hc
   exact⟨j,r,by omega,gU,q⟩
  ·exact⟨n,here,by omega,e0,k,hk,h1,h2,h3⟩
 have nd:=UC (bw:=bw) (cols:=K.foldl (stC fw here) cols) (K:=K) h.nd;have bk:=UA (bw:=bw) (cols:=K.foldl (stC fw here) cols) (K:=K) (rs:=rs);rw[em]at nd⊢;refine⟨old h.hd,nd,λr hr=>?_,λc hc=>?_,λi r hi gU=>?_,λj r hj gU k hk h1 h2=>?_,λk hk hc hb=>em▸bk k hk hc hb,Uz h.EF⟩
 ·rcases List.mem_append.mp hr with hr|hr
  ·exact h.sub r hr
  ·obtain⟨k,hk,e,_⟩:=hm r hr
   exact .inr ⟨k,hk,e⟩
 ·obtain⟨j,r,hj,gU,q⟩:=src c hc
  exact⟨j,r,hj,old gU,q⟩
 ·by_cases hl:i<rs.length
  ·rw[List.getElem?_append_left hl]at gU
   obtain⟨k,hk,a,b,j,gx,hj,g9,q⟩:=h.row i r hi gU;exact⟨k,hk,a,b,j,gx,hj,old g9,q⟩
  ·rw[List.getElem?_append_right (by omega)]at gU
   obtain⟨k,hk,a,b,hc⟩:=hm r (List.mem_of_getElem? gU);obtain⟨j,gx,hj,g9,q⟩:=src _ hc;exact⟨k,hk,a,b,j,gx,by omega,old g9,q⟩
 ·have vm:j<rs.length:=by omega
  rw[List.getElem?_append_left vm]at gU;rw[Lo];by_cases e:j=n
  ·subst e
   rw[e0]at gU;cases gU
   exact .inr ⟨k,hk,h1,h2,rfl⟩
  ·exact .inl (h.all j r (by omega) gU k hk h1 h2)
theorem XF {r0:Int}:∀(m n:Nat) (rs cols:List Int),mK fw bw K r0 n rs cols->K.length+1<n+m->∃j9,mK fw bw K r0 j9 (om fw bw K m n rs cols).1 (om fw bw K m n rs cols).2/\(om fw bw K m n rs cols).1.length<=j9
 |0,n,rs,cols,h,hm=>by
  have:=h.len;exact⟨n,h,by show rs.length<=n;omega⟩
 |m+1,n,rs,cols,h,hm=>by
  unfold om;by_cases hn:n<rs.length
  ·rw[if_pos hn]
   exact XF m (n+1) _ _ (h.step hn) (by omega)
  ·rw[if_neg hn]
   exact⟨n,h,by show rs.length<=n;omega⟩
variable[aT]
def xC (fw:aC->Bool)(K:List aC)(p:List Int×List Int):List Int:=sset (p.2++((K.filter fw).filter λk=>decide (k.1∈p.1)).map (·.2))
def Cq (bw:aC->Bool)(K:List aC)(p:List Int×List Int)(cs:List Int):List Int:=sset (p.1++((K.filter bw).filter λk=>decide (k.2∈cs)).map (·.1))
def Cr (fw bw:aC->Bool)(K:List aC)(p:List Int×List Int):List Int×List Int:=(Cq bw K p (xC fw K p),xC fw K p)
def lw (fw bw:aC->Bool)(K:List aC)(r0:Int):Nat->List Int×List Int
 |0=>([r0],[])
 |n+1=>Cr fw bw K (lw fw bw K r0 n)
theorem GD {p:List Int×List Int}{c:Int}:c∈xC fw K p↔c∈p.2\/∃k∈K,fw k=true/\k.1∈p.1/\k.2=c:=by
 unfold xC;rw[Qi,List.mem_append,List.mem_map];constructor
 ·rintro(h|⟨k,hk,e⟩)
  ·exact .inl h
  ·rw[List.mem_filter,List.mem_filter,decide_eq_true_eq]at hk
   exact .inr ⟨k,hk.1.1,hk.1.2,hk.2,e⟩
 ·rintro(h|⟨k,h1,h2,h3,e⟩)
  ·exact .inl h
  ·exact .inr ⟨k,by rw[List.mem_filter,List.mem_filter,decide_eq_true_eq];exact⟨⟨h1,h2⟩,h3⟩,e⟩
theorem GF {p:List Int×List Int}{cs:List Int}{r:Int}:r∈Cq bw K p cs↔r∈p.1\/∃k∈K,bw k=true/\k.2∈cs/\k.1=r:=by
 unfold Cq;rw[Qi,List.mem_append,List.mem_map];constructor
 ·rintro(h|⟨k,hk,e⟩)
  ·exact .inl h
  ·rw[List.mem_filter,List.mem_filter,decide_eq_true_eq]at hk
   exact .inr ⟨k,hk.1.1,hk.1.2,hk.2,e⟩
 ·rintro(h|⟨k,h1,h2,h3,e⟩)
  ·exact .inl h
  ·exact .inr ⟨k,by rw[List.mem_filter,List.mem_filter,decide_eq_true_eq];exact⟨⟨h1,h2⟩,h3⟩,e⟩
variable{r0:Int}
theorem XU {j9:Nat}(h:mK fw bw K r0 j9 rs cols)(hl:rs.length<=j9):∀n,(∀r∈(lw fw bw K r0 n).1,r∈rs)/\(∀c∈(lw fw bw K r0 n).2,c∈cols)
 |0=>by
  refine⟨λr hr=>?_,λc hc=>by cases hc⟩;simp[lw]at hr;subst hr;exact List.mem_of_getElem? h.hd
 |n+1=>by
  obtain⟨i1,kZ⟩:=XU h hl n;have hc:∀c∈(lw fw bw K r0 (n+1)).2,c∈cols:=λc hc=>by
   rcases GD.mp hc with hc|⟨k,hk,h1,h2,rfl⟩
   ·exact kZ c hc
   ·obtain⟨j,hj⟩:=List.getElem?_of_mem (i1 _ h2)
    have:=(List.getElem?_eq_some_iff.mp hj).1;exact h.all j _ (by omega) hj k hk rfl h1
  refine⟨λr hr=>?_,hc⟩;rcases GF.mp hr with hr|⟨k,hk,h1,h2,rfl⟩
  ·exact i1 r hr
  ·exact h.SE k hk (hc _ h2) h1
theorem ajp {j9:Nat}(h:mK fw bw K r0 j9 rs cols):∀(i m:Nat) (r:Int),i<=m->rs[i]?=some r->r∈(lw fw bw K r0 m).1:=by
 have mono:∀m r,r∈(lw fw bw K r0 m).1->r∈(lw fw bw K r0 (m+1)).1:=λm r hr=>GF.mpr (.inl hr)
 intro i;induction i using Nat.strongRecOn with
 |_ i ih=>
  intro m r hm gU;by_cases hi:i=0
  ·subst hi
   rw[h.hd]at gU;cases gU
   clear hm;induction m with
   |zero=>simp[lw]
   |succ m im=>exact mono m _ im
  ·obtain⟨k,hk,rfl,hb,j,gx,hj,aek,e7,aga,rfl,hf,e⟩:=h.row i r (by omega) gU
   obtain⟨m',rfl⟩:∃m',m=m'+1:=⟨m-1,by omega⟩;have q:=ih j hj m' _ (by omega) aek;refine GF.mpr (.inr ⟨k,hk,hb,GD.mpr (.inr ⟨e7,aga,hf,q,e⟩),rfl⟩)
theorem aj2 (hK:K.length<=100)(hr:∃S:List Int,S.length<=4/\r0∈S/\∀k∈K,k.1∈S):srt (xB fw bw K r0)=(lw fw bw K r0 5).2:=by
 obtain⟨j9,h,hl⟩:=XF (fw:=fw) (bw:=bw) 200 0 [r0] [] (mK.start (K:=K) r0) (by omega);show srt (om fw bw K 200 0 [r0] []).2=_
 generalize(om fw bw K 200 0 [r0] []).1=rs at h hl;generalize(om fw bw K 200 0 [r0] []).2=cols at h;obtain⟨S,s4,ao3,anI⟩:=hr;have Xj:rs.length<=4:=Nat.le_trans (zJ h.nd λr hr=>by
  rcases h.sub r hr with rfl|⟨k,hk,rfl⟩
  ·exact ao3
  ·exact anI k hk) s4
 have hs:(lw fw bw K r0 5).2=sset cols:=by
  show xC fw K (lw fw bw K r0 4)=_
  refine Qg Qh λc=>?_
  constructor
  ·exact(XU h hl 5).2 c
  ·intro hc
   obtain⟨j,r,hj,gU,k,hk,rfl,hf,e⟩:=h.col c hc;have:=(List.getElem?_eq_some_iff.mp gU).1;exact GD.mpr (.inr ⟨k,hk,hf,ajp h j 4 _ (by omega) gU,e⟩)
 rw[hs];have nd:cols.Nodup:=h.EF;unfold sset;refine Qa ?_ (C1 _) (C1 _);refine(xV _).trans (List.Perm.trans ?_ (xV _).symm);exact(List.perm_ext_iff_of_nodup nd Bq).mpr λk=>by rw[yN]
end
end R
namespace R
open PySem PySem.Spec PyProof.Rows L2
variable[aT]
def lV (rows:List (Int×Str))(k:aC):Nat:=((rows[k.1.toNat]?).map λr=>r.2.cps.toList.getD k.2.toNat 46).getD 46
theorem Nj {i:Nat}{z:Str}{p:aC}:p∈nA i z↔∃c ch:Nat,p=((i:Int),(c:Int))/\z.cps.toList[c]?=some ch/\ch≠46:=by
 unfold nA;rw[List.mem_map];constructor
 ·rintro⟨c,hc,rfl⟩
  rw[List.mem_filter,List.mem_range,decide_eq_true_eq]at hc;obtain⟨h1,h2⟩:=hc;have e:z.cps.toList[c]?=some (z.cps.toList[c]'h1):=List.getElem?_eq_getElem h1;exact⟨c,_,rfl,e,λq=>h2 (by rw[e,q])⟩
 ·rintro⟨c,ch,rfl,h1,h2⟩
  refine⟨c,?_,rfl⟩;rw[List.mem_filter,List.mem_range,decide_eq_true_eq];exact⟨(List.getElem?_eq_some_iff.mp h1).1,λq=>h2 (by rw[h1]at q;exact Option.some.inj q)⟩
theorem Gf {p:aC}:∀{rows:List (Int×Str)} {i:Nat},p∈bG i rows↔∃a c ch:Nat,∃r,rows[a]?=some r/\p=(((i+a:Nat):Int),(c:Int))/\r.2.cps.toList[c]?=some ch/\ch≠46
 |[],i=>by simp[bG]
 |r::rows,i=>by
  rw[bG,List.mem_append,Nj,Gf];constructor
  ·rintro(⟨c,ch,rfl,h1,h2⟩|⟨a,c,ch,gx,e,rfl,h1,h2⟩)
   ·exact⟨0,c,ch,r,rfl,rfl,h1,h2⟩
   ·exact⟨a+1,c,ch,gx,by simpa using e,by rw[show i+1+a=i+(a+1) by omega],h1,h2⟩
  ·rintro⟨a,c,ch,gx,e,rfl,h1,h2⟩
   cases a with
   |zero=>
    simp at e;subst e;exact .inl ⟨c,ch,rfl,h1,h2⟩
   |succ a=>exact .inr ⟨a,c,ch,gx,by simpa using e,by rw[show i+1+a=i+(a+1) by omega],h1,h2⟩
theorem Ga {rows:List (Int×Str)}{k:aC}(h:k∈bG 0 rows):∃(a c:Nat) (p:Int) (z:Str),k=((a:Int),(c:Int))/\rows[a]?=some (p,z)/\z.cps.toList[c]?=some (lV rows k)/\lV rows k≠46:=by
 obtain⟨a,c,ch,⟨p,z⟩,e,rfl,h1,h2⟩:=Gf.mp h;have es:lV rows (((0+a:Nat):Int),(c:Int))=ch:=by
  unfold lV;simp only[Nat.zero_add,Int.toNat_natCast,e,Option.map_some,Option.getD_some];rw[List.getD_eq_getElem?_getD,h1];rfl
 exact⟨a,c,p,z,by rw[Nat.zero_add],e,by rw[es];exact h1,by rw[es];exact h2⟩
theorem ahI (i:Nat)(z:Str):(nA i z).Nodup:=by
 unfold nA List.Nodup;rw[List.pairwise_map];exact(List.nodup_range.filter _).imp λh e=>h (by
  have q:=congrArg Prod.snd e;simp only at q;omega)
theorem Nl:∀(rows:List (Int×Str)) (i:Nat),(bG i rows).Nodup
 |[],_=>.nil
 |r::rows,i=>by
  rw[bG,List.nodup_append];refine⟨ahI _ _,Nl rows (i+1),λa ha b hb e=>?_⟩;subst e;obtain⟨c,ch,rfl,_,_⟩:=Nj.mp ha;obtain⟨a2,c2,_,_,_,e,_,_⟩:=Gf.mp hb;have:=congrArg Prod.fst e;simp only at this;omega
section
variable{M:List ak}{j:Nat}{a b:aC}{K:List aC}{xs:List Int}{x:Int}
theorem Z9:jL (aI a) (aI b)=decide (a=b):=by
 obtain⟨a1,a2⟩:=a;obtain⟨cP,b2⟩:=b;unfold aI;rw[Z_,HY,HY,aa2,P5,P5,Bool.and_true];by_cases h1:a1=cP<;>by_cases h2:a2=b2<;>simp[h1,h2]
theorem FT:∀{K:List aC},sR (aI a) (K.map aI)=decide (a∈K)
 |[]=>by simp[agY]
 |b::K=>by
  rw[List.map_cons,agX,Z9,FT];by_cases h1:b=a
  ·subst h1;simp
  ·have h2:¬a=b:=λe=>h1 e.symm
   simp[h1,h2]
theorem OB {n:Nat}:plain (n+1) (aI a)=true:=by unfold aI;simp
theorem zU {n:Nat}:∀{K:List aC},ez (n+1) (K.map aI)=true
 |[]=>zV
 |b::K=>by rw[List.map_cons,xN,OB,zU];rfl
theorem ah1:dh .In M (.dat (aI a)) (.dat (.lst (K.map aI)))=some (decide (a∈K)):=by
 have:=Tg (M:=M) (xs:=[.int a.1,.int a.2]) (ds:=K.map aI) (by exact OB (a:=a) (n:=57)) zU;rw[<-FT];exact this
theorem Wz:gn 0 rows=(bG 0 rows).map aI:=zu rows 0
@[simp]theorem aay:oG M (.mu j)=(match M[j]? with|some (.lst xs)=>(qR xs).map .lst|_=>none):=id rfl
def V1 (M:List ak)(x:Int):Option ak->Option (af×List ak)
 |some (.lst xs)=>(atI xs x).map λs=>(fB M s,M)
 |_=>none
@[simp]theorem asi:aO M (.mu j) (.dat (.int x))=V1 M x M[j]?:=id rfl
@[simp]theorem asf {ss:List af}:V1 M x (some (.lst ss))=(atI ss x).map λs=>(fB M s,M):=id rfl
theorem DY:∀{xs:List Int},((e_ (xs.map D.int)).any λz=>PyData.eqv z (py (.int x)))=decide (x∈xs)
 |[]=>by simp[e_]
 |y::xs=>by
  have ih:=DY (xs:=xs);show(jL (.int y) (.int x)||_)=_
  rw[P5,ih];by_cases h1:y=x
  ·subst h1;simp
  ·have h2:¬x=y:=λe=>h1 e.symm
   simp[h1,h2]
theorem Hu {n:Nat}:∀{xs:List Int},ez n (xs.map D.int)=true
 |[]=>zV
 |b::K=>by rw[List.map_cons,xN,CB,Hu];rfl
abbrev sS (x:Int):af:=.dat (.int x)
theorem YG (h:M[j]?=some (.lst (xs.map sS))):dh .NotIn M (.dat (.int x)) (.mu j)=some (!decide (x∈xs)):=by
 have e:oG M (.mu j)=some (.lst (xs.map D.int)):=by
  rw[aay,h]
  dsimp only
  rw[show xs.map sS=(xs.map D.int).map .dat by rw[List.map_map];rfl,TX];rfl
 unfold dh
 dsimp only
 rw[e];show(if(plain 58 (.int x)&&ez 58 (xs.map D.int))=true then some (!(e_ (xs.map D.int)).any λz=>PyData.eqv z (py (.int x)))else none)=_
 rw[if_pos (by rw[CB,Hu];rfl),DY]
theorem ah2 (h:M[j]?=some (.lst (xs.map sS))):dh .In M (.dat (.int x)) (.mu j)=some (decide (x∈xs)):=by
 have e:oG M (.mu j)=some (.lst (xs.map D.int)):=by
  rw[aay,h]
  dsimp only
  rw[show xs.map sS=(xs.map D.int).map .dat by rw[List.map_map];rfl,TX];rfl
 unfold dh
 dsimp only
 rw[e];show(if(plain 58 (.int x)&&ez 58 (xs.map D.int))=true then some ((e_ (xs.map D.int)).any λz=>PyData.eqv z (py (.int x)))else none)=_
 rw[if_pos (by rw[CB,Hu];rfl),DY]
theorem MB:dh .In M (.dat (.int x)) (.dat (.lst (xs.map D.int)))=some (decide (x∈xs)):=by
 show(if(plain 58 (.int x)&&ez 58 (xs.map D.int))=true then some ((e_ (xs.map D.int)).any λz=>PyData.eqv z (py (.int x)))else none)=_
 rw[if_pos (by rw[CB,Hu];rfl),DY]
end
section
variable{M:List ak}{ρ:List af}{c:cX}{b:aN}{n:Nat}{dM:List Nat}{fs:aH}{ss:List af}
def Nf (c:cX)(b:aN)(n:Nat)(ρ:List af):Bool->Ev bW:=λk=>if k then(b ρ).bind (nh (tL c b n))else ok (.nx ρ)
theorem aq1:tL c b (n+1) ρ M=(c ρ M).bind (aX (Nf c b n ρ)):=id rfl
theorem ahF {k:Bool}:Nf c b n ρ k M=if k=true then(b ρ M).bind (aX (nh (tL c b n)))else .ret (.ok (.nx ρ) M):=by unfold Nf;rw[Cc];rfl
def M8 (dM:List Nat)(ρ:List af):List af->Ev bW:=λss=>if ss.length=dM.length/\ss.length<=1000 then ok (.nx (vN ρ dM ss))else bad
@[simp]theorem auN:CU dM fs ρ M=(fs ρ M).bind (aX (M8 dM ρ)):=id rfl
@[simp]theorem asP (h:ss.length=dM.length)(h2:ss.length<=1000):M8 dM ρ ss M=.ret (.ok (.nx (vN ρ dM ss)) M):=by unfold M8;rw[if_pos ⟨h,h2⟩];rfl
@[simp]theorem atW:vN ρ [] []=ρ:=id rfl
@[simp]theorem atV {j:Nat}{s:af}:vN ρ (j::dM) (s::ss)=vN (ρ.set j s) dM ss:=id rfl
theorem aq0:HM c b ρ M=tL c b 200 ρ M:=id rfl
end
section
variable{M:List ak}{k:Int}{rows:List (Int×Str)}{F:aM}{rW:bN}{v:Bool}{x:D}{K:List aC}
theorem aeX (e:F [.dat (aP k rows),.dat x] M=.ret (.ok (.dat (.bl v)) M)):oO .NotIn rW [(0,F)] (.dat x) (.dat (aP k rows)) M=.ret (.ok (.dat (.bl (!v))) M):=by
 unfold oO;rw[show dh .NotIn M (.dat x) (.dat (aP k rows))=none from by cases x<;>rfl];show(F [.dat (aP k rows),.dat x] M).bind (wJ λb=>!b)=_
 rw[e];rfl
theorem adM {a:aC}(e:F [.dat (aI a)] M=.ret (.ok (.dat (.bl true)) M)):aR false 2 2 (D5 F) [.dat (aP k rows),.dat (aI a)] M=.ret (.ok (.dat (.bl (decide (a∈bG 0 rows)))) M):=by
 refine(adN (k:=k) (rows:=rows) (a:=a.1) (b:=a.2) e).trans ?_
 congr 4
 rw[zu];exact FT (a:=a)
def WC (x:D):List (Str×D):=[("given",x),("code",.str "BadKey")]
def AZ (jM oF:bN):aN:=(fR (mj (ah 1)) (gH 2 (cZ (br 2) (cZ (br 3) gY))) (fJ [2,3] (dj (tOr (bz (yV (oO .NotIn jM oF) (ah 3) (ah 0))) (bz (ao (cmp .In) (ah 3) (bu (pu (uq false)) (ai (nc (ah 1) ou (nH (ah 2))) av))))) (mV 14 "BadKey" "given" (ah 3)) dR)))
inductive kH:D->List D->Prop
 |lst (ds:List D):kH (.lst ds) ds
 |tup (ds:List D):kH (.tup ds) ds
theorem Yt {jM oF:bN}{all:List aC}{aW:D}(hS:kH aW (all.map aI))(hn:all.length<=1000)(hnd:all.Nodup)(hi:∀a∈all,oO .NotIn jM oF (.dat (aI a)) (.dat (aP k rows)) M=.ret (.ok (.dat (.bl false)) M)):∀(l:List aC) (i:Nat),(∀j,l[j]?=all[i+j]?)->
    gv (gH 2 (cZ (br 2) (cZ (br 3) gY))) (fJ [2,3] (dj (tOr (bz (yV (oO .NotIn jM oF) (ah 3) (ah 0))) (bz (ao (cmp .In) (ah 3) (bu (pu (uq false)) (ai (nc (ah 1) ou (nH (ah 2))) av))))) (mV 14 "BadKey" "given" (ah 3)) dR)) (fq i (l.map aI)) [.dat (aP k rows),.dat aW,.un,.un] M=.ret (.ok (.nx [.dat (aP k rows),.dat aW,.un,.un]) M)
  |[],i,_=>rfl
  |a::l,i,h=>by
    have ha:all[i]?=some a:=(h 0).symm;have vz:=hi a (List.mem_of_getElem? ha);have G3:decide (a∈all.take i)=false:=decide_eq_false λq=>by
      obtain⟨j,hj⟩:=List.getElem?_of_mem q;rw[List.getElem?_take]at hj;split at hj
      · rename_i ag9
        have q1:=(List.getElem?_eq_some_iff.mp hj);have q2:=(List.getElem?_eq_some_iff.mp ha);obtain⟨aD,e1⟩:=q1;obtain⟨bK,e2⟩:=q2;have:=List.pairwise_iff_getElem.mp hnd j i aD bK ag9;exact this (e1.trans e2.symm)
      · cases hj
    have hc:(cutD (all.map aI) none (some (i:Int)))=(all.map aI).take i:=by rw[adQ (by omega)];simp
    have dz:=ah1 (M:=M) (a:=a) (K:=all.take i);rw[G3,List.map_take]at dz;rw[List.map_cons,fq,uL (aY:=[.dat (aP k rows),.dat aW,.dat (.int (i:Int)),.dat (aI a)]) rfl];have e:(fJ [2,3] (dj (tOr (bz (yV (oO .NotIn jM oF) (ah 3) (ah 0))) (bz (ao (cmp .In) (ah 3) (bu (pu (uq false)) (ai (nc (ah 1) ou (nH (ah 2))) av))))) (mV 14 "BadKey" "given" (ah 3)) dR)) [.dat (aP k rows),.dat aW,.dat (.int (i:Int)),.dat (aI a)] M=.ret (.ok (.nx [.dat (aP k rows),.dat aW,.un,.un]) M):=by
      cases hS with
      |lst=>
        have Ck:∀ds:List D,uq false M [.dat (.lst ds)]=some (.dat (.lst ds),M):=λ_=>rfl
        simp[vz,hc,Ck,dz]
      |tup=>
        simp[vz,hc,dz]
    rw[e,bR,cD,tP];exact Yt hS hn hnd hi l (i+1) λj=>by
      have:=h (j+1);rw[show i+1+j=i+(j+1) by omega];exact this
theorem ajW {jM oF:bN}{aW:D}(hS:kH aW (K.map aI))(hn:K.length<=1000)(hnd:K.Nodup)(hi:∀a∈K,oO .NotIn jM oF (.dat (aI a)) (.dat (aP k rows)) M=.ret (.ok (.dat (.bl false)) M)):aR false 2 4 (AZ jM oF) [.dat (aP k rows),.dat aW] M=.ret (.ok (.dat .non) M):=by
 rw[jG (by rfl)];have g:=Yt hS hn hnd hi K 0 (λj=>by rw[Nat.zero_add]);have key:AZ jM oF [.dat (aP k rows),.dat aW,.un,.un] M=.ret (.ok (.nx [.dat (aP k rows),.dat aW,.un,.un]) M):=by
  unfold AZ;cases hS with
  |lst=>simp[g]
  |tup=>simp[g]
 show(AZ jM oF [.dat (aP k rows),.dat aW,.un,.un] M).bind _=_
 rw[key,bR,HF,gr rfl]
end
def BI (c:Nat):Bool:=decide (c∈([111,62]:List Nat))
def A6 (c:Nat):Bool:=decide (c∈([111,60]:List Nat))
def eY (rows:List (Int×Str))(k:aC):Bool:=BI (lV rows k)
def fV (rows:List (Int×Str))(k:aC):Bool:=A6 (lV rows k)
def Gv:aN:=(dj (tAnd (bz (ao (cmp .Eq) (ao aO (ah 8) (λ_=>ok (.dat (.int 0)))) (ah 7))) (tAnd (bz (ao (cmp .In) (ao aO (ao aO (ah 3) (ah 7)) (ao aO (ah 8) (λ_=>ok (.dat (.int 1))))) (λ_=>ok (.dat (.str "o>"))))) (bz (ao (cmp .NotIn) (ao aO (ah 8) (λ_=>ok (.dat (.int 1)))) (ah 5))))) (f5 (sH (ah 5) (ao aO (ah 8) (λ_=>ok (.dat (.int 1)))))) dR)
def Gx:aN:=(dj (tAnd (bz (ao (cmp .In) (ao aO (ah 8) (λ_=>ok (.dat (.int 1)))) (ah 5))) (tAnd (bz (ao (cmp .In) (ao aO (ao aO (ah 3) (ao aO (ah 8) (λ_=>ok (.dat (.int 0))))) (ao aO (ah 8) (λ_=>ok (.dat (.int 1))))) (λ_=>ok (.dat (.str "o<"))))) (bz (ao (cmp .NotIn) (ao aO (ah 8) (λ_=>ok (.dat (.int 0)))) (ah 4))))) (f5 (sH (ah 4) (ao aO (ah 8) (λ_=>ok (.dat (.int 0)))))) dR)
def Gz:aN:=(fJ [7,8] (aL (bL 7 (ao aO (ah 4) (ah 6)))
  (aL (fR (cF (ah 1)) (br 8) Gv)
  (aL (fR (cF (ah 1)) (br 8) Gx)
  (CO 6 (λ_=>ok (.dat (.int 1))))))))
def Gy (t:bN):cX:=(bz (ao (cmp .Lt) (ah 6) (bu (b_ t) (ai (ah 4) av))))
def AX (ff:aM)(t:bN):aN:=
  (aL (CU [3,4,5,6] (ai (m_ "signs" [(0,ff)] (ah 0)) (ai (dw true (ai (ah 2) av)) (ai (dw true av) (ai (λ_=>ok (.dat (.int 0))) av)))))
  (aL (HM (Gy t) Gz)
  (bT (ah 5))))
section
variable{M:List ak}{k r:Int}{rows:List (Int×Str)}{w:Nat}{aW:D}{K:List aC}{rs cols:List Int}{at_ here:Int}{x h7:af}{t:bN}
def rM (rows:List (Int×Str)):D:=.lst (rows.map λr=>.str r.2)
abbrev jW (m:Nat)(k:Int)(rows:List (Int×Str))(aW:D)(r at_:Int)(h7 x:af):List af:=[.dat (aP k rows),.dat aW,.dat (.int r),.dat (rM rows),.mu m,.mu (m+1),.dat (.int at_),h7,x]
abbrev iz (M:List ak)(rs cols:List Int):List ak:=M++[.lst (rs.map sS),.lst (cols.map sS)]
theorem Z6 {c:Nat}:dh .In M (.dat (.str ⟨#[c]⟩)) (.dat (.str "o>"))=some (BI c):=rfl
theorem Z7 {c:Nat}:dh .In M (.dat (.str ⟨#[c]⟩)) (.dat (.str "o<"))=some (A6 c):=rfl
theorem ajH:(iz M rs cols)[M.length]?=some (.lst (rs.map sS)):=by simp
theorem X7:(iz M rs cols)[M.length+1]?=some (.lst (cols.map sS)):=by simp
theorem ajb (bH:dW k rows w){a:aC}(ha:a∈bG 0 rows)(hl:cols.length<=1000):Gv (jW M.length k rows aW r at_ (.dat (.int here)) (.dat (aI a))) (iz M rs cols)=.ret (.ok (.nx (jW M.length k rows aW r at_ (.dat (.int here)) (.dat (aI a)))) (iz M rs (stC (eY rows) here cols a))):=by
 obtain⟨i,c,p,z,e,hr,hz,hne⟩:=Ga ha;have rD:z.length<=16777216:=by have q:z.length=w:=(bH.oE _ (List.mem_of_getElem? hr)).1;have:=bH.bK;omega
 have kO:eY rows a=BI (lV rows a):=rfl;generalize lV rows a=ch at hz kO;subst e;unfold Gv stC;have n1:=YG (M:=iz M rs cols) (j:=M.length+1) (xs:=cols) (x:=(c:Int)) X7;have m7:atI (rows.map λr=>D.str r.2) (i:Int)=some (.str z):=by rw[R.AO,R.atI_nat hr];rfl
 have ac:=R.atI_nat hz;have s1:=Z6 (M:=iz M rs cols) (c:=ch);by_cases h1:(i:Int)=here
 ·subst h1
  cases h2:BI ch with
  |false=>
   rw[h2]at s1;simp[aI,rM,m7,ac,rD,s1,kO,h2]
  |true=>
   rw[h2]at s1;by_cases h3:(c:Int)∈cols
   ·rw[decide_eq_true h3]at n1
    simp[aI,rM,m7,ac,rD,s1,kO,h2,n1,h3]
   ·rw[decide_eq_false h3]at n1
    have hl2:cols.length<16777216:=by omega
    simp[aI,rM,m7,ac,rD,s1,kO,h2,n1,h3,hl2]
 ·simp[aI,h1]
theorem ajc (bH:dW k rows w){a:aC}(ha:a∈bG 0 rows)(hl:rs.length<=1000):Gx (jW M.length k rows aW r at_ h7 (.dat (aI a))) (iz M rs cols)=.ret (.ok (.nx (jW M.length k rows aW r at_ h7 (.dat (aI a)))) (iz M (mG (fV rows) cols rs a) cols)):=by
 obtain⟨i,c,p,z,e,hr,hz,hne⟩:=Ga ha;have rD:z.length<=16777216:=by have q:z.length=w:=(bH.oE _ (List.mem_of_getElem? hr)).1;have:=bH.bK;omega
 have kO:fV rows a=A6 (lV rows a):=rfl;generalize lV rows a=ch at hz kO;subst e;unfold Gx mG;have n1:=YG (M:=iz M rs cols) (j:=M.length) (xs:=rs) (x:=(i:Int)) ajH;have n2:=ah2 (M:=iz M rs cols) (j:=M.length+1) (xs:=cols) (x:=(c:Int)) X7;have m7:atI (rows.map λr=>D.str r.2) (i:Int)=some (.str z):=by rw[R.AO,R.atI_nat hr];rfl
 have ac:=R.atI_nat hz;have s1:=Z7 (M:=iz M rs cols) (c:=ch);by_cases h1:(c:Int)∈cols
 ·rw[decide_eq_true h1]at n2
  cases h2:A6 ch with
  |false=>
   rw[h2]at s1;simp[aI,rM,m7,ac,rD,s1,kO,h2,n2]
  |true=>
   rw[h2]at s1;by_cases h3:(i:Int)∈rs
   ·rw[decide_eq_true h3]at n1
    simp[aI,rM,m7,ac,rD,s1,kO,h2,n1,n2,h1,h3]
   ·rw[decide_eq_false h3]at n1
    have hl2:rs.length<16777216:=by omega
    simp[aI,rM,m7,ac,rD,s1,kO,h2,n1,n2,h1,h3,hl2]
 ·rw[decide_eq_false h1]at n2
  simp[aI,n2,h1]
theorem aaa {fw:aC->Bool}{a:aC}:(stC fw here cols a).length<=cols.length+1:=by
 unfold stC;split
 ·simp
 ·omega
theorem aog {bw:aC->Bool}{a:aC}:(mG bw cols rs a).length<=rs.length+1:=by
 unfold mG;split
 ·simp
 ·omega
theorem Uy {fw:aC->Bool}:∀{K:List aC} {cols:List Int},(K.foldl (stC fw here) cols).length<=cols.length+K.length
 |[],cols=>by simp
 |a::K,cols=>by
  have h1:=Uy (fw:=fw) (K:=K) (cols:=stC fw here cols a);have h2:=aaa (fw:=fw) (here:=here) (cols:=cols) (a:=a);rw[List.foldl_cons,List.length_cons];omega
theorem XI (bH:dW k rows w):∀(K:List aC) (cols:List Int) (x:af),(∀a∈K,a∈bG 0 rows)->cols.length+K.length<=1000->∃lB,gv (br 8) Gv (K.map aI) (jW M.length k rows aW r at_ (.dat (.int here)) x) (iz M rs cols)=.ret (.ok (.nx (jW M.length k rows aW r at_ (.dat (.int here)) lB)) (iz M rs (K.foldl (stC (eY rows) here) cols)))
 |[],cols,x,_,_=>⟨x,rfl⟩
 |a::K,cols,x,h,hl=>by
  rw[List.length_cons]at hl;have h2:=aaa (fw:=eY rows) (here:=here) (cols:=cols) (a:=a);obtain⟨lB,e⟩:=XI bH K (stC (eY rows) here cols a) (.dat (aI a)) (λb hb=>h b (List.mem_cons_of_mem _ hb)) (by omega);refine⟨lB,?_⟩;rw[List.map_cons,uL (aY:=jW M.length k rows aW r at_ (.dat (.int here)) (.dat (aI a))) rfl,ajb bH (h a List.mem_cons_self) (by omega),bR,cD,tP];exact e
theorem XJ (bH:dW k rows w):∀(K:List aC) (rs:List Int) (x:af),(∀a∈K,a∈bG 0 rows)->rs.length+K.length<=1000->∃lB,gv (br 8) Gx (K.map aI) (jW M.length k rows aW r at_ h7 x) (iz M rs cols)=.ret (.ok (.nx (jW M.length k rows aW r at_ h7 lB)) (iz M (K.foldl (mG (fV rows) cols) rs) cols))
 |[],cols,x,_,_=>⟨x,rfl⟩
 |a::K,rs,x,h,hl=>by
  rw[List.length_cons]at hl;have h2:=aog (bw:=fV rows) (cols:=cols) (rs:=rs) (a:=a);obtain⟨lB,e⟩:=XJ bH K (mG (fV rows) cols rs a) (.dat (aI a)) (λb hb=>h b (List.mem_cons_of_mem _ hb)) (by omega);refine⟨lB,?_⟩;rw[List.map_cons,uL (aY:=jW M.length k rows aW r at_ h7 (.dat (aI a))) rfl,ajc bH (h a List.mem_cons_self) (by omega),bR,cD,tP];exact e
theorem aje (bH:dW k rows w){n:Nat}(hS:kH aW (K.map aI))(hK:∀a∈K,a∈bG 0 rows)(hl:K.length<=100)(hc:cols.length<=500)(hr:rs.length<=500)(hn:n<rs.length):
    Gz (jW M.length k rows aW r (n:Int) .un .un) (iz M rs cols)=.ret (.ok (.nx (jW M.length k rows aW r ((n+1:Nat):Int) .un .un)) (iz M (K.foldl (mG (fV rows) (K.foldl (stC (eY rows) (rs.getD n 0)) cols)) rs) (K.foldl (stC (eY rows) (rs.getD n 0)) cols))):=by
  have e0:rs[n]?=some (rs.getD n 0):=by rw[List.getD_eq_getElem?_getD,List.getElem?_eq_getElem hn];rfl
  generalize rs.getD n 0=here at e0;have gG:=Uy (here:=here) (fw:=eY rows) (K:=K) (cols:=cols);obtain⟨oH,e1⟩:=XI (M:=M) (aW:=aW) (r:=r) (at_:=(n:Int)) (here:=here) (rs:=rs) bH K cols .un hK (by omega);obtain⟨ig,e2⟩:=XJ (M:=M) (aW:=aW) (r:=r) (at_:=(n:Int)) (h7:=.dat (.int here)) (cols:=K.foldl (stC (eY rows) here) cols) bH K rs oH hK (by omega);have JT:atI (rs.map sS) (n:Int)=some (sS here):=by rw[R.AO,R.atI_nat e0];rfl
  have i1:∀(ρ:List af) (M:List ak),ρ[1]?=some (.dat aW)->cF (ah 1) ρ M=.ret (.ok (.data (K.map aI)) M):=λρ M h=>by
    cases hS with
    |lst=>simp[h]
    |tup=>simp[h]
  have ahk:=i1 (jW M.length k rows aW r (n:Int) (.dat (.int here)) .un) (iz M rs cols) rfl;have ahl:=i1 (jW M.length k rows aW r (n:Int) (.dat (.int here)) oH) (iz M rs (K.foldl (stC (eY rows) here) cols)) rfl;have aug:=λM=>aaY (i:=6) (f:=λ_=>ok (.dat (.int 1))) (ρ:=jW M.length k rows aW r (n:Int) (.dat (.int here)) ig) (a:=(n:Int)) (M:=M) rfl
  unfold Gz;rw[Dt,iF,show bL 7 (ao aO (ah 4) (ah 6)) (jW M.length k rows aW r (n:Int) .un .un) (iz M rs cols)=.ret (.ok (.nx (jW M.length k rows aW r (n:Int) (.dat (.int here)) .un)) (iz M rs cols)) by simp[JT],bR,cD,iS,iF,vY,ahk,bR,cD,vX,e1,bR,cD,iS,iF,vY,ahl,bR,cD,vX,e2,bR,cD,iS];rw[aaY (a:=(n:Int)) (by rfl)];simp
theorem mK.adC {fw bw:aC->Bool}{r0:Int}{n:Nat}(h:mK fw bw K r0 n rs cols):cols.length<=K.length:=by
 have:=zJ (a:=cols) (b:=K.map (·.2)) h.EF λc hc=>by
  obtain⟨_,_,_,_,a,ha,_,_,e⟩:=h.col c hc;exact List.mem_map.mpr ⟨a,ha,e⟩
 rwa[List.length_map]at this
theorem XM (bH:dW k rows w)(hS:kH aW (K.map aI))(hK:∀a∈K,a∈bG 0 rows)(hl:K.length<=100){r0:Int}:∀(m n:Nat) (rs cols:List Int),mK (eY rows) (fV rows) K r0 n rs cols->K.length+1<n+m->n<=rs.length->∃at',tL (Gy t) Gz m (jW M.length k rows aW r (n:Int) .un .un) (iz M rs cols)=.ret (.ok (.nx (jW M.length k rows aW r at' .un .un)) (iz M (om (eY rows) (fV rows) K m n rs cols).1 (om (eY rows) (fV rows) K m n rs cols).2))
 |0,n,rs,cols,h,hm,hn=>by
  have:=h.len;omega
 |m+1,n,rs,cols,h,hm,hn=>by
  have l1:=h.len;have l2:=h.adC;have lt:Gy t (jW M.length k rows aW r (n:Int) .un .un) (iz M rs cols)=.ret (.ok (decide ((n:Int)<(rs.length:Int))) (iz M rs cols)):=by
   have:rs.length<=16777216:=by omega
   unfold Gy;simp[this]
  rw[aq1,lt,bR,cD,ahF];unfold om;by_cases j7:n<rs.length
  ·rw[if_pos (by simpa using j7),if_pos j7,aje bH hS hK hl (by omega) (by omega) j7,bR,cD,tP]
   obtain⟨more,em,_⟩:=BG (bw:=fV rows) (cols:=K.foldl (stC (eY rows) (rs.getD n 0)) cols) (K:=K) (rs:=rs);exact XM bH hS hK hl m (n+1) _ _ (h.step j7) (by omega) (by rw[em,List.length_append];omega)
  ·rw[if_neg (by simpa using j7),if_neg j7]
   exact⟨_,rfl⟩
theorem aj4 (hM:Cl M)(bH:dW k rows w)(hS:kH aW (K.map aI))(hK:∀a∈K,a∈bG 0 rows)(hl:K.length<=100){ff:aM}(hs:∀M,ff [.dat (aP k rows)] M=.ret (.ok (.dat (rM rows)) M)):
    aR false 3 9 (AX ff t) [.dat (aP k rows),.dat aW,.dat (.int r)] M=.ret (.ok (.dat (.lst ((xB (eY rows) (fV rows) K r).map D.int))) M):=by
  obtain⟨at',e⟩:=XM (M:=M) (t:=t) (aW:=aW) (r:=r) bH hS hK hl 200 0 [r] [] (mK.start r) (by omega) (by simp);have ins:k_ M "signs" (.dat (aP k rows))=some 0:=by rw[insAt_board,if_pos (SH (by decide))]
  have KN:∀a b:ak,cut M.length (M++[a,b])=M:=λa b=>K2 hM
  rw[jG (by rfl)];have e1:AX ff t [.dat (aP k rows),.dat aW,.dat (.int r),.un,.un,.un,.un,.un,.un] M=.ret (.ok (.rt (.mu (M.length+1))) (iz M (om (eY rows) (fV rows) K 200 0 [r] []).1 (om (eY rows) (fV rows) K 200 0 [r] []).2)):=by
    unfold AX;rw[iF,show CU [3,4,5,6] (ai (m_ "signs" [(0,ff)] (ah 0)) (ai (dw true (ai (ah 2) av)) (ai (dw true av) (ai (λ_=>ok (.dat (.int 0))) av)))) [.dat (aP k rows),.dat aW,.dat (.int r),.un,.un,.un,.un,.un,.un] M=.ret (.ok (.nx (jW M.length k rows aW r 0 .un .un)) (iz M [r] [])) by
      simp[-insAt_board,ins,hs],bR,cD,iS,iF,aq0]
    rw[show(0:Int)=((0:Nat):Int)from rfl,e,bR,cD,iS];simp
  show(AX ff t [.dat (aP k rows),.dat aW,.dat (.int r),.un,.un,.un,.un,.un,.un] M).bind _=_
  rw[e1,bR,alm];simp[KN];rfl
end
section
variable{M:List ak}{k r:Int}{rows:List (Int×Str)}{w:Nat}{aW:D}{K:List aC}{Fk tU bW aqm:aM}{a:aC}
theorem VO {m:Str}(h:m≠"own_ticks"/\m≠"own_places"/\m≠"own_signs"/\m≠"own_text"/\m≠"own_keys"):k_ M m (.dat (aP k rows))=some 0:=by rw[insAt_board,if_pos (SH h)]
def D7:aN:=(bT (ao aO (ao aO (ao aO (ao aO (ah 0) (λ_=>ok (.dat (.int 1)))) (ao aO (ah 1) (λ_=>ok (.dat (.int 0))))) (λ_=>ok (.dat (.int 1)))) (ao aO (ah 1) (λ_=>ok (.dat (.int 1))))))
theorem ajm (bH:dW k rows w)(ha:a∈bG 0 rows):aR false 2 2 D7 [.dat (dI k rows),.dat (aI a)] M=.ret (.ok (.dat (.str ⟨#[lV rows a]⟩)) M):=by
 obtain⟨i,c,p,z,e,hr,hz,hne⟩:=Ga ha;have rD:z.length<=16777216:=by have q:z.length=w:=(bH.oE _ (List.mem_of_getElem? hr)).1;have:=bH.bK;omega
 generalize lV rows a=ch at hz;subst e;have m7:atI (rows.map dQ) (i:Int)=some (dQ (p,z)):=by rw[R.AO,R.atI_nat hr];rfl
 have ac:=R.atI_nat hz;rw[jG (by rfl)];have key:D7 [.dat (dI k rows),.dat (aI ((i:Int),(c:Int)))] M=.ret (.ok (.rt (.dat (.str ⟨#[ch]⟩))) M):=by
  unfold D7;simp[aI,m7,ac,rD]
 show(D7 [.dat (dI k rows),.dat (aI ((i:Int),(c:Int)))] M).bind _=_
 rw[key,bR,mU,gr rfl]
def NI:CE:=(ao (bin .Add) (ah 4) (cV false [6] (cF (ah 5)) (br 6) (bz (ao (cmp .In) (ao aO (ah 6) (λ_=>ok (.dat (.int 0)))) (ah 3))) (ao aO (ah 6) (λ_=>ok (.dat (.int 1))))))
def NJ:CE:=(ao (bin .Add) (ah 3) (cV false [6] (cF (ah 7)) (br 6) (bz (ao (cmp .In) (ao aO (ah 6) (λ_=>ok (.dat (.int 1)))) (ah 4))) (ao aO (ah 6) (λ_=>ok (.dat (.int 0))))))
def GA:aN:=(fJ [8] (aL (bL 4 NI)
  (aL (bL 3 NJ)
  (xT (gH 2 (cZ (br 4) (cZ (br 3) gY))) (dg (ai (cJ (rS false) (ah 4)) (ai (cJ (rS false) (ah 3)) av)))))))
def AW (ff:aM):aN:=
  (aL (xT (gH 2 (cZ (br 3) (cZ (br 4) gY))) (dg (ai (dw false (ai (ah 2) av)) (ai (dw false av) av))))
  (aL (bL 5 (cV false [6] (cF (ah 1)) (br 6) (bz (ao (cmp .In) (bB ff (ai (ah 0) (ai (ah 6) av))) (λ_=>ok (.dat (.str "o>"))))) (ah 6)))
  (aL (bL 7 (cV false [6] (cF (ah 1)) (br 6) (bz (ao (cmp .In) (bB ff (ai (ah 0) (ai (ah 6) av))) (λ_=>ok (.dat (.str "o<"))))) (ah 6)))
  (aL (fR (fX (λ_=>ok (.dat (.int 5)))) (br 8) GA)
  (bT (ah 4))))))
abbrev fG (xs:List Int):D:=.lst (xs.map D.int)
abbrev o8 (dD aW:D)(K:List aC)(r:Int)(rs cs:List Int)(fw bw:aC->Bool)(x:af):List af:=[.dat dD,.dat aW,.dat (.int r),.dat (fG rs),.dat (fG cs),.dat (.lst ((K.filter fw).map aI)),.un,.dat (.lst ((K.filter bw).map aI)),x]
variable{dD:D}{fw bw:aC->Bool}{rs cs:List Int}{x:af}
theorem ajh (hK:K.length<=20)(hc:cs.length<=40):NI (o8 dD aW K r rs cs fw bw x) M=.ret (.ok (.dat (fG (cs++((K.filter fw).filter λk=>decide (k.1∈rs)).map (·.2)))) M):=by
 have l1:(K.filter fw).length<16777216:=by have:=List.length_filter_le fw K;omega
 unfold NI;simp[-List.filter_filter,l1];rw[t7 (p:=λa:aC=>decide (a.1∈rs)) (h:=λa=>D.int a.2) (by
  intro a ha;have dz:=MB (M:=M) (x:=a.1) (xs:=rs);by_cases h:a.1∈rs
  ·rw[decide_eq_true h]at dz
   simp[aI,dz,h]
  ·rw[decide_eq_false h]at dz
   simp[aI,dz,h])]
 have l2:((K.filter fw).filter λa=>decide (a.1∈rs)).length<=20:=by
  have:=List.length_filter_le fw K;have:=List.length_filter_le (λa:aC=>decide (a.1∈rs)) (K.filter fw);omega
 have e:(cs.map D.int++((K.filter fw).filter λa=>decide (a.1∈rs)).map λa=>D.int a.2)=(cs++((K.filter fw).filter λk=>decide (k.1∈rs)).map (·.2)).map D.int:=by rw[List.map_append,List.map_map];rfl
 simp only[bR,cD,F4,GJ,vE,xr];rw[Ej (by rw[List.length_map,List.length_map];omega),e];rfl
theorem aji (hK:K.length<=20)(hc:rs.length<=40):NJ (o8 dD aW K r rs cs fw bw x) M=.ret (.ok (.dat (fG (rs++((K.filter bw).filter λk=>decide (k.2∈cs)).map (·.1)))) M):=by
 have l1:(K.filter bw).length<16777216:=by have:=List.length_filter_le bw K;omega
 unfold NJ;simp[-List.filter_filter,l1];rw[t7 (p:=λa:aC=>decide (a.2∈cs)) (h:=λa=>D.int a.1) (by
  intro a ha;have dz:=MB (M:=M) (x:=a.2) (xs:=cs);by_cases h:a.2∈cs
  ·rw[decide_eq_true h]at dz
   simp[aI,dz,h]
  ·rw[decide_eq_false h]at dz
   simp[aI,dz,h])]
 have l2:((K.filter bw).filter λa=>decide (a.2∈cs)).length<=20:=by
  have:=List.length_filter_le bw K;have:=List.length_filter_le (λa:aC=>decide (a.2∈cs)) (K.filter bw);omega
 have e:(rs.map D.int++((K.filter bw).filter λa=>decide (a.2∈cs)).map λa=>D.int a.1)=(rs++((K.filter bw).filter λk=>decide (k.2∈cs)).map (·.1)).map D.int:=by rw[List.map_append,List.map_map];rfl
 simp only[bR,cD,F4,GJ,vE,xr];rw[Ej (by rw[List.length_map,List.length_map];omega),e];rfl
theorem ajj (hK:K.length<=20)(h1:rs.length<=21)(h2:cs.length<=20){p:List Int×List Int}(hp:p=(rs,cs)):GA (o8 dD aW K r rs cs fw bw x) M=.ret (.ok (.nx (o8 dD aW K r (Cr fw bw K p).1 (Cr fw bw K p).2 fw bw .un)) M):=by
 subst hp;have l2:((K.filter fw).filter λa=>decide (a.1∈rs)).length<=20:=by
  have:=List.length_filter_le fw K;have:=List.length_filter_le (λa:aC=>decide (a.1∈rs)) (K.filter fw);omega
 obtain⟨c1,vf⟩:∃c1,c1=cs++((K.filter fw).filter λk=>decide (k.1∈rs)).map (·.2):=⟨_,rfl⟩;have lc:c1.length<=40:=by rw[vf,List.length_append,List.length_map];omega
 have a1:=ajh (aW:=aW) (M:=M) (dD:=dD) (K:=K) (r:=r) (rs:=rs) (cs:=cs) (fw:=fw) (bw:=bw) (x:=x) hK (by omega);rw[<-vf]at a1;have a2:=aji (aW:=aW) (M:=M) (dD:=dD) (K:=K) (r:=r) (rs:=rs) (cs:=c1) (fw:=fw) (bw:=bw) (x:=x) hK (by omega);have oi:((K.filter bw).filter λa=>decide (a.2∈c1)).length<=20:=by
  have:=List.length_filter_le bw K;have:=List.length_filter_le (λa:aC=>decide (a.2∈c1)) (K.filter bw);omega
 obtain⟨r1,gU⟩:∃r1,r1=rs++((K.filter bw).filter λk=>decide (k.2∈c1)).map (·.1):=⟨_,rfl⟩;have ajg:r1.length<=41:=by rw[gU,List.length_append,List.length_map];omega
 rw[<-gU]at a2;have f2:(Cr fw bw K (rs,cs)).2=sset c1:=by rw[vf];rfl
 have f1:(Cr fw bw K (rs,cs)).1=sset r1:=by
  rw[gU];show Cq bw K (rs,cs) (xC fw K (rs,cs))=_
  have gb:xC fw K (rs,cs)=sset c1:=f2;rw[gb];unfold Cq;refine Qg Qh λy=>?_
  simp only[Qi,List.mem_append,List.mem_map,List.mem_filter,decide_eq_true_eq]
 rw[f1,f2];unfold GA;rw[Dt,iF,QJ,a1,bR,cD,M_,bR,cD,iS,iF,QJ];rw[show(o8 dD aW K r rs cs fw bw x).set 4 (.dat (fG c1))=o8 dD aW K r rs c1 fw bw x from rfl,a2,bR,cD,M_,bR,cD,iS];rw[show(o8 dD aW K r rs c1 fw bw x).set 3 (.dat (fG r1))=o8 dD aW K r r1 c1 fw bw x from rfl];have s1:rS false M (.dat (fG c1))=some (.dat (fG (sset c1)),M):=aa7 (by omega);have s2:rS false M (.dat (fG r1))=some (.dat (fG (sset r1)),M):=aa7 (by omega);simp[s1,s2]
theorem ajq (hK:K.length<=20){r0:Int}:∀n,(lw fw bw K r0 n).1.length<=21/\(lw fw bw K r0 n).2.length<=20
 |0=>by simp[lw]
 |n+1=>by
  have inv:∀n,(∀y∈(lw fw bw K r0 n).1,y∈r0::K.map (·.1))/\(∀y∈(lw fw bw K r0 n).2,y∈K.map (·.2)):=by
   intro n;induction n with
   |zero=>exact⟨λy hy=>by simp[lw]at hy;subst hy;exact List.mem_cons_self,λy hy=>by cases hy⟩
   |succ n ih=>
    have hc:∀y∈(lw fw bw K r0 (n+1)).2,y∈K.map (·.2):=λy hy=>by
     rcases GD.mp hy with hy|⟨k,hk,_,_,rfl⟩
     ·exact ih.2 y hy
     ·exact List.mem_map.mpr ⟨k,hk,rfl⟩
    refine⟨λy hy=>?_,hc⟩;rcases GF.mp hy with hy|⟨k,hk,_,_,rfl⟩
    ·exact ih.1 y hy
    ·exact List.mem_cons_of_mem _ (List.mem_map.mpr ⟨k,hk,rfl⟩)
  have nd:∀l,(sset l).Nodup:=λl=>Qh.imp λh=>by omega
  obtain⟨i1,kZ⟩:=inv (n+1);have n1:=zJ (a:=(lw fw bw K r0 (n+1)).1) (nd _) i1;have n2:=zJ (a:=(lw fw bw K r0 (n+1)).2) (nd _) kZ;rw[List.length_cons,List.length_map]at n1;rw[List.length_map]at n2;omega
theorem XN (hK:K.length<=20){r0:Int}:∀(ds:List D) (n:Nat),gv (br 8) GA ds (o8 dD aW K r (lw fw bw K r0 n).1 (lw fw bw K r0 n).2 fw bw .un) M=.ret (.ok (.nx (o8 dD aW K r (lw fw bw K r0 (n+ds.length)).1 (lw fw bw K r0 (n+ds.length)).2 fw bw .un)) M)
 |[],n=>rfl
 |d::ds,n=>by
  obtain⟨a,b⟩:=ajq (fw:=fw) (bw:=bw) (r0:=r0) hK n;rw[uL (aY:=o8 dD aW K r (lw fw bw K r0 n).1 (lw fw bw K r0 n).2 fw bw (.dat d)) rfl,ajj hK a b (p:=lw fw bw K r0 n) rfl,bR,cD,tP];have:=XN hK ds (n+1) (r0:=r0);rw[List.length_cons,show n+(ds.length+1)=n+1+ds.length by omega];exact this
theorem ajk {ff:aM}(hS:kH aW (K.map aI))(hK:K.length<=20)(hs:∀a∈K,ff [.dat dD,.dat (aI a)] M=.ret (.ok (.dat (.str ⟨#[lV rows a]⟩)) M)):
    aR false 3 9 (AW ff) [.dat dD,.dat aW,.dat (.int r)] M=.ret (.ok (.dat (fG (lw (eY rows) (fV rows) K r 5).2)) M):=by
  rw[jG (by rfl)];have lk:K.length<16777216:=by omega
  have iv:zm M (qf M (af.dat aW))=.ret (.ok (.data (K.map aI)) M):=by cases hS<;>rfl
  have lo:=XN (M:=M) (dD:=dD) (aW:=aW) (r:=r) (fw:=eY rows) (bw:=fV rows) (r0:=r) hK (rng 0 5) 0;rw[vH,Nat.zero_add]at lo;have key:AW ff [.dat dD,.dat aW,.dat (.int r),.un,.un,.un,.un,.un,.un] M=.ret (.ok (.rt (.dat (fG (lw (eY rows) (fV rows) K r 5).2))) M):=by
    unfold AW;rw[iF,show xT (gH 2 (cZ (br 3) (cZ (br 4) gY))) (dg (ai (dw false (ai (ah 2) av)) (ai (dw false av) av))) [.dat dD,.dat aW,.dat (.int r),.un,.un,.un,.un,.un,.un] M=.ret (.ok (.nx [.dat dD,.dat aW,.dat (.int r),.dat (fG [r]),.dat (fG []),.un,.un,.un,.un]) M) by simp,bR,cD,iS];rw[iF,show bL 5 (cV false [6] (cF (ah 1)) (br 6) (bz (ao (cmp .In) (bB ff (ai (ah 0) (ai (ah 6) av))) (λ_=>ok (.dat (.str "o>"))))) (ah 6)) [.dat dD,.dat aW,.dat (.int r),.dat (fG [r]),.dat (fG []),.un,.un,.un,.un] M=.ret (.ok (.nx [.dat dD,.dat aW,.dat (.int r),.dat (fG [r]),.dat (fG []),.dat (.lst ((K.filter (eY rows)).map aI)),.un,.un,.un]) M) by
      simp[lk,iv];rw[t7 (p:=eY rows) (h:=aI) (by
        intro a ha;have s:=hs a ha;have s1:=Z6 (M:=M) (c:=lV rows a);rw[show BI (lV rows a)=eY rows a from rfl]at s1;cases e:eY rows a<;>rw[e]at s1<;>simp[s,s1])]
      simp,bR,cD,iS]
    rw[iF,show bL 7 (cV false [6] (cF (ah 1)) (br 6) (bz (ao (cmp .In) (bB ff (ai (ah 0) (ai (ah 6) av))) (λ_=>ok (.dat (.str "o<"))))) (ah 6)) [.dat dD,.dat aW,.dat (.int r),.dat (fG [r]),.dat (fG []),.dat (.lst ((K.filter (eY rows)).map aI)),.un,.un,.un] M=.ret (.ok (.nx (o8 dD aW K r (lw (eY rows) (fV rows) K r 0).1 (lw (eY rows) (fV rows) K r 0).2 (eY rows) (fV rows) .un)) M) by
      simp[lk,iv];rw[t7 (p:=fV rows) (h:=aI) (by
        intro a ha;have s:=hs a ha;have s1:=Z7 (M:=M) (c:=lV rows a);rw[show A6 (lV rows a)=fV rows a from rfl]at s1;cases e:fV rows a<;>rw[e]at s1<;>simp[s,s1])]
      simp;exact⟨rfl,rfl⟩,bR,cD,iS]
    rw[iF,vY,show fX (λ_=>ok (.dat (.int 5))) (o8 dD aW K r (lw (eY rows) (fV rows) K r 0).1 (lw (eY rows) (fV rows) K r 0).2 (eY rows) (fV rows) .un) M=.ret (.ok (.data (rng 0 5)) M) by simp,bR,cD,vX,lo,bR,cD,iS];simp
  show(AW ff [.dat dD,.dat aW,.dat (.int r),.un,.un,.un,.un,.un,.un] M).bind _=_
  rw[key,bR,mU,gr rfl]
end
section
variable{M:List ak}{k r:Int}{rows:List (Int×Str)}{w:Nat}{K KK:List aC}{fw bw:aC->Bool}{t:bN}{j:Nat}
theorem ahJ {a:aC}(ha:a∈bG 0 rows):0<=a.1/\a.1<(rows.length:Int):=by
 obtain⟨i,c,p,z,rfl,hr,_⟩:=Ga ha;have:=(List.getElem?_eq_some_iff.mp hr).1;simp only;omega
theorem aj1 (bH:dW k rows w)(hK:∀a∈K,a∈bG 0 rows)(hl:K.length<=100)(hr:0<=r/\r<(rows.length:Int)):srt (xB (eY rows) (fV rows) K r)=(lw (eY rows) (fV rows) K r 5).2:=by
 refine aj2 hl ⟨(List.range rows.length).map λi:Nat=>(i:Int),by rw[List.length_map,List.length_range];exact bH.h2,?_,λa ha=>?_⟩
 ·exact List.mem_map.mpr ⟨r.toNat,List.mem_range.mpr (by omega),by omega⟩
 ·have:=ahJ (hK a ha)
  exact List.mem_map.mpr ⟨a.1.toNat,List.mem_range.mpr (by omega),by omega⟩
theorem ao8 {x:Int}{l:List Int}:x∈srt l↔x∈l:=(xV l).mem_iff
end
section
variable{M:List ak}{k r:Int}{rows:List (Int×Str)}{w:Nat}{K Z:List aC}{aW:D}{a:aC}{t jM oF:bN}{R:Int->List Int}
theorem ab9 {ds:List D}(h:Cl M):Cl (M++[.lst (ds.map .dat)]):=by
 have key:∀n m:Nat,n<=m->∀o:ak,pV n o=true->pV m o=true:=by
  intro n m hm o ho;have ks:∀s:af,mO n s=true->mO m s=true:=by
   intro s hs;cases s<;>first|rfl|(simp only[mO,decide_eq_true_eq]at hs⊢;omega)
  cases o with
  |lst xs=>exact List.all_eq_true.mpr λs hs=>ks s (List.all_eq_true.mp ho s hs)
  |dK xs=>exact List.all_eq_true.mpr λs hs=>ks s.2 (List.all_eq_true.mp ho s hs)
  |dT xs=>exact List.all_eq_true.mpr λs hs=>ks s.2 (List.all_eq_true.mp ho s hs)
  |ins c xs=>exact List.all_eq_true.mpr λs hs=>ks s.2 (List.all_eq_true.mp ho s hs)
  |_=>rfl
 unfold Cl closed at *;rw[List.take_length]at *;rw[List.all_append,Bool.and_eq_true];refine⟨List.all_eq_true.mpr λo ho=>key _ _ (by simp) o (List.all_eq_true.mp h o ho),?_⟩;rw[List.all_cons,List.all_nil,Bool.and_true];refine List.all_eq_true.mpr λs hs=>?_
 obtain⟨d,_,rfl⟩:=List.mem_map.mp hs;rfl
theorem ake (hS:kH aW (K.map aI)):dh .NotIn M (.dat (aI a)) (.dat aW)=some (!decide (a∈K)):=by
 have h:(if plain 58 (aI a)&&ez 58 (K.map aI)then some (!sR (aI a) (K.map aI))else none)=some (!decide (a∈K)):=by
  rw[OB,zU,FT];rfl
 cases hS with
 |lst=>exact h
 |tup=>exact h
def jF (xs:List Int)(K:List aC)(i:Int)(a:aC):Bool:=decide (a.1=i)&&(decide (a.2∈xs)&&!decide (a∈K))
def jS (R:Int->List Int)(K Z:List aC):Nat->Nat->List aC
 |_,0=>[]
 |i,n+1=>Z.filter (jF (R (i:Int)) K (i:Int))++jS R K Z (i+1) n
def uc (src:CE):CE:=(cV false [5] (cF src) (br 5) (tAnd (bz (ao (cmp .Eq) (ao aO (ah 5) (λ_=>ok (.dat (.int 0)))) (ah 3))) (tAnd (bz (ao (cmp .In) (ao aO (ah 5) (λ_=>ok (.dat (.int 1)))) (ah 4))) (bz (ao (cmp .NotIn) (ah 5) (ah 1))))) (ah 5))
theorem Uh {src:CE}{s0 s2:af}{i:Int}{xs:List Int}(hS:kH aW (K.map aI))(hz:Z.length<=1000)(e:src [s0,.dat aW,s2,.dat (.int i),.dat (fG xs),.un] M=.ret (.ok (.dat (.lst (Z.map aI))) M)):
    uc src [s0,.dat aW,s2,.dat (.int i),.dat (fG xs),.un] M=.ret (.ok (.dat (.lst ((Z.filter (jF xs K i)).map aI))) M):=by
  have l1:Z.length<16777216:=by omega
  unfold uc;simp[-List.filter_filter,e,l1];rw[t7 (p:=jF xs K i) (h:=aI) (by
    intro a ha;have dz:=MB (M:=M) (x:=a.2) (xs:=xs);have vz:=ake (M:=M) (a:=a) hS;unfold jF;obtain⟨a1,a2⟩:=a
    dsimp only at dz
    unfold aI at *
    dsimp only at vz
    by_cases h1:a1=i
    · subst h1
      by_cases h2:a2∈xs
      · rw[decide_eq_true h2]at dz
        by_cases h3:(a1,a2)∈K
        · rw[decide_eq_true h3]at vz
          simp[dz,vz,h2,h3]
        · rw[decide_eq_false h3]at vz
          simp[dz,vz,h2,h3]
      · rw[decide_eq_false h2]at dz
        simp[dz,h2]
    · simp[h1])]
  simp
def AS (Fk tU qz gE:aM):aN:=
  (aL (f5 (yU "need_keys" [(0,Fk)] (ah 0) (ai (ah 1) av)))
  (aL (bL 2 (dw true av))
  (aL (fR (fX (vd [(0,tU)] (ah 0))) (br 3) (fJ [3,4] (aL (bL 4 (bB qz (ai (ah 0) (ai (ah 1) (ai (ah 3) av)))))
  (f5 (yP (ah 2) (uc (m_ "crossings" [(0,gE)] (ah 0))))))))
  (bT (ah 2)))))
theorem Uk {qz gE:aM}(hM:Cl M)(hS:kH aW (K.map aI))(hz:Z.length<=1000)
    (hl:∀(M:List ak) (i:Int),Cl M->0<=i->i<r->qz [.dat (aP k rows),.dat aW,.dat (.int i)] M=.ret (.ok (.dat (fG (R i))) M))
    (hx:∀M,gE [.dat (aP k rows)] M=.ret (.ok (.dat (.lst (Z.map aI))) M)):∀(n i:Nat) (L:List aC),(i:Int)+n<=r->L.length+n*Z.length<=100000->
    gv (br 3) (fJ [3,4] (aL (bL 4 (bB qz (ai (ah 0) (ai (ah 1) (ai (ah 3) av))))) (f5 (yP (ah 2) (uc (m_ "crossings" [(0,gE)] (ah 0))))))) (rng (i:Int) n) [.dat (aP k rows),.dat aW,.mu M.length,.un,.un,.un] (M++[.lst ((L.map aI).map .dat)])=
    .ret (.ok (.nx [.dat (aP k rows),.dat aW,.mu M.length,.un,.un,.un]) (M++[.lst (((L++jS R K Z i n).map aI).map .dat)]))
  |0,i,L,_,_=>by
    rw[show rng (i:Int) 0=[]from rfl,jS,List.append_nil];rfl
  |n+1,i,L,hr,hn=>by
    have afj:=ab9 (ds:=L.map aI) hM;have e1:=hl (M++[.lst ((L.map aI).map .dat)]) (i:Int) afj (by omega) (by omega);have ins:∀M,k_ M "crossings" (.dat (aP k rows))=some 0:=λM=>VO (by decide)
    have hq:Z.length+n*Z.length=(n+1)*Z.length:=by rw[Nat.add_mul,Nat.one_mul,Nat.add_comm]
    have hf:=List.length_filter_le (jF (R (i:Int)) K (i:Int)) Z;have Mw:Z.length<16777216:=by omega
    have e2:=Uh (M:=M++[.lst ((L.map aI).map .dat)]) (src:=m_ "crossings" [(0,gE)] (ah 0)) (s0:=.dat (aP k rows)) (s2:=.mu M.length) (i:=(i:Int)) (xs:=R (i:Int)) (aW:=aW) hS hz (by simp[-insAt_board,ins,hx]);have ih:=Uk hM hS hz hl hx n (i+1) (L++Z.filter (jF (R (i:Int)) K (i:Int))) (by omega) (by rw[List.length_append];omega);have sz:((L.map aI).map af.dat).length+((Z.filter (jF (R (i:Int)) K (i:Int))).map aI).length<=16777216:=by simp;omega
    have gt:(M++[ak.lst ((L.map aI).map .dat)])[M.length]?=some (.lst ((L.map aI).map .dat)):=by simp
    have s1:∀N,qz [.dat (aP k rows),.dat aW,.dat (.int (i:Int))] N=.ret (.ok (.dat (fG (R (i:Int)))) N)->bL 4 (bB qz (ai (ah 0) (ai (ah 1) (ai (ah 3) av)))) [.dat (aP k rows),.dat aW,.mu M.length,.dat (.int (i:Int)),.un,.un] N=.ret (.ok (.nx [.dat (aP k rows),.dat aW,.mu M.length,.dat (.int (i:Int)),.dat (fG (R (i:Int))),.un]) N):=λN e=>by simp[e]
    have s2:∀(N:List ak) (aB:List af) (ds:List D),N[M.length]?=some (.lst aB)->aB.length+ds.length<=16777216->uc (m_ "crossings" [(0,gE)] (ah 0)) [.dat (aP k rows),.dat aW,.mu M.length,.dat (.int (i:Int)),.dat (fG (R (i:Int))),.un] N=.ret (.ok (.dat (.lst ds)) N)->f5 (yP (ah 2) (uc (m_ "crossings" [(0,gE)] (ah 0)))) [.dat (aP k rows),.dat aW,.mu M.length,.dat (.int (i:Int)),.dat (fG (R (i:Int))),.un] N=.ret (.ok (.nx [.dat (aP k rows),.dat aW,.mu M.length,.dat (.int (i:Int)),.dat (fG (R (i:Int))),.un]) (N.set M.length (.lst (aB++ds.map .dat)))):=λN aB ds h1 h2 h3=>by
      simp[h1,h2,h3]
    have st:(M++[ak.lst ((L.map aI).map .dat)]).set M.length (.lst ((L.map aI).map .dat++((Z.filter (jF (R (i:Int)) K (i:Int))).map aI).map .dat))=M++[.lst ((((L++Z.filter (jF (R (i:Int)) K (i:Int)))).map aI).map .dat)]:=by simp
    rw[zZ,uL (aY:=[.dat (aP k rows),.dat aW,.mu M.length,.dat (.int (i:Int)),.un,.un]) rfl,Dt,iF,s1 _ e1,bR,cD,iS,s2 _ _ _ gt sz e2,st];rw[show∀N,(T.ret (.ok (.nx [.dat (aP k rows),.dat aW,.mu M.length,.dat (.int (i:Int)),.dat (fG (R (i:Int))),.un]) N):T (Re bW)).bind (aX (F0 [3,4]))=.ret (.ok (.nx [.dat (aP k rows),.dat aW,.mu M.length,.un,.un,.un]) N)fromλN=>rfl];rw[bR,cD,tP];rw[jS,<-List.append_assoc];exact ih
theorem aeA {Fk tU qz gE:aM}(hM:Cl M)(hS:kH aW (K.map aI))(hz:Z.length<=1000)(h4:rows.length<=4)(hk:Fk [.dat (aP k rows),.dat aW] M=.ret (.ok (.dat .non) M))
    (hh:∀M,tU [.dat (aP k rows)] M=.ret (.ok (.dat (.int (rows.length:Int))) M))
    (hl:∀(M:List ak) (i:Int),Cl M->0<=i->i<(rows.length:Int)->qz [.dat (aP k rows),.dat aW,.dat (.int i)] M=.ret (.ok (.dat (fG (R i))) M))
    (hx:∀M,gE [.dat (aP k rows)] M=.ret (.ok (.dat (.lst (Z.map aI))) M)):
    aR false 2 6 (AS Fk tU qz gE) [.dat (aP k rows),.dat aW] M=.ret (.ok (.dat (.lst ((jS R K Z 0 rows.length).map aI))) M):=by
  have i1:=VO (M:=M) (k:=k) (rows:=rows) (m:="need_keys") (by decide);have KN:∀a:ak,cut M.length (M++[a])=M:=λa=>K2 hM
  have go:=Uk (k:=k) (r:=(rows.length:Int)) hM hS hz hl hx rows.length 0 [] (by omega) (by
    have:rows.length*Z.length<=4*1000:=Nat.mul_le_mul h4 hz;simp only[List.length_nil];omega)
  rw[List.nil_append]at go;rw[jG (by rfl)];have key:AS Fk tU qz gE [.dat (aP k rows),.dat aW,.un,.un,.un,.un] M=.ret (.ok (.rt (.mu M.length)) (M++[.lst (((jS R K Z 0 rows.length).map aI).map .dat)])):=by
    unfold AS;rw[iF,show f5 (yU "need_keys" [(0,Fk)] (ah 0) (ai (ah 1) av)) [.dat (aP k rows),.dat aW,.un,.un,.un,.un] M=.ret (.ok (.nx [.dat (aP k rows),.dat aW,.un,.un,.un,.un]) M) by simp[-insAt_board,i1,hk],bR,cD,iS];rw[iF,show bL 2 (dw true av) [.dat (aP k rows),.dat aW,.un,.un,.un,.un] M=.ret (.ok (.nx [.dat (aP k rows),.dat aW,.mu M.length,.un,.un,.un]) (M++[.lst ((([]:List aC).map aI).map .dat)])) by simp,bR,cD,iS];have it:∀N,fX (vd [(0,tU)] (ah 0)) [.dat (aP k rows),.dat aW,.mu M.length,.un,.un,.un] N=.ret (.ok (.data (rng 0 rows.length)) N):=λN=>by
      have cP:(-1000000:Int)<=(rows.length:Int):=by omega
      have b2:(rows.length:Int)<=1000000:=by omega
      simp[hh,cP,b2]
    rw[iF,vY,it,bR,cD,vX];rw[show((0:Nat):Int)=0 from rfl]at go;rw[go,bR,cD,iS];simp
  show(AS Fk tU qz gE [.dat (aP k rows),.dat aW,.un,.un,.un,.un] M).bind _=_
  rw[key,bR,aln];simp[KN]
def AV (Fr Fk:aM)(t:bN):aN:=
  (aL (bL 2 (dw false av))
  (aL (fR (fX (bu (b_ t) (ai (ao aO (ah 0) (λ_=>ok (.dat (.int 1)))) av))) (br 3) (fJ [3,4] (aL (bL 4 (bB Fr (ai (ah 0) (ai (ah 1) (ai (ah 3) av)))))
  (bL 2 (ao (bin .Add) (ah 2) (uc (bB Fk (ai (ah 0) av))))))))
  (bT (ah 2))))
theorem Xy {Fr Fk:aM}{dD:D}(hS:kH aW (K.map aI))(hz:Z.length<=1000)
    (hl:∀i:Int,0<=i->i<r->Fr [.dat dD,.dat aW,.dat (.int i)] M=.ret (.ok (.dat (fG (R i))) M))
    (hx:Fk [.dat dD] M=.ret (.ok (.dat (.lst (Z.map aI))) M)):∀(n i:Nat) (L:List aC),(i:Int)+n<=r->L.length+n*Z.length<=100000->
    gv (br 3) (fJ [3,4] (aL (bL 4 (bB Fr (ai (ah 0) (ai (ah 1) (ai (ah 3) av))))) (bL 2 (ao (bin .Add) (ah 2) (uc (bB Fk (ai (ah 0) av))))))) (rng (i:Int) n) [.dat dD,.dat aW,.dat (.lst (L.map aI)),.un,.un,.un] M=
    .ret (.ok (.nx [.dat dD,.dat aW,.dat (.lst ((L++jS R K Z i n).map aI)),.un,.un,.un]) M)
  |0,i,L,_,_=>by
    rw[show rng (i:Int) 0=[]from rfl,jS,List.append_nil];rfl
  |n+1,i,L,hr,hn=>by
    have e1:=hl (i:Int) (by omega) (by omega);have hq:Z.length+n*Z.length=(n+1)*Z.length:=by rw[Nat.add_mul,Nat.one_mul,Nat.add_comm]
    have hf:=List.length_filter_le (jF (R (i:Int)) K (i:Int)) Z;have e2:=Uh (M:=M) (src:=bB Fk (ai (ah 0) av)) (s0:=.dat dD) (s2:=.dat (.lst (L.map aI))) (i:=(i:Int)) (xs:=R (i:Int)) (aW:=aW) hS hz (by simp[hx]);have ih:=Xy hS hz hl hx n (i+1) (L++Z.filter (jF (R (i:Int)) K (i:Int))) (by omega) (by rw[List.length_append];omega);rw[zZ,uL (aY:=[.dat dD,.dat aW,.dat (.lst (L.map aI)),.dat (.int (i:Int)),.un,.un]) rfl,Dt,iF,show bL 4 (bB Fr (ai (ah 0) (ai (ah 1) (ai (ah 3) av)))) [.dat dD,.dat aW,.dat (.lst (L.map aI)),.dat (.int (i:Int)),.un,.un] M=.ret (.ok (.nx [.dat dD,.dat aW,.dat (.lst (L.map aI)),.dat (.int (i:Int)),.dat (fG (R (i:Int))),.un]) M) by simp[e1],bR,cD,iS];rw[show bL 2 (ao (bin .Add) (ah 2) (uc (bB Fk (ai (ah 0) av)))) [.dat dD,.dat aW,.dat (.lst (L.map aI)),.dat (.int (i:Int)),.dat (fG (R (i:Int))),.un] M=.ret (.ok (.nx [.dat dD,.dat aW,.dat (.lst ((L++Z.filter (jF (R (i:Int)) K (i:Int))).map aI)),.dat (.int (i:Int)),.dat (fG (R (i:Int))),.un]) M) by
      have sz:(L.map aI).length+((Z.filter (jF (R (i:Int)) K (i:Int))).map aI).length<=16777216:=by rw[List.length_map,List.length_map];omega
      rw[List.map_append];simp[-List.map_append,-List.length_map,e2,sz]]
    rw[show∀N,(T.ret (.ok (.nx [.dat dD,.dat aW,.dat (.lst ((L++Z.filter (jF (R (i:Int)) K (i:Int))).map aI)),.dat (.int (i:Int)),.dat (fG (R (i:Int))),.un]) N):T (Re bW)).bind (aX (F0 [3,4]))=.ret (.ok (.nx [.dat dD,.dat aW,.dat (.lst ((L++Z.filter (jF (R (i:Int)) K (i:Int))).map aI)),.un,.un,.un]) N)fromλN=>rfl,bR,cD,tP,jS,<-List.append_assoc];exact ih
theorem aiW {Fr Fk:aM}(bH:dW k rows w)(hS:kH aW (K.map aI))(hz:Z.length<=1000)
    (hl:∀i:Int,0<=i->i<(rows.length:Int)->Fr [.dat (dI k rows),.dat aW,.dat (.int i)] M=.ret (.ok (.dat (fG (R i))) M))
    (hx:Fk [.dat (dI k rows)] M=.ret (.ok (.dat (.lst (Z.map aI))) M)):
    aR false 2 6 (AV Fr Fk t) [.dat (dI k rows),.dat aW] M=.ret (.ok (.dat (.lst ((jS R K Z 0 rows.length).map aI))) M):=by
  have h4:=bH.h2;have go:=Xy (M:=M) (r:=(rows.length:Int)) (dD:=dI k rows) hS hz hl hx rows.length 0 [] (by omega) (by
    have:rows.length*Z.length<=4*1000:=Nat.mul_le_mul h4 hz;simp only[List.length_nil];omega)
  rw[List.nil_append,show((0:Nat):Int)=0 from rfl]at go;rw[jG (by rfl)];have key:AV Fr Fk t [.dat (dI k rows),.dat aW,.un,.un,.un,.un] M=.ret (.ok (.rt (.dat (.lst ((jS R K Z 0 rows.length).map aI)))) M):=by
    unfold AV;rw[iF,show bL 2 (dw false av) [.dat (dI k rows),.dat aW,.un,.un,.un,.un] M=.ret (.ok (.nx [.dat (dI k rows),.dat aW,.dat (.lst (([]:List aC).map aI)),.un,.un,.un]) M) by simp,bR,cD,iS];have l1:rows.length<16777216:=by omega
    have l2:rows.length<=16777216:=by omega
    have it:fX (bu (b_ t) (ai (ao aO (ah 0) (λ_=>ok (.dat (.int 1)))) av)) [.dat (dI k rows),.dat aW,.dat (.lst (([]:List aC).map aI)),.un,.un,.un] M=.ret (.ok (.data (rng 0 rows.length)) M):=by
      have cP:(-1000000:Int)<=(rows.length:Int):=by omega
      have b2:(rows.length:Int)<=1000000:=by omega
      unfold dI;simp[l1,l2,cP,b2]
    rw[iF,vY,it,bR,cD,vX,go,bR,cD,iS];simp
  show(AV Fr Fk t [.dat (dI k rows),.dat aW,.un,.un,.un,.un] M).bind _=_
  rw[key,bR,mU,gr rfl]
theorem Ui {DN R2:Int->List Int}{r:Nat}(h:∀i:Nat,i<r->∀x,x∈DN (i:Int)↔x∈R2 (i:Int)):∀n i,i+n<=r->jS DN K Z i n=jS R2 K Z i n
 |0,_,_=>rfl
 |n+1,i,hi=>by
  rw[jS,jS,Ui h n (i+1) (by omega)]
  congr 1
  refine List.filter_congr λa _=>?_
  unfold jF;by_cases q:a.2∈DN (i:Int)
  ·simp[q,(h i (by omega) a.2).mp q]
  ·simp[q,mt (h i (by omega) a.2).mpr q]
end
def uo (a:aC):aQ:=.t [.i a.1,.i a.2]
def iZ (p:List aC):aQ:=.t (p.map uo)
abbrev bJ (p:List aC):D:=.tup (p.map aI)
section
variable{M:List ak}{K:List aC}{ps:List (List aC)}
theorem Hj {α β:Type}{f:α->β}:∀{l m:List β},l.Perm m->∀xs:List α,m=xs.map f->∃aB:List α,aB.Perm xs/\l=aB.map f:=by
 intro l m h;induction h with
 |nil=>intro xs e;exact⟨xs,.refl _,e⟩
 |cons x h ih=>
  intro xs e;cases xs with
  |nil=>simp at e
  |cons y aB=>
   rw[List.map_cons,List.cons.injEq]at e;obtain⟨zs,h1,h2⟩:=ih aB e.2;exact⟨y::zs,h1.cons y,by rw[List.map_cons,<-h2,e.1]⟩
 |swap x y l=>
  intro xs e;cases xs with
  |nil=>simp at e
  |cons a xs=>
   cases xs with
   |nil=>simp at e
   |cons b xs=>
    rw[List.map_cons,List.map_cons,List.cons.injEq,List.cons.injEq]at e;exact⟨b::a::xs,.swap a b xs,by rw[List.map_cons,List.map_cons,<-e.1,<-e.2.1,<-e.2.2]⟩
 |trans h1 h2 agT agU=>
  intro xs e;obtain⟨aB,fH,e1⟩:=agU xs e;obtain⟨zs,cI,e2⟩:=agT aB e1;exact⟨zs,cI.trans fH,e2⟩
theorem Qu:∀K:List aC,gq (K.map aI)=some (K.map uo)
 |[]=>by unfold gq;rfl
 |a::K=>by
  rw[List.map_cons,gq,Qu K,show eF (aI a)=some (uo a)from rfl];try rfl
theorem adY (a:aC):dU (uo a)=aI a:=by unfold uo aI dU;rw[Bp];simp[dU]
theorem TR (p:List aC):dU (iZ p)=bJ p:=by
 unfold iZ bJ dU;rw[Bp,List.map_map,show p.map (dU∘uo)=p.map aI from List.map_congr_left λa _=>adY a]
theorem aak:∀ps:List (List aC),gq (ps.map bJ)=some (ps.map iZ)
 |[]=>by unfold gq;rfl
 |p::ps=>by
  rw[List.map_cons,gq,aak ps,show eF (bJ p)=some (iZ p) by unfold bJ eF;rw[Qu];rfl];rfl
theorem KS:∀{p q:List aC},mP (p.map uo) (q.map uo)=true
 |[],_=>by unfold mP;rfl
 |_::_,[]=>by unfold mP;rfl
 |a::p,b::q=>by
  rw[List.map_cons,List.map_cons,mP,KS,Bool.and_true];unfold uo jm;rfl
theorem akv (h:ps.length<2\/∀p∈ps,p≠[]):zR (ps.map iZ)=true:=by
 unfold zR;rw[Bool.and_eq_true,List.all_eq_true];refine⟨λt ht=>?_,?_⟩
 ·obtain⟨a,_,rfl⟩:=List.mem_map.mp ht
  rfl
 ·rw[Bool.or_eq_true,Bool.and_eq_true,Bool.or_eq_true]
  rcases h with h|h
  ·exact .inl (decide_eq_true (by rw[List.length_map];exact h))
  ·refine .inr ⟨List.all_eq_true.mpr λx hx=>List.all_eq_true.mpr λy hy=>?_,.inr (List.all_eq_true.mpr λx hx=>?_)⟩
   ·obtain⟨a,_,rfl⟩:=List.mem_map.mp hx
    obtain⟨b,_,rfl⟩:=List.mem_map.mp hy;unfold iZ jm;exact KS
   ·obtain⟨a,ha,rfl⟩:=List.mem_map.mp hx
    cases a with
    |nil=>exact absurd rfl (h _ ha)
    |cons b a=>rfl
theorem OD {n:Nat}:∀{ps:List (List aC)},ez (n+2) (ps.map bJ)=true
 |[]=>zV
 |p::ps=>by rw[List.map_cons,xN,OD,Bool.and_true,OC];exact zU
end
def mC (n:Nat):List aC->List (List aC)->List (List aC)
 |[],fs=>fs
 |a::K,fs=>mC n K (fs++(fs.filter λp=>decide (p.length<n)).map (·++[a]))
def iE:List aC->List (List aC)->List (List aC)
 |[],fs=>fs
 |a::K,fs=>iE K (fs++fs.map (·++[a]))
theorem OI {n:Nat}:∀{K:List aC} {fs:List (List aC)} {p:List aC},p∈mC n K fs->∃q∈fs,∃r,r.Sublist K/\p=q++r
 |[],fs,p,h=>⟨p,h,[],.refl _,by simp⟩
 |a::K,fs,p,h=>by
  obtain⟨q,hq,r,hr,e⟩:=OI (K:=K) h;rcases List.mem_append.mp hq with hq|hq
  ·exact⟨q,hq,r,hr.cons a,e⟩
  ·obtain⟨q2,Mj,rfl⟩:=List.mem_map.mp hq
   exact⟨q2,(List.mem_filter.mp Mj).1,a::r,hr.cons_cons a,by rw[e];simp⟩
theorem OG {n:Nat}:∀{K:List aC} {fs:List (List aC)} {q r:List aC},q∈fs->r.Sublist K->q.length+r.length<=n->q++r∈mC n K fs
 |[],fs,q,r,hq,hr,_=>by rw[List.sublist_nil.mp hr,List.append_nil];exact hq
 |a::K,fs,q,r,hq,hr,hl=>by
  unfold mC;cases hr with
  |cons _ hr=>exact OG (List.mem_append.mpr (.inl hq)) hr hl
  |cons_cons _ hr=>
   rename_i r2;rw[List.length_cons]at hl;have:=OG (n:=n) (K:=K) (fs:=fs++(fs.filter λp=>decide (p.length<n)).map (·++[a])) (q:=q++[a]) (r:=r2) (List.mem_append.mpr (.inr (List.mem_map.mpr ⟨q,List.mem_filter.mpr ⟨hq,decide_eq_true (by omega)⟩,rfl⟩))) hr (by rw[List.length_append,List.length_cons,List.length_nil];omega)
   rwa[List.append_assoc,List.singleton_append]at this
theorem OH {n:Nat}:∀{K:List aC} {fs:List (List aC)},(mC n K fs).length<=fs.length*2^K.length
 |[],fs=>by simp[mC]
 |a::K,fs=>by
  unfold mC;have h:=OH (n:=n) (K:=K) (fs:=fs++(fs.filter λp=>decide (p.length<n)).map (·++[a]));have h2:=List.length_filter_le (λp:List aC=>decide (p.length<n)) fs;rw[List.length_append,List.length_map]at h;refine Nat.le_trans h ?_;rw[List.length_cons,Nat.pow_succ,Nat.mul_comm (2^K.length) 2,<-Nat.mul_assoc];exact Nat.mul_le_mul_right _ (by omega)
theorem Za:∀{K:List aC},mC 0 K [[]]=[[]]
 |[]=>rfl
 |a::K=>by
  unfold mC;exact Za (K:=K)
theorem aa5:∀{K:List aC} {fs:List (List aC)} {p:List aC},p∈iE K fs↔∃q∈fs,∃r,r.Sublist K/\p=q++r
 |[],fs,p=>by
  unfold iE;constructor
  ·intro h;exact⟨p,h,[],.refl _,by simp⟩
  ·rintro⟨q,hq,r,hr,rfl⟩
   rw[List.sublist_nil.mp hr,List.append_nil];exact hq
 |a::K,fs,p=>by
  unfold iE;rw[aa5];constructor
  ·rintro⟨q,hq,r,hr,e⟩
   rcases List.mem_append.mp hq with hq|hq
   ·exact⟨q,hq,r,hr.cons a,e⟩
   ·obtain⟨q2,Mj,rfl⟩:=List.mem_map.mp hq
    exact⟨q2,Mj,a::r,hr.cons_cons a,by rw[e];simp⟩
  ·rintro⟨q,hq,r,hr,e⟩
   cases hr with
   |cons _ hr=>exact⟨q,List.mem_append.mpr (.inl hq),r,hr,e⟩
   |cons_cons _ hr=>exact⟨q++[a],List.mem_append.mpr (.inr (List.mem_map.mpr ⟨q,hq,rfl⟩)),_,hr,by rw[e];simp⟩
theorem Qc:∀{K:List aC} {fs:List (List aC)},(iE K fs).length=fs.length*2^K.length
 |[],fs=>by simp[iE]
 |a::K,fs=>by
  unfold iE;rw[Qc,List.length_append,List.length_map,List.length_cons,Nat.pow_succ,Nat.mul_comm (2^K.length) 2,<-Nat.mul_assoc]
  congr 1
  omega
theorem H7 {K p:List aC}:p∈iE K [[]]↔p.Sublist K:=by
 rw[aa5];constructor
 ·rintro⟨q,hq,r,hr,rfl⟩
  rw[List.mem_singleton.mp hq,List.nil_append];exact hr
 ·intro h
  exact⟨[],by simp,p,h,by simp⟩
def jf (n:Nat)(K:List aC):List (List aC):=(mC n K [[]]).filter λp=>decide (p.length=n)
theorem Zd {n:Nat}{K p:List aC}:p∈jf n K↔p.Sublist K/\p.length=n:=by
 unfold jf;rw[List.mem_filter,decide_eq_true_eq];constructor
 ·rintro⟨h,e⟩
  obtain⟨q,hq,r,hr,rfl⟩:=OI h;rw[List.mem_singleton.mp hq,List.nil_append]at e⊢;exact⟨hr,e⟩
 ·rintro⟨h,e⟩
  have:=OG (n:=n) (fs:=[[]]) (q:=[]) (by simp) h (by simp;omega);rw[List.nil_append]at this;exact⟨this,e⟩
theorem al6 {n:Nat}{K:List aC}:(jf n K).length<2\/∀p∈jf n K,p≠[]:=by
 cases n with
 |zero=>
  refine .inl ?_;unfold jf;rw[Za]
  decide
 |succ n=>
  refine .inr λp hp e=>?_
  have:=(Zd.mp hp).2;rw[e]at this;simp at this
section
variable{M:List ak}{k:Int}{rows:List (Int×Str)}{K:List aC}{aW:D}{t:bN}{n:Nat}{fs:List (List aC)}
theorem UR:∀ds:List D,gW M (ds.map .dat)=some (ds,M)
 |[]=>rfl
 |d::ds=>by
  rw[List.map_cons,aeS,UO];show(match gW M (ds.map .dat)with|some (es,M2)=>some (d::es,M2)|none=>none)=_
  rw[UR ds]
theorem aeT {p:List aC}{a:aC}:gW M (p.map (af.dat∘aI)++[af.dat (aI a)])=some ((p++[a]).map aI,M):=by
 have:p.map (af.dat∘aI)++[af.dat (aI a)]=((p++[a]).map aI).map .dat:=by simp
 rw[this,UR]
def Hx (t:bN):aN:=(fJ [3] (bL 2 (ao (bin .Add) (ah 2) (cV false [4] (cF (ah 2)) (br 4) (bz (ao (cmp .Lt) (bu (b_ t) (ai (ah 4) av)) (ah 1))) (dg (EV (ah 4) (ai (ao aO (ah 0) (ah 3)) av)))))))
def A3 (t:bN):aN:=
  (aL (bL 2 (dw false (ai (dg av) av)))
  (aL (fR (fX (bu (b_ t) (ai (ah 0) av))) (br 3) (Hx t))
  (bT (bu (pu (rQ false)) (ai (cV false [4] (cF (ah 2)) (br 4) (bz (ao (cmp .Eq) (bu (b_ t) (ai (ah 4) av)) (ah 1))) (ah 4)) av)))))
theorem al8 {i:Nat}{a:aC}(ha:K[i]?=some a)(hl:fs.length<=1000)(hp:∀p∈fs,p.length<=1000):
    Hx t [.dat (.lst (K.map aI)),.dat (.int (n:Int)),.dat (.lst (fs.map bJ)),.dat (.int (i:Int)),.un] M=.ret (.ok (.nx [.dat (.lst (K.map aI)),.dat (.int (n:Int)),.dat (.lst ((fs++(fs.filter λp=>decide (p.length<n)).map (·++[a])).map bJ)),.un,.un]) M):=by
  have l1:fs.length<16777216:=by omega
  have JT:atI (K.map aI) (i:Int)=some (aI a):=by rw[R.AO,R.atI_nat ha];rfl
  unfold Hx;simp[-List.filter_filter,l1];rw[t7 (p:=λp:List aC=>decide (p.length<n)) (h:=λp=>bJ (p++[a])) (by
    intro p ri;have l2:p.length<=16777216:=by have:=hp p ri;omega
    by_cases h:p.length<n
    · have oi:p.length<=16777215:=by have:=hp p ri;omega
      simp[l2,h,JT,aeT,tG,-List.map_append,oi]
    · simp[l2,h])]
  have sz:(fs.map bJ).length+((fs.filter λp=>decide (p.length<n)).map λp=>bJ (p++[a])).length<=16777216:=by
    have:=List.length_filter_le (λp:List aC=>decide (p.length<n)) fs;rw[List.length_map,List.length_map];omega
  simp only[bR,cD,F4,GJ,vE,xr];rw[Ej sz];simp
theorem Zj (hp:∀p∈fs,True):∀(l:List aC) (i:Nat) (fs:List (List aC)),(∀j,l[j]?=K[i+j]?)->fs.length*2^l.length<=1000->(∀p∈fs,p.length+l.length<=1000)->
    gv (br 3) (Hx t) (rng (i:Int) l.length) [.dat (.lst (K.map aI)),.dat (.int (n:Int)),.dat (.lst (fs.map bJ)),.un,.un] M=.ret (.ok (.nx [.dat (.lst (K.map aI)),.dat (.int (n:Int)),.dat (.lst ((mC n l fs).map bJ)),.un,.un]) M)
  |[],i,fs,_,_,_=>by
    rw[List.length_nil,show rng (i:Int) 0=[]from rfl];rfl
  |a::l,i,fs,h,h1,h2=>by
    have ha:K[i]?=some a:=(h 0).symm;have hpos:1<=2^l.length:=Nat.one_le_two_pow;have hm:fs.length<=fs.length*2^(a::l).length:=Nat.le_mul_of_pos_right _ (Nat.pos_of_ne_zero (by simp));have e:=al8 (M:=M) (t:=t) (n:=n) (fs:=fs) ha (by omega) (λp hp=>by have:=h2 p hp;omega);have hf:=List.length_filter_le (λp:List aC=>decide (p.length<n)) fs;have ih:=Zj hp l (i+1) (fs++(fs.filter λp=>decide (p.length<n)).map (·++[a])) (λj=>by
      have:=h (j+1);rw[show i+1+j=i+(j+1) by omega];exact this) (by
      rw[List.length_cons,Nat.pow_succ,Nat.mul_comm (2^l.length) 2,<-Nat.mul_assoc]at h1;refine Nat.le_trans (Nat.mul_le_mul_right _ ?_) h1;rw[List.length_append,List.length_map];omega) (λp hp=>by
      rw[List.length_cons]at h2;rcases List.mem_append.mp hp with hp|hp
      · have:=h2 p hp;omega
      · obtain⟨q,hq,rfl⟩:=List.mem_map.mp hp
        have:=h2 q (List.mem_filter.mp hq).1;rw[List.length_append,List.length_cons,List.length_nil];omega)
    rw[List.length_cons,zZ,uL (aY:=[.dat (.lst (K.map aI)),.dat (.int (n:Int)),.dat (.lst (fs.map bJ)),.dat (.int (i:Int)),.un]) rfl,e,bR,cD,tP];exact ih
def D9:aN:=
  (aL (bL 1 (dw false (ai (dg av) av)))
  (aL (fR (cF (ah 0)) (br 2) (fJ [2] (bL 1 (ao (bin .Add) (ah 1) (cV false [3] (cF (ah 1)) (br 3) fc (ao (bin .Add) (ah 3) (dg (ai (ah 2) av))))))))
  (bT (ah 1))))
theorem ZY {x0:af}:∀(l:List aC) (fs:List (List aC)),fs.length*2^l.length<=1000->(∀p∈fs,p.length+l.length<=1000)->
    gv (br 2) (fJ [2] (bL 1 (ao (bin .Add) (ah 1) (cV false [3] (cF (ah 1)) (br 3) fc (ao (bin .Add) (ah 3) (dg (ai (ah 2) av))))))) (l.map aI) [x0,.dat (.lst (fs.map bJ)),.un,.un] M=.ret (.ok (.nx [x0,.dat (.lst ((iE l fs).map bJ)),.un,.un]) M)
  |[],fs,_,_=>rfl
  |a::l,fs,h1,h2=>by
    have hpos:1<=2^l.length:=Nat.one_le_two_pow;have hm:fs.length<=fs.length*2^(a::l).length:=Nat.le_mul_of_pos_right _ (Nat.pos_of_ne_zero (by simp));have ih:=ZY (x0:=x0) l (fs++fs.map (·++[a])) (by
      rw[List.length_cons,Nat.pow_succ,Nat.mul_comm (2^l.length) 2,<-Nat.mul_assoc]at h1;refine Nat.le_trans (Nat.mul_le_mul_right _ ?_) h1;rw[List.length_append,List.length_map];omega) (λp hp=>by
      rw[List.length_cons]at h2;rcases List.mem_append.mp hp with hp|hp
      · have:=h2 p hp;omega
      · obtain⟨q,hq,rfl⟩:=List.mem_map.mp hp
        have:=h2 q hq;rw[List.length_append,List.length_cons,List.length_nil];omega)
    have l1:fs.length<16777216:=by omega
    have e:fJ [2] (bL 1 (ao (bin .Add) (ah 1) (cV false [3] (cF (ah 1)) (br 3) fc (ao (bin .Add) (ah 3) (dg (ai (ah 2) av)))))) [x0,.dat (.lst (fs.map bJ)),.dat (aI a),.un] M=.ret (.ok (.nx [x0,.dat (.lst ((fs++fs.map (·++[a])).map bJ)),.un,.un]) M):=by
      simp[l1];rw[Bg (h:=λp=>bJ (p++[a])) (by
        intro p ri;have l2:p.length+1<=16777216:=by have:=h2 p ri;omega
        simp[l2,tG])]
      have sz:(fs.map bJ).length+(fs.map λp=>bJ (p++[a])).length<=16777216:=by
        rw[List.length_map,List.length_map];omega
      simp only[bR,cD,F4,GJ,vE,xr];rw[Ej sz];simp
    rw[List.map_cons,uL (aY:=[x0,.dat (.lst (fs.map bJ)),.dat (aI a),.un]) rfl,e,bR,cD,tP];exact ih
theorem aol (hK:K.length<=8):aR false 1 4 D9 [.dat (.lst (K.map aI))] M=.ret (.ok (.dat (.lst ((iE K [[]]).map bJ))) M):=by
 have cI:(2:Nat)^K.length<=2^8:=Nat.pow_le_pow_right (by omega) hK;have go:=ZY (M:=M) (x0:=.dat (.lst (K.map aI))) K [[]] (by simp only[List.length_cons,List.length_nil];omega) (by intro p hp;rw[List.mem_singleton.mp hp];simp;omega);rw[jG (by rfl)];have key:D9 [.dat (.lst (K.map aI)),.un,.un,.un] M=.ret (.ok (.rt (.dat (.lst ((iE K [[]]).map bJ)))) M):=by
  unfold D9;rw[iF,show bL 1 (dw false (ai (dg av) av)) [.dat (.lst (K.map aI)),.un,.un,.un] M=.ret (.ok (.nx [.dat (.lst (K.map aI)),.dat (.lst (([[]]:List (List aC)).map bJ)),.un,.un]) M) by simp[tG],bR,cD,iS];rw[iF,vY,show cF (ah 0) [.dat (.lst (K.map aI)),.dat (.lst (([[]]:List (List aC)).map bJ)),.un,.un] M=.ret (.ok (.data (K.map aI)) M) by simp,bR,cD,vX,go,bR,cD,iS];simp
 show(D9 [.dat (.lst (K.map aI)),.un,.un,.un] M).bind _=_
 rw[key,bR,mU,gr rfl]
def A4 (oK:aM):aN:=(bT (ao (cmp .Eq) (bB oK (ai (ah 0) (ai (ah 1) av))) (dw false av)))
theorem eq_nil {L:List aC}:dh .Eq M (.dat (.lst (L.map aI))) (.dat (.lst []))=some L.isEmpty:=by
 rw[KW,Ub zU zV];cases L with
 |nil=>rw[List.map_nil,aa2];rfl
 |cons a L=>rw[List.map_cons,anT];rfl
theorem alZ {oK:aM}{L:List aC}(h:oK [.dat (aP k rows),.dat aW] M=.ret (.ok (.dat (.lst (L.map aI))) M)):aR false 2 2 (A4 oK) [.dat (aP k rows),.dat aW] M=.ret (.ok (.dat (.bl L.isEmpty)) M):=by
 rw[jG (by rfl)];have e:=eq_nil (M:=M) (L:=L);have key:A4 oK [.dat (aP k rows),.dat aW] M=.ret (.ok (.rt (.dat (.bl L.isEmpty))) M):=by
  unfold A4;simp[-KW,h,e]
 show(A4 oK [.dat (aP k rows),.dat aW] M).bind _=_
 rw[key,bR,mU,gr rfl]
end
end R
namespace R
section
variable(fw bw:aC->Bool)
def akx (C:List Int)(h:Int)(k:aC):Bool:=decide (k.1=h)&&(!decide (k.2∈C)&&fw k)
def acL (Rs:List Int)(c:Int)(k:aC):Bool:=decide (k.2=c)&&(!decide (k.1∈Rs)&&bw k)
def YO (Z:List aC)(g:Int):Nat->List Int->Int->List Int->List aC->List (List aC)
  |0,_,_,_,_=>[]
  |f+1,Rs,h,C,way=>(Z.filter (akx fw C h)).flatMap λk=>if k.2=g then[way++[k]]else
      (Z.filter (acL bw (Rs++[h]) k.2)).flatMap λk2=>YO Z g f (Rs++[h]) k2.1 (C++[k.2]) (way++[k]++[k2])
end
end R
namespace R
open PySem PySem.Spec PyProof.Rows L2
variable[aT]
section
variable{M N:List ak}{k g h:Int}{rows:List (Int×Str)}{w:Nat}{ps:List (List aC)}{t:bN}{a:aC}
abbrev o7 (p:List aC):D:=.tup [.int (p.length:Int),bJ p]
def jI (p:List aC):aQ:=.t [.i (p.length:Int),iZ p]
theorem adZ (p:List aC):dU (jI p)=o7 p:=by
 unfold jI o7 dU;rw[Bp];simp[TR,show dU (.i (p.length:Int))=.int (p.length:Int)from rfl]
theorem aoW (p:List aC):eF (bJ p)=some (iZ p):=by unfold bJ eF;rw[Qu];rfl
theorem aam:∀ps:List (List aC),gq (ps.map o7)=some (ps.map jI)
 |[]=>by unfold gq;rfl
 |p::ps=>by
  rw[List.map_cons,gq,aam ps,show eF (o7 p)=some (jI p) by unfold o7 eF;rw[gq,gq,gq,aoW];rfl];rfl
theorem akw:zR (ps.map jI)=true:=by
 unfold zR;rw[Bool.and_eq_true,List.all_eq_true];refine⟨λt ht=>?_,?_⟩
 ·obtain⟨a,_,rfl⟩:=List.mem_map.mp ht
  rfl
 ·rw[Bool.or_eq_true,Bool.and_eq_true,Bool.or_eq_true]
  refine .inr ⟨List.all_eq_true.mpr λx hx=>List.all_eq_true.mpr λy hy=>?_,.inl (List.all_eq_true.mpr λx hx=>?_)⟩
  ·obtain⟨a,_,rfl⟩:=List.mem_map.mp hx
   obtain⟨b,_,rfl⟩:=List.mem_map.mp hy;simp[jI,iZ,jm,mP,KS]
  ·obtain⟨a,_,rfl⟩:=List.mem_map.mp hx
   rfl
theorem Y8 {n:Nat}:∀{ps:List (List aC)},ez (n+4) (ps.map o7)=true
 |[]=>zV
 |p::ps=>by
  rw[List.map_cons,xN,Y8,Bool.and_true,OC,xN,xN,CB,OC,zU,zV];rfl
def aau:aQ->aC
 | .t [.i a,.i b]=>(a,b)
 |_=>(0,0)
def Ae:aQ->List aC
 | .t [_,.t ks]=>ks.map aau
 |_=>[]
def jQ (ps:List (List aC)):List (List aC):=(mF (ps.map jI)).map Ae
theorem apd (p:List aC):Ae (jI p)=p:=by
 unfold jI iZ Ae
 dsimp only
 rw[List.map_map]
 conv=>rhs;rw[<-List.map_id p]
 exact List.map_congr_left λa _=>rfl
theorem Dg (ps:List (List aC)):(ps.map jI).map Ae=ps:=by
 rw[List.map_map]
 conv=>rhs;rw[<-List.map_id ps]
 exact List.map_congr_left λa _=>apd a
theorem A7:(jQ ps).Perm ps:=by
 have h:=(nP (ps.map jI)).map Ae
 rwa[Dg]at h
theorem anV:rQ false M [.dat (.lst (ps.map o7))]=some (.dat (.lst ((jQ ps).map o7)),M):=by
 obtain⟨uz,h1,h2⟩:=Hj (nP (ps.map jI)) ps rfl;have hb:jQ ps=uz:=by
  unfold jQ;rw[h2,Dg]
 have e:CZ M (.dat (.lst (ps.map o7)))=some (ps.map o7):=rfl;unfold rQ
 dsimp only
 rw[e]
 dsimp only
 rw[if_pos Y8,aam]
 dsimp only
 rw[if_pos akw,h2,List.map_map,hb];have z:uz.map (dU∘jI)=uz.map o7:=List.map_congr_left λa _=>adZ a
 rw[z];rfl
def HG (rows:List (Int×Str))(h g:Int):List (List aC):=jQ (YO (eY rows) (fV rows) (bG 0 rows) g 4 [] h [] [])
end
section
variable{M:List ak}{ρ:List af}{s:af}{d:D}{ds:List D}{aE bC:CE}{t:bN}{m:Str}{c:Nat}{F:aM}
def We:D->Ev af:=λd=>ok (.dat d)
def Wd:af->Ev af:=λs=>(frz s).bind We
@[simp]theorem apS:yQ aE ρ M=(aE ρ M).bind (aX Wd):=id rfl
@[simp]theorem ahA:Wd s M=(frz s M).bind (aX We):=id rfl
end
section
variable{M:List ak}{k:Int}{rows:List (Int×Str)}{w:Nat}{K Z:List aC}{aW:D}{a:aC}
def E9 (R:Int->List Int)(K:List aC)(a:aC):Bool:=decide (a.2∈R a.1)&&!decide (a∈K)
theorem Ni {i:Nat}{z:Str}(h:a∈nA i z):a.1=(i:Int):=by
 unfold nA at h;obtain⟨c,_,rfl⟩:=List.mem_map.mp h;rfl
theorem WL:∀{rows:List (Int×Str)} {i:Nat},a∈bG i rows->(i:Int)<=a.1
 |[],_,h=>by cases h
 |r::rows,i,h=>by
  rw[bG]at h;rcases List.mem_append.mp h with h|h
  ·rw[Ni h];omega
  ·have:=WL h;omega
theorem Uj {R:Int->List Int}{A B:List aC}:∀{n i:Nat},(∀a∈A,a.1<(i:Int))->jS R K (A++B) i n=jS R K B i n
 |0,i,_=>rfl
 |n+1,i,h=>by
  rw[jS,jS,Uj (n:=n) (i:=i+1) λa ha=>by have:=h a ha;omega,List.filter_append,show A.filter (jF (R (i:Int)) K (i:Int))=[]from List.filter_eq_nil_iff.mpr λa ha=>by
   have:=h a ha;unfold jF;rw[decide_eq_false (show¬a.1=(i:Int) by omega)];simp]
  rfl
theorem Lk {R:Int->List Int}:∀{rows:List (Int×Str)} {i:Nat},jS R K (bG i rows) i rows.length=(bG i rows).filter (E9 R K)
 |[],_=>rfl
 |r::rows,i=>by
  rw[List.length_cons,jS,bG,List.filter_append,List.filter_append,Uj (n:=rows.length) (i:=i+1) λa ha=>by rw[Ni ha];omega,Lk];have e1:(nA i r.2).filter (jF (R (i:Int)) K (i:Int))=(nA i r.2).filter (E9 R K):=List.filter_congr λa ha=>by
   unfold jF E9;rw[Ni ha];simp
  have e2:(bG (i+1) rows).filter (jF (R (i:Int)) K (i:Int))=[]:=List.filter_eq_nil_iff.mpr λa ha=>by
   have:=WL ha;unfold jF;rw[decide_eq_false (show¬a.1=(i:Int) by omega)];simp
  rw[e1,e2,List.append_nil]
end
theorem alx (l:List Nat)(p:Option Nat->Bool):((List.range l.length).filter λc=>p l[c]?).length=l.countP λc=>p (some c):=by
 induction l with
 |nil=>rfl
 |cons a l ih=>
  rw[List.length_cons,List.range_succ_eq_map,List.filter_cons,List.filter_map,List.countP_cons];have e:((List.range l.length).filter ((λc=>p (a::l)[c]?)∘Nat.succ))=(List.range l.length).filter λc=>p l[c]?:=List.filter_congr λc _=>by simp
  rw[e];simp only[List.getElem?_cons_zero];split
  ·rw[List.length_cons,List.length_map,ih]
  ·rw[List.length_map,ih];rfl
theorem ahG {i:Nat}{z:Str}:(nA i z).length=cnt z:=by
 unfold nA cnt;rw[List.length_map];have e:z.length=z.cps.toList.length:=rfl;rw[e,alx z.cps.toList (λo=>decide (o≠some 46))]
 congr 1
 funext c
 simp
theorem Ge:∀{rows:List (Int×Str)} {i:Nat},(bG i rows).length=u_ rows
 |[],_=>rfl
 |r::rows,i=>by
  rw[bG,List.length_append,ahG,Ge];rfl
section
variable{M:List ak}{k g h:Int}{rows:List (Int×Str)}{w:Nat}{Rs C:List Int}{way K:List aC}{fw bw:aC->Bool}{t:bN}
def sA:Nat->Nat
 |0=>4
 |m+1=>4*((m+1)*sA m)
end
section
variable{k:Int}{rows:List (Int×Str)}{w:Nat}{K:List aC}
def yY (rows:List (Int×Str))(p:List aC):List aC:=(bG 0 rows).filter (E9 (λi=>xB (eY rows) (fV rows) p i) p)
end
section
variable{M:List ak}{k g h:Int}{rows:List (Int×Str)}{w:Nat}{K:List aC}{t:bN}{aW:D}
def vW:List (Str×D):=[("most",.int 8),("code",.str "TooWide")]
def AQ (t:bN):aN:=(dj (bz (ao (cmp .Gt) (bu (b_ t) (ai (ah 0) av)) (λ_=>ok (.dat (.int 8))))) (mV 19 "TooWide" "most" (λ_=>ok (.dat (.int 8)))) dR)
theorem S9 {F:aM}{n:Nat}(hn:n<=1000)(h:F [.dat (aP k rows)] M=.ret (.ok (.dat (.int (n:Int))) M)):aR false 1 1 (AQ [(0,F)]) [.dat (aP k rows)] M=if 8<n then .ret (.ex 19 vW M)else .ret (.ok (.dat .non) M):=by
 have e1:bu (b_ [(0,F)]) (ai (ah 0) av) [.dat (aP k rows)] M=.ret (.ok (.dat (.int (n:Int))) M):=by
  have:(n:Int)<9223372036854775808:=by omega
  simp[h,wK,this]
 rw[jG (by rfl)];have key:AQ [(0,F)] [.dat (aP k rows)] M=if 8<n then .ret (.ex 19 vW M)else .ret (.ok (.nx [.dat (aP k rows)]) M):=by
  unfold AQ vW;generalize bu (b_ [(0,F)]) (ai (ah 0) av)=E at e1;by_cases c:8<n
  ·have:(8:Int)<(n:Int):=by omega
   simp[e1,c,this]
  ·have:¬(8:Int)<(n:Int):=by omega
   simp[e1,c,this]
 show(AQ [(0,F)] [.dat (aP k rows)] M).bind _=_
 rw[key];split
 ·rw[bR,OQ,gr rfl]
 ·rw[bR,HF,gr rfl]
end
section
variable{M:List ak}{t:bN}{lk:aM}{s s0 s1:af}{ds:List D}{d e:D}{j:Nat}{op:CmpOp}
inductive Sb (M:List ak):af->List D->Prop
 |dat (ds:List D):Sb M (.dat (.lst ds)) ds
 |mu {j:Nat} {ds:List D} (h:M[j]?=some (.lst (ds.map .dat))):Sb M (.mu j) ds
end
section
variable{M:List ak}{K:List aC}{ps:List (List aC)}{n:Nat}{t:bN}{fs:List (List aC)}
def De:aQ->List aC
 | .t ks=>ks.map aau
 |_=>[]
theorem apc (p:List aC):De (iZ p)=p:=by
 unfold iZ De
 dsimp only
 rw[List.map_map]
 conv=>rhs;rw[<-List.map_id p]
 exact List.map_congr_left λa _=>rfl
theorem QA (ps:List (List aC)):(ps.map iZ).map De=ps:=by
 rw[List.map_map]
 conv=>rhs;rw[<-List.map_id ps]
 exact List.map_congr_left λa _=>apc a
def jh (ps:List (List aC)):List (List aC):=(mF (ps.map iZ)).map De
theorem z9:(jh ps).Perm ps:=by
 have h:=(nP (ps.map iZ)).map De
 rwa[QA]at h
theorem ao5:(jh ps).map iZ=mF (ps.map iZ):=by
 obtain⟨uz,h1,h2⟩:=Hj (nP (ps.map iZ)) ps rfl;unfold jh;rw[h2,QA]
theorem anU (h:ps.length<2\/∀p∈ps,p≠[]):rQ false M [.dat (.lst (ps.map bJ))]=some (.dat (.lst ((jh ps).map bJ)),M):=by
 obtain⟨uz,h1,h2⟩:=Hj (nP (ps.map iZ)) ps rfl;have hb:jh ps=uz:=by unfold jh;rw[h2,QA]
 have e:CZ M (.dat (.lst (ps.map bJ)))=some (ps.map bJ):=rfl;unfold rQ
 dsimp only
 rw[e]
 dsimp only
 rw[if_pos OD,aak]
 dsimp only
 rw[if_pos (akv h),h2,List.map_map,hb];have z:uz.map (dU∘iZ)=uz.map bJ:=List.map_congr_left λa _=>TR a
 rw[z];rfl
theorem akN (hK:K.length<=8):aR false 2 5 (A3 t) [.dat (.lst (K.map aI)),.dat (.int (n:Int))] M=.ret (.ok (.dat (.lst ((jh (jf n K)).map bJ))) M):=by
 have hs:=anU (M:=M) (al6 (n:=n) (K:=K));generalize jh (jf n K)=ps at hs⊢;have cI:(2:Nat)^K.length<=2^8:=Nat.pow_le_pow_right (by omega) hK;have go:=Zj (M:=M) (t:=t) (n:=n) (K:=K) (fs:=[]) (by simp) K 0 [[]] (λj=>by rw[Nat.zero_add]) (by simp only[List.length_cons,List.length_nil];omega) (by intro p hp;rw[List.mem_singleton.mp hp];simp;omega);rw[show((0:Nat):Int)=0 from rfl]at go;rw[jG (by rfl)];have key:A3 t [.dat (.lst (K.map aI)),.dat (.int (n:Int)),.un,.un,.un] M=.ret (.ok (.rt (.dat (.lst (ps.map bJ)))) M):=by
  have l1:K.length<=16777216:=by omega
  have cP:(-1000000:Int)<=(K.length:Int):=by omega
  have b2:(K.length:Int)<=1000000:=by omega
  unfold A3;rw[iF,show bL 2 (dw false (ai (dg av) av)) [.dat (.lst (K.map aI)),.dat (.int (n:Int)),.un,.un,.un] M=.ret (.ok (.nx [.dat (.lst (K.map aI)),.dat (.int (n:Int)),.dat (.lst (([[]]:List (List aC)).map bJ)),.un,.un]) M) by simp[tG],bR,cD,iS];rw[iF,vY,show fX (bu (b_ t) (ai (ah 0) av)) [.dat (.lst (K.map aI)),.dat (.int (n:Int)),.dat (.lst (([[]]:List (List aC)).map bJ)),.un,.un] M=.ret (.ok (.data (rng 0 K.length)) M) by simp[l1,cP,b2],bR,cD,vX,go,bR,cD,iS];have gl:=OH (n:=n) (K:=K) (fs:=[[]]);rw[List.length_cons,List.length_nil]at gl;have l2:(mC n K [[]]).length<16777216:=by omega
  simp[-List.filter_filter,l2];rw[t7 (p:=λp:List aC=>decide (p.length=n)) (h:=bJ) (by
   intro p ri;obtain⟨q,hq,r,hr,e⟩:=OI ri;rw[List.mem_singleton.mp hq,List.nil_append]at e;have:=hr.length_le;have l2:p.length<=16777216:=by rw[e];omega
   by_cases h:p.length=n
   ·have oi:n<=16777216:=by omega
    simp[l2,h,oi]
   ·have h2:¬(p.length:Int)=(n:Int):=by omega
    simp[l2,h,h2])]
  have mQ:rQ false M [.dat (.lst (((mC n K [[]]).filter λp=>decide (p.length=n)).map bJ))]=some (.dat (.lst (ps.map bJ)),M):=hs;simp[-List.filter_filter,mQ]
 show(A3 t [.dat (.lst (K.map aI)),.dat (.int (n:Int)),.un,.un,.un] M).bind _=_
 rw[key,bR,mU,gr rfl]
theorem Zb:∀{K:List aC} {fs:List (List aC)},(mC n K (fs.filter λp=>decide (p.length<=n))).filter (λp=>decide (p.length=n))=(iE K fs).filter λp=>decide (p.length=n)
 |[],fs=>by
  unfold mC iE;rw[List.filter_filter];refine List.filter_congr λp _=>?_
  by_cases h:p.length=n
  ·simp[h]
  ·simp[h]
 |a::K,fs=>by
  unfold mC iE;rw[<-Zb (K:=K) (fs:=fs++fs.map (·++[a]))]
  congr 2
  rw[List.filter_append,List.filter_map,List.filter_filter]
  congr 2
  refine List.filter_congr λp _=>?_
  simp only[Function.comp,List.length_append,List.length_singleton];by_cases h:p.length<n
  ·have h2:p.length<=n:=by omega
   have h3:p.length+1<=n:=by omega
   simp[h,h2,h3]
  ·have h3:¬p.length+1<=n:=by omega
   simp[h,h3]
theorem al7:jf n K=(iE K [[]]).filter λp=>decide (p.length=n):=by
 have h:=Zb (n:=n) (K:=K) (fs:=[[]]);rw[show([[]]:List (List aC)).filter (λp=>decide (p.length<=n))=[[]] by simp]at h;exact h
theorem Uo {α β:Type}{f g:α->List β}:∀{l:List α},(∀a∈l,(f a).Perm (g a))->(l.flatMap f).Perm (l.flatMap g)
 |[],_=>.refl _
 |a::l,h=>by
  rw[List.flatMap_cons,List.flatMap_cons];exact(h a List.mem_cons_self).append (Uo λb hb=>h b (List.mem_cons_of_mem _ hb))
theorem To {l:List (List aC)}:∀N:Nat,((List.range N).flatMap λn=>l.filter λp=>decide (p.length=n)).Perm (l.filter λp=>decide (p.length<N))
 |0=>by simp
 |N+1=>by
  rw[List.range_succ,List.flatMap_append,List.flatMap_singleton];refine((To N).append_right _).trans ?_;have h:=List.filter_append_perm (λp:List aC=>decide (p.length<N)) (l.filter λp=>decide (p.length<N+1));rw[List.filter_filter,List.filter_filter]at h;refine List.Perm.trans (List.Perm.of_eq ?_) h
  congr 1
  ·refine List.filter_congr λp _=>?_
   by_cases c:p.length<N
   ·have:p.length<N+1:=by omega
    simp[c,this]
   ·simp[c]
  ·refine List.filter_congr λp _=>?_
   by_cases c:p.length=N
   ·simp[c]
   ·by_cases d:p.length<N
    ·simp[c,d]
    ·have:¬p.length<N+1:=by omega
     simp[c,this]
theorem XT {p q:List aC}:fu (jI p) (jI q)=(decide (p.length<q.length)||(decide (p.length=q.length)&&fu (iZ p) (iZ q))):=by
 unfold fu jI;rw[bq,bZ,bZ,bZ,bq];by_cases h1:p.length<q.length
 ·rw[if_pos (by omega)]
  simp[h1]
 ·by_cases h2:p.length=q.length
  ·rw[if_neg (by omega),if_pos (by omega),decide_eq_false h1,decide_eq_true h2,Bool.false_or,Bool.true_and]
   cases bq (iZ p) (iZ q)<;>rfl
  ·rw[if_neg (by omega),if_neg (by omega),decide_eq_false h1,decide_eq_false h2,Bool.false_or,Bool.false_and]
   rfl
theorem ao7 {l:List (List aC)}{n:Nat}(h:su (l.map iZ))(hn:∀p∈l,p.length=n):su (l.map jI):=by
 unfold su at *;rw[List.pairwise_map]at *;refine h.imp_of_mem λ{p q} hp hq e=>?_
 rw[XT,e,hn p hp,hn q hq];simp
theorem acO (hl:∀p∈ps,p.length<n):jQ ps=(List.range n).flatMap λm=>jh (ps.filter λp=>decide (p.length=m)):=by
 have e:(jQ ps).map jI=((List.range n).flatMap λm=>jh (ps.filter λp=>decide (p.length=m))).map jI:=by
  have e1:(jQ ps).map jI=mF (ps.map jI):=by
   obtain⟨uz,h1,h2⟩:=Hj (nP (ps.map jI)) ps rfl;unfold jQ;rw[h2,Dg]
  rw[e1];refine P_ ?_ (H6 _) ?_
  ·refine(nP _).trans (List.Perm.map _ ?_)
   refine List.Perm.symm ((Uo λm _=>z9).trans ((To n).trans (List.Perm.of_eq ?_)));exact List.filter_eq_self.mpr λp hp=>decide_eq_true (hl p hp)
  ·clear hl e1
   induction n with
   |zero=>exact List.Pairwise.nil
   |succ n ih=>
    rw[List.range_succ,List.flatMap_append,List.flatMap_singleton,List.map_append];unfold su at *;rw[List.pairwise_append];refine⟨ih,ao7 (n:=n) (by rw[ao5];exact H6 _) λp hp=>?_,?_⟩
    ·have:=(z9.mem_iff.mp hp)
     exact of_decide_eq_true (List.mem_filter.mp this).2
    ·intro x hx y hy
     obtain⟨p,hp,rfl⟩:=List.mem_map.mp hx;obtain⟨q,hq,rfl⟩:=List.mem_map.mp hy;obtain⟨m,hm,hp⟩:=List.mem_flatMap.mp hp;have h1:=of_decide_eq_true (List.mem_filter.mp (z9.mem_iff.mp hp)).2;have h2:=of_decide_eq_true (List.mem_filter.mp (z9.mem_iff.mp hq)).2;have h3:=List.mem_range.mp hm;rw[XT];have a1:¬q.length<p.length:=by omega
     have a2:¬q.length=p.length:=by omega
     simp[a1,a2]
 have:=congrArg (List.map Ae) e
 rwa[Dg,Dg]at this
theorem acQ:jQ (iE K [[]])=(List.range (K.length+1)).flatMap λm=>jh (jf m K):=by
 rw[acO (n:=K.length+1) λp hp=>by have:=(H7.mp hp).length_le;omega]
 congr 1
 funext m
 rw[al7]
end
section
variable{M:List ak}{ps:List (List aC)}{t:bN}
def D4 (t:bN):aN:=(bT (cV false [1,2] (cF (bu (pu (rQ false)) (ai (cV false [2] (cF (ah 0)) (br 2) fc (dg (ai (bu (b_ t) (ai (ah 2) av)) (ai (ah 2) av)))) av))) (gH 2 (cZ (br 1) (cZ (br 2) gY))) fc (ah 2)))
theorem acP (hl:ps.length<=1000000)(hp:∀p∈ps,p.length<=1000):aR false 1 3 (D4 t) [.dat (.lst (ps.map bJ))] M=.ret (.ok (.dat (.lst ((jQ ps).map bJ))) M):=by
 have l1:ps.length<16777216:=by omega
 have l2:(jQ ps).length<16777216:=by rw[A7.length_eq];omega
 have so:=anV (M:=M) (ps:=ps);rw[jG (by rfl)];have key:D4 t [.dat (.lst (ps.map bJ)),.un,.un] M=.ret (.ok (.rt (.dat (.lst ((jQ ps).map bJ)))) M):=by
  unfold D4;have e1:cV false [2] (cF (ah 0)) (br 2) fc (dg (ai (bu (b_ t) (ai (ah 2) av)) (ai (ah 2) av))) [.dat (.lst (ps.map bJ)),.un,.un] M=.ret (.ok (.dat (.lst (ps.map o7))) M):=by
   simp[l1];rw[Bg (h:=o7) (by
    intro p ri;have l2:p.length<=16777216:=by have:=hp p ri;omega
    simp[l2,tG])]
   simp
  generalize(cV false [2] (cF (ah 0)) (br 2) fc (dg (ai (bu (b_ t) (ai (ah 2) av)) (ai (ah 2) av))))=aqf at e1;simp[e1,so,l2];rw[Bg (h:=bJ) (by
   intro p ri;simp)]
  simp
 show(D4 t [.dat (.lst (ps.map bJ)),.un,.un] M).bind _=_
 rw[key,bR,mU,gr rfl]
end
section
variable{M:List ak}{k:Int}{rows:List (Int×Str)}{w:Nat}{t:bN}{acc ps:List (List aC)}{atk bare:List aC}{S:List aC->Bool}
theorem al5 (hK:bare.length<=8){n:Nat}:(jf n bare).length<=256:=by
 have cI:(2:Nat)^bare.length<=2^8:=Nat.pow_le_pow_right (by omega) hK;have h1:=OH (n:=n) (K:=bare) (fs:=[[]]);have h2:=List.length_filter_le (λp:List aC=>decide (p.length=n)) (mC n bare [[]]);unfold jf;rw[List.length_cons,List.length_nil]at h1;omega
end
abbrev fL (d:D)(M:List ak):T (Re af):=.ret (.ok (.dat d) M)
abbrev v_ (rows:List (Int×Str))(K:List aC):Prop:=(∀a∈K,a∈bG 0 rows)/\K.Nodup/\K.length<=16
abbrev bk (x:D):D:=.tup [.str "BadKey",x]
abbrev Dd:D:=.tup [.str "TooWide",.int 8]
theorem adA:Cl N0:=rfl
section
variable{M:List ak}{A:List D}{i:Nat}{y:af}{n:Nat}{L:List aC}
theorem ne_self {M:List ak}{A:List D}(p:ez 57 A=true)(h:mE A A=true):dh .NotEq M (.dat (.lst A)) (.dat (.lst A))=some false:=by
 rw[adG,Ub p p,h];rfl
theorem af8 (h:L.length<=1000):good (n+2) (bJ L)=true:=by
 unfold bJ;rw[good,Bool.and_eq_true,List.all_eq_true];refine⟨λd hd=>?_,by simp;omega⟩;obtain⟨i,_,rfl⟩:=List.mem_map.mp hd;unfold aI;cases n<;>rfl
end
def lQ (rows:List (Int×Str))(p:List aC):Bool:=(yY rows p).isEmpty
section
variable{M:List ak}{A:List (List aC)}{q:List aC}
theorem aa1:∀{K L:List aC},mE (K.map aI) (L.map aI)=decide (K=L)
 |[],[]=>by simp
 |[],b::L=>by simp
 |a::K,[]=>by simp
 |a::K,b::L=>by
  rw[List.map_cons,List.map_cons,HY,Z9,aa1];by_cases h1:a=b<;>by_cases h2:K=L<;>simp[h1,h2]
theorem anQ {p:List aC}:jL (bJ p) (bJ q)=decide (p=q):=(Z_).trans aa1
end
theorem WG:∀ks:List Key,Gb (ks.map TQ)=some ks
 |[]=>rfl
 |k::ks=>by
  rw[List.map_cons];cases k<;>(unfold Gb;rw[WG ks];rfl)
theorem WB (ks:List Key):WA (.dat (uH ks))=some ks:=WG ks
def wM (kvs:List (List Key×D)):List (List Key×af):=kvs.map λp=>(p.1,af.dat p.2)
theorem adU (kvs:List (List Key×D))(k:List Key):pY (wM kvs) k=(pY kvs k).map .dat:=by
 unfold pY wM;rw[List.find?_map];cases h:kvs.find? ((λp:List Key×af=>decide (p.1=k))∘λp=>(p.1,af.dat p.2))with
 |none=>
  have h':kvs.find? (λp=>decide (p.1=k))=none:=h;rw[h'];rfl
 |some p=>
  have h':kvs.find? (λp=>decide (p.1=k))=some p:=h;rw[h'];rfl
section
variable{M:List ak}{ρ:List af}{s s1:af}{kvs:List (List Key×D)}{k:List Key}{d:D}{ds:List D}{i:Int}{j:Nat}{z:Str}{f aE bC gb cK kU:CE}{t:cX}{g:dX}{fi:jt}{own:List Nat}
theorem ahp:Ce M (.dat (.dT kvs)) (.dat (uH k))=(pY kvs k).map λd=>(.dat d,M):=by
 unfold Ce;rw[WB];show(match some ((pY kvs k).map af.dat)with
  |some (some s)=>some (s,M)
  |_=>none)=_
 cases pY kvs k<;>rfl
@[simp]theorem aj6 {m:Bool}:Gu m M [.dat (.dT kvs)]=some (d9 m M (kvs.map λp=>uH p.1)):=by
 show some (d9 m M ((kvs.map (·.1)).map uH))=_
 rw[List.map_map];rfl
end
abbrev Sg:Type:=Bool×Nat
def agP (s:Bool):Int:=if s then 1 else 0
def anB (s:Sg):List Key:=[.inl (agP s.1),.inl (s.2:Int)]
def adt (c:Bool):Nat:=if c then 49 else 48
def Dl (w:List Bool):Str:=⟨(w.map adt).toArray⟩
def JS (b:Nat)(s:Sg)(c:Bool):Bool:=decide (s.2<b)||(c==s.1)
def Xq (h:Nat)(s:Sg):List Sg:=if s.2+1<h then[(s.1,s.2+1)]else[(s.1,s.2),(!s.1,0)]
def aoj (h:Nat):List Sg:=(List.range h).reverse.flatMap λa=>[(false,a),(true,a)]
section
variable{M:List ak}{b h:Nat}{s:Sg}{c:Bool}{w:List Bool}{t:bN}
def ahg (z:Str)(m:Nat):Bool:=decide (1<=z.length/\z.length<=m)&&z.cps.toList.all λc=>decide (c∈([48,49]:List Nat))
end
abbrev qC:Type:=List (Sg×Option Sg)
def afw (l:qC)(s:Sg):Bool:=l.any λp=>decide (p.1=s)
def acz (b:Nat)(c:Bool)(st:Sg)(acc:qC)(s:Sg):qC:=if JS b s c&&!afw acc s then acc++[(s,some st)]else acc
def ak0 (b h:Nat)(c:Bool)(prev:qC):qC:=prev.foldl (λacc p=>(Xq h p.1).foldl (acz b c p.1) acc) []
def aeD (b h:Nat)(c:Bool):qC:=((aoj h).filter λs=>JS b s c).map λs=>(s,none)
section
variable{M N:List ak}{b h j f:Nat}{w ig:af}{st:Sg}{c:Bool}{acc:qC}{abc abd aqo:aM}{t:bN}
def abt (h:Nat)(l:qC):Prop:=(l.map (·.1)).Nodup/\∀p∈l,p.1.2<h
theorem ajd {l:qC}(hl:abt h l):l.length<=2*h:=by
 have hn:(l.map λp=>2*p.1.2+(if p.1.1 then 1 else 0)).Nodup:=by
  have e:(l.map λp=>2*p.1.2+(if p.1.1 then 1 else 0))=(l.map (·.1)).map λs:Sg=>2*s.2+(if s.1 then 1 else 0):=by rw[List.map_map];rfl
  rw[e,List.Nodup,List.pairwise_map];refine hl.1.imp λ{s t} hne z=>hne ?_
  obtain⟨s1,s2⟩:=s;obtain⟨t1,t2⟩:=t;cases s1<;>cases t1<;>simp at z⊢<;>omega
 have:=nat_nodup_len _ (List.range (2*h)) hn λx hx=>by
  obtain⟨p,hp,rfl⟩:=List.mem_map.mp hx;have:=hl.2 p hp;rw[List.mem_range];split<;>omega
 simpa using this
end
section
variable{b h:Nat}{c:Bool}
def Xo (b h:Nat):qC->List Bool->qC
 |prev,[]=>prev
 |prev,c::w=>Xo b h (ak0 b h c prev) w
def JU (b h:Nat):List Bool->Bool
 |[]=>false
 |c::w=>!(Xo b h (aeD b h c) w).isEmpty
def st0 (h:Nat):List Sg:=(List.range h).map (λa=>(false,a))++(List.range h).map λa=>(true,a)
end
def aaK (x:D):List (Str×D):=[("given",x),("code",.str "BadWord")]
def Np (a b:aC):Prop:=a.1<b.1\/(a.1=b.1/\a.2<b.2)
theorem ahH (i:Nat)(z:Str):(nA i z).Pairwise Np:=by
 unfold nA;rw[List.pairwise_map];refine(List.Pairwise.filter _ List.pairwise_lt_range).imp λ{a b} h=>.inr ⟨rfl,?_⟩
 show((a:Nat):Int)<(b:Int)
 omega
theorem WM:∀(rows:List (Int×Str)) (i:Nat),(bG i rows).Pairwise Np
 |[],_=>.nil
 |r::rows,i=>by
  rw[bG,List.pairwise_append];refine⟨ahH _ _,WM rows (i+1),λa ha b hb=>.inl ?_⟩;obtain⟨c,ch,rfl,_,_⟩:=Nj.mp ha;obtain⟨a2,c2,_,_,_,rfl,_,_⟩:=Gf.mp hb;show(i:Int)<((i+1+a2:Nat):Int)
  omega
abbrev eB:Type:=List (aC×List Bool)
def qt (a:aC):List Key:=[.inl a.1,.inl a.2]
theorem aaM (a:aC):uH (qt a)=aI a:=rfl
theorem apL {a b:aC}(h:qt a=qt b):a=b:=by
 unfold qt at h;have h1:=List.cons.inj h;have h2:=List.cons.inj h1.2;exact Prod.ext (Sum.inl.inj h1.1) (Sum.inl.inj h2.1)
def wO (ws:eB):List (List Key×D):=ws.map λp=>(qt p.1,.str (Dl p.2))
def Fv (ws:eB)(a:aC):Bool:=ws.any λp=>decide (p.1=a)
def jY (ws:eB)(a:aC):List Bool:=((ws.find? λp=>decide (p.1=a)).map (·.2)).getD []
theorem Vf {ws:eB}{a:aC}:Fv ws a=true↔a∈ws.map (·.1):=by
 unfold Fv;rw[List.any_eq_true,List.mem_map];constructor
 ·rintro⟨p,hp,e⟩;exact⟨p,hp,by simpa using e⟩
 ·rintro⟨p,hp,e⟩;exact⟨p,hp,by simpa using e⟩
theorem T7 {ws:eB}{a:aC}(h:a∈ws.map (·.1)):pY (wO ws) (qt a)=some (.str (Dl (jY ws a))):=by
 unfold pY wO jY;rw[List.find?_map];have e:((λp:List Key×D=>decide (p.1=qt a))∘λp:aC×List Bool=>(qt p.1,D.str (Dl p.2)))=λp=>decide (p.1=a):=by
  funext p
  show decide (qt p.1=qt a)=decide (p.1=a)
  by_cases e:p.1=a
  ·simp[e]
  ·have:¬qt p.1=qt a:=λz=>e (apL z)
   simp[e,this]
 rw[e];have hh:=Vf.mpr h;unfold Fv at hh;cases hf:ws.find? λp=>decide (p.1=a)with
 |none=>
  rw[List.find?_eq_none]at hf;rw[List.any_eq_true]at hh;obtain⟨p,hp,q⟩:=hh;exact absurd q (hf p hp)
 |some p=>rfl
theorem T8 (ws:eB):((wO ws).map λp=>uH p.1)=(ws.map (·.1)).map aI:=by
 unfold wO;rw[List.map_map,List.map_map];rfl
def ab6 (ws:eB)(ju:List aC):Prop:=(ws.map (·.1)).Perm ju/\ju.Pairwise Np
def al1 (rows:List (Int×Str))(i:Nat):Int:=((rows[i]?).map (·.1)).getD 0
section
variable{M N:List ak}{k n:Int}{rows:List (Int×Str)}{ws:eB}{ju:List aC}{w:Nat}{tt tp:bN}{a:aC}{t i:Nat}
structure Ji (ws:eB)(ju:List aC)(m:Nat):Prop where
 asc:ab6 ws ju
 len:∀p∈ws,p.2.length=m
 few:ws.length<=16
theorem Ji.jY {m:Nat}(h:Ji ws ju m)(ha:a∈ju):(jY ws a).length=m:=by
 have hm:a∈ws.map (·.1):=h.asc.1.mem_iff.mpr ha;unfold R.jY;have hh:=Vf.mpr hm;unfold Fv at hh;cases hf:ws.find? λp=>decide (p.1=a)with
 |none=>
  rw[List.find?_eq_none]at hf;rw[List.any_eq_true]at hh;obtain⟨p,hp,q⟩:=hh;exact absurd q (hf p hp)
 |some p=>exact h.len p (List.mem_of_find?_eq_some hf)
end
def Qo (k:Int)(rows:List (Int×Str))(i s:Nat):Nat:=((s:Int)*k+al1 rows i).toNat
section
variable{M N:List ak}{k n:Int}{rows:List (Int×Str)}{ws:eB}{ju L K:List aC}{w:Nat}{a:aC}{t i s m j:Nat}{X:af}{tl:bN}{kvs:List (List Key×D)}{kk:List Key}
theorem aj7 {b:Bool}(h:M[j]?=some (.dT (wM kvs))):Gu b M [.mu j]=some (d9 b M (kvs.map λp=>uH p.1)):=by
 unfold Gu;have e:K4 M (.mu j)=some (kvs.map (·.1)):=by
  simp only[K4,h];unfold wM;rw[List.map_map];rfl
 simp only[List.head?_cons,Option.bind_some,e,List.length_singleton,if_true];rw[List.map_map];rfl
theorem ahq (h:M[j]?=some (.dT (wM kvs))):Ce M (.mu j) (.dat (uH kk))=(pY kvs kk).map λd=>(.dat d,M):=by
 unfold Ce;rw[WB];simp only[TN,h,adU];cases pY kvs kk<;>rfl
structure yc (M:List ak)(X:af)(ws:eB):Prop where
 ls:Gu false M [X]=some (.dat (.lst ((ws.map (·.1)).map aI)),M)
 ix:∀a∈ws.map (·.1),Ce M X (.dat (aI a))=some (.dat (.str (Dl (jY ws a))),M)
 Oi:fB M X=X
 Oj:X≠.un
theorem yc.ev (h:yc M X ws):Bw (some X) M=.ret (.ok X M):=by
 have q:ah 0 [X] M=.ret (.ok X M):=qq rfl h.Oj h.Oi;rw[aaQ]at q;exact q
theorem yc.mu (h:M[j]?=some (.dT (wM (wO ws)))):yc M (.mu j) ws where
 ls:=by rw[aj7 h,T8];rfl
 ix:=λa ha=>by rw[<-aaM,ahq h,T7 ha];rfl
 Oi:=by simp only[fB,h]
 Oj:=by simp
theorem yc.dat:yc M (.dat (.dT (wO ws))) ws where
 ls:=by rw[aj6,T8];rfl
 ix:=λa ha=>by rw[<-aaM,ahp,T7 ha];rfl
 Oi:=rfl
 Oj:=by simp
end
section
variable{α:Type}{M N:List ak}{k n:Int}{rows:List (Int×Str)}{ws:eB}{ju L K:List aC}{w:Nat}{a:aC}{t i s m j:Nat}{X v:af}{ρ:List af}{gt:dX}{b:aN}{Qq Qv jM oF au7 au8:bN}{Fc IQ:aM}
def TF (Z:List aC)(a o:aC):Bool:=decide (o.1≠a.1)&&(decide (o.2≠a.2)&&(decide ((a.1,o.2)∈Z)&&(decide ((o.1,a.2)∈Z)&&decide (o∈Z))))
def yL (Z:List aC)(h w:Nat)(a:aC):List aC:=(List.range h).flatMap λi:Nat=>(List.range w).flatMap λc:Nat=>if TF Z a ((i:Int),(c:Int))then[((i:Int),(c:Int))]else[]
end
section
variable{M N:List ak}{k n:Int}{rows:List (Int×Str)}{ws:eB}{ju L K:List aC}{w:Nat}{a:aC}{t i s m j:Nat}{X v:af}{ds:List D}
theorem aaL:∀{ws:eB},(ws.map (·.1)).Nodup->∀p∈ws,jY ws p.1=p.2
 |[],_,p,hp=>by cases hp
 |q::ws,h,p,hp=>by
  rw[List.map_cons,List.nodup_cons]at h;unfold jY;rw[List.find?_cons];rcases List.mem_cons.mp hp with rfl|hp
  ·simp
  ·have ne:¬q.1=p.1:=λe=>h.1 (by rw[e];exact List.mem_map.mpr ⟨p,hp,rfl⟩)
   rw[decide_eq_false ne];exact aaL h.2 p hp
structure I9 (k:Int)(rows:List (Int×Str))(w:Nat)(n:Int)(ws:eB)(ju:List aC)(m:Nat):Prop where
 bH:dW k rows w
 hw:Ji ws ju m
 hm:m<=12
 Vv:(m:Int)=n*k
 hK:∀a∈ju,a∈bG 0 rows
 n1:1<=n
 n3:n<=3
theorem I9.m1 (h:I9 k rows w n ws ju m):1<=m:=by
 have k1:=h.bH.k1;have:=Int.mul_pos (show 0<n by have:=h.n1;omega) (show 0<k by omega);have:=h.Vv;omega
end
def akr:List D:=[.non,.bl true,.int 3,.str "",.str "a",.tup [],.tup [.int 0],.tup [.int 0,.int 0,.int 0],.lst [.int 0,.int 0],.tup [.int 0,.str "0"],.tup [.non,.int 0],.tup [.int 9,.int 0],.tup [.int 0,.int (-1)],.tup [.tup [.int 0,.int 0],.int 0],.tup [.bl true,.int 0]]
section
variable{M N:List ak}{k n:Int}{rows:List (Int×Str)}{ws:eB}{ju:List aC}{w c m:Nat}{Qq tk Qv tp aaq aah aar aai:bN}{IQ Q8 Fc bW:aM}{a:aC}{x:D}{fs:List (Str×D)}{ρ:List af}{fd cK arI:CE}{kvs:List (List Key×D)}{kk:List Key}{z:af}
inductive DA (rows:List (Int×Str))(ps:eB)(m:Nat):D->D->Nat->List (Str×D)->Prop
 |key {x y:D} (h:x∈akr):DA rows ps m x y 14 (WC x)
 |two {a:aC} {y:D} (h1:a∈bG 0 rows) (h:a∈ps.map (·.1)):DA rows ps m (aI a) y 14 (WC (aI a))
 |word {a:aC} {y:D} (h1:a∈bG 0 rows) (h2:a∉ps.map (·.1)) (h:∀M,gm ["str"] M (.dat y)=some (.dat (.bl false),M)):DA rows ps m (aI a) y 15 (aaK y)
 |str {a:aC} {z:Str} (h1:a∈bG 0 rows) (h2:a∉ps.map (·.1)) (h3:z.length<=1000) (h:ahg z 12=false\/z.length≠m):DA rows ps m (aI a) (.str z) 15 (aaK (.str z))
end
section
variable{M N:List ak}{k n k2 n2:Int}{rows CK:List (Int×Str)}{ws QH:eB}{ju Rl:List aC}{w c m:Nat}{Qq tk Qv tp aaq aah aar aai Ij Dd jM oF au9:bN}{IQ Q8 Fc bW Q9 Q5:aM}{a:aC}{x:D}{fs:List (Str×D)}{ρ:List af}{u v:List Bool}{s:Nat}
def rB (u v:List Bool):Bool:=(u.zip v).all λp=>!p.1||p.2
def JV (ws:eB)(ju:List aC):List aC:=ju.filter λa=>(jY ws a).any id
end
section
variable{M N:List ak}{k n k2 n2:Int}{rows CK:List (Int×Str)}{ws QH:eB}{ju Rl L:List aC}{w c m:Nat}{Ij tx Dd Qv Qq aaq aah aar aai:bN}{Q8 IQ bW:aM}{a:aC}{x:D}{fs:List (Str×D)}{ρ:List af}{u v:List Bool}{s:Nat}
abbrev pM (M:List ak)(L:List D):List ak:=M++[.lst (L.map .dat)]
theorem abr {L:List D}:(pM M L)[M.length]?=some (.lst (L.map .dat)):=by simp
end
section
variable{M:List ak}{k n:Int}{rows:List (Int×Str)}{ws QH:eB}{ju Z L aqt K K':List aC}{w m:Nat}{a b:aC}{t i s:Nat}{u v:List Bool}
theorem ail (u:List Bool):rB u u=true:=by
 unfold rB;induction u with
 |nil=>rfl
 |cons c u ih=>rw[List.zip_cons_cons,List.all_cons,ih];cases c<;>rfl
theorem map_fst {f:aC->List Bool}:(Z.map λb=>(b,f b)).map (·.1)=Z:=by
 induction Z with
 |nil=>rfl
 |cons z Z ih=>rw[List.map_cons,List.map_cons,ih]
end
section
variable{M:List ak}{b h m n j t:Nat}{k:Int}{rows:List (Int×Str)}{w:Nat}{ws:eB}{ju:List aC}{a:aC}{v:List Bool}
def Ir (ws:eB)(a:aC)(v:List Bool):eB:=ws.map λp=>if p.1=a then(p.1,v)else p
theorem ape:(Ir ws a v).map (·.1)=ws.map (·.1):=by
 unfold Ir;rw[List.map_map];refine List.map_congr_left λp _=>?_
 show(if p.1=a then(p.1,v)else p).1=p.1
 split<;>rfl
abbrev cU:Type:=List (aC×Nat)
end
section
variable{M:List ak}{b h j k:Nat}{c s:Bool}{w:List Bool}{d:D}
abbrev aqe:Type:=Int×Bool
end
section
variable{M:List ak}{k n k2 n2:Int}{rows CK:List (Int×Str)}{ws QH:eB}{ju Rl L Z:List aC}{a:aC}{w bK m:Nat}
theorem aeC {α:Type}{S:List α}{Z:List α}{p:α->Bool}(h:S.Sublist Z)(hn:Z.Nodup)(hp:∀a∈Z,p a=true->a∈S):S.filter p=Z.filter p:=by
 induction h with
 |slnil=>rfl
 | @cons l₁ l₂ z hs ih=>
  rw[List.nodup_cons]at hn;have:p z=false:=by
   cases e:p z with
   |false=>rfl
   |true=>exact absurd (hs.subset (hp z List.mem_cons_self e)) hn.1
  rw[ih hn.2 λa ha Mh=>hp a (List.mem_cons_of_mem _ ha) Mh,List.filter_cons_of_neg (by rw[this];simp)]
 | @cons_cons l₁ l₂ z hs ih=>
  rw[List.nodup_cons]at hn;have ih:=ih hn.2 λa ha Mh=>by
   rcases List.mem_cons.mp (hp a (List.mem_cons_of_mem _ ha) Mh)with rfl|h
   ·exact absurd ha hn.1
   ·exact h
  rw[List.filter_cons,List.filter_cons,ih]
structure Handed (ws hw:eB)(Z S:List aC)(m:Nat):Prop where
 sub:S.Sublist Z
 ajN:∀a∈Z,(jY ws a).any id=true->a∈S
 perm:hw.Perm (S.map λa=>(a,jY ws a))
section
variable{hw:eB}{S:List aC}
theorem Handed.keys (H:Handed ws hw Z S m):(hw.map (·.1)).Perm S:=by
 have:=H.perm.map (·.1);rw[map_fst (f:=λa=>jY ws a)]at this;exact this
theorem Handed.nd (H:Handed ws hw Z S m)(hn:Z.Nodup):(hw.map (·.1)).Nodup:=H.keys.nodup_iff.mpr (hn.sublist H.sub)
theorem Handed.jY (H:Handed ws hw Z S m)(hn:Z.Nodup)(ha:a∈S):R.jY hw a=R.jY ws a:=by
 have hm:(a,R.jY ws a)∈hw:=H.perm.mem_iff.mpr (List.mem_map.mpr ⟨a,ha,rfl⟩);exact aaL (H.nd hn) _ hm
theorem Handed.any (H:Handed ws hw Z S m)(hn:Z.Nodup):JV hw S=JV ws Z:=by
 unfold JV;rw[<-aeC H.sub hn H.ajN];exact List.filter_congr λa ha=>by rw[H.jY hn ha]
end
end
abbrev jl:Type:=List Bool
section
variable{b h n:Nat}{u v w:jl}
theorem Xv {c d:Bool}:rB (c::u) (d::v)=((!c||d)&&rB u v):=rfl
theorem Xw {c d:Bool}:∀{u v:jl},u.length=v.length->rB (u++[c]) (v++[d])=(rB u v&&(!c||d))
 |[],[],_=>by simp[rB]
 |[],_::_,h=>by simp at h
 |_::_,[],h=>by simp at h
 |x::u,y::v,h=>by
  rw[List.cons_append,List.cons_append,Xv,Xv,Xw (by simpa using h),Bool.and_assoc]
def abx (P:jl->Prop)(w:jl):Prop:=P w/\∀v,P v->rB v w=true->v=w
structure yh (L:List jl)(P:jl->Prop):Prop where
 mem:∀w,w∈L↔abx P w
 nd:L.Nodup
theorem yh.congr {L:List jl}{P Q:jl->Prop}(H:yh L P)(e:∀w,P w↔Q w):yh L Q:=by
 have:P=Q:=funext λw=>propext (e w)
 rw[<-this];exact H
variable{T:Nat->Prop}{s t:Sg}
def jw (b h:Nat)(R:Sg->List jl)(ok:Bool->Prop)(t:Sg)(w:jl):Prop:=∃u c s,w=u++[c]/\u∈R s/\JS b s c=true/\t∈Xq h s/\ok c
end
end R
namespace R
open PySem PySem.Spec PyProof.Rows L2
variable[aT]
section
open StrLaws Builtin.Str
end
end R
namespace R
open PySem PySem.Spec PyProof.Rows L2
variable[aT]
def aok (w:jl):D:=.str (Dl w)
abbrev yx:Type:=List (Sg×List jl)
def Lf (r:yx):List (List Key×D):=r.map λp=>(anB p.1,.lst (p.2.map aok))
def af5 (r:yx)(s:Sg):List jl:=((r.find? λp=>decide (p.1=s)).map (·.2)).getD []
section
variable{r:yx}{s t:Sg}{L:List jl}{b h n:Nat}
structure AH (h:Nat)(r:yx)(P:Sg->jl->Prop):Prop where
 ajE:∀s,yh (af5 r s) (P s)
 nd:(r.map (·.1)).Nodup
 lt:∀s∈r.map (·.1),s.2<h
theorem AH.len {P:Sg->jl->Prop}(H:AH h r P):r.length<=2*h:=by
 have q:=ajd (h:=h) (l:=r.map λp=>(p.1,none)) ⟨by rw[List.map_map];exact H.nd,λp hp=>by
  obtain⟨x,hx,rfl⟩:=List.mem_map.mp hp;exact H.lt x.1 (List.mem_map.mpr ⟨x,hx,rfl⟩)⟩
 rwa[List.length_map]at q
theorem AH.congr {P Q:Sg->jl->Prop}(H:AH h r P)(e:∀s w,P s w↔Q s w):AH h r Q:=⟨λs=>(H.ajE s).congr (e s),H.nd,H.lt⟩
theorem Nz:∀(n:Nat) (L:List jl),L.Nodup->(∀w∈L,w.length=n)->L.length<=2^n
 |0,L,nd,hl=>by
  cases L with
  |nil=>simp
  |cons a L=>
   cases L with
   |nil=>simp
   |cons c L=>
    have h1:=List.length_eq_zero_iff.mp (hl a (by simp));have h2:=List.length_eq_zero_iff.mp (hl c (by simp));rw[h1,h2]at nd;simp at nd
 |n+1,L,nd,hl=>by
  have part:∀c:Bool,(L.filter λw=>w.head?==some c).length<=2^n:=λc=>by
   have hh:∀w∈L.filter (λw=>w.head?==some c),w=c::w.tail/\w.tail.length=n:=λw hw=>by
    obtain⟨q1,q2⟩:=List.mem_filter.mp hw;have hl1:=hl w q1;cases w with
    |nil=>simp at hl1
    |cons x w=>
     have:x=c:=by simpa using q2
     subst this;exact⟨rfl,by simpa using hl1⟩
   have Of:((L.filter λw=>w.head?==some c).map List.tail).Nodup:=by
    rw[List.Nodup,List.pairwise_map];refine List.Pairwise.imp_of_mem (λ{a b} ha hb hab=>?_) (nd.filter _);intro e;exact hab (by rw[(hh a ha).1,(hh b hb).1,e])
   have:=Nz n _ Of λw hw=>by
    obtain⟨v,hv,rfl⟩:=List.mem_map.mp hw;exact(hh v hv).2
   rwa[List.length_map]at this
  have sp:∀K:List jl,(∀w∈K,w.length=n+1)->K.length=(K.filter λw=>w.head?==some true).length+(K.filter λw=>w.head?==some false).length:=by
   intro K;induction K with
   |nil=>intro _;rfl
   |cons w K ih=>
    intro hK;have ih:=ih λv hv=>hK v (List.mem_cons_of_mem _ hv)
    have hw:=hK w List.mem_cons_self;cases w with
    |nil=>simp at hw
    |cons x w=>
     rw[List.filter_cons,List.filter_cons,List.length_cons,ih];cases x<;>simp<;>omega
  have h1:=part true;have h2:=part false;rw[sp L hl,Nat.pow_succ];omega
theorem yh.len {P:jl->Prop}{L:List jl}(H:yh L P)(hP:∀w,P w->w.length=n)(hn:n<=12):L.length<=2048:=by
 have hl:∀w∈L,w.length=n:=λw hw=>hP w ((H.mem w).mp hw).1
 cases n with
 |zero=>have:=Nz 0 L H.nd hl;omega
 |succ n=>
  have hs:∀w∈L,∃c,w=w.dropLast++[c]:=λw hw=>by
   have:w≠[]:=λe=>by have:=hl w hw;rw[e]at this;simp at this
   exact⟨w.getLast this,(List.dropLast_concat_getLast this).symm⟩
  have Of:(L.map List.dropLast).Nodup:=by
   rw[List.Nodup,List.pairwise_map];refine List.Pairwise.imp_of_mem (λ{a b} ha hb hab=>?_) H.nd;intro e;obtain⟨c,vf⟩:=hs a ha;obtain⟨d,ed⟩:=hs b hb;have ma:=(H.mem a).mp ha;have Cs:=(H.mem b).mp hb;have l1:∀c d:Bool,rB (b.dropLast++[c]) (b.dropLast++[d])=(!c||d):=λc d=>by rw[Xw rfl,ail,Bool.true_and]
   have tZ:rB a b=(!c||d):=by
    conv=>lhs;rw[vf,ed,e]
    exact l1 c d
   have ba:rB b a=(!d||c):=by
    conv=>lhs;rw[vf,ed,e]
    exact l1 d c
   cases c with
   |false=>
    have:=Cs.2 a ma.1 (by rw[tZ];rfl);exact hab this
   |true=>
    have:=ma.2 b Cs.1 (by rw[ba];cases d<;>rfl);exact hab this.symm
  have q:=Nz n _ Of λw hw=>by
   obtain⟨v,hv,rfl⟩:=List.mem_map.mp hw;rw[List.length_dropLast,hl v hv];rfl
  rw[List.length_map]at q;have:2^n<=2^11:=Nat.pow_le_pow_right (by omega) (by omega);omega
end
section
variable{M N:List ak}{abc abd aql:aM}{b h n:Nat}{TD:D}{Sn s3 s5:af}{acf:Str}{S:List jl}{r nC:yx}{P:Sg->jl->Prop}{len:Int}
def R9 (M:List ak)(X:af)(r:yx):Prop:=X=.dat (.dT (Lf r))\/∃i,X=.mu i/\M[i]?=some (.fz (some (.dT (Lf r))))
theorem R9.ev (h:R9 M Sn r){ρ:List af}(e:ρ[4]?=some Sn)(m:ak):ah 4 ρ (M++[m])=.ret (.ok (.dat (.dT (Lf r))) (M++[m])):=by
 rcases h with rfl|⟨i,rfl,hi⟩
 ·exact qq e (by simp) rfl
 ·rw[aaQ,e,aea,aaW,List.getElem?_append_left (List.getElem?_eq_some_iff.mp hi).1,hi,akf]
end
end R
namespace R
open PySem PySem.Spec PyProof.Rows L2
variable[aT]
section
open Builtin Builtin.Str
end
end R
namespace R
open PySem PySem.Spec PyProof.Rows L2
variable[aT]
def isT:aN:=(fJ [2,3] (aL (bL 3 (ae9 ao1 (ah 2) (λ_=>ok (.dat (.str " ")))))
  (aL (dj (tOr (bz (ao (cmp .NotEq) (bu (b_ []) (ai (ah 3) av)) (λ_=>ok (.dat (.int 2))))) (tOr (bz (ao (cmp .NotIn) (ao aO (ah 3) (λ_=>ok (.dat (.int 1)))) (dg (ai (λ_=>ok (.dat (.str "down"))) (ai (λ_=>ok (.dat (.str "up"))) (ai (λ_=>ok (.dat (.str "keep"))) av)))))) (bz (ao (cmp .NotEq) (bu (b_ []) (ai (ao aO (ah 3) (λ_=>ok (.dat (.int 0)))) av)) (bu (pu ah6) (ai (ao aO (ah 0) (λ_=>ok (.dat (.int 0)))) av)))))) (bT (λ_=>ok (.dat (.bl false)))) dR)
  (dj (tNot (bz (bu (pu (qI true)) (ai (cV false [4] (cF (ao aO (ah 3) (λ_=>ok (.dat (.int 0))))) (br 4) fc (ao (cmp .In) (ah 4) (λ_=>ok (.dat (.str "012?"))))) av)))) (bT (λ_=>ok (.dat (.bl false)))) dR))))
end R
namespace R
open PySem PySem.Spec PyProof.Rows L2
variable[aT]
section
open Builtin Builtin.Str
end
end R
namespace R
open PySem PySem.Spec PyProof.Rows L2
variable[aT]
end R
namespace R
open PySem PySem.Spec PyProof.Rows L2
variable[aT]
section
open Builtin Builtin.Str
end
end R
namespace R
open PySem PySem.Spec PyProof.Rows L2
variable[aT]
section
variable{M:List ak}{t:bN}{z s:Str}{W:List Str}{wm wh:List D}{m:Nat}
abbrev qk (s:Str)(wm wh:List D):List af:=[.dat (.str s),.dat (.lst wm),.dat (.lst wh),.un,.un,.un,.un,.un,.un,.un]
abbrev HA (s:Str)(wm wh dD:List D):List af:=[.dat (.str s),.dat (.lst wm),.dat (.lst wh),.un,.dat (.lst dD),.un,.un,.un,.un,.un]
end
section
variable{M:List ak}{t:bN}{z s:Str}{W:List Str}{wm wh dD:List D}{m:Nat}
abbrev Zo (s:Str)(wm wh dD acg:List D):List af:=[.dat (.str s),.dat (.lst wm),.dat (.lst wh),.un,.dat (.lst dD),.un,.un,.dat (.lst acg),.un,.un]
end
end R
namespace R
open PySem PySem.Spec PyProof.Rows L2
abbrev yo:Type:=aC×Nat
def vv (q:yo):aQ:=.t [.t [.i q.1.1,.i q.1.2],.i (q.2:Int)]
def Cm (L:cU):aQ:=.t (L.map vv)
def Ze (L:cU):aQ:=.t [.i (L.length:Int),Cm L]
def vU:aQ->yo
 | .t [.t [.i a,.i b],.i c]=>((a,b),c.toNat)
 |_=>((0,0),0)
def Df:aQ->cU
 | .t ts=>ts.map vU
 |_=>[]
def aaw:aQ->cU
 | .t [_,x]=>Df x
 |_=>[]
theorem Qy (q:yo):vU (vv q)=q:=by
 obtain⟨⟨a,b⟩,c⟩:=q;show((a,b),((c:Nat):Int).toNat)=_
 rw[Int.toNat_natCast]
theorem aav (L:cU):Df (Cm L)=L:=by
 show(L.map vv).map vU=L
 rw[List.map_map,show vU∘vv=id from funext Qy,List.map_id]
theorem apb (L:cU):aaw (Ze L)=L:=aav L
section
variable[aT]
theorem ao6 {α:Type}{f:α->aQ}{l:List α}:∀t∈mF (sG (l.map f)),∃a∈l,t=f a:=λt ht=>by
 have:=NQ.mp ((nP _).mem_iff.mp ht);obtain⟨a,h1,h2⟩:=List.mem_map.mp this;exact⟨a,h1,h2.symm⟩
theorem X3 {α:Type}{f:α->aQ}{g:aQ->α}(hg:∀a,g (f a)=a){l:List α}{a:α}:a∈(mF (sG (l.map f))).map g↔a∈l:=by
 rw[List.mem_map];constructor
 ·rintro⟨t,h1,h2⟩
  obtain⟨b,hb,rfl⟩:=ao6 t h1;rw[hg]at h2;rw[<-h2];exact hb
 ·exactλh=>⟨f a,(nP _).mem_iff.mpr (NQ.mpr (List.mem_map.mpr ⟨a,h,rfl⟩)),hg a⟩
theorem EN:∀ts:List aQ,(sG ts).length<=ts.length
 |[]=>Nat.le_refl _
 |t::ts=>by
  unfold sG;split
  ·exact Nat.le_succ_of_le (EN ts)
  ·exact Nat.succ_le_succ (EN ts)
def CQ (L:cU):cU:=(mF (sG (L.map vv))).map vU
theorem aju {q:yo}{L:cU}:q∈CQ L↔q∈L:=X3 Qy
theorem alT (L:cU):(CQ L).length<=L.length:=by
 unfold CQ;rw[List.length_map,(nP _).length_eq];exact Nat.le_trans (EN _) (by rw[List.length_map];exact Nat.le_refl _)
def CT (iu:List cU):List cU:=(mF (sG (iu.map Ze))).map aaw
theorem ajv {L:cU}{iu:List cU}:L∈CT iu↔L∈iu:=X3 apb
theorem alU (iu:List cU):(CT iu).length<=iu.length:=by
 unfold CT;rw[List.length_map,(nP _).length_eq];exact Nat.le_trans (EN _) (by rw[List.length_map];exact Nat.le_refl _)
def iO (iu:List cU):List cU:=(mF (iu.map Cm)).map Df
theorem ZT (iu:List cU):(iO iu).Perm iu:=by
 have h:=(nP (iu.map Cm)).map Df;rw[List.map_map,show Df∘Cm=id from funext aav,List.map_id]at h;exact h
def OX (L:cU):cU:=(mF (L.map vv)).map vU
theorem ZV (L:cU):(OX L).Perm L:=by
 have h:=(nP (L.map vv)).map vU;rw[List.map_map,show vU∘vv=id from funext Qy,List.map_id]at h;exact h
end
def VX (r l:cU):Bool:=r.all λq=>decide (q∈l)
def Cp:List cU->List cU->List cU
 |[],acc=>acc
 |l::ls,acc=>Cp ls (if acc.any (λr=>VX r l)then acc else acc++[l])
theorem XR:∀(ls acc:List cU),∀r∈Cp ls acc,r∈acc\/r∈ls
 |[],_,_,h=>.inl h
 |l::ls,acc,r,h=>by
  rcases XR ls _ r h with z|z
  ·split at z
   ·exact .inl z
   ·rcases List.mem_append.mp z with y|y
    ·exact .inl y
    ·exact .inr (by rw[List.mem_singleton.mp y];exact List.mem_cons_self)
  ·exact .inr (List.mem_cons_of_mem _ z)
theorem XQ:∀(ls acc:List cU),(Cp ls acc).length<=acc.length+ls.length
 |[],acc=>Nat.le_refl _
 |l::ls,acc=>by
  have:=XQ ls (if acc.any (λr=>VX r l)then acc else acc++[l]);show(Cp ls _).length<=_
  rw[List.length_cons];split at this
  ·rename_i c;rw[if_pos c];omega
  ·rename_i c;rw[if_neg c];simp at this;omega
section
variable[aT]
def sW (iu:List cU):List cU:=iO (Cp (CT iu) [])
theorem Gp {iu:List cU}{l:cU}(h:l∈sW iu):l∈iu:=by
 rcases XR _ _ _ ((ZT _).mem_iff.mp h)with z|z
 ·cases z
 ·exact ajv.mp z
theorem aim (iu:List cU):(sW iu).length<=iu.length:=by
 unfold sW;rw[(ZT _).length_eq];have:=XQ (CT iu) [];have:=alU iu;simp only[List.length_nil]at *;omega
def rq (A B:List cU):List cU:=A.flatMap λa=>B.map λb=>CQ (a++b)
theorem XZ {A B:List cU}{l:cU}:l∈rq A B↔∃a∈A,∃b∈B,l=CQ (a++b):=by
 unfold rq;rw[List.mem_flatMap];constructor
 ·rintro⟨a,ha,h⟩
  obtain⟨b,hb,e⟩:=List.mem_map.mp h;exact⟨a,ha,b,hb,e.symm⟩
 ·rintro⟨a,ha,b,hb,e⟩
  exact⟨a,ha,List.mem_map.mpr ⟨b,hb,e.symm⟩⟩
theorem ahv (A B:List cU):(rq A B).length=A.length*B.length:=by
 unfold rq;induction A with
 |nil=>simp
 |cons a A ih=>rw[List.flatMap_cons,List.length_append,ih,List.length_map,List.length_cons,Nat.succ_mul];omega
def prodF (lists:List (List cU)):List cU:=lists.foldl (λf s=>sW (rq f s)) [[]]
theorem Zh:∀(lists:List (List cU)) (A:List cU),(lists.foldl (λf s=>sW (rq f s)) A).length<=lists.foldl (λn s=>n*s.length) A.length
 |[],A=>Nat.le_refl _
 |s::lists,A=>by
  rw[List.foldl_cons,List.foldl_cons];refine Nat.le_trans (Zh lists _) ?_;have mono:∀(ls:List (List cU)) (x y:Nat),x<=y->ls.foldl (λn s=>n*s.length) x<=ls.foldl (λn s=>n*s.length) y:=by
   intro ls;induction ls with
   |nil=>exactλ_ _ h=>h
   |cons l ls ih=>exactλx y h=>ih _ _ (Nat.mul_le_mul_right _ h)
  exact mono _ _ _ (Nat.le_trans (aim _) (by rw[ahv];exact Nat.le_refl _))
end
end R
namespace R
open PySem PySem.Spec PyProof.Rows L2
variable[aT]
section
variable{M N:List ak}{ρ:List af}{A B:List cU}{k:Int}{rows:List (Int×Str)}{w:Nat}{a:aC}
def OP (t:Nat)(r:List aC):cU:=OX (r.map λx=>(x,t))
theorem Zt {t:Nat}{r:List aC}:(OP t r).length=r.length:=by
 unfold OP;rw[(ZV _).length_eq,List.length_map]
def Ou (rows:List (Int×Str))(a:aC)(t:Nat):List cU:=(HG rows a.1 a.2).map (OP t)
def kj (n:Nat)(iu:List cU):Prop:=∀L∈iu,L.length<=n
theorem kj.ahu {m n:Nat}(h1:kj m A)(h2:kj n B):kj (m+n) (rq A B):=λL hL=>by
 obtain⟨x,hx,y,hy,rfl⟩:=XZ.mp hL;have:=alT (x++y);have:=h1 x hx;have:=h2 y hy;rw[List.length_append]at *;omega
theorem kj.least {n:Nat}(h:kj n A):kj n (sW A):=λL hL=>h L (Gp hL)
theorem kj.mono {m n:Nat}(h:kj m A)(l:m<=n):kj n A:=λL hL=>Nat.le_trans (h L hL) l
end
section
variable{M N:List ak}{ρ:List af}{A B:List cU}{k:Int}{rows:List (Int×Str)}{w s:Nat}{a o:aC}{F:CE}{c:Nat}
def ow (k:Int)(rows:List (Int×Str))(s:Nat)(o:aC):List cU:=Ou rows o (Qo k rows o.1.toNat s)
def Bo (k:Int)(rows:List (Int×Str))(s:Nat)(a o:aC):List cU:=prodF [ow k rows s a,ow k rows s (a.1,o.2),ow k rows s (o.1,a.2),ow k rows s o]
def DW (k:Int)(rows:List (Int×Str))(w s:Nat)(a:aC):List cU:=(yL (bG 0 rows) rows.length w a).flatMap (Bo k rows s a)
structure uO (rows:List (Int×Str))(w:Nat):Prop where
 r2:∀o∈bG 0 rows,(HG rows o.1 o.2).length<=2
 ql:∀o∈bG 0 rows,∀r∈HG rows o.1 o.2,r≠[]/\r.length<=5
 c3:∀o∈bG 0 rows,(yL (bG 0 rows) rows.length w o).length<=3
theorem uO.own (h:uO rows w)(ho:o∈bG 0 rows):kj 5 (ow k rows s o)/\[]∉ow k rows s o/\(ow k rows s o).length<=2:=by
 unfold ow Ou;refine⟨λL hL=>?_,λz=>?_,by rw[List.length_map];exact h.r2 o ho⟩
 ·obtain⟨r,hr,rfl⟩:=List.mem_map.mp hL
  rw[Zt];exact(h.ql o ho r hr).2
 ·obtain⟨r,hr,e⟩:=List.mem_map.mp z
  have:=Zt (t:=Qo k rows o.1.toNat s) (r:=r);rw[e]at this;exact(h.ql o ho r hr).1 (List.length_eq_zero_iff.mp this.symm)
theorem kj.prod {n:Nat}:∀(lists:List (List cU)) (A:List cU) (m:Nat),kj m A->(∀B∈lists,kj n B)->kj (m+lists.length*n) (lists.foldl (λf s=>sW (rq f s)) A)
 |[],A,m,h,_=>by simpa using h
 |B::lists,A,m,h,hB=>by
  have:=kj.prod lists (sW (rq A B)) (m+n) (h.ahu (hB B List.mem_cons_self)).least λC hC=>hB C (List.mem_cons_of_mem _ hC)
  rw[List.length_cons,Nat.succ_mul,show m+(lists.length*n+n)=m+n+lists.length*n by omega];exact this
theorem Yz {A B:List cU}(h:[]∉A\/[]∉B):[]∉rq A B:=λz=>by
 obtain⟨x,hx,y,hy,e⟩:=XZ.mp z;have sub:∀q,q∈x++y->False:=λq hq=>by
  have:=aju.mpr hq;rw[<-e]at this;cases this
 have xe:x=[]:=List.eq_nil_iff_forall_not_mem.mpr λq hq=>sub q (List.mem_append_left _ hq)
 have aq7:y=[]:=List.eq_nil_iff_forall_not_mem.mpr λq hq=>sub q (List.mem_append_right _ hq)
 rcases h with h|h
 ·exact h (xe▸hx)
 ·exact h (aq7▸hy)
theorem Yy:∀(lists:List (List cU)) (A:List cU),[]∉A->[]∉lists.foldl (λf s=>sW (rq f s)) A
 |[],_,h=>h
 |B::lists,A,h=>Yy lists _ λz=>Yz (.inl h) (Gp z)
theorem adO (h:o∈yL (bG 0 rows) rows.length w a):(a.1,o.2)∈bG 0 rows/\(o.1,a.2)∈bG 0 rows/\o∈bG 0 rows:=by
 unfold yL at h;obtain⟨i,_,h⟩:=List.mem_flatMap.mp h;obtain⟨c,_,h⟩:=List.mem_flatMap.mp h;split at h
 ·rename_i e
  rw[List.mem_singleton]at h;subst h;unfold TF at e;simp only[Bool.and_eq_true,decide_eq_true_eq]at e;exact e.2.2
 ·cases h
theorem uO.EH (h:uO rows w)(ha:a∈bG 0 rows)(ho:o∈yL (bG 0 rows) rows.length w a):kj 20 (Bo k rows s a o)/\[]∉Bo k rows s a o/\(Bo k rows s a o).length<=16:=by
 obtain⟨h1,h2,h3⟩:=adO ho;have a1:=h.own (k:=k) (s:=s) ha;have a2:=h.own (k:=k) (s:=s) h1;have a3:=h.own (k:=k) (s:=s) h2;have a4:=h.own (k:=k) (s:=s) h3;unfold Bo;generalize ow k rows s a=fO at *;generalize ow k rows s (a.1,o.2)=L2 at *;generalize ow k rows s (o.1,a.2)=DK at *;generalize ow k rows s o=IZ at *;refine⟨?_,?_,?_⟩
 ·refine(kj.prod (n:=5) [fO,L2,DK,IZ] [[]] 0 (λL hL=>by rw[List.mem_singleton.mp hL];exact Nat.le_refl _) λB hB=>?_)
  simp only[List.mem_cons,List.not_mem_nil,or_false]at hB;rcases hB with rfl|rfl|rfl|rfl
  ·exact a1.1
  ·exact a2.1
  ·exact a3.1
  ·exact a4.1
 ·unfold prodF
  rw[List.foldl_cons];exact Yy _ _ λz=>Yz (.inr a1.2.1) (Gp z)
 ·have:=Zh [fO,L2,DK,IZ] [[]]
  unfold prodF;simp only[List.foldl_cons,List.foldl_nil,List.length_cons,List.length_nil]at this⊢;have Nq:(0+1)*fO.length*L2.length<=4:=Nat.le_trans (Nat.mul_le_mul (show(0+1)*fO.length<=2 by have:=a1.2.2;omega) a2.2.2) (by omega);have at4:(0+1)*fO.length*L2.length*DK.length*IZ.length<=16:=Nat.le_trans (Nat.mul_le_mul (Nat.mul_le_mul Nq a3.2.2) a4.2.2) (by omega);omega
theorem Uu {α β:Type}{f:α->List β}{n:Nat}:∀{l:List α},(∀x∈l,(f x).length<=n)->(l.flatMap f).length<=l.length*n
 |[],_=>by simp
 |x::l,h=>by
  have:=Uu (l:=l) λy hy=>h y (List.mem_cons_of_mem _ hy)
  have:=h x List.mem_cons_self;rw[List.flatMap_cons,List.length_append,List.length_cons,Nat.succ_mul];omega
theorem uO.all (h:uO rows w)(ha:a∈bG 0 rows):kj 20 (DW k rows w s a)/\[]∉DW k rows w s a/\(DW k rows w s a).length<=48:=by
 unfold DW;refine⟨λL hL=>?_,λz=>?_,?_⟩
 ·obtain⟨o,ho,hL⟩:=List.mem_flatMap.mp hL
  exact(h.EH ha ho).1 L hL
 ·obtain⟨o,ho,hL⟩:=List.mem_flatMap.mp z
  exact(h.EH ha ho).2.1 hL
 ·exact Nat.le_trans (Uu λo ho=>(h.EH ha ho).2.2) (by have:=h.c3 a ha;omega)
end
section
variable{A B:List cU}{k:Int}{rows:List (Int×Str)}{w s n:Nat}{a o:aC}{ls:List Nat}{ws:eB}{P:yo->Prop}
def An (P:yo->Prop)(iu:List cU):Prop:=∀L∈iu,∀q∈L,P q
theorem An.least (h:An P A):An P (sW A):=λL hL=>h L (Gp hL)
theorem An.nil:An P [[]]:=λL hL q hq=>by rw[List.mem_singleton.mp hL]at hq;cases hq
end
abbrev aqa:Type:=List (aC×List Nat)
section
variable{M N:List ak}{ρ:List af}{dM:Nat}{fs:List (Str×af)}{k:Int}{rows:List (Int×Str)}{o:Str}{a0:aC}{looks now:List Nat}{ws:eB}{t:bN}{Q5 bW aqp:aM}{f:eB->List Nat}{pl:eB->D}
def TG (good:eB->Prop):List (aC×List (List Bool))->eB->Prop
 |[],ws=>good ws
 |(a,wl)::rest,ws=>good ws/\wl.length<=100000/\∀w∈wl,TG good rest (ws++[(a,w)])
end
end R
namespace R
open PySem PySem.Spec PyProof.Rows L2
end R
namespace R
open PySem PySem.Spec PyProof.Rows L2
variable[aT]
def qD (b h l:Nat)(rows:List (Int×Str))(U:eB):Prop:=U.map (·.1)=bG 0 rows/\∀q∈U,q.2.length=l/\JU b h q.2=true
section
variable{b h l p m:Nat}{k:Int}{rows:List (Int×Str)}{w:Nat}{o:Str}{a a0:aC}{looks:List Nat}{L:cU}{v ws U:eB}{f:eB->List Nat}
theorem apK (hn:a∈ws.map (·.1)):(a,jY ws a)∈ws:=by
 unfold jY;obtain⟨q,hq,e⟩:=List.mem_map.mp hn;cases hf:ws.find? (λp=>decide (p.1=a))with
 |none=>
  rw[List.find?_eq_none]at hf;exact absurd (by simpa using e) (hf q hq)
 |some p=>
  have h1:=List.mem_of_find?_eq_some hf;have h2:=List.find?_some hf;have h3:p.1=a:=by simpa using h2
  show(a,p.2)∈ws
  rw[<-h3];exact h1
end
section
variable{b h l p:Nat}{k:Int}{rows:List (Int×Str)}{w:Nat}{a a0:aC}{o:Str}{U:eB}{v:List Bool}{M:List ak}{ls:List Nat}
theorem qD.upd (hU:qD b h l rows U)(hv:v.length=l)(ha:JU b h v=true):qD b h l rows (Ir U a v):=⟨by rw[ape];exact hU.1,λq hq=>by
 unfold Ir at hq;obtain⟨p,hp,rfl⟩:=List.mem_map.mp hq;split
 ·exact⟨hv,ha⟩
 ·exact hU.2 p hp⟩
theorem qD.ah0 (hU:qD b h l rows U)(ha:a∈bG 0 rows):a∈U.map (·.1):=by rw[hU.1];exact ha
theorem qD.len (hU:qD b h l rows U)(ha:a∈bG 0 rows):(jY U a).length=l/\JU b h (jY U a)=true:=hU.2 _ (apK (hU.ah0 ha))
theorem qD.few (hU:qD b h l rows U)(hz:(bG 0 rows).length<=16):U.length<=16:=by
 have:=congrArg List.length hU.1;rw[List.length_map]at this;omega
theorem qD.hh (hU:qD b h l rows U)(bH:dW k rows w)(hz:(bG 0 rows).length<=16)(hm:l<=12)(hl:(l:Int)=(p:Int)*k)(fH:1<=p)(gJ:p<=3):I9 k rows w (p:Int) U (bG 0 rows) l where
 bH:=bH
 hw:=⟨⟨by rw[hU.1],WM rows 0⟩,λq hq=>(hU.2 q hq).1,hU.few hz⟩
 hm:=hm
 Vv:=hl
 hK:=λa ha=>ha
 n1:=by omega
 n3:=by omega
end
end R
namespace R
class LT where
 oF:R.bN
 ap7:R.bN
 tl:R.bN
 tr:R.bN
end R
namespace ace
open PySem PySem.Spec PyProof.Rows L2 R
variable[aT][iL:LT]
end ace
namespace R
open PySem PySem.Spec PyProof.Rows L2
variable[aT]
structure Flat (rows:List (Int×Str))(w:Nat):Prop where
 road:∀a∈bG 0 rows,HG rows a.1 a.2=[[a]]
 EH:∀a∈bG 0 rows,yL (bG 0 rows) rows.length w a=[]
 line:∀a∈bG 0 rows,∀c∈bG 0 rows,a.1=c.1\/a.2=c.2
section
variable{b h l p m:Nat}{k:Int}{rows:List (Int×Str)}{w:Nat}{a:aC}{U:eB}{ls:List Nat}
theorem Flat.own (F:Flat rows w)(ha:a∈bG 0 rows)(s:Nat):ow k rows s a=[[(a,Qo k rows a.1.toNat s)]]:=by
 unfold ow Ou;rw[F.road a ha,List.map_singleton];show[OX ([a].map λx=>(x,_))]=_
 rw[List.map_singleton,List.perm_singleton.mp (ZV _)]
end
section
variable{M:List ak}{Fk Q9 aqn aqk:aM}{dD aqy:D}{b h l p:Nat}{k:Int}{rows:List (Int×Str)}{v:eB}{tl:bN}{w:Nat}
abbrev ae0 (M:List ak)(us:eB):List ak:=M++[.dT (wM (wO us))]
end
section
variable{M:List ak}{ρ aY:List af}{m:Bool}{f:CE}
@[simp]theorem auy:ve m f ρ M=(f ρ M).bind (aX (Dw m)):=id rfl
@[simp]theorem auW {L:List D}:Dw false (.dat (.lst L)) M=.ret (.ok (.dat (.lst L)) M):=id rfl
end
abbrev sd:List (Str×List Str):=[("drop",["down","up"]),("feint",["up","down"])]
structure yb (B:List ak):Prop where
 cl:Cl B
 hd:B[1]?=some .hand
section
variable{B:List ak}{U:eB}{v:List Bool}{a:aC}{b h l p:Nat}{k:Int}{rows:List (Int×Str)}{w:Nat}
theorem yb.two (hB:yb B):1<B.length:=(List.getElem?_eq_some_iff.mp hB.hd).1
theorem yb.g1 (hB:yb B)(U:eB):(ae0 B U)[1]?=some .hand:=by
 show(B++_)[1]?=_
 rw[List.getElem?_append_left hB.two];exact hB.hd
theorem yb.n1 (hB:yb B):fB B (.mu 1)=.mu 1:=by rw[aaW,hB.hd];rfl
end
structure Q6 (b h l:Nat)(k:Int)(rows:List (Int×Str))(w p:Nat)(d:Int)(r1:List (Str×Str)):Prop where
 bH:dW k rows w
 few:uO rows w
 k6:(bG 0 rows).length<=6
 acD:b<=6
 hb:b<h
 hh:h<=12
 hd:1<=d/\d<=2
 hp:(p:Int)=d
 hl:(l:Int)=(p:Int)*k
 l1:1<=l
 Nq:l<=12
 r1:R_ d r1
section
variable{b h l p:Nat}{k:Int}{rows:List (Int×Str)}{w:Nat}{d:Int}{a:aC}{r1:List (Str×Str)}{f:Str}{v U:eB}
theorem Q6.gJ (F:Q6 b h l k rows w p d r1):p=1\/p=2\/p=3:=by have:=F.hd;have:=F.hp;omega
end
abbrev aqz:Type:=List Nat×cU
structure Q7 (b h l:Nat)(k:Int)(rows:List (Int×Str))(w p n:Nat)(d:Int)(r1:List (Str×Str)):Prop where
 bH:dW k rows w
 few:uO rows w
 k6:(bG 0 rows).length<=6
 acD:b<=6
 hb:b<h
 hh:h<=12
 hd:1<=d/\d<=2
 hn:(n:Int)=d
 np:n<=p
 q3:p<=3
 hl:(l:Int)=(p:Int)*k
 l1:1<=l
 Nq:l<=12
 r1:R_ d r1
section
variable{b h l p n:Nat}{k:Int}{rows:List (Int×Str)}{w:Nat}{d:Int}{a:aC}{r1:List (Str×Str)}{v U:eB}
theorem Q7.gJ (F:Q7 b h l k rows w p n d r1):p=1\/p=2\/p=3:=by have:=F.hd;have:=F.hn;have:=F.np;have:=F.q3;omega
end
section
variable{M:List ak}
theorem Lx {α:Type}{g:dX}{b:eX}{F:α->D}{es:α->List D}{P:List af->Prop}:∀{xs:List α} {ρ:List af} {c:Nat} {L:List D},P ρ->
    (∀x∈xs,∀ρ c L,P ρ->c+(es x).length<4000->L.length+(es x).length<4000->∃aY iT,g (.dat (F x)) ρ=some aY/\b aY c L M=.ret (.ok (.nx iT (c+(es x).length) (L++es x)) M)/\P iT)->c+(xs.map es).flatten.length<4000->L.length+(xs.map es).flatten.length<4000->
    ∃cO,p_ g b (xs.map F) ρ c L M=.ret (.ok (.nx cO (c+(xs.map es).flatten.length) (L++(xs.map es).flatten)) M)/\P cO
  |[],ρ,c,L,p,_,_,_=>⟨ρ,by simp[p_,R.ok],p⟩
  |x::xs,ρ,c,L,p,h,hc,hl=>by
    rw[List.map_cons,List.flatten_cons,List.length_append]at hc hl;obtain⟨aY,iT,e1,e2,cI⟩:=h x List.mem_cons_self ρ c L p (by omega) (by omega);obtain⟨cO,e3,gJ⟩:=Lx (xs:=xs) (ρ:=iT) (c:=c+(es x).length) (L:=L++es x) cI (λy hy=>h y (List.mem_cons_of_mem _ hy)) (by omega) (by rw[List.length_append];omega);refine⟨cO,?_,gJ⟩;rw[List.map_cons,p_,e1];show(b aY c L M).bind (aX (Ly (p_ g b (xs.map F))))=_
    rw[e2];show p_ g b (xs.map F) iT (c+(es x).length) (L++es x) M=_
    rw[e3,List.map_cons,List.flatten_cons,List.append_assoc,List.length_append,Nat.add_assoc]
end
theorem alw {n:Nat}:rng 0 n=(List.range n).map λi:Nat=>D.int (i:Int):=by
 unfold rng;simp
theorem aaR {ns:Nat->Bool}{np n:Nat}{b:Flt->eX}{f:aN}{ss:List af}{M:List ak}:BN ns np n b f (.dat .non::ss) M=mw ns np n (b kL) ss M:=rfl
def HQ (ff:aM)(ct:Flt):eX:=(Ff (bz (bB ff (ai (ah 0) (ai (ah 2) av)))) (LB ct (ah 2)) LA)
def PB (kh gE ff:aM)(ct:Flt):eX:=(BO (cF (bB kh (ai (m_ "crossings" [(0,gE)] (ah 0)) (ai (ah 1) av)))) (br 2) (HQ ff ct))
def CW (kh gE ff:aM)(t:bN)(ct:Flt):eX:=(BO (fX (ao (bin .Add) (bu (b_ t) (ai (ah 0) av)) (λ_=>ok (.dat (.int 1))))) (br 1) (PB kh gE ff ct))
def wB (Fc kh gE ff:aM)(t:bN)(ct:Flt):eX:=(w6 (ue (f5 (bB Fc (ai (ah 0) av))))
 (CW kh gE ff t ct))
def alg (Fc:aM):aN:=(f5 (bB Fc (ai (ah 0) av)))
theorem YV {α:Type}{S:α->Bool}{f:α->D}:∀{l:List α},(l.map λp=>if S p then[f p]else[]).flatten=(l.filter S).map f
 |[]=>rfl
 |a::l=>by
  rw[List.map_cons,List.flatten_cons,YV (l:=l)];cases h:S a<;>simp[h]
section
variable{M:List ak}{k:Int}{rows:List (Int×Str)}{Z:List aC}{S:List aC->Bool}{Fc kh gE ff bW:aM}{ns:Nat->Bool}{fs:aN}
abbrev kc (Z:List aC)(S:List aC->Bool):List (List aC):=(jQ (iE Z [[]])).filter S
theorem alX:(kc Z S).map bJ=((List.range (Z.length+1)).map λm=>((jh (jf m Z)).map λp=>if S p then[bJ p]else[]).flatten).flatten:=by
 unfold kc;rw[acQ,List.filter_flatMap,List.map_flatMap,List.flatMap_def]
 congr 1
 refine List.map_congr_left λm _=>?_
 exact YV.symm
theorem ZW (hz:Z.length<=8):(kc Z S).length<=256:=by
 have h1:=List.length_filter_le S (jQ (iE Z [[]]));rw[A7.length_eq,Qc,List.length_cons,List.length_nil]at h1;have:(2:Nat)^Z.length<=2^8:=Nat.pow_le_pow_right (by omega) hz;show(List.filter S (jQ (iE Z [[]]))).length<=256
 omega
theorem am0 (hc:Fc [.dat (aP k rows)] M=.ret (.ok (.dat .non) M))(hz:Z.length<=8)(hl:bW [.dat (aP k rows)] M=.ret (.ok (.dat (.int (Z.length:Int))) M))
    (hx:gE [.dat (aP k rows)] M=.ret (.ok (.dat (.lst (Z.map aI))) M)) (hp:∀m:Nat,kh [.dat (.lst (Z.map aI)),.dat (.int (m:Int))] M=.ret (.ok (.dat (.lst ((jh (jf m Z)).map bJ))) M))
    (hs:∀p,p.Sublist Z->ff [.dat (aP k rows),.dat (bJ p)] M=.ret (.ok (.dat (.bl (S p))) M)):
    BN ns 1 3 (wB Fc kh gE ff [(0,bW)]) fs [.dat .non,.dat (aP k rows)] M=.ret (.ok (.dat (.lst ((kc Z S).map bJ))) M):=by
  have i1:k_ M "crossings" (.dat (aP k rows))=some 0:=rfl;have inner:∀p,p.Sublist Z->∀(s:af) (c:Nat) (L:List D),c+(if S p then[bJ p]else[]).length<4000->L.length+(if S p then[bJ p]else[]).length<4000->
      HQ ff kL [.dat (aP k rows),s,.dat (bJ p)] c L M=.ret (.ok (.nx [.dat (aP k rows),s,.dat (bJ p)] (c+(if S p then[bJ p]else[]).length) (L++(if S p then[bJ p]else[]))) M):=by
    intro p agv s c L hc1 hl1;have s1:=hs p agv;have ev:bz (bB ff (ai (ah 0) (ai (ah 2) av))) [.dat (aP k rows),s,.dat (bJ p)] M=.ret (.ok (S p) M):=by
      generalize aP k rows=qy at *;generalize bJ p=aqd at *;simp[s1]
    unfold HQ Ff;show(bz _ _ M).bind (aX _)=_
    rw[ev];show Lz _ _ _ c L (S p) M=_
    unfold Lz;cases hh:S p with
    |false=>
      show R.T.ret _=_
      simp
    |true=>
      rw[hh]at hc1 hl1;show Dy kL [.dat (aP k rows),s,.dat (bJ p)] c L (bJ p) M=_
      unfold Dy;have c1:c<4000/\L.length<4000:=⟨by simp at hc1;omega,by simp at hl1;omega⟩;rw[show kL (bJ p)=some [bJ p]from rfl]
      dsimp only
      rw[if_pos c1];rfl
  have mid:∀m:Nat,∀ρ c (L:List D),(∃s,ρ=[af.dat (aP k rows),.dat (.int (m:Int)),s])->c+((jh (jf m Z)).map λp=>if S p then[bJ p]else[]).flatten.length<4000->L.length+((jh (jf m Z)).map λp=>if S p then[bJ p]else[]).flatten.length<4000->
      ∃cO,PB kh gE ff kL ρ c L M=.ret (.ok (.nx cO (c+((jh (jf m Z)).map λp=>if S p then[bJ p]else[]).flatten.length) (L++((jh (jf m Z)).map λp=>if S p then[bJ p]else[]).flatten)) M)/\∃s,cO=[af.dat (aP k rows),.dat (.int (m:Int)),s]:=by
    intro m ρ c L agO hc1 hl1;obtain⟨s,rfl⟩:=agO;have sub:∀p∈jh (jf m Z),p.Sublist Z:=λp h=>(Zd.mp (z9.mem_iff.mp h)).1
    have go:=Lx (M:=M) (g:=br 2) (b:=HQ ff kL) (F:=bJ) (es:=λp=>if S p then[bJ p]else[]) (P:=λρ=>∃s,ρ=[af.dat (aP k rows),.dat (.int (m:Int)),s]) (xs:=jh (jf m Z)) (ρ:=[af.dat (aP k rows),.dat (.int (m:Int)),s]) (c:=c) (L:=L) ⟨s,rfl⟩
      (λp hp ρ c L ⟨s,e⟩ hc2 hl2=>by
        subst e;exact⟨[.dat (aP k rows),.dat (.int (m:Int)),.dat (bJ p)],_,rfl,inner p (sub p hp) _ c L hc2 hl2,_,rfl⟩) hc1 hl1
    obtain⟨cO,e,p⟩:=go;refine⟨cO,?_,p⟩;have it:cF (bB kh (ai (m_ "crossings" [(0,gE)] (ah 0)) (ai (ah 1) av))) [.dat (aP k rows),.dat (.int (m:Int)),s] M=.ret (.ok (.data ((jh (jf m Z)).map bJ)) M):=by
      have q:=hp m;have Ck:((jh (jf m Z)).map bJ).length<16777216:=by
        rw[List.length_map,z9.length_eq];have:=al5 (bare:=Z) hz (n:=m);omega
      clear e;generalize aP k rows=qy at *;generalize Z.map aI=aqu at *;generalize(jh (jf m Z)).map bJ=aqc at *;simp[i1,hx,q,Ck]
    show(Ev.bind (cF _ _) (UT _ _ _ c L)) M=_
    show(cF _ _ M).bind _=_
    rw[it];exact e
  have Ck:=ZW (S:=S) hz;have yS:=alX (Z:=Z) (S:=S);have l2:(((List.range (Z.length+1)).map λm=>((jh (jf m Z)).map λp=>if S p then[bJ p]else[]).flatten).flatten).length<=256:=by rw[<-yS,List.length_map];exact Ck
  have go:=Lx (M:=M) (g:=br 1) (b:=PB kh gE ff kL) (F:=λi:Nat=>D.int (i:Int)) (es:=λm=>((jh (jf m Z)).map λp=>if S p then[bJ p]else[]).flatten) (P:=λρ=>∃s t,ρ=[af.dat (aP k rows),s,t]) (xs:=List.range (Z.length+1)) (ρ:=[.dat (aP k rows),.un,.un]) (c:=0) (L:=[]) ⟨_,_,rfl⟩
    (λm _ ρ c L ⟨s,t,e⟩ hc2 hl2=>by
      subst e;obtain⟨cO,e1,s1,rfl⟩:=mid m [.dat (aP k rows),.dat (.int (m:Int)),t] c L ⟨t,rfl⟩ hc2 hl2;exact⟨_,_,rfl,e1,_,_,rfl⟩) (by omega) (by rw[List.length_nil];omega)
  obtain⟨cO,e,_⟩:=go;rw[<-yS,<-alw]at e;have it:fX (ao (bin .Add) (bu (b_ [(0,bW)]) (ai (ah 0) av)) (λ_=>ok (.dat (.int 1)))) [.dat (aP k rows),.un,.un] M=.ret (.ok (.data (rng 0 (Z.length+1))) M):=by
    have e1:bu (b_ [(0,bW)]) (ai (ah 0) av) [.dat (aP k rows),.un,.un] M=fL (.int (Z.length:Int)) M:=by
      have dY:clsAt M (.dat (aP k rows))=some 0:=rfl;have q:(Z.length:Int)<9223372036854775808:=by omega
      have nn:¬(Z.length:Int)<0:=by omega
      clear e;simp[hl,wK,q]
    have e2:bin .Add M (.dat (.int (Z.length:Int))) (.dat (.int 1))=some (.dat (.int ((Z.length+1:Nat):Int)),M):=by
      rw[acI];rfl
    clear e;generalize aP k rows=qy at *;generalize bu (b_ [(0,bW)]) (ai (ah 0) av)=aqg at *;have VW:=agR (M:=M) (n:=((Z.length+1:Nat):Int)) (by omega) (by omega);rw[Int.toNat_natCast]at VW;generalize Z.length+1=n1 at *;simp[e1,e2,VW]
  have pl:ue (f5 (bB Fc (ai (ah 0) av))) [.dat (aP k rows),.un,.un] 0 [] M=.ret (.ok (.nx [.dat (aP k rows),.un,.un] 0 []) M):=by
    have q:f5 (bB Fc (ai (ah 0) av)) [.dat (aP k rows),.un,.un] M=.ret (.ok (.nx [.dat (aP k rows),.un,.un]) M):=by
      clear e it;generalize aP k rows=qy at *;simp[hc]
    unfold ue;show(f5 _ _ M).bind _=_
    rw[q];rfl
  rw[aaR];unfold mw;rw[if_pos (show([af.dat (aP k rows)]:List af).length=1 from rfl)];show(wB Fc kh gE ff [(0,bW)] kL [.dat (aP k rows),.un,.un] 0 [] M).bind _=_
  unfold wB;rw[show w6 (ue (f5 (bB Fc (ai (ah 0) av)))) (CW kh gE ff [(0,bW)] kL) [.dat (aP k rows),.un,.un] 0 [] M=.ret (.ok (.nx cO (0+((kc Z S).map bJ).length) ([]++(kc Z S).map bJ)) M)from by
    unfold w6;show(ue _ _ 0 [] M).bind _=_
    rw[pl];show CW kh gE ff [(0,bW)] kL [.dat (aP k rows),.un,.un] 0 [] M=_
    unfold CW;show(fX _ _ M).bind _=_
    rw[it];exact e]
  show T.ret (Re.ok _ (cut M.length M))=_
  rw[gr rfl,List.nil_append]
theorem ZX {BH:List (Str×D)}(hc:Fc [.dat (aP k rows)] M=.ret (.ex 19 BH M))(hn:ns 19=true):BN ns 1 3 (wB Fc kh gE ff [(0,bW)]) fs [.dat .non,.dat (aP k rows)] M=.ret (.ex 19 BH M):=by
 have q:f5 (bB Fc (ai (ah 0) av)) [.dat (aP k rows),.un,.un] M=.ret (.ex 19 BH M):=by
  generalize aP k rows=qy at *;simp[hc]
 rw[aaR];unfold mw;rw[if_pos (show([af.dat (aP k rows)]:List af).length=1 from rfl)];show(wB Fc kh gE ff [(0,bW)] kL [.dat (aP k rows),.un,.un] 0 [] M).bind _=_
 unfold wB;rw[show w6 (ue (f5 (bB Fc (ai (ah 0) av)))) (CW kh gE ff [(0,bW)] kL) [.dat (aP k rows),.un,.un] 0 [] M=.ret (.ex 19 BH M)from by
  unfold w6 ue;show((f5 _ _ M).bind _).bind _=_
  rw[q];rfl]
 show(if ns 19=true then(R.T.ret (.ex 19 BH (cut M.length M)):T (Re af))else .bad)=_
 rw[if_pos hn,gr rfl]
end
end R
namespace jx
open PySem PySem.Spec PyProof.Rows L2 R
local macro_rules|`(tactic|walk_at"sz")=>`(tactic|simp(maxSteps:=5000000) (disch:=first|omega|(simp[*];done)|((simp only[Str.length_append,List.length_cons,List.length_nil,List.length_map,List.length_append,List.length_take,List.length_drop,List.length_replicate])<;>omega)) [*,-kMak_r,-List.map_take,-List.map_drop,-insAt_board])
section
variable{n:Nat}{k r:Int}{rows:List (Int×Str)}{w:Nat}{K fO:List aC}{a:aC}{aW:D}{M:List ak}{x y:D}{T:List D}
abbrev sy (n:Nat):bN:=[(0,a_ bh (n) 32)]
abbrev TE (n:Nat):bN:=[(0,a_ bh (n) 31)]
theorem aoE:a_ bh (n+3) 17=aR false 5 15 (D8 gK (aR false 2 2 (oN gK (sy (n+1)))) (aR false 2 4 (AY gK (sy (n+1))))):=rfl
theorem aoD:a_ bh (n+2) 2=aR false 2 2 (oN gK (sy (n+1))):=rfl
theorem aou:a_ bh (n+1) 15=aR false 3 3 (sC 12):=rfl
theorem aox:a_ bh (n+2) 14=aR false 3 13 (AU (aR false 3 3 (sC 12)) (sy (n+1))):=rfl
theorem qj (hM:Cl M)(bH:dW k rows w):Cf true 0 (a_ bh (n+2) 14) [.dat (.int k),.dat (.lst (rows.map dQ))] M=.ret (.ok (.dat (aP k rows)) M):=by
 rw[aox,ajy hM (by have:=bH.h2;omega) (λr hr=>by have:=(bH.oE r hr).1;have:=bH.bK;omega)];unfold Ek;rw[if_pos ⟨bH.k1,bH.k2⟩,if_pos ⟨bH.h1,bH.h2⟩,er.acA bH]
theorem made (hM:Cl M)(bH:dW k rows w):a_ bh (n+3) 13 [.dat (dI k rows)] M=fL (aP k rows) M:=by
 have m:=qj (n:=n) hM bH;rw[ad6,jG (by rfl)];have key:wD (a_ bh (n+2)) [.dat (dI k rows)] M=.ret (.ok (.rt (.dat (aP k rows))) M):=by
  unfold wD;simp[-kMak_r,m]
 show(wD _ [.dat (dI k rows)] M).bind _=_
 rw[key,bR,mU,gr rfl]
theorem XH (bH:dW k rows w):a_ bh (n+1) 16 [.dat (dI k rows)] M=fL (.lst ((bG 0 rows).map aI)) M:=by
 rw[ad7];have q:=aib (M:=M) (t:=sy n) bH;rw[Wz]at q;exact q
theorem Gq (bH:dW k rows w):(bG 0 rows).length<=1000:=by
 have:=bH.keys;rw[zu,List.length_map]at this;omega
theorem aki (a:Int):a_ bh (n+1) 30 [.dat (.int a)] M=fL (.bl true) M:=by
 rw[adf,jG (by rfl)];have key:yF (a_ bh n) [.dat (.int a)] M=.ret (.ok (.rt (.dat (.bl true))) M):=by kernel_rfl
 show(yF _ [.dat (.int a)] M).bind _=_
 rw[key,bR,mU,gr rfl]
theorem akM (a b:Int):a_ bh (n+2) 29 [.dat (.tup [.int a,.int b])] M=fL (.bl true) M:=by
 have q:=λa=>aki (n:=n) (M:=M) a
 rw[ade,jG (by rfl)];have key:wG (a_ bh (n+1)) [.dat (.tup [.int a,.int b])] M=.ret (.ok (.rt (.dat (.bl true))) M):=by
  have it:gm ["tuple"] M (.dat (.tup [.int a,.int b]))=some (.dat (.bl true),M):=rfl;unfold wG;simp[q,it]
 show(wG _ [.dat (.tup [.int a,.int b])] M).bind _=_
 rw[key,bR,mU,gr rfl]
theorem aov:a_ bh (n+1) 28=aR false 2 2 (D5 (a_ bh n 29)):=rfl
theorem agZ (ha:a∈bG 0 rows):oO .NotIn (TE (n+3)) [(0,a_ bh (n+3) 28)] (.dat (aI a)) (.dat (aP k rows)) M=fL (.bl false) M:=by
 rw[aeX (by rw[aov];exact adM (akM a.1 a.2)),decide_eq_true ha];rfl
theorem TH:a_ bh (n+1) 6 [.dat (aP k rows)] M=fL (.lst ((bG 0 rows).map aI)) M:=by
 have e1:qV "own_keys" M (.dat (aP k rows))=some (.dat (.lst ((bG 0 rows).map aI)),M):=by rw[Ur,Wz]
 rw[adi,jG (by rfl)];have key:wH (a_ bh n) [.dat (aP k rows)] M=.ret (.ok (.rt (.dat (.lst ((bG 0 rows).map aI)))) M):=by
  unfold wH;simp[-List.map_map,e1]
 show(wH _ [.dat (aP k rows)] M).bind _=_
 rw[key,bR,mU,gr rfl]
theorem Nv (bH:dW k rows w):a_ bh (n+1) 32 [.dat (aP k rows)] M=fL (.int ((bG 0 rows).length:Int)) M:=by
 have q:=aip (M:=M) (t:=sy n) bH;rw[zu,List.length_map]at q;rw[adg];exact q
theorem aaf:a_ bh (n+1) 4=aR false 1 1 (AQ (sy n)):=rfl
theorem adu (bH:dW k rows w)(hl:(bG 0 rows).length<=8):a_ bh (n+2) 4 [.dat (aP k rows)] M=fL .non M:=by
 rw[aaf,S9 (Gq bH) (Nv bH),if_neg (by omega)]
theorem S_ (bH:dW k rows w)(hl:8<(bG 0 rows).length):a_ bh (n+2) 4 [.dat (aP k rows)] M=.ret (.ex 19 vW M):=by
 rw[aaf,S9 (Gq bH) (Nv bH),if_pos hl]
theorem aoC:a_ bh (n+1) 5=aR false 2 5 (A3 (sy n)):=rfl
theorem aoB:a_ bh (n+1) 9=aR false 2 4 (AZ (TE n) [(0,a_ bh n 28)]):=rfl
theorem needs (hK:v_ rows K)(hS:kH aW (K.map aI)):a_ bh (n+4) 9 [.dat (aP k rows),.dat aW] M=fL .non M:=by
 rw[aoB];exact ajW hS (by have:=hK.2.2;omega) hK.2.1 λa ha=>agZ (hK.1 a ha)
theorem ag5 (bH:dW k rows w):a_ bh (n+1) 10 [.dat (aP k rows)] M=fL (.int (rows.length:Int)) M:=by rw[ad4];exact afX bH
theorem anF:a_ bh (n+1) 12 [.dat (aP k rows)] M=fL (rM rows) M:=by
 have e1:qV "own_signs" M (.dat (aP k rows))=some (.dat (.lst (rows.map λr=>.str r.2)),M):=aeE;rw[ad5,jG (by rfl)];have key:wC (a_ bh n) [.dat (aP k rows)] M=.ret (.ok (.rt (.dat (rM rows))) M):=by
  unfold wC;simp[e1,rM]
 show(wC _ [.dat (aP k rows)] M).bind _=_
 rw[key,bR,mU,gr rfl]
theorem aoz:a_ bh (n+1) 11=aR false 3 9 (AX (a_ bh n 12) (sy n)):=rfl
theorem lines (hM:Cl M)(bH:dW k rows w)(hK:v_ rows K)(hS:kH aW (K.map aI)):a_ bh (n+2) 11 [.dat (aP k rows),.dat aW,.dat (.int r)] M=fL (fG (xB (eY rows) (fV rows) K r)) M:=by
 rw[aoz];exact aj4 hM bH hS hK.1 (by have:=hK.2.2;omega) λM=>anF
theorem aow:a_ bh (n+1) 8=aR false 2 6 (AS (a_ bh n 9) (a_ bh n 10) (a_ bh n 11) (a_ bh n 6)):=rfl
theorem aez (hM:Cl M)(bH:dW k rows w)(hK:v_ rows K)(hS:kH aW (K.map aI)):a_ bh (n+5) 8 [.dat (aP k rows),.dat aW] M=fL (.lst ((yY rows K).map aI)) M:=by
 rw[aow,aeA (R:=λi=>xB (eY rows) (fV rows) K i) hM hS (Gq bH) bH.h2 (needs hK hS) (λM=>ag5 bH) (λM i hM _ _=>lines hM bH hK hS) (λM=>TH),Lk];rfl
theorem aoF:a_ bh (n+1) 7=aR false 2 2 (A4 (a_ bh n 8)):=rfl
theorem alY (hM:Cl M)(bH:dW k rows w)(hK:v_ rows K)(hS:kH aW (K.map aI)):a_ bh (n+6) 7 [.dat (aP k rows),.dat aW] M=fL (.bl (lQ rows K)) M:=by
 rw[aoF,alZ (aez hM bH hK hS)];rfl
theorem ajl (bH:dW k rows w)(ha:a∈bG 0 rows):a_ bh (n+1) 27 [.dat (dI k rows),.dat (aI a)] M=fL (.str ⟨#[lV rows a]⟩) M:=ajm bH ha
theorem ajn (h:K.length<=8):a_ bh (n+1) 24 [.dat (.lst (K.map aI))] M=fL (.lst ((iE K [[]]).map bJ)) M:=aol h
theorem aif {ps:List (List aC)}(hl:ps.length<=1000000)(hp:∀p∈ps,p.length<=1000):a_ bh (n+1) 19 [.dat (.lst (ps.map bJ))] M=fL (.lst ((jQ ps).map bJ)) M:=acP hl hp
theorem aoA:a_ bh (n+1) 26=aR false 3 9 (AW (a_ bh n 27)):=rfl
theorem aoy:a_ bh (n+1) 25=aR false 2 6 (AV (a_ bh n 26) (a_ bh n 16) (sy n)):=rfl
theorem Gr (bH:dW k rows w)(hK:v_ rows K)(hS:kH aW (K.map aI)):a_ bh (n+3) 25 [.dat (dI k rows),.dat aW] M=fL (.lst ((yY rows K).map aI)) M:=by
 rw[aoy,aiW (R:=λi=>(lw (eY rows) (fV rows) K i 5).2) bH hS (Gq bH) (λi _ _=>by
  rw[aoA];exact ajk hS (by have:=hK.2.2;omega) λa ha=>ajl bH (hK.1 a ha)) (XH bH)]
 rw[Ui (r:=rows.length) (DN:=λi=>(lw (eY rows) (fV rows) K i 5).2) (R2:=λi=>xB (eY rows) (fV rows) K i) (λi hi x=>by
  have e:=aj1 (r:=(i:Int)) bH hK.1 (by have:=hK.2.2;omega) (by omega);rw[<-e,ao8]) rows.length 0 (by omega),Lk]
 rfl
theorem aiX {d:D}(g:good 6 d=true):a_ bh (n+7) 20 [.dat d,.dat d] M=fL (.bl true) M:=aiZ (L:=λn=>a_ bh n 20) (λn=>ad8) (show 6<=n+6 by omega) g
theorem aey (C:Nat->aM)(M:List ak):yE C [.dat (.exc 19 vW)] M=.ret (.ok (.rt (.dat (.tup [.int 8]))) M):=by kernel_rfl
theorem ap0 {i:Nat}(hm:M.all iA=true)(hi:i<1){ws:List D}(e:a_ bh (n+1) (35+i) (ws.map .dat) M=.ret (.ex 19 vW M)):a_ bh (n+2) 22 [.dat (.fF i ws)] M=fL (Dd) M:=by
 rw[ada];refine aoZ (ahZ hi) e rfl rfl rfl ?_ rfl hm (by simp);rw[adb,jG (by rfl)];show(yE _ [.dat (.exc 19 vW)] M).bind _=_
 rw[aey,bR,mU,gr rfl]
theorem alB {a b:Nat}:(List.range (a+1)).map (λi:Nat=>D.tup [.int (i:Int),.str (Txt.mul "o" (1+(b:Int)))])=(fK a b).map dQ:=by
 unfold fK YK;rw[List.map_map];refine List.map_congr_left λi _=>?_
 show _=D.tup [.int (i:Int),.str (Txt.mul "o" ((b+1:Nat):Int))]
 rw[show((b+1:Nat):Int)=1+(b:Int) by omega]
theorem aeR (hM:Cl M){a b:Nat}(ha:a<4)(hb:b<4):a_ bh (n+3) 21 [.dat (.int (1+(a:Int))),.dat (.int (1+(b:Int)))] M=fL (aP (1+(a:Int)) (fK a b)) M:=by
 rw[ad9,jG (by rfl)];have m:=qj (n:=n) hM (E_ ha hb);have key:wF (a_ bh (n+2)) [.dat (.int (1+(a:Int))),.dat (.int (1+(b:Int))),.un] M=.ret (.ok (.rt (.dat (aP (1+(a:Int)) (fK a b)))) M):=by
  have k1:=Td (c:=12) (M:=M) (x:=1+(a:Int)) (lo:=1) (hi:=4) (by omega) (by omega);have k2:=Td (c:=12) (M:=M) (x:=1+(b:Int)) (lo:=1) (hi:=4) (by omega) (by omega);have tn:(1+(a:Int)).toNat=a+1:=by omega
  have ajg:(rng 0 (a+1)).length=a+1:=by unfold rng;simp
  have bm:∀M:List ak,bin .Mult M (.dat (.str "o")) (.dat (.int (1+(b:Int))))=some (.dat (.str (Txt.mul "o" (1+(b:Int)))),M):=λM=>acJ (by omega) (by omega) (by decide+kernel)
  unfold wF;rw[aou]
  walk_at"sz"
  rw[adE (f:=λi:Nat=>D.tup [.int (i:Int),.str (Txt.mul "o" (1+(b:Int)))]) (by intro i;simp[bm]),alB]
  walk_at"sz"
 show(wF _ [.dat (.int (1+(a:Int))),.dat (.int (1+(b:Int))),.un] M).bind _=_
 rw[key,bR,mU,gr rfl]
end
end jx
namespace jx
open PySem PySem.Spec PyProof.Rows L2 R
abbrev ck (L:List D):List ak:=[.tab 0,.hand,.fz (some (.lst L))]
structure Je (C:Nat->aM):Prop where
 i8:C 0=xO
 t2:∃t:bN,C 17=aR false 5 15 (D8 gK (aR false 2 2 (oN gK t)) (aR false 2 4 (AY gK t)))
 C4:∃t:bN,C 2=aR false 2 2 (oN gK t)
 made:∀{k:Int} {rows:List (Int×Str)} {w:Nat},dW k rows w->C 13 [.dat (dI k rows)] N0=fL (aP k rows) N0
 keys:∀{k:Int} {rows:List (Int×Str)} {w:Nat},dW k rows w->C 16 [.dat (dI k rows)] N0=fL (.lst ((bG 0 rows).map aI)) N0
 subs:∀{K:List aC} {M},K.length<=8->C 24 [.dat (.lst (K.map aI))] M=fL (.lst ((iE K [[]]).map bJ)) M
 SN:∀{ps:List (List aC)} {M},ps.length<=1000000->(∀p∈ps,p.length<=1000)->C 19 [.dat (.lst (ps.map bJ))] M=fL (.lst ((jQ ps).map bJ)) M
 Gr:∀{k:Int} {rows:List (Int×Str)} {w:Nat} {K:List aC} {M},dW k rows w->v_ rows K->C 25 [.dat (dI k rows),.dat (bJ K)] M=fL (.lst ((yY rows K).map aI)) M
 Xz:∀{d M},good 6 d=true->C 20 [.dat d,.dat d] M=fL (.bl true) M
 gen:∀{k:Int} {rows:List (Int×Str)} {w:Nat} {M},Cl M->dW k rows w->(bG 0 rows).length<=8->C 3 [.dat .non,.dat (aP k rows)] M=fL (.lst ((kc (bG 0 rows) (lQ rows)).map bJ)) M
 full:∀{a b:Nat} {M},Cl M->a<4->b<4->C 21 [.dat (.int (1+(a:Int))),.dat (.int (1+(b:Int)))] M=fL (aP (1+(a:Int)) (fK a b)) M
 aao:∀{L:List D} {W:D},jJ L=true->W∈[aP 3 (fK 2 2),aP 4 (fK 3 3)]->C 22 [.dat (.fF 0 [W])] (ck L)=fL Dd (ck L)
def Gk (C:Nat->aM):aN:=
  (aL (bL 7 (dw true av))
  (aL (z4 7 8 (Bv (bB (λss=>C 3 (.dat .non::ss)) (ai (ah 3) av))))
  (aL (dj (tOr (tNot (bz (bB (C 20) (ai (yQ (ah 7)) (ai (ah 5) av))))) (bz (ao (cmp .NotEq) (ve false (yO (λss=>C 3 (.dat .non::ss)) [0] av (ai (ah 3) av))) (ah 5)))) (bT (λ_=>ok (.dat (.bl false)))) dR)
  (aL (bL 9 (bB (C 2) (ai (ah 1) (ai (dw false (ai (bB (C 21) (ai (λ_=>ok (.dat (.int 3))) (ai (λ_=>ok (.dat (.int 3))) av))) (ai (bB (C 21) (ai (λ_=>ok (.dat (.int 4))) (ai (λ_=>ok (.dat (.int 4))) av))) av))) av))))
  (bT (i9 (ao (cmp .Eq) (ER (A9 KC) (C 22) (yT 0 0)) (dg (ai (λ_=>ok (.dat (.str "TooWide"))) (ai (λ_=>ok (.dat (.int 8))) av)))) (ao (cmp .Eq) (bu (b_ [(0,C 32)]) (ai (ve false (bB (λss=>C 3 (.dat .non::ss)) (ai (bB (C 21) (ai (λ_=>ok (.dat (.int 1))) (ai (λ_=>ok (.dat (.int 4))) av))) av))) av)) (λ_=>ok (.dat (.int 16))))))))))
def Xr (C:Nat->aM):aN:=
  (aL (bL 1 (bB (C 0) (ai (ah 0) av)))
  (aL (bL 2 (bB (C 2) (ai (ah 1) (ai (dw false (ai (bB (C 17) (ai (ah 1) (ai (λ_=>ok (.dat (.int 3))) (ai (λ_=>ok (.dat (.int 3))) (ai (λ_=>ok (.dat (.int 6))) (ai (λ_=>ok (.dat (.int 4))) av)))))) (ai (bB (C 17) (ai (ah 1) (ai (λ_=>ok (.dat (.int 3))) (ai (λ_=>ok (.dat (.int 3))) (ai (λ_=>ok (.dat (.int 6))) (ai (λ_=>ok (.dat (.int 4))) av)))))) (ai (bB (C 17) (ai (ah 1) (ai (λ_=>ok (.dat (.int 2))) (ai (λ_=>ok (.dat (.int 4))) (ai (λ_=>ok (.dat (.int 8))) (ai (λ_=>ok (.dat (.int 3))) av)))))) av)))) av))))
  (aL (oA 3 4 (bB (C 13) (ai (ah 2) av)) (bB (C 16) (ai (ah 2) av)))
  (aL (bL 5 (cV false [6] (cF (bB (C 19) (ai (bB (C 24) (ai (ah 4) av)) av))) (br 6) (bz (ao (cmp .Eq) (bB (C 25) (ai (ah 2) (ai (ah 6) av))) (dw false av))) (ah 6)))
  (Gk C)))))
theorem aia (C:Nat->aM):Ec C=Xr C:=rfl
section
variable{C:Nat->aM}{k:Int}{rows:List (Int×Str)}{w:Nat}{M:List ak}{s0:D}
theorem af3 {f:CE}{a2 a3 a4 gF:D}{L:List D}(e:f [.dat s0,.mu 1,.dat a2,.dat a3,.dat a4,.dat gF,.un,.un,.un,.un] N0=.ret (.ok (.dat (.lst L)) N0)):
    z4 7 8 f [.dat s0,.mu 1,.dat a2,.dat a3,.dat a4,.dat gF,.un,.mu 2,.un,.un] (pM N0 [])=.ret (.ok (.nx [.dat s0,.mu 1,.dat a2,.dat a3,.dat a4,.dat gF,.un,.mu 2,.un,.un]) (pM N0 L)):=by
  have g:z5 7 8 2 f [.dat s0,.mu 1,.dat a2,.dat a3,.dat a4,.dat gF,.un,.mu 2,.un,.un] (pM N0 [])=(f [.dat s0,.mu 1,.dat a2,.dat a3,.dat a4,.dat gF,.un,.un,.un,.un] N0).bind (Fi 7 8 2 [.dat s0,.mu 1,.dat a2,.dat a3,.dat a4,.dat gF,.un,.mu 2,.un,.un]):=by
    unfold z5;rw[if_pos ⟨rfl,rfl,rfl,rfl,show 7<10 by decide⟩];rfl
  show z5 7 8 2 f _ _=_
  rw[g,e];rfl
theorem af9 {L:List (List aC)}(hl:L.length<=256)(hp:∀p∈L,p.length<=1000):good 6 (.lst (L.map bJ))=true:=by
 unfold good;rw[Bool.and_eq_true];refine⟨List.all_eq_true.mpr λx hx=>?_,decide_eq_true (by rw[List.length_map];omega)⟩;obtain⟨p,h,rfl⟩:=List.mem_map.mp hx;exact af8 (n:=3) (hp p h)
theorem aa0:∀{L:List (List aC)},mE (L.map bJ) (L.map bJ)=true
 |[]=>rfl
 |p::L=>by
  rw[List.map_cons,HY,aa0,anQ];simp
theorem apk:(kc (bG 0 (fK 0 3)) (lQ (fK 0 3))).length=16:=by decide+kernel
theorem ai9 {a2 a4:D}(T:Je C)(bH:dW k rows w)(iK:(bG 0 rows).length<=8):W (Gk C [.dat s0,.mu 1,.dat a2,.dat (aP k rows),.dat a4,.dat (.lst ((kc (bG 0 rows) (lQ rows)).map bJ)),.un,.un,.un,.un] N0) λr=>W (mD false 1 r) λr=>∃M,r=.ok (.dat (.bl true)) M:=by
 obtain⟨C4,h4⟩:=T.C4;have sl:=ZW (S:=lQ rows) iK;have hp:∀p∈kc (bG 0 rows) (lQ rows),p.length<=1000:=λp h=>by
  have:=(H7.mp (A7.mem_iff.mp (List.mem_filter.mp h).1)).length_le;omega
 have gd:=af9 sl hp;have lg:jJ ((kc (bG 0 rows) (lQ rows)).map bJ)=true:=G5 λp=>G5 (f:=aI) λ_=>rfl
 have pl:ez 57 ((kc (bG 0 rows) (lQ rows)).map bJ)=true:=OD;have jL:=aa0 (L:=kc (bG 0 rows) (lQ rows));have f1:=T.gen (M:=N0) rfl bH iK;have f2:=T.gen (M:=ck ((kc (bG 0 rows) (lQ rows)).map bJ)) rfl bH iK;generalize(kc (bG 0 rows) (lQ rows)).map bJ=L at *;have lk:=T.Xz (M:=ck L) gd;have ne:=ne_self (M:=ck L) pl jL;have q1:=T.full (M:=ck L) (a:=2) (b:=2) rfl (by omega) (by omega);have q2:=T.full (M:=ck L) (a:=3) (b:=3) rfl (by omega) (by omega);have q3:=T.full (M:=ck L) (a:=0) (b:=3) rfl (by omega) (by omega);have q1:C 21 [.dat (.int 3),.dat (.int 3)] (ck L)=fL (aP 3 (fK 2 2)) (ck L):=q1;have q2:C 21 [.dat (.int 4),.dat (.int 4)] (ck L)=fL (aP 4 (fK 3 3)) (ck L):=q2;have q3:C 21 [.dat (.int 1),.dat (.int 4)] (ck L)=fL (aP 1 (fK 0 3)) (ck L):=q3;have jE:=T.gen (M:=ck L) rfl (E_ (a:=0) (b:=3) (by omega) (by omega)) (by decide+kernel);have jE:C 3 [.dat .non,.dat (aP 1 (fK 0 3))] (ck L)=fL (.lst ((kc (bG 0 (fK 0 3)) (lQ (fK 0 3))).map bJ)) (ck L):=jE;have ahT:((kc (bG 0 (fK 0 3)) (lQ (fK 0 3))).map bJ).length=16:=by rw[List.length_map,apk]
 have tr:=λW (hW:W∈[aP 3 (fK 2 2),aP 4 (fK 3 3)])=>T.aao (L:=L) (W:=W) lg hW
 have F1:(Bv (bB (λss=>C 3 (.dat .non::ss)) (ai (ah 3) av))) [.dat s0,.mu 1,.dat a2,.dat (aP k rows),.dat a4,.dat (.lst L),.un,.un,.un,.un] N0=.ret (.ok (.dat (.lst L)) N0):=by
  have e:bB (λss=>C 3 (.dat .non::ss)) (ai (ah 3) av) [.dat s0,.mu 1,.dat a2,.dat (aP k rows),.dat a4,.dat (.lst L),.un,.un,.un,.un] N0=.ret (.ok (.dat (.lst L)) N0):=by
   generalize aP k rows=qy at *;simp[f1]
  unfold Bv;rw[e];rfl
 have F2:yO (λss=>C 3 (.dat .non::ss)) [0] av (ai (ah 3) av) [.dat s0,.mu 1,.dat a2,.dat (aP k rows),.dat a4,.dat (.lst L),.un,.mu 2,.un,.un] (ck L)=.ret (.ok (.dat (.lst L)) (ck L)):=by
  have pp:∀s:af,iB [0] [s]=[s]:=λ_=>rfl
  generalize aP k rows=qy at *;generalize ck L=AB at *;simp[f2,pp]
 have ga:=af3 F1;have s1:bL 7 (dw true av) [.dat s0,.mu 1,.dat a2,.dat (aP k rows),.dat a4,.dat (.lst L),.un,.un,.un,.un] N0=.ret (.ok (.nx [.dat s0,.mu 1,.dat a2,.dat (aP k rows),.dat a4,.dat (.lst L),.un,.mu 2,.un,.un]) (pM N0 [])):=by
  generalize aP k rows=qy at *;simp[pM]
 have fz:frz (.mu 2) (pM N0 L)=.ret (.ok (.lst L) (ck L)):=by
  unfold frz;rw[Dr];simp[pM]
 have g1:ah 7 [.dat s0,.mu 1,.dat a2,.dat (aP k rows),.dat a4,.dat (.lst L),.un,.mu 2,.un,.un] (pM N0 L)=.ret (.ok (.mu 2) (pM N0 L)):=qq rfl (by simp) (Cy abr);have ef:yQ (ah 7) [.dat s0,.mu 1,.dat a2,.dat (aP k rows),.dat a4,.dat (.lst L),.un,.mu 2,.un,.un] (pM N0 L)=.ret (.ok (.dat (.lst L)) (ck L)):=by
  rw[apS,g1,bR,cD,ahA,fz,bR,cD];rfl
 have eqT:dh .Eq (ck L) (.dat (.tup [.str "TooWide",.int 8])) (.dat (.tup [.str "TooWide",.int 8]))=some true:=by kernel_rfl
 have n1:fB (ck L) (.mu 1)=.mu 1:=rfl;have hh:(ck L)[1]?=some .hand:=rfl;have ahV:(ck L)[0]?=some (.tab 0):=rfl;have an:(ck L).all iA=true:=by simp[iA,fQ,lg]
 have atx:fQ (aP 3 (fK 2 2))=true:=Oh;have aty:fQ (aP 4 (fK 3 3))=true:=Oh;have aoU:=tr _ (List.mem_cons_self (l:=[aP 4 (fK 3 3)]) (a:=aP 3 (fK 2 2)));have aoV:=tr (aP 4 (fK 3 3)) (by simp);unfold Gk;refine Sl ?_;rw[s1,qH];refine DS (Sl ?_);rw[ga,qH];clear ga s1 g1 fz F1 f1 gd jL pl T tr hp sl;generalize pM N0 L=aqx at *;generalize yQ (ah 7)=aqh at *;generalize yO (λss=>C 3 (.dat .non::ss)) [0] av (ai (ah 3) av)=aqi at *;refine DS ?_;generalize ck L=AB at *;generalize aP k rows=qy at *;generalize aP 3 (fK 2 2)=aqE at *;generalize aP 4 (fK 3 3)=X2 at *;generalize aP 1 (fK 0 3)=aqF at *;generalize(kc (bG 0 (fK 0 3)) (lQ (fK 0 3))).map bJ=DK at *;simp[-kMak_r,ef,lk,F2,ne,q1,q2,h4,n1];refine Oz hh (by simp) (by simp) λx hx=>?_
 have nx:fQ x=true:=by
  simp only[List.mem_cons,List.not_mem_nil,or_false]at hx;rcases hx with rfl|rfl<;>assumption
 have tx:C 22 [.dat (.fF 0 [x])] AB=fL Dd AB:=by
  simp only[List.mem_cons,List.not_mem_nil,or_false]at hx;rcases hx with rfl|rfl<;>assumption
 clear aoU aoV hx;have acB:∀y:ak,y∈AB->iA y=true:=List.all_eq_true.mp an;simp[-kMak_r,ahV,nx,tx,eqT];rw[if_pos acB];simp[eqT,q3,jE,ahT]
end
theorem aic (C:Nat->aM)(h:Je C)(ns:List Int):W (Ec C (.dat (.fC ns)::List.replicate 9 .un) [.tab 0]) λr=>W (mD false 1 r) λr=>∃M,r=.ok (.dat (.bl true)) M:=by
 obtain⟨t2,h2⟩:=h.t2;obtain⟨C4,h4⟩:=h.C4;rw[aia];unfold Xr;rw[h.i8];have Gi:=λ{s0 a2 a4:D} {k:Int} {rows:List (Int×Str)} {w:Nat} (bH:dW k rows w) iK=>ai9 (C:=C) (s0:=s0) (a2:=a2) (a4:=a4) h bH iK
 generalize Gk C=aqv at *;have n1:fB N0 (.mu 1)=.mu 1:=rfl;simp[xO];rw[h2];refine OE (high:=3) (wide:=3) (most:=6) (longest:=4) rfl rfl (by omega) (by omega) (by omega) λk1 Zy aD akU arf=>?_
 simp[n1];refine OE (high:=3) (wide:=3) (most:=6) (longest:=4) rfl rfl (by omega) (by omega) (by omega) λk2 CK bK akV arh=>?_
 simp[n1];refine OE (high:=2) (wide:=4) (most:=8) (longest:=3) rfl rfl (by omega) (by omega) (by omega) λk3 Zz gQ akW ari=>?_
 have g1:∃k rows w,dI k1 Zy=dI k rows/\dW k rows w/\(bG 0 rows).length<=8:=⟨_,_,_,rfl,yu.Kq akU (by omega) (by omega) (by omega),by rw[Ge];omega⟩;have g2:∃k rows w,dI k2 CK=dI k rows/\dW k rows w/\(bG 0 rows).length<=8:=⟨_,_,_,rfl,yu.Kq akV (by omega) (by omega) (by omega),by rw[Ge];omega⟩;have g3:∃k rows w,dI k3 Zz=dI k rows/\dW k rows w/\(bG 0 rows).length<=8:=⟨_,_,_,rfl,yu.Kq akW (by omega) (by omega) (by omega),by rw[Ge];omega⟩;generalize dI k1 Zy=wg at *;generalize dI k2 CK=yt at *;generalize dI k3 Zz=P3 at *;simp[h4];refine Oz rfl (by simp) (by simp) λx hx=>?_
 have Fq:∃k rows w,x=dI k rows/\dW k rows w/\(bG 0 rows).length<=8:=by
  simp only[List.mem_cons,List.not_mem_nil,or_false]at hx;rcases hx with rfl|rfl|rfl<;>assumption
 obtain⟨k,rows,w,rfl,bH,iK⟩:=Fq;clear hx g1 g2 g3;have NP:=h.made bH;have Nn:=h.keys bH;have sb:=h.subs (M:=N0) iK;have sl:(iE (bG 0 rows) [[]]).length<=256:=by
  rw[Qc,List.length_cons,List.length_nil];have:(2:Nat)^(bG 0 rows).length<=2^8:=Nat.pow_le_pow_right (by omega) iK;omega
 have kb:∀p:List aC,p.Sublist (bG 0 rows)->v_ rows p:=λp hp=>⟨λa ha=>hp.subset ha,(Nl rows 0).sublist hp,by have:=hp.length_le;omega⟩
 have Kr:=h.SN (M:=N0) (ps:=iE (bG 0 rows) [[]]) (by omega) λp hp=>by have:=(H7.mp hp).length_le;omega
 have bl:((jQ (iE (bG 0 rows) [[]])).map bJ).length<16777216:=by rw[List.length_map,A7.length_eq];omega
 have lc:cV false [6] (cF (bB (C 19) (ai (bB (C 24) (ai (ah 4) av)) av))) (br 6) (bz (ao (cmp .Eq) (bB (C 25) (ai (ah 2) (ai (ah 6) av))) (dw false av))) (ah 6) [.dat (.fC ns),.mu 1,.dat (dI k rows),.dat (aP k rows),.dat (.lst ((bG 0 rows).map aI)),.un,.un,.un,.un,.un] N0=.ret (.ok (.dat (.lst ((kc (bG 0 rows) (lQ rows)).map bJ))) N0):=by
  have it:cF (bB (C 19) (ai (bB (C 24) (ai (ah 4) av)) av)) [.dat (.fC ns),.mu 1,.dat (dI k rows),.dat (aP k rows),.dat (.lst ((bG 0 rows).map aI)),.un,.un,.un,.un,.un] N0=.ret (.ok (.data ((jQ (iE (bG 0 rows) [[]])).map bJ)) N0):=by
   clear NP Nn Gi kb;generalize dI k rows=dD at *;generalize aP k rows=qy at *;generalize(bG 0 rows).map aI=Rk at *;generalize(iE (bG 0 rows) [[]]).map bJ=jk at *;generalize(jQ (iE (bG 0 rows) [[]])).map bJ=TT at *;simp[sb,Kr,bl]
  rw[apT,it,bR,cD,aij bl];rw[t7 (p:=lQ rows) (h:=bJ) (by
   intro p hp;have q:=h.Gr (M:=N0) bH (kb p (H7.mp (A7.mem_iff.mp hp)));have en:=eq_nil (M:=N0) (L:=yY rows p);clear it Gi NP Nn sb Kr bl;generalize dI k rows=dD at *;generalize aP k rows=qy at *;generalize(bG 0 rows).map aI=Rk at *;unfold lQ;cases hb:(yY rows p).isEmpty<;>rw[hb]at en<;>simp[-KW,q,en])]
  rfl
 have rD:=Gi (s0:=.fC ns) (a2:=dI k rows) (a4:=.lst ((bG 0 rows).map aI)) bH iK;clear Gi kb sb Kr bl sl bH iK h;generalize(kc (bG 0 rows) (lQ rows)).map bJ=aqB at *;generalize dI k rows=dD at *;generalize aP k rows=qy at *;generalize(bG 0 rows).map aI=Rk at *;generalize cV false [6] (cF (bB (C 19) (ai (bB (C 24) (ai (ah 4) av)) av))) (br 6) (bz (ao (cmp .Eq) (bB (C 25) (ai (ah 2) (ai (ah 6) av))) (dw false av))) (ah 6)=aqj at *;simp[NP,Nn,lc,n1];simpa using rD
section
variable{n:Nat}
theorem aag:a_ bh (n+1) 3=BN xJ 1 3 (wB (a_ bh n 4) (a_ bh n 5) (a_ bh n 6) (a_ bh n 7) [(0,a_ bh n 32)]) (alg (a_ bh n 4)):=rfl
end
theorem tb (n:Nat):Je (a_ bh (n+18)) where
 i8:=rfl
 t2:=⟨_,aoE⟩
 C4:=⟨_,aoD⟩
 made:=λbH=>made adA bH
 keys:=λbH=>XH bH
 subs:=λh=>ajn h
 SN:=λhl hp=>aif hl hp
 Gr:=λbH hK=>Gr bH hK (.tup _)
 Xz:=λg=>aiX g
 gen:=λhM bH iK=>by
  rw[aag];refine am0 (adu (n:=n+15) bH iK) iK (Nv (n:=n+16) bH) TH (λm=>?_) λp hp=>alY (n:=n+11) hM bH ⟨λa ha=>hp.subset ha,(Nl _ 0).sublist hp,by have:=hp.length_le;omega⟩ (.tup _)
  rw[aoC];exact akN iK
 full:=λhM ha hb=>aeR hM ha hb
 aao:=λ{L W} lg hW=>by
  have hm:(ck L).all iA=true:=by simp[iA,fQ,lg]
  have hm2:∀x∈ck L,iA x=true:=λx hx=>List.all_eq_true.mp hm x hx
  refine ap0 (n:=n+16) (i:=0) hm (by omega) ?_;have e:a_ bh (n+16) 3 [.dat .non,.dat W] (ck L)=.ret (.ex 19 vW (ck L)):=by
   rw[aag];simp only[List.mem_cons,List.not_mem_nil,or_false]at hW;rcases hW with rfl|rfl
   ·exact ZX (S_ (n:=n+13) (E_ (a:=2) (b:=2) (by omega) (by omega)) (by decide+kernel)) rfl
   ·exact ZX (S_ (n:=n+13) (E_ (a:=3) (b:=3) (by omega) (by omega)) (by decide+kernel)) rfl
  have nw:fQ W=true:=by
   simp only[List.mem_cons,List.not_mem_nil,or_false]at hW;rcases hW with rfl|rfl<;>exact Oh
  rw[show(35+0:Nat)=35 from rfl,adh];unfold yG;clear hW;generalize arX:ck L=AB at *;simp[nw,e];rw[if_pos hm2,gr rfl]
theorem akZ (ns:List Int)(hl:ns.length<=63):W (Gj [.dat (.fC ns)] [.tab 0]) λr=>∃M,r=.ok (.dat (.bl true)) M:=
 acq rfl (aic _ (tb 0) ns)
end jx
namespace jx
open PySem PySem.Spec PyProof.Rows L2 R
theorem anZ {K:Frag}{ns:List Int}{H:Hp}{a:Addr}(hT:H ((rA K).tab 0)=some (.tbl #[]))(hS:SqL K H a (ns.map V.int))(hl:ns.length<=63):z8 (rA K) K 1 Gj [.ref a] H (λv _=>v=.bl true) λ_ _ _=>False:=
 aie (rA K) hT hS (akZ ns hl)
end jx
open PySem PySem.W PySem.Calls PyProof.Rows
theorem PySem.Challenge.cw_feintkeys_k42_whole_safe_chords_holds : PySem.Challenge.rw_feintkeys_k42_whole_safe_chords.Holds := by
 w_on;o_law
 refine HandSHeadRun.head_any (r:=OpenLaw.row PySem.Challenge.rw_feintkeys_k42_whole_safe_chords) (q:=view (OpenLaw.row PySem.Challenge.rw_feintkeys_k42_whole_safe_chords).prog [44]) (H:=jx.hk) (ob:=jx.ob) (M:=6000) (loose:=jx.loose) (d:=HandSHeadRun.topDef (OpenLaw.row PySem.Challenge.rw_feintkeys_k42_whole_safe_chords).prog 44) (kwd:=[]) jx.akn
  (by kernel_rfl) (λs=>by kernel_rfl) jx.run (by kernel_rfl) (by kernel_rfl) (by kernel_rfl) (by rfl) (by first|assumption|decide+kernel) (by decide+kernel) ⟨rfl,rfl,rfl,rfl,rfl,by decide+kernel⟩ ?hw ?hc
 case hw=>w_witness2
 case hc=>
  refine R.apn (l:=PySem.Challenge.rw_feintkeys_k42_whole_safe_chords) (n:=63) (k:=40) (x:="_law_script") rfl (by decide) (by kernel_rfl) ⟨rfl,by decide,by decide⟩ (by kernel_rfl) ?F;intro w mg aE h Y G agl;obtain⟨K,KX,c⟩:=Y;have hmg:mg ("law":PySem.Str)=some (.ref aE):=by
   have e:(HandSHeadRun.topDef (OpenLaw.row PySem.Challenge.rw_feintkeys_k42_whole_safe_chords).prog 44).name=("law":PySem.Str):=by kernel_rfl
   rw[<-e];exact agl
  obtain⟨fd,c1,oc,od,gi,dY,cd,vs,cs,q1,q2,q3,pe,zX,hb,hF⟩:=jx.facts (P:=(PySem.Challenge.rw_feintkeys_k42_whole_safe_chords).prog) (w:=w) rfl rfl KX G hmg c;exact⟨K,fd,c1,_,oc,od,gi,dY,cd,vs,cs,R.z8 (jx.rA K) K 1 jx.Gj,KX,q1,q2,q3,pe,zX,hb,λH a ns hl hT hS=>jx.anZ hT hS hl,hF⟩
