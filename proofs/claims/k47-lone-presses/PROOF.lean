import PyProof.Rows.All
import Wide.All
import OpenK.AllK
import Wide.FinOn
import HandS.ForMost
import HandS.Walk
import HandS.ForExc
import HandS.Deep
import HandS.TupAny
import HandS.IsInst
import HandS.FStr
import HandS.Property
import HandS.OwnEq
import HandS.Zip
import HandS.Codes
import HandS.TryMany
import HandS.ExcSuper
import HandS.ExcField
import HandS.ExcIs
import HandS.HotCalls
import HandS.RaiseFrom
import HandS.SuiteRaise
import HandS.Lambda
import HandS.Nested
import HandS.ClsMeth
import HandS.Star
import HandS.MethStar
import HandS.MakeKw
import HandS.Defaults
import HandS.SortRule
import HandS.TupSets
import HandS.DictTup
import HandS.DictComp
import HandS.GenCall
import HandS.GenList
import HandS.HeadHook4
import HandS.HeadEnd
import HandS.CallRecv
import HandS.Head2
import HandS.Flow
import KE.KeyNested
import HandS.Style
import HandS.Finally
import HandS.Remove
import HandS.StrMore
import HandS.NoneIn
import KE.GoesEnum
import HandS.Conv
import HandS.More
import HandS.MakeKwOnly
import KE.KStateDown
import HandS.Head0
import HandS.Head1
import HandS.HeadHook1
import HandS.HeadHook2
import KE.KExcSuper
import HandS.ExcInit
import KE.KDflt
import HandS.EndOwn
import HandS.SortInts
import HandS.SetFor
import HandS.BoundList
import KE.KRevSl
import HandS.TupLe
import HandS.TupLen
import KE.KDictCopyH
import KE.KDictKeyed
import HandS.DictEq
import HandS.ExcInitHot
import HandS.ExcValue
import KE.KExcIs
import KE.KExcInit
import HandS.SetBool
import HandS.GenBody
import HandS.GenYield
import HandS.Comp
import KE.GoesDict
import HandS.SetTxt0
import PyProof.StrLaws
import PyProof.StrLawsIn
import Wide.Txt
import PyProof.FitsReplace
import KE.IntTextText
import PySem.Challenge.RW_feintkeys_k47_lone_presses
set_option Elab.async false
set_option linter.all false
set_option maxRecDepth 100000
set_option maxHeartbeats 0
open PySem.W (Frag)
namespace R
open PySem PySem.Spec PyProof.Rows L2
def Bv:List Str:=["Board","Bounds","Play","Rule","Seeker","Case","Paper","Keyboard","Busy","Shelf","Desk","FeintError","BadNumber","BadText","BadKey","BadWord","BadLook","BadState","BadRow","TooWide","Unlike","TooSoon","Steady","BadName","TakenName","Full","BadCommand","BadLimit","NoName","NothingLeft"]
def aZ (K:Frag)(x:Str):Addr:=match PySem.W.nsIn K mainGlobals x with
 |some (some (.ref a))=>a
 |_=>0
def bQ (K:Frag)(c:Nat):Addr:=aZ K (Bv.getD c Str.empty)
def DN:List String:=["NoneType","bool","int","str","list","tuple","dict"]
abbrev Fk:Type:=Frag->Bool
def wZ (K:Frag)(x f:Str):Addr:=match PySem.W.findIn K (.ref (aZ K x)) f with
 |some (some (.ref p))=>p
 |_=>0
def sH (x f:Str)(K:Frag):Addr:=match PySem.W.recIn K (wZ K x f) "property" with
 |some (.ref g::_)=>g
 |_=>0
def mA (x m:Str)(K:Frag):Addr:=He.ma K (aZ K x) m
def zC (x f:Str):Fk:=λK=>decide (PySem.W.findIn K (.ref (aZ K x)) f=some (some (.ref (wZ K x f))))&&(decide (PySem.W.specialIn K (.ref (wZ K x f)) "__get__"=some (some (.builtin "property.__get__")))&&(decide (PySem.W.takesIn K (.ref (wZ K x f))=some true)&&(match PySem.W.recIn K (wZ K x f) "property" with
 |some (.ref _::_)=>true
 |_=>false)))
def Iz (x:Str):Fk:=λK=>(He.Fa.cls x).ok K&&(decide (PySem.W.findIn K (.ref (aZ K x)) "__class__"=some (some (.builtin "object.__class__")))&&(decide (PySem.W.specialIn K (.builtin "object.__class__") "__get__"=some (some (.builtin "getset_descriptor.__get__")))&&(decide (PySem.W.takesIn K (.builtin "object.__class__")=some true)&&decide (PySem.W.mroIn K (aZ K x) (.type "object")=some true))))
def FW (c:Nat):Str:=Bv.getD c Str.empty
def CG (c:Nat)(cs:List Nat):Fk:=λK=>(DN.all λt=>decide (PySem.W.kitOne K (.type t) (.ref (bQ K c))=some false))&&cs.all λc'=>Iz (FW c') K&&decide (PySem.W.kitOne K (.ref (bQ K c')) (.ref (bQ K c))=some (c'==c))
structure eL where
 ad:Frag->Addr
 name:Str
 qual:Str
 st:Stmt
abbrev FnV:Type:=Option (Str×Str×Arguments×FuncBody×Scope×Addr×List (Str×Addr)×Value×Addr)
def uf (K:Frag)(a:Addr):FnV:=match K.lookup a with
 |some ⟨_,_,.func fd,_⟩=>some (fd.name,fd.qualname,fd.params,fd.body,fd.scope,fd.globals,fd.closure,fd.defaults,fd.builtins)
 |_=>none
def eL.val (d:eL):FnV:=some (d.name,d.qual,defArgs d.st,.stmts (defBody d.st),defScope d.st,mainGlobals,[],.none,builtinsNs)
def eL.ok (K:Frag)(d:eL):Bool:=PySem.W.keepIn K (.ref (d.ad K))&&(match K.lookup (d.ad K)with
 |some ⟨_,_,.func fd,_⟩=>PySem.W.codeIn K fd.code d.qual
 |_=>false)
def GZ (K:Frag)(C:Addr):Bool:=match K.lookup C with
 |some ⟨cls,_,.cls cd,sl⟩=>decide (cls=.type "type")&&((match cd.mro with
  | .ref c::bm=>c==C&&PySem.HandSPX.refsVE bm
  |_=>false)&&(cd.hasDict&&(!cd.hasDel&&(match sl.toList with
  |[_,_,_,_,s4,_]=>decide (s4=some (.builtin "ValueError.__new__"))
  |_=>false))))
 |_=>false
def Jv (K:Frag)(C:Addr):Bool:=GZ K C&&(decide (PySem.W.findIn K (.ref C) "__setattr__"=some (some (.builtin "object.__setattr__")))&&(decide (PySem.W.subIn K (.ref C) (.type "BaseException")=some true)&&(decide (PySem.W.typeIn K (.ref C)=some (.type "type"))&&PySem.W.keepIn K (.ref C))))
structure fu where
 x:Str
 qual:Str
 st:Stmt
 file:Str
abbrev AJ:Type:=Option (Str×Str×Arguments×FuncBody×Scope×Addr×List Str×Value×Addr×Value)
def fnX (K:Frag)(a:Addr):AJ:=match K.lookup a with
 |some ⟨_,_,.func fd,_⟩=>some (fd.name,fd.qualname,fd.params,fd.body,fd.scope,fd.globals,fd.closure.map (·.1),fd.kwdefaults,fd.builtins,fd.defaults)
 |_=>none
def fu.val (d:fu):AJ:=some ("__init__",d.qual,defArgs d.st,.stmts (defBody d.st),defScope d.st,mainGlobals,["__class__"],.none,builtinsNs,.none)
def Ge (K:Frag)(cd:Value)(v5:Str):Bool:=match cd with
 | .ref c=>(match K.lookup c with
  |some ⟨_,_,.fields vs,_⟩=>(match vs.toList with
   |_::_::.str f _::_=>v5==f
   |_=>false)
  |_=>false)
 |_=>false
def Gb (K:Frag)(cl:List (Str×Addr))(C:Addr):Bool:=match cl with
 |[(_,cZ)]=>(match K.lookup cZ with
  |some ⟨_,_,.cell (some (.ref c)),_⟩=>c==C
  |_=>false)
 |_=>false
def fu.ok (K:Frag)(d:fu):Bool:=match K.lookup (mA d.x "__init__" K)with
 |some ⟨_,_,.func fd,_⟩=>PySem.W.codeIn K fd.code d.qual&&(Ge K fd.code d.file&&(Gb K fd.closure (aZ K d.x)))
 |_=>false
abbrev qk:Type:=Bool×List FnV×List AJ
def obsE (b_:List Fk)(fn:List eL)(en:List fu)(K:Frag):qk:=(((b_.all λf=>f K)&&fn.all λd=>d.ok K)&&en.all λd=>d.ok K,fn.map λd=>uf K (d.ad K),en.map λd=>fnX K (mA d.x "__init__" K))
def valE (fn:List eL)(en:List fu):qk:=(true,fn.map eL.val,en.map fu.val)
def zD (x fld:Str):Fk:=λK=>Jv K (aZ K x)&&((match PySem.W.clsIn K (aZ K x)with
    |some cd=>decide (PySem.W.alongIn K "__init__" ((cd.mro.dropWhile (· != .ref (aZ K x))).drop 1)=some (some (.builtin "ValueError.__init__")))&&(cd.hasDict&&PySem.HandSPX.refsVE cd.mro)
    |none=>false)&&(decide (PySem.W.mroIn K (aZ K x) (.ref (aZ K x))=some true)&&(decide (PySem.W.subIn K (.ref (aZ K x)) (.type "ValueError")=some true)&&(decide (PySem.W.nsIn K mainGlobals "super"=some none)&&(decide (PySem.W.nsIn K cStatics "thirdparty.any"=some none)&&
  (decide (PySem.W.findIn K (.ref (aZ K x)) "code"=some none)&&(decide (PySem.W.findIn K (.ref (aZ K x)) fld=some none)&&(decide (PySem.W.findIn K (.ref (aZ K x)) "__init__"=some (some (.ref (mA x "__init__" K))))&&decide (PySem.W.typeIn K (.ref (mA x "__init__" K))=some (.type "function"))))))))))
def xD (K:Frag)(f:Addr):Addr:=match K.lookup f with
 |some ⟨_,_,.func fd,_⟩=>(match fd.code with
  | .ref c=>c
  |_=>0)
 |_=>0
def Am (K:Frag)(f:Addr):Addr:=match K.lookup (xD K f)with
 |some ⟨_,_,.fields vs,_⟩=>(match(vs[11]?:Option Value)with
  |some (Value.ref p)=>p
  |_=>0)
 |_=>0
def II (x:Str):Fk:=λK=>(match K.lookup (aZ K x)with
 |some ⟨_,_,.func fd,_⟩=>decide (fd.code=.ref (xD K (aZ K x)))
 |_=>false)&&((match K.lookup (xD K (aZ K x))with
 |some ⟨_,_,.fields vs,_⟩=>decide (vs[11]?=some (.ref (Am K (aZ K x))))
 |_=>false)&&(K.lookup (Am K (aZ K x))).isNone)
def PZ (c:Nat)(xs:List Str)(b:Bool):Fk:=λK=>decide (PySem.W.exmAny K (.ref (bQ K c)) (xs.map λx=>.ref (aZ K x))=some b)
def mO (x f:Str):Fk:=λK=>L2.xfB K (aZ K x)&&decide (PySem.W.findIn K (.ref (aZ K x)) f=some none)
def Ir (l:List (Nat×Bool))(xs:List Str):Fk:=λK=>l.all λp=>PZ p.1 xs p.2 K
def P8 (x:Str)(zs:List Str):Fk:=λK=>He.tupB K x (zs.map He.Dv.str)
end R
namespace R
open PySem PySem.Spec PyProof.Rows L2 PySem.W PySem.Calls
def sF (as:List Addr)(b_:List Fk)(fn:List eL)(en:List fu)(g:Addr->Option Obj):qk:=obsE b_ fn en (He.frG g as)
def vc (r:PySem.W.OpenRow)(M:Nat)(as:List Addr)(b_:List Fk)(dl:List eL)(el:List fu)(w:World):Prop:=
 ∀os:OsState,(HandSHeadRun.endF (HandSHeadRun.stepQ (HandSHeadRun.denQ HandSHeadRun.tabQ) r.prog w) M r.prog w os).map (λs=>sF as b_ dl el (HandSHeadRun.getT s))=some (valE dl el)
def Ly (r:PySem.W.OpenRow)(q:Program)(M:Nat)(loose:List Str)(w:World):Prop:=
 ∀os:OsState,(HandSHeadRun.endF (HandSHeadRun.stepQ (HandSHeadRun.denQ HandSHeadRun.tabQ) r.prog w) M r.prog w os).map (λs=>(HandSHeadRun.looksF r.prog (boot_heap w.params) s.abs,HandSHeadRun.seenQ q loose (importedModules r.prog.main.body) (λs=>xlAt q [] s&&recOk r.toRowW.records s) s.abs))=some (true,PySem.W.openGood q loose)
end R
namespace R
open PySem PySem.Spec PyProof.Rows L2 PySem.W PySem.Calls
abbrev EC:Type:=Str×List Str
end R
namespace R
open PySem PySem.Spec PyProof.Rows L2 PySem.W PySem.Calls
end R
namespace R
open PySem PySem.Spec PyProof.Rows L2 GenW
def Qc (l:List Nat):Fk:=λK=>l.all λc=>decide (PySem.W.subIn K (.ref (bQ K c)) (.type "StopIteration")=some false)
end R
namespace g8
open PySem PySem.Spec PyProof.Rows L2 R
def top (i:Nat):Stmt:=PySem.Challenge.pw_feintkeys_k47_lone_presses.main.body.getD i (.Pass ⟨0,0,0,0⟩)
def RU:List Nat:=[12]
def Ga:List (Nat×Bool):=[(12,true),(13,true),(16,true),(18,true),(28,true),(29,true)]
theorem fJ {N ps:List Str}{sc:Scope}(h:FnScope N ps sc:=by exact⟨rfl,rfl,rfl,by decide+kernel,rfl,by decide+kernel,by decide+kernel⟩):FnScope N ps sc:=h
abbrev J3:Stmt:=top 35
abbrev J4:Stmt:=top 36
abbrev sN:Stmt:=top 21
abbrev Kr:Stmt:=top 18
abbrev Ks:Stmt:=top 12
abbrev Ku:Stmt:=top 20
abbrev Kv:Stmt:=top 19
abbrev Kw:Stmt:=inClass (top 16) 2
abbrev Kx:Stmt:=inClass (top 33) 0
abbrev J5:Stmt:=inClass (top 33) 7
abbrev J6:Stmt:=top 32
abbrev J7:Stmt:=top 29
abbrev J8:Stmt:=top 31
abbrev J9:Stmt:=top 30
abbrev J_:Stmt:=inClass (top 16) 1
abbrev Ka:Stmt:=top 37
abbrev Kc:Stmt:=top 41
abbrev z7:Stmt:=top 40
abbrev DB:Stmt:=top 39
abbrev Kd:Stmt:=top 38
abbrev Ke:Stmt:=top 23
abbrev Kf:Stmt:=top 22
abbrev Kg:Stmt:=inClass (top 33) 4
abbrev Kh:Stmt:=top 24
abbrev Kl:Stmt:=inClass (top 16) 13
abbrev Km:Stmt:=inClass (top 33) 10
abbrev Kn:Stmt:=inClass (top 16) 14
abbrev Ko:Stmt:=inClass (top 33) 11
abbrev Kq:Stmt:=inClass (top 33) 5
abbrev k_:Stmt:=top 42
def Yg:List Str:=["len","int","str","list","tuple","range","enumerate","zip","max","min","all","any","isinstance","repr","sorted","set","bool","sum","dict"]
def dl:List eL:=[
 ⟨λK=>aZ K "_law_start","_law_start","_law_start",J3⟩,
 ⟨λK=>aZ K "_law_draw","_law_draw","_law_draw",J4⟩,
 ⟨λK=>aZ K "presses","presses","presses",sN⟩,
 ⟨λK=>aZ K "check_place","check_place","check_place",Kr⟩,
 ⟨λK=>aZ K "check_number","check_number","check_number",Ks⟩,
 ⟨λK=>aZ K "all_bits","all_bits","all_bits",Ku⟩,
 ⟨λK=>aZ K "reads_after","reads_after","reads_after",Kv⟩,
 ⟨sH "Bounds" "bounce","bounce","Bounds.bounce",Kw⟩,
 ⟨mA "Rule" "__init__","__init__","Rule.__init__",Kx⟩,
 ⟨mA "Rule" "verdict","verdict","Rule.verdict",J5⟩,
 ⟨λK=>aZ K "fits_pattern","fits_pattern","fits_pattern",J6⟩,
 ⟨λK=>aZ K "is_looks","is_looks","is_looks",J7⟩,
 ⟨λK=>aZ K "is_row","is_row","is_row",J8⟩,
 ⟨λK=>aZ K "all_looks","all_looks","all_looks",J9⟩,
 ⟨mA "Bounds" "__init__","__init__","Bounds.__init__",J_⟩,
 ⟨λK=>aZ K "_law_pick","_law_pick","_law_pick",Ka⟩,
 ⟨λK=>aZ K "_law_tries","_law_tries","_law_tries",Kc⟩,
 ⟨λK=>aZ K "_law_try","_law_try","_law_try",z7⟩,
 ⟨λK=>aZ K "_law_fields","_law_fields","_law_fields",DB⟩,
 ⟨λK=>aZ K "_law_like","_law_like","_law_like",Kd⟩,
 ⟨λK=>aZ K "delay","delay","delay",Ke⟩,
 ⟨λK=>aZ K "verdicts","verdicts","verdicts",Kf⟩,
 ⟨sH "Rule" "depth","depth","Rule.depth",Kg⟩,
 ⟨λK=>aZ K "flutter","flutter","flutter",Kh⟩,
 ⟨mA "Bounds" "__eq__","__eq__","Bounds.__eq__",Kl⟩,
 ⟨mA "Rule" "__eq__","__eq__","Rule.__eq__",Km⟩,
 ⟨mA "Bounds" "__repr__","__repr__","Bounds.__repr__",Kn⟩,
 ⟨mA "Rule" "__repr__","__repr__","Rule.__repr__",Ko⟩,
 ⟨sH "Rule" "text","text","Rule.text",Kq⟩,
 ⟨λK=>aZ K "law","law","law",k_⟩
]
def el:List fu:=[⟨"BadNumber","BadNumber.__init__",inClass (top 3) 0,"/claim/cut.py"⟩,⟨"BadRow","BadRow.__init__",inClass (top 6) 0,"/claim/cut.py"⟩,⟨"BadLook","BadLook.__init__",inClass (top 5) 0,"/claim/cut.py"⟩]
def b_:List Fk:=[
 λK=>Yg.all λx=>(He.Fa.free x).ok K,
 λK=>(He.Fa.glo "check_place").ok K,
 λK=>(He.Fa.cls "Bounds").ok K,
 zC "Bounds" "bounce",
 λK=>(He.Fa.glo "reads_after").ok K,
 λK=>(He.Fa.glo "all_bits").ok K,
 λK=>(He.Fa.int "MOST_TICKS" 6).ok K,
 λK=>(He.Fa.glo "check_number").ok K,
 zD "BadNumber" "given",
 λK=>(He.Fa.glo "BadNumber").ok K,
 λK=>(He.Fa.noat "Bounds" "own_bounce").ok K,
 λK=>(He.Fa.int "MOST_DEPTH" 2).ok K,
 λK=>(He.Fa.int "MOST_ROWS" 12).ok K,
 zD "BadRow" "at",
 λK=>(He.Fa.glo "BadRow").ok K,
 λK=>(He.Fa.glo "is_row").ok K,
 λK=>(He.Fa.cls "Rule").ok K,
 λK=>(He.Fa.noat "Rule" "own_depth").ok K,
 λK=>(He.Fa.noat "Rule" "own_rows").ok K,
 λK=>(He.Fa.glo "all_looks").ok K,
 λK=>(He.Fa.meth "Rule" "verdict").ok K,
 λK=>(He.Fa.noat "Rule" "own_table").ok K,
 λK=>(He.Fa.glo "is_looks").ok K,
 zD "BadLook" "given",
 λK=>(He.Fa.glo "BadLook").ok K,
 λK=>(He.Fa.glo "fits_pattern").ok K,
 P8 "VERDICTS" ["down","up","keep"],
 λK=>(He.Fa.glo "VERDICTS").ok K,
 λK=>(He.Fa.int "MOST_BOUNCE" 6).ok K,
 λK=>(He.Fa.int "MOST_HOLD" 12).ok K,
 λK=>(He.Fa.noat "Bounds" "own_hold").ok K,
 λK=>(He.Fa.noat "Bounds" "own_pair").ok K,
 λK=>(He.Fa.glo "_law_draw").ok K,
 λK=>(He.Fa.glo "_law_try").ok K,
 λK=>(He.Fa.glo "FeintError").ok K,
 λK=>(He.Fa.glo "NoName").ok K,
 λK=>(He.Fa.glo "NothingLeft").ok K,
 Ir Ga ["FeintError","NoName","NothingLeft"],
 λK=>(He.Fa.glo "_law_fields").ok K,
 mO "BadNumber" "code",
 mO "BadText" "code",
 mO "BadLook" "code",
 mO "BadRow" "code",
 mO "NoName" "code",
 mO "NothingLeft" "code",
 mO "BadNumber" "given",
 mO "BadText" "given",
 mO "BadLook" "given",
 mO "BadRow" "at",
 mO "NoName" "name",
 λK=>(He.Fa.glo "_law_like").ok K,
 λK=>(He.Fa.glo "presses").ok K,
 Qc RU,
 zC "Rule" "depth",
 CG 1 [1],
 λK=>(He.Fa.glo "Bounds").ok K,
 CG 3 [3],
 λK=>(He.Fa.glo "Rule").ok K,
 zC "Rule" "text",
 λK=>(He.Fa.glo "_law_start").ok K,
 λK=>(He.Fa.mkr "Bounds").ok K,
 λK=>(He.Fa.glo "_law_pick").ok K,
 λK=>(He.Fa.mkr "Rule").ok K,
 λK=>(He.Fa.glo "_law_tries").ok K,
 λK=>(He.Fa.glo "delay").ok K,
 λK=>(He.Fa.glo "flutter").ok K,
 λK=>(He.Fa.glo "law").ok K,
 II "law"
]
end g8
namespace g8
open PySem PySem.Spec PyProof.Rows L2 R
abbrev yb:PySem.W.OpenRow:=PySem.W.OpenLaw.row PySem.Challenge.rw_feintkeys_k47_lone_presses
def Fj:List Nat:=[2,3,6,4,21,31,53,74,95,116,137,159,167,174,284,295,300,305,312,317,324,331,332,337,342,347,352,453,464,471,478,483,490,497,502,507,0,20,30,52,73,94,115,136,158,166,173,283,294,299,304,311,316,323,330,336,341,346,351,452,463,470,477,482,489,496,501,506,15,17,18,19,29,32,50,51,71,72,92,93,113,114,134,135,138,156,157,160,163,165,168,170,171,172,188,196,204,211,218,225,232,239,246,253,260,267,274,281,282,285,286,289,291,292,293,296,298,301,303,306,308,309,310,313,315,318,320,321,322,325,327,328,329,333,335,338,340,343,345,348,350,364,373,383,393,402,408,415,422,429,436,443,450,451,454,455,458,460,461,462,465,467,468,469,472,474,475,476,479,481,484,486,487,488,491,493,494,495,498,500,503,505,49,38,70,59,91,80,112,101,133,122,155,144,187,195,203,210,217,224,231,238,245,252,259,266,273,280,363,371,372,381,382,391,392,401,407,414,421,428,435,442,449,44,46,47,48,65,67,68,69,86,88,89,90,107,109,110,111,128,130,131,132,150,152,153,154,182,184,185,186,194,202,205,207,208,209,212,214,215,216,219,221,222,223,226,228,229,230,233,235,236,237,240,242,243,244,247,249,250,251,254,256,257,258,261,263,264,265,268,270,271,272,275,277,278,279,360,362,370,374,380,384,390,394,400,406,409,411,412,413,416,418,419,420,423,425,426,427,430,432,433,434,437,439,440,441,444,446,447,448,189,191,192,193,197,199,200,201,365,367,368,369,375,377,378,379,385,387,388,389,395,397,398,399,403,405]
def loose:List Str:=[("_wall":Str),("__name__":Str),("FeintError":Str),("BadNumber":Str),("BadText":Str),("BadLook":Str),("BadRow":Str),("NoName":Str),("NothingLeft":Str),("MOST_TICKS":Str),("number_of":Str),("check_number":Str),("MOST_BOUNCE":Str),("MOST_HOLD":Str),("Bounds":Str),("check_place":Str),("reads_after":Str),("all_bits":Str),("presses":Str),("verdicts":Str),("delay":Str),("flutter":Str),("MOST_DEPTH":Str),("MOST_ROWS":Str),("VERDICTS":Str),("is_looks":Str),("all_looks":Str),("is_row":Str),("fits_pattern":Str),("Rule":Str),("_law_start":Str),("_law_draw":Str),("_law_pick":Str),("_law_like":Str),("_law_fields":Str),("_law_try":Str),("_law_tries":Str)]
theorem adw (w:World):Ly yb (PySem.W.view yb.prog [42]) 12000 loose w:=by
 intro os
 kernel_rfl
theorem adu (w:World):vc yb 12000 Fj b_ dl el w:=by
 intro os
 kernel_rfl
end g8
namespace R
open PySem PySem.Spec PyProof.Rows L2
inductive D where
 |non|bl (b:Bool)|int (i:Int)|str (x:Str)
 |lst (xs:List D)|tup (xs:List D)
 |dK (kvs:List (Key×D))|dT (kvs:List (List Key×D))
 |ins (c:Nat) (fs:List (Str×D))
 |d9 (ns:List Int)
 |exc (c:Nat) (fs:List (Str×D))
 |cL (i:Nat) (ws:List D)
 |lam (i:Nat)
structure eo where
 qual:Str
 params:Arguments
 body:Expr
 scope:Scope
 fr:List Str
 dfl:Bool
 pn:List Str
 loc:List Str
abbrev eo.N (T:eo):List Str:=T.pn++(T.fr++T.loc)
class aI where
 txt:Nat->eo
 tab:Nat->Addr
 jU:Nat->Str
 cells:List (Str×Addr)
structure VZ (C d:Addr)(o:Obj):Prop where
 cls:o.cls=.ref C
 dict:o.dict=some d
 data:∃vs,o.data=.fields vs
def bM (a:Addr)(o:Obj):HO:=.ext λh=>h.get? a=some o
def ju (T:eo)(cl:List (Str×Addr))(c':Addr)(tp:Addr)(pm ctv doc:Value):FuncData:=
 { name:="<lambda>",qualname:=T.qual,params:=T.params,body:=.expr T.body,scope:=T.scope,globals:=mainGlobals,closure:=cl,defaults:=if T.dfl then .ref tp else .none,kwdefaults:=.none,doc:=doc,pyModule:=pm,annotations:=none,code:=.ref c',closureTuple:=ctv,builtins:=builtinsNs}
def rJ (f:Addr)(T:eo)(cl:List (Str×Addr))(c' tp:Addr):HO:=.ext λh=>∃pm ctv doc,h.get? f=some {cls:=.type "function",data:=.func (ju T cl c' tp pm ctv doc)}
structure pO (G:Hp)(f:Addr)(T:eo)(cl:List (Str×Addr))(c' tp:Addr):Prop where
 f:G f=some (rJ f T cl c' tp)
 c:G c'=some (LamX.CodeO c' T.qual)
 t:T.dfl=true->G tp=some (.tup [.int 0])
theorem pO.mono {G ai:Hp}{f:Addr}{T:eo}{cl:List (Str×Addr)}{c' tp:Addr}(e:∀a o,G a=some o->ai a=some o)(h:pO G f T cl c' tp):pO ai f T cl c' tp:=⟨e _ _ h.f,e _ _ h.c,λz=>e _ _ (h.t z)⟩
structure ql (G:Hp)(T:eo)(cl:List (Str×Addr))(vs:List V):Prop where
 len:vs.length=T.fr.length
 inj:∀x y c,cl.lookup x=some c->cl.lookup y=some c->x=y
 own:∀y c,cl.lookup y=some c->y∈T.fr
 has:∀(k:Nat) y v,T.fr[k]?=some y->vs[k]?=some v->∃c o u,cl.lookup y=some c/\G c=some (bM c o)/\o.data=.cell (some u)/\RelV v u
theorem ql.mono {G ai:Hp}{T:eo}{cl:List (Str×Addr)}{vs:List V}(e:∀a o,G a=some o->ai a=some o)(h:ql G T cl vs):ql ai T cl vs:=
 ⟨h.len,h.inj,h.own,λk y v h1 h2=>by obtain⟨c,o,u,a,b,r⟩:=h.has k y v h1 h2;exact⟨c,o,u,a,e _ _ b,r⟩⟩
variable[aI]
mutual
inductive bK [aI](K:Frag)(G:Hp):V->D->Prop
 |non:bK K G .non .non
 |bl (b:Bool):bK K G (.bl b) (.bl b)
 |int (i:Int):bK K G (.int i) (.int i)
 |str (x:Str):bK K G (.str x) (.str x)
 |lst {a:Addr} {xs:List V} {ds:List D}:G a=some (.lst xs)->bJ K G xs ds->bK K G (.ref a) (.lst ds)
 |d9 {a:Addr} {ns:List Int}:SqL K G a (ns.map V.int)->bK K G (.ref a) (.d9 ns)
 |tup {a:Addr} {xs:List V} {ds:List D}:G a=some (.tup xs)->bJ K G xs ds->bK K G (.ref a) (.tup ds)
 |dK {a:Addr} {xs:List (Key×V)} {ds:List (Key×D)}:Rd G a (.dK xs)->lD K G xs ds->bK K G (.ref a) (.dK ds)
 |dT {a:Addr} {o:Obj} {xs:List (List Key×V)} {ds:List (List Key×D)}:G a=some (.frz o (.dT xs))->ni K G xs ds->bK K G (.ref a) (.dT ds)
 |ins {a bx:Addr} {c:Nat} {bG:List (Str×V)} {fs:List (Str×D)}:G a=some (.ins (bQ K c) bx bG)->fG K G bG fs->bK K G (.ref a) (.ins c fs)
 |exc {a bx:Addr} {c:Nat} {bG:List (Str×V)} {fs:List (Str×D)} {o:Obj}:G a=some (bM a o)->VZ (bQ K c) bx o->G bx=some (.xd bG)->fG K G bG fs->bK K G (.ref a) (.exc c fs)
 |cL {f c' tp:Addr} {i:Nat} {cl:List (Str×Addr)} {vs:List V} {ws:List D}:pO G f (aI.txt i) cl c' tp->ql G (aI.txt i) cl vs->bJ K G vs ws->bK K G (.ref f) (.cL i ws)
 |lam {f c' tp:Addr} {i:Nat}:pO G f (aI.txt i) (cloFrom aI.cells (aI.txt i).scope.names []) c' tp->bK K G (.ref f) (.lam i)
inductive bJ [aI](K:Frag)(G:Hp):List V->List D->Prop
 |nil:bJ K G [] []
 |cons {v:V} {vs:List V} {d:D} {ds:List D}:bK K G v d->bJ K G vs ds->bJ K G (v::vs) (d::ds)
inductive fG [aI](K:Frag)(G:Hp):List (Str×V)->List (Str×D)->Prop
 |nil:fG K G [] []
 |cons {n:Str} {v:V} {vs:List (Str×V)} {d:D} {ds:List (Str×D)}:bK K G v d->fG K G vs ds->fG K G ((n,v)::vs) ((n,d)::ds)
inductive lD [aI](K:Frag)(G:Hp):List (Key×V)->List (Key×D)->Prop
 |nil:lD K G [] []
 |cons {n:Key} {v:V} {vs:List (Key×V)} {d:D} {ds:List (Key×D)}:bK K G v d->lD K G vs ds->lD K G ((n,v)::vs) ((n,d)::ds)
inductive ni [aI](K:Frag)(G:Hp):List (List Key×V)->List (List Key×D)->Prop
 |nil:ni K G [] []
 |cons {n:List Key} {v:V} {vs:List (List Key×V)} {d:D} {ds:List (List Key×D)}:bK K G v d->ni K G vs ds->ni K G ((n,v)::vs) ((n,d)::ds)
end
def aa9:HO->Bool
 | .dK _=>true
 | .dT _=>true
 |_=>false
def dM (G H:Hp):Prop:=∀a o,G a=some o->H a=some o\/(aa9 o=true/\∃ob,H a=some (.frz ob o))
theorem dM.refl (G:Hp):dM G G:=λ_ _ h=>.inl h
def b6 (H H':Hp):Prop:=∀a o,H a=some o->H' a=some o
theorem b6.refl (H:Hp):b6 H H:=λ_ _ h=>h
theorem b6.trans {H H1 aO:Hp}(a:b6 H H1)(b:b6 H1 aO):b6 H aO:=λx o h=>b x o (a x o h)
theorem b6.new {H:Hp}{p:Addr}{o:HO}(h:H p=none):b6 H (upd H p o):=λa u e=>by
 rw[upd_ne (ne_of_none e h)];exact e
theorem b6.le {G H:Hp}(e:b6 G H):dM G H:=λa o h=>.inl (e a o h)
theorem b6.dM {G ai H:Hp}(e:b6 G ai)(l:dM ai H):R.dM G H:=λa o h=>l a o (e a o h)
theorem dM.ex {G H H':Hp}(l:dM G H)(e:b6 H H'):dM G H':=λa o h=>(l a o h).elim (λz=>.inl (e _ _ z)) λ⟨z,ob,w⟩=>.inr ⟨z,ob,e _ _ w⟩
theorem dM.rd {G H:Hp}{a:Addr}{u:HO}(e:dM G H)(h:Rd G a u):Rd H a u:=by
 rcases h with h|⟨o,h⟩
 ·rcases e a _ h with z|⟨_,ob,z⟩
  ·exact .inl z
  ·exact .inr ⟨ob,z⟩
 ·rcases e a _ h with z|⟨w,ob,z⟩
  ·exact .inr ⟨o,z⟩
  ·cases w
theorem dM.l {K:Frag}{G H:Hp}{a:Addr}{xs:List V}(e:dM G H)(h:SqL K G a xs):SqL K H a xs:=by
 rcases h with h|h
 ·exact .inl (e.rd h)
 ·exact .inr h
theorem dM.t {K:Frag}{G H:Hp}{a:Addr}{xs:List V}(e:dM G H)(h:SqT K G a xs):SqT K H a xs:=by
 rcases h with h|h
 ·exact .inl (e.rd h)
 ·exact .inr h
theorem dM.lst {G H:Hp}{a:Addr}{xs:List V}(e:dM G H)(h:G a=some (.lst xs)):H a=some (.lst xs):=by
 rcases e a _ h with z|⟨w,_⟩
 ·exact z
 ·cases w
theorem dM.ins {G H:Hp}{a C bx:Addr}{fs:List (Str×V)}(e:dM G H)(h:G a=some (.ins C bx fs)):H a=some (.ins C bx fs):=by
 rcases e a _ h with z|⟨w,_⟩
 ·exact z
 ·cases w
theorem b6.rd {G H:Hp}{a:Addr}{u:HO}(e:b6 G H)(h:Rd G a u):Rd H a u:=by
 rcases h with h|⟨o,h⟩
 ·exact .inl (e a _ h)
 ·exact .inr ⟨o,e a _ h⟩
theorem b6.l {K:Frag}{G H:Hp}{a:Addr}{xs:List V}(e:b6 G H)(h:SqL K G a xs):SqL K H a xs:=e.le.l h
theorem b6.t {K:Frag}{G H:Hp}{a:Addr}{xs:List V}(e:b6 G H)(h:SqT K G a xs):SqT K H a xs:=e.le.t h
section
variable{K:Frag}{G ai:Hp}
mutual
theorem bK.mono (e:b6 G ai):∀{v:V} {d:D},bK K G v d->bK K ai v d
 |_,_,.non=>.non
 |_,_,.bl b=>.bl b
 |_,_,.int i=>.int i
 |_,_,.str x=>.str x
 |_,_,.lst h r=>.lst (e _ _ h) (bJ.mono e r)
 |_,_,.d9 h=>.d9 (e.l h)
 |_,_,.tup h r=>.tup (e _ _ h) (bJ.mono e r)
 |_,_,.dK h r=>.dK (e.rd h) (lD.mono e r)
 |_,_,.dT h r=>.dT (e _ _ h) (ni.mono e r)
 |_,_,.ins h r=>.ins (e _ _ h) (fG.mono e r)
 |_,_,.exc h1 h0 h2 r=>.exc (e _ _ h1) h0 (e _ _ h2) (fG.mono e r)
 |_,_,.cL h1 h2 r=>.cL (h1.mono e) (h2.mono e) (bJ.mono e r)
 |_,_,.lam h=>.lam (h.mono e)
theorem bJ.mono (e:b6 G ai):∀{v:List V} {d:List D},bJ K G v d->bJ K ai v d
 |_,_,.nil=>.nil
 |_,_,.cons h r=>.cons (bK.mono e h) (bJ.mono e r)
theorem fG.mono (e:b6 G ai):∀{v:List (Str×V)} {d:List (Str×D)},fG K G v d->fG K ai v d
 |_,_,.nil=>.nil
 |_,_,.cons h r=>.cons (bK.mono e h) (fG.mono e r)
theorem lD.mono (e:b6 G ai):∀{v:List (Key×V)} {d:List (Key×D)},lD K G v d->lD K ai v d
 |_,_,.nil=>.nil
 |_,_,.cons h r=>.cons (bK.mono e h) (lD.mono e r)
theorem ni.mono (e:b6 G ai):∀{v:List (List Key×V)} {d:List (List Key×D)},ni K G v d->ni K ai v d
 |_,_,.nil=>.nil
 |_,_,.cons h r=>.cons (bK.mono e h) (ni.mono e r)
end
theorem bJ.length:∀{vs:List V} {ds:List D},bJ K G vs ds->vs.length=ds.length
 |_,_,.nil=>rfl
 |_,_,.cons _ r=>congrArg Nat.succ (bJ.length r)
theorem bJ.get:∀{vs:List V} {ds:List D} {i:Nat} {d:D},bJ K G vs ds->ds[i]?=some d->∃v,vs[i]?=some v/\bK K G v d
 |_,_,_,_,.nil,e=>by simp at e
 |_,_,0,_,.cons h _,e=>by simp at e;subst e;exact⟨_,rfl,h⟩
 |_,_,i+1,_,.cons _ r,e=>by
  obtain⟨v,h1,h2⟩:=bJ.get (i:=i) r (by simpa using e);exact⟨v,by simpa using h1,h2⟩
theorem bJ.append:∀{vs ws:List V} {ds es:List D},bJ K G vs ds->bJ K G ws es->bJ K G (vs++ws) (ds++es)
 |_,_,_,_,.nil,s=>s
 |_,_,_,_,.cons h r,s=>.cons h (bJ.append r s)
theorem bJ.drop:∀{vs:List V} {ds:List D} (n:Nat),bJ K G vs ds->bJ K G (vs.drop n) (ds.drop n)
 |_,_,0,r=>r
 |_,_,_+1,.nil=>.nil
 |_,_,n+1,.cons _ r=>bJ.drop n r
theorem bJ.take:∀{vs:List V} {ds:List D} (n:Nat),bJ K G vs ds->bJ K G (vs.take n) (ds.take n)
 |_,_,0,_=>.nil
 |_,_,_+1,.nil=>.nil
 |_,_,n+1,.cons h r=>.cons h (bJ.take n r)
theorem fG.lookup:∀{bG:List (Str×V)} {fs:List (Str×D)} {n:Str} {d:D},fG K G bG fs->fs.lookup n=some d->∃v,bG.lookup n=some v/\bK K G v d
 |_,_,_,_,.nil,e=>by cases e
 |_,_,n,d,.cons (n:=m) (v:=v) (vs:=vs) (d:=gu) (ds:=ds) h r,e=>by
  rw[List.lookup_cons]at e⊢;cases q:(n==m)with
  |true=>rw[q]at e;cases e;exact⟨_,rfl,h⟩
  |false=>rw[q]at e;exact fG.lookup r e
theorem fG.zI:∀{bG:List (Str×V)} {fs:List (Str×D)} {n:Str},fG K G bG fs->fs.lookup n=none->bG.lookup n=none
 |_,_,_,.nil,e=>rfl
 |_,_,n,.cons (n:=m) (v:=v) (vs:=vs) (d:=gu) (ds:=ds) h r,e=>by
  rw[List.lookup_cons]at e⊢;cases q:(n==m)with
  |true=>rw[q]at e;cases e
  |false=>rw[q]at e;exact fG.zI r e
end
mutual
inductive vo:D->NestedKey->Prop
 |i (n:Int):vo (.int n) (.num n)
 |t {ds:List D} {ks:List NestedKey}:vp ds ks->vo (.tup ds) (.tup ks)
inductive vp:List D->List NestedKey->Prop
 |nil:vp [] []
 |cons {d:D} {ds:List D} {k:NestedKey} {ks:List NestedKey}:vo d k->vp ds ks->vp (d::ds) (k::ks)
end
def vd (K:Frag)(G:Hp)(e:DictEntry)(p:D×D):Prop:=∃(b:Addr) (v:V) (k:NestedKey),e.key=.ref b/\bK K G (.ref b) p.1/\bK K G v p.2/\RelV v e.val/\vo p.1 k/\∀w,e.hash=k.hash w
theorem vd.mono {K:Frag}{G ai:Hp}{e:DictEntry}{p:D×D}(x:b6 G ai)(h:vd K G e p):vd K ai e p:=by
 obtain⟨b,v,k,h1,h2,h3,h4⟩:=h;exact⟨b,v,k,h1,bK.mono x h2,bK.mono x h3,h4⟩
inductive af where
 |un|dat (d:D)|mu (j:Nat)|raw (v:V)
inductive ak where
 |fz (d:Option D)|hand|tab (i:Nat)
 |lst (xs:List af)
 |dK (kvs:List (Key×af))|dT (kvs:List (List Key×af))
 |ins (c:Nat) (fs:List (Str×af))
 |qx (kvs:List (D×D))
def ak.live:ak->Prop
 | .fz _=>False
 |_=>True
def bz (K:Frag)(aa:List Addr)(G:Hp)(v:V):af->Prop
 | .un=>True
 | .dat d=>bK K G v d
 | .mu j=>∃a,aa[j]?=some a/\v=.ref a
 | .raw w=>v=w
def bA (K:Frag)(aa:List Addr)(G:Hp)(vs:List V)(ss:List af):Prop:=Paired (bz K aa G) vs ss
def gp {cW:Type}(K:Frag)(aa:List Addr)(G:Hp)(vs:List (cW×V))(ss:List (cW×af)):Prop:=Paired (λp q=>p.1=q.1/\bz K aa G p.2 q.2) vs ss
def xY (K:Frag)(G H:Hp)(a:Addr):Prop:=
 ∃(s:Addr) (ns:List Int) (i d x y:Int),H a=some (.lst [.ref s,.int i,.int d,.int x,.int y])/\G s=some (.lst (ns.map V.int))/\ns.length<=63/\0<=i/\0<=x/\x<2147483647
def nh (K:Frag)(aa:List Addr)(G H:Hp)(a:Addr):ak->Prop
 | .fz o=>(∃u,G a=some u/\∀ob,u≠bM a ob)/\∀d,o=some d->bK K G (.ref a) d
 | .hand=>xY K G H a
 | .tab i=>a=aI.tab i/\∃ps:Array Value,H a=some (.tbl ps)/\TriplesOk ps.toList/\∀(pos:Pos) (ie:Value),codeAmong pos ps.toList=some ie->∃c,ie=.ref c/\G c=some (LamX.CodeO c (aI.jU i))
 | .lst xs=>∃vs,H a=some (.lst vs)/\bA K aa G vs xs
 | .dK xs=>∃vs,H a=some (.dK vs)/\gp K aa G vs xs
 | .dT xs=>∃vs,H a=some (.dT vs)/\gp K aa G vs xs
 | .ins c fs=>∃bx bG,H a=some (.ins (bQ K c) bx bG)/\gp K aa G bG fs
 | .qx xs=>(a==sysModules)=false/\∃(es:Array DictEntry) (eZ:Nat),H a=some (.ext λh=>_root_.DT.Raw h a es eZ)/\Paired (vd K G) es.toList xs
structure aE (K:Frag)(aa:List Addr)(G:Hp)(M:List ak)(H:Hp):Prop where
 le:dM G H
 len:aa.length=M.length
 nd:aa.Nodup
 mo:∀(j:Nat) a m,aa[j]?=some a->M[j]?=some m->(m.live->G a=none)/\nh K aa G H a m
 dQ:∀a∈aa,H a≠none
structure bO (K:Frag)(aa:List Addr)(G:Hp)(σ:L2.St)(ρ:List af):Prop where
 len:σ.length=ρ.length
 at_:∀(i:Nat) s,ρ[i]?=some s->s=.un\/∃v,σ[i]?=some (some v)/\bz K aa G v s
def Same (ai G H:Hp)(a:Addr):Prop:=ai a=G a\/∃xs,H a=some (.tup xs)/\ai a=some (.tup xs)
theorem Same.old {ai G H:Hp}{a:Addr}{o:HO}(s:Same ai G H a)(h:H a=some o)(n:∀xs,o≠.tup xs):ai a=G a:=by
 rcases s with s|⟨xs,s,_⟩
 ·exact s
 ·rw[h]at s;cases s;exact absurd rfl (n xs)
structure aG (aa:List Addr)(G H:Hp)(aj:List Addr)(ai H':Hp):Prop where
 ex:b6 G ai
 pre:∃more,aj=aa++more/\∀a∈more,H a=none
 fr:∀a o,H a=some o->a∉aa->H' a=some o
 jM:∀a,H a≠none->a∉aa->Same ai G H a
 dQ:∀a,H a≠none->H' a≠none
theorem aG.refl (aa:List Addr)(G H:Hp):aG aa G H aa G H:=⟨b6.refl G,⟨[],by simp,by simp⟩,λ_ _ h _=>h,λ_ _ _=>.inl rfl,λ_ h=>h⟩
theorem aG.trans {aa av aM:List Addr}{G au aU H H1 aO:Hp}(a:aG aa G H av au H1)(b:aG av au H1 aM aU aO):aG aa G H aM aU aO:=by
 obtain⟨m1,e1,n1⟩:=a.pre;obtain⟨m2,e2,n2⟩:=b.pre;have RL:∀x,H x≠none->x∉aa->x∉av:=λx hx h z=>by
  rw[e1]at z;rcases List.mem_append.mp z with z|z
  ·exact h z
  ·exact hx (n1 x z)
 refine⟨a.ex.trans b.ex,⟨m1++m2,by rw[e2,e1,List.append_assoc],λx hx=>?_⟩,λx o h hn=>?_,λx h hn=>?_,λx h=>b.dQ x (a.dQ x h)⟩
 ·rcases List.mem_append.mp hx with z|z
  ·exact n1 x z
  ·have h1:=n2 x z
   cases q:H x with
   |none=>rfl
   |some o=>exact absurd h1 (a.dQ x (by rw[q];simp))
 ·exact b.fr x o (a.fr x o h hn) (RL x (by rw[h];simp) hn)
 ·rcases b.jM x (a.dQ x h) (RL x h hn)with z|⟨xs,fY,d_⟩
  ·rcases a.jM x h hn with y|⟨xs,rA,m8⟩
   ·exact .inl (z.trans y)
   ·exact .inr ⟨xs,rA,z.trans m8⟩
  ·cases q:H x with
   |none=>exact absurd q h
   |some o=>
    have w:=a.fr x o q hn;rw[fY]at w;cases w
    exact .inr ⟨xs,q,d_⟩
theorem aG.get {aa aj:List Addr}{G ai H H':Hp}(g:aG aa G H aj ai H'){j:Nat}{a:Addr}(h:aa[j]?=some a):aj[j]?=some a:=by
 obtain⟨m,e,_⟩:=g.pre;rw[e,List.getElem?_append_left (List.getElem?_eq_some_iff.mp h).1];exact h
section
variable{K:Frag}{aa aj:List Addr}{G ai H H':Hp}{M ao:List ak}{ρ:List af}{σ:L2.St}
theorem bz.mono {v:V}{s:af}(e:b6 G ai)(p:∀(j:Nat) a,aa[j]?=some a->aj[j]?=some a)(h:bz K aa G v s):bz K aj ai v s:=by
 cases s with
 |un=>trivial
 |dat d=>exact bK.mono e h
 |mu j=>obtain⟨a,h1,h2⟩:=h;exact⟨a,p _ _ h1,h2⟩
 |raw w=>exact h
theorem bz.grow {v:V}{s:af}(g:aG aa G H aj ai H')(h:bz K aa G v s):bz K aj ai v s:=h.mono g.ex λ_ _=>g.get
theorem bA.mono {vs:List V}{ss:List af}(e:b6 G ai)(p:∀(j:Nat) a,aa[j]?=some a->aj[j]?=some a)(h:bA K aa G vs ss):bA K aj ai vs ss:=Paired.mapP h λ_ _ z=>z.mono e p
theorem bA.grow {vs:List V}{ss:List af}(g:aG aa G H aj ai H')(h:bA K aa G vs ss):bA K aj ai vs ss:=h.mono g.ex λ_ _=>g.get
theorem gp.mono {cW:Type}{vs:List (cW×V)}{ss:List (cW×af)}(e:b6 G ai)(p:∀(j:Nat) a,aa[j]?=some a->aj[j]?=some a)(h:gp K aa G vs ss):gp K aj ai vs ss:=Paired.mapP h λ_ _ z=>⟨z.1,z.2.mono e p⟩
theorem bO.grow (g:aG aa G H aj ai H')(h:bO K aa G σ ρ):bO K aj ai σ ρ:=⟨h.len,λi s e=>(h.at_ i s e).elim .inl λ⟨v,e1,r⟩=>.inr ⟨v,e1,r.grow g⟩⟩
theorem bO.set {i:Nat}{v:V}{s:af}(h:bO K aa G σ ρ)(r:bz K aa G v s):bO K aa G (σ.set i (some v)) (ρ.set i s):=by
 refine⟨by rw[List.length_set,List.length_set];exact h.len,λj t e=>?_⟩;by_cases hj:i=j
 ·subst hj
  rw[List.getElem?_set]at e;split at e
  ·split at e
   ·cases e
    refine .inr ⟨v,?_,r⟩;rw[List.getElem?_set_self (by rw[h.len];assumption)]
   ·cases e
  ·exact absurd rfl ‹_›
 ·rw[List.getElem?_set_ne hj]at e⊢
  exact h.at_ j t e
theorem xY.mono {a:Addr}(e:b6 G ai)(hh:H' a=H a)(h:xY K G H a):xY K ai H' a:=by
 obtain⟨s,ns,i,d,x,y,h1,h2,h3⟩:=h;exact⟨s,ns,i,d,x,y,by rw[hh];exact h1,e _ _ h2,h3⟩
theorem nh.mono {a:Addr}{m:ak}(e:b6 G ai)(p:∀(j:Nat) a,aa[j]?=some a->aj[j]?=some a)(hh:H' a=H a)(h:nh K aa G H a m):nh K aj ai H' a m:=by
 cases m with
 |fz o=>exact⟨h.1.imp λu q=>⟨e _ _ q.1,q.2⟩,λd q=>bK.mono e (h.2 d q)⟩
 |hand=>exact xY.mono (K:=K) e hh h
 |tab i=>
  obtain⟨h0,ps,h1,h2,h3⟩:=h;exact⟨h0,ps,by rw[hh];exact h1,h2,λpos ie hc=>by obtain⟨c,e1,e2⟩:=h3 pos ie hc;exact⟨c,e1,e _ _ e2⟩⟩
 |lst xs=>obtain⟨vs,h1,h2⟩:=h;exact⟨vs,by rw[hh];exact h1,h2.mono e p⟩
 |dK xs=>obtain⟨vs,h1,h2⟩:=h;exact⟨vs,by rw[hh];exact h1,gp.mono e p h2⟩
 |dT xs=>obtain⟨vs,h1,h2⟩:=h;exact⟨vs,by rw[hh];exact h1,gp.mono e p h2⟩
 |ins C fs=>obtain⟨bx,vs,h1,h2⟩:=h;exact⟨bx,vs,by rw[hh];exact h1,gp.mono e p h2⟩
 |qx xs=>obtain⟨h0,es,eZ,h1,h2⟩:=h;exact⟨h0,es,eZ,by rw[hh];exact h1,Paired.mapP h2 λ_ _ z=>z.mono e⟩
structure Pure (G H ai H':Hp):Prop where
 ex:b6 G ai
 le:dM ai H'
 fr:b6 H H'
 jM:∀a,H a≠none->Same ai G H a
theorem Pure.refl (l:dM G H):Pure G H G H:=⟨b6.refl G,l,b6.refl H,λ_ _=>.inl rfl⟩
theorem Pure.trans {au H1 aU aO:Hp}(a:Pure G H au H1)(b:Pure au H1 aU aO):Pure G H aU aO:=
 ⟨a.ex.trans b.ex,b.le,a.fr.trans b.fr,λx h=>by
  cases q:H x with
  |none=>exact absurd q h
  |some o=>
   have w:=a.fr x o q;rcases b.jM x (by rw[w];simp)with z|⟨xs,fY,d_⟩
   ·rcases a.jM x h with y|⟨xs,rA,m8⟩
    ·exact .inl (z.trans y)
    ·exact .inr ⟨xs,rA,z.trans m8⟩
   ·rw[fY]at w
    cases w
    exact .inr ⟨xs,q,d_⟩⟩
theorem Pure.new {p:Addr}{o:HO}(l:dM G H)(h:H p=none):Pure G H (upd G p o) (upd H p o):=by
 have Hq:G p=none:=by
  cases q:G p with
  |none=>rfl
  |some u=>
   rcases l p u q with z|⟨_,_,z⟩<;>rw[h]at z<;>cases z
 refine⟨b6.new Hq,λa u e=>?_,b6.new h,λa hh=>?_⟩
 ·by_cases q:a=p
  ·subst q;rw[upd_same]at e⊢;exact .inl e
  ·rw[upd_ne q]at e⊢;exact l a u e
 ·by_cases q:a=p
  ·subst q;exact absurd h hh
  ·exact .inl (upd_ne q)
theorem abr {a:Addr}{m:ak}(l:m.live)(k:nh K aa G H a m)(xs:List V):H a≠some (.tup xs):=λe=>by
 cases m with
 |fz o=>exact l
 |hand=>obtain⟨_,_,_,_,_,_,h,_⟩:=k;rw[e]at h;cases h
 |tab i=>obtain⟨_,_,h,_⟩:=k;rw[e]at h;cases h
 |lst xs=>obtain⟨_,h,_⟩:=k;rw[e]at h;cases h
 |dK xs=>obtain⟨_,h,_⟩:=k;rw[e]at h;cases h
 |dT xs=>obtain⟨_,h,_⟩:=k;rw[e]at h;cases h
 |ins c fs=>obtain⟨_,_,h,_⟩:=k;rw[e]at h;cases h
 |qx xs=>obtain⟨_,_,_,h,_⟩:=k;rw[e]at h;cases h
theorem aE.pure (ms:aE K aa G M H)(p:Pure G H ai H'):aE K aa ai M H':=by
 refine⟨p.le,ms.len,ms.nd,λj a m h1 h2=>?_,λa ha=>?_⟩
 ·have ha:H a≠none:=ms.dQ a (List.mem_of_getElem? h1)
  obtain⟨q1,q2⟩:=ms.mo j a m h1 h2;refine⟨λz=>by
   rcases p.jM a ha with y|⟨xs,rA,_⟩
   ·rw[y];exact q1 z
   ·exact absurd rA (abr z q2 xs),q2.mono p.ex (λ_ _ z=>z) ?_⟩
  cases q:H a with
  |none=>exact absurd q ha
  |some o=>exact p.fr a o q
 ·cases q:H a with
  |none=>exact absurd q (ms.dQ a ha)
  |some o=>rw[p.fr a o q];simp
theorem Pure.grow (p:Pure G H ai H'):aG aa G H aa ai H':=⟨p.ex,⟨[],by simp,by simp⟩,λa o h _=>p.fr a o h,λa h _=>p.jM a h,λa h=>by
 cases q:H a with
 |none=>exact absurd q h
 |some o=>rw[p.fr a o q];simp⟩
theorem aE.ad (ms:aE K aa G M H){j:Nat}{m:ak}(h:M[j]?=some m):∃a,aa[j]?=some a/\H a≠none:=by
 have hl:j<aa.length:=by rw[ms.len];exact(List.getElem?_eq_some_iff.mp h).1
 exact⟨aa[j],by simp[hl],ms.dQ _ (List.getElem_mem hl)⟩
theorem aE.inj (ms:aE K aa G M H){i j:Nat}{a:Addr}(h1:aa[i]?=some a)(h2:aa[j]?=some a):i=j:=by
 obtain⟨l1,e1⟩:=List.getElem?_eq_some_iff.mp h1;obtain⟨l2,e2⟩:=List.getElem?_eq_some_iff.mp h2;exact(List.getElem_inj ms.nd).mp (e1.trans e2.symm)
theorem aE.write (ms:aE K aa G M H){j:Nat}{a:Addr}{m m':ak}{o:HO}(h1:aa[j]?=some a)(h2:M[j]?=some m)(hm:m.live)(hk:nh K aa G (upd H a o) a m'):aE K aa G (M.set j m') (upd H a o):=by
 have ga:G a=none:=(ms.mo j a m h1 h2).1 hm;refine⟨λb u e=>?_,by rw[List.length_set];exact ms.len,ms.nd,λi b zL e1 e2=>?_,λb hb=>?_⟩
 ·have:b≠a:=λz=>by rw[z,ga]at e;cases e
  rw[upd_ne this];exact ms.le b u e
 ·by_cases q:i=j
  ·subst q
   rw[h1]at e1;cases e1;rw[List.getElem?_set_self (List.getElem?_eq_some_iff.mp h2).1]at e2;cases e2
   exact⟨λ_=>ga,hk⟩
  ·rw[List.getElem?_set_ne (Ne.symm q)]at e2
   have:b≠a:=λz=>q (ms.inj e1 (z▸h1))
   obtain⟨q1,q2⟩:=ms.mo i b zL e1 e2;exact⟨q1,q2.mono (b6.refl G) (λ_ _ z=>z) (upd_ne this)⟩
 ·by_cases q:b=a
  ·subst q;rw[upd_same];simp
  ·rw[upd_ne q];exact ms.dQ b hb
theorem aG.write {a:Addr}{o:HO}(h:a∈aa)(hd:H a≠none):aG aa G H aa G (upd H a o):=⟨b6.refl G,⟨[],by simp,by simp⟩,λb u e n=>by
    have q:b≠a:=λz=>n (by rw[z];exact h)
    rw[upd_ne q];exact e,λ_ _ _=>.inl rfl,λb e=>by
    by_cases q:b=a
    · subst q;rw[upd_same];simp
    · rw[upd_ne q];exact e⟩
theorem aE.RD (ms:aE K aa G M H){p:Addr}{m:ak}{o:HO}(h:H p=none)(hk:nh K (aa++[p]) G (upd H p o) p m):aE K (aa++[p]) G (M++[m]) (upd H p o)/\aG aa G H (aa++[p]) G (upd H p o):=by
  have Hq:G p=none:=by
    cases q:G p with
    |none=>rfl
    |some u=>
      rcases ms.le p u q with z|⟨_,_,z⟩<;>rw[h]at z<;>cases z
  have np:p∉aa:=λz=>ms.dQ p z h
  have look:∀(j:Nat) a,aa[j]?=some a->(aa++[p])[j]?=some a:=λj a e=>by
    rw[List.getElem?_append_left (List.getElem?_eq_some_iff.mp e).1];exact e
  refine⟨⟨ms.le.ex (b6.new h),by simp[ms.len],?_,λj a I8 e1 e2=>?_,λa ha=>?_⟩,⟨b6.refl G,⟨[p],rfl,λa ha=>by
      have:a=p:=by simpa using ha
      subst this;exact h⟩,λa u e _=>b6.new h a u e,λ_ _ _=>.inl rfl,λa e=>?_⟩⟩
  · rw[List.nodup_append]
    refine⟨ms.nd,by simp,λa ha b hb=>?_⟩;have:b=p:=by simpa using hb
    subst this;exactλz=>np (z▸ha)
  · by_cases q:j<aa.length
    · rw[List.getElem?_append_left q]at e1
      rw[List.getElem?_append_left (by rw[<-ms.len];exact q)]at e2;obtain⟨q1,q2⟩:=ms.mo j a I8 e1 e2;have:a≠p:=λz=>np (z▸List.mem_of_getElem? e1)
      exact⟨q1,q2.mono (b6.refl G) look (upd_ne this)⟩
    · rw[List.getElem?_append_right (by omega)]at e1
      rw[List.getElem?_append_right (by rw[<-ms.len];omega)]at e2;have z:j-aa.length=0:=by
        cases hz:j-aa.length with
        |zero=>rfl
        |succ n=>rw[hz]at e1;simp at e1
      rw[z]at e1;rw[<-ms.len,z]at e2;simp at e1 e2;subst e1 e2;exact⟨λ_=>Hq,hk⟩
  · rcases List.mem_append.mp ha with z|z
    · have:a≠p:=λw=>np (w▸z)
      rw[upd_ne this];exact ms.dQ a z
    · have:a=p:=by simpa using z
      subst this;rw[upd_same];simp
  · by_cases q:a=p
    · subst q;rw[upd_same];simp
    · rw[upd_ne q];exact e
end
end R
namespace R
open PySem PySem.Spec PyProof.Rows L2
variable[aI]
inductive T (α:Type):Type where
 |ret (a:α)
 |bad
 |draw (n:Int) (k:Int->T α)
def T.bind {α β:Type}:T α->(α->T β)->T β
 | .ret a,f=>f a
 | .bad,_=>.bad
 | .draw n k,f=>.draw n λd=>(k d).bind f
def wp {α:Type}:T α->(α->Prop)->Prop
 | .ret a,Q=>Q a
 | .bad,_=>False
 | .draw n k,Q=>∀d,0<=d->d<n->wp (k d) Q
theorem wp_bind {α β:Type}{f:α->T β}{Q:β->Prop}:∀{t:T α},wp (t.bind f) Q↔wp t λa=>wp (f a) Q
 | .ret _=>Iff.rfl
 | .bad=>Iff.rfl
 | .draw n k=>by
  show(∀d,0<=d->d<n->wp ((k d).bind f) Q)↔∀d,0<=d->d<n->wp (k d) _
  exact⟨λh d a b=>wp_bind.mp (h d a b),λh d a b=>wp_bind.mpr (h d a b)⟩
theorem wp_mono {α:Type}{Q Q':α->Prop}(w:∀a,Q a->Q' a):∀{t:T α},wp t Q->wp t Q'
 | .ret _,h=>w _ h
 | .bad,h=>h
 | .draw _ _,h=>λd a b=>wp_mono w (h d a b)
def T.all {α:Type}(p:α->Bool):T α->Bool
 | .ret a=>p a
 | .bad=>false
 | .draw n k=>(List.range n.toNat).all λd=>(k (d:Nat)).all p
inductive Re (α:Type):Type where
 |ok (a:α) (M:List ak)
 |ex (c:Nat) (fs:List (Str×D)) (M:List ak)
abbrev Ev (α:Type):Type:=List ak->T (Re α)
def bH {α β:Type}(f:α->Ev β):Re α->T (Re β)
 | .ok a M=>f a M
 | .ex c fs M=>.ret (.ex c fs M)
def Ev.bind {α β:Type}(m:Ev α)(f:α->Ev β):Ev β:=λM=>(m M).bind (bH f)
def ok {α:Type}(a:α):Ev α:=λM=>.ret (.ok a M)
def bad {α:Type}:Ev α:=λ_=>.bad
def wY {α:Type}:Option α->Ev α
 |some a=>ok a
 |none=>bad
def ofM {α:Type}(f:List ak->Option (α×List ak)):Ev α:=λM=>match f M with
 |some (a,ao)=>.ret (.ok a ao)
 |none=>.bad
abbrev CE:Type:=List af->Ev af
abbrev aH:Type:=List af->Ev (List af)
abbrev dB:Type:=List af->Ev Bool
inductive ck:Type where
 |nx (ρ:List af)|rt (s:af)|bk (ρ:List af)|ct (ρ:List af)
abbrev aQ:Type:=List af->Ev ck
theorem iF {α:Type}{f:List ak->Option (α×List ak)}{M:List ak}{Q:Re α->Prop}:wp (ofM f M) Q↔∃a ao,f M=some (a,ao)/\Q (.ok a ao):=by
 unfold ofM;cases e:f M with
 |none=>exact⟨λh=>h.elim,λ⟨_,_,q,_⟩=>by cases q⟩
 |some p=>obtain⟨a,ao⟩:=p;exact⟨λh=>⟨a,ao,rfl,h⟩,λ⟨_,_,q,h⟩=>by cases q;exact h⟩
theorem Le {α:Type}{f:Option α}{M:List ak}{Q:Re α->Prop}:wp (wY f M) Q↔∃a,f=some a/\Q (.ok a M):=by
 cases f with
 |none=>exact⟨λh=>h.elim,λ⟨_,q,_⟩=>by cases q⟩
 |some a=>exact⟨λh=>⟨a,rfl,h⟩,λ⟨_,q,h⟩=>by cases q;exact h⟩
theorem cz {α β:Type}{m:Ev α}{f:α->Ev β}{M:List ak}{Q:Re β->Prop}:wp (Ev.bind m f M) Q↔wp (m M) λr=>wp (bH f r) Q:=wp_bind
section
variable(X:Cx)
def wE (e:Expr):TE:=λσ H Q=>∀pins s,Inv X pins σ H s->wpAny (model X.prog X.w) X.A (eval e X.env) (EP X pins σ Q) X.xe s
def wT (e:Expr):TT:=λσ H Q=>∀pins s,Inv X pins σ H s->wpAny (model X.prog X.w) X.A (isTrue e X.env (eval e X.env)) (TP X pins σ Q) X.xe s
def K9 (e:Expr):TT:=λσ H Q=>∀whole pins s,Inv X pins σ H s->wpAny (model X.prog X.w) X.A (isTrue e X.env whole) (TP X pins σ Q) X.xe s
def u5 (es:List Expr):TA:=λσ H Q=>∀pos pins s,Inv X pins σ H s->wpAny (model X.prog X.w) X.A (spliced (backTo pos (starEach es X.env))) (AP X pins σ Q) X.xe s
def wS (st:Stmt):TS:=λD σ H=>∀pins s,Inv X pins σ H s->wpAny (model X.prog X.w) X.A (exec st X.env) (SP X pins D) X.xe s
def Au (st:List Stmt):TS:=λD σ H=>∀pins s,Inv X pins σ H s->wpAny (model X.prog X.w) X.A (execs st X.env) (SP X pins D) X.xe s
def Av (bD:Expr):TG:=λv σ H Q=>∀pins s u,Inv X pins σ H s->RelV v u->wpAny (model X.prog X.w) X.A (assign bD X.env u) (λ_ aF=>∃aN H',Inv X pins aN H' aF/\Q aN H') X.xe s
def Ay (bD iter:Expr):TI:=λσ H R=>∀pins s,Inv X pins σ H s->
    wpAny (model X.prog X.w) X.A (eval iter X.env) (λv s1=>wpAny (model X.prog X.w) X.A (pyIter v) (PIE X pins σ bD R) X.xe s1) X.xe s
end
section
variable{X:Cx}{e bD it:Expr}{es:List Expr}{st:Stmt}{l_:List Stmt}
theorem cS:PE X e (wE X e):=⟨λpins s _ _ _ I h=>h pins s I⟩
theorem sJ:PT X e (wT X e):=⟨λpins s _ _ _ I h=>h pins s I⟩
theorem pw_w:PW X e (K9 X e):=⟨λLa pins s _ _ _ I h=>h La pins s I⟩
theorem uN:PA X es (u5 X es):=⟨λpos pins s _ _ _ I h=>h pos pins s I⟩
theorem Sq:PS X st (wS X st):=⟨λpins s _ _ _ I h=>h pins s I⟩
theorem w6:PSs X l_ (Au X l_):=⟨λpins s _ _ _ I h=>h pins s I⟩
theorem JA:PG X bD (Av X bD):=⟨λpins s _ _ _ u _ I r h=>h pins s u I r⟩
theorem JE:PI X bD it (Ay X bD it):=⟨λpins s _ _ _ I h=>h pins s I⟩
theorem toE {t:TE}(h:PE X e t){σ H Q}(q:t σ H Q):wE X e σ H Q:=λpins s I=>h.run pins s σ H Q I q
theorem toT {t:TT}(h:PT X e t){σ H Q}(q:t σ H Q):wT X e σ H Q:=λpins s I=>h.run pins s σ H Q I q
theorem toW {t:TT}(h:PW X e t){σ H Q}(q:t σ H Q):K9 X e σ H Q:=λLa pins s I=>h.run La pins s σ H Q I q
theorem toA {t:TA}(h:PA X es t){σ H Q}(q:t σ H Q):u5 X es σ H Q:=λpos pins s I=>h.run pos pins s σ H Q I q
theorem toS {t:TS}(h:PS X st t){σ H D}(q:t D σ H):wS X st D σ H:=λpins s I=>h.run pins s σ H D I q
theorem toB {t:TS}(h:PSs X l_ t){σ H D}(q:t D σ H):Au X l_ D σ H:=λpins s I=>h.run pins s σ H D I q
theorem toG {t:TG}(h:PG X bD t){v σ H Q}(q:t v σ H Q):Av X bD v σ H Q:=λpins s u I r=>h.run pins s σ H v u Q I r q
theorem toI {t:TI}(h:PI X bD it t){σ H R}(q:t σ H R):Ay X bD it σ H R:=λpins s I=>h.run pins s σ H R I q
end
section
variable(X:Cx)(W:WX)
def PX (σ:L2.St)(aa:List Addr)(G H:Hp)(c:Nat)(fs:List (Str×D))(ao:List ak):Prop:=
 ∀aj ai H' d bG,aG aa G H aj ai H'->aE X.K aj ai ao H'->ai d=some (.xd bG)->fG X.K ai bG fs->W (.ref (bQ X.K c)) (some d) σ H'
def cV {α β:Type}(lC:List Addr->Hp->β->α->Prop)(Q:β->Hp->Prop)(σ:L2.St)(aa:List Addr)(G H:Hp):Re α->Prop
 | .ok a ao=>∀aj ai H' b,aG aa G H aj ai H'->aE X.K aj ai ao H'->lC aj ai b a->Q b H'
 | .ex c fs ao=>PX X W σ aa G H c fs ao
abbrev vt:List Addr->Hp->Bool->Bool->Prop:=λ_ _ b a=>b=a
def dY (D:Ends)(aa:List Addr)(G H:Hp):Re ck->Prop
 | .ok (.nx cC) ao=>∀aj ai H' aN,aG aa G H aj ai H'->aE X.K aj ai ao H'->bO X.K aj ai aN cC->D.nx aN H'
 | .ok (.rt s) ao=>∀aj ai H' v,aG aa G H aj ai H'->aE X.K aj ai ao H'->bz X.K aj ai v s->D.rt v H'
 | .ok (.bk cC) ao=>∀aj ai H' aN,aG aa G H aj ai H'->aE X.K aj ai ao H'->bO X.K aj ai aN cC->D.bk aN H'
 | .ok (.ct cC) ao=>∀aj ai H' aN,aG aa G H aj ai H'->aE X.K aj ai ao H'->bO X.K aj ai aN cC->D.ct aN H'
 | .ex c fs ao=>∀aN,PX X W aN aa G H c fs ao
end
section
variable{X:Cx}{W:WX}{aa av:List Addr}{G au H H1:Hp}{σ:L2.St}
theorem PX.shift {c:Nat}{fs:List (Str×D)}{ao:List ak}(g:aG aa G H av au H1)(h:PX X W σ aa G H c fs ao):PX X W σ av au H1 c fs ao:=λ_ _ _ _ _ dR=>h _ _ _ _ _ (g.trans dR)
theorem cV.shift {α β:Type}{lC:List Addr->Hp->β->α->Prop}{Q:β->Hp->Prop}{r:Re α}(g:aG aa G H av au H1)(h:cV X W lC Q σ aa G H r):cV X W lC Q σ av au H1 r:=by
 cases r with
 |ok a ao=>exactλ_ _ _ _ dR=>h _ _ _ _ (g.trans dR)
 |ex c fs ao=>exact PX.shift g h
theorem dY.shift {D:Ends}{r:Re ck}(g:aG aa G H av au H1)(h:dY X W D aa G H r):dY X W D av au H1 r:=by
 cases r with
 |ok a ao=>
  cases a with
  |nx ρ=>exactλ_ _ _ _ dR=>h _ _ _ _ (g.trans dR)
  |rt ρ=>exactλ_ _ _ _ dR=>h _ _ _ _ (g.trans dR)
  |bk ρ=>exactλ_ _ _ _ dR=>h _ _ _ _ (g.trans dR)
  |ct ρ=>exactλ_ _ _ _ dR=>h _ _ _ _ (g.trans dR)
 |ex c fs ao=>exactλaN=>PX.shift g (h aN)
end
structure aV (X:Cx)(W:WX)(e:Expr)(f:CE):Prop where
 run:∀ρ M aa G σ H Q,aE X.K aa G M H->bO X.K aa G σ ρ->wp (f ρ M) (cV X W (bz X.K) Q σ aa G H)->wE X e σ H Q
structure jn (X:Cx)(W:WX)(es:List Expr)(f:aH):Prop where
 run:∀ρ M aa G σ H Q,aE X.K aa G M H->bO X.K aa G σ ρ->wp (f ρ M) (cV X W (bA X.K) Q σ aa G H)->u5 X es σ H Q
structure ST (X:Cx)(W:WX)(e:Expr)(f:dB):Prop where
 run:∀ρ M aa G σ H Q,aE X.K aa G M H->bO X.K aa G σ ρ->wp (f ρ M) (cV X W vt Q σ aa G H)->wT X e σ H Q
structure vz (X:Cx)(W:WX)(e:Expr)(f:dB):Prop where
 run:∀ρ M aa G σ H Q,aE X.K aa G M H->bO X.K aa G σ ρ->wp (f ρ M) (cV X W vt Q σ aa G H)->K9 X e σ H Q
structure iI (X:Cx)(W:WX)(st:Stmt)(f:aQ):Prop where
 run:∀ρ M aa G σ H D,aE X.K aa G M H->bO X.K aa G σ ρ->wp (f ρ M) (dY X W D aa G H)->wS X st D σ H
structure SB (X:Cx)(W:WX)(st:List Stmt)(f:aQ):Prop where
 run:∀ρ M aa G σ H D,aE X.K aa G M H->bO X.K aa G σ ρ->wp (f ρ M) (dY X W D aa G H)->Au X st D σ H
section
variable{X:Cx}{W:WX}{a b e:Expr}{es:List Expr}{aJ:CE}{ue:aH}{cg:dB}{ρ:List af}{M:List ak}{aa:List Addr}{G H:Hp}{σ:L2.St}{α β:Type}{lC:List Addr->Hp->β->α->Prop}{Q:β->Hp->Prop}
theorem aV.seq (h:aV X W a aJ)(ms:aE X.K aa G M H)(en:bO X.K aa G σ ρ){k:af->Ev α}(w:wp (Ev.bind (aJ ρ) k M) (cV X W lC Q σ aa G H)){Q':VK}
    (n:∀av au M1 H1 v s,aG aa G H av au H1->aE X.K av au M1 H1->bz X.K av au v s->wp (k s M1) (cV X W lC Q σ av au H1)->Q' v H1):wE X a σ H Q':=
  h.run ρ M aa G σ H Q' ms en (wp_mono (λr hr=>by
    cases r with
    |ok s M1=>exactλav au H1 v g m r=>n av au M1 H1 v s g m r (wp_mono (λ_=>cV.shift g) hr)
    |ex c fs M1=>exact hr) (cz.mp w))
theorem ST.seq (h:ST X W a cg)(ms:aE X.K aa G M H)(en:bO X.K aa G σ ρ){k:Bool->Ev α}(w:wp (Ev.bind (cg ρ) k M) (cV X W lC Q σ aa G H)){Q':Bool->Hp->Prop}
    (n:∀av au M1 H1 v,aG aa G H av au H1->aE X.K av au M1 H1->wp (k v M1) (cV X W lC Q σ av au H1)->Q' v H1):wT X a σ H Q':=
  h.run ρ M aa G σ H Q' ms en (wp_mono (λr hr=>by
    cases r with
    |ok s M1=>exactλav au H1 v g m r=>by have r:v=s:=r;subst r;exact n av au M1 H1 v g m (wp_mono (λ_=>cV.shift g) hr)
    |ex c fs M1=>exact hr) (cz.mp w))
theorem jn.seq (h:jn X W es ue)(ms:aE X.K aa G M H)(en:bO X.K aa G σ ρ){k:List af->Ev α}(w:wp (Ev.bind (ue ρ) k M) (cV X W lC Q σ aa G H)){Q':List V->Hp->Prop}
    (n:∀av au M1 H1 v s,aG aa G H av au H1->aE X.K av au M1 H1->bA X.K av au v s->wp (k s M1) (cV X W lC Q σ av au H1)->Q' v H1):u5 X es σ H Q':=
  h.run ρ M aa G σ H Q' ms en (wp_mono (λr hr=>by
    cases r with
    |ok s M1=>exactλav au H1 v g m r=>n av au M1 H1 v s g m r (wp_mono (λ_=>cV.shift g) hr)
    |ex c fs M1=>exact hr) (cz.mp w))
theorem aV.m5 (h:aV X W a aJ)(ms:aE X.K aa G M H)(en:bO X.K aa G σ ρ){k:af->Ev ck}{D:Ends}(w:wp (Ev.bind (aJ ρ) k M) (dY X W D aa G H)){Q':VK}
    (n:∀av au M1 H1 v s,aG aa G H av au H1->aE X.K av au M1 H1->bz X.K av au v s->wp (k s M1) (dY X W D av au H1)->Q' v H1):wE X a σ H Q':=
  h.run ρ M aa G σ H Q' ms en (wp_mono (λr hr=>by
    cases r with
    |ok s M1=>exactλav au H1 v g m r=>n av au M1 H1 v s g m r (wp_mono (λ_=>dY.shift g) hr)
    |ex c fs M1=>exact hr σ) (cz.mp w))
theorem ST.m5 (h:ST X W a cg)(ms:aE X.K aa G M H)(en:bO X.K aa G σ ρ){k:Bool->Ev ck}{D:Ends}(w:wp (Ev.bind (cg ρ) k M) (dY X W D aa G H)){Q':Bool->Hp->Prop}
    (n:∀av au M1 H1 v,aG aa G H av au H1->aE X.K av au M1 H1->wp (k v M1) (dY X W D av au H1)->Q' v H1):wT X a σ H Q':=
  h.run ρ M aa G σ H Q' ms en (wp_mono (λr hr=>by
    cases r with
    |ok s M1=>exactλav au H1 v g m r=>by have r:v=s:=r;subst r;exact n av au M1 H1 v g m (wp_mono (λ_=>dY.shift g) hr)
    |ex c fs M1=>exact hr σ) (cz.mp w))
theorem jn.m5 (h:jn X W es ue)(ms:aE X.K aa G M H)(en:bO X.K aa G σ ρ){k:List af->Ev ck}{D:Ends}(w:wp (Ev.bind (ue ρ) k M) (dY X W D aa G H)){Q':List V->Hp->Prop}
    (n:∀av au M1 H1 v s,aG aa G H av au H1->aE X.K av au M1 H1->bA X.K av au v s->wp (k s M1) (dY X W D av au H1)->Q' v H1):u5 X es σ H Q':=
  h.run ρ M aa G σ H Q' ms en (wp_mono (λr hr=>by
    cases r with
    |ok s M1=>exactλav au H1 v g m r=>n av au M1 H1 v s g m r (wp_mono (λ_=>dY.shift g) hr)
    |ex c fs M1=>exact hr σ) (cz.mp w))
end
theorem mW {K:Frag}{aa:List Addr}{G:Hp}{i:Int}:bz K aa G (.int i) (.dat (.int i)):=bK.int i
theorem qY {K:Frag}{aa:List Addr}{G:Hp}{i:Str}:bz K aa G (.str i) (.dat (.str i)):=bK.str i
theorem qX {K:Frag}{aa:List Addr}{G:Hp}{i:Bool}:bz K aa G (.bl i) (.dat (.bl i)):=bK.bl i
theorem Dw {K:Frag}{aa:List Addr}{G:Hp}:bz K aa G .non (.dat .non):=bK.non
theorem iT {K:Frag}{aa:List Addr}{G:Hp}{v:V}{i:Int}(h:bz K aa G v (.dat (.int i))):v=.int i:=by cases h;rfl
theorem pq {K:Frag}{aa:List Addr}{G:Hp}{v:V}{i:Str}(h:bz K aa G v (.dat (.str i))):v=.str i:=by cases h;rfl
theorem pe {K:Frag}{aa:List Addr}{G:Hp}{v:V}{i:Bool}(h:bz K aa G v (.dat (.bl i))):v=.bl i:=by cases h;rfl
theorem SO {K:Frag}{aa:List Addr}{G:Hp}{v:V}(h:bz K aa G v (.dat .non)):v=.non:=by cases h;rfl
def gJ (M:List ak):af->af
 | .mu j=>match M[j]? with
  |some (.fz (some d))=>.dat d
  |_=>.mu j
 |s=>s
theorem De {K:Frag}{aa:List Addr}{G H:Hp}{M:List ak}{v:V}{s:af}(ms:aE K aa G M H)(r:bz K aa G v s):bz K aa G v (gJ M s):=by
 cases s with
 |mu j=>
  unfold gJ
  dsimp only
  split
  ·rename_i d hm
   obtain⟨a,h1,rfl⟩:=r;exact(ms.mo j a _ h1 hm).2.2 d rfl
  ·exact r
 |_=>exact r
section
variable{X:Cx}{W:WX}{ρ:List af}{M:List ak}{aa:List Addr}{G H:Hp}{σ:L2.St}{pos:Pos}
theorem Ac {e:Expr}{v:V}{s:af}(uP:PE X e (tC v))(r:∀aa G,bz X.K aa G v s):aV X W e λ_=>ok s:=
 ⟨λρ M aa G σ H Q ms en h=>toE uP (h aa G H v (aG.refl _ _ _) ms (r _ _))⟩
def ah (i:Nat):CE:=λρ M=>match ρ[i]? with
 |some .un=>.bad
 |some s=>.ret (.ok (gJ M s) M)
 |none=>.bad
structure nk (X:Cx)(x:Str)(i:Nat):Prop where
 ix:X.N[i]?=some x
 DR:Vis X.env.scope x
 nd:(x==("__debug__":Str))=false
 C6:(x==("__classdict__":Str))=false
structure rH (X:Cx)(x:Str)(i:Nat):Prop where
 ix:X.N[i]?=some x
 loc:Loc X.env.scope x
 fn:X.fn x=true\/X.env.scope.names.lookup x=some .local
 nd:X.N.Nodup
structure dW (X:Cx)(x:Str):Prop where
 gl:Gl X x
 nd:(x==("__debug__":Str))=false
theorem az {x:Str}{i:Nat}(F:nk X x i):aV X W (.Name x pos) (ah i):=⟨λρ M aa G σ H Q ms en h=>by
 unfold ah at h;split at h
 ·exact h.elim
 ·rename_i s hs hn
  rcases en.at_ i s hn with z|⟨v,e1,r⟩
  ·exact absurd z hs
  ·exact toE (pe_var F.ix F.DR F.nd F.C6) ⟨v,e1,h aa G H v (aG.refl _ _ _) ms (De ms r)⟩
 ·exact h.elim⟩
theorem bY {i:Int}{j:Nat}:aV X W (.Constant (.int i) j pos) λ_=>ok (.dat (.int i)):=Ac pe_int λ_ _=>mW
theorem z9 {b:Bool}{j:Nat}:aV X W (.Constant (.bool b) j pos) λ_=>ok (.dat (.bl b)):=Ac pe_bl λ_ _=>qX
theorem Ad {j:Nat}:aV X W (.Constant .none j pos) λ_=>ok (.dat .non):=Ac pe_non λ_ _=>Dw
theorem dw {x:Str}{j:Nat}:aV X W (.Constant (.str x) j pos) λ_=>ok (.dat (.str x)):=Ac pe_str λ_ _=>qY
theorem aeV {x:Str}{i:Int}{t:Tok}(F:dW X x)(hm:X.mg x=some (.int i t)):aV X W (.Name x pos) λ_=>ok (.dat (.int i)):=Ac (v:=.int i) (pe_glob F.gl hm ⟨t,rfl⟩ F.nd) λ_ _=>mW
def aB:aH:=λ_=>ok []
def aq (f:CE)(g:aH):aH:=λρ=>(f ρ).bind λs=>(g ρ).bind λss=>ok (s::ss)
theorem bq:jn X W [] aB:=⟨λρ M aa G σ H Q ms en h=>toA pa_nil (h aa G H [] (aG.refl _ _ _) ms .nil)⟩
theorem aD {e:Expr}{es:List Expr}{f:CE}{g:aH}(h1:aV X W e f)(h2:jn X W es g)(hs:starEach (e::es) X.env=(false,eval e X.env)::starEach es X.env:=by rfl):jn X W (e::es) (aq f g):=⟨λρ M aa G σ H Q ms en h=>
 toA (pa_cons cS uN hs) (h1.seq ms en h λav au M1 H1 v s g1 m1 r1 aC=>h2.seq m1 (en.grow g1) aC λaM aU M2 aO vs ss g2 m2 r2 bN=>bN aM aU aO (v::vs) (aG.refl _ _ _) m2 (.cons (r1.grow g2) r2))⟩
end
def su (M:List ak):af->Option (List af)
 | .dat (.lst ds)=>some (ds.map .dat)
 | .mu j=>match M[j]? with
  |some (.lst xs)=>some xs
  |_=>none
 |_=>none
def ag8:af->Option (List af)
 | .dat (.tup ds)=>some (ds.map .dat)
 |_=>none
def lenOf (M:List ak):af->Option Nat
 | .dat (.str z)=>some z.length
 | .dat (.tup ds)=>some ds.length
 | .dat (.lst ds)=>some ds.length
 | .mu j=>match M[j]? with
  |some (.lst xs)=>some xs.length
  |_=>none
 |_=>none
section
variable{K:Frag}{aa:List Addr}{G H:Hp}{M:List ak}
theorem bA.zQ:∀{vs:List V} {ds:List D},bJ K G vs ds->bA K aa G vs (ds.map .dat)
 |_,_,.nil=>.nil
 |_,_,.cons h r=>.cons h (bA.zQ r)
theorem bA.toRps:∀{vs:List V} {ds:List D},bA K aa G vs (ds.map .dat)->bJ K G vs ds
 |_,[],.nil=>.nil
 |_,_::_,.cons h r=>.cons h (bA.toRps r)
theorem bA.length {vs:List V}{ss:List af}(h:bA K aa G vs ss):vs.length=ss.length:=Paired.length h
theorem bA.get:∀{vs:List V} {ss:List af} {i:Nat} {s:af},bA K aa G vs ss->ss[i]?=some s->∃v,vs[i]?=some v/\bz K aa G v s
 |_,_,_,_,.nil,e=>by simp at e
 |_,_,0,_,.cons h _,e=>by simp at e;subst e;exact⟨_,rfl,h⟩
 |_,_,i+1,_,.cons _ r,e=>by
  obtain⟨v,h1,h2⟩:=bA.get (i:=i) r (by simpa using e);exact⟨v,by simpa using h1,h2⟩
theorem bA.append:∀{vs ws:List V} {ss ts:List af},bA K aa G vs ss->bA K aa G ws ts->bA K aa G (vs++ws) (ss++ts)
 |_,_,_,_,.nil,s=>s
 |_,_,_,_,.cons h r,s=>.cons h (bA.append r s)
theorem bA.set {v:V}{s:af}(hr:bz K aa G v s):∀{vs:List V} {ss:List af} (i:Nat),bA K aa G vs ss->bA K aa G (vs.set i v) (ss.set i s)
 |_,_,_,.nil=>.nil
 |_,_,0,.cons _ t=>.cons hr t
 |_,_,i+1,.cons q t=>.cons q (bA.set hr i t)
theorem bA.take:∀{vs:List V} {ss:List af} (n:Nat),bA K aa G vs ss->bA K aa G (vs.take n) (ss.take n)
 |_,_,0,_=>.nil
 |_,_,_+1,.nil=>.nil
 |_,_,n+1,.cons r t=>.cons r (bA.take n t)
theorem bA.drop:∀{vs:List V} {ss:List af} (n:Nat),bA K aa G vs ss->bA K aa G (vs.drop n) (ss.drop n)
 |_,_,0,r=>r
 |_,_,_+1,.nil=>.nil
 |_,_,n+1,.cons _ r=>bA.drop n r
theorem o6 {v:V}{s:af}{xs:List af}(ms:aE K aa G M H)(r:bz K aa G v s)(h:su M s=some xs):∃p vs,v=.ref p/\H p=some (.lst vs)/\bA K aa G vs xs:=by
 cases s with
 |un=>cases h
 |raw w=>cases h
 |dat d=>
  cases d with
  |lst ds=>
   cases h
   cases r with
   |lst h r=>exact⟨_,_,rfl,ms.le.lst h,bA.zQ r⟩
  |_=>cases h
 |mu j=>
  unfold su at h
  dsimp only at h
  split at h
  ·rename_i aA hm
   cases h
   obtain⟨a,h1,h2⟩:=r;obtain⟨vs,h3,h4⟩:=(ms.mo j a _ h1 hm).2;exact⟨a,vs,h2,h3,h4⟩
  ·cases h
theorem Ar {v:V}{s:af}{xs:List af}(le:dM G H)(r:bz K aa G v s)(h:ag8 s=some xs):∃p vs,v=.ref p/\SqT K H p vs/\bA K aa G vs xs:=by
 cases s with
 |un=>cases h
 |raw w=>cases h
 |mu j=>cases h
 |dat d=>
  cases d with
  |tup ds=>
   cases h
   cases r with
   |tup h r=>exact⟨_,_,rfl,le.t (.inl (.inl h)),bA.zQ r⟩
  |_=>cases h
theorem aaW {v:V}{s:af}{n:Nat}(ms:aE K aa G M H)(r:bz K aa G v s)(h:lenOf M s=some n)(hn:n<=sizeLine):LenV K v H n:=by
 cases s with
 |un=>cases h
 |raw w=>cases h
 |dat d=>
  cases d with
  |str z=>cases h;cases r;exact⟨hn,rfl⟩
  |lst ds=>
   cases h
   cases r with
   |lst h r=>exact .inl ⟨_,SqL.of (ms.le.lst h),r.length.symm⟩
  |tup ds=>
   cases h
   cases r with
   |tup h r=>exact .inr ⟨_,ms.le.t (.inl (.inl h)),r.length.symm⟩
  |_=>cases h
 |mu j=>
  unfold lenOf at h
  dsimp only at h
  split at h
  ·rename_i aA hm
   cases h
   obtain⟨a,h1,h2⟩:=r;obtain⟨vs,h3,h4⟩:=(ms.mo j a _ h1 hm).2;subst h2;exact .inl ⟨vs,SqL.of h3,h4.length.symm⟩
  ·cases h
theorem Fl {vs:List V}{ss:List af}{i:Int}{s:af}(r:bA K aa G vs ss)(h:atI ss i=some s):∃v,atI vs i=some v/\bz K aa G v s:=by
 unfold atI at h⊢;rw[r.length];cases q:ixN ss.length i with
 |none=>rw[q]at h;cases h
 |some j=>
  rw[q]at h;exact r.get (show ss[j]?=some s from h)
theorem MU {ds:List D}{i:Int}{d:D}(h:atI ds i=some d):atI (ds.map af.dat) i=some (.dat d):=by
 unfold atI at h⊢;rw[List.length_map];cases q:ixN ds.length i with
 |none=>rw[q]at h;cases h
 |some j=>
  rw[q]at h;show(ds.map af.dat)[j]?=_
  rw[List.getElem?_map,show ds[j]?=some d from h];rfl
end
def BS:D->D->Option Bool
 | .int i,.int j=>some (decide (i=j))
 | .str i,.str j=>some (decide (i=j))
 | .bl i,.bl j=>some (decide (i=j))
 | .non,.non=>some true
 | .non,.int _=>some false
 | .int _,.non=>some false
 | .non,.str _=>some false
 | .str _,.non=>some false
 | .non,.bl _=>some false
 | .bl _,.non=>some false
 | .int _,.str _=>some false
 | .str _,.int _=>some false
 | .bl _,.str _=>some false
 | .str _,.bl _=>some false
 |_,_=>none
theorem N7 {K:Frag}{G:Hp}{v u:V}{d f:D}{k:Bool}(h:BS d f=some k)(r1:bK K G v d)(r2:bK K G u f):scal v u=true/\decide (v=u)=k:=by
 cases r1<;>cases r2<;>first
  |(cases h;done)
  |(cases h;refine⟨rfl,?_⟩;simp)
def isNon:D->Bool
 | .non=>true
 |_=>false
mutual
def py:D->PyData
 | .non=>.none
 | .bl b=>.bool b
 | .int i=>.int i
 | .str x=>.str x
 | .lst xs=>.list (eu xs)
 | .tup xs=>.tuple (eu xs)
 | .dK _=>.none
 | .dT _=>.none
 | .ins _ _=>.none
 | .d9 _=>.none
 | .exc _ _=>.none
 | .cL _ _=>.none
 | .lam _=>.none
def eu:List D->List PyData
 |[]=>[]
 |x::xs=>py x::eu xs
end
mutual
def plain:Nat->D->Bool
 |_,.non=>true
 |_,.bl _=>true
 |_,.int _=>true
 |_,.str x=>PyData.strOk x
 |0,_=>false
 |n+1,.lst xs=>e_ n xs
 |n+1,.tup xs=>e_ n xs
 |_+1,.dK _=>false
 |_+1,.dT _=>false
 |_+1,.ins _ _=>false
 |_+1,.d9 _=>false
 |_+1,.exc _ _=>false
 |_+1,.cL _ _=>false
 |_+1,.lam _=>false
def e_:Nat->List D->Bool
 |_,[]=>true
 |n,x::xs=>plain n x&&e_ n xs
end
mutual
theorem JF {K:Frag}{G H:Hp}(le:dM G H):∀(n:Nat) (d:D) (v:V),plain n d=true->bK K G v d->Dp K H v (py d)
 |_,.non,_,_,.non=>by unfold py;exact .non
 |_,.bl b,_,_,.bl _=>by unfold py;exact .bl b
 |_,.int i,_,_,.int _=>by unfold py;exact .int i
 |_,.str x,_,_,.str _=>by unfold py;exact .str x
 |n+1,.lst xs,_,h,.lst hq r=>by unfold py;exact .lst (SqL.of (le.lst hq)) (Di le n xs _ (by simpa[plain]using h) r)
 |n+1,.tup xs,_,h,.tup hq r=>by unfold py;exact .tup (le.t (.inl (.inl hq))) (Di le n xs _ (by simpa[plain]using h) r)
 |0,.lst _,_,h,_=>by simp[plain]at h
 |0,.tup _,_,h,_=>by simp[plain]at h
 |0,.dK _,_,h,_=>by simp[plain]at h
 |0,.dT _,_,h,_=>by simp[plain]at h
 |0,.ins _ _,_,h,_=>by simp[plain]at h
 |0,.d9 _,_,h,_=>by simp[plain]at h
 |0,.exc _ _,_,h,_=>by simp[plain]at h
 |0,.cL _ _,_,h,_=>by simp[plain]at h
 |0,.lam _,_,h,_=>by simp[plain]at h
 |n+1,.d9 _,_,h,_=>by simp[plain]at h
 |n+1,.exc _ _,_,h,_=>by simp[plain]at h
 |n+1,.cL _ _,_,h,_=>by simp[plain]at h
 |n+1,.lam _,_,h,_=>by simp[plain]at h
 |n+1,.dK _,_,h,_=>by simp[plain]at h
 |n+1,.dT _,_,h,_=>by simp[plain]at h
 |n+1,.ins _ _,_,h,_=>by simp[plain]at h
theorem Di {K:Frag}{G H:Hp}(le:dM G H):∀(n:Nat) (ds:List D) (vs:List V),e_ n ds=true->bJ K G vs ds->DpAll K H vs (eu ds)
 |_,[],_,_,.nil=>by unfold eu;exact .nil
 |n,d::ds,_,h,.cons r cE=>by
  unfold e_ at h;rw[Bool.and_eq_true]at h;unfold eu;exact .cons (JF le n d _ h.1 r) (Di le n ds _ h.2 cE)
end
mutual
theorem JG:∀(n:Nat) (d:D),plain n d=true->(py d).canLay0=true/\(py d).depth<=n+1
 |_,.non,_=>by simp[py,PyData.canLay0,PyData.depth]
 |_,.bl b,_=>by simp[py,PyData.canLay0,PyData.depth]
 |_,.int i,_=>by simp[py,PyData.canLay0,PyData.depth]
 |_,.str x,h=>by
  have:PyData.strOk x=true:=by simpa[plain]using h
  simp[py,PyData.canLay0,PyData.depth,this]
 |n+1,.lst xs,h=>by
  obtain⟨h1,h2⟩:=JH n xs (by simpa[plain]using h);simp[py,PyData.canLay0,PyData.depth,h1];omega
 |n+1,.tup xs,h=>by
  obtain⟨h1,h2⟩:=JH n xs (by simpa[plain]using h);simp[py,PyData.canLay0,PyData.depth,h1];omega
 |0,.lst _,h=>by simp[plain]at h
 |0,.tup _,h=>by simp[plain]at h
 |0,.dK _,h=>by simp[plain]at h
 |0,.dT _,h=>by simp[plain]at h
 |0,.ins _ _,h=>by simp[plain]at h
 |0,.d9 _,h=>by simp[plain]at h
 |0,.exc _ _,h=>by simp[plain]at h
 |0,.cL _ _,h=>by simp[plain]at h
 |0,.lam _,h=>by simp[plain]at h
 |n+1,.d9 _,h=>by simp[plain]at h
 |n+1,.exc _ _,h=>by simp[plain]at h
 |n+1,.cL _ _,h=>by simp[plain]at h
 |n+1,.lam _,h=>by simp[plain]at h
 |n+1,.dK _,h=>by simp[plain]at h
 |n+1,.dT _,h=>by simp[plain]at h
 |n+1,.ins _ _,h=>by simp[plain]at h
theorem JH:∀(n:Nat) (ds:List D),e_ n ds=true->PyData.canLayAll0 (eu ds)=true/\PyData.depthAll (eu ds)<=n+1
 |_,[],_=>by simp[eu,PyData.canLayAll0,PyData.depthAll]
 |n,d::ds,h=>by
  unfold e_ at h;rw[Bool.and_eq_true]at h;obtain⟨h1,h2⟩:=JG n d h.1;obtain⟨h3,h4⟩:=JH n ds h.2;simp[eu,PyData.canLayAll0,PyData.depthAll,h1,h3];omega
end
theorem Ae {n:Nat}{d:D}(h:plain n d=true)(hn:n<=60):SeqAt.shaped (py d)=true:=by
 obtain⟨h1,h2⟩:=JG n d h;unfold SeqAt.shaped;rw[h1,Bool.true_and,decide_eq_true_eq];omega
mutual
def mS:D->Bool
 | .bl _=>false
 | .lst xs=>wV xs
 | .tup xs=>wV xs
 |_=>true
def wV:List D->Bool
 |[]=>true
 |x::xs=>mS x&&wV xs
end
mutual
theorem XI:∀(n:Nat) (d e:D),plain n d=true->plain n e=true->mS d=true->mS e=true->(PyData.eqv (py d) (py e)=true↔d=e)
 |n,.non,e,_,h,_,hb=>by cases e<;>cases n<;>simp_all [py,PyData.eqv,plain,mS]
 |n,.int i,e,_,h,_,hb=>by cases e<;>cases n<;>simp_all [py,PyData.eqv,plain,mS]
 |n,.str i,e,_,h,_,hb=>by cases e<;>cases n<;>simp_all [py,PyData.eqv,plain,mS]
 |_,.bl _,_,_,_,h,_=>by simp[mS]at h
 |0,.lst _,_,h,_,_,_=>by simp[plain]at h
 |0,.tup _,_,h,_,_,_=>by simp[plain]at h
 |0,.dK _,_,h,_,_,_=>by simp[plain]at h
 |0,.dT _,_,h,_,_,_=>by simp[plain]at h
 |0,.ins _ _,_,h,_,_,_=>by simp[plain]at h
 |0,.d9 _,_,h,_,_,_=>by simp[plain]at h
 |0,.exc _ _,_,h,_,_,_=>by simp[plain]at h
 |0,.cL _ _,_,h,_,_,_=>by simp[plain]at h
 |0,.lam _,_,h,_,_,_=>by simp[plain]at h
 |_+1,.d9 _,_,h,_,_,_=>by simp[plain]at h
 |_+1,.exc _ _,_,h,_,_,_=>by simp[plain]at h
 |_+1,.cL _ _,_,h,_,_,_=>by simp[plain]at h
 |_+1,.lam _,_,h,_,_,_=>by simp[plain]at h
 |_+1,.dK _,_,h,_,_,_=>by simp[plain]at h
 |_+1,.dT _,_,h,_,_,_=>by simp[plain]at h
 |_+1,.ins _ _,_,h,_,_,_=>by simp[plain]at h
 |n+1,.lst xs,.lst aA,h1,h2,dG,b2=>by
  have:=GX n xs aA (by simpa[plain]using h1) (by simpa[plain]using h2) (by simpa[mS]using dG) (by simpa[mS]using b2);simp[py,PyData.eqv,this]
 |n+1,.tup xs,.tup aA,h1,h2,dG,b2=>by
  have:=GX n xs aA (by simpa[plain]using h1) (by simpa[plain]using h2) (by simpa[mS]using dG) (by simpa[mS]using b2);simp[py,PyData.eqv,this]
 |n+1,.lst xs,.non,_,_,_,_=>by simp[py,PyData.eqv]
 |n+1,.lst xs,.int _,_,_,_,_=>by simp[py,PyData.eqv]
 |n+1,.lst xs,.str _,_,_,_,_=>by simp[py,PyData.eqv]
 |n+1,.lst xs,.tup _,_,_,_,_=>by simp[py,PyData.eqv]
 |n+1,.lst xs,.bl _,_,_,_,h=>by simp[mS]at h
 |n+1,.lst xs,.dK _,_,h,_,_=>by simp[plain]at h
 |n+1,.lst xs,.dT _,_,h,_,_=>by simp[plain]at h
 |n+1,.lst xs,.ins _ _,_,h,_,_=>by simp[plain]at h
 |n+1,.lst xs,.d9 _,_,h,_,_=>by simp[plain]at h
 |n+1,.lst xs,.exc _ _,_,h,_,_=>by simp[plain]at h
 |n+1,.lst xs,.cL _ _,_,h,_,_=>by simp[plain]at h
 |n+1,.lst xs,.lam _,_,h,_,_=>by simp[plain]at h
 |n+1,.tup xs,.non,_,_,_,_=>by simp[py,PyData.eqv]
 |n+1,.tup xs,.int _,_,_,_,_=>by simp[py,PyData.eqv]
 |n+1,.tup xs,.str _,_,_,_,_=>by simp[py,PyData.eqv]
 |n+1,.tup xs,.lst _,_,_,_,_=>by simp[py,PyData.eqv]
 |n+1,.tup xs,.bl _,_,_,_,h=>by simp[mS]at h
 |n+1,.tup xs,.dK _,_,h,_,_=>by simp[plain]at h
 |n+1,.tup xs,.dT _,_,h,_,_=>by simp[plain]at h
 |n+1,.tup xs,.ins _ _,_,h,_,_=>by simp[plain]at h
 |n+1,.tup xs,.d9 _,_,h,_,_=>by simp[plain]at h
 |n+1,.tup xs,.exc _ _,_,h,_,_=>by simp[plain]at h
 |n+1,.tup xs,.cL _ _,_,h,_,_=>by simp[plain]at h
 |n+1,.tup xs,.lam _,_,h,_,_=>by simp[plain]at h
theorem GX:∀(n:Nat) (d e:List D),e_ n d=true->e_ n e=true->wV d=true->wV e=true->(PyData.eqvAll (eu d) (eu e)=true↔d=e)
 |_,[],[],_,_,_,_=>by simp[eu,PyData.eqvAll]
 |_,[],_::_,_,_,_,_=>by simp[eu,PyData.eqvAll]
 |_,_::_,[],_,_,_,_=>by simp[eu,PyData.eqvAll]
 |n,x::xs,y::aA,h1,h2,dG,b2=>by
  unfold e_ at h1 h2;unfold wV at dG b2;rw[Bool.and_eq_true]at h1 h2 dG b2;have e1:=XI n x y h1.1 h2.1 dG.1 b2.1;have e2:=GX n xs aA h1.2 h2.2 dG.2 b2.2;simp[eu,PyData.eqvAll,e1,e2]
end
def cutD {α:Type}(xs:List α)(lo hi:Option Int):List α:=(xs.drop (HT.sIx xs.length 0 lo)).take (HT.sIx xs.length xs.length hi-HT.sIx xs.length 0 lo)
section
variable{K:Frag}
theorem JW {G:Hp}:∀(ns:List Int),bJ K G (ns.map V.int) (ns.map D.int)
 |[]=>.nil
 |n::r=>.cons (.int n) (JW r)
theorem SW {G:Hp}:∀{ns:List Int} {vs:List V},bJ K G vs (ns.map D.int)->vs=ns.map V.int
 |[],_,.nil=>rfl
 |_::_,_,.cons h r=>by cases h;rw[SW r];rfl
end
theorem SV {K:Frag}{G:Hp}{vs:List V}{xs:List D}(r:bJ K G vs xs):∀n:Nat,bJ K G (List.replicate n vs).flatten (List.replicate n xs).flatten
 |0=>.nil
 |n+1=>by rw[List.replicate_succ,List.replicate_succ,List.flatten_cons,List.flatten_cons];exact bJ.append r (SV r n)
theorem JY {K:Frag}{G:Hp}:∀{vs:List V} {aA:List Str},bJ K G vs (aA.map D.str)->vs=aA.map V.str
 |_,[],.nil=>rfl
 |_,y::aA,.cons h r=>by cases h;rw[JY r];rfl
theorem SS {K:Frag}{G:Hp}:∀{vs:List V} {aA:List Bool},bJ K G vs (aA.map D.bl)->vs=aA.map V.bl
 |_,[],.nil=>rfl
 |_,y::aA,.cons h r=>by cases h;rw[SS r];rfl
theorem acC:OpR X (binaryOp .Mult) (λx y H Q=>∃z n,x=.str z/\y=.int n/\MulOk z n/\Q (.str (Txt.mul z n)) H):=by
 intro pins s σ H x y v u Q I cU d7 h;obtain⟨z,n,rfl,rfl,hk,q⟩:=h;obtain⟨t,rfl⟩:=cU;obtain⟨t',rfl⟩:=d7;exact SB.mul hk λt' k=>⟨.str _,H,I.tok k,⟨_,rfl⟩,q⟩
theorem adq {K:Frag}{aa:List Addr}{G:Hp}{p:Addr}{vs:List V}{ds:List D}(h:G p=some (.tup vs))(r:bJ K G vs ds):bz K aa G (.ref p) (.dat (.tup ds)):=bK.tup h r
theorem S3 {K:Frag}{aa:List Addr}{G:Hp}{p:Addr}{vs:List V}{ds:List D}(h:G p=some (.lst vs))(r:bJ K G vs ds):bz K aa G (.ref p) (.dat (.lst ds)):=bK.lst h r
theorem z4 {K:Frag}{aa:List Addr}{G:Hp}{p:Addr}{j:Nat}(h:aa[j]?=some p):bz K aa G (.ref p) (.mu j):=⟨p,h,rfl⟩
def tY:List af->Option (List D)
 |[]=>some []
 | .dat d::r=>(tY r).map (d::·)
 |_::_=>none
theorem GG:∀{ss:List af} {ds:List D},tY ss=some ds->ss=ds.map .dat
 |[],_,h=>by cases h;rfl
 | .dat d::r,_,h=>by
  unfold tY at h;cases e:tY r with
  |none=>rw[e]at h;cases h
  |some es=>rw[e]at h;cases h;rw[GG e];rfl
 | .un::_,_,h=>by cases h
 | .mu _::_,_,h=>by cases h
 | .raw _::_,_,h=>by cases h
def lU (M:List ak):af->Option (List D)
 | .dat (.lst ds)=>some ds
 | .mu j=>match M[j]? with
  |some (.lst xs)=>tY xs
  |_=>none
 |_=>none
theorem sr {M:List ak}{s:af}{ds:List D}(h:lU M s=some ds):su M s=some (ds.map .dat):=by
 cases s with
 |dat d=>cases d<;>first|(cases h;done)|(cases h;rfl)
 |mu j=>
  unfold lU at h;unfold su
  dsimp only at h⊢
  split at h
  ·rename_i xs e;rw[GG h]
  ·cases h
 |_=>cases h
def kh (M:List ak):af->Option D
 | .dat d=>some d
 | .mu j=>match M[j]? with
  |some (.lst xs)=>(tY xs).map .lst
  |_=>none
 |_=>none
theorem m7 {K:Frag}{aa:List Addr}{G H:Hp}{M:List ak}{v:V}{s:af}{d:D}{n:Nat}(ms:aE K aa G M H)(r:bz K aa G v s)(h:kh M s=some d)(hp:plain n d=true):Dp K H v (py d):=by
 cases s with
 |dat f=>cases h;exact JF ms.le n _ _ hp r
 |mu j=>
  unfold kh at h
  dsimp only at h
  split at h
  ·rename_i xs e
   cases q:tY xs with
   |none=>rw[q]at h;cases h
   |some ds=>
    rw[q]at h;cases h;obtain⟨p,vs,e1,e2,e3⟩:=o6 ms r (show su M (.mu j)=some xs by unfold su;dsimp only;rw[e]);rw[GG q]at e3;cases n with
    |zero=>simp[plain]at hp
    |succ n=>
     rw[e1];unfold py;exact .lst (SqL.of e2) (Di ms.le n ds _ (by simpa[plain]using hp) (bA.toRps e3))
  ·cases h
 |_=>cases h
def VR (X:Cx)(r:V->Hp->VK->Prop)(g:List ak->af->Option (af×List ak)):Prop:=
 ∀x M s ao aa G H iE Q,g M x=some (s,ao)->aE X.K aa G M H->bz X.K aa G iE x->(∀aj ai H' v,aG aa G H aj ai H'->aE X.K aj ai ao H'->bz X.K aj ai v s->Q v H')->r iE H Q
def A4 (X:Cx)(r:R2)(g:List ak->af->af->Option (af×List ak)):Prop:=
 ∀x y M s ao aa G H iE ri Q,g M x y=some (s,ao)->aE X.K aa G M H->bz X.K aa G iE x->bz X.K aa G ri y->(∀aj ai H' v,aG aa G H aj ai H'->aE X.K aj ai ao H'->bz X.K aj ai v s->Q v H')->r iE ri H Q
def EH (X:Cx)(r:List V->Hp->VK->Prop)(g:List ak->List af->Option (af×List ak)):Prop:=
 ∀x M s ao aa G H iE Q,g M x=some (s,ao)->aE X.K aa G M H->bA X.K aa G iE x->(∀aj ai H' v,aG aa G H aj ai H'->aE X.K aj ai ao H'->bz X.K aj ai v s->Q v H')->r iE H Q
def cM (g:List ak->af->Option (af×List ak))(aJ:CE):CE:=λρ=>(aJ ρ).bind λx=>ofM λM=>g M x
def ay (g:List ak->af->af->Option (af×List ak))(aJ bS:CE):CE:=λρ=>(aJ ρ).bind λx=>(bS ρ).bind λy=>ofM λM=>g M x y
section
variable{X:Cx}{W:WX}{e a b:Expr}{es:List Expr}{aJ bS:CE}{fs:aH}
theorem aeZ {r:V->Hp->VK->Prop}{g}(uP:PE X e (tUn r (wE X a)))(h1:aV X W a aJ)(hv:VR X r g):aV X W e (cM g aJ):=⟨λρ M aa G σ H Q ms en h=>
 toE uP (h1.seq ms en h λav au M1 H1 v1 x g1 m1 r1 aC=>by
  obtain⟨s,ao,e,q⟩:=iF.mp aC;exact hv x M1 s ao av au H1 v1 Q e m1 r1 λaj ai H' v dR m' fU=>q aj ai H' v dR m' fU)⟩
theorem KC {r:R2}{g}(uP:PE X e (tOp r (wE X a) (wE X b)))(h1:aV X W a aJ)(h2:aV X W b bS)(hv:A4 X r g):aV X W e (ay g aJ bS):=⟨λρ M aa G σ H Q ms en h=>
 toE uP (h1.seq ms en h λav au M1 H1 v1 x g1 m1 r1 aC=>h2.seq m1 (en.grow g1) aC λaM aU M2 aO v2 y g2 m2 r2 bN=>by
  obtain⟨s,ao,e,q⟩:=iF.mp bN;exact hv x y M2 s ao aM aU aO v1 v2 Q e m2 (r1.grow g2) r2 λaj ai H' v dR m' fU=>q aj ai H' v dR m' fU)⟩
end
def K8 (X:Cx)(f:Value->Value->Sem Value):R2:=λiE ri H Q=>∃r,OpR X f r/\r iE ri H Q
theorem sG {X:Cx}{f:Value->Value->Sem Value}:OpR X f (K8 X f):=λpins s σ H x y v u Q I cU d7 ⟨r,ho,h⟩=>ho pins s σ H x y v u Q I cU d7 h
def Ue (X:Cx):R2:=λiE ri H Q=>∃r,IxR X r/\r iE ri H Q
theorem aal {X:Cx}:IxR X (Ue X):=λagl sl pins s σ H x y v u Q I cU d7 ⟨r,ho,h⟩=>ho agl sl pins s σ H x y v u Q I cU d7 h
def Ug (X:Cx):V->Option Int->Option Int->Hp->VK->Prop:=λx lo hi H Q=>∃r,L2.SlR X r/\r x lo hi H Q
theorem afh {X:Cx}:L2.SlR X (Ug X):=λpins s σ H x v ago agp lo hi sl Q I cU hs pl pu ⟨r,ho,h⟩=>ho pins s σ H x v ago agp lo hi sl Q I cU hs pl pu h
def rj (X:Cx)(f:Value):List V->Hp->VK->Prop:=λvs H Q=>∃r,CallR X f r/\r vs H Q
theorem Nn {X:Cx}{f:Value}:CallR X f (rj X f):=λpins s σ H vs us Q I bL ⟨r,ho,h⟩=>ho pins s σ H vs us Q I bL h
theorem wU {K:Frag}{aa:List Addr}{G H:Hp}{M:List ak}{vs:List V}{ds:List D}{Q:VK}(ms:aE K aa G M H)(r:bJ K G vs ds)(q:∀aj ai H' v,aG aa G H aj ai H'->aE K aj ai M H'->bz K aj ai v (.dat (.lst ds))->Q v H'){l:Addr}(hl:H l=none):Q (.ref l) (upd H l (.lst vs)):=by
 have pu:=Pure.new (o:=.lst vs) ms.le hl;exact q _ _ _ _ pu.grow (ms.pure pu) (S3 upd_same (bJ.mono pu.ex r))
theorem Jp {K:Frag}{aa:List Addr}{G H:Hp}{M:List ak}{vs:List V}{ds:List D}{Q:VK}(ms:aE K aa G M H)(r:bJ K G vs ds)(q:∀aj ai H' v,aG aa G H aj ai H'->aE K aj ai M H'->bz K aj ai v (.dat (.tup ds))->Q v H'){l:Addr}(hl:H l=none):Q (.ref l) (upd H l (.tup vs)):=by
 have pu:=Pure.new (o:=.tup vs) ms.le hl;exact q _ _ _ _ pu.grow (ms.pure pu) (adq upd_same (bJ.mono pu.ex r))
theorem RG {K:Frag}{aa:List Addr}{G H:Hp}{M:List ak}{vs:List V}{ss:List af}{Q:VK}(ms:aE K aa G M H)(r:bA K aa G vs ss)(q:∀aj ai H' v,aG aa G H aj ai H'->aE K aj ai (M++[.lst ss]) H'->bz K aj ai v (.mu M.length)->Q v H'){l:Addr}(hl:H l=none):Q (.ref l) (upd H l (.lst vs)):=by
 obtain⟨m2,g2⟩:=ms.RD (m:=.lst ss) (o:=.lst vs) hl ⟨vs,upd_same,r.mono (b6.refl G) λj a e=>by rw[List.getElem?_append_left (List.getElem?_eq_some_iff.mp e).1];exact e⟩;exact q _ _ _ _ g2 m2 (z4 (by rw[<-ms.len,List.getElem?_append_right (Nat.le_refl _),Nat.sub_self];rfl))
def eX (m:Bool)(M:List ak)(ds:List D):af×List ak:=if m then(.mu M.length,M++[.lst (ds.map .dat)])else(.dat (.lst ds),M)
theorem RE {K:Frag}{aa:List Addr}{G H:Hp}{M:List ak}{vs:List V}{ds:List D}{m:Bool}{Q:VK}(ms:aE K aa G M H)(r:bJ K G vs ds)(q:∀aj ai H' v,aG aa G H aj ai H'->aE K aj ai (eX m M ds).2 H'->bz K aj ai v (eX m M ds).1->Q v H'){l:Addr}(hl:H l=none):Q (.ref l) (upd H l (.lst vs)):=by
 cases m with
 |true=>exact RG ms (bA.zQ r) q hl
 |false=>exact wU ms r q hl
def bin (op:Operator)(M:List ak):af->af->Option (af×List ak)
 | .dat (.int i),.dat (.int j)=>match op with
  | .Add=>some (.dat (.int (i+j)),M)
  | .Sub=>some (.dat (.int (i-j)),M)
  | .Mult=>if(-(2^64)<i/\i<2^64)\/(-(2^64)<j/\j<2^64)then some (.dat (.int (i*j)),M)else none
  | .Mod=>if 0<j then some (.dat (.int (i%j)),M)else none
  | .FloorDiv=>if 0<j/\j<1073741824 then some (.dat (.int (i/j)),M)else none
  | .Pow=>if 0<=j/\j<=1000000/\i.natAbs<2^64 then some (.dat (.int (i^j.toNat)),M)else none
  |_=>none
 | .dat (.str u),.dat (.str v)=>match op with
  | .Add=>if u.length+v.length<=sizeLine then some (.dat (.str (u++v)),M)else none
  |_=>none
 | .dat (.tup xs),.dat (.tup aA)=>match op with
  | .Add=>if xs.length+aA.length<=sizeLine then some (.dat (.tup (xs++aA)),M)else none
  |_=>none
 | .dat (.str u),.dat (.int i)=>match op with
  | .Mult=>if -(2^63)<=i/\i<=16777216/\u.length*i.toNat<=16777216 then some (.dat (.str (Txt.mul u i)),M)else none
  |_=>none
 |s,.dat (.int i)=>match op with
  | .Mult=>match lU M s with
   |some xs=>if(-(2^63)<=i/\i<2^63)/\xs.length*i.toNat<=sizeLine then some (.dat (.lst (List.replicate i.toNat xs).flatten),M)else none
   |none=>none
  |_=>none
 |s,t=>match op with
  | .Add=>match lU M s,lU M t with
   |some xs,some aA=>if xs.length+aA.length<=sizeLine then some (.dat (.lst (xs++aA)),M)else none
   |_,_=>none
  |_=>none
theorem abU {u:Str}{i:Int}(c:-(2^63)<=i/\i<=16777216/\u.length*i.toNat<=16777216):MulOk u i:=mulOk_of u.length i.toNat (Nat.le_refl _) (by omega) c.1 (by omega) c.2.2
theorem Wf {X:Cx}{op:Operator}:A4 X (K8 X (binaryOp op)) (bin op):=by
 intro x y M s ao aa G H iE ri Q h ms cU d7 q;have fin:∀{v:V} {t:af},(∀aa G,bz X.K aa G v t)->(s=t/\ao=M)->Q v H:=λ{v t} hr ⟨e1,e2⟩=>by
  subst e1 e2;exact q aa G H v (aG.refl _ _ _) ms (hr _ _)
 unfold bin at h;split at h
 ·have ex:=iT cU
  have gR:=iT d7;subst ex gR;cases op<;>dsimp only at h<;>first|(cases h;done)|skip
  ·cases h;exact⟨_,op_add,_,_,rfl,rfl,fin (λ_ _=>mW) ⟨rfl,rfl⟩⟩
  ·cases h;exact⟨_,op_sub,_,_,rfl,rfl,fin (λ_ _=>mW) ⟨rfl,rfl⟩⟩
  ·split at h
   ·rename_i c;cases h;exact⟨_,op_mul,_,_,rfl,rfl,c,fin (λ_ _=>mW) ⟨rfl,rfl⟩⟩
   ·cases h
  ·split at h
   ·rename_i c;cases h;exact⟨_,op_mod,_,_,rfl,rfl,c,fin (λ_ _=>mW) ⟨rfl,rfl⟩⟩
   ·cases h
  ·split at h
   ·rename_i c;cases h;exact⟨_,op_pow,_,_,rfl,rfl,c,fin (λ_ _=>mW) ⟨rfl,rfl⟩⟩
   ·cases h
  ·split at h
   ·rename_i c;cases h;exact⟨_,op_fdiv,_,_,rfl,rfl,c,fin (λ_ _=>mW) ⟨rfl,rfl⟩⟩
   ·cases h
 ·have ex:=pq cU
  have gR:=pq d7;subst ex gR;cases op<;>dsimp only at h<;>first|(cases h;done)|skip
  split at h
  ·rename_i c;cases h;exact⟨_,op_add_str,_,_,rfl,rfl,c,fin (λ_ _=>qY) ⟨rfl,rfl⟩⟩
  ·cases h
 ·rename_i xs aA
  cases op<;>dsimp only at h<;>first|(cases h;done)|skip
  split at h
  ·rename_i c
   cases h
   refine⟨_,op_catA,?_⟩;obtain⟨dI,vs,aC,bN,ly⟩:=Ar (aa:=aa) ms.le cU rfl;obtain⟨cI,ws,fY,d_,pH⟩:=Ar (aa:=aa) ms.le d7 rfl;have l1:=ly.length;have l2:=pH.length;rw[List.length_map]at l1 l2;refine⟨dI,cI,vs,ws,aC,fY,bN,d_,by omega,λe=>?_,λe1 e2=>?_,λe1 e2 l hl=>?_⟩
   ·have:xs=[]:=by rw[e]at l1;exact List.length_eq_zero_iff.mp l1.symm
    subst this;exact q _ _ _ _ (aG.refl _ _ _) ms (by rw[<-fY];exact d7)
   ·have:aA=[]:=by rw[e2]at l2;exact List.length_eq_zero_iff.mp l2.symm
    subst this;exact q _ _ _ _ (aG.refl _ _ _) ms (by rw[<-aC,List.append_nil];exact cU)
   ·exact Jp ms (bJ.append (bA.toRps ly) (bA.toRps pH)) q hl
  ·cases h
 ·have ex:=pq cU
  have gR:=iT d7;subst ex gR;cases op<;>dsimp only at h<;>first|(cases h;done)|skip
  split at h
  ·rename_i c
   cases h
   exact⟨_,acC,_,_,rfl,rfl,abU c,fin (λ_ _=>qY) ⟨rfl,rfl⟩⟩
  ·cases h
 ·have gR:=iT d7
  subst gR;cases op<;>dsimp only at h<;>first|(cases h;done)|skip
  split at h
  ·rename_i xs hx
   split at h
   ·rename_i c
    cases h
    obtain⟨dI,vs,aC,bN,ly⟩:=o6 ms cU (sr hx);exact⟨_,op_rep,dI,_,vs,aC,rfl,bN,c.1.1,c.1.2,by rw[ly.length,List.length_map];exact c.2,λl hl=>wU ms (SV (bA.toRps ly) _) q hl⟩
   ·cases h
  ·cases h
 ·cases op<;>dsimp only at h<;>first|(cases h;done)|skip
  split at h
  ·rename_i xs aA hx hy
   split at h
   ·rename_i c
    cases h
    obtain⟨dI,vs,aC,bN,ly⟩:=o6 ms cU (sr hx);obtain⟨cI,ws,fY,d_,pH⟩:=o6 ms d7 (sr hy);exact⟨_,op_cat,dI,cI,vs,ws,aC,fY,bN,d_,by rw[ly.length,pH.length,List.length_map,List.length_map];exact c,λl hl=>wU ms (bJ.append (bA.toRps ly) (bA.toRps pH)) q hl⟩
   ·cases h
  ·cases h
section
variable{X:Cx}{W:WX}{a b c e:Expr}{es:List Expr}{aJ bS fh:CE}{cg:dB}{pos:Pos}
theorem cP {op:Operator}(h1:aV X W a aJ)(h2:aV X W b bS):aV X W (.BinOp a op b pos) (ay (bin op) aJ bS):=KC (pe_op sG cS cS) h1 h2 Wf
def sC (M:List ak):af->Option (af×List ak)
 | .dat (.int i)=>some (.dat (.int (-i)),M)
 |_=>none
theorem KA (h1:aV X W a aJ):aV X W (.UnaryOp .USub a pos) (cM sC aJ):=aeZ (pe_un un_neg cS) h1 λx M s ao aa G H iE Q h ms cU q=>by
 unfold sC at h;split at h
 ·cases h;exact⟨_,iT cU,q _ _ _ _ (aG.refl _ _ _) ms mW⟩
 ·cases h
def fH (op:CmpOp)(M:List ak):af->af->Option Bool
 | .dat (.int i),.dat (.int j)=>match op with
  | .Lt=>some (decide (i<j))
  | .LtE=>some (decide (i<=j))
  | .Gt=>some (decide (j<i))
  | .GtE=>some (decide (j<=i))
  | .Eq=>some (decide (i=j))
  | .NotEq=>some (!decide (i=j))
  |_=>none
 | .dat (.str u),.dat (.str v)=>match op with
  | .Gt=>some (decide (v.cps.toList<u.cps.toList))
  | .Eq=>some (decide (u=v))
  | .NotEq=>some (!decide (u=v))
  | .In=>match u.cps.toList with
   |[c]=>some (decide (c∈v.cps.toList))
   |_=>none
  | .NotIn=>match u.cps.toList with
   |[c]=>some (!decide (c∈v.cps.toList))
   |_=>none
  |_=>none
 | .dat d,.dat .non=>match op with
  | .Is=>some (isNon d)
  | .IsNot=>some (!isNon d)
  | .Eq=>BS d .non
  | .NotEq=>(BS d .non).map (!·)
  |_=>none
 |x,y=>match op with
  | .Eq=>match kh M x,kh M y with
   |some d,some f=>if plain 58 d&&plain 58 f then some (PyData.eqv (py d) (py f))else none
   |_,_=>none
  | .NotEq=>match kh M x,kh M y with
   |some d,some f=>if plain 58 d&&plain 58 f then some (!PyData.eqv (py d) (py f))else none
   |_,_=>none
  | .In=>match kh M x,kh M y with
   |some d,some (.lst ds)=>if plain 58 d&&e_ 58 ds then some ((eu ds).any λz=>PyData.eqv z (py d))else none
   |some d,some (.tup ds)=>if plain 58 d&&e_ 58 ds then some ((eu ds).any λz=>PyData.eqv z (py d))else none
   |_,_=>none
  | .NotIn=>match kh M x,kh M y with
   |some d,some (.lst ds)=>if plain 58 d&&e_ 58 ds then some (!(eu ds).any λz=>PyData.eqv z (py d))else none
   |some d,some (.tup ds)=>if plain 58 d&&e_ 58 ds then some (!(eu ds).any λz=>PyData.eqv z (py d))else none
   |_,_=>none
  |_=>none
def cmp (op:CmpOp)(M:List ak)(x y:af):Option (af×List ak):=(fH op M x y).map λb=>(.dat (.bl b),M)
def ad7 (K:Frag):R2:=λx y H Q=>∃d ds,Dp K H x d/\Dp K H y (.tuple ds)/\SeqAt.shaped d=true/\SeqAt.shaped (.tuple ds)=true/\Q (.bl (ds.any λz=>PyData.eqv z d)) H
def ad8 (K:Frag):R2:=λx y H Q=>∃d ds,Dp K H x d/\Dp K H y (.tuple ds)/\SeqAt.shaped d=true/\SeqAt.shaped (.tuple ds)=true/\Q (.bl (!ds.any λz=>PyData.eqv z d)) H
theorem acB (hu:X.A.units+65<cLine):OpR X (compareOp .In) (ad7 X.K):=by
 intro pins s σ H x y v u Q I cU d7 h;obtain⟨d,ds,hd,he,z8,Ky,q⟩:=h;obtain⟨as,r1⟩:=Dp.reads I d x v hd cU;obtain⟨bs,r2⟩:=Dp.reads I (.tuple ds) y u he d7;exact SeqAt.in_tuple_reads r2 r1 (SeqAt.canLay_of_shaped Ky) (SeqAt.canLay_of_shaped z8) (room_in_shaped z8 hu) ⟨.bl _,H,I,rfl,q⟩
theorem R6 (hu:X.A.units+65<cLine):OpR X (compareOp .NotIn) (ad8 X.K):=by
 intro pins s σ H x y v u Q I cU d7 h;obtain⟨d,ds,hd,he,z8,Ky,q⟩:=h;obtain⟨as,r1⟩:=Dp.reads I d x v hd cU;obtain⟨bs,r2⟩:=Dp.reads I (.tuple ds) y u he d7;exact SeqAt.notIn_tuple_reads r2 r1 (SeqAt.canLay_of_shaped Ky) (SeqAt.canLay_of_shaped z8) (room_in_shaped z8 hu) ⟨.bl _,H,I,rfl,q⟩
theorem one_sign {u:Str}{c:Nat}(h:u.cps.toList=[c]):u=⟨#[c]⟩:=by
 cases u with
 |mk cps=>cases cps;simp at h;subst h;rfl
theorem rV {op:CmpOp}(hu:X.A.units+65<cLine):A4 X (K8 X (compareOp op)) (cmp op):=by
 intro x y M s ao aa G H iE ri Q h ms cU d7 q;unfold cmp at h;cases hc:fH op M x y with
 |none=>rw[hc]at h;cases h
 |some b=>
  rw[hc]at h;cases h
  have fin:∀{r:Bool},r=b->Q (.bl r) H:=λ{r} e=>by subst e;exact q aa G H _ (aG.refl _ _ _) ms qX
  have qf:∀{d:D},plain 58 d=true->SeqAt.shaped (py d)=true:=λh=>Ae h (by decide)
  have shl:∀{ds:List D},e_ 58 ds=true->SeqAt.shaped (py (.lst ds))=true:=λ{ds} h=>Ae (n:=59) (d:=.lst ds) (by simpa[plain]using h) (by decide)
  have Af:∀{ds:List D},e_ 58 ds=true->SeqAt.shaped (py (.tup ds))=true:=λ{ds} h=>Ae (n:=59) (d:=.tup ds) (by simpa[plain]using h) (by decide)
  have pl:∀{ds:List D},e_ 58 ds=true->plain 59 (.lst ds)=true:=λ{ds} h=>by simpa[plain]using h
  have pt:∀{ds:List D},e_ 58 ds=true->plain 59 (.tup ds)=true:=λ{ds} h=>by simpa[plain]using h
  unfold fH at hc;split at hc
  ·have ex:=iT cU
   have gR:=iT d7;subst ex gR;cases op<;>dsimp only at hc<;>first|(cases hc;done)|skip
   ·cases hc;exact⟨_,op_eq,rfl,fin (by simp)⟩
   ·cases hc;exact⟨_,op_ne,rfl,fin (by simp)⟩
   ·cases hc;exact⟨_,op_lt,_,_,rfl,rfl,fin rfl⟩
   ·cases hc;exact⟨_,op_le,_,_,rfl,rfl,fin rfl⟩
   ·cases hc;exact⟨_,op_gt,_,_,rfl,rfl,fin rfl⟩
   ·cases hc;exact⟨_,op_ge,_,_,rfl,rfl,fin rfl⟩
  ·have ex:=pq cU
   have gR:=pq d7;subst ex gR;cases op<;>dsimp only at hc<;>first|(cases hc;done)|skip
   ·cases hc;exact⟨_,op_eq,rfl,fin (by simp)⟩
   ·cases hc;exact⟨_,op_ne,rfl,fin (by simp)⟩
   ·cases hc;exact⟨_,op_gt_str,_,_,rfl,rfl,fin rfl⟩
   ·split at hc
    ·rename_i c e;cases hc;exact⟨_,op_in_sign,c,_,by rw[one_sign e],rfl,fin rfl⟩
    ·cases hc
   ·split at hc
    ·rename_i c e;cases hc;exact⟨_,op_notIn_sign,c,_,by rw[one_sign e],rfl,fin rfl⟩
    ·cases hc
  ·rename_i d
   have gR:=SO d7;have hn:decide (iE=V.non)=isNon d:=by cases cU<;>simp[isNon]
   cases op<;>dsimp only at hc<;>first|(cases hc;done)|skip
   ·obtain⟨h1,h2⟩:=N7 hc cU d7
    exact⟨_,op_eq,h1,fin h2⟩
   ·cases hq:BS d .non with
    |none=>rw[hq]at hc;cases hc
    |some k=>
     rw[hq]at hc;cases hc;obtain⟨h1,h2⟩:=N7 hq cU d7;exact⟨_,op_ne,h1,fin (by rw[h2])⟩
   ·cases hc;exact⟨_,op_isN,gR,fin hn⟩
   ·cases hc;exact⟨_,op_notN,gR,fin (by rw[hn])⟩
  ·cases op<;>dsimp only at hc<;>first|(cases hc;done)|skip
   ·split at hc
    ·rename_i d f h1 h2
     split at hc
     ·rename_i hp
      rw[Bool.and_eq_true]at hp;cases hc
      exact⟨_,op_eqD (by omega),_,_,m7 ms cU h1 hp.1,m7 ms d7 h2 hp.2,qf hp.1,qf hp.2,fin rfl⟩
     ·cases hc
    ·cases hc
   ·split at hc
    ·rename_i d f h1 h2
     split at hc
     ·rename_i hp
      rw[Bool.and_eq_true]at hp;cases hc
      exact⟨_,op_neD (by omega),_,_,m7 ms cU h1 hp.1,m7 ms d7 h2 hp.2,qf hp.1,qf hp.2,fin rfl⟩
     ·cases hc
    ·cases hc
   ·split at hc
    ·rename_i d ds h1 h2
     split at hc
     ·rename_i hp
      rw[Bool.and_eq_true]at hp;cases hc
      exact⟨_,L2.op_inD hu,_,_,m7 ms cU h1 hp.1,m7 ms d7 h2 (pl hp.2),qf hp.1,shl hp.2,fin rfl⟩
     ·cases hc
    ·rename_i d ds h1 h2
     split at hc
     ·rename_i hp
      rw[Bool.and_eq_true]at hp;cases hc
      exact⟨_,acB hu,_,_,m7 ms cU h1 hp.1,m7 ms d7 h2 (pt hp.2),qf hp.1,Af hp.2,fin rfl⟩
     ·cases hc
    ·cases hc
   ·split at hc
    ·rename_i d ds h1 h2
     split at hc
     ·rename_i hp
      rw[Bool.and_eq_true]at hp;cases hc
      exact⟨_,L2.op_notInD hu,_,_,m7 ms cU h1 hp.1,m7 ms d7 h2 (pl hp.2),qf hp.1,shl hp.2,fin rfl⟩
     ·cases hc
    ·rename_i d ds h1 h2
     split at hc
     ·rename_i hp
      rw[Bool.and_eq_true]at hp;cases hc
      exact⟨_,R6 hu,_,_,m7 ms cU h1 hp.1,m7 ms d7 h2 (pt hp.2),qf hp.1,Af hp.2,fin rfl⟩
     ·cases hc
    ·cases hc
theorem nR {op:CmpOp}(hu:X.A.units+65<cLine)(h1:aV X W a aJ)(h2:aV X W b bS)(hm:behindInMarks op b=false:=by rfl):aV X W (.Compare a [op] [b] pos) (ay (cmp op) aJ bS):=KC (pe_cmpR sG cS cS hm) h1 h2 (rV hu)
end
def iZ:af->Ev Bool
 | .dat (.bl b)=>ok b
 |_=>bad
theorem Ld {s:af}{M:List ak}{Q:Re Bool->Prop}(h:wp (iZ s M) Q):∃b,s=.dat (.bl b)/\Q (.ok b M):=by
 unfold iZ at h;split at h
 ·exact⟨_,rfl,h⟩
 ·exact h.elim
def bZ (f:CE):dB:=λρ=>(f ρ).bind iZ
def tNot (f:dB):dB:=λρ=>(f ρ).bind λb=>ok (!b)
def tAnd (f g:dB):dB:=λρ=>(f ρ).bind λb=>if b then g ρ else ok false
def tOr (f g:dB):dB:=λρ=>(f ρ).bind λb=>if b then ok true else g ρ
def jq (f g:CE):CE:=λρ=>(f ρ).bind λs=>match s with
 | .dat (.bl true)=>g ρ
 | .dat (.bl false)=>ok (.dat (.bl false))
 |_=>bad
def GJ (c:dB)(f g:CE):CE:=λρ=>(c ρ).bind λb=>if b then f ρ else g ρ
def tW (op fE:CmpOp)(aJ bS fh:CE):CE:=λρ=>(aJ ρ).bind λx=>(bS ρ).bind λy=>λM=>match fH op M x y with
 |some true=>(fh ρ).bind (λz=>ofM λM=>cmp fE M y z) M
 |some false=>.ret (.ok (.dat (.bl false)) M)
 |none=>.bad
section
variable{X:Cx}{W:WX}{a b c e o:Expr}{es:List Expr}{aJ bS fh:CE}{fs:aH}{cg gt:dB}{pos cI apos p:Pos}
theorem sS (h1:aV X W e aJ)(he:∀whole,isTrue e X.env whole=(do let v <-whole;standAt e.pos;holding [v] (truthy v)):=by intro _;rfl):ST X W e (bZ aJ):=⟨λρ M aa G σ H Q ms en h=>
 toT (pt_val cS he) (h1.seq ms en h λav au M1 H1 v1 s g1 m1 r1 aC=>by
  obtain⟨b,rfl,aC⟩:=Ld aC;exact⟨_,pe r1,aC av au H1 _ (aG.refl _ _ _) m1 rfl⟩)⟩
theorem iu {op:CmpOp}(hu:X.A.units+65<cLine)(h1:aV X W a aJ)(h2:aV X W b bS)(hm:behindInMarks op b=false:=by rfl):ST X W (.Compare a [op] [b] pos) (bZ (ay (cmp op) aJ bS)):=⟨λρ M aa G σ H Q ms en h=>by
 have h':wp (Ev.bind (aJ ρ) (λx=>Ev.bind (bS ρ) λy=>Ev.bind (ofM λM=>cmp op M x y) iZ) M) (cV X W vt Q σ aa G H):=by
  refine cz.mpr (wp_mono (λr hr=>?_) (cz.mp (cz.mp h)));cases r with
  |ex c fs M1=>exact hr
  |ok x M1=>
   refine cz.mpr (wp_mono (λr hr=>?_) (cz.mp hr));cases r with
   |ex c fs M1=>exact hr
   |ok y M2=>exact cz.mpr hr
 refine toT (pt_cmpR sG cS cS hm) (h1.seq ms en h' λav au M1 H1 v1 x g1 m1 r1 aC=>h2.seq m1 (en.grow g1) aC λaM aU M2 aO v2 y g2 m2 r2 bN=>?_);obtain⟨s,ao,e,q⟩:=iF.mp (cz.mp bN);refine rV hu x y M2 s ao aM aU aO v1 v2 _ e m2 (r1.grow g2) r2 λaj ai H' v dR m' fU=>?_
 obtain⟨b,rfl,q⟩:=Ld q;exact⟨_,pe fU,q _ _ _ _ dR m' rfl⟩⟩
theorem uZ (h1:ST X W a cg):ST X W (.UnaryOp .Not a pos) (tNot cg):=⟨λρ M aa G σ H Q ms en h=>
 toT (pt_not sJ) (h1.seq ms en h λav au M1 H1 k g1 m1 aC=>aC av au H1 _ (aG.refl _ _ _) m1 rfl)⟩
theorem sR (h1:vz X W e cg):ST X W e cg:=⟨λρ M aa G σ H Q ms en h=>toT (PW.pt pw_w) (h1.run ρ M aa G σ H Q ms en h)⟩
theorem sU {op:BoolOp}(h1:ST X W a cg):vz X W (.BoolOp op [a] pos) cg:=⟨λρ M aa G σ H Q ms en h=>by
 cases op
 ·exact toW (pw_and1 sJ) (h1.run ρ M aa G σ H Q ms en h)
 ·exact toW (pw_or1 sJ) (h1.run ρ M aa G σ H Q ms en h)⟩
theorem afC (h1:ST X W a cg)(h2:vz X W (.BoolOp .And (b::es) pos) gt):vz X W (.BoolOp .And (a::b::es) pos) (tAnd cg gt):=⟨λρ M aa G σ H Q ms en h=>
 toW (pw_and sJ pw_w) (h1.seq ms en h λav au M1 H1 k g1 m1 aC=>by
  cases k with
  |true=>exact iteT (h2.run ρ M1 av au σ H1 Q m1 (en.grow g1) aC)
  |false=>exact iteF (aC av au H1 _ (aG.refl _ _ _) m1 rfl))⟩
theorem sV (h1:ST X W a cg)(h2:vz X W (.BoolOp .Or (b::es) pos) gt):vz X W (.BoolOp .Or (a::b::es) pos) (tOr cg gt):=⟨λρ M aa G σ H Q ms en h=>
 toW (pw_or sJ pw_w) (h1.seq ms en h λav au M1 H1 k g1 m1 aC=>by
  cases k with
  |false=>exact iteF (h2.run ρ M1 av au σ H1 Q m1 (en.grow g1) aC)
  |true=>exact iteT (aC av au H1 _ (aG.refl _ _ _) m1 rfl))⟩
theorem Tf (h0:ST X W c cg)(h1:aV X W a aJ)(h2:aV X W b bS):aV X W (.IfExp c a b pos) (GJ cg aJ bS):=⟨λρ M aa G σ H Q ms en h=>
 toE (pe_ifExp sJ cS cS) (h0.seq ms en h λav au M1 H1 k g1 m1 aC=>by
  cases k with
  |true=>exact iteT (h1.run ρ M1 av au σ H1 Q m1 (en.grow g1) aC)
  |false=>exact iteF (h2.run ρ M1 av au σ H1 Q m1 (en.grow g1) aC))⟩
theorem uW {op:BoolOp}(h1:aV X W a aJ):aV X W (.BoolOp op [a] pos) aJ:=⟨λρ M aa G σ H Q ms en h=>toE (pe_one cS) (h1.run ρ M aa G σ H Q ms en h)⟩
theorem sO (h1:aV X W a aJ)(h2:aV X W (.BoolOp .And (b::es) pos) bS):aV X W (.BoolOp .And (a::b::es) pos) (jq aJ bS):=⟨λρ M aa G σ H Q ms en h=>
 toE (pe_and cS cS) (h1.seq ms en h λav au M1 H1 v s g1 m1 r1 aC=>by
  split at aC
  ·exact⟨_,pe r1,iteT (h2.run ρ M1 av au σ H1 Q m1 (en.grow g1) aC)⟩
  ·exact⟨_,pe r1,iteF (aC av au H1 _ (aG.refl _ _ _) m1 qX)⟩
  ·exact aC.elim)⟩
theorem By {op:CmpOp}{M:List ak}{x y:af}{k:Bool}(h:fH op M x y=some k):cmp op M x y=some (.dat (.bl k),M):=by unfold cmp;rw[h];rfl
theorem aeT {op fE:CmpOp}(hu:X.A.units+65<cLine)(h1:aV X W a aJ)(h2:aV X W b bS)(h3:aV X W c fh)(hm:lastMarks [op,fE] [b,c]=false:=by with_unfolding_all rfl):aV X W (.Compare a [op,fE] [b,c] pos) (tW op fE aJ bS fh):=⟨λρ M aa G σ H Q ms en h=>
 toE (pe_chain sG sG cS cS cS hm) (h1.seq ms en h λav au M1 H1 v1 x g1 m1 r1 aC=>h2.seq m1 (en.grow g1) aC λaM aU M2 aO v2 y g2 m2 r2 bN=>by
  split at bN
  ·rename_i hc
   refine rV hu x y M2 _ M2 aM aU aO v1 v2 _ (By hc) m2 (r1.grow g2) r2 λdO eN ff xJ g3 m3 r3=>⟨_,pe r3,iteT ?_⟩
   refine h3.seq m3 ((en.grow (g1.trans g2)).grow g3) (wp_mono (λ_=>cV.shift g3) bN) λpK pN tF jD v4 z nA m4 nP K7=>?_
   obtain⟨s,ao,e,q⟩:=iF.mp K7;exact rV hu y z tF s ao pK pN jD v2 v4 _ e m4 ((r2.grow g3).grow nA) nP λrB rF qm K4 yP zK nQ=>q _ _ _ _ yP zK nQ
  ·rename_i hc
   exact rV hu x y M2 _ M2 aM aU aO v1 v2 _ (By hc) m2 (r1.grow g2) r2 λdO eN ff xJ g3 m3 r3=>⟨_,pe r3,iteF (bN _ _ _ _ g3 m3 qX)⟩
  ·exact bN.elim)⟩
theorem aft {op fE:CmpOp}(hu:X.A.units+65<cLine)(h1:aV X W a aJ)(h2:aV X W b bS)(h3:aV X W c fh)(hm:lastMarks [op,fE] [b,c]=false:=by with_unfolding_all rfl):ST X W (.Compare a [op,fE] [b,c] pos) (bZ (tW op fE aJ bS fh)):=⟨λρ M aa G σ H Q ms en h=>by
 have h':wp (Ev.bind (aJ ρ) (λx=>Ev.bind (bS ρ) λy=>λM=>match fH op M x y with
  |some true=>Ev.bind (fh ρ) (λz=>Ev.bind (ofM λM=>cmp fE M y z) iZ) M
  |some false=>.ret (.ok false M)
  |none=>.bad) M) (cV X W vt Q σ aa G H):=by
  refine cz.mpr (wp_mono (λr hr=>?_) (cz.mp (cz.mp h)));cases r with
  |ex c fs M1=>exact hr
  |ok x M1=>
   refine cz.mpr (wp_mono (λr hr=>?_) (cz.mp hr));cases r with
   |ex c fs M1=>exact hr
   |ok y M2=>
    dsimp only[bH]at hr⊢
    cases hc:fH op M2 x y with
    |none=>rw[hc]at hr;exact hr.elim
    |some k=>
     rw[hc]at hr;cases k with
     |false=>exact hr
     |true=>
      refine cz.mpr (wp_mono (λr hr=>?_) (cz.mp hr));cases r with
      |ex c fs M1=>exact hr
      |ok z bB=>exact cz.mpr hr
 refine toT (pt_chain sG sG cS cS cS hm) (h1.seq ms en h' λav au M1 H1 v1 x g1 m1 r1 aC=>h2.seq m1 (en.grow g1) aC λaM aU M2 aO v2 y g2 m2 r2 bN=>?_);split at bN
 ·rename_i hc
  refine rV hu x y M2 _ M2 aM aU aO v1 v2 _ (By hc) m2 (r1.grow g2) r2 λdO eN ff xJ g3 m3 r3=>⟨_,pe r3,iteT ?_⟩
  refine h3.seq m3 ((en.grow (g1.trans g2)).grow g3) (wp_mono (λ_=>cV.shift g3) bN) λpK pN tF jD v4 z nA m4 nP K7=>?_
  obtain⟨s,ao,e,q⟩:=iF.mp (cz.mp K7);refine rV hu y z tF s ao pK pN jD v2 v4 _ e m4 ((r2.grow g3).grow nA) nP λrB rF qm K4 yP zK nQ=>?_
  obtain⟨b,rfl,q⟩:=Ld q;exact⟨_,pe nQ,q _ _ _ _ yP zK rfl⟩
 ·rename_i hc
  exact rV hu x y M2 _ M2 aM aU aO v1 v2 _ (By hc) m2 (r1.grow g2) r2 λdO eN ff xJ g3 m3 r3=>⟨_,pe r3,iteF ⟨_,rfl,bN _ _ _ _ g3 m3 rfl⟩⟩
 ·exact bN.elim⟩
end
def yG (M:List ak):af->Option D
 | .dat d=>some d
 | .mu j=>match M[j]? with
  |some (.fz (some d))=>some d
  |_=>none
 |_=>none
def rZ (M:List ak):List af->Option (List D)
 |[]=>some []
 |s::r=>match yG M s,rZ M r with
  |some d,some ds=>some (d::ds)
  |_,_=>none
def kI {cW:Type}(M:List ak):List (cW×af)->Option (List (cW×D))
 |[]=>some []
 |(k,s)::r=>match yG M s,kI M r with
  |some d,some ds=>some ((k,d)::ds)
  |_,_=>none
@[simp]theorem Xo (M:List ak):∀ds:List D,rZ M (ds.map .dat)=some ds
 |[]=>rfl
 |d::r=>by rw[List.map_cons,rZ,Xo M r];rfl
def oN (M:List ak):ak->Option D
 | .lst xs=>(rZ M xs).map .lst
 | .dK xs=>(kI M xs).map .dK
 | .ins c xs=>(kI M xs).map (.ins c)
 | .fz (some d)=>some d
 |_=>none
def jL (M:List ak):af->Option (D×List ak)
 | .dat d=>some (d,M)
 | .mu j=>match M[j]? with
  |some m=>match oN M m with
   |some d=>some (d,M.set j (.fz (some d)))
   |none=>none
  |none=>none
 |_=>none
def iA (M:List ak):List af->Option (List D×List ak)
 |[]=>some ([],M)
 |s::r=>match jL M s with
  |some (d,M1)=>match iA M1 r with
   |some (ds,M2)=>some (d::ds,M2)
   |none=>none
  |none=>none
section
variable{K:Frag}{aa:List Addr}{G H:Hp}{M:List ak}
theorem GA {v:V}{s:af}{d:D}(ms:aE K aa G M H)(r:bz K aa G v s)(h:yG M s=some d):bK K G v d:=by
 cases s with
 |dat f=>cases h;exact r
 |mu j=>
  unfold yG at h
  dsimp only at h
  split at h
  ·rename_i f hm
   cases h
   obtain⟨a,h1,rfl⟩:=r;exact(ms.mo j a _ h1 hm).2.2 d rfl
  ·cases h
 |_=>cases h
theorem GF (ms:aE K aa G M H):∀{vs:List V} {ss:List af} {ds:List D},bA K aa G vs ss->rZ M ss=some ds->bJ K G vs ds
 |_,_,_,.nil,h=>by cases h;exact .nil
 |_,s::r,_,.cons h1 h2,h=>by
  unfold rZ at h;split at h
  ·rename_i d ds e1 e2;cases h;exact .cons (GA ms h1 e1) (GF ms h2 e2)
  ·cases h
theorem GD (ms:aE K aa G M H):∀{vs:List (Key×V)} {ss:List (Key×af)} {ds:List (Key×D)},gp K aa G vs ss->kI M ss=some ds->lD K G vs ds
 |_,_,_,.nil,h=>by cases h;exact .nil
 |(k,v)::_,(dJ,s)::r,_,.cons ⟨h0,h1⟩ h2,h=>by
  have h0:k=dJ:=h0;subst h0;unfold kI at h;split at h
  ·rename_i d ds e1 e2;cases h;exact .cons (GA ms h1 e1) (GD ms h2 e2)
  ·cases h
theorem GB (ms:aE K aa G M H):∀{vs:List (Str×V)} {ss:List (Str×af)} {ds:List (Str×D)},gp K aa G vs ss->kI M ss=some ds->fG K G vs ds
 |_,_,_,.nil,h=>by cases h;exact .nil
 |(k,v)::_,(dJ,s)::r,_,.cons ⟨h0,h1⟩ h2,h=>by
  have h0:k=dJ:=h0;subst h0;unfold kI at h;split at h
  ·rename_i d ds e1 e2;cases h;exact .cons (GA ms h1 e1) (GB ms h2 e2)
  ·cases h
theorem Ja {j:Nat}{a:Addr}{m:ak}{u:HO}{d:D}(ms:aE K aa G M H)(e1:aa[j]?=some a)(e2:M[j]?=some m)(ga:G a=none)(hu:H a=some u)(hx:∀ob,u≠bM a ob)(hd:bK K (upd G a u) (.ref a) d):
    aE K aa (upd G a u) (M.set j (.fz (some d))) H/\aG aa G H aa (upd G a u) H:=by
  have ex:b6 G (upd G a u):=b6.new ga;refine⟨⟨λb o q=>?_,by rw[List.length_set];exact ms.len,ms.nd,λi b zL f1 f2=>?_,ms.dQ⟩,⟨ex,⟨[],by simp,by simp⟩,λ_ _ h _=>h,λb _ hn=>.inl (upd_ne λz=>hn (z▸List.mem_of_getElem? e1)),λ_ h=>h⟩⟩
  · by_cases z:b=a
    · subst z;rw[upd_same]at q;cases q;exact .inl hu
    · rw[upd_ne z]at q;exact ms.le b o q
  · by_cases z:i=j
    · subst z
      rw[e1]at f1;cases f1;rw[List.getElem?_set_self (List.getElem?_eq_some_iff.mp e2).1]at f2;cases f2
      exact⟨λq=>q.elim,⟨u,upd_same,hx⟩,λgu q=>by cases q;exact hd⟩
    · rw[List.getElem?_set_ne (Ne.symm z)]at f2
      have nb:b≠a:=λq=>z (ms.inj f1 (q▸e1))
      obtain⟨q1,q2⟩:=ms.mo i b zL f1 f2;exact⟨λy=>by rw[upd_ne nb];exact q1 y,q2.mono ex (λ_ _ y=>y) rfl⟩
theorem ug {v:V}{s:af}{d:D}{ao:List ak}(ms:aE K aa G M H)(r:bz K aa G v s)(h:jL M s=some (d,ao)):∃ai,aE K aa ai ao H/\aG aa G H aa ai H/\bK K ai v d:=by
 cases s with
 |dat f=>cases h;exact⟨G,ms,aG.refl _ _ _,r⟩
 |mu j=>
  unfold jL at h
  dsimp only at h
  split at h
  ·rename_i m hm
   split at h
   ·rename_i f hf
    cases h
    obtain⟨a,h1,rfl⟩:=r;obtain⟨q1,q2⟩:=ms.mo j a _ h1 hm;cases m with
    |lst xs=>
     obtain⟨vs,e1,e2⟩:=q2;cases hx:rZ M xs with
     |none=>unfold oN at hf;dsimp only at hf;rw[hx]at hf;cases hf
     |some ds=>
      unfold oN at hf;dsimp only at hf;rw[hx]at hf;cases hf;obtain⟨m2,g2⟩:=Ja ms h1 hm (q1 trivial) e1 (λob z=>by unfold bM at z;cases z) (.lst upd_same (bJ.mono (b6.new (q1 trivial)) (GF ms e2 hx)));exact⟨_,m2,g2,.lst upd_same (bJ.mono (b6.new (q1 trivial)) (GF ms e2 hx))⟩
    |dK xs=>
     obtain⟨vs,e1,e2⟩:=q2;cases hx:kI M xs with
     |none=>unfold oN at hf;dsimp only at hf;rw[hx]at hf;cases hf
     |some ds=>
      unfold oN at hf;dsimp only at hf;rw[hx]at hf;cases hf;obtain⟨m2,g2⟩:=Ja ms h1 hm (q1 trivial) e1 (λob z=>by unfold bM at z;cases z) (.dK (.inl upd_same) (lD.mono (b6.new (q1 trivial)) (GD ms e2 hx)));exact⟨_,m2,g2,.dK (.inl upd_same) (lD.mono (b6.new (q1 trivial)) (GD ms e2 hx))⟩
    |dT xs=>cases hf
    |ins c xs=>
     obtain⟨bx,vs,e1,e2⟩:=q2;cases hx:kI M xs with
     |none=>unfold oN at hf;dsimp only at hf;rw[hx]at hf;cases hf
     |some ds=>
      unfold oN at hf;dsimp only at hf;rw[hx]at hf;cases hf;obtain⟨m2,g2⟩:=Ja ms h1 hm (q1 trivial) e1 (λob z=>by unfold bM at z;cases z) (.ins upd_same (fG.mono (b6.new (q1 trivial)) (GB ms e2 hx)));exact⟨_,m2,g2,.ins upd_same (fG.mono (b6.new (q1 trivial)) (GB ms e2 hx))⟩
    |fz o=>
     cases o with
     |none=>cases hf
     |some f=>
      cases hf
      have e:M.set j (.fz (some d))=M:=by
       refine List.ext_getElem? λi=>?_
       by_cases z:i=j
       ·subst z;rw[List.getElem?_set_self (List.getElem?_eq_some_iff.mp hm).1,hm]
       ·rw[List.getElem?_set_ne (Ne.symm z)]
      rw[e];exact⟨G,ms,aG.refl _ _ _,q2.2 d rfl⟩
    |hand=>cases hf
    |tab q=>cases hf
    |qx xs=>cases hf
   ·cases h
  ·cases h
 |_=>cases h
theorem yO:∀{vs:List V} {ss:List af} {G:Hp} {M:List ak} {ds:List D} {ao:List ak},aE K aa G M H->bA K aa G vs ss->iA M ss=some (ds,ao)->∃ai,aE K aa ai ao H/\aG aa G H aa ai H/\bJ K ai vs ds
 |_,_,G,M,_,_,ms,.nil,h=>by cases h;exact⟨G,ms,aG.refl _ _ _,.nil⟩
 |_,s::r,G,M,_,_,ms,.cons h1 h2,h=>by
  unfold iA at h;split at h
  ·rename_i d M1 e1
   split at h
   ·rename_i ds M2 e2
    cases h
    obtain⟨au,m1,g1,r1⟩:=ug ms h1 e1;obtain⟨aU,m2,g2,r2⟩:=yO m1 (bA.grow g1 h2) e2;exact⟨aU,m2,g1.trans g2,.cons (r1.mono g2.ex) r2⟩
   ·cases h
  ·cases h
end
def dN (f:aH):CE:=λρ=>(f ρ).bind λss=>ofM λM=>match iA M ss with
 |some (ds,ao)=>if ds.length<=sizeLine then some (.dat (.tup ds),ao)else none
 |none=>none
def fC (m:Bool)(f:aH):CE:=λρ=>(f ρ).bind λss=>ofM λM=>if ss.length<=sizeLine then(if m then some (.mu M.length,M++[.lst ss])else match iA M ss with
 |some (ds,ao)=>some (.dat (.lst ds),ao)
 |none=>none)else none
section
variable{X:Cx}{W:WX}{a b c e o:Expr}{es:List Expr}{aJ bS fh:CE}{fs:aH}{cg gt:dB}{pos cI apos p:Pos}
theorem gT {k:Nat}(h1:jn X W es fs):aV X W (.Tuple es k pos) (dN fs):=⟨λρ M aa G σ H Q ms en h=>
 toE (pe_tup uN) (h1.seq ms en h λav au M1 H1 vs ss g1 m1 r1 aC=>by
  obtain⟨s,ao,e,q⟩:=iF.mp aC;split at e
  ·rename_i ds M2 e1
   split at e
   ·rename_i hz
    cases e
    obtain⟨aU,m2,g2,r2⟩:=yO m1 r1 e1;refine⟨by rw[r2.length];exact hz,λl hl=>?_⟩;exact Jp m2 r2 (λaj ai H' v g m r=>q aj ai H' v (g2.trans g) m r) hl
   ·cases e
  ·cases e)⟩
theorem mZ (m:Bool)(h1:jn X W es fs):aV X W (.List es pos) (fC m fs):=⟨λρ M aa G σ H Q ms en h=>
 toE (pe_lst uN) (h1.seq ms en h λav au M1 H1 vs ss g1 m1 r1 aC=>by
  obtain⟨s,ao,e,q⟩:=iF.mp aC;split at e
  ·rename_i hz
   refine⟨by rw[r1.length];exact hz,λl hl=>?_⟩;cases m with
   |true=>
    rw[if_pos rfl]at e;cases e
    exact RG m1 r1 (λaj ai H' v g m r=>q aj ai H' v g m r) hl
   |false=>
    rw[if_neg (by decide)]at e;split at e
    ·rename_i ds M2 e1
     cases e
     obtain⟨aU,m2,g2,r2⟩:=yO m1 r1 e1;exact wU m2 r2 (λaj ai H' v g m r=>q aj ai H' v (g2.trans g) m r) hl
    ·cases e
  ·cases e)⟩
def bT (M:List ak)(x y:af):Option (af×List ak):=match y with
 | .dat (.int i)=>match x with
  | .dat (.str z)=>if z.length<=sizeLine then(atI z.cps.toList i).map λc=>(.dat (.str ⟨#[c]⟩),M)else none
  | .dat (.tup ds)=>(atI ds i).map λd=>(.dat d,M)
  | .dat (.lst ds)=>(atI ds i).map λd=>(.dat d,M)
  | .mu j=>match M[j]? with
   |some (.lst xs)=>(atI xs i).map λs=>(gJ M s,M)
   |_=>none
  |_=>none
 |_=>none
theorem aah:A4 X (Ue X) bT:=by
 intro x y M s ao aa G H iE ri Q h ms cU d7 q;unfold bT at h;split at h
 ·rename_i i
  have gR:=iT d7;split at h
  ·split at h
   ·rename_i z hz
    cases e:atI z.cps.toList i with
    |none=>rw[e]at h;cases h
    |some c=>rw[e]at h;cases h;exact⟨_,ix_str,z,i,c,pq cU,gR,hz,e,q _ _ _ _ (aG.refl _ _ _) ms qY⟩
   ·cases h
  ·rename_i ds
   cases e:atI ds i with
   |none=>rw[e]at h;cases h
   |some d=>
    rw[e]at h;cases h;obtain⟨p,vs,e4,iz,oF⟩:=Ar ms.le cU rfl;obtain⟨v,tZ,e8⟩:=Fl oF (MU e);exact⟨_,ix_tup,p,vs,i,v,e4,gR,iz,tZ,q _ _ _ _ (aG.refl _ _ _) ms e8⟩
  ·rename_i ds
   cases e:atI ds i with
   |none=>rw[e]at h;cases h
   |some d=>
    rw[e]at h;cases h;obtain⟨p,vs,e4,iz,oF⟩:=o6 ms cU rfl;obtain⟨v,tZ,e8⟩:=Fl oF (MU e);exact⟨_,ix_list,p,vs,i,v,e4,gR,SqL.of iz,tZ,q _ _ _ _ (aG.refl _ _ _) ms e8⟩
  ·rename_i j
   split at h
   ·rename_i xs hm
    cases e:atI xs i with
    |none=>rw[e]at h;cases h
    |some t=>
     rw[e]at h;cases h;obtain⟨p,vs,e4,iz,oF⟩:=o6 ms cU (show su M (.mu j)=some xs by unfold su;dsimp only;rw[hm]);obtain⟨v,tZ,e8⟩:=Fl oF e;exact⟨_,ix_list,p,vs,i,v,e4,gR,SqL.of iz,tZ,q _ _ _ _ (aG.refl _ _ _) ms (De ms e8)⟩
   ·cases h
  ·cases h
 ·cases h
theorem jg (h1:aV X W a aJ)(h2:aV X W b bS)(hs:PlainIx b:=by intro _ _;rfl):aV X W (.Subscript a b pos) (ay bT aJ bS):=KC (pe_ix aal cS cS hs) h1 h2 aah
def xT:Type:=List af->Ev (Option Int)
def Df:xT:=λ_=>ok none
def wW (f:CE):xT:=λρ=>(f ρ).bind λs=>match s with
 | .dat (.int i)=>ok (some i)
 |_=>bad
structure AZ (X:Cx)(W:WX)(e:Option Expr)(f:xT):Prop where
 run:∃t:TO,PO X e t/\∀ρ M aa G σ H (Q:Option Int->Hp->Prop),aE X.K aa G M H->bO X.K aa G σ ρ->wp (f ρ M) (cV X W (λ_ _ b a=>b=a) Q σ aa G H)->t σ H Q
theorem afj:AZ X W none Df:=⟨_,po_none,λρ M aa G σ H Q ms en h=>h aa G H _ (aG.refl _ _ _) ms rfl⟩
theorem KI (h1:aV X W e aJ):AZ X W (some e) (wW aJ):=⟨_,po_some cS,λρ M aa G σ H Q ms en h=>h1.seq ms en h λav au M1 H1 v s g1 m1 r1 aC=>by
 split at aC
 ·exact⟨_,iT r1,aC av au H1 _ (aG.refl _ _ _) m1 rfl⟩
 ·exact aC.elim⟩
def Ag (M:List ak)(x:af)(l u:Option Int):Option (af×List ak):=match x with
 | .dat (.str z)=>if z.length<=sizeLine then some (.dat (.str (cutS z l u)),M)else none
 | .dat (.d9 ns)=>some (.dat (.lst ((cutD ns l u).map .int)),M)
 | .dat (.tup ds)=>some (.dat (.tup (cutD ds l u)),M)
 |s=>match lU M s with
  |some ds=>some (.dat (.lst (cutD ds l u)),M)
  |none=>none
theorem af9 {x:af}{l u:Option Int}{M ao:List ak}{s:af}{aa:List Addr}{G H:Hp}{iE:V}{Q:VK}(h:Ag M x l u=some (s,ao))(ms:aE X.K aa G M H)(r1:bz X.K aa G iE x)(q:∀aj ai H' v,aG aa G H aj ai H'->aE X.K aj ai ao H'->bz X.K aj ai v s->Q v H'):Ug X iE l u H Q:=by
 unfold Ag at h;split at h
 ·split at h
  ·rename_i hz;cases h;exact⟨_,sl_str,_,pq r1,hz,q _ _ _ _ (aG.refl _ _ _) ms qY⟩
  ·cases h
 ·rename_i ns
  cases h
  cases r1 with
  |d9 hq=>
   refine⟨_,sl_list,_,_,rfl,ms.le.l hq,λpl hl=>?_⟩;have e:cutV (ns.map V.int) l u=(cutD ns l u).map V.int:=by unfold cutV cutD;rw[List.length_map,List.map_take,List.map_drop]
   rw[e];exact wU ms (JW _) q hl
 ·rename_i ds
  cases h
  obtain⟨p,vs,e1,e2,e3⟩:=Ar (aa:=aa) ms.le r1 rfl;have hl:vs.length=ds.length:=by rw[e3.length,List.length_map]
  have cE:bJ X.K G (cutV vs l u) (cutD ds l u):=by
   unfold cutV cutD;rw[hl];exact bJ.take _ (bJ.drop _ (bA.toRps e3))
  refine⟨_,sl_tupA,p,vs,e1,e2,λhw=>?_,λhw p hp=>?_⟩
  ·have:cutD ds l u=ds:=by unfold cutD;rw[<-hl,hw.1,hw.2];simp[hl]
   exact q _ _ _ _ (aG.refl _ _ _) ms (by rw[this,<-e1];exact r1)
  ·exact Jp ms cE q hp
 ·split at h
  ·rename_i ds hd
   cases h
   obtain⟨p,vs,e1,e2,e3⟩:=o6 ms r1 (sr hd);refine⟨_,sl_list,p,vs,e1,SqL.of e2,λpl hl=>?_⟩;refine wU ms ?_ q hl;unfold cutV cutD;rw[e3.length,List.length_map];exact bJ.take _ (bJ.drop _ (bA.toRps e3))
  ·cases h
def yI (f:CE)(g h:xT):CE:=λρ=>(f ρ).bind λx=>Ev.bind (g ρ) λl=>Ev.bind (h ρ) λu=>ofM λM=>Ag M x l u
theorem Tn {lo hi:Option Expr}{g h:xT}(h1:aV X W e aJ)(h2:AZ X W lo g)(h3:AZ X W hi h):aV X W (.Subscript e (.Slice lo hi none cI) pos) (yI aJ g h):=by
 obtain⟨t2,acK,q2⟩:=h2.run;obtain⟨t3,acL,q3⟩:=h3.run;refine⟨λρ M aa G σ H Q ms en w=>toE (pe_slice afh cS acK acL) (h1.seq ms en w λav au M1 H1 v1 x g1 m1 r1 aC=>?_)⟩;refine q2 ρ M1 av au σ H1 _ m1 (en.grow g1) (wp_mono (λr hr=>?_) (cz.mp aC));cases r with
 |ex c fs M2=>exact hr
 |ok l M2=>
  intro aM aU aO b g2 m2 hb;subst hb;refine q3 ρ M2 aM aU σ aO _ m2 (en.grow (g1.trans g2)) (wp_mono (λr hr=>?_) (cz.mp hr));cases r with
  |ex c fs bB=>exact PX.shift g2 hr
  |ok u bB=>
   intro dO eN ff tR g3 m3 hb;subst hb;obtain⟨s,ao,e,q⟩:=iF.mp (show wp (ofM (λM=>Ag M x b tR) bB) _ from hr);exact af9 e m3 ((r1.grow g2).grow g3) λpK pN jD v nA m4 nP=>q _ _ _ _ ((g2.trans g3).trans nA) m4 nP
def qA (M:List ak):af->Option (af×List ak)
 | .dat (.str y)=>if y.length<=sizeLine then some (.dat (.str y),M)else none
 | .dat (.int i)=>if i.natAbs.log2<1920 then some (.dat (.str (toString i)),M)else none
 |_=>none
theorem uV (h1:aV X W e aJ):aV X W (.FormattedValue e (-1) none pos) (cM qA aJ):=⟨λρ M aa G σ H Q ms en h=>
 toE (pe_fmt cS) (h1.seq ms en h λav au M1 H1 v s g1 m1 r1 aC=>by
  obtain⟨t,ao,e,q⟩:=iF.mp aC;unfold qA at e;split at e
  ·split at e
   ·rename_i hz;cases e;exact .inl ⟨_,pq r1,hz,q _ _ _ _ (aG.refl _ _ _) m1 qY⟩
   ·cases e
  ·split at e
   ·rename_i hz;cases e;exact .inr ⟨_,iT r1,hz,q _ _ _ _ (aG.refl _ _ _) m1 qY⟩
   ·cases e
  ·cases e)⟩
def A9:af->Ev Str
 | .dat (.str y)=>ok y
 |_=>bad
theorem Uo {s:af}{M:List ak}{Q:Re Str->Prop}(h:wp (A9 s M) Q):∃b,s=.dat (.str b)/\Q (.ok b M):=by
 unfold A9 at h;split at h
 ·exact⟨_,rfl,h⟩
 ·exact h.elim
def qN:List CE->Str->CE
 |[],acc,_=>ok (.dat (.str acc))
 |f::fs,acc,ρ=>(f ρ).bind λs=>(A9 s).bind λy=>if(acc++y).length<=sizeLine then qN fs (acc++y) ρ else bad
theorem Se:∀es:List Expr,PJ X es (es.map (wE X))
 |[]=>.nil
 |_::es=>.cons cS (Se es)
inductive gE (X:Cx)(W:WX):List Expr->List CE->Prop
 |nil:gE X W [] []
 |cons {e:Expr} {es:List Expr} {f:CE} {fs:List CE}:aV X W e f->gE X W es fs->gE X W (e::es) (f::fs)
theorem PU {ρ:List af}:∀(es:List Expr) (fs:List CE) (acc:Str) (M:List ak),gE X W es fs->∀aa G σ H (Q:VK),aE X.K aa G M H->bO X.K aa G σ ρ->wp (qN fs acc ρ M) (cV X W (bz X.K) Q σ aa G H)->tJs (es.map (wE X)) acc σ H λz H'=>Q (.str z) H'
 |[],_,acc,M,.nil,aa,G,σ,H,Q,ms,en,h=>h aa G H _ (aG.refl _ _ _) ms qY
 |e::es,f::fs,acc,M,.cons h1 h2,aa,G,σ,H,Q,ms,en,h=>by
  refine h1.seq ms en h λav au M1 H1 v s g1 m1 r1 aC=>?_
  obtain⟨y,rfl,bN⟩:=Uo (cz.mp aC);have bN:wp ((if(acc++y).length<=sizeLine then qN fs (acc++y) ρ else bad) M1) (cV X W (bz X.K) Q σ av au H1):=bN;split at bN
  ·rename_i hz
   exact⟨y,pq r1,hz,PU es fs (acc++y) M1 h2 av au σ H1 Q m1 (en.grow g1) bN⟩
  ·exact bN.elim
theorem Aa {e1 e2:Expr}{fs:List CE}(h:gE X W (e1::e2::es) fs):aV X W (.JoinedStr (e1::e2::es) pos) (qN fs Str.empty):=⟨λρ M aa G σ H Q ms en w=>
 toE (pe_joined (Se _)) (PU _ fs _ M h aa G σ H Q ms en w)⟩
end
def g5:List af->List af->Prop
 |[],[]=>True
 |a::as,b::bs=>(b=.un\/a=b)/\g5 as bs
 |_,_=>False
theorem g5.refl:∀ρ:List af,g5 ρ ρ
 |[]=>trivial
 |_::r=>⟨.inr rfl,g5.refl r⟩
theorem g5.len:∀{ρ pJ:List af},g5 ρ pJ->ρ.length=pJ.length
 |[],[],_=>rfl
 |_::_,_::_,h=>congrArg Nat.succ (g5.len h.2)
 |[],_::_,h=>h.elim
 |_::_,[],h=>h.elim
theorem g5.get:∀{ρ pJ:List af} {i:Nat} {s:af},g5 ρ pJ->pJ[i]?=some s->s=.un\/ρ[i]?=some s
 |[],[],_,_,_,e=>by simp at e
 |_::_,_::_,0,s,h,e=>by
  simp at e;subst e;exact h.1.imp id λz=>by simp[z]
 |_::_,_::_,i+1,s,h,e=>by
  simpa using g5.get h.2 (by simpa using e)
 |[],_::_,_,_,h,_=>h.elim
 |_::_,[],_,_,h,_=>h.elim
theorem bO.le {K:Frag}{aa:List Addr}{G:Hp}{σ:L2.St}{ρ pJ:List af}(h:bO K aa G σ ρ)(l:g5 ρ pJ):bO K aa G σ pJ:=
 ⟨h.len.trans l.len,λi s e=>(l.get e).elim .inl λz=>h.at_ i s z⟩
def tN (ts:List Nat)(σ aN:L2.St):Prop:=∀ws:List Nat,(∀i∈ts,i∈ws)->wipe aN ws=wipe σ ws
theorem Uj {i:Nat}{x:Option V}:∀(σ:L2.St) (ws:List Nat),i∈ws->wipe (σ.set i x) ws=wipe σ ws
 |σ,[],h=>by simp at h
 |σ,w::ws,h=>by
  unfold wipe;by_cases hi:i∈ws
  ·rw[Uj σ ws hi]
  ·have e:i=w:=by simpa[hi]using h
   subst e;have z:∀ws:List Nat,i∉ws->wipe (σ.set i x) ws=(wipe σ ws).set i x:=by
    intro ws;induction ws with
    |nil=>intro _;rfl
    |cons w ws ih=>
     intro hn;unfold wipe;rw[ih (λq=>hn (List.mem_cons_of_mem _ q)),List.set_comm _ _ (λq=>hn (by rw[<-q];exact List.mem_cons_self))]
   rw[z ws hi,List.set_set]
theorem ag1 {i:Nat}{x:Option V}{σ:L2.St}:tN [i] σ (σ.set i x):=λws h=>Uj σ ws (h i (by simp))
theorem tN.app {ts us:List Nat}{σ nY eK:L2.St}(a:tN ts σ nY)(b:tN us nY eK):tN (ts++us) σ eK:=λws h=>
 (b ws λi hi=>h i (List.mem_append_right _ hi)).trans (a ws λi hi=>h i (List.mem_append_left _ hi))
def DW (X:Cx)(ts:List Expr):TGs:=λvs σ H Q=>∀pins s us,Inv X pins σ H s->Vals vs us->wpAny (model X.prog X.w) X.A (assignInOrder ((assignEach ts X.env).map (·.2)) us) (λ_ aF=>∃aN H',Inv X pins aN H' aF/\Q aN H') X.xe s
theorem Sa:PGs X es (DW X es):=⟨λpins s _ _ _ us _ I r h=>h pins s us I r⟩
theorem toGs {t:TGs}(h:PGs X es t){v σ H Q}(q:t v σ H Q):DW X es v σ H Q:=λpins s u I r=>h.run pins s σ H v u Q I r q
def gk (ρ:List af):List Nat->List af
 |[]=>ρ
 |v::vs=>(gk ρ vs).set v .un
theorem bO.wipe {K:Frag}{aa:List Addr}{G:Hp}{σ:L2.St}(h:bO K aa G σ ρ):∀vs:List Nat,bO K aa G (wipe σ vs) (gk ρ vs)
 |[]=>h
 |v::vs=>by
  have r:=bO.wipe h vs;refine⟨by unfold L2.wipe gk;rw[List.length_set,List.length_set];exact r.len,λi s e=>?_⟩;unfold gk at e;unfold L2.wipe;by_cases hv:v=i
  ·subst hv
   rw[List.getElem?_set]at e;split at e
   ·split at e
    ·cases e;exact .inl rfl
    ·cases e
   ·exact absurd rfl ‹_›
  ·rw[List.getElem?_set_ne hv]at e⊢
   exact r.at_ i s e
abbrev dz:Type:=af->List af->Option (List af)
structure GT (X:Cx)(bD:Expr)(ts:List Nat)(f:dz):Prop where
 run:∀s ρ cC aa G σ H v,f s ρ=some cC->dM G H->bO X.K aa G σ ρ->bz X.K aa G v s->∀Q:L2.St->Hp->Prop,(∀aN,bO X.K aa G aN cC->tN ts σ aN->Q aN H)->Av X bD v σ H Q
structure AL (X:Cx)(bD:List Expr)(ts:List Nat)(f:List D->List af->Option (List af)):Prop where
 run:∀ds ρ cC aa G σ H vs,f ds ρ=some cC->dM G H->bO X.K aa G σ ρ->bJ X.K G vs ds->∀Q:L2.St->Hp->Prop,(∀aN,bO X.K aa G aN cC->tN ts σ aN->Q aN H)->DW X bD vs σ H Q
def b7 (i:Nat):dz:=λs ρ=>some (ρ.set i s)
def mJ:List D->List af->Option (List af)
 |[],ρ=>some ρ
 |_::_,_=>none
def gx (f:dz)(g:List D->List af->Option (List af)):List D->List af->Option (List af)
 |[],_=>none
 |d::ds,ρ=>match f (.dat d) ρ with
  |some aT=>g ds aT
  |none=>none
def lK (n:Nat)(f:List D->List af->Option (List af)):dz:=λs ρ=>match s with
 | .dat (.tup ds)=>if ds.length=n then f ds ρ else none
 |_=>none
section
variable{X:Cx}{W:WX}{bD e a b o it:Expr}{es:List Expr}{ts us:List Nat}{f:dz}{g:List D->List af->Option (List af)}{pos iS:Pos}{aJ bS fh:CE}{fs:aH}{cg:dB}{st:Stmt}{l_ body orelse:List Stmt}{fst yU:aQ}
theorem er {x:Str}{i:Nat}(F:rH X x i):GT X (.Name x pos) [i] (b7 i):=⟨λs ρ cC aa G σ H v h le en r Q q=>by
 cases h
 exact toG (pg_name F.nd F.ix F.loc F.fn) (q _ (en.set r) ag1)⟩
theorem r6:AL X [] [] mJ:=⟨λds ρ cC aa G σ H vs h le en r Q q=>by
 cases ds with
 |nil=>cases h;cases r;exact toGs pgs_nil ⟨rfl,q _ en λ_ _=>rfl⟩
 |cons d ds=>cases h⟩
theorem j6 (h1:GT X e ts f)(h2:AL X es us g)(hs:(assignEach (e::es) X.env).map (·.2)=assign e X.env::(assignEach es X.env).map (·.2):=by rfl):AL X (e::es) (ts++us) (gx f g):=⟨λds ρ cC aa G σ H vs h le en r Q q=>by
 cases ds with
 |nil=>cases h
 |cons d ds=>
  cases r with
  |cons r cE=>
   unfold gx at h
   dsimp only at h
   split at h
   ·rename_i aT e1
    exact toGs (pgs_cons JA Sa hs) ⟨_,_,rfl,h1.run (.dat d) ρ aT aa G σ H _ e1 le en r _ λnY yL afV=>h2.run ds aT cC aa G nY H _ h le yL cE Q λeK iM afW=>q eK iM (afV.app afW)⟩
   ·cases h⟩
theorem r7 {k n:Nat}(h1:AL X es ts g)(hc:X.calm=true)(hn:(assignEach es X.env).length=n:=by rfl)(ez:(assignEach es X.env).findIdx? (·.1)=none:=by rfl):GT X (.Tuple es k pos) ts (lK n g):=⟨λs ρ cC aa G σ H v h le en r Q q=>by
 unfold lK at h;split at h
 ·rename_i ds
  split at h
  ·rename_i hl
   obtain⟨p,vs,e1,e2,e3⟩:=Ar (aa:=aa) le r rfl;subst e1;have e4:bJ X.K G vs ds:=bA.toRps e3;exact toG (pg_tup hc Sa hn ez) ⟨p,vs,rfl,e2,by rw[e4.length,hl],h1.run ds ρ cC aa G σ H vs h le en e4 Q q⟩
  ·cases h
 ·cases h⟩
def d8:aQ:=λρ=>ok (.nx ρ)
def jh (g:aQ):ck->Ev ck
 | .nx ρ=>g ρ
 |r=>ok r
def aY (f g:aQ):aQ:=λρ=>(f ρ).bind (jh g)
def c_ (i:Nat)(f:CE):aQ:=λρ=>(f ρ).bind λs=>ok (.nx (ρ.set i s))
def q6 (g:dz)(f:CE):aQ:=λρ=>(f ρ).bind λs=>wY ((g s ρ).map .nx)
def bU (f:CE):aQ:=λρ=>(f ρ).bind λs=>ok (.rt s)
def l5 (f:CE):aQ:=λρ=>(f ρ).bind λ_=>ok (.nx ρ)
def dF (c:dB)(f g:aQ):aQ:=λρ=>(c ρ).bind λb=>if b then f ρ else g ρ
def B6 (vs:List Nat):ck->ck
 | .nx ρ=>.nx (gk ρ vs)
 | .bk ρ=>.bk (gk ρ vs)
 | .ct ρ=>.ct (gk ρ vs)
 |r=>r
def pA (vs:List Nat)(f:aQ):aQ:=λρ=>(f ρ).bind λr=>ok (B6 vs r)
theorem g5.set:∀{ρ pJ:List af} (i:Nat),g5 ρ pJ->g5 ρ (pJ.set i .un)
 |[],[],_,h=>h
 |_::_,_::_,0,h=>⟨.inl rfl,h.2⟩
 |_::_,_::_,i+1,h=>⟨h.1,g5.set i h.2⟩
 |[],_::_,_,h=>h.elim
 |_::_,[],_,h=>h.elim
theorem g5.wipe (ρ:List af):∀vs:List Nat,g5 ρ (gk ρ vs)
 |[]=>g5.refl ρ
 |v::vs=>(g5.wipe ρ vs).set v
theorem jw:SB X W [] d8:=⟨λρ M aa G σ H D ms en h=>toB pss_nil (h aa G H σ (aG.refl _ _ _) ms en)⟩
theorem cG (h1:iI X W st fst)(h2:SB X W l_ yU):SB X W (st::l_) (aY fst yU):=⟨λρ M aa G σ H D ms en h=>
 toB (pss_cons Sq w6) (h1.run ρ M aa G σ H {D with nx:=Au X l_ D} ms en (wp_mono (λr hr=>by
  cases r with
  |ex c fs M1=>exact hr
  |ok a M1=>
   cases a with
   |nx aT=>exactλav au H1 nY g1 m1 e1=>h2.run aT M1 av au nY H1 D m1 e1 (wp_mono (λ_=>dY.shift g1) (show wp (yU aT M1) _ from hr))
   |rt s=>exact hr
   |bk aT=>exact hr
   |ct aT=>exact hr) (cz.mp h)))⟩
theorem cF (h1:iI X W st fst):SB X W [st] fst:=⟨λρ M aa G σ H D ms en h=>toB (pss_one Sq) (h1.run ρ M aa G σ H D ms en h)⟩
theorem jy {x:Str}{i:Nat}{Ss:Pos}(F:rH X x i)(h1:aV X W e aJ)(hs:swapsWith e (some (.Name x Ss)) pos.line X.env=pure false:=by rfl):iI X W (.Assign [.Name x Ss] e pos) (c_ i aJ):=⟨λρ M aa G σ H D ms en h=>
 toS (ps_set F.nd F.ix F.loc cS hs F.fn) (h1.m5 ms en h λav au M1 H1 v s g1 m1 r1 aC=>aC av au H1 _ (aG.refl _ _ _) m1 ((en.grow g1).set r1))⟩
theorem DF (hg:GT X bD ts f)(h1:aV X W e aJ)(hs:swapsWithSole [bD] e pos.line X.env=pure false:=by rfl)(hw:swappedStores [bD] e X.env=pure none:=by rfl)
    (ha:(assignEach [bD] X.env).map (·.2)=[assign bD X.env]:=by rfl):iI X W (.Assign [bD] e pos) (q6 f aJ):=⟨λρ M aa G σ H D ms en h=>
  toS (ps_asg cS JA hs hw ha) (h1.m5 ms en h λav au M1 H1 v s g1 m1 r1 aC=>by
    obtain⟨a,e1,q⟩:=Le.mp aC;cases hf:f s ρ with
    |none=>rw[hf]at e1;cases e1
    |some aT=>
      rw[hf]at e1;cases e1;exact hg.run s ρ aT av au σ H1 v hf m1.le (en.grow g1) r1 D.nx λaN t8 _=>q av au H1 aN (aG.refl _ _ _) m1 t8)⟩
theorem dS (h1:aV X W e aJ):iI X W (.Return (some e) pos) (bU aJ):=⟨λρ M aa G σ H D ms en h=>
 toS (ps_ret cS) (h1.m5 ms en h λav au M1 H1 v s g1 m1 r1 aC=>aC av au H1 v (aG.refl _ _ _) m1 r1)⟩
theorem uY (h1:aV X W e aJ)(hs:swapsWith e none pos.line X.env=pure false:=by rfl):iI X W (.Expr e pos) (l5 aJ):=⟨λρ M aa G σ H D ms en h=>
 toS (ps_expr cS hs) (h1.m5 ms en h λav au M1 H1 v s g1 m1 r1 aC=>aC av au H1 σ (aG.refl _ _ _) m1 (en.grow g1))⟩
theorem jj (h0:ST X W e cg)(h1:SB X W body fst)(h2:SB X W orelse yU):iI X W (.If e body orelse pos) (dF cg fst yU):=⟨λρ M aa G σ H D ms en h=>
 toS (ps_if sJ w6 w6) (h0.m5 ms en h λav au M1 H1 k g1 m1 aC=>by
  cases k with
  |true=>exact iteT (h1.run ρ M1 av au σ H1 D m1 (en.grow g1) aC)
  |false=>exact iteF (h2.run ρ M1 av au σ H1 D m1 (en.grow g1) aC))⟩
inductive Its:Type where
 |data (ds:List D)
 |live (n:Nat) (item:List ak->Nat->Option af) (fin:List ak->Bool)
def Its.n:Its->Nat
 | .data ds=>ds.length
 | .live n _ _=>n
def Its.at_:Its->List ak->Nat->Option af
 | .data ds,_,i=>ds[i]?.map .dat
 | .live _ f _,M,i=>f M i
def Its.end_:Its->List ak->Bool
 | .data _,_=>true
 | .live _ _ f,M=>f M
structure f5 (aa:List Addr)(G:Hp)(aj:List Addr)(ai:Hp):Prop where
 ex:b6 G ai
 pre:∃more,aj=aa++more
theorem aG.gc {aa aj:List Addr}{G H ai H':Hp}(g:aG aa G H aj ai H'):f5 aa G aj ai:=⟨g.ex,let⟨m,e,_⟩:=g.pre;⟨m,e⟩⟩
theorem f5.refl (aa:List Addr)(G:Hp):f5 aa G aa G:=⟨b6.refl G,[],by simp⟩
theorem f5.trans {aa av aM:List Addr}{G au aU:Hp}(a:f5 aa G av au)(b:f5 av au aM aU):f5 aa G aM aU:=⟨a.ex.trans b.ex,let⟨m,e⟩:=a.pre;let⟨n,f⟩:=b.pre;⟨m++n,by rw[f,e,List.append_assoc]⟩⟩
theorem f5.get {aa aj:List Addr}{G ai:Hp}(g:f5 aa G aj ai){j:Nat}{a:Addr}(h:aa[j]?=some a):aj[j]?=some a:=by
 obtain⟨m,e⟩:=g.pre;rw[e,List.getElem?_append_left (List.getElem?_eq_some_iff.mp h).1];exact h
theorem bO.gc {K:Frag}{aa aj:List Addr}{G ai:Hp}{σ:L2.St}{ρ:List af}(h:bO K aa G σ ρ)(g:f5 aa G aj ai):bO K aj ai σ ρ:=⟨h.len,λi s e=>(h.at_ i s e).elim .inl λ⟨v,e1,r⟩=>.inr ⟨v,e1,r.mono g.ex λ_ _=>g.get⟩⟩
structure jo (K:Frag)(J:It)(its:Its)(aa:List Addr)(G:Hp):Prop where
 goes:∀i aj ai ao H',i<its.n->f5 aa G aj ai->aE K aj ai ao H'->(its.at_ ao i).isSome=true->J.go i H'
 stops:∀aj ai ao H',f5 aa G aj ai->aE K aj ai ao H'->its.end_ ao=true->J.stop its.n H'
 yld:∀(i:Nat) aj ai ao H' x aO s,i<its.n->f5 aa G aj ai->aE K aj ai ao H'->its.at_ ao i=some s->J.yld i H' x aO->∃Gc,Pure ai H' Gc aO/\bz K aj Gc x s
abbrev iy:Type:=List af->Ev Its
structure mC (X:Cx)(W:WX)(bD it:Expr)(f:iy):Prop where
 run:∀ρ M aa G σ H (R:It->Hp->Prop),aE X.K aa G M H->bO X.K aa G σ ρ->wp (f ρ M) (cV X W (λaj ai J its=>jo X.K J its aj ai) R σ aa G H)->Ay X bD it σ H R
def pV (k:List af->Ev ck):ck->Ev ck
 | .nx ρ=>k ρ
 | .ct ρ=>k ρ
 | .bk ρ=>ok (.nx ρ)
 | .rt s=>ok (.rt s)
def kL (g:dz)(b:aQ):List D->aQ
 |[],ρ=>ok (.nx ρ)
 |d::ds,ρ=>match g (.dat d) ρ with
  |some aT=>(b aT).bind (pV (kL g b ds))
  |none=>bad
def forL (item:List ak->Nat->Option af)(fin:List ak->Bool)(g:dz)(b:aQ):Nat->Nat->aQ
 |0,i,ρ=>λM=>if fin M then .ret (.ok (.nx ρ) M)else .bad
 |n+1,i,ρ=>λM=>match item M i with
  |none=>.bad
  |some s=>match g s ρ with
   |some aT=>(b aT).bind (pV (forL item fin g b n (i+1))) M
   |none=>.bad
def l6 (fi:iy)(g:dz)(b:aQ):aQ:=λρ=>Ev.bind (fi ρ) λits=>match its with
 | .data ds=>kL g b ds ρ
 | .live n item fin=>forL item fin g b n 0 ρ
def w7 (its:Its)(g:dz)(b:aQ)(i:Nat):aQ:=match its with
 | .data ds=>kL g b (ds.drop i)
 | .live n item fin=>forL item fin g b (n-i) i
theorem ade {its:Its}{g:dz}{b:aQ}{i:Nat}{ρ:List af}{M:List ak}{Q:Re ck->Prop}(hi:i<its.n)(h:wp (w7 its g b i ρ M) Q):∃s aT,its.at_ M i=some s/\g s ρ=some aT/\wp ((b aT).bind (pV (w7 its g b (i+1))) M) Q:=by
 cases its with
 |data ds=>
  have hi:i<ds.length:=hi;have h:wp (kL g b (ds.drop i) ρ M) Q:=h;rw[List.drop_eq_getElem_cons hi]at h;cases e:g (.dat ds[i]) ρ with
  |none=>simp only[kL,e]at h;exact h.elim
  |some aT=>
   simp only[kL,e]at h;exact⟨_,aT,by show ds[i]?.map af.dat=_;rw[List.getElem?_eq_getElem hi];rfl,e,h⟩
 |live n item fin=>
  have hi:i<n:=hi;have h:wp (forL item fin g b (n-i) i ρ M) Q:=h;obtain⟨m,hm⟩:∃m,n-i=m+1:=⟨n-i-1,by omega⟩;rw[hm]at h;cases e:item M i with
  |none=>simp only[forL,e]at h;exact h.elim
  |some s=>
   cases e1:g s ρ with
   |none=>simp only[forL,e,e1]at h;exact h.elim
   |some aT=>
    simp only[forL,e,e1]at h;refine⟨s,aT,e,e1,?_⟩;have:n-(i+1)=m:=by omega
    show wp ((b aT).bind (pV (forL item fin g b (n-(i+1)) (i+1))) M) Q
    rw[this];exact h
theorem adb {its:Its}{g:dz}{b:aQ}{ρ:List af}{M:List ak}{Q:Re ck->Prop}(h:wp (w7 its g b its.n ρ M) Q):its.end_ M=true/\Q (.ok (.nx ρ) M):=by
 cases its with
 |data ds=>
  have h:wp (kL g b (ds.drop ds.length) ρ M) Q:=h;rw[List.drop_length]at h;exact⟨rfl,h⟩
 |live n item fin=>
  have h:wp (forL item fin g b (n-n) n ρ M) Q:=h;rw[Nat.sub_self]at h;cases e:fin M with
  |false=>simp only[forL,e]at h;exact h.elim
  |true=>simp only[forL,e]at h;exact⟨e,h⟩
theorem Yc {k:List af->Ev ck}{D:Ends}{N:L2.St->Hp->Prop}{aa av:List Addr}{G H au H1:Hp}{r:Re ck}(g1:aG aa G H av au H1)(h:wp (bH (pV k) r) (dY X W D aa G H))
    (hn:∀gU M2,wp (k gU M2) (dY X W D aa G H)->∀aj ai H' aN,aG av au H1 aj ai H'->aE X.K aj ai M2 H'->bO X.K aj ai aN gU->N aN H'):dY X W {D with nx:=N,ct:=N,bk:=D.nx} av au H1 r:=by
  cases r with
  |ex c fs M1=>exact dY.shift (r:=.ex c fs M1) g1 h
  |ok a M1=>
    cases a with
    |nx aT=>exact hn aT M1 h
    |ct aT=>exact hn aT M1 h
    |bk aT=>exact dY.shift (r:=.ok (.nx aT) M1) g1 h
    |rt s=>exact dY.shift (r:=.ok (.rt s) M1) g1 h
theorem xA {fi:iy}{bd:aQ}(hi:mC X W bD it fi)(hg:GT X bD ts f)(hb:SB X W body bd)(hp:PassesOwn (model X.prog X.w) X.A X.env X.xe)(hc:X.calm=true)(hs:∀x,foldedSetIterable it X.env x=pure x:=by intro _;rfl):
    iI X W (.For bD it body [] pos) (l6 fi f bd):=⟨λρ M aa G σ H D ms en h=>by
  refine toS (ps_for hp hc JE JA w6 hs) (hi.run ρ M aa G σ H _ ms en (wp_mono (λr hr=>?_) (cz.mp h)));cases r with
  |ex c fs M1=>exact hr σ
  |ok its M1=>
    intro av au H1 J g1 m1 gK;have h0:wp (w7 its f bd 0 ρ M1) (dY X W D aa G H):=by
      cases its with
      |data ds=>exact hr
      |live n item fin=>exact hr
    refine⟨λi m aN H'=>m=its.n-i/\i<=its.n/\∃aj ai ao cC,aG av au H1 aj ai H'/\aE X.K aj ai ao H'/\bO X.K aj ai aN cC/\wp (w7 its f bd i cC ao) (dY X W D aa G H),⟨its.n,by simp,Nat.zero_le _,av,au,M1,ρ,aG.refl _ _ _,m1,en.grow g1,h0⟩,?_⟩
    rintro i m aN H' ⟨rfl,hle,aj,ai,ao,cC,dR,zM,t8,ii⟩
    by_cases hlt:i<its.n
    · obtain⟨s,aT,e1,e2,e3⟩:=ade hlt ii
      refine .inr ⟨gK.goes i aj ai ao H' hlt dR.gc zM (by rw[e1];rfl),λeK aO=>∃aj ai ao cC,aG av au H1 aj ai aO/\aE X.K aj ai ao aO/\bO X.K aj ai eK cC/\wp (w7 its f bd (i+1) cC ao) (dY X W D aa G H),λeK aO z=>⟨its.n-(i+1),by omega,rfl,hlt,z⟩,λx aO y=>?_⟩;obtain⟨Gc,pu,r⟩:=gK.yld i aj ai ao H' x aO s hlt dR.gc zM e1 y;have g2:=dR.trans (pu.grow (aa:=aj));refine hg.run s cC aT aj Gc aN aO x e2 pu.le (t8.grow (pu.grow (aa:=aj))) r _ λu7 GP _=>?_
      refine hb.run aT ao aj Gc u7 aO _ (zM.pure pu) GP (wp_mono (λr hr=>Yc (g1.trans g2) hr λgU M2 hk pK pN jD ah7 nA m4 e4=>⟨pK,pN,M2,gU,g2.trans nA,m4,e4,hk⟩) (cz.mp e3))
    · have e:i=its.n:=by omega
      subst e;obtain⟨e1,e2⟩:=adb ii;exact .inl ⟨gK.stops aj ai ao H' dR.gc zM e1,e2 _ _ _ _ (g1.trans dR) zM t8⟩⟩
end
def iD {α:Type}:Re α->T (Re α)
 | .ok a M=>.ret (.ok a M)
 | .ex _ _ _=>.bad
def fk {α:Type}(m:Ev α):Ev α:=λM=>(m M).bind iD
theorem xP {α:Type}{m:Ev α}{M:List ak}{Q:Re α->Prop}(h:wp (fk m M) Q):wp (m M) λr=>∃a ao,r=.ok a ao/\Q (.ok a ao):=
 wp_mono (λr hr=>by
  cases r with
  |ok a ao=>exact⟨a,ao,rfl,hr⟩
  |ex c fs ao=>exact hr.elim) (wp_bind.mp h)
def frz (s:af):Ev D:=ofM λM=>jL M s
def oA (turn:af->Ev (List D)):List D->Ev (List D)
 |[]=>ok []
 |d::ds=>Ev.bind (turn (.dat d)) λa=>Ev.bind (oA turn ds) λb=>ok (a++b)
def qw (item:List ak->Nat->Option af)(fin:List ak->Bool)(turn:af->Ev (List D)):Nat->Nat->Ev (List D)
 |0,i=>λM=>if fin M then .ret (.ok [] M)else .bad
 |n+1,i=>λM=>match item M i with
  |none=>.bad
  |some s=>Ev.bind (turn s) (λa=>Ev.bind (qw item fin turn n (i+1)) λb=>ok (a++b)) M
def gH (its:Its)(turn:af->Ev (List D))(i:Nat):Ev (List D):=match its with
 | .data ds=>oA turn (ds.drop i)
 | .live n item fin=>qw item fin turn (n-i) i
def jv (g:dz)(t:dB)(e:CE)(ρ:List af):af->Ev (List D):=λs=>match g s ρ with
 |some aT=>Ev.bind (fk (t aT)) λk=>if k then Ev.bind (fk (Ev.bind (e aT) frz)) λd=>ok [d]else ok []
 |none=>bad
def xG (g:dz)(t:dB)(ny:iy)(vs1:List Nat)(g1:dz)(t1:dB)(e:CE)(ρ:List af):af->Ev (List D):=λs=>match g s ρ with
 |some aT=>Ev.bind (fk (t aT)) λk=>if k then Ev.bind (fk (ny aT)) λits=>if its.n<=4000 then gH its (jv g1 t1 e (gk aT vs1)) 0 else bad else ok []
 |none=>bad
def fO (m:Bool)(own:List Nat)(fi:iy)(g:dz)(t:dB)(e:CE):CE:=λρ=>Ev.bind (fi ρ) λits=>if its.n<sizeLine then Ev.bind (gH its (jv g t e (gk ρ own)) 0) λds=>ofM λM=>some (eX m M ds)else bad
def BN (m:Bool)(own:List Nat)(fi:iy)(g:dz)(t:dB)(ny:iy)(vs1:List Nat)(g1:dz)(t1:dB)(e:CE):CE:=λρ=>Ev.bind (fi ρ) λits=>if its.n<=4000 then Ev.bind (gH its (xG g t ny vs1 g1 t1 e (gk ρ own)) 0) λds=>ofM λM=>some (eX m M ds)else bad
def fW:dB:=λ_=>ok true
abbrev lE:WX:=λ_ _ _ _=>False
theorem Gv {its:Its}{turn:af->Ev (List D)}{i:Nat}{M:List ak}{Q:Re (List D)->Prop}(hi:i<its.n)(h:wp (gH its turn i M) Q):∃s,its.at_ M i=some s/\wp (Ev.bind (turn s) (λa=>Ev.bind (gH its turn (i+1)) λb=>ok (a++b)) M) Q:=by
 cases its with
 |data ds=>
  have hi:i<ds.length:=hi;have h:wp (oA turn (ds.drop i) M) Q:=h;rw[List.drop_eq_getElem_cons hi]at h;exact⟨_,by show ds[i]?.map af.dat=_;rw[List.getElem?_eq_getElem hi];rfl,h⟩
 |live n item fin=>
  have hi:i<n:=hi;have h:wp (qw item fin turn (n-i) i M) Q:=h;obtain⟨m,hm⟩:∃m,n-i=m+1:=⟨n-i-1,by omega⟩;rw[hm]at h;cases e:item M i with
  |none=>simp only[qw,e]at h;exact h.elim
  |some s=>
   simp only[qw,e]at h;refine⟨s,e,?_⟩;have:n-(i+1)=m:=by omega
   show wp (Ev.bind (turn s) (λa=>Ev.bind (qw item fin turn (n-(i+1)) (i+1)) λb=>ok (a++b)) M) Q
   rw[this];exact h
theorem Gu {its:Its}{turn:af->Ev (List D)}{M:List ak}{Q:Re (List D)->Prop}(h:wp (gH its turn its.n M) Q):its.end_ M=true/\Q (.ok [] M):=by
 cases its with
 |data ds=>
  have h:wp (oA turn (ds.drop ds.length) M) Q:=h;rw[List.drop_length]at h;exact⟨rfl,h⟩
 |live n item fin=>
  have h:wp (qw item fin turn (n-n) n M) Q:=h;rw[Nat.sub_self]at h;cases e:fin M with
  |false=>simp only[qw,e]at h;exact h.elim
  |true=>simp only[qw,e]at h;exact⟨e,h⟩
def jF (acc:List D)(k:List D->List ak->Prop):Re (List D)->Prop
 | .ok b M=>k (acc++b) M
 | .ex _ _ _=>True
theorem Jy {its:Its}{turn:af->Ev (List D)}{i:Nat}{M:List ak}{acc:List D}{k:List D->List ak->Prop}{m:Ev (List D)}(h:wp (Ev.bind m (λa=>Ev.bind (gH its turn (i+1)) λb=>ok (a++b)) M) (jF acc k)):
    wp (m M) (jF acc λiY ao=>wp (gH its turn (i+1) ao) (jF iY k)):=wp_mono (λr hr=>by
  cases r with
  |ex c fs M1=>trivial
  |ok a M1=>
    refine wp_mono (λr hr=>?_) (cz.mp (show wp (Ev.bind (gH its turn (i+1)) (λb=>ok (a++b)) M1) _ from hr));cases r with
    |ex c fs M2=>trivial
    |ok b M2=>
      have z:k (acc++(a++b)) M2:=hr;show k ((acc++a)++b) M2
      rw[List.append_assoc];exact z) (cz.mp h)
abbrev Cx.cY (X:Cx)(scope:Scope)(s:Shared)(H:Hp)(C:Addr)(cl:List (Str×Addr))(bC:List Addr):Cx:=X.blk s H scope (compEnvC scope cl C X.env) bC
theorem I_ {K:Frag}{aa:List Addr}{G H:Hp}{aW:Addr}{o:HO}(ms:aE K aa G M H)(h:aW∉aa)(g:G aW=none):aE K aa G M (upd H aW o):=by
 refine⟨λa u e=>?_,ms.len,ms.nd,λj a m e1 e2=>?_,λa ha=>?_⟩
 ·have:a≠aW:=λz=>by rw[z,g]at e;cases e
  rw[upd_ne this];exact ms.le a u e
 ·have:a≠aW:=λz=>h (z▸List.mem_of_getElem? e1)
  obtain⟨q1,q2⟩:=ms.mo j a m e1 e2;exact⟨q1,q2.mono (b6.refl G) (λ_ _ z=>z) (upd_ne this)⟩
 ·have:a≠aW:=λz=>h (z▸ha)
  rw[upd_ne this];exact ms.dQ a ha
theorem Hr {aa aj:List Addr}{G H ai H':Hp}{aW:Addr}{o:HO}(g:aG aa G H aj ai H')(h:H aW=none):aG aa G H aj ai (upd H' aW o):=by
 refine⟨g.ex,g.pre,λa u e n=>?_,g.jM,λa e=>?_⟩
 ·rw[upd_ne (ne_of_none e h)];exact g.fr a u e n
 ·by_cases q:a=aW
  ·subst q;exact absurd h e
  ·rw[upd_ne q];exact g.dQ a e
theorem abS {K:Frag}{aa:List Addr}{G H:Hp}{aW:Addr}{o:HO}(ms:aE K aa G M H)(h:aW∉aa)(g:G aW=none)(e:H aW=some o):aE K aa (upd G aW o) M H:=by
 have ex:b6 G (upd G aW o):=b6.new g;refine⟨λa u q=>?_,ms.len,ms.nd,λj a m e1 e2=>?_,ms.dQ⟩
 ·by_cases z:a=aW
  ·subst z;rw[upd_same]at q;cases q;exact .inl e
  ·rw[upd_ne z]at q;exact ms.le a u q
 ·have:a≠aW:=λz=>h (z▸List.mem_of_getElem? e1)
  obtain⟨q1,q2⟩:=ms.mo j a m e1 e2;exact⟨λz=>by rw[upd_ne this];exact q1 z,q2.mono ex (λ_ _ z=>z) rfl⟩
theorem YA {aa aj:List Addr}{G H ai H':Hp}{aW:Addr}{o:HO}(g:aG aa G H aj ai H')(h:H aW=none)(h':ai aW=none):aG aa G H aj (upd ai aW o) H':=
 ⟨g.ex.trans (b6.new h'),g.pre,g.fr,λa e n=>by
  have:a≠aW:=λz=>e (z▸h)
  unfold Same;rw[upd_ne this];exact g.jM a e n,g.dQ⟩
theorem Ce {aa aj:List Addr}{G H ai H':Hp}{aW:Addr}{o:HO}(g:aG aa G H aj ai H')(h:aW∉aa)(hg:G aW=none)(e:H aW=some o)(ack:∀xs,o≠.tup xs:=by intro _ z;cases z):aW∉aj/\ai aW=none/\H' aW=some o:=by
 obtain⟨more,e1,e2⟩:=g.pre;refine⟨λz=>?_,by rw[(g.jM aW (by rw[e];simp) h).old e ack];exact hg,g.fr aW o e h⟩;rw[e1]at z;rcases List.mem_append.mp z with z|z
 ·exact h z
 ·have:=e2 aW z
  rw[e]at this;cases this
theorem Ui {σ:L2.St}{i:Nat}:∀ws:List Nat,i∈ws->(wipe σ ws).set i none=wipe σ ws
 |[],h=>by simp at h
 |w::ws,h=>by
  unfold L2.wipe;by_cases hi:i∈ws
  ·by_cases e:w=i
   ·subst e;rw[List.set_set]
   ·rw[List.set_comm _ _ e,Ui ws hi]
  ·have e:i=w:=by simpa[hi]using h
   subst e;rw[List.set_set]
theorem Uk (σ:L2.St)(ws:List Nat):∀vs:List Nat,(∀i∈vs,i∈ws)->wipe (wipe σ ws) vs=wipe σ ws
 |[],_=>rfl
 |v::vs,h=>by
  show(wipe (wipe σ ws) vs).set v none=wipe σ ws
  rw[Uk σ ws vs λi hi=>h i (List.mem_cons_of_mem _ hi)];exact Ui ws (h v List.mem_cons_self)
theorem Ul (σ:L2.St)(ws:List Nat):wipe (wipe σ ws) ws=wipe σ ws:=Uk σ ws ws λ_ h=>h
structure oj (X:Cx)(ifs:List Expr)(f:dB):Prop where
 run:∃t,PTs X ifs t/\∀ρ M aa G σ H (Q:Bool->Hp->Prop),aE X.K aa G M H->bO X.K aa G σ ρ->wp (fk (f ρ) M) (cV X lE vt Q σ aa G H)->t σ H Q
section
variable{X:Cx}{W:WX}{c bD it elt rf ux:Expr}{ifs wz:List Expr}{ts u0:List Nat}{g g1:dz}{t t1:dB}{e:CE}{fi ny:iy}{scope:Scope}{own:List (Str×Nat)}{vs1:List Nat}{pos:Pos}
theorem lg:oj X [] fW:=⟨_,pts_nil,λρ M aa G σ H Q ms en h=>h aa G H _ (aG.refl _ _ _) ms rfl⟩
theorem Tq (h:ST X lE c t):oj X [c] t:=⟨_,pts_one sJ,λρ M aa G σ H Q ms en w=>h.run ρ M aa G σ H Q ms en (wp_mono (λr ⟨a,ao,e1,q⟩=>by rw[e1];exact q) (xP w))⟩
def yQ (X:Cx)(scope:Scope)(bD:Expr):TG:=λv σ H Q=>∀s b8 C cl bC,Av (Cx.cY X scope s b8 C cl bC) bD v σ H Q
def Mw (X:Cx)(ifs:List Expr):TT:=λσ H Q=>∃t,PTs X ifs t/\t σ H Q
theorem ad4 {ifs:List Expr}:PTs X ifs (Mw X ifs):=⟨λpins s σ H Q I ⟨t,h1,h2⟩=>h1.run pins s σ H Q I h2⟩
def Ah (X:Cx)(scope:Scope)(ifs:List Expr):TT:=λσ H Q=>∀s b8 C cl bC,Mw (Cx.cY X scope s b8 C cl bC) ifs σ H Q
def BI (X:Cx)(scope:Scope)(e:Expr):TE:=λσ H Q=>∀s b8 C cl bC,wE (Cx.cY X scope s b8 C cl bC) e σ H Q
def Pu (X:Cx)(scope:Scope)(bD it:Expr):TI:=λσ H R=>∀s b8 C cl bC,Ay (Cx.cY X scope s b8 C cl bC) bD it σ H R
theorem acP (s b8 C cl bC):PI (Cx.cY X scope s b8 C cl bC) bD it (Pu X scope bD it):=⟨λpins aF _ _ _ I h=>h s b8 C cl bC pins aF I⟩
theorem Jz (s b8 C cl bC):PG (Cx.cY X scope s b8 C cl bC) bD (yQ X scope bD):=⟨λpins aF _ _ _ u _ I r h=>h s b8 C cl bC pins aF u I r⟩
theorem JJ (s b8 C cl bC):PTs (Cx.cY X scope s b8 C cl bC) ifs (Ah X scope ifs):=⟨λpins aF σ H Q I h=>ad4.run pins aF σ H Q I (h s b8 C cl bC)⟩
theorem R_ (s b8 C cl bC):PE (Cx.cY X scope s b8 C cl bC) elt (BI X scope elt):=⟨λpins aF _ _ _ I h=>h s b8 C cl bC pins aF I⟩
structure Acc (K:Frag)(aW:Addr)(av:List Addr)(au H1:Hp)(acc:List D)(aj:List Addr)(ai:Hp)(ao:List ak)(H':Hp):Prop where
 f9:aG av au H1 aj ai H'
 out:aW∉aj
 nG:ai aW=none
 ms:aE K aj ai ao H'
 at_:∃vs,H' aW=some (.lst vs)/\bJ K ai vs acc
theorem Acc.grow {K:Frag}{aW:Addr}{av aj aM:List Addr}{au H1 ai H' aU aO:Hp}{acc:List D}{ao M2:List ak}(a:Acc K aW av au H1 acc aj ai ao H')(g:aG aj ai H' aM aU aO)(m:aE K aM aU M2 aO):Acc K aW av au H1 acc aM aU M2 aO:=by
 obtain⟨vs,hv,bL⟩:=a.at_;obtain⟨n2,yT,cO⟩:=Ce g a.out a.nG hv;exact⟨a.f9.trans g,n2,yT,m,vs,cO,bL.mono g.ex⟩
theorem Acc.push {K:Frag}{aW:Addr}{av aj:List Addr}{au H1 ai H':Hp}{acc:List D}{ao:List ak}{v:V}{d:D}(hD:H1 aW=none)(a:Acc K aW av au H1 acc aj ai ao H')(r:bK K ai v d)(hl:acc.length<sizeLine):
    ∃vs,H' aW=some (.lst vs)/\vs.length<sizeLine/\Acc K aW av au H1 (acc++[d]) aj ai ao (upd H' aW (.lst (vs++[v]))):=by
  obtain⟨vs,hv,bL⟩:=a.at_;exact⟨vs,hv,by rw[bL.length];exact hl,Hr a.f9 hD,a.out,a.nG,I_ a.ms a.out a.nG,vs++[v],upd_same,bL.append (.cons r .nil)⟩
theorem R4 {aW:Addr}{av aj:List Addr}{au H1 ai H':Hp}{acc:List D}{ao:List ak}{s:af}{ρ:List af}{D0:L2.St}{x:V}{k:List D->List ak->Prop}{g7:Hp->Prop}{os:List Nat}(hD:H1 aW=none)
    (hg:∀s b8 C cl bC,GT (Cx.cY X scope s b8 C cl bC) bD ts g) (j8:∀i∈ts,i∈os) (ht:∀s b8 C cl bC,oj (Cx.cY X scope s b8 C cl bC) ifs t) (he:∀s b8 C cl bC,aV (Cx.cY X scope s b8 C cl bC) lE elt e)
    (a:Acc X.K aW av au H1 acc aj ai ao H') (en:bO X.K aj ai (wipe D0 os) ρ) (r:bz X.K aj ai x s) (hl:acc.length<sizeLine) (w:wp (jv g t e ρ s ao) (jF acc k))
    (fin:∀aM aU M2 aO iY,iY.length<=acc.length+1->f5 aj ai aM aU->Acc X.K aW av au H1 iY aM aU M2 aO->k iY M2->g7 aO):
    yQ X scope bD x (wipe D0 os) H' λeK aO=>wipe eK os=wipe D0 os/\Ah X scope ifs eK aO λb ff=>if b=true then BI X scope elt eK ff λy jD=>∃acc,jD aW=some (.lst acc)/\acc.length<sizeLine/\g7 (upd jD aW (.lst (acc++[y])))else g7 ff:=by
  cases oH:g s ρ with
  |none=>simp only[jv,oH]at w;exact w.elim
  |some aT=>
    simp only[jv,oH]at w;intro s0 b8 C cl bC;refine(hg s0 b8 C cl bC).run s ρ aT aj ai (wipe D0 os) H' x oH a.ms.le en r _ λeK iM KP=>⟨by rw[KP _ j8];exact Ul _ _,λs1 Ei D8 Gg G6=>?_⟩
    obtain⟨tt,Ib,qK⟩:=(ht s1 Ei D8 Gg G6).run;refine⟨tt,Ib,qK aT ao aj ai eK H' _ a.ms iM ?_⟩;have aC:=cz.mp w;refine wp_bind.mpr (wp_mono (λr hr=>?_) (xP aC));obtain⟨b,M2,rfl,hr⟩:=hr;intro aM aU aO tR g2 m2 hb;have hb:tR=b:=hb;subst hb;have a2:=a.grow g2 m2;cases tR with
    |false=>
      exact iteF (fin aM aU M2 aO acc (Nat.le_succ _) g2.gc a2 (by have z:k (acc++[]) M2:=hr;rw[List.append_nil]at z;exact z))
    |true=>
      refine iteT λs4 jD D9 Gi G7=>?_
      have hr:wp (Ev.bind (fk (Ev.bind (e aT) frz)) (λd=>ok [d]) M2) (jF acc k):=hr;refine(he s4 jD D9 Gi G7).run aT M2 aM aU eK aO _ m2 (iM.grow g2) (wp_mono (λr hr=>?_) (cz.mp (xP (cz.mp hr))));cases r with
      |ex c fs bB=>obtain⟨_,_,z,_⟩:=hr;cases z
      |ok afA bB=>
        intro dO eN ff v g3 m3 r3;obtain⟨d,tF,ef,b2,rK,BR,q⟩:=iF.mp (show wp (ofM (λM=>jL M afA) bB) _ from hr);cases BR
        obtain⟨pN,m4,nA,nP⟩:=ug m3 r3 ef;have a4:=a2.grow (g3.trans nA) m4;obtain⟨vs,e1,e2,e3⟩:=a4.push hD nP hl;exact⟨vs,e1,e2,fin dO pN tF _ (acc++[d]) (by simp) (g2.trans (g3.trans nA)).gc e3 q⟩
theorem A5 {aW:Addr}{aa av aj:List Addr}{G au H H1 ai H':Hp}{acc:List D}{ao:List ak}{m:Bool}{Q:VK}(hD:H1 aW=none)(g1:aG aa G H av au H1)(a:Acc X.K aW av au H1 acc aj ai ao H')
    (q:∀aM aU aO v,aG aa G H aM aU aO->aE X.K aM aU (eX m ao acc).2 aO->bz X.K aM aU v (eX m ao acc).1->Q v aO):Q (.ref aW) H':=by
  obtain⟨vs,hv,bL⟩:=a.at_;cases m with
  |false=>exact q aj (upd ai aW (.lst vs)) H' _ (g1.trans (YA a.f9 hD a.nG)) (abS a.ms a.out a.nG hv) (S3 upd_same (bL.mono (b6.new a.nG)))
  |true=>
    have ms:=a.ms;have look:∀(j:Nat) b,aj[j]?=some b->(aj++[aW])[j]?=some b:=λj b e=>by
      rw[List.getElem?_append_left (List.getElem?_eq_some_iff.mp e).1];exact e
    have m2:aE X.K (aj++[aW]) ai (ao++[.lst (acc.map .dat)]) H':=by
      refine⟨ms.le,by simp[ms.len],?_,λj b I8 e1 e2=>?_,λb hb=>?_⟩
      · rw[List.nodup_append]
        refine⟨ms.nd,by simp,λb hb c hc=>?_⟩;have:c=aW:=by simpa using hc
        subst this;exactλz=>a.out (z▸hb)
      · by_cases hj:j<aj.length
        · rw[List.getElem?_append_left hj]at e1
          rw[List.getElem?_append_left (by rw[<-ms.len];exact hj)]at e2;obtain⟨q1,q2⟩:=ms.mo j b I8 e1 e2;exact⟨q1,q2.mono (b6.refl ai) look rfl⟩
        · rw[List.getElem?_append_right (by omega)]at e1
          rw[List.getElem?_append_right (by rw[<-ms.len];omega)]at e2;have z:j-aj.length=0:=by
            cases hz:j-aj.length with
            |zero=>rfl
            |succ n=>rw[hz]at e1;simp at e1
          rw[z]at e1;rw[<-ms.len,z]at e2;simp at e1 e2;subst e1 e2;exact⟨λ_=>a.nG,vs,hv,bA.zQ bL⟩
      · rcases List.mem_append.mp hb with z|z
        · exact ms.dQ b z
        · have:b=aW:=by simpa using z
          subst this;rw[hv];simp
    have g2:aG av au H1 (aj++[aW]) ai H':=by
      obtain⟨more,e1,e2⟩:=a.f9.pre;refine⟨a.f9.ex,⟨more++[aW],by rw[e1,List.append_assoc],λb hb=>?_⟩,a.f9.fr,a.f9.jM,a.f9.dQ⟩;rcases List.mem_append.mp hb with z|z
      · exact e2 b z
      · have:b=aW:=by simpa using z
        subst this;exact hD
    exact q (aj++[aW]) ai H' _ (g1.trans g2) m2 (z4 (by rw[<-ms.len,List.getElem?_append_right (Nat.le_refl _),Nat.sub_self];rfl))
theorem A6 {aW:Addr}{av:List Addr}{au H1:Hp}{M1:List ak}(hD:H1 aW=none)(ms:aE X.K av au M1 H1):Acc X.K aW av au H1 [] av au M1 (upd H1 aW (.lst [])):=by
 have Ro:aW∉av:=λz=>ms.dQ aW z hD
 have Hh:au aW=none:=by
  cases q:au aW with
  |none=>rfl
  |some u=>rcases ms.le aW u q with z|⟨_,_,z⟩<;>rw[hD]at z<;>cases z
 exact⟨Hr (aG.refl _ _ _) hD,Ro,Hh,I_ ms Ro Hh,[],upd_same,.nil⟩
theorem aaT {its:Its}{av:List Addr}{au H1:Hp}{M1:List ak}{σ:L2.St}{ρ:List af}{J:It}{k:List D->List ak->Prop}{Q:VK}
    (hg:∀s b8 C cl bC,GT (Cx.cY X scope s b8 C cl bC) bD ts g) (j8:∀i∈ts,i∈own.map (·.2)) (ht:∀s b8 C cl bC,oj (Cx.cY X scope s b8 C cl bC) ifs t) (he:∀s b8 C cl bC,aV (Cx.cY X scope s b8 C cl bC) lE elt e)
    (gK:jo X.K J its av au) (m1:aE X.K av au M1 H1) (en:bO X.K av au σ ρ) (hz:its.n<sizeLine) (w:wp (gH its (jv g t e (gk ρ (own.map (·.2)))) 0 M1) (jF [] k))
    (fin:∀aW aj ai ao H' acc,H1 aW=none->Acc X.K aW av au H1 acc aj ai ao H'->k acc ao->Q (.ref aW) H'):
    ∀aW,H1 aW=none->∃W:Nat->Nat->Hp->Prop,(∃m,W 0 m (upd H1 aW (.lst [])))/\∀i m H,W i m H->
      (J.stop i H/\Q (.ref aW) H)\/(J.go i H/\∃g7:Hp->Prop,(∀H',g7 H'->∃m',m'<m/\W (i+1) m' H')/\∀x H',J.yld i H x H'->yQ X scope bD x (wipe σ (own.map (·.2))) H' λeK aO=>wipe eK (own.map (·.2))=wipe σ (own.map (·.2))/\Ah X scope ifs eK aO λb ff=>
        if b=true then BI X scope elt eK ff λy jD=>∃acc,jD aW=some (.lst acc)/\acc.length<sizeLine/\g7 (upd jD aW (.lst (acc++[y])))else g7 ff):=by
  intro aW hD
  let vB:Nat->Hp->Prop:=λi H'=>∃aj ai ao acc,Acc X.K aW av au H1 acc aj ai ao H'/\acc.length<=i/\wp (gH its (jv g t e (gk ρ (own.map (·.2)))) i ao) (jF acc k)
  refine⟨λi m H'=>m=its.n-i/\i<=its.n/\vB i H',⟨its.n,by simp,Nat.zero_le _,av,au,M1,[],A6 hD m1,Nat.le_refl _,w⟩,?_⟩
  rintro i m H' ⟨rfl,hi,aj,ai,ao,acc,a,hl,ii⟩
  by_cases hlt:i<its.n
  · obtain⟨s,e1,e2⟩:=Gv hlt ii
    refine .inr ⟨gK.goes i aj ai ao H' hlt a.f9.gc a.ms (by rw[e1];rfl),vB (i+1),λaO z=>⟨its.n-(i+1),by omega,rfl,hlt,z⟩,λx aO y=>?_⟩;obtain⟨Gc,pu,r⟩:=gK.yld i aj ai ao H' x aO s hlt a.f9.gc a.ms e1 y;have a2:=a.grow (pu.grow (aa:=aj)) (a.ms.pure pu);exact R4 hD hg j8 ht he a2 ((en.gc a2.f9.gc).wipe _) r (by omega) (Jy e2) λaM aU M2 ff iY Zt _ a3 hk=>⟨aM,aU,M2,iY,a3,by omega,hk⟩
  · have e:i=its.n:=by omega
    subst e;obtain⟨e1,e2⟩:=Gu ii;exact .inl ⟨gK.stops aj ai ao H' a.f9.gc a.ms e1,fin aW aj ai ao H' acc hD a (by have z:k (acc++[]) ao:=e2;rw[List.append_nil]at z;exact z)⟩
theorem mY (m:Bool)(hi:mC X W bD it fi)(hg:∀s b8 C cl bC,GT (Cx.cY X scope s b8 C cl bC) bD ts g)(j8:∀i∈ts,i∈own.map (·.2))(ht:∀s b8 C cl bC,oj (Cx.cY X scope s b8 C cl bC) ifs t)(he:∀s b8 C cl bC,aV (Cx.cY X scope s b8 C cl bC) lE elt e)
    (hc:X.calm=true) (hN:X.N.Nodup) (ok:BlkOk X.N X.env.scope scope own) (hs:∀x,foldedSetIterable it X.env x=pure x:=by intro _;rfl):
    aV X W (.ListComp elt [⟨bD,it,ifs,0⟩] scope pos) (fO m (own.map (·.2)) fi g t e):=⟨λρ M aa G σ H Q ms en h=>
  toE (pe_lc hc hN JE ok Jz JJ R_ hs) (hi.run ρ M aa G σ H _ ms en (wp_mono (λr hr=>by
    cases r with
    |ex c fs M1=>exact hr
    |ok its M1=>
      intro av au H1 J g1 m1 gK;have hr:wp ((if its.n<sizeLine then Ev.bind (gH its (jv g t e (gk ρ (own.map (·.2)))) 0) λds=>ofM λM=>some (eX m M ds)else bad:Ev af) M1) (cV X W (bz X.K) Q σ aa G H):=hr;split at hr
      · rename_i hz
        refine aaT (k:=λacc M2=>∀aM aU aO v,aG aa G H aM aU aO->aE X.K aM aU (eX m M2 acc).2 aO->bz X.K aM aU v (eX m M2 acc).1->Q v aO) hg j8 ht he gK m1 (en.grow g1) hz (wp_mono (λr hr=>?_) (cz.mp hr)) λaW aj ai ao H' acc hD a q=>A5 hD g1 a q
        cases r with
        |ex c fs M2=>trivial
        |ok b M2=>exactλaM aU aO v g2 m2 r2=>hr aM aU aO v g2 m2 r2
      · exact hr.elim) (cz.mp h)))⟩
theorem aaR {its:Its}{av:List Addr}{au H1:Hp}{M1:List ak}{σ:L2.St}{ρ:List af}{J:It}{k:List D->List ak->Prop}{Q:VK}
    (hg:∀s b8 C cl bC,GT (Cx.cY X scope s b8 C cl bC) bD ts g) (j8:∀i∈ts,i∈own.map (·.2)) (ht:∀s b8 C cl bC,oj (Cx.cY X scope s b8 C cl bC) ifs t) (hi1:∀s b8 C cl bC,mC (Cx.cY X scope s b8 C cl bC) lE rf ux ny)
    (cQ:∀s b8 C cl bC,GT (Cx.cY X scope s b8 C cl bC) rf u0 g1) (Ia:∀i∈u0,i∈vs1) (H9:∀s b8 C cl bC,oj (Cx.cY X scope s b8 C cl bC) wz t1) (he:∀s b8 C cl bC,aV (Cx.cY X scope s b8 C cl bC) lE elt e)
    (gK:jo X.K J its av au) (m1:aE X.K av au M1 H1) (en:bO X.K av au σ ρ) (hz:its.n<=4000) (w:wp (gH its (xG g t ny vs1 g1 t1 e (gk ρ (own.map (·.2)))) 0 M1) (jF [] k))
    (fin:∀aW aj ai ao H' acc,H1 aW=none->Acc X.K aW av au H1 acc aj ai ao H'->k acc ao->Q (.ref aW) H'):
    ∀aW,H1 aW=none->∃W:Nat->Nat->Hp->Prop,(∃m,W 0 m (upd H1 aW (.lst [])))/\∀i m H,W i m H->
      (J.stop i H/\Q (.ref aW) H)\/(J.go i H/\∃g7:Hp->Prop,(∀H',g7 H'->∃m',m'<m/\W (i+1) m' H')/\∀x H',J.yld i H x H'->yQ X scope bD x (wipe σ (own.map (·.2))) H' λeK aO=>wipe eK (own.map (·.2))=wipe σ (own.map (·.2))/\Ah X scope ifs eK aO λb ff=>
        if b=true then Pu X scope rf ux eK ff λAR jD=>∃W1:Nat->Nat->Hp->Prop,(∃m,W1 0 m jD)/\∀j k H,W1 j k H->
          (AR.stop j H/\g7 H)\/(AR.go j H/\∃Ex:Hp->Prop,(∀H',Ex H'->∃dJ,dJ<k/\W1 (j+1) dJ H')/\∀x H',AR.yld j H x H'->yQ X scope rf x (wipe eK vs1) H' λu7 qm=>wipe u7 vs1=wipe eK vs1/\Ah X scope wz u7 qm λb rG=>
            if b=true then BI X scope elt u7 rG λy jV=>∃acc,jV aW=some (.lst acc)/\acc.length<sizeLine/\Ex (upd jV aW (.lst (acc++[y])))else Ex rG)
        else g7 ff):=by
  intro aW hD
  let pP:=xG g t ny vs1 g1 t1 e (gk ρ (own.map (·.2)))
  let vB:Nat->Hp->Prop:=λi H'=>∃aj ai ao acc,Acc X.K aW av au H1 acc aj ai ao H'/\acc.length<=i*4000/\wp (gH its pP i ao) (jF acc k)
  refine⟨λi m H'=>m=its.n-i/\i<=its.n/\vB i H',⟨its.n,by simp,Nat.zero_le _,av,au,M1,[],A6 hD m1,Nat.zero_le _,w⟩,?_⟩
  rintro i m H' ⟨rfl,hi,aj,ai,ao,acc,a,hl,ii⟩
  by_cases hlt:i<its.n
  · obtain⟨s,e1,e2⟩:=Gv hlt ii
    refine .inr ⟨gK.goes i aj ai ao H' hlt a.f9.gc a.ms (by rw[e1];rfl),vB (i+1),λaO z=>⟨its.n-(i+1),by omega,rfl,hlt,z⟩,λx aO y=>?_⟩;obtain⟨Gc,pu,r⟩:=gK.yld i aj ai ao H' x aO s hlt a.f9.gc a.ms e1 y;have a2:=a.grow (pu.grow (aa:=aj)) (a.ms.pure pu);have e3:=Jy e2;cases oH:g s (gk ρ (own.map (·.2)))with
    |none=>simp only[pP,xG,oH]at e3;exact e3.elim
    |some aT=>
      simp only[pP,xG,oH]at e3;intro s0 b8 C cl bC;refine(hg s0 b8 C cl bC).run s _ aT aj Gc (wipe σ (own.map (·.2))) aO x oH a2.ms.le ((en.gc a2.f9.gc).wipe _) r _ ?_;intro eK iM KP;refine⟨by rw[KP _ j8];exact Ul _ _,λs1 Ei D8 Gg G6=>?_⟩;obtain⟨tt,Ib,qK⟩:=(ht s1 Ei D8 Gg G6).run;refine⟨tt,Ib,qK aT ao aj Gc eK aO _ a2.ms iM ?_⟩;refine wp_bind.mpr (wp_mono (λr hr=>?_) (xP (cz.mp e3)));obtain⟨b,M2,rfl,hr⟩:=hr;intro aM aU ff tR g2 m2 hb;have hb:tR=b:=hb;subst hb;have a3:=a2.grow g2 m2;cases tR with
      |false=>exact iteF (show vB (i+1) ff from⟨aM,aU,M2,acc,a3,by omega,by have z:wp (gH its pP (i+1) M2) (jF (acc++[]) k):=hr;rw[List.append_nil]at z;exact z⟩)
      |true=>
        refine iteT λs4 UY D9 Gi G7=>?_
        have hr:wp (Ev.bind (fk (ny aT)) (λnM=>if nM.n<=4000 then gH nM (jv g1 t1 e (gk aT vs1)) 0 else bad) M2) (jF acc λiY ao=>wp (gH its pP (i+1) ao) (jF iY k)):=hr;refine(hi1 s4 UY D9 Gi G7).run aT M2 aM aU eK ff _ m2 (iM.grow g2) (wp_mono (λr hr=>?_) (xP (cz.mp hr)));obtain⟨nM,bB,rfl,hr⟩:=hr;intro dO eN jD AR g3 m3 Lb;have hr:wp ((if nM.n<=4000 then gH nM (jv g1 t1 e (gk aT vs1)) 0 else bad:Ev (List D)) bB) (jF acc λiY ao=>wp (gH its pP (i+1) ao) (jF iY k)):=hr;split at hr
        · rename_i aiW
          have a4:=a3.grow g3 m3
          let MD:Nat->Hp->Prop:=λj H'=>∃aj ai ao iY,Acc X.K aW av au H1 iY aj ai ao H'/\f5 dO eN aj ai/\iY.length<=i*4000+j/\wp (gH nM (jv g1 t1 e (gk aT vs1)) j ao) (jF iY λiY ao=>wp (gH its pP (i+1) ao) (jF iY k))
          refine⟨λj m H'=>m=nM.n-j/\j<=nM.n/\MD j H',⟨nM.n,by simp,Nat.zero_le _,dO,eN,bB,acc,a4,f5.refl _ _,by omega,hr⟩,?_⟩
          rintro j m qm ⟨rfl,hj,rB,rF,rK,Fe,vD,wC,HR,PD⟩
          by_cases Cw:j<nM.n
          · obtain⟨s5,f1,f2⟩:=Gv Cw PD
            refine .inr ⟨Lb.goes j rB rF rK qm Cw wC vD.ms (by rw[f1];rfl),MD (j+1),λaO z=>⟨nM.n-(j+1),by omega,rfl,Cw,z⟩,λagN rG ah2=>?_⟩;obtain⟨ahj,JK,Dk⟩:=Lb.yld j rB rF rK qm agN rG s5 Cw wC vD.ms f1 ah2;have V2:=vD.grow (JK.grow (aa:=rB)) (vD.ms.pure JK);have QS:=wC.trans (JK.grow (aa:=rB)).gc;have hsz:Fe.length<sizeLine:=by unfold sizeLine;omega
            exact R4 hD cQ Ia H9 he V2 ((iM.gc ((g2.trans g3).gc.trans QS)).wipe _) Dk hsz (Jy f2) λUI US Va jV iY Zt aaB V3 hk=>⟨UI,US,Va,iY,V3,QS.trans aaB,by omega,hk⟩
          · have e:j=nM.n:=by omega
            subst e;obtain⟨f1,f2⟩:=Gu PD;refine .inl ⟨Lb.stops rB rF rK qm wC vD.ms f1,rB,rF,rK,Fe,vD,by omega,?_⟩;have z:wp (gH its pP (i+1) rK) (jF (Fe++[]) k):=f2;rw[List.append_nil]at z;exact z
        · exact hr.elim
  · have e:i=its.n:=by omega
    subst e;obtain⟨e1,e2⟩:=Gu ii;exact .inl ⟨gK.stops aj ai ao H' a.f9.gc a.ms e1,fin aW aj ai ao H' acc hD a (by have z:k (acc++[]) ao:=e2;rw[List.append_nil]at z;exact z)⟩
end
def sgn (c:Nat):D:=.str ⟨#[c]⟩
def fc (z:Str):List D:=z.cps.toList.map sgn
def rng (lo:Int)(n:Nat):List D:=(List.range n).map λi:Nat=>.int (lo+i)
def i9:Nat->List D->List D
 |_,[]=>[]
 |i,d::ds=>.tup [.int (i:Nat),d]::i9 (i+1) ds
def iw:List D->List D->List D
 |d::ds,e::es=>.tup [d,e]::iw ds es
 |_,_=>[]
theorem BQ:∀(ds:List D) (k i:Nat),(i9 k ds)[i]?=ds[i]?.map λd=>D.tup [.int ((k+i:Nat):Int),d]
 |[],_,_=>by simp[i9]
 |d::ds,k,0=>by simp[i9]
 |d::ds,k,i+1=>by
  rw[i9,List.getElem?_cons_succ,List.getElem?_cons_succ,BQ ds (k+1) i];have:k+1+i=k+(i+1):=by omega
  rw[this]
theorem t_:∀(ds:List D) (k:Nat),(i9 k ds).length=ds.length
 |[],_=>rfl
 |_::ds,k=>congrArg Nat.succ (t_ ds (k+1))
theorem Ln:∀(ds es:List D) (i:Nat),(iw ds es)[i]?=match ds[i]?,es[i]? with
    |some d,some e=>some (.tup [d,e])
    |_,_=>none
  |[],_,_=>by simp[iw]
  |_::_,[],i=>by simp[iw]
  |d::ds,e::es,0=>by simp[iw]
  |d::ds,e::es,i+1=>by rw[iw,List.getElem?_cons_succ,List.getElem?_cons_succ,List.getElem?_cons_succ,Ln ds es i]
theorem AE:∀(ds es:List D),(iw ds es).length=min ds.length es.length
 |[],_=>by simp[iw]
 |_::_,[]=>by simp[iw]
 |_::ds,_::es=>by simp[iw,AE ds es]
theorem abF {v:Value}{o:Obj}{H:Heap->Prop}(B:Begins v o H):
    Meets (Builtin.«enumerate.__new__» ⟨[.type "enumerate",v],[]⟩) (λ_ R s=>H s.heap/\
      R (.ok (.ret (.ref (s.heap.push o).objs.size))) {s with heap:=(s.heap.push o).push {cls:=.type "enumerate",data:=.fields #[.none,.bool false,.ref s.heap.objs.size,rawInt 0,.none,.none]}}):=
  .of_wp λprog w A R s h=>by
    obtain⟨hp,g,d,tk,os⟩:=s;obtain⟨h1,h⟩:=h;have hsub:=sub_enumerate;have q1:∀{UG:Around} {E:Value->Shared->Prop} {Q:Value->Shared->Prop},Q (.ref hp.objs.size) ⟨hp.push o,g,d,tk,os⟩->wpAny (model prog w) UG (pyIter v) Q E ⟨hp,g,d,tk,os⟩:=
      λq=>B.iter prog w _ _ ⟨hp,g,d,tk,os⟩ _ h1 q
    wp_walk using q1
    refine wpAny_stack_any λst=>wpAny_pure ?_
    split
    · rename_i c _ _ _ _ _
      cases(c==Value.type "enumerate")
      · wp_walk using q1
        exact⟨_,rfl,h⟩
      · wp_walk using q1
        exact⟨_,rfl,h⟩
    · wp_walk using q1
      exact⟨_,rfl,h⟩
theorem Nh {prog:Program}{w:World}{A:Around}{E:Value->Shared->Prop}{s:Shared}{v:Value}{o:Obj}{H:Heap->Prop}{Q:Value->Shared->Prop}(B:Begins v o H)(h1:H s.heap)
    (h:∀h',IsEnum h' (s.heap.objs.size+1) s.heap.objs.size 0 .none->h'.get? s.heap.objs.size=some o->h'.objs.size=s.heap.objs.size+2->
      (∀b o,s.heap.get? b=some o->h'.get? b=some o)->Q (.ref (s.heap.objs.size+1)) {s with heap:=h'}):
    wpAny (model prog w) A (call (.type "enumerate") [v]) Q E s:=by
  refine callType_new F.called_enumerate (by decide) (F.typeCall_enumerate_1 _) (F.newCall_enumerate_1 _) (λobj=>F.args_object_init_2 obj _) F.entry_enumerate_new
    (abF B) ⟨h1,?_⟩
  have hz:(s.heap.push o).objs.size=s.heap.objs.size+1:=Heap.size_push ..;show _/\_
  rw[hz];have he:IsEnum ((s.heap.push o).push {cls:=.type "enumerate",data:=.fields #[.none,.bool false,.ref s.heap.objs.size,rawInt 0,.none,.none]}) (s.heap.objs.size+1) s.heap.objs.size 0 .none:=by
    have:=Heap.get?_push_size (s.heap.push o) (o:={cls:=.type "enumerate",data:=.fields #[.none,.bool false,.ref s.heap.objs.size,rawInt 0,.none,.none]}) rfl;rw[hz]at this;exact this
  refine⟨⟨_,he,rfl⟩,h _ he (Heap.get?_push_of_some _ (Heap.get?_push_size _ B.free)) (by rw[Heap.size_push,hz]) λb o x=>Heap.get?_push_of_some _ (Heap.get?_push_of_some _ x)⟩
def x6 (z:Str):It:=⟨λi H=>i<z.cps.size,λi H v H'=>∃T c,v=.ref T/\H T=none/\H'=upd H T (.tup [.int (i:Nat),.str ⟨#[c]⟩])/\z.cps[i]?=some c,λi H=>i=z.cps.size⟩
def x7 (K:Frag)(a:Addr):It:=
 ⟨λi H=>∃(xs:List V) (x:V),SqT K H a xs/\xs[i]?=some x,λi H v H'=>∃T x,v=.ref T/\H T=none/\H'=upd H T (.tup [.int (i:Nat),x])/\∀xs,SqT K H a xs->xs[i]?=some x,λi H=>∃xs:List V,SqT K H a xs/\xs.length=i⟩
section
variable{P:Program}{w:World}{K:Frag}{elts:List Expr}{kk:Nat}{jA:Pos}
theorem N3 {X:Cx}{i:Nat}{pins:List (Addr×Obj)}{s:Shared}{σ:L2.St}{H:Hp}{E:Value->Shared->Prop}{e it:Addr}{n:Nat}{bC:List Addr}{Pv:Nat->Value->Prop}{St:Nat->Heap->Prop}(D:Draws X.prog X.w X.A.in1 it bC n Pv St)(I:Inv X pins σ H s)(hf:∀b∈[e,it],FpOk X pins H b)
    (he:∃old,IsEnum s.heap e it ((i:Nat):Int) old) (ez:St i s.heap) (hlt:i<n) (hne:e≠it) (O3:e∉bC) {R:V->Hp->Prop} {tn:Heap->Prop} (ZU:∀h',(∃old,IsEnum h' e it (((i+1:Nat):Nat):Int) old)->St (i+1) h'->tn h') {Y:Prop->Prop}
    (fin:∀u x,Pv i u->RelV x u->∀T H',H T=none->H'=upd H T (.tup [.int (i:Nat),x])->R (.ref T) H') (hv:∀u,Pv i u->∃x,RelV x u):
    wpAny (model X.prog X.w) X.A (pyNext (.ref e)) (λr aF=>∃u,r=some u/\wpAny (model X.prog X.w) X.A (letOwnedTupleGo (.Tuple elts kk jA) (.ref e) u) (λ_ jf=>∃v H',Inv X pins σ H' jf/\RelV v u/\R v H'/\tn jf.heap/\∀b∈[e,it],H' b=none) E aF) E s:=by
  obtain⟨old,he⟩:=he;have O4:e<s.heap.objs.size:=Heap.lt_size he;have nK:it<s.heap.objs.size:=by obtain⟨_,q⟩:=D.live _ _ ez;exact Heap.lt_size q
  refine wpAny_pyNext_enum_itemD D he ez hlt hne O3 λu h' tk hP ho ZR hT hsz hk=>?_
  obtain⟨x,cU⟩:=hv u hP;refine⟨_,rfl,wpAny_letOwnedTupleGo_enum (s:={s with heap:=h',toks:=tk+1}) ho λpW HK sb=>?_⟩;have Hv:pW.get? s.heap.objs.size=some {cls:=.type "tuple",data:=.seq #[.int i tk,u]}:=(sb.2 _ (Nat.ne_of_gt O4)).trans hT;have new:ObjOk X.prog X.w (upd H s.heap.objs.size (.tup [.int (i:Nat),x])) pW s.heap.objs.size (.tup [.int (i:Nat),x]):=
    ⟨by show 2<=sizeLine;decide,[.int i tk,u],.cons ⟨_,rfl⟩ (.cons cU .nil),⟨_,Hv,rfl,_,rfl⟩⟩
  have bE:Inv X pins σ (upd H s.heap.objs.size (.tup [.int (i:Nat),x])) {s with heap:=pW,toks:=tk+1}:=
    I.turnedNew (ch:=[e,it]) (λb ob hb q=>(sb.2 b (λz=>hb (by simp[z]))).trans (hk b ob (λz=>hb (by simp[z])) (λz=>hb (by simp[z])) q)) hf (Nat.le_refl _) new
  refine⟨.ref s.heap.objs.size,_,bE,rfl,fin u x hP cU _ _ (I.hok.fresh (Nat.le_refl _)) rfl,ZU _ ⟨u,?_⟩ (D.frame _ _ _ ZR λb hb o q=>(sb.2 b λz=>O3 (z▸hb)).trans q),λb hb=>?_⟩
  · have e1:((i+1:Nat):Int)=(i:Int)+1:=by omega
    rw[e1];exact HK
  · have YV:b<s.heap.objs.size:=by
      have eT:b=e\/b=it:=by simpa using hb
      rcases eT with z|z
      · rw[z];exact O4
      · rw[z];exact nK
    rw[upd_ne (Nat.ne_of_lt YV)];exact(hf b hb).1
theorem ag9 (z:Str)(t:Tok)(e it:Addr):
    Turn P w K (.Tuple elts kk jA) (x6 z) [e,it] e (λi h=>(∃old,IsEnum h e it ((i:Nat):Int) old)/\h.IsStrIter it (strIterType z) z t i/\e≠it) where
  mem:=by simp
  obj:=λi h st b hb=>by
    obtain⟨⟨old,he⟩,⟨o,ho,hc,hd⟩,_⟩:=st;have eT:b=e\/b=it:=by simpa using hb
    rcases eT with z|z
    · rw[z];exact⟨_,he,λv q=>nomatch q⟩
    · rw[z];exact⟨o,ho,λv q=>by rw[hd]at q;cases q⟩
  keep:=λi h h' st k=>let⟨⟨old,he⟩,⟨o,ho,r⟩,hne⟩:=st;⟨⟨old,k e (by simp) _ he⟩,⟨o,k it (by simp) _ ho,r⟩,hne⟩
  item:=by
    intro X hP hw hK hc i pins s σ H E I hf st hg;subst hP hw hK;obtain⟨he,hit,hne⟩:=st;refine N3 (Draws.text (A:=X.A.in1) (I.ok.hd hc) it z t) I hf he hit hg hne (by simpa using hne) (tn:=λh=>(∃old,IsEnum h e it ((i+1:Nat):Int) old)/\h.IsStrIter it (strIterType z) z t (i+1)/\e≠it) (λh' aC bN=>⟨aC,bN,hne⟩) (Y:=λx=>x) (R:=(x6 z).yld i H) (λu x hP cU T H' hT hH=>?_) (λu hP=>?_)
    · obtain⟨c,tk,hc,rfl⟩:=hP
      have:x=.str ⟨#[c]⟩:=by
        cases x with
        |str y=>obtain⟨t',q⟩:=(show∃t',Value.str ⟨#[c]⟩ tk=Value.str y t' from cU);cases q;rfl
        |_=>first|(obtain⟨_,q⟩:=cU;cases q;done)|(cases cU;done)
      subst this;exact⟨T,c,rfl,hT,hH,hc⟩
    · obtain⟨c,tk,hc,rfl⟩:=hP
      exact⟨.str ⟨#[c]⟩,tk,rfl⟩
  done:=by
    intro X hP hw hK hc i pins s σ H E I hf st hg;subst hP hw hK;obtain⟨⟨old,he⟩,hit,hne⟩:=st;obtain⟨f0,f1,f2,oJ,f4,pU⟩:=hf it (by simp);obtain rfl:i=z.cps.size:=hg;exact wpAny_pyNext_enum_endD (Draws.text (A:=X.A.in1) (I.ok.hd hc) it z t) he hit λh' lH=>⟨rfl,I.turned (t':=s.toks) (λb o hb q=>lH b o hb q) f0 f1 oJ f4 pU⟩
  self:=λA i s Q E st h=>let⟨⟨_,he⟩,_⟩:=st;wpAny_pyIter_enum he h
theorem aga (a e it:Addr)(its:Array Value):
    Turn P w K (.Tuple elts kk jA) (x7 K a) [e,it] e (λi h=>(∃old,IsEnum h e it ((i:Nat):Int) old)/\h.IsTupleIter it a i/\e≠it/\a≠it/\a≠e) where
  mem:=by simp
  obj:=λi h st b hb=>by
    obtain⟨⟨old,he⟩,⟨o,ho,hc,hd⟩,_⟩:=st;have eT:b=e\/b=it:=by simpa using hb
    rcases eT with z|z
    · rw[z];exact⟨_,he,λv q=>nomatch q⟩
    · rw[z];exact⟨o,ho,λv q=>by rw[hd]at q;cases q⟩
  keep:=λi h h' st k=>let⟨⟨old,he⟩,hi,hne⟩:=st;⟨⟨old,k e (by simp) _ he⟩,hi.at λo q=>k it (by simp) o q,hne⟩
  item:=by
    intro X hP hw hK hc i pins s σ H E I hf st hg;subst hP hw hK;obtain⟨he,hit,hne,Ci,Hw⟩:=st;obtain⟨xs,x,hq,hx⟩:=hg;obtain⟨its,bL,p,hz⟩:=I.tuple hq;have hlt:i<its.length:=by rw[<-bL.length];exact(List.getElem?_eq_some_iff.mp hx).1
    refine N3 (Draws.tuple (A:=X.A.in1) (I.ok.hd hc) it a Ci its.toArray) I hf he ⟨hit,p⟩ (by simpa using hlt) hne (by simp;exact⟨hne,λz=>Hw z.symm⟩) (tn:=λh=>(∃old,IsEnum h e it ((i+1:Nat):Int) old)/\h.IsTupleIter it a (i+1)/\e≠it/\a≠it/\a≠e) (λh' aC bN=>⟨aC,bN.1,hne,Ci,Hw⟩) (Y:=λx=>x) (R:=(x7 X.K a).yld i H) (λu y hP d7 T H' hT hH=>?_) (λu hP=>?_)
    · obtain⟨xH,hu,kg⟩:=bL.get hx
      have yW:its[i]?=some u:=by simpa using hP
      rw[hu]at yW;cases yW;have:y=x:=L2.RelV.inj d7 kg;subst this;exact⟨T,y,rfl,hT,hH,λaA hy=>by rw[I.tuple_inj hy hq];exact hx⟩
    · obtain⟨xH,hu,kg⟩:=bL.get hx
      have yW:its[i]?=some u:=by simpa using hP
      rw[hu]at yW;cases yW;exact⟨x,kg⟩
  done:=by
    intro X hP hw hK hc i pins s σ H E I hf st hg;subst hP hw hK;obtain⟨⟨old,he⟩,hit,hne,Ci,Hw⟩:=st;obtain⟨xs,hq,hx⟩:=hg;obtain⟨its,bL,p,hz⟩:=I.tuple hq;obtain⟨f0,f1,f2,oJ,f4,pU⟩:=hf it (by simp);have hn:its.toArray.size=i:=by rw[List.size_toArray,<-bL.length];exact hx
    subst hn;exact wpAny_pyNext_enum_endD (Draws.tuple (A:=X.A.in1) (I.ok.hd hc) it a Ci its.toArray) he ⟨hit,p⟩ λh' lH=>⟨rfl,I.turned (t':=s.toks) (λb o hb q=>lH b o hb q) f0 f1 oJ f4 pU⟩
  self:=λA i s Q E st h=>let⟨⟨_,he⟩,_⟩:=st;wpAny_pyIter_enum he h
end
section
variable{K:Frag}{aa:List Addr}{G H:Hp}
theorem qy {ds:List D}{i:Nat}{M:List ak}{s:af}(h:(Its.data ds).at_ M i=some s):∃d,ds[i]?=some d/\s=.dat d:=by
 have h:ds[i]?.map af.dat=some s:=h;cases e:ds[i]? with
 |none=>rw[e]at h;cases h
 |some d=>rw[e]at h;cases h;exact⟨d,rfl,rfl⟩
theorem agB {a:Addr}{xs:List V}{ds:List D}(h:SqL K G a xs)(r:bJ K G xs ds):jo K (Itl K a) (.data ds) aa G where
 goes i aj ai ao H' hi l ms _:=by
  have hi:i<ds.length:=hi;exact⟨xs,xs[i]'(by rw[r.length];exact hi),ms.le.l (l.ex.l h),by simp⟩
 stops aj ai ao H' l ms _:=⟨xs,ms.le.l (l.ex.l h),by show xs.length<=ds.length;rw[r.length];exact Nat.le_refl _⟩
 yld i aj ai ao H' x aO s hi l ms hs y:=by
  obtain⟨d,hd,rfl⟩:=qy hs;obtain⟨rfl,hx⟩:=y;obtain⟨v,h1,h2⟩:=r.get hd;have:=hx xs (ms.le.l (l.ex.l h));rw[h1]at this;cases this;exact⟨ai,Pure.refl ms.le,h2.mono l.ex⟩
theorem agG {a:Addr}{xs:List V}{ds:List D}(h:SqT K G a xs)(r:bJ K G xs ds):jo K (Itt K a) (.data ds) aa G where
 goes i aj ai ao H' hi l ms _:=by
  have hi:i<ds.length:=hi;exact⟨xs,xs[i]'(by rw[r.length];exact hi),ms.le.t (l.ex.t h),by simp⟩
 stops aj ai ao H' l ms _:=⟨xs,ms.le.t (l.ex.t h),by show xs.length<=ds.length;rw[r.length];exact Nat.le_refl _⟩
 yld i aj ai ao H' x aO s hi l ms hs y:=by
  obtain⟨d,hd,rfl⟩:=qy hs;obtain⟨rfl,hx⟩:=y;obtain⟨v,h1,h2⟩:=r.get hd;have:=hx xs (ms.le.t (l.ex.t h));rw[h1]at this;cases this;exact⟨ai,Pure.refl ms.le,h2.mono l.ex⟩
theorem agF {z:Str}:jo K (L2.Its z) (.data (fc z)) aa G where
 goes i aj ai ao H' hi l ms _:=by
  have hi:i<(fc z).length:=hi;show i<z.cps.size
  simpa[fc]using hi
 stops aj ai ao H' l ms _:=by show z.cps.size<=(fc z).length;simp[fc]
 yld i aj ai ao H' x aO s hi l ms hs y:=by
  obtain⟨d,hd,rfl⟩:=qy hs;obtain⟨rfl,c,h1,rfl⟩:=y;refine⟨ai,Pure.refl ms.le,?_⟩;unfold fc at hd;rw[List.getElem?_map,Array.getElem?_toList,h1]at hd;cases hd
  exact bK.str _
theorem Um {lo:Int}{n:Nat}:jo K (Itr lo n) (.data (rng lo n)) aa G where
 goes i aj ai ao H' hi l ms _:=by
  have hi:i<(rng lo n).length:=hi;show i<n
  simpa[rng]using hi
 stops aj ai ao H' l ms _:=by show n<=(rng lo n).length;simp[rng]
 yld i aj ai ao H' x aO s hi l ms hs y:=by
  obtain⟨d,hd,rfl⟩:=qy hs;obtain⟨rfl,rfl⟩:=y;refine⟨ai,Pure.refl ms.le,?_⟩;unfold rng at hd;rw[List.getElem?_map]at hd;cases q:(List.range n)[i]? with
  |none=>rw[q]at hd;cases hd
  |some j=>
   rw[q]at hd;obtain⟨h1,h2⟩:=List.getElem?_eq_some_iff.mp q;have e:j=i:=by rw[<-h2];simp
   subst e;cases hd
   exact bK.int _
theorem uO {ai H':Hp}{T:Addr}{u v:V}{d1 d2:D}(l:dM ai H')(hT:H' T=none)(r1:bK K ai u d1)(r2:bK K ai v d2):∃Gc,Pure ai H' Gc (upd H' T (.tup [u,v]))/\bK K Gc (.ref T) (.tup [d1,d2]):=by
 have pu:=Pure.new (o:=.tup [u,v]) l hT;exact⟨_,pu,.tup upd_same (.cons (r1.mono pu.ex) (.cons (r2.mono pu.ex) .nil))⟩
theorem agy {a:Addr}{xs:List V}{ds:List D}(h:SqL K G a xs)(r:bJ K G xs ds):jo K (Ite K a) (.data (i9 0 ds)) aa G where
 goes i aj ai ao H' hi l ms _:=by
  have hi:i<(i9 0 ds).length:=hi;rw[t_]at hi;exact⟨xs,xs[i]'(by rw[r.length];exact hi),ms.le.l (l.ex.l h),by simp⟩
 stops aj ai ao H' l ms _:=⟨xs,ms.le.l (l.ex.l h),by show xs.length<=(i9 0 ds).length;rw[r.length,t_];exact Nat.le_refl _⟩
 yld i aj ai ao H' x aO s hi l ms hs y:=by
  obtain⟨d,hd,rfl⟩:=qy hs;obtain⟨T,v,rfl,hT,rfl,hx⟩:=y;rw[BQ]at hd;cases e:ds[i]? with
  |none=>rw[e]at hd;cases hd
  |some f=>
   rw[e]at hd;have e0:(0+i)=i:=Nat.zero_add i;rw[e0]at hd;cases hd
   obtain⟨w,h1,h2⟩:=r.get e;have:=hx xs (ms.le.l (l.ex.l h));rw[h1]at this;cases this;exact uO ms.le hT (.int _) (h2.mono l.ex)
theorem agA {a:Addr}{xs:List V}{ds:List D}(h:SqT K G a xs)(r:bJ K G xs ds):jo K (x7 K a) (.data (i9 0 ds)) aa G where
 goes i aj ai ao H' hi l ms _:=by
  have hi:i<(i9 0 ds).length:=hi;rw[t_]at hi;exact⟨xs,xs[i]'(by rw[r.length];exact hi),ms.le.t (l.ex.t h),by simp⟩
 stops aj ai ao H' l ms _:=⟨xs,ms.le.t (l.ex.t h),by show xs.length=(i9 0 ds).length;rw[r.length,t_]⟩
 yld i aj ai ao H' x aO s hi l ms hs y:=by
  obtain⟨d,hd,rfl⟩:=qy hs;obtain⟨T,v,rfl,hT,rfl,hx⟩:=y;rw[BQ]at hd;cases e:ds[i]? with
  |none=>rw[e]at hd;cases hd
  |some f=>
   rw[e]at hd;have e0:(0+i)=i:=Nat.zero_add i;rw[e0]at hd;cases hd
   obtain⟨w,h1,h2⟩:=r.get e;have:=hx xs (ms.le.t (l.ex.t h));rw[h1]at this;cases this;exact uO ms.le hT (.int _) (h2.mono l.ex)
theorem agz {z:Str}:jo K (x6 z) (.data (i9 0 (fc z))) aa G where
 goes i aj ai ao H' hi l ms _:=by
  have hi:i<(i9 0 (fc z)).length:=hi;rw[t_]at hi;show i<z.cps.size
  simpa[fc]using hi
 stops aj ai ao H' l ms _:=by show(i9 0 (fc z)).length=z.cps.size;rw[t_];simp[fc]
 yld i aj ai ao H' x aO s hi l ms hs y:=by
  obtain⟨d,hd,rfl⟩:=qy hs;obtain⟨T,c,rfl,hT,rfl,hc⟩:=y;rw[BQ]at hd;unfold fc at hd;rw[List.getElem?_map,Array.getElem?_toList,hc]at hd;have e0:(0+i)=i:=Nat.zero_add i;rw[e0]at hd;cases hd
  exact uO ms.le hT (.int _) (.str _)
theorem agH {a b:Addr}{xs aA:List V}{ds es:List D}(h:SqL K G a xs)(r:bJ K G xs ds)(h2:SqL K G b aA)(r2:bJ K G aA es):jo K (Itz K a b) (.data (iw ds es)) aa G where
 goes i aj ai ao H' hi l ms _:=by
  have hi:i<(iw ds es).length:=hi;rw[AE]at hi;exact⟨xs,aA,xs[i]'(by rw[r.length];omega),aA[i]'(by rw[r2.length];omega),ms.le.l (l.ex.l h),ms.le.l (l.ex.l h2),by simp,by simp⟩
 stops aj ai ao H' l ms _:=⟨xs,aA,ms.le.l (l.ex.l h),ms.le.l (l.ex.l h2),by show xs.length<=(iw ds es).length\/aA.length<=(iw ds es).length;rw[AE,r.length,r2.length];omega⟩
 yld i aj ai ao H' x aO s hi l ms hs y:=by
  obtain⟨d,hd,rfl⟩:=qy hs;obtain⟨T,u,v,rfl,hT,rfl,hx,hy⟩:=y;rw[Ln]at hd;split at hd
  ·rename_i d1 d2 e1 e2
   cases hd
   obtain⟨aC,q1,q2⟩:=r.get e1;obtain⟨bN,dI,cI⟩:=r2.get e2;have fY:=hx xs (ms.le.l (l.ex.l h));have d_:=hy aA (ms.le.l (l.ex.l h2));rw[q1]at fY;cases fY;rw[dI]at d_;cases d_;exact uO ms.le hT (q2.mono l.ex) (cI.mono l.ex)
  ·cases hd
def wL (j:Nat):List ak->Nat->Option af:=λM i=>match M[j]? with
 |some (.lst xs)=>xs[i]?.map (gJ M)
 |_=>none
def sq (j n:Nat):List ak->Bool:=λM=>match M[j]? with
 |some (.lst xs)=>xs.length==n
 |_=>false
def wK (j:Nat):List ak->Nat->Option af:=λM i=>match M[j]? with
 |some (.lst xs)=>match xs[i]? with
  |some (.dat d)=>some (.dat (.tup [.int (i:Nat),d]))
  |_=>none
 |_=>none
theorem qP {j:Nat}{a:Addr}{ai H':Hp}{aj:List Addr}{ao:List ak}{xs:List af}(h:aa[j]?=some a)(l:f5 aa G aj ai)(ms:aE K aj ai ao H')(e:ao[j]?=some (.lst xs)):∃vs,H' a=some (.lst vs)/\bA K aj ai vs xs:=by
 exact(ms.mo j a _ (l.get h) e).2
theorem agC {j:Nat}{a:Addr}{n:Nat}(h:aa[j]?=some a):jo K (Itl K a) (.live n (wL j) (sq j n)) aa G where
 goes i aj ai ao H' hi l ms hs:=by
  have hs:(wL j ao i).isSome=true:=hs;unfold wL at hs;split at hs
  ·rename_i xs e
   obtain⟨vs,h1,h2⟩:=qP h l ms e;cases ex:xs[i]? with
   |none=>rw[ex]at hs;cases hs
   |some s=>
    obtain⟨v,e1,_⟩:=h2.get ex;exact⟨vs,v,SqL.of h1,e1⟩
  ·cases hs
 stops aj ai ao H' l ms hs:=by
  have hs:sq j n ao=true:=hs;unfold sq at hs;split at hs
  ·rename_i xs e
   obtain⟨vs,h1,h2⟩:=qP h l ms e;exact⟨vs,SqL.of h1,by show vs.length<=n;rw[h2.length];exact Nat.le_of_eq (eq_of_beq hs)⟩
  ·cases hs
 yld i aj ai ao H' x aO s hi l ms hs y:=by
  have hs:wL j ao i=some s:=hs;obtain⟨rfl,hx⟩:=y;unfold wL at hs;split at hs
  ·rename_i xs e
   obtain⟨vs,h1,h2⟩:=qP h l ms e;cases ex:xs[i]? with
   |none=>rw[ex]at hs;cases hs
   |some t=>
    rw[ex]at hs;cases hs;obtain⟨v,e1,e2⟩:=h2.get ex;have:=hx vs (SqL.of h1);rw[e1]at this;cases this;exact⟨ai,Pure.refl ms.le,De ms e2⟩
  ·cases hs
theorem agD {j:Nat}{a:Addr}{n:Nat}(h:aa[j]?=some a):jo K (Ite K a) (.live n (wK j) (sq j n)) aa G where
 goes i aj ai ao H' hi l ms hs:=by
  have hs:(wK j ao i).isSome=true:=hs;unfold wK at hs;split at hs
  ·rename_i xs e
   obtain⟨vs,h1,h2⟩:=qP h l ms e;split at hs
   ·rename_i d ex
    obtain⟨v,e1,_⟩:=h2.get ex;exact⟨vs,v,SqL.of h1,e1⟩
   ·cases hs
  ·cases hs
 stops aj ai ao H' l ms hs:=by
  have hs:sq j n ao=true:=hs;unfold sq at hs;split at hs
  ·rename_i xs e
   obtain⟨vs,h1,h2⟩:=qP h l ms e;exact⟨vs,SqL.of h1,by show vs.length<=n;rw[h2.length];exact Nat.le_of_eq (eq_of_beq hs)⟩
  ·cases hs
 yld i aj ai ao H' x aO s hi l ms hs y:=by
  have hs:wK j ao i=some s:=hs;obtain⟨T,u,rfl,hT,rfl,hx⟩:=y;unfold wK at hs;split at hs
  ·rename_i xs e
   obtain⟨vs,h1,h2⟩:=qP h l ms e;split at hs
   ·rename_i d ex
    cases hs
    obtain⟨v,e1,e2⟩:=h2.get ex;have:=hx vs (SqL.of h1);rw[e1]at this;cases this;exact uO ms.le hT (.int _) e2
   ·cases hs
  ·cases hs
end
section
variable{X:Cx}{W:WX}{bD e a b:Expr}{elts:List Expr}{kk:Nat}{jA p pos:Pos}{aJ bS:CE}
def uy (M:List ak):af->Option Its
 | .dat (.lst ds)=>some (.data ds)
 | .dat (.tup ds)=>some (.data ds)
 | .dat (.str z)=>some (.data (fc z))
 | .mu j=>match M[j]? with
  |some (.lst xs)=>some (.live xs.length (wL j) (sq j xs.length))
  |_=>none
 |_=>none
def fQ (f:CE):iy:=λρ=>(f ρ).bind λs=>λM=>match uy M s with
 |some its=>.ret (.ok its M)
 |none=>.bad
def zz (X:Cx)(bD:Expr)(x:V)(H:Hp)(R:It->Hp->Prop):Prop:=∀pins σ s v,Inv X pins σ H s->RelV x v->wpAny (model X.prog X.w) X.A (pyIter v) (PIE X pins σ bD R) X.xe s
theorem PR {a:Addr}{xs:List V}{H:Hp}{R:It->Hp->Prop}(hq:SqL X.K H a xs)(q:R (Itl X.K a) H):zz X bD (.ref a) H R:=λpins σ s v I r=>by
 cases r
 obtain⟨its,bL,p,hz⟩:=I.list hq;refine wpAny_pyIter_list p.isList ?_;refine⟨s.heap.objs.size,[s.heap.objs.size],_,_,H,rfl,I.kept (t':=s.toks) λb o e=>Heap.get?_push_of_some _ e,turn_list a _,⟨_,Heap.get?_push_size _ rfl,rfl,rfl⟩,λb hb=>?_,q⟩;have e:b=s.heap.objs.size:=by simpa using hb
 subst e;exact I.fpOk (Nat.le_refl _) (I.hok.fresh (Nat.le_refl _))
theorem aag {a:Addr}{xs:List V}{H:Hp}{R:It->Hp->Prop}(hq:SqT X.K H a xs)(q:R (Itt X.K a) H):zz X bD (.ref a) H R:=λpins σ s v I r=>by
 cases r
 obtain⟨its,bL,p,hz⟩:=I.tuple hq;refine wpAny_pyIter_tuple (show s.heap.IsTuple a its.toArray from p) ?_;refine⟨s.heap.objs.size,[s.heap.objs.size],_,_,H,rfl,I.kept (t':=s.toks) λb o e=>Heap.get?_push_of_some _ e,turn_tuple a _,⟨_,Heap.get?_push_size _ rfl,rfl,rfl⟩,λb hb=>?_,q⟩;have e:b=s.heap.objs.size:=by simpa using hb
 subst e;exact I.fpOk (Nat.le_refl _) (I.hok.fresh (Nat.le_refl _))
theorem aaf {z:Str}{H:Hp}{R:It->Hp->Prop}(q:R (L2.Its z) H):zz X bD (.str z) H R:=λpins σ s v I r=>by
 obtain⟨t,rfl⟩:=r;cases ha:z.cps.all (·<128)
 ·exact wpAny_pyIter_wide ha (pi_one (tk:=s.toks) I _ (turn_str _ z t "str_iterator" (.inr rfl)) ⟨_,Heap.get?_push_size _ rfl,rfl,rfl⟩ q)
 ·exact wpAny_pyIter_ascii ha (pi_one (tk:=s.toks) I _ (turn_str _ z t "str_ascii_iterator" (.inl rfl)) ⟨_,Heap.get?_push_size _ rfl,rfl,rfl⟩ q)
theorem aae {M:List ak}{s:af}{its:Its}{aa:List Addr}{G H:Hp}{x:V}{R:It->Hp->Prop}(h:uy M s=some its)(ms:aE X.K aa G M H)(r:bz X.K aa G x s)(q:∀J,jo X.K J its aa G->R J H):zz X bD x H R:=by
 unfold uy at h;split at h
 ·cases h
  cases r with
  |lst hq r=>exact PR (SqL.of (ms.le.lst hq)) (q _ (agB (SqL.of hq) r))
 ·cases h
  cases r with
  |tup hq r=>exact aag (ms.le.t (.inl (.inl hq))) (q _ (agG (.inl (.inl hq)) r))
 ·cases h
  cases r
  exact aaf (q _ agF)
 ·rename_i j
  split at h
  ·rename_i xs hm
   cases h
   obtain⟨a,e1,rfl⟩:=r;obtain⟨vs,e2,e3⟩:=(ms.mo j a _ e1 hm).2;exact PR (SqL.of e2) (q _ (agC e1))
  ·cases h
 ·cases h
theorem l8 (h1:aV X W e aJ):mC X W bD e (fQ aJ):=⟨λρ M aa G σ H R ms en h=>by
 intro pins s I;have hw:wE X e σ H λv H1=>zz X bD v H1 R:=h1.seq ms en h λav au M1 H1 v s g1 m1 r1 aC=>by
  cases hi:uy M1 s with
  |none=>simp only[hi]at aC;exact aC.elim
  |some its=>
   simp only[hi]at aC;exact aae hi m1 r1 λJ gK=>aC av au H1 J (aG.refl _ _ _) m1 gK
 exact thn (hw pins s I) λv s1 ⟨x,H1,bE,r1,q1⟩=>q1 pins σ s1 v bE r1⟩
def f_ (f:CE):iy:=λρ=>(f ρ).bind λs=>match s with
 | .dat (.int n)=>if -(2^62)<=n/\n<2^62 then ok (.data (rng 0 n.toNat))else bad
 |_=>bad
theorem sP (F:dW X "range")(hm:X.mg "range"=none)(h1:aV X W e aJ)(hs:starEach [e] X.env=[(false,eval e X.env)]:=by rfl):mC X W bD (.Call (.Name "range" p) [e] [] pos) (f_ aJ):=⟨λρ M aa G σ H R ms en h=>
 toI (pi_range1 F.gl hm (pa_cons cS pa_nil hs) hs) (h1.seq ms en h λav au M1 H1 v s g1 m1 r1 aC=>by
  split at aC
  ·split at aC
   ·rename_i n hb
    exact⟨n,by rw[iT r1],hb.1,hb.2,aC av au H1 _ (aG.refl _ _ _) m1 Um⟩
   ·exact aC.elim
  ·exact aC.elim)⟩
def zY (s t:af):Option Its:=match s,t with
 | .dat (.int i),.dat (.int n)=>if -(2^62)<=i/\i<2^62/\-(2^62)<=n/\n<2^62 then some (.data (rng i (n-i).toNat))else none
 |_,_=>none
def zw (f g:CE):iy:=λρ=>(f ρ).bind λs=>(g ρ).bind λt=>wY (zY s t)
theorem af3 (F:dW X "range")(hm:X.mg "range"=none)(h1:aV X W a aJ)(h2:aV X W b bS)(hs:starEach [a,b] X.env=[(false,eval a X.env),(false,eval b X.env)]:=by rfl)(lQ:starEach [b] X.env=[(false,eval b X.env)]:=by rfl):mC X W bD (.Call (.Name "range" p) [a,b] [] pos) (zw aJ bS):=⟨λρ M aa G σ H R ms en h=>
 toI (pi_range2 F.gl hm (pa_cons cS (pa_cons cS pa_nil lQ) (by rw[hs,lQ])) hs lQ) (h1.seq ms en h λav au M1 H1 v s g1 m1 r1 aC=>h2.seq m1 (en.grow g1) aC λaM aU M2 aO v2 t g2 m2 r2 bN=>by
  obtain⟨its,e1,q⟩:=Le.mp bN;unfold zY at e1;split at e1
  ·split at e1
   ·rename_i i n hb
    cases e1
    exact⟨i,n,by rw[iT r1,iT r2],hb,q aM aU aO _ (aG.refl _ _ _) m2 Um⟩
   ·cases e1
  ·cases e1)⟩
def GU (M:List ak):af->Option Its
 | .dat (.lst ds)=>some (.data (i9 0 ds))
 | .dat (.tup ds)=>some (.data (i9 0 ds))
 | .dat (.str z)=>some (.data (i9 0 (fc z)))
 | .mu j=>match M[j]? with
  |some (.lst xs)=>some (.live xs.length (wK j) (sq j xs.length))
  |_=>none
 |_=>none
def Pw (f:CE):iy:=λρ=>(f ρ).bind λs=>λM=>match GU M s with
 |some its=>.ret (.ok its M)
 |none=>.bad
theorem af2 (F:dW X "enumerate")(hm:X.mg "enumerate"=none)(h1:aV X W e aJ)(hs:starEach [e] X.env=[(false,eval e X.env)]:=by rfl):mC X W (.Tuple elts kk jA) (.Call (.Name "enumerate" p) [e] [] pos) (Pw aJ):=⟨λρ M aa G σ H R ms en h=>by
 intro pins s I;have hw:wE X e σ H λv H1=>(∃a xs,v=.ref a/\SqL X.K H1 a xs/\R (Ite X.K a) H1)\/(∃a xs,v=.ref a/\SqT X.K H1 a xs/\R (x7 X.K a) H1)\/∃z,v=.str z/\R (x6 z) H1:=by
  refine h1.seq ms en h λav au M1 H1 v s g1 m1 r1 aC=>?_
  cases hi:GU M1 s with
  |none=>simp only[hi]at aC;exact aC.elim
  |some its=>
   simp only[hi]at aC;have q:∀J,jo X.K J its av au->R J H1:=λJ gK=>aC av au H1 J (aG.refl _ _ _) m1 gK
   unfold GU at hi;split at hi
   ·cases hi
    cases r1 with
    |lst hq r=>exact .inl ⟨_,_,rfl,SqL.of (m1.le.lst hq),q _ (agy (SqL.of hq) r)⟩
   ·cases hi
    cases r1 with
    |tup hq r=>exact .inr (.inl ⟨_,_,rfl,m1.le.t (.inl (.inl hq)),q _ (agA (.inl (.inl hq)) r)⟩)
   ·cases hi
    cases r1
    exact .inr (.inr ⟨_,rfl,q _ agz⟩)
   ·rename_i j
    split at hi
    ·rename_i xs hj
     cases hi
     obtain⟨a,e1,rfl⟩:=r1;obtain⟨vs,e2,e3⟩:=(m1.mo j a _ e1 hj).2;exact .inl ⟨_,_,rfl,SqL.of e2,q _ (agD e1)⟩
    ·cases hi
   ·cases hi
 refine Call_ (ld_blt I F.gl hm boot_enumerate (PyProof.Rows.callWith_type1 (thn (PA.run (pa_cons (cS (X:=X) (e:=e)) pa_nil hs) pos pins s σ H (λvs H1=>∃v,vs=[v]/\((∃a xs,v=.ref a/\SqL X.K H1 a xs/\R (Ite X.K a) H1)\/(∃a xs,v=.ref a/\SqT X.K H1 a xs/\R (x7 X.K a) H1)\/∃z,v=.str z/\R (x6 z) H1)) I ?_) λus s1 ⟨vs,H1,bE,r1,q1⟩=>?_) hs rfl))
 ·exactλpins s I=>wpAny_mono (hw pins s I) (λw aF ⟨v,H',eV,bL,q⟩=>⟨v,H',eV,bL,⟨v,rfl,q⟩⟩) λ_ _ x=>x
 obtain⟨v,ex,q1⟩:=q1;subst ex;cases r1 with
 |cons r cE=>
  cases cE
  have G8:∀b∈[s1.heap.objs.size+1,s1.heap.objs.size],FpOk X pins H1 b:=λb hb=>by
   have eT:b=s1.heap.objs.size+1\/b=s1.heap.objs.size:=by simpa using hb
   have hle:s1.heap.objs.size<=b:=by
    rcases eT with z|z
    ·rw[z];exact Nat.le_add_right _ _
    ·rw[z];exact Nat.le_refl _
   exact bE.fpOk hle (bE.hok.fresh hle)
  rcases q1 with⟨a,xs,ev,hq,q⟩|⟨a,xs,ev,hq,q⟩|⟨z,ev,q⟩
  ·subst ev
   cases r
   obtain⟨its,bL,iS,hz⟩:=bE.list hq;refine call_enumerate_list iS.isList λh' he hit hsz hk=>wpAny_pyIter_enum he ?_
   exact⟨s1.heap.objs.size+1,[s1.heap.objs.size+1,s1.heap.objs.size],_,_,H1,rfl,bE.kept (t':=s1.toks) hk,turn_enum a (s1.heap.objs.size+1) s1.heap.objs.size,⟨⟨.none,he⟩,hit,Nat.succ_ne_self _⟩,G8,q⟩
  ·subst ev
   cases r
   obtain⟨its,bL,iS,hz⟩:=bE.tuple hq;have hlt:a<s1.heap.objs.size:=by obtain⟨o,ho,_⟩:=iS;exact Heap.lt_size ho
   refine Nh (begins_tuple a its.toArray) iS λh' he hit hsz hk=>wpAny_pyIter_enum he ?_
   exact⟨s1.heap.objs.size+1,[s1.heap.objs.size+1,s1.heap.objs.size],_,_,H1,rfl,bE.kept (t':=s1.toks) hk,aga a (s1.heap.objs.size+1) s1.heap.objs.size its.toArray,⟨⟨.none,he⟩,⟨_,hit,rfl,rfl⟩,Nat.succ_ne_self _,Nat.ne_of_lt hlt,Nat.ne_of_lt (Nat.lt_succ_of_lt hlt)⟩,G8,q⟩
  ·subst ev
   obtain⟨t,rfl⟩:=r;refine Nh (begins_text z t) trivial λh' he hit hsz hk=>wpAny_pyIter_enum he ?_
   exact⟨s1.heap.objs.size+1,[s1.heap.objs.size+1,s1.heap.objs.size],_,_,H1,rfl,bE.kept (t':=s1.toks) hk,ag9 z t (s1.heap.objs.size+1) s1.heap.objs.size,⟨⟨.none,he⟩,⟨_,hit,rfl,rfl⟩,Nat.succ_ne_self _⟩,G8,q⟩⟩
end
def iJ (n:Nat):af->Bool
 | .mu j=>decide (j<n)
 |_=>true
def pS (n:Nat):ak->Bool
 | .lst xs=>xs.all (iJ n)
 | .dK xs=>xs.all λp=>iJ n p.2
 | .dT xs=>xs.all λp=>iJ n p.2
 | .ins _ xs=>xs.all λp=>iJ n p.2
 |_=>true
def closed (n:Nat)(M:List ak):Bool:=(M.take n).all (pS n)
def cut (n:Nat)(M:List ak):List ak:=if closed n M then M.take n else M
def wA:af->Bool
 | .dat _=>true
 |_=>false
def aa8:ak->Bool
 | .lst xs=>xs.all wA
 | .dK xs=>xs.all λp=>wA p.2
 | .dT xs=>xs.all λp=>wA p.2
 | .ins _ xs=>xs.all λp=>wA p.2
 |_=>false
def clean (m:Bool)(n:Nat)(s:af):Ev af:=λM=>match s with
  | .mu j=>if j<n then .ret (.ok s (cut n M))else if m then(match M[j]? with
      |some o=>if aa8 o&&closed n M&&decide (n<=M.length)then .ret (.ok (.mu n) (M.take n++[o]))else .ret (.ok s M)
      |none=>.bad)else(match jL M s with
      |some (d,ao)=>.ret (.ok (.dat d) (cut n ao))
      |none=>.bad)
  |s=>.ret (.ok s (cut n M))
section
variable{K:Frag}{aa aj:List Addr}{G ai H H':Hp}{M ao:List ak}
theorem Bo {n:Nat}{v:V}{s:af}(h:iJ n s=true)(r:bz K aa G v s):bz K (aa.take n) G v s:=by
 cases s with
 |mu j=>
  have hj:j<n:=of_decide_eq_true h;obtain⟨a,e1,e2⟩:=r;exact⟨a,by rw[List.getElem?_take_of_lt hj];exact e1,e2⟩
 |_=>exact r
theorem Nl {n:Nat}:∀{vs:List V} {ss:List af},ss.all (iJ n)=true->bA K aa G vs ss->bA K (aa.take n) G vs ss
 |_,_,_,.nil=>.nil
 |_,_::_,h,.cons r t=>by
  rw[List.all_cons,Bool.and_eq_true]at h;exact .cons (Bo h.1 r) (Nl h.2 t)
theorem Bp {cW:Type}{n:Nat}:∀{vs:List (cW×V)} {ss:List (cW×af)},(ss.all λp=>iJ n p.2)=true->gp K aa G vs ss->gp K (aa.take n) G vs ss
 |_,_,_,.nil=>.nil
 |_,_::_,h,.cons r t=>by
  rw[List.all_cons,Bool.and_eq_true]at h;exact .cons ⟨r.1,Bo h.1 r.2⟩ (Bp h.2 t)
theorem W4 {n:Nat}{a:Addr}{m:ak}(h:pS n m=true)(k:nh K aa G H a m):nh K (aa.take n) G H a m:=by
 cases m with
 |fz o=>exact k
 |hand=>exact k
 |tab i=>exact k
 |lst xs=>obtain⟨vs,e,r⟩:=k;exact⟨vs,e,Nl h r⟩
 |dK xs=>obtain⟨vs,e,r⟩:=k;exact⟨vs,e,Bp h r⟩
 |dT xs=>obtain⟨vs,e,r⟩:=k;exact⟨vs,e,Bp h r⟩
 |ins c xs=>obtain⟨bx,vs,e,r⟩:=k;exact⟨bx,vs,e,Bp h r⟩
 |qx xs=>exact k
theorem zN {n:Nat}(ms:aE K aa G M H)(h:closed n M=true):aE K (aa.take n) G (M.take n) H:=by
 refine⟨ms.le,by rw[List.length_take,List.length_take,ms.len],ms.nd.sublist (List.take_sublist _ _),λj a m e1 e2=>?_,λa ha=>ms.dQ a (List.mem_of_mem_take ha)⟩;have hj:j<n:=by
  have:=(List.getElem?_eq_some_iff.mp e2).1;rw[List.length_take]at this;omega
 rw[List.getElem?_take_of_lt hj]at e1 e2;obtain⟨q1,q2⟩:=ms.mo j a m e1 e2;refine⟨q1,W4 ?_ q2⟩;have:=List.all_eq_true.mp h m;exact this (List.mem_take_iff_getElem.mpr ⟨j,by have:=(List.getElem?_eq_some_iff.mp e2).1;omega,by have:=(List.getElem?_eq_some_iff.mp e2).2;exact this⟩)
theorem Cf (g:aG aa G H aj ai H'):aG aa G H (aj.take aa.length) ai H':=by
 obtain⟨m,e,_⟩:=g.pre;refine⟨g.ex,⟨[],by rw[e];simp,by simp⟩,g.fr,g.jM,g.dQ⟩
theorem lG {rM:Prop}(ms:aE K aa G M H)(g:aG aa G H aj ai H')(m':aE K aj ai ao H')(q:∀aM,aG aa G H aM ai H'->aE K aM ai (cut aa.length ao) H'->(∀(j:Nat) a,aa[j]?=some a->aM[j]?=some a)->rM):rM:=by
 unfold cut at q;by_cases h:closed aa.length ao=true
 ·rw[if_pos h]at q
  refine q _ (Cf g) (zN m' h) λj a e=>?_
  have:=g.get e;rw[List.getElem?_take_of_lt (List.getElem?_eq_some_iff.mp e).1];exact this
 ·rw[if_neg h]at q
  exact q aj g m' λj a e=>g.get e
end
def jW (K:Frag)(Q:VK)(E:XK)(aa:List Addr)(G H:Hp):Re af->Prop
 | .ok s ao=>∀aj ai H' v,aG aa G H aj ai H'->aE K aj ai ao H'->bz K aj ai v s->Q v H'
 | .ex c fs ao=>∀aj ai H' d bG,aG aa G H aj ai H'->aE K aj ai ao H'->ai d=some (.xd bG)->fG K ai bG fs->E (.ref (bQ K c)) (some d) H'
abbrev aK:Type:=List af->Ev af
def fM (K:Frag)(np:Nat)(F:aK):Sp:=λvs H Q E=>∃aa G M ss,aE K aa G M H/\bA K aa G vs ss/\ss.length=np/\wp (F ss M) (jW K Q E aa G H)
def o_ (m:Bool)(n:Nat):Re ck->T (Re af)
 | .ok (.nx _) M=>.ret (.ok (.dat .non) (cut n M))
 | .ok (.rt s) M=>clean m n s M
 | .ok (.bk _) _=>.bad
 | .ok (.ct _) _=>.bad
 | .ex c fs M=>.ret (.ex c fs (cut n M))
def aX (m:Bool)(np n:Nat)(b:aQ):aK:=λss M=>if ss.length=np then(b (ss++List.replicate (n-np) .un) M).bind (o_ m M.length)else .bad
theorem gy {m:Bool}{np n:Nat}{b:aQ}{ss:List af}{M:List ak}{Q:Re af->Prop}(h:wp (aX m np n b ss M) Q):ss.length=np:=by
 unfold aX at h;split at h
 ·assumption
 ·exact h.elim
theorem vX {K:Frag}{aa:List Addr}{G:Hp}{vs:List V}{ss:List af}{N:List Str}(r:bA K aa G vs ss):bO K aa G (L2.start N vs) (ss++List.replicate (N.length-ss.length) .un):=by
 unfold L2.start;refine⟨by simp[r.length],λi s e=>?_⟩;by_cases h:i<ss.length
 ·rw[List.getElem?_append_left h]at e
  obtain⟨v,h1,h2⟩:=r.get e;refine .inr ⟨v,?_,h2⟩;rw[List.getElem?_append_left (by simpa[r.length]using h),List.getElem?_map,h1];rfl
 ·rw[List.getElem?_append_right (by omega),List.getElem?_replicate]at e
  split at e
  ·exact .inl (Option.some.inj e).symm
  ·cases e
theorem Br {K:Frag}{Q:VK}{E:XK}{aa aj:List Addr}{G H ai H':Hp}{M ao:List ak}{m:Bool}{v:V}{s:af}(ms:aE K aa G M H)(g:aG aa G H aj ai H')(m':aE K aj ai ao H')(r:bz K aj ai v s)
    (h:wp (clean m M.length s ao) (jW K Q E aa G H)):Q v H':=by
  have hn:M.length=aa.length:=ms.len.symm;unfold clean at h;rw[hn]at h;split at h
  · rename_i j
    split at h
    · rename_i hj
      refine lG ms g m' λaM g2 m2 lk=>h aM ai H' v g2 m2 ?_
      obtain⟨a,e1,e2⟩:=r;have hA:aa[j]?=some aa[j]:=by simp[hj]
      have:=g.get hA;rw[this]at e1;cases e1;exact⟨_,lk j _ hA,e2⟩
    · rename_i hj
      split at h
      · split at h
        · rename_i o ho
          split at h
          · rename_i hb
            rw[Bool.and_eq_true,Bool.and_eq_true,decide_eq_true_eq]at hb;obtain⟨⟨hd,hc⟩,hl⟩:=hb;obtain⟨a,e1,rfl⟩:=r;obtain⟨q1,q2⟩:=m'.mo j a o e1 ho;obtain⟨more,eZ,hm⟩:=g.pre;have ZH:a∉aj.take aa.length:=λz=>by
              obtain⟨i,hi,Zo⟩:=List.mem_take_iff_getElem.mp z;have:i=j:=m'.inj (a:=a) (by rw[List.getElem?_eq_getElem (by omega),Zo]) e1;omega
            have hH:H a=none:=hm a (by
              rw[eZ,List.getElem?_append_right (by omega)]at e1;exact List.mem_of_getElem? e1)
            have mt:=zN m' hc;have hlen:(aj.take aa.length).length=aa.length:=by rw[List.length_take,eZ,List.length_append];omega
            have hlenM:(ao.take aa.length).length=aa.length:=by rw[List.length_take,<-m'.len,eZ,List.length_append];omega
            have aac:∀{ss:List af} {av:List Addr} {vs:List V},ss.all wA=true->bA K aj ai vs ss->bA K av ai vs ss:=λ{ss av vs}=>by
              intro hs hr;induction hr with
              |nil=>exact .nil
              |cons r1 _ ih=>
                rw[List.all_cons,Bool.and_eq_true]at hs;refine .cons ?_ (ih hs.2);rename_i b _ _ _;cases b with
                |dat d=>exact r1
                |_=>cases hs.1
            have Il:∀{cW:Type} {ss:List (cW×af)} {av:List Addr} {vs:List (cW×V)},(ss.all λp=>wA p.2)=true->gp K aj ai vs ss->gp K av ai vs ss:=λ{cW ss av vs}=>by
              intro hs hr;induction hr with
              |nil=>exact .nil
              |cons r1 _ ih=>
                rw[List.all_cons,Bool.and_eq_true]at hs;refine .cons ⟨r1.1,?_⟩ (ih hs.2);rename_i b _ _ _;obtain⟨k,b⟩:=b;cases b with
                |dat d=>exact r1.2
                |_=>cases hs.1
            have acy:∀av,nh K av ai H' a o:=λav=>by
              cases o with
              |fz _=>cases hd
              |hand=>cases hd
              |tab i=>cases hd
              |lst xs=>obtain⟨vs,aC,bN⟩:=q2;exact⟨vs,aC,aac hd bN⟩
              |dK xs=>obtain⟨vs,aC,bN⟩:=q2;exact⟨vs,aC,Il hd bN⟩
              |dT xs=>obtain⟨vs,aC,bN⟩:=q2;exact⟨vs,aC,Il hd bN⟩
              |ins c xs=>obtain⟨bx,vs,aC,bN⟩:=q2;exact⟨bx,vs,aC,Il hd bN⟩
              |qx xs=>cases hd
            have abq:o.live:=by cases o<;>first|(cases hd;done)|trivial
            have m2:aE K (aj.take aa.length++[a]) ai (ao.take aa.length++[o]) H':=by
              refine⟨mt.le,by simp[mt.len],?_,λi b zL f1 f2=>?_,λb hb=>?_⟩
              · rw[List.nodup_append]
                refine⟨mt.nd,by simp,λb hb c hc=>?_⟩;have:c=a:=by simpa using hc
                subst this;exactλz=>ZH (z▸hb)
              · by_cases hi:i<aa.length
                · rw[List.getElem?_append_left (by rw[hlen];exact hi)]at f1
                  rw[List.getElem?_append_left (by rw[hlenM];exact hi)]at f2;obtain⟨dI,cI⟩:=mt.mo i b zL f1 f2;exact⟨dI,cI.mono (b6.refl ai) (λj c e=>by rw[List.getElem?_append_left (List.getElem?_eq_some_iff.mp e).1];exact e) rfl⟩
                · rw[List.getElem?_append_right (by rw[hlen];omega),hlen]at f1
                  rw[List.getElem?_append_right (by rw[hlenM];omega),hlenM]at f2;have z:i-aa.length=0:=by
                    cases hz:i-aa.length with
                    |zero=>rfl
                    |succ n=>rw[hz]at f1;simp at f1
                  rw[z]at f1 f2;simp at f1 f2;subst f1 f2;exact⟨λ_=>q1 abq,acy _⟩
              · rcases List.mem_append.mp hb with z|z
                · exact mt.dQ b z
                · have:b=a:=by simpa using z
                  subst this;exact m'.dQ _ (List.mem_of_getElem? e1)
            have g2:aG aa G H (aj.take aa.length++[a]) ai H':=by
              have gt:=Cf g;refine⟨gt.ex,⟨[a],by rw[eZ];simp,λb hb=>?_⟩,gt.fr,gt.jM,gt.dQ⟩;have:b=a:=by simpa using hb
              subst this;exact hH
            exact h _ ai H' _ g2 m2 (z4 (by rw[List.getElem?_append_right (by rw[hlen];exact Nat.le_refl _),hlen,Nat.sub_self];rfl))
          · exact h aj ai H' v g m' r
        · exact h.elim
      · split at h
        · rename_i d M2 hf
          obtain⟨aU,m2,g2,r2⟩:=ug m' r hf;exact lG ms (g.trans g2) m2 λdO g3 m3 _=>h dO aU H' v g3 m3 r2
        · exact h.elim
  · rename_i hs
    refine lG ms g m' λaM g2 m2 lk=>h aM ai H' v g2 m2 ?_
    cases s with
    |mu j=>exact absurd rfl (hs j)
    |un=>exact r
    |dat d=>exact r
    |raw w=>exact r
section
variable{P:Program}{w:World}{K:Frag}{mg:Str->Option Value}{base:Heap}{x qual:Str}{dg:Stmt}{f:Addr}{fd:FuncData}{N ps:List Str}{k:Nat}
abbrev cX (P:Program)(w:World)(K:Frag)(mg:Str->Option Value)(base:Heap)(N:List Str)(qual:Str)(sc:Scope)(f:Addr)(cdv:Value)(A:Around)(outer:List Env)(s:Shared)(H:Hp)(E:XK):Cx:=cxOf (L2.CX P w) P w K mg base N qual sc f cdv A outer s H E
theorem fn_ok (m:Bool)(F:Fun K x qual dg f fd)(S:FnScope N ps (defScope dg)){mH:aQ}
    (body:∀cdv A outer s H E,Room k (A.deeper (envOfC qual (defScope dg) s.heap.objs.size f cdv))->
      SB (cX P w K mg base N qual (defScope dg) f cdv A outer s H E) (λcls d _ H=>E cls d H) (defBody dg) mH):FnOk P w K mg base (L2.CX P w) (k+1) f fd ps (fM K ps.length (aX m ps.length N.length mH)):=by
  refine F.okX S (λvs H Q E h=>?_) (λcdv A outer s H vs Q E hr h=>?_)
  · obtain⟨aa,G,M,ss,_,r,e,_⟩:=h
    rw[r.length,e]
  · obtain⟨aa,G,M,ss,ms,r,e,h⟩:=h
    have en:=vX (K:=K) (aa:=aa) (G:=G) (N:=N) r;rw[e]at en;unfold aX at h;rw[if_pos e]at h;refine⟨_,w6,(body cdv A outer s H E hr).run _ M aa G (L2.start N vs) H {nx:=λ_ H'=>Q .non H',rt:=Q} ms en (wp_mono (λr hr=>?_) (wp_bind.mp h))⟩;cases r with
    |ex c fs M1=>
      intro aN aj ai H' d bG g1 m1 e1 r1;rw[show M.length=aa.length from ms.len.symm]at hr;exact lG ms g1 m1 λaM g2 m2 _=>hr aM ai H' d bG g2 m2 e1 r1
    |ok a M1=>
      cases a with
      |nx aT=>
        intro aj ai H' aN g1 m1 _;have hr:jW K Q E aa G H (.ok (.dat .non) (cut M.length M1)):=hr;rw[show M.length=aa.length from ms.len.symm]at hr;exact lG ms g1 m1 λaM g2 m2 _=>hr aM ai H' .non g2 m2 Dw
      |rt s1=>exactλaj ai H' v g1 m1 r1=>Br ms g1 m1 r1 hr
      |bk aT=>exact(show False from hr).elim
      |ct aT=>exact(show False from hr).elim
end
structure f6 where
 prog:Program
 w:World
 K:Frag
 mg:Str->Option Value
 base:Heap
abbrev _root_.L2.Cx.gj (X:Cx):f6:=⟨X.prog,X.w,X.K,X.mg,X.base⟩
section
variable{X:Cx}{W:WX}{e o:Expr}{es:List Expr}{aJ:CE}{fs:aH}{x m:Str}{p pos apos:Pos}{F:aK}{k n:Nat}{ps:List Str}
structure iV (D:f6)(k:Nat)(x:Str)(np:Nat)(F:aK):Prop where
 ex:∃f fd ps,FnOk D.prog D.w D.K D.mg D.base (L2.CX D.prog D.w) k f fd ps (fM D.K np F)/\D.mg x=some (.ref f)/\PySem.W.keepIn D.K (.ref f)=true/\Binds D.K fd ps []
def bR (F:aK)(fs:aH):CE:=λρ=>(fs ρ).bind F
theorem fV (C:iV X.gj k x n F)(hl:∀{ss M Q},wp (F ss M) Q->ss.length=n)(hr:Room k X.A)(G:dW X x)(tk:Takes X W)(h1:jn X W (e::es) fs)
    (he:starEach (e::es) X.env=(false,eval e X.env)::starEach es X.env:=by rfl) (hpl:(backTo pos (starEach es X.env)).any (·.1)=false:=by rfl):aV X W (.Call (.Name x p) (e::es) [] pos) (bR F fs):=⟨λρ M aa tw σ H Q ms en h=>by
  obtain⟨f,fd,ps,eg,hm,hk,hb⟩:=C.ex;exact toE (pe_callS eg hr G.gl hm hk hb (λσ=>passAt tk σ) uN G.nd he hpl) (h1.seq ms en h λav au M1 H1 vs ss g1 m1 r1 aC=>⟨av,au,M1,ss,m1,r1,hl aC,wp_mono (λr hr=>by
    cases r with
    |ok s M2=>exact hr
    |ex c fs M2=>exact hr) aC⟩)⟩
def qM (M:List ak)(m:Str):af->Option Nat
 | .dat (.ins c fs)=>if(fs.lookup m).isNone then some c else none
 | .mu j=>match M[j]? with
  |some (.ins c fs)=>if(fs.lookup m).isNone then some c else none
  |_=>none
 |_=>none
theorem gp.zI {K:Frag}{aa:List Addr}{G:Hp}{n:Str}:∀{bG:List (Str×V)} {fs:List (Str×af)},gp K aa G bG fs->fs.lookup n=none->bG.lookup n=none
 |_,_,.nil,e=>rfl
 |(g,x)::bG,(dR,y)::fs,.cons ⟨e0,r⟩ t,e=>by
  have e0:g=dR:=e0;subst e0;rw[List.lookup_cons]at e⊢;cases q:(n==g)with
  |true=>rw[q]at e;cases e
  |false=>rw[q]at e;exact gp.zI t e
theorem aa1 {K:Frag}{aa:List Addr}{G H:Hp}{M:List ak}{v:V}{s:af}{c:Nat}(ms:aE K aa G M H)(r:bz K aa G v s)(h:qM M m s=some c):∃a bx bG,v=.ref a/\H a=some (.ins (bQ K c) bx bG)/\bG.lookup m=none:=by
 cases s with
 |dat d=>
  cases d with
  |ins c' fs=>
   unfold qM at h
   dsimp only at h
   split at h
   ·rename_i hn
    cases h
    cases r with
    |ins ha hf=>exact⟨_,_,_,rfl,ms.le.ins ha,hf.zI (Option.isNone_iff_eq_none.mp hn)⟩
   ·cases h
  |_=>cases h
 |mu j=>
  unfold qM at h
  dsimp only at h
  split at h
  ·rename_i c' fs hj
   split at h
   ·rename_i hn
    cases h
    obtain⟨a,e1,rfl⟩:=r;obtain⟨bx,bG,e2,e3⟩:=(ms.mo j a _ e1 hj).2;exact⟨a,bx,bG,rfl,e2,e3.zI (Option.isNone_iff_eq_none.mp hn)⟩
   ·cases h
  ·cases h
 |_=>cases h
structure Vb (D:f6)(k:Nat)(c:Nat)(m:Str)(np:Nat)(F:aK):Prop where
 ex:∃f fd ps,FnOk D.prog D.w D.K D.mg D.base (L2.CX D.prog D.w) k f fd ps (fM D.K np F)/\Meth D.K (bQ D.K c) m f/\Cls D.K (bQ D.K c)/\Binds D.K fd ps []
 len:∀{ss M Q},wp (F ss M) Q->ss.length=np
abbrev cH:Type:=List (Nat×aK)
def LW (D:f6)(k:Nat)(m:Str)(t:cH):Prop:=∀c F,t.lookup c=some F->∃np,Vb D k c m np F
def GN (m:Str)(t:cH)(aJ:CE)(fs:aH):CE:=λρ=>(aJ ρ).bind λo=>λM=>match qM M m o with
 |some c=>match t.lookup c with
  |some F=>Ev.bind (fs ρ) (λss=>F (o::ss)) M
  |none=>.bad
 |none=>.bad
theorem ady {pins:List (Addr×Obj)}{σ:L2.St}{H:Hp}{s:Shared}{Q:VK}{c:Nat}{a:Addr}{f:Addr}{fd:FuncData}{aa:List Addr}{G:Hp}{M:List ak}{us:List Value}{vs:List V}{so:af}{ss:List af}(eg:FnOk X.prog X.w X.K X.mg X.base (L2.CX X.prog X.w) k f fd ps (fM X.K n F))(hb:Binds X.K fd ps [])(hl:∀{ss M Q},wp (F ss M) Q->ss.length=n)(hr:Room k X.A)(tk:Takes X W)
    (I:Inv X pins σ H s) (bL:Vals vs us) (ms:aE X.K aa G M H) (r0:bz X.K aa G (.ref a) so) (r:bA X.K aa G vs ss) (w:wp (F (so::ss) M) (cV X W (bz X.K) Q σ aa G H)):wpAny (model X.prog X.w) X.A (call (.ref f) (.ref a::us)) (EP X pins σ Q) X.xe s:=
  run_fnS (us:=.ref a::us) (vs:=.ref a::vs) eg hr hb (passAt tk σ) I (.cons rfl bL) ⟨aa,G,M,so::ss,ms,.cons r0 r,hl w,wp_mono (λr hr=>by
    cases r with
    |ok s M2=>exact hr
    |ex c fs M2=>exact hr) w⟩
theorem Ti {pl:Sem Bool}(T:LW X.gj k m t)(hr:Room k X.A)(tk:Takes X W)(h0:aV X W o aJ)(h1:jn X W (e::es) fs)
    (ez:starEach (e::es) X.env=(false,eval e X.env)::starEach es X.env:=by rfl) (hpl:(backTo pos (starEach es X.env)).any (·.1)=false:=by rfl)
    (ht:eval (.Call (.Attribute o m apos) (e::es) [] pos) X.env=(do
      let nO <-eval o X.env
      standAt apos.atName
      let(f,first) <-holding [nO] (getMethod nO m pl)
      callWith pos f first (backTo pos (starEach (e::es) X.env)) (backToKw pos (keywordEach [] X.env))):=by rfl):aV X W (.Call (.Attribute o m apos) (e::es) [] pos) (GN m t aJ fs):=⟨λρ M aa G σ H Q ms en h=>by
  intro pins s I;have hw:wE X o σ H λv H1=>∃av au M1 s1,aG aa G H av au H1/\aE X.K av au M1 H1/\bz X.K av au v s1/\∃c F,qM M1 m s1=some c/\t.lookup c=some F/\wp (Ev.bind (fs ρ) (λss=>F (s1::ss)) M1) (cV X W (bz X.K) Q σ av au H1):=
    h0.seq ms en h λav au M1 H1 v s1 g1 m1 r1 aC=>by
      cases hc:qM M1 m s1 with
      |none=>simp only[hc]at aC;exact aC.elim
      |some c=>
        cases hF:t.lookup c with
        |none=>simp only[hc,hF]at aC;exact aC.elim
        |some F=>simp only[hc,hF]at aC;exact⟨av,au,M1,s1,g1,m1,r1,c,F,hc,hF,aC⟩
  refine PySem.W.methodCall_KW (pl:=pl) (thn (hw pins s I) λu s1 ⟨v,H1,bE,cU,av,au,M1,sl,g1,m1,r1,c,F,hc,hF,aC⟩=>?_) ht;obtain⟨a,bx,bG,rfl,ea,l⟩:=aa1 m1 r1 hc;obtain rfl:u=Value.ref a:=cU;obtain⟨np,LU⟩:=T c F hF;obtain⟨f,fd,ps,eg,hm,cl,hb⟩:=LU.ex;refine getmeth_ok bE ea cl hm l ?_;have qF:=h1.seq m1 (en.grow g1) aC (Q':=λvs aO=>∃aM aU M2 ss,aG av au H1 aM aU aO/\aE X.K aM aU M2 aO/\bA X.K aM aU vs ss/\wp (F (sl::ss) M2) (cV X W (bz X.K) Q σ aM aU aO)) λaM aU M2 aO vs ss g2 m2 r2 bN=>⟨aM,aU,M2,ss,g2,m2,r2,bN⟩
  refine PySem.W.callWith_K (first:=[.ref a]) (h₀:=X.base) I.ok.mod.kin hm.kp (thn (qF pos pins s1 bE) λus s2 ⟨vs,aO,cJ,bL,aM,aU,M2,ss,g2,m2,r2,bN⟩=>⟨cJ.kIn,?_⟩) ez hpl;exact ady (c:=c) eg hb LU.len hr tk cJ bL m2 (r1.grow g2) r2 bN⟩
def v7 (f:Str)(M:List ak):af->Option (af×List ak)
 | .dat (.ins _ fs)=>(fs.lookup f).map λd=>(.dat d,M)
 | .mu j=>match M[j]? with
  |some (.ins _ fs)=>(fs.lookup f).map λs=>(gJ M s,M)
  |some (.fz (some (.ins _ fs)))=>(fs.lookup f).map λd=>(.dat d,M)
  |_=>none
 |_=>none
def clsAt (M:List ak):af->Option Nat
 | .dat (.ins c _)=>some c
 | .mu j=>match M[j]? with
  |some (.ins c _)=>some c
  |some (.fz (some (.ins c _)))=>some c
  |_=>none
 |_=>none
structure rD (K:Frag)(C:Addr)(f:Str):Prop where
 cls:Cls K C
 no:NoAttr K C f
def iK (f:Str)(cs:List Nat)(aJ:CE):CE:=λρ=>(aJ ρ).bind λs=>ofM λM=>match clsAt M s with
 |some c=>if cs.contains c then v7 f M s else none
 |none=>none
theorem mX {f:Str}{cs:List Nat}(hf:∀c∈cs,rD X.K (bQ X.K c) f)(h1:aV X W e aJ)(hb:attributeBase e f X.env (eval e X.env)=eval e X.env:=by rfl):aV X W (.Attribute e f pos) (iK f cs aJ):=⟨λρ M aa G σ H Q ms en h=>
 toE (pe_fld cS hb) (h1.seq ms en h λav au M1 H1 v s g1 m1 r1 aC=>by
  obtain⟨t,ao,e1,q⟩:=iF.mp aC;cases hc:clsAt M1 s with
  |none=>simp only[hc]at e1;cases e1
  |some c=>
   simp only[hc]at e1;split at e1
   ·rename_i hm
    have pL:=hf c (by simpa using hm);cases s with
    |dat d=>
     cases d with
     |ins c' fs=>
      cases hc
      unfold v7 at e1
      dsimp only at e1
      cases hl:fs.lookup f with
      |none=>rw[hl]at e1;cases e1
      |some gu=>
       rw[hl]at e1;cases e1;cases r1 with
       |ins hx Cq=>
        obtain⟨u,e3,e4⟩:=Cq.lookup hl;exact⟨_,_,_,_,u,rfl,m1.le.ins hx,pL.cls,pL.no,e3,q _ _ _ _ (aG.refl _ _ _) m1 e4⟩
     |_=>cases hc
    |mu j=>
     obtain⟨a,e3,rfl⟩:=r1;unfold clsAt at hc;unfold v7 at e1
     dsimp only at hc e1
     split at hc
     ·rename_i c' fs hj
      cases hc
      rw[hj]at e1
      dsimp only at e1
      cases hl:fs.lookup f with
      |none=>rw[hl]at e1;cases e1
      |some aF=>
       rw[hl]at e1;cases e1;obtain⟨bx,bG,e4,iz⟩:=(m1.mo j a _ e3 hj).2;have lk:∀{bG:List (Str×V)} {fs:List (Str×af)},gp X.K av au bG fs->fs.lookup f=some aF->∃v,bG.lookup f=some v/\bz X.K av au v aF:=by
        intro bG fs h;induction h with
        |nil=>intro z;cases z
        |cons r1 _ ih=>
         rename_i p q _ _ _;obtain⟨g,x⟩:=p;obtain⟨dR,y⟩:=q;have e0:g=dR:=r1.1;subst e0;intro z;rw[List.lookup_cons]at z⊢;cases Dj:(f==g)with
         |true=>rw[Dj]at z;cases z;exact⟨_,rfl,r1.2⟩
         |false=>rw[Dj]at z;exact ih z
       obtain⟨u,oF,tZ⟩:=lk iz hl;exact⟨a,_,bx,bG,u,rfl,e4,pL.cls,pL.no,oF,q _ _ _ _ (aG.refl _ _ _) m1 (De m1 tZ)⟩
     ·rename_i c' fs hj
      cases hc
      rw[hj]at e1
      dsimp only at e1
      cases hl:fs.lookup f with
      |none=>rw[hl]at e1;cases e1
      |some aF=>
       rw[hl]at e1;cases e1;have r2:=(m1.mo j a _ e3 hj).2.2 _ rfl;cases r2 with
       |ins hx Cq=>
        obtain⟨u,e4,iz⟩:=Cq.lookup hl;exact⟨_,_,_,_,u,rfl,m1.le.ins hx,pL.cls,pL.no,e4,q _ _ _ _ (aG.refl _ _ _) m1 iz⟩
     ·cases hc
    |_=>cases hc
   ·cases e1)⟩
end
section
variable{X:Cx}{W:WX}{e o:Expr}{es:List Expr}{aJ kO:CE}{fs:aH}{x m:Str}{p pos apos iS:Pos}{F:aK}{k n:Nat}{ps:List Str}{c:Nat}
def sy (fz:Bool)(n:Nat):Re af->T (Re af)
  | .ok (.dat .non) ao=>if fz then(match jL ao (.mu n)with
      |some (d,M2)=>.ret (.ok (.dat d) (cut n M2))
      |none=>.bad)else .ret (.ok (.mu n) ao)
  | .ok _ _=>.bad
  | .ex c fs ao=>.ret (.ex c fs (cut n ao))
def t6 (fz:Bool)(c:Nat)(F:aK)(fs:aH):CE:=λρ=>(fs ρ).bind λss=>λM=>(F (.mu M.length::ss) (M++[.ins c []])).bind (sy fz M.length)
structure Et (D:f6)(k:Nat)(x:Str)(c np:Nat)(F:aK):Prop where
 ex:∃f fd ps,FnOk D.prog D.w D.K D.mg D.base (L2.CX D.prog D.w) k f fd ps (fM D.K np F)/\Mk D.K (bQ D.K c) f/\D.mg x=some (.ref (bQ D.K c))/\Binds D.K fd ps []
 len:∀{ss M Q},wp (F ss M) Q->ss.length=np
theorem adx {C f:Addr}{fd:FuncData}{sp:Sp}{E:L2.St->XK}{pins:List (Addr×Obj)}{σ:L2.St}{H:Hp}{s:Shared}{Q:VK}{us:List Value}{vs:List V}(M:Mk X.K C f)(F:FnOk X.prog X.w X.K X.mg X.base (L2.CX X.prog X.w) k f fd ps sp)(hr:Room (k+1) X.A)(hb:Binds X.K fd ps [])
    (hx:PassesAt (L2.CX X.prog X.w) X σ (E σ)) (I:Inv X pins σ H s) (r:Vals vs us)
    (h:∀x bx,H x=none->H bx=none->bx≠x->sp (.ref x::vs) (upd (upd H bx (.own x)) x (.ins C bx [])) (λv aO=>v=.non/\Q (.ref x) aO) (E σ)):
    wpAny (model X.prog X.w) X.A (call (.ref C) us) (EP X pins σ Q) X.xe s:=by
  have hq:=h (s.heap.objs.size+1) s.heap.objs.size (I.hok.fresh (Nat.le_succ _)) (I.hok.fresh (Nat.le_refl _)) (Nat.ne_of_lt (Nat.lt_succ_self _));have cJ:=Inv.made (C:=C) I;have r2:Vals (V.ref (s.heap.objs.size+1)::vs) (Value.ref (s.heap.objs.size+1)::us):=.cons rfl r;have hl:(Value.ref (s.heap.objs.size+1)::us).length=ps.length:=by
    have e:=r2.length;rw[F.len _ _ _ _ hq]at e;exact e.symm
  have b:=hb _ (Value.ref (s.heap.objs.size+1)::us) cJ.kIn (by rw[List.append_nil];exact hl);rw[List.append_nil]at b;refine wpAny_call (make_map (f:=f) I.kIn M.makes M.init (beq_iff_eq.mp M.fn) (codeAny_mono (F.run _ X.stack _ _ ⟨Value.ref (s.heap.objs.size+1)::us,[]⟩ (Value.ref (s.heap.objs.size+1)::us) _ _ (E σ) (hr.make C us [])
    (cJ.env0.make C us []) b r2 hq) λr aF uv=>?_))
  cases r with
  |error e=>exact hx pins _ _ e aF cJ uv
  |ok fK=>
    cases fK with
    |ret u=>
      obtain⟨v,H',AO,bL,ev,q3⟩:=cJ.after uv;subst ev;exact⟨bL,⟨V.ref (s.heap.objs.size+1),H',AO,rfl,q3⟩⟩
    |next=>exact False.elim uv
    |brk=>exact False.elim uv
    |cont=>exact False.elim uv
theorem abP {K:Frag}{aa:List Addr}{G H:Hp}{M:List ak}{y bx:Addr}(ms:aE K aa G M H)(hy:H y=none)(hd:H bx=none)(hn:bx≠y):
    aE K (aa++[y]) G (M++[.ins c []]) (upd (upd H bx (.own y)) y (.ins (bQ K c) bx []))/\aG aa G H (aa++[y]) G (upd (upd H bx (.own y)) y (.ins (bQ K c) bx [])):=by
  have nd:bx∉aa:=λz=>ms.dQ bx z hd
  have gd:G bx=none:=by
    cases q:G bx with
    |none=>rfl
    |some u=>rcases ms.le bx u q with z|⟨_,_,z⟩<;>rw[hd]at z<;>cases z
  have m1:aE K aa G M (upd H bx (.own y)):=I_ ms nd gd;have g1:aG aa G H aa G (upd H bx (.own y)):=Hr (aG.refl _ _ _) hd;have Z1:(upd H bx (.own y)) y=none:=by rw[upd_ne (Ne.symm hn)];exact hy
  obtain⟨m2,g2⟩:=m1.RD (m:=.ins c []) (o:=.ins (bQ K c) bx []) Z1 ⟨bx,[],upd_same,.nil⟩;exact⟨m2,g1.trans g2⟩
theorem Th (fz:Bool)(C:Et X.gj k x c n F)(hr:Room (k+1) X.A)(G:dW X x)(tk:Takes X W)(h1:jn X W (e::es) fs)
    (he:starEach (e::es) X.env=(false,eval e X.env)::starEach es X.env:=by rfl) (hpl:(backTo pos (starEach es X.env)).any (·.1)=false:=by rfl):aV X W (.Call (.Name x p) (e::es) [] pos) (t6 fz c F fs):=⟨λρ M aa tw σ H Q ms en h=>by
  obtain⟨f,fd,ps,eg,LV,hm,hb⟩:=C.ex;intro pins s I;have qF:=h1.seq ms en h (Q':=λvs H1=>∃av au M1 ss,aG aa tw H av au H1/\aE X.K av au M1 H1/\bA X.K av au vs ss/\wp ((F (.mu M1.length::ss) (M1++[.ins c []])).bind (sy fz M1.length)) (cV X W (bz X.K) Q σ av au H1)) λav au M1 H1 vs ss g1 m1 r1 aC=>⟨av,au,M1,ss,g1,m1,r1,aC⟩
  refine wpAny_Call_Name_kw (ld_glob I G.gl hm ?_ G.nd);refine PySem.W.callWith_K (h₀:=X.base) I.ok.mod.kin LV.kp (thn (qF pos pins s I) λus s1 ⟨vs,H1,bE,r,av,au,M1,ss,g1,m1,r1,aC⟩=>⟨bE.kIn,?_⟩) he hpl;refine adx LV eg hr hb (passAt tk σ) bE r λy bx hy hd hne=>?_
  obtain⟨m2,g2⟩:=abP (c:=c) m1 hy hd hne;have bN:=wp_bind.mp aC;refine⟨av++[y],au,M1++[.ins c []],.mu M1.length::ss,m2,.cons (z4 (by rw[<-m1.len,List.getElem?_append_right (Nat.le_refl _),Nat.sub_self];rfl)) (r1.grow g2),C.len bN,wp_mono (λcE hr=>?_) bN⟩;cases cE with
  |ex c' G9 bB=>
    intro dO eN ff d bG g3 m3 e3 r3;have hr:PX X W σ av au H1 c' G9 (cut M1.length bB):=hr;rw[show M1.length=av.length from m1.len.symm]at hr;exact lG m1 (g2.trans g3) m3 λpK nA m4 _=>hr pK eN ff d bG nA m4 e3 r3
  |ok s3 bB=>
    intro dO eN ff v g3 m3 r3;unfold sy at hr;split at hr
    · rename_i tF _
      rename_i e4;cases e4
      refine⟨SO r3,?_⟩;have d7:bz X.K dO eN (.ref y) (.mu M1.length):=z4 (g3.get (by rw[<-m1.len,List.getElem?_append_right (Nat.le_refl _),Nat.sub_self];rfl));split at hr
      · split at hr
        · rename_i d rK hf
          obtain⟨rF,zK,yP,nQ⟩:=ug m3 d7 hf;have hr:wp (.ret (.ok (.dat d) (cut M1.length rK)):T (Re af)) (cV X W (bz X.K) Q σ av au H1):=hr;rw[show M1.length=av.length from m1.len.symm]at hr;exact lG m1 ((g2.trans g3).trans yP) zK λUH Yl abD _=>hr UH rF ff (.ref y) Yl abD nQ
        · exact hr.elim
      · exact hr dO eN ff (.ref y) (g2.trans g3) m3 d7
    · exact hr.elim
    · rename_i e4;cases e4⟩
structure VJ (D:f6)(k:Nat)(c:Nat)(f:Str)(F:aK):Prop where
 ex:∃p g fd ps,FnOk D.prog D.w D.K D.mg D.base (L2.CX D.prog D.w) k g fd ps (fM D.K 1 F)/\Cls D.K (bQ D.K c)/\PropOf D.K (bQ D.K c) f p g/\Binds D.K fd ps []
def AY (D:f6)(k:Nat)(f:Str)(t:cH):Prop:=∀c F,t.lookup c=some F->VJ D k c f F
def oG (t:cH)(aJ:CE):CE:=λρ=>(aJ ρ).bind λo=>λM=>match clsAt M o with
 |some c=>match t.lookup c with
  |some F=>fk (F [o]) M
  |none=>.bad
 |none=>.bad
theorem Gn {K:Frag}{aa:List Addr}{G H:Hp}{M:List ak}{v:V}{s:af}{c:Nat}(ms:aE K aa G M H)(r:bz K aa G v s)(h:clsAt M s=some c):∃a bx bG,v=.ref a/\H a=some (.ins (bQ K c) bx bG):=by
 cases s with
 |dat d=>
  cases d with
  |ins c' fs=>
   cases h
   cases r with
   |ins ha hf=>exact⟨_,_,_,rfl,ms.le.ins ha⟩
  |_=>cases h
 |mu j=>
  unfold clsAt at h
  dsimp only at h
  split at h
  ·rename_i c' fs hj
   cases h
   obtain⟨a,e1,rfl⟩:=r;obtain⟨bx,bG,e2,e3⟩:=(ms.mo j a _ e1 hj).2;exact⟨a,bx,bG,rfl,e2⟩
  ·rename_i c' fs hj
   cases h
   obtain⟨a,e1,rfl⟩:=r;have r2:=(ms.mo j a _ e1 hj).2.2 _ rfl;cases r2 with
   |ins hx Cq=>exact⟨_,_,_,rfl,ms.le.ins hx⟩
  ·cases h
 |_=>cases h
theorem RS {σ:L2.St}{aa:List Addr}{G H:Hp}{Q:VK}{m:Ev af}{M:List ak}(h:wp (fk m M) (cV X W (bz X.K) Q σ aa G H)):wp (m M) (jW X.K Q (λ_ _ _=>False) aa G H):=wp_mono (λr hr=>by
 obtain⟨a,ao,rfl,q⟩:=hr;exact q) (xP h)
theorem xq {f:Str}{t:cH}(P:AY X.gj k f t)(hr:Room (k+1) X.A)(h1:aV X W e aJ)(hab:attributeBase e f X.env (eval e X.env)=eval e X.env:=by rfl):aV X W (.Attribute e f pos) (oG t aJ):=⟨λρ M aa G σ H Q ms en h=>by
 intro pins s I;have hw:wE X e σ H λv H1=>∃av au M1 s1,aG aa G H av au H1/\aE X.K av au M1 H1/\bz X.K av au v s1/\∃c F,clsAt M1 s1=some c/\t.lookup c=some F/\wp (fk (F [s1]) M1) (cV X W (bz X.K) Q σ av au H1):=
  h1.seq ms en h λav au M1 H1 v s1 g1 m1 r1 aC=>by
   cases hc:clsAt M1 s1 with
   |none=>simp only[hc]at aC;exact aC.elim
   |some c=>
    cases hF:t.lookup c with
    |none=>simp only[hc,hF]at aC;exact aC.elim
    |some F=>simp only[hc,hF]at aC;exact⟨av,au,M1,s1,g1,m1,r1,c,F,hc,hF,aC⟩
 refine attr_of hab (thn (hw pins s I) λu s1 ⟨v,H1,bE,cU,av,au,M1,sl,g1,m1,r1,c,F,hc,hF,aC⟩=>?_);obtain⟨a,bx,bG,rfl,ea⟩:=Gn m1 r1 hc;obtain rfl:u=Value.ref a:=cU;obtain⟨pp,g,fd,ps,eg,cl,hp,hb⟩:=(P c F hF).ex;exact getprop_ok (E:=λ_ _ _=>False) bE ea cl hp eg hr hb .nil passL ⟨av,au,M1,[sl],m1,.cons r1 .nil,rfl,RS aC⟩⟩
def putS (f:Str)(v:af):List (Str×af)->List (Str×af)
 |[]=>[(f,v)]
 |(g,x)::r=>if g=f then(g,v)::r else(g,x)::putS f v r
theorem gp.put {K:Frag}{aa:List Addr}{G:Hp}{f:Str}{v:V}{s:af}(h:bz K aa G v s):∀{bG:List (Str×V)} {fs:List (Str×af)},gp K aa G bG fs->gp K aa G (putF f v bG) (putS f s fs)
 |_,_,.nil=>.cons ⟨rfl,h⟩ .nil
 |(g,x)::bG,(dR,y)::fs,.cons ⟨e,r⟩ t=>by
  have e:g=dR:=e;subst e;unfold putF putS;by_cases q:g=f
  ·rw[if_pos q,if_pos q];exact .cons ⟨rfl,h⟩ t
  ·rw[if_neg q,if_neg q];exact .cons ⟨rfl,r⟩ (gp.put h t)
def sQ (f:Str)(cs:List Nat)(M:List ak)(v o:af):Option (List ak):=match o with
 | .mu j=>match M[j]? with
  |some (.ins c fs)=>if cs.contains c&&decide (fs.length<1000)then some (M.set j (.ins c (putS f v fs)))else none
  |_=>none
 |_=>none
def sFld (f:Str)(cs:List Nat)(kO lJ:CE):aQ:=λρ=>(kO ρ).bind λv=>(lJ ρ).bind λo=>ofM λM=>(sQ f cs M v o).map λao=>(.nx ρ,ao)
theorem xy {f:Str}{cs:List Nat}(hf:∀c∈cs,rD X.K (bQ X.K c) f)(h1:aV X W e kO)(h2:aV X W o aJ)(hs:swapsWith e (some (.Attribute o f iS)) pos.line X.env=pure false:=by rfl):iI X W (.Assign [.Attribute o f iS] e pos) (sFld f cs kO aJ):=⟨λρ M aa G σ H D ms en h=>
 toS (ps_fld cS cS hs) (h1.m5 ms en h λav au M1 H1 v s g1 m1 r1 aC=>h2.m5 m1 (en.grow g1) aC λaM aU M2 aO v2 s2 g2 m2 r2 bN=>by
  obtain⟨t,ao,e1,q⟩:=iF.mp bN;cases ez:sQ f cs M2 s s2 with
  |none=>rw[ez]at e1;cases e1
  |some bB=>
   rw[ez]at e1;cases e1;unfold sQ at ez;split at ez
   ·rename_i j
    split at ez
    ·rename_i c fs hj
     split at ez
     ·rename_i hc
      rw[Bool.and_eq_true,decide_eq_true_eq]at hc;cases ez
      have pL:=hf c (by simpa using hc.1);obtain⟨a,e3,rfl⟩:=r2;obtain⟨bx,bG,e4,iz⟩:=(m2.mo j a _ e3 hj).2;have gw:aG aM aU aO aM aU (upd aO a (.ins (bQ X.K c) bx (putF f v bG))):=aG.write (List.mem_of_getElem? e3) (by rw[e4];simp);exact⟨a,_,bx,bG,rfl,e4,pL.cls,pL.no,by rw[show bG.length=fs.length from Paired.length iz];exact hc.2,q _ _ _ _ gw (m2.write (m':=.ins c (putS f s fs)) e3 hj trivial ⟨bx,_,upd_same,gp.put (r1.grow g2) iz⟩) (en.grow ((g1.trans g2).trans gw))⟩
     ·cases ez
    ·cases ez
   ·cases ez)⟩
end
def bW (g:List af->Ev af)(fs:aH):CE:=λρ=>(fs ρ).bind λss=>fk (g ss)
def qp (X:Cx)(r:List V->Hp->VK->Prop)(g:List af->Ev af):Prop:=
 ∀ss M aa G H vs Q,aE X.K aa G M H->bA X.K aa G vs ss->wp (g ss M) (jW X.K Q (λ_ _ _=>False) aa G H)->r vs H Q
section
variable{X:Cx}{W:WX}{e o a b:Expr}{es:List Expr}{aJ bS kO:CE}{fs:aH}{x m:Str}{p cI pos apos iS jA:Pos}{F:aK}{k n:Nat}{ps:List Str}{c:Nat}{Bh:String}
theorem Tj {r:List V->Hp->VK->Prop}{g}{e:Expr}{es:List Expr}(uP:PE X e (tCB r (u5 X es)))(h1:jn X W es fs)(hv:qp X r g):aV X W e (bW g fs):=⟨λρ M aa G σ H Q ms en h=>
 toE uP (h1.seq ms en h λav au M1 H1 v1 x g1 m1 r1 aC=>hv x M1 av au H1 v1 Q m1 r1 (RS aC))⟩
theorem jx {g}(G:dW X x)(hm:X.mg x=none)(hb:bootBuiltins x=some (.builtin Bh))(hn:x≠"__name__")(hv:qp X (rj X (.builtin Bh)) g)(h1:jn X W (e::es) fs)
    (he:starEach (e::es) X.env=(false,eval e X.env)::starEach es X.env:=by rfl) (hpl:(backTo pos (starEach es X.env)).any (·.1)=false:=by rfl):aV X W (.Call (.Name x p) (e::es) [] pos) (bW g fs):=
  Tj (pe_callB Nn G.gl hm hb uN hn G.nd he hpl) h1 hv
theorem q7 {g}(G:dW X x)(hm:X.mg x=none)(hb:bootBuiltins x=some (.type Bh))(hn:x≠"__name__")(hv:qp X (rj X (.type Bh)) g)(h1:jn X W (e::es) fs)
    (he:starEach (e::es) X.env=(false,eval e X.env)::starEach es X.env:=by rfl) (hpl:(backTo pos (starEach es X.env)).any (·.1)=false:=by rfl):aV X W (.Call (.Name x p) (e::es) [] pos) (bW g fs):=
  Tj (pe_callTy Nn G.gl hm hb uN hn G.nd he hpl) h1 hv
structure UN (D:f6)(k:Nat)(c:Nat)(m:Str)(np:Nat)(F:aK):Prop where
 ex:∃f fd ps,FnOk D.prog D.w D.K D.mg D.base (L2.CX D.prog D.w) k f fd ps (fM D.K np F)/\PySem.W.findIn D.K (.ref (bQ D.K c)) m=some (some (.ref f))/\PySem.W.isFn D.K (.ref f)=true/\Binds D.K fd ps []
 len:∀{ss M Q},wp (F ss M) Q->ss.length=np
def Lw (D:f6)(k:Nat)(m:Str)(np:Nat)(t:cH):Prop:=∀c F,t.lookup c=some F->UN D k c m np F
theorem call_in {f:Addr}{fd:FuncData}{sp:Sp}{pins:List (Addr×Obj)}{σ:L2.St}{H:Hp}{s:Shared}{Q:VK}{us:List Value}{vs:List V}{A1:Around}(F:FnOk X.prog X.w X.K X.mg X.base (L2.CX X.prog X.w) k f fd ps sp)(hr:Room k A1)(hf:A1.frames=X.A.frames)(hb:Binds X.K fd ps [])
    (I:Inv X pins σ H s) (r:Vals vs us) (h:sp vs H Q (λ_ _ _=>False)):wpAny (model X.prog X.w) A1 (call (.ref f) us) (EP X pins σ Q) X.xe s:=by
  have e0:Env0 X.prog X.w X.K X.mg X.base A1 X.stack s H:=by
    have e:=I.env0;exact⟨by rw[hf];exact e.frames,e.mod,e.bs,e.bsz,e.funs,e.frf,e.hok,e.bare⟩
  have hl:us.length=ps.length:=by rw[<-r.length];exact F.len _ _ _ _ h
  refine wpAny_call (codeAny_mono (F.run A1 X.stack s H ⟨us,[]⟩ us vs Q _ hr e0 (by
    have:=hb s us I.kIn (by simpa using hl);simpa using this) r h) λr aF hq=>?_)
  cases r with
  |error e=>exact passL pins σ H s e aF I hq
  |ok fK=>
    cases fK with
    |ret w=>exact I.after hq
    |next=>exact False.elim hq
    |brk=>exact False.elim hq
    |cont=>exact False.elim hq
def pu (g:List ak->List af->Option (af×List ak)):List af->Ev af:=λss=>ofM λM=>g M ss
theorem DV {r:List V->Hp->VK->Prop}{g}(h:EH X r g):qp X r (pu g):=λss M aa G H vs Q ms r w=>by
 obtain⟨s,ao,e,q⟩:=iF.mp w;exact h ss M s ao aa G H vs Q e ms r q
theorem DS {f:Value}{r:List V->Hp->VK->Prop}{g}(hc:CallR X f r)(h:EH X r g):EH X (rj X f) g:=λss M s ao aa G H vs Q e ms cE q=>⟨r,hc,h ss M s ao aa G H vs Q e ms cE q⟩
def Gf:Re af->T (Re af)
 | .ok (.dat (.int i)) M=>if 0<=i/\i<2^63 then .ret (.ok (.dat (.int i)) M)else .bad
 |_=>.bad
def eH (t:cH):List af->Ev af
 |[s]=>λM=>match lenOf M s with
  |some n=>if n<=sizeLine then .ret (.ok (.dat (.int (n:Nat))) M)else .bad
  |none=>match clsAt M s with
   |some c=>match t.lookup c with
    |some F=>(F [s] M).bind Gf
    |none=>.bad
   |none=>.bad
 |_=>bad
theorem mP {t:cH}(hr:Room (k+1) X.A)(T:Lw X.gj k "__len__" 1 t):qp X (rj X (.builtin "len")) (eH t):=λss M aa G H vs Q ms r w=>by
 cases r with
 |nil=>exact(show False from w).elim
 |cons r cE=>
  cases cE with
  |cons _ _=>exact(show False from w).elim
  |nil=>
   rename_i v s;unfold eH at w
   dsimp only at w
   split at w
   ·rename_i n hn
    split at w
    ·rename_i hz
     exact⟨_,call_len,v,n,rfl,aaW ms r hn hz,w _ _ _ _ (aG.refl _ _ _) ms mW⟩
    ·exact w.elim
   ·split at w
    ·rename_i c hc
     split at w
     ·rename_i F hF
      obtain⟨f,fd,ps,eg,Zg,ze,hb⟩:=(T c F hF).ex;obtain⟨a,bx,bG,rfl,ea⟩:=Gn ms r hc;refine⟨λxs H Q=>∃a bx fs,xs=[.ref a]/\H a=some (.ins (bQ X.K c) bx fs)/\fM X.K 1 F [.ref a] H (λv H'=>∃n:Int,v=.int n/\0<=n/\n<2^63/\Q (.int n) H') (λ_ _ _=>False),?_,a,bx,bG,rfl,ea,aa,G,M,[s],ms,.cons r .nil,rfl,?_⟩
      ·intro pins s σ H xs us Q I r h
       obtain⟨a,bx,fs,rfl,ea,wm⟩:=h;cases r with
       |cons r0 r1=>
        cases r1
        cases r0
        obtain⟨mA,J,_⟩:=ins_get I.hok ea;obtain⟨od,J,_⟩:=J.look;obtain⟨m,hF⟩:=I.fr;refine PySem.W.len_K hF I.ok.mod.kin J Zg ze (wpAny_mono (call_in (A1:=X.A.in1) (vs:=[.ref a]) eg (Room.in1 hr) rfl hb I (.cons rfl .nil) wm) (λv aF z=>?_) λ_ _ x=>x);obtain⟨w,H',eV,adC,n,BV,h0,h1,hq⟩:=z;subst BV;obtain⟨t,rfl⟩:=adC;exact⟨⟨h0,h1⟩,⟨.int n,H',eV.tok _,⟨_,rfl⟩,hq⟩⟩
      ·refine wp_mono (λr hr=>?_) (wp_bind.mp w)
       unfold Gf at hr;split at hr
       ·split at hr
        ·rename_i i M2 hi
         intro aj ai H' v g m fU;exact⟨i,iT fU,hi.1,hi.2,hr _ _ _ _ g m mW⟩
        ·exact hr.elim
       ·exact hr.elim
     ·exact w.elim
    ·exact w.elim
def gb (M:List ak):List af->Option (af×List ak)
 |[.dat (.int i)]=>some (.dat (.int i),M)
 |[.dat (.bl b)]=>some (.dat (.int (if b then 1 else 0)),M)
 |_=>none
theorem int_ok:qp X (rj X (.type "int")) (pu gb):=DV (DS call_int1 λss M s ao aa G H vs Q e ms r q=>by
 unfold gb at e;split at e
 ·cases e
  cases r with
  |cons r cE=>cases cE;exact .inl ⟨_,by rw[iT r],q _ _ _ _ (aG.refl _ _ _) ms mW⟩
 ·cases e
  cases r with
  |cons r cE=>cases cE;exact .inr ⟨_,by rw[pe r],q _ _ _ _ (aG.refl _ _ _) ms mW⟩
 ·cases e)
def uG (m:Bool)(M:List ak):List af->Option (af×List ak)
 |[s]=>(lU M s).map λds=>eX m M ds
 |_=>none
theorem Q8 (uJ:Bool):qp X (rj X (.type "list")) (pu (uG uJ)):=DV (DS call_list_of λss M s ao aa G H vs Q e ms r q=>by
 unfold uG at e;split at e
 ·rename_i t
  cases hd:lU M t with
  |none=>rw[hd]at e;cases e
  |some ds=>
   rw[hd]at e;have e:eX uJ M ds=(s,ao):=Option.some.inj e;cases r with
   |cons r cE=>
    cases cE
    obtain⟨p,vs,e2,e3,e4⟩:=o6 ms r (sr hd);refine⟨p,vs,by rw[e2],.inl (SqL.of e3),λl hl=>?_⟩;exact RE (m:=uJ) ms (bA.toRps e4) (by rw[e];exact q) hl
 ·cases e)
def qu:List D->Option (List Bool)
 |[]=>some []
 | .bl b::r=>(qu r).map (b::·)
 |_::_=>none
theorem MZ:∀{ds:List D} {bs:List Bool},qu ds=some bs->ds=bs.map .bl
 |[],_,h=>by cases h;rfl
 | .bl d::r,_,h=>by
  unfold qu at h;cases e:qu r with
  |none=>rw[e]at h;cases h
  |some es=>rw[e]at h;cases h;rw[MZ e];rfl
 | .non::_,_,h=>by cases h
 | .int _::_,_,h=>by cases h
 | .str _::_,_,h=>by cases h
 | .lst _::_,_,h=>by cases h
 | .tup _::_,_,h=>by cases h
 | .dK _::_,_,h=>by cases h
 | .dT _::_,_,h=>by cases h
 | .ins _ _::_,_,h=>by cases h
 | .d9 _::_,_,h=>by cases h
 | .exc _ _::_,_,h=>by cases h
 | .cL _ _::_,_,h=>by cases h
 | .lam _::_,_,h=>by cases h
@[simp]theorem M3:∀bs:List Bool,qu (bs.map .bl)=some bs
 |[]=>rfl
 |b::r=>by rw[List.map_cons,qu,M3 r];rfl
def qt (al:Bool)(M:List ak):List af->Option (af×List ak)
 |[s]=>match lU M s with
  |some ds=>(qu ds).map λbs=>(.dat (.bl (if al then bs.all id else bs.any id)),M)
  |none=>none
 |_=>none
theorem A8 (hc:X.calm=true):qp X (rj X (.builtin "all")) (pu (qt true)):=DV (DS (cr_all hc) λss M s ao aa G H vs Q e ms r q=>by
 unfold qt at e;split at e
 ·rename_i t
  split at e
  ·rename_i ds hd
   cases hb:qu ds with
   |none=>rw[hb]at e;cases e
   |some bs=>
    rw[hb]at e;cases e;cases r with
    |cons r cE=>
     cases cE
     obtain⟨p,vs,e1,e2,e3⟩:=o6 ms r (sr hd);rw[MZ hb]at e3;refine⟨p,bs,by rw[e1],?_,q _ _ _ _ (aG.refl _ _ _) ms qX⟩;rw[<-SS (bA.toRps e3)];exact SqL.of e2
  ·cases e
 ·cases e)
def strsOf:List D->Option (List Str)
 |[]=>some []
 | .str b::r=>(strsOf r).map (b::·)
 |_::_=>none
theorem KO:∀{ds:List D} {bs:List Str},strsOf ds=some bs->ds=bs.map .str
 |[],_,h=>by cases h;rfl
 | .str d::r,_,h=>by
  unfold strsOf at h;cases e:strsOf r with
  |none=>rw[e]at h;cases h
  |some es=>rw[e]at h;cases h;rw[KO e];rfl
 | .non::_,_,h=>by cases h
 | .int _::_,_,h=>by cases h
 | .bl _::_,_,h=>by cases h
 | .lst _::_,_,h=>by cases h
 | .tup _::_,_,h=>by cases h
 | .dK _::_,_,h=>by cases h
 | .dT _::_,_,h=>by cases h
 | .ins _ _::_,_,h=>by cases h
 | .d9 _::_,_,h=>by cases h
 | .exc _ _::_,_,h=>by cases h
 | .cL _ _::_,_,h=>by cases h
 | .lam _::_,_,h=>by cases h
def Io (u:Str)(M:List ak)(s:af):Option (af×List ak):=match lU M s with
 |some ds=>match strsOf ds with
  |some aA=>if(aA.map (·.length)).sum+aA.length*u.length<=16777216 then some (.dat (.str (Txt.join u aA)),M)else none
  |none=>none
 |none=>none
def NV (aJ bS:CE):CE:=λρ=>(aJ ρ).bind λx=>(A9 x).bind λu=>(bS ρ).bind λy=>ofM λM=>Io u M y
theorem aeX (h0:aV X W o aJ)(h1:aV X W e bS)(yY:attributeBase o "join" X.env (eval o X.env)=eval o X.env:=by rfl)
    (zd:((backTo pos (starEach [e] X.env)).all (λx=>!x.1)&&(backToKw pos (keywordEach [] X.env)).all (λx=>x.1.isSome)
      &&decide (([e]:List Expr).length+([]:List Keyword).length+(if([]:List Keyword).isEmpty then 0 else 1)<30))=true:=by rfl)
    (zk:(apos.endLine==pos.line)=true:=by rfl) (hs:starEach [e] X.env=[(false,eval e X.env)]:=by rfl):aV X W (.Call (.Attribute o "join" apos) [e] [] pos) (NV aJ bS):=⟨λρ M aa G σ H Q ms en h=>
  toE (pe_bm PySem.F.plainAttrs_str PySem.F.slot_str_join PySem.F.type_str_join mt_join cS (pa_cons cS pa_nil hs) yY zd zk hs rfl) (h0.seq ms en h λav au M1 H1 v1 s1 g1 m1 r1 aC=>by
    obtain⟨u,rfl,bN⟩:=Uo (cz.mp aC);have bN:wp (Ev.bind (bS ρ) (λy=>ofM λM=>Io u M y) M1) (cV X W (bz X.K) Q σ av au H1):=bN;refine⟨by rw[pq r1];rfl,h1.seq m1 (en.grow g1) bN λaM aU M2 aO v2 s2 g2 m2 r2 ly=>?_⟩;obtain⟨t,ao,e1,q⟩:=iF.mp ly;unfold Io at e1;split at e1
    · rename_i ds hd
      split at e1
      · rename_i aA hy
        split at e1
        · rename_i hz
          cases e1
          obtain⟨p,vs,e1,e2,e3⟩:=o6 m2 r2 (sr hd);rw[KO hy]at e3;refine⟨u,p,aA,pq r1,by rw[e1],.inl ?_,hz,q _ _ _ _ (aG.refl _ _ _) m2 qY⟩;rw[<-JY (bA.toRps e3)];exact SqL.of e2
        · cases e1
      · cases e1
    · cases e1)⟩
def qR (s:af)(M:List ak):Option (Nat×List af):=match s with
 | .mu j=>match M[j]? with
  |some (.lst xs)=>some (j,xs)
  |_=>none
 |_=>none
theorem abT {K:Frag}{aa:List Addr}{G H:Hp}{M:List ak}{v:V}{s:af}{j:Nat}{xs:List af}(h:qR s M=some (j,xs))(ms:aE K aa G M H)(r:bz K aa G v s):s=.mu j/\M[j]?=some (.lst xs)/\∃a vs,aa[j]?=some a/\v=.ref a/\H a=some (.lst vs)/\bA K aa G vs xs:=by
 unfold qR at h;split at h
 ·split at h
  ·rename_i hm
   cases h
   obtain⟨a,e1,e2⟩:=r;obtain⟨vs,e3,e4⟩:=(ms.mo _ a _ e1 hm).2;exact⟨rfl,hm,a,vs,e1,e2,e3,e4⟩
  ·cases h
 ·cases h
end
def T_:D->String
 | .non=>"NoneType"
 | .bl _=>"bool"
 | .int _=>"int"
 | .str _=>"str"
 | .lst _=>"list"
 | .tup _=>"tuple"
 | .dK _=>"dict"
 | .dT _=>"dict"
 | .ins _ _=>""
 | .d9 _=>"list"
 | .exc _ _=>""
 | .cL _ _=>""
 | .lam _=>""
def RQ:D->Bool
 | .ins _ _=>false
 | .dT _=>false
 | .exc _ _=>false
 | .cL _ _=>false
 | .lam _=>false
 |_=>true
theorem agd {K:Frag}{G H:Hp}{v:V}{d:D}(le:dM G H)(r:bK K G v d)(h:RQ d=true):TyX K H v (.type (T_ d)):=by
 cases r with
 |non=>exact .base .non
 |bl b=>exact .base (.bl b)
 |int i=>exact .base (.int i)
 |str x=>exact .base (.str x)
 |lst hq _=>exact .base (.lst (le.lst hq))
 |d9 hq=>
  rcases le.l hq with(z|⟨o,z⟩)|⟨o,its,n,z,d_,_⟩
  ·exact .base (.lst z)
  ·exact .base (.frz z)
  ·exact .kList z d_
 |tup hq _=>
  rcases le.t (show SqT _ _ _ _ from .inl (.inl hq))with(z|⟨o,z⟩)|⟨o,its,n,z,d_,_⟩
  ·exact .base (.tup z)
  ·exact .fTuple z
  ·exact .kTuple z d_
 |dK hq _=>
  rcases le.rd hq with z|⟨o,z⟩
  ·exact .base (.dK z)
  ·exact .fDict z
 |dT _ _=>cases h
 |ins _ _=>cases h
 |exc _ _ _ _=>cases h
 |cL _ _ _=>cases h
 |lam _=>cases h
def Nt:List String->List V->Prop
 |[],[]=>True
 |n::ns,v::vs=>v=.ty n/\Nt ns vs
 |_,_=>False
theorem Nu:∀{ns:List String} {vs:List V},Nt ns vs->Paired ClsV vs (ns.map Value.type)
 |[],[],_=>.nil
 |n::ns,v::vs,⟨e,r⟩=>by subst e;exact .cons (.ty n) (Nu r)
 |[],_::_,h=>h.elim
 |_::_,[],h=>h.elim
def sj (a:String):List String->Option Bool
 |[]=>some false
 |n::ns=>match kitB a n with
  |some true=>some true
  |some false=>sj a ns
  |none=>none
theorem Qw {K:Frag}{a:String}:∀{ns:List String} {r:Bool},sj a ns=some r->PySem.W.kitAny K (.type a) (ns.map Value.type)=some r
 |[],r,h=>by cases h;exact kitAny_nil
 |n::ns,r,h=>by
  unfold sj at h;split at h
  ·rename_i hk
   cases h
   exact kitAny_cons (kit_ty hk) (λz=>by cases z) λ_=>rfl
  ·rename_i hk
   exact kitAny_cons (kit_ty hk) (λ_=>Qw h) λz=>by cases z
  ·cases h
inductive Ty:Type where
 |bi (n:String)
 |own (c:Nat)
def DL (M:List ak)(s:af):Option Ty:=match clsAt M s with
 |some c=>some (.own c)
 |none=>match s with
  | .dat d=>if RQ d then some (.bi (T_ d))else none
  | .mu j=>match M[j]? with
   |some (.lst _)=>some (.bi "list")
   |some (.dT _)=>some (.bi "dict")
   |_=>none
  |_=>none
structure AQ (K:Frag)(C:Addr):Prop where
 cl:Cls K C
 ha:PySem.W.findIn K (.ref C) "__class__"=some (some (.builtin "object.__class__"))
 hn:PySem.W.specialIn K (.builtin "object.__class__") "__get__"=some (some (.builtin "getset_descriptor.__get__"))
 htk:PySem.W.takesIn K (.builtin "object.__class__")=some true
 hm:PySem.W.mroIn K C (.type "object")=some true
def Ty.val (K:Frag):Ty->Value
 | .bi n=>.type n
 | .own c=>.ref (bQ K c)
theorem DM {K:Frag}{aa:List Addr}{G H:Hp}{M:List ak}{v:V}{s:af}{t:Ty}(ms:aE K aa G M H)(r:bz K aa G v s)(h:DL M s=some t)(hI:∀c,t=.own c->AQ K (bQ K c)):TyX K H v (t.val K):=by
 unfold DL at h;split at h
 ·rename_i c hc
  cases h
  obtain⟨a,bx,bG,rfl,ea⟩:=Gn ms r hc;have I:=hI c rfl;exact .base (.ins ea I.cl I.ha I.hn I.htk I.hm)
 ·split at h
  ·split at h
   ·rename_i hn;cases h;exact agd ms.le r hn
   ·cases h
  ·split at h
   ·rename_i hj
    cases h
    obtain⟨a,e1,rfl⟩:=r;obtain⟨vs,e2,_⟩:=(ms.mo _ a _ e1 hj).2;exact .base (.lst e2)
   ·rename_i hj
    cases h
    obtain⟨a,e1,rfl⟩:=r;obtain⟨vs,e2,_⟩:=(ms.mo _ a _ e1 hj).2;exact .base (.dT e2)
   ·cases h
  ·cases h
section
variable{X:Cx}{W:WX}{e o a b:Expr}{es:List Expr}{aJ bS kO:CE}{fs:aH}{cg:dB}{x m n1 n2:Str}{p cI fS pos apos iS jA:Pos}{F:aK}{k n:Nat}{ps:List Str}{c:Nat}
def e7 (ns:List String)(M:List ak)(s:af):Option (af×List ak):=match DL M s with
 |some (.bi t)=>(sj t ns).map λb=>(.dat (.bl b),M)
 |_=>none
theorem l7 {ns:String}(G:dW X "isinstance")(hm:X.mg "isinstance"=none)(au:dW X n1)(zm:X.mg n1=none)(hv:bootBuiltins n1=some (.type ns))(hn:n1≠"__name__")(h1:aV X W a aJ)
    (he:starEach [a,.Name n1 cI] X.env=[(false,eval a X.env),(false,eval (.Name n1 cI) X.env)]:=by rfl) (jN:starEach [.Name n1 cI] X.env=[(false,eval (.Name n1 cI) X.env)]:=by rfl):aV X W (.Call (.Name "isinstance" p) [a,.Name n1 cI] [] pos) (cM (e7 [ns]) aJ):=⟨λρ M aa tw σ H Q ms en h=>
  toE (pe_callB call_isi G.gl hm (by decide+kernel) (pa_cons cS (pa_cons (pe_bltn (v:=.ty ns) au.gl zm hv rfl hn au.nd) pa_nil jN) (by rw[he,jN])) (he:=by rw[he,jN]) (hpl:=by rw[jN];rfl)) (h1.seq ms en h λav LK M1 H1 v s g1 m1 r1 aC=>by
    obtain⟨t,ao,e1,q⟩:=iF.mp aC;unfold e7 at e1;split at e1
    · rename_i ty uw
      cases hk:sj ty [ns]with
      |none=>rw[hk]at e1;cases e1
      |some b=>
        rw[hk]at e1;cases e1;refine⟨v,.ty ns,_,_,b,rfl,.ty ns,DM m1 r1 uw (λc z=>by cases z),?_,q _ _ _ _ (aG.refl _ _ _) m1 qX⟩;unfold sj at hk;split at hk
        · rename_i hb;cases hk;exact kit_ty hb
        · rename_i hb;unfold sj at hk;cases hk;exact kit_ty hb
        · cases hk
    · cases e1)⟩
theorem aeW {uK uL:String}{k3:Nat}(G:dW X "isinstance")(hm:X.mg "isinstance"=none)(au:dW X n1)(zm:X.mg n1=none)(hv1:bootBuiltins n1=some (.type uK))(hn1:n1≠"__name__")(aU:dW X n2)(hm2:X.mg n2=none)(cO:bootBuiltins n2=some (.type uL))(oS:n2≠"__name__")(h1:aV X W a aJ)
    (he:starEach [a,.Tuple [.Name n1 cI,.Name n2 fS] k3 jA] X.env=[(false,eval a X.env),(false,eval (.Tuple [.Name n1 cI,.Name n2 fS] k3 jA) X.env)]:=by rfl) (jN:starEach [.Tuple [.Name n1 cI,.Name n2 fS] k3 jA] X.env=[(false,eval (.Tuple [.Name n1 cI,.Name n2 fS] k3 jA) X.env)]:=by rfl)
    (Zd:starEach [.Name n1 cI,.Name n2 fS] X.env=[(false,eval (.Name n1 cI) X.env),(false,eval (.Name n2 fS) X.env)]:=by rfl) (zb:starEach [.Name n2 fS] X.env=[(false,eval (.Name n2 fS) X.env)]:=by rfl):aV X W (.Call (.Name "isinstance" p) [a,.Tuple [.Name n1 cI,.Name n2 fS] k3 jA] [] pos) (cM (e7 [uK,uL]) aJ):=⟨λρ M aa tw σ H Q ms en h=>
  toE (pe_callB call_isiT G.gl hm (by decide+kernel) (pa_cons cS (pa_cons (pe_tup (pa_cons (pe_bltn (v:=.ty uK) au.gl zm hv1 rfl hn1 au.nd) (pa_cons (pe_bltn (v:=.ty uL) aU.gl hm2 cO rfl oS aU.nd) pa_nil zb) (by rw[Zd,zb]))) pa_nil jN) (by rw[he,jN])) (he:=by rw[he,jN]) (hpl:=by rw[jN];rfl)) (h1.seq ms en h λav LK M1 H1 v s g1 m1 r1 aC=>by
    obtain⟨t,ao,e1,q⟩:=iF.mp aC;unfold e7 at e1;split at e1
    · rename_i ty uw
      cases hk:sj ty [uK,uL]with
      |none=>rw[hk]at e1;cases e1
      |some b=>
        rw[hk]at e1;cases e1;refine⟨by show 2<=sizeLine;decide,λtp ht=>?_⟩;have pu:=Pure.new (o:=.tup [.ty uK,.ty uL]) m1.le ht;have ad5:=bz.grow (pu.grow (aa:=av)) r1;have m4:=m1.pure pu;exact⟨v,tp,[.ty uK,.ty uL],_,_,b,rfl,upd_same,Nu (ns:=[uK,uL]) ⟨rfl,rfl,trivial⟩,DM m4 ad5 uw (λc z=>by cases z),Qw hk,q _ _ _ _ pu.grow m4 qX⟩
    · cases e1)⟩
def CD (c:Nat)(cs:List Nat)(M:List ak)(s:af):Option (af×List ak):=match DL M s with
 |some (.bi t)=>if DN.contains t then some (.dat (.bl false),M)else none
 |some (.own c')=>if cs.contains c' then some (.dat (.bl (c'==c)),M)else none
 |none=>none
structure Ek (D:f6)(x:Str)(c:Nat)(cs:List Nat):Prop where
 mg:D.mg x=some (.ref (bQ D.K c))
 bi:∀t∈DN,PySem.W.kitOne D.K (.type t) (.ref (bQ D.K c))=some false
 acF:∀c'∈cs,AQ D.K (bQ D.K c')/\PySem.W.kitOne D.K (.ref (bQ D.K c')) (.ref (bQ D.K c))=some (c'==c)
theorem Tg {cs:List Nat}(G:dW X "isinstance")(hm:X.mg "isinstance"=none)(au:dW X x)(F:Ek X.gj x c cs)(h1:aV X W a aJ)
    (he:starEach [a,.Name x cI] X.env=[(false,eval a X.env),(false,eval (.Name x cI) X.env)]:=by rfl) (jN:starEach [.Name x cI] X.env=[(false,eval (.Name x cI) X.env)]:=by rfl):aV X W (.Call (.Name "isinstance" p) [a,.Name x cI] [] pos) (cM (CD c cs) aJ):=⟨λρ M aa tw σ H Q ms en h=>
  toE (pe_callB call_isi G.gl hm (by decide+kernel) (pa_cons cS (pa_cons (pe_glob (v:=.ref (bQ X.K c)) au.gl F.mg rfl au.nd) pa_nil jN) (by rw[he,jN])) (he:=by rw[he,jN]) (hpl:=by rw[jN];rfl)) (h1.seq ms en h λav LK M1 H1 v s g1 m1 r1 aC=>by
    obtain⟨t,ao,e1,q⟩:=iF.mp aC;unfold CD at e1;split at e1
    · rename_i ty uw
      split at e1
      · rename_i hc
        cases e1
        exact⟨v,.ref (bQ X.K c),_,_,false,rfl,.own _,DM m1 r1 uw (λc z=>by cases z),F.bi _ (by simpa using hc),q _ _ _ _ (aG.refl _ _ _) m1 qX⟩
      · cases e1
    · rename_i c' uw
      split at e1
      · rename_i hc
        cases e1
        obtain⟨o1,lX⟩:=F.acF c' (by simpa using hc);exact⟨v,.ref (bQ X.K c),_,_,c'==c,rfl,.own _,DM m1 r1 uw (λc z=>by cases z;exact o1),lX,q _ _ _ _ (aG.refl _ _ _) m1 qX⟩
      · cases e1
    · cases e1)⟩
theorem xo {l_:List Stmt}{f:aQ}(vs:List Nat)(h1:SB X W l_ f):SB X W l_ (pA vs f):=⟨λρ M aa G σ H D ms en h=>
 h1.run ρ M aa G σ H D ms en (wp_mono (λr hr=>by
  cases r with
  |ex c fs M1=>exact hr
  |ok a M1=>
   cases a with
   |nx aT=>exactλav au H1 nY g1 m1 e1=>hr av au H1 nY g1 m1 (e1.le (g5.wipe aT vs))
   |rt s=>exact hr
   |bk aT=>exactλav au H1 nY g1 m1 e1=>hr av au H1 nY g1 m1 (e1.le (g5.wipe aT vs))
   |ct aT=>exactλav au H1 nY g1 m1 e1=>hr av au H1 nY g1 m1 (e1.le (g5.wipe aT vs))) (cz.mp h))⟩
theorem z_ {i:Int}(G:dW X x)(hm:∃t,X.mg x=some (.int i t)):aV X W (.Name x pos) λ_=>ok (.dat (.int i)):=let⟨_,h⟩:=hm;aeV G h
end
structure bF (N:List Str)(sc s0:Scope)(X:Cx):Prop where
 N:X.N=N
 sc:X.env.scope=sc
 fn:∀x,(s0.names.lookup x==some NameKind.cell)=true->X.fn x=true
 calm:X.calm=true
def xK (N:List Str)(sc:Scope)(x:Str)(i:Nat):Bool:=
 decide (N[i]?=some x)&&(decide (sc.names.lookup x=some .local)||(decide (sc.names.lookup x=some .cell)||decide (sc.names.lookup x=some .free)))&&!(x==("__debug__":Str))&&!(x==("__classdict__":Str))
def IP (N:List Str)(sc s0:Scope)(x:Str)(i:Nat):Bool:=decide N.Nodup&&decide (N[i]?=some x)&&((decide (sc.names.lookup x=some .local))||(decide (sc.names.lookup x=some .cell)&&(s0.names.lookup x==some .cell)))
def wc (sc:Scope)(x:Str):Bool:=decide (sc.names.lookup x=some .globalImplicit)&&!(x==("__debug__":Str))
def xV (X:Cx):List (Str×Nat)->Prop
 |[]=>True
 |p::r=>nk X p.1 p.2/\xV X r
def Ea (X:Cx):List (Str×Nat)->Prop
 |[]=>True
 |p::r=>rH X p.1 p.2/\Ea X r
def FG (X:Cx):List Str->Prop
 |[]=>True
 |p::r=>dW X p/\FG X r
section
variable{N:List Str}{sc s0:Scope}{X:Cx}
theorem bF.v0 (h:bF N sc s0 X):∀(l:List (Str×Nat)),(l.all λp=>xK N sc p.1 p.2)=true->xV X l
 |[],_=>trivial
 |p::r,e=>by
  rw[List.all_cons,Bool.and_eq_true]at e;refine⟨?_,h.v0 r e.2⟩;have e:=e.1;unfold xK at e;simp only[Bool.and_eq_true,Bool.or_eq_true,decide_eq_true_eq,Bool.not_eq_true']at e;exact⟨by rw[h.N];exact e.1.1.1,by unfold Vis;rw[h.sc];exact e.1.1.2,e.1.2,e.2⟩
theorem bF.v (h:bF N sc s0 X)(l:List (Str×Nat))(e:(l.all λp=>xK N sc p.1 p.2)=true:=by decide+kernel):xV X l:=h.v0 l e
theorem bF.l0 (h:bF N sc s0 X):∀(l:List (Str×Nat)),(l.all λp=>IP N sc s0 p.1 p.2)=true->Ea X l
 |[],_=>trivial
 |p::r,e=>by
  rw[List.all_cons,Bool.and_eq_true]at e;refine⟨?_,h.l0 r e.2⟩;have e:=e.1;unfold IP at e;simp only[Bool.and_eq_true,Bool.or_eq_true,decide_eq_true_eq]at e;refine⟨by rw[h.N];exact e.1.2,?_,?_,by rw[h.N];exact e.1.1⟩
  ·unfold L2.Loc;rw[h.sc];exact e.2.imp id λz=>z.1
  ·rw[h.sc];rcases e.2 with z|z
   ·exact .inr z
   ·exact .inl (h.fn _ z.2)
theorem bF.l (h:bF N sc s0 X)(l:List (Str×Nat))(e:(l.all λp=>IP N sc s0 p.1 p.2)=true:=by decide+kernel):Ea X l:=h.l0 l e
theorem bF.oO (h:bF N sc s0 X):∀(l:List Str),(l.all λp=>wc sc p)=true->FG X l
 |[],_=>trivial
 |p::r,e=>by
  rw[List.all_cons,Bool.and_eq_true]at e;refine⟨?_,h.oO r e.2⟩;have e:=e.1;unfold wc at e;simp only[Bool.and_eq_true,decide_eq_true_eq,Bool.not_eq_true']at e;exact⟨by unfold Gl Env.kindOf;rw[h.sc];exact e.1,e.2⟩
theorem bF.g (h:bF N sc s0 X)(l:List Str)(e:(l.all λp=>wc sc p)=true:=by decide+kernel):FG X l:=h.oO l e
theorem bF.loc (h:bF N sc s0 X){x:Str}(e:decide (sc.names.lookup x=some .local)=true):X.env.scope.names.lookup x=some .local:=by rw[h.sc];exact of_decide_eq_true e
theorem bF.nd (h:bF N sc s0 X)(e:decide N.Nodup=true):X.N.Nodup:=by rw[h.N];exact of_decide_eq_true e
theorem bF.cY (h:bF N sc s0 X)(scope:Scope){s:Shared}{H:Hp}{C:Addr}{cl:List (Str×Addr)}{bC:List Addr}:bF N (relS scope sc) scope (Cx.cY X scope s H C cl bC):=
 ⟨h.N,by have:=h.sc;show relS scope X.env.scope=_;rw[this],λ_ z=>z,h.calm⟩
theorem bF.cX {P:Program}{w:World}{K:Frag}{mg:Str->Option Value}{base:Heap}{qual:Str}{f:Addr}{cdv:Value}{A:Around}{outer:List Env}{s:Shared}{H:Hp}{E:XK}:bF N sc s0 (cX P w K mg base N qual sc f cdv A outer s H E):=⟨rfl,rfl,λ_ _=>rfl,rfl⟩
theorem fX {P:Program}{w:World}{K:Frag}{mg:Str->Option Value}{base:Heap}{qual:Str}{f:Addr}{cdv:Value}{A:Around}{outer:List Env}{s:Shared}{H:Hp}{E:XK}:Takes (cX P w K mg base N qual sc f cdv A outer s H E) (λcls d _ H=>E cls d H):=takes_of rfl rfl rfl rfl
theorem fT {P:Program}{w:World}{K:Frag}{mg:Str->Option Value}{base:Heap}{qual:Str}{f:Addr}{cdv:Value}{A:Around}{outer:List Env}{s:Shared}{H:Hp}{E:XK}:PassesOwn (model (cX P w K mg base N qual sc f cdv A outer s H E).prog (cX P w K mg base N qual sc f cdv A outer s H E).w) (cX P w K mg base N qual sc f cdv A outer s H E).A (cX P w K mg base N qual sc f cdv A outer s H E).env (cX P w K mg base N qual sc f cdv A outer s H E).xe:=passes_of rfl
theorem kr {scope:Scope}{own:List (Str×Nat)}(h:bF N sc s0 X)(e:BlkOk N sc scope own):BlkOk X.N X.env.scope scope own:=by rw[h.N,h.sc];exact e
theorem Room.agf {k:Nat}{A:Around}(r:Room k A):A.units+65<cLine:=by have:=r.un;omega
end
structure UL (mg:Str->Option Value):Prop where
 all:∀x∈(["len","int","str","list","tuple","range","enumerate","zip","max","min","all","any","isinstance","repr","sorted","set","bool","sum","dict"]:List Str),mg x=none
section
variable{N:List Str}{sc s0:Scope}{X:Cx}{W:WX}{bD e it c:Expr}{ifs:List Expr}{ts:List Nat}{gf:dz}{f:CE}{t:dB}{fi:iy}{scope:Scope}{s:Shared}{H:Hp}{C:Addr}{cl:List (Str×Addr)}{bC:List Addr}
theorem jG (h:bF N sc s0 X)(k:bF N (relS scope sc) scope (Cx.cY X scope s H C cl bC)->GT (Cx.cY X scope s H C cl bC) bD ts gf):GT (Cx.cY X scope s H C cl bC) bD ts gf:=k (h.cY scope)
theorem kH (h:bF N sc s0 X)(k:bF N (relS scope sc) scope (Cx.cY X scope s H C cl bC)->aV (Cx.cY X scope s H C cl bC) W e f):aV (Cx.cY X scope s H C cl bC) W e f:=k (h.cY scope)
theorem Ni (h:bF N sc s0 X)(k:bF N (relS scope sc) scope (Cx.cY X scope s H C cl bC)->mC (Cx.cY X scope s H C cl bC) W bD it fi):mC (Cx.cY X scope s H C cl bC) W bD it fi:=k (h.cY scope)
theorem jH (h:bF N sc s0 X)(k:bF N (relS scope sc) scope (Cx.cY X scope s H C cl bC)->oj (Cx.cY X scope s H C cl bC) ifs t):oj (Cx.cY X scope s H C cl bC) ifs t:=k (h.cY scope)
theorem _root_.L2.Room.dn {k:Nat}{A:Around}(r:Room (k+1) A):Room k A:=r.mono (Nat.le_succ k)
theorem bF.sw {t:List Expr}{v:Expr}{r:Sem (Option (List Str))}(h:bF N sc s0 X)(e:∀V:Env,V.scope=sc->swappedStores t v V=r):swappedStores t v X.env=r:=e _ h.sc
theorem bF.TR {v:Expr}{t:Option Expr}{n:Nat}{r:Sem Bool}(h:bF N sc s0 X)(e:∀V:Env,V.scope=sc->swapsWith v t n V=r):swapsWith v t n X.env=r:=e _ h.sc
theorem hu {k:Nat}{A:Around}(r:Room k A):A.units+65<cLine:=R.Room.agf r
theorem DK {X:Cx}:Takes X lE:=λ_ _ x=>by
 obtain⟨_,_,_,_,_,_,_,_,_,_,_,_,_,_,_,_,z⟩:=x;exact z.elim
def DY (X:Cx)(kws:List Keyword):TA:=λσ H Q=>∀(pos:Pos) pins s,Inv X pins σ H s->wpAny (model X.prog X.w) X.A (evalAll ((backToKw pos (keywordEach kws X.env)).map (·.2))) (AP X pins σ Q) X.xe s
theorem acT {kws:List Keyword}:PK X kws (DY X kws):=⟨λpos pins s _ _ _ I h=>h pos pins s I⟩
theorem toK {kws:List Keyword}{t:TA}(h:PK X kws t){σ H Q}(q:t σ H Q):DY X kws σ H Q:=λpos pins s I=>h.run pos pins s σ H Q I q
structure SK (X:Cx)(W:WX)(kws:List Keyword)(f:aH):Prop where
 run:∀ρ M aa G σ H Q,aE X.K aa G M H->bO X.K aa G σ ρ->wp (f ρ M) (cV X W (bA X.K) Q σ aa G H)->DY X kws σ H Q
theorem af6:SK X W [] aB:=⟨λρ M aa G σ H Q ms en h=>toK pk_nil (h aa G H [] (aG.refl _ _ _) ms .nil)⟩
theorem SK.seq {kws:List Keyword}{ue:aH}{ρ:List af}{M:List ak}{aa:List Addr}{G H:Hp}{σ:L2.St}{α β:Type}{lC:List Addr->Hp->β->α->Prop}{Q:β->Hp->Prop}(h:SK X W kws ue)(ms:aE X.K aa G M H)(en:bO X.K aa G σ ρ){k:List af->Ev α}(w:wp (Ev.bind (ue ρ) k M) (cV X W lC Q σ aa G H)){Q':List V->Hp->Prop}
    (n:∀av au M1 H1 v s,aG aa G H av au H1->aE X.K av au M1 H1->bA X.K av au v s->wp (k s M1) (cV X W lC Q σ av au H1)->Q' v H1):DY X kws σ H Q':=
  h.run ρ M aa G σ H Q' ms en (wp_mono (λr hr=>by
    cases r with
    |ok s M1=>exactλav au H1 v g m r=>n av au M1 H1 v s g m r (wp_mono (λ_=>cV.shift g) hr)
    |ex c fs M1=>exact hr) (cz.mp w))
theorem KH {nm:Option Str}{aay:Pos}{e:Expr}{kws:List Keyword}{f:CE}{g:aH}(h1:aV X W e f)(h2:SK X W kws g):SK X W (⟨nm,e,aay⟩::kws) (aq f g):=⟨λρ M aa G σ H Q ms en h=>
 toK (pk_cons cS acT) (h1.seq ms en h λav au M1 H1 v s g1 m1 r1 aC=>h2.seq m1 (en.grow g1) aC λaM aU M2 aO vs ss g2 m2 r2 bN=>bN aM aU aO (v::vs) (aG.refl _ _ _) m2 (.cons (r1.grow g2) r2))⟩
end
def uQ:aK:=λss M=>match ss with
 |[.dat (.d9 _)]=>.ret (.ok (.mu M.length) (M++[.hand]))
 |_=>.bad
def mV:aK:=λss M=>match ss with
 |[.mu j,.dat (.int n)]=>match M[j]? with
  |some .hand=>if 0<n/\n<1073741824 then .draw n λd=>.ret (.ok (.dat (.int d)) M)else .bad
  |_=>.bad
 |_=>.bad
theorem IF {K:Frag}{x f:Str}(h:zC x f K=true):PropOf K (aZ K x) f (wZ K x f) (sH x f K):=by
 unfold zC at h;rw[Bool.and_eq_true,Bool.and_eq_true,Bool.and_eq_true,decide_eq_true_eq,decide_eq_true_eq,decide_eq_true_eq]at h;obtain⟨h1,h2,h3,h4⟩:=h;refine⟨h1,h2,h3,?_⟩;unfold sH;split at h4
 ·rename_i g rest e
  exact⟨rest,by rw[e]⟩
 ·cases h4
theorem aas {K:Frag}{x:Str}(h:Iz x K=true):AQ K (aZ K x):=by
 unfold Iz at h;rw[Bool.and_eq_true,Bool.and_eq_true,Bool.and_eq_true,Bool.and_eq_true,decide_eq_true_eq,decide_eq_true_eq,decide_eq_true_eq,decide_eq_true_eq]at h;exact⟨He.cls_ok h.1,h.2.1,h.2.2.1,h.2.2.2.1,h.2.2.2.2⟩
theorem CH {K:Frag}{c:Nat}{cs:List Nat}(h:CG c cs K=true):(∀t∈DN,PySem.W.kitOne K (.type t) (.ref (bQ K c))=some false)/\∀c'∈cs,AQ K (bQ K c')/\PySem.W.kitOne K (.ref (bQ K c')) (.ref (bQ K c))=some (c'==c):=by
 unfold CG at h;rw[Bool.and_eq_true,List.all_eq_true,List.all_eq_true]at h;refine⟨λt ht=>of_decide_eq_true (h.1 t ht),λc' hc=>?_⟩;have:=h.2 c' hc;rw[Bool.and_eq_true,decide_eq_true_eq]at this;exact⟨aas this.1,this.2⟩
theorem eL.fun {K:Frag}{d:eL}(e:uf K (d.ad K)=d.val)(c:d.ok K=true):∃fd,Fun K d.name d.qual d.st (d.ad K) fd:=by
 obtain⟨c1,c2⟩:=He.ba c;unfold uf at e;cases q:K.lookup (d.ad K)with
 |none=>
  rw[q]at c2;cases c2
 |some o=>
  obtain⟨oc,od,GH,fq⟩:=o;rw[q]at c2 e;cases GH with
  |func fd=>
   obtain⟨n1,n2,n3,qS,Jf,Jg,qT,Jh,n9,Jb,Jc,Jd,Rm,Rn,Je⟩:=fd;have e2:(some (n1,n2,n3,qS,Jf,Jg,qT,Jh,Je):FnV)=some (d.name,d.qual,defArgs d.st,.stmts (defBody d.st),defScope d.st,mainGlobals,[],.none,builtinsNs):=e;simp only[Option.some.injEq,Prod.mk.injEq]at e2;obtain⟨h1,h2,h3,h4,c6,cN,pX,qB,h9⟩:=e2;subst h1 h2 h3 h4 c6 cN pX qB h9;exact⟨_,⟨⟨oc,od,n9,Jb,Jc,Jd,Rm,Rn,fq,rfl,q,c2⟩,c1⟩⟩
  |_=>cases c2
abbrev xQ:Type:=Bool×List FnV
def RX (b_:List Fk)(fn:List eL)(K:Frag):xQ:=((b_.all λf=>f K)&&fn.all λd=>d.ok K,fn.map λd=>uf K (d.ad K))
def Uc (fn:List eL):xQ:=(true,fn.map eL.val)
def tL (b_:List Fk)(fn:List eL)(K:Frag):Prop:=RX b_ fn K=Uc fn
theorem tL.fact {b_:List Fk}{fn:List eL}{K:Frag}(c:tL b_ fn K)(i:Nat){f:Fk}(h:b_[i]?=some f:=by rfl):f K=true:=by
 have c1:=(He.ba (show((b_.all λf=>f K)&&fn.all λd=>d.ok K)=true from congrArg (λz:xQ=>z.1) c)).1;exact List.all_eq_true.mp c1 f (List.mem_of_getElem? h)
theorem tL.def_ {b_:List Fk}{fn:List eL}{K:Frag}(c:tL b_ fn K)(i:Nat){d:eL}(h:fn[i]?=some d:=by rfl):∃fd,Fun K d.name d.qual d.st (d.ad K) fd:=by
 have c2:=(He.ba (show((b_.all λf=>f K)&&fn.all λd=>d.ok K)=true from congrArg (λz:xQ=>z.1) c)).2;have e:fn.map (λd=>uf K (d.ad K))=fn.map eL.val:=congrArg (λz:xQ=>z.2) c;have e2:(fn.map λd=>uf K (d.ad K))[i]?=(fn.map eL.val)[i]?:=by rw[e]
 rw[List.getElem?_map,List.getElem?_map,h]at e2;exact eL.fun (Option.some.inj e2) (List.all_eq_true.mp c2 d (List.mem_of_getElem? h))
theorem f7 {P:Program}{w:World}{K:Frag}{mg:Str->Option Value}{base:Heap}{CX:CXT}{k:Nat}{f:Addr}{fd:FuncData}{ps:List Str}{n:Nat}:FnOk P w K mg base CX k f fd ps (fM K n λ_=>bad):=
 ⟨λ_ _ _ _ ⟨_,_,_,_,_,_,_,h⟩=>h.elim,λ_ _ _ _ _ _ _ _ _ _ _ _ _ ⟨_,_,_,_,_,_,_,h⟩=>h.elim⟩
def aR (tab:(Nat->aK)->Nat->aK):Nat->Nat->aK
 |0=>λ_ _=>bad
 |n+1=>tab (aR tab n)
def stI (M:List ak)(v o y:af):Option (List ak):=match y with
 | .dat (.int i)=>match qR o M with
  |some (j,xs)=>(ixN xs.length i).map λk=>M.set j (.lst (xs.set k v))
  |none=>none
 |_=>none
def sIx (kO lJ fi:CE):aQ:=λρ=>(kO ρ).bind λv=>(lJ ρ).bind λo=>(fi ρ).bind λy=>ofM λM=>(stI M v o y).map λao=>(.nx ρ,ao)
section
variable{X:Cx}{W:WX}{e o it:Expr}{kO lJ fi:CE}{pos iS:Pos}
theorem xB (h1:aV X W e kO)(h2:aV X W o lJ)(h3:aV X W it fi)
    (ha:∀v,assign (.Subscript o it iS) X.env v=(do
      let nO <-holding [v] (eval o X.env)
      let iv <-holding [v,nO] (eval it X.env)
      standAt iS
      holding [v,nO,iv] (setItem nO iv v)
      release [v,nO,iv] []):=by intro _;rfl) (hs:swapsWithSole [.Subscript o it iS] e pos.line X.env=pure false:=by rfl) (hw:swappedStores [.Subscript o it iS] e X.env=pure none:=by rfl)
    (h0:(assignEach [.Subscript o it iS] X.env).map (·.2)=[assign (.Subscript o it iS) X.env]:=by rfl):iI X W (.Assign [.Subscript o it iS] e pos) (sIx kO lJ fi):=⟨λρ M aa G σ H D ms en h=>
  toS (ps_asg cS (pg_sub cS cS set_list ha) hs hw h0) (h1.m5 ms en h λav au M1 H1 v s g1 m1 r1 aC=>h2.m5 m1 (en.grow g1) aC λaM aU M2 aO v2 s2 g2 m2 r2 bN=>h3.m5 m2 (en.grow (g1.trans g2)) bN λdO eN bB ff xJ s3 g3 m3 r3 ly=>by
    obtain⟨t,ao,e1,q⟩:=iF.mp ly;cases ez:stI bB s s2 s3 with
    |none=>rw[ez]at e1;cases e1
    |some tF=>
      rw[ez]at e1;cases e1;unfold stI at ez;split at ez
      · rename_i i
        split at ez
        · rename_i j xs hj
          cases hk:ixN xs.length i with
          |none=>rw[hk]at ez;cases ez
          |some k=>
            rw[hk]at ez;cases ez;obtain⟨rfl,hm,a,vs,e2,e3,e4,iz⟩:=abT hj m3 (r2.grow g3);have gw:aG dO eN ff dO eN (upd ff a (.lst (vs.set k v))):=aG.write (List.mem_of_getElem? e2) (by rw[e4];simp);refine⟨a,vs,i,k,e3,iT r3,e4,by rw[iz.length];exact hk,?_⟩;exact q _ _ _ _ gw (m3.write (m':=.lst (xs.set k s)) e2 hm trivial ⟨_,upd_same,bA.set ((r1.grow g2).grow g3) k iz⟩) (en.grow (((g1.trans g2).trans g3).trans gw))
        · cases ez
      · cases ez)⟩
end
def yq:aQ:=
 (bU (fC true (aq (bW (pu (uG false)) (aq (yI (ah 0) Df (wW (λ_=>ok (.dat (.int 63))))) aB)) (aq (λ_=>ok (.dat (.int 0))) (aq (λ_=>ok (.dat (.int 0))) (aq (λ_=>ok (.dat (.int 4912))) (aq (λ_=>ok (.dat (.int 0))) aB)))))))
def yl (t:cH):aQ:=
  (aY (dF (tAnd (bZ (ay (cmp .Eq) (ay bT (ah 0) (λ_=>ok (.dat (.int 2)))) (λ_=>ok (.dat (.int 0))))) (bZ (ay (cmp .Lt) (ay bT (ah 0) (λ_=>ok (.dat (.int 1)))) (bW (eH t) (aq (ay bT (ah 0) (λ_=>ok (.dat (.int 0)))) aB))))) (aY (c_ 2 (ay bT (ay bT (ah 0) (λ_=>ok (.dat (.int 0)))) (ay bT (ah 0) (λ_=>ok (.dat (.int 1))))))
  (aY (sIx (ay (bin .Add) (ay bT (ah 0) (λ_=>ok (.dat (.int 1)))) (λ_=>ok (.dat (.int 1)))) (ah 0) (λ_=>ok (.dat (.int 1))))
  (dF (bZ (ay (cmp .GtE) (ah 2) (ay (bin .Pow) (λ_=>ok (.dat (.int 10))) (λ_=>ok (.dat (.int 18)))))) (sIx (ah 2) (ah 0) (λ_=>ok (.dat (.int 2)))) (sIx (ay (bin .Mod) (bW (pu gb) (aq (ay (bin .Add) (ay (bin .Add) (ay (bin .Mult) (ay bT (ah 0) (λ_=>ok (.dat (.int 3)))) (λ_=>ok (.dat (.int 40961)))) (ay (bin .Mult) (ay (bin .Mod) (bW (pu gb) (aq (ah 2) aB)) (λ_=>ok (.dat (.int 2147483549)))) (λ_=>ok (.dat (.int 28657))))) (λ_=>ok (.dat (.int 7)))) aB)) (λ_=>ok (.dat (.int 2147483647)))) (ah 0) (λ_=>ok (.dat (.int 3))))))) d8)
  (aY (dF (bZ (ay (cmp .Gt) (ay bT (ah 0) (λ_=>ok (.dat (.int 2)))) (λ_=>ok (.dat (.int 0))))) (aY (c_ 3 (ay (bin .Mod) (bW (pu gb) (aq (ay bT (ah 0) (λ_=>ok (.dat (.int 2)))) aB)) (ah 1)))
  (aY (sIx (ay (bin .FloorDiv) (ay bT (ah 0) (λ_=>ok (.dat (.int 2)))) (ah 1)) (ah 0) (λ_=>ok (.dat (.int 2))))
  (bU (ah 3)))) d8)
  (aY (sIx (ay (bin .Add) (ay bT (ah 0) (λ_=>ok (.dat (.int 4)))) (λ_=>ok (.dat (.int 1)))) (ah 0) (λ_=>ok (.dat (.int 4))))
  (aY (c_ 4 (ay bT (ah 0) (λ_=>ok (.dat (.int 3)))))
  (aY (sIx (ay (bin .Mod) (bW (pu gb) (aq (ay (bin .Add) (ay (bin .Add) (ay (bin .Add) (ay (bin .Mult) (ah 4) (ah 4)) (ay (bin .Mult) (ah 4) (λ_=>ok (.dat (.int 17389))))) (ay (bin .Mult) (ay bT (ah 0) (λ_=>ok (.dat (.int 4)))) (λ_=>ok (.dat (.int 611953))))) (λ_=>ok (.dat (.int 4099)))) aB)) (λ_=>ok (.dat (.int 2147483647)))) (ah 0) (λ_=>ok (.dat (.int 3))))
  (bU (ay (bin .Mod) (bW (pu gb) (aq (ay (bin .Add) (ay (bin .FloorDiv) (ay bT (ah 0) (λ_=>ok (.dat (.int 3)))) (λ_=>ok (.dat (.int 61)))) (ay (bin .Mult) (ay (bin .Mod) (bW (pu gb) (aq (ay bT (ah 0) (λ_=>ok (.dat (.int 3)))) aB)) (λ_=>ok (.dat (.int 8191)))) (λ_=>ok (.dat (.int 37))))) aB)) (ah 1))))))))
def cy (ns:List Int)(i d x y:Int):ak:=.lst [.dat (.lst (ns.map .int)),.dat (.int i),.dat (.int d),.dat (.int x),.dat (.int y)]
theorem tV {α β:Type}(a:α)(M:List ak)(f:α->Ev β):(T.ret (Re.ok a M)).bind (bH f)=f a M:=rfl
section
variable{t:cH}{j:Nat}{n:Int}{M:List ak}{ns:List Int}{i d x y:Int}
theorem yX (hj:M[j]?=some (cy ns i d x y))(k:Int):bT M (.mu j) (.dat (.int k))=(atI [.dat (.lst (ns.map .int)),.dat (.int i),.dat (.int d),.dat (.int x),.dat (.int y)] k).map λs=>(gJ M s,M):=by
 simp only[bT,hj,cy]
theorem Hx (hj:M[j]?=some (cy ns i d x y)):bT M (.mu j) (.dat (.int 0))=some (.dat (.lst (ns.map .int)),M):=by rw[yX hj];rfl
theorem Hy (hj:M[j]?=some (cy ns i d x y)):bT M (.mu j) (.dat (.int 1))=some (.dat (.int i),M):=by rw[yX hj];rfl
theorem we (hj:M[j]?=some (cy ns i d x y)):bT M (.mu j) (.dat (.int 2))=some (.dat (.int d),M):=by rw[yX hj];rfl
theorem Hz (hj:M[j]?=some (cy ns i d x y)):bT M (.mu j) (.dat (.int 3))=some (.dat (.int x),M):=by rw[yX hj];rfl
theorem OU (hj:M[j]?=some (cy ns i d x y)):bT M (.mu j) (.dat (.int 4))=some (.dat (.int y),M):=by rw[yX hj];rfl
theorem qc (hj:M[j]?=some (cy ns i d x y)):gJ M (.mu j)=.mu j:=by simp only[gJ,hj,cy]
theorem C4 (hj:M[j]?=some (cy ns i d x y)):qR (.mu j) M=some (j,[.dat (.lst (ns.map .int)),.dat (.int i),.dat (.int d),.dat (.int x),.dat (.int y)]):=by simp only[qR,hj,cy]
theorem pC {m:ak}(hl:j<M.length):(M.set j m)[j]?=some m:=List.getElem?_set_self hl
theorem TJ (hj:M[j]?=some (cy ns i d x y))(v:Int):stI M (.dat (.int v)) (.mu j) (.dat (.int 1))=some (M.set j (cy ns v d x y)):=by unfold stI;rw[show qR (.mu j) M=_ from C4 hj];rfl
theorem DG (hj:M[j]?=some (cy ns i d x y))(v:Int):stI M (.dat (.int v)) (.mu j) (.dat (.int 2))=some (M.set j (cy ns i v x y)):=by unfold stI;rw[show qR (.mu j) M=_ from C4 hj];rfl
theorem TM (hj:M[j]?=some (cy ns i d x y))(v:Int):stI M (.dat (.int v)) (.mu j) (.dat (.int 3))=some (M.set j (cy ns i d v y)):=by unfold stI;rw[show qR (.mu j) M=_ from C4 hj];rfl
theorem afs (hj:M[j]?=some (cy ns i d x y))(v:Int):stI M (.dat (.int v)) (.mu j) (.dat (.int 4))=some (M.set j (cy ns i d x v)):=by unfold stI;rw[show qR (.mu j) M=_ from C4 hj];rfl
theorem hcell (h2:0<=i)(h3:i<(ns.length:Int)):∃c:Int,∀M:List ak,bT M (.dat (.lst (ns.map .int))) (.dat (.int i))=some (.dat (.int c),M):=by
 have hk:i.toNat<ns.length:=by omega
 refine⟨ns[i.toNat],λM=>?_⟩;have e:atI (ns.map D.int) i=some (D.int ns[i.toNat]):=by
  unfold atI ixN;rw[List.length_map,if_pos h2,if_pos h3];show(ns.map D.int)[i.toNat]?=_
  rw[List.getElem?_map,List.getElem?_eq_getElem hk];rfl
 simp only[bT,e];rfl
theorem mU {M:List ak}{d:D}:gJ M (.dat d)=.dat d:=rfl
theorem set_set {m m':ak}:(M.set j m).set j m'=M.set j m':=by simp
def vR (t:cH):aQ:=(dF (tAnd (bZ (ay (cmp .Eq) (ay bT (ah 0) (λ_=>ok (.dat (.int 2)))) (λ_=>ok (.dat (.int 0))))) (bZ (ay (cmp .Lt) (ay bT (ah 0) (λ_=>ok (.dat (.int 1)))) (bW (eH t) (aq (ay bT (ah 0) (λ_=>ok (.dat (.int 0)))) aB))))) (aY (c_ 2 (ay bT (ay bT (ah 0) (λ_=>ok (.dat (.int 0)))) (ay bT (ah 0) (λ_=>ok (.dat (.int 1))))))
  (aY (sIx (ay (bin .Add) (ay bT (ah 0) (λ_=>ok (.dat (.int 1)))) (λ_=>ok (.dat (.int 1)))) (ah 0) (λ_=>ok (.dat (.int 1))))
  (dF (bZ (ay (cmp .GtE) (ah 2) (ay (bin .Pow) (λ_=>ok (.dat (.int 10))) (λ_=>ok (.dat (.int 18)))))) (sIx (ah 2) (ah 0) (λ_=>ok (.dat (.int 2)))) (sIx (ay (bin .Mod) (bW (pu gb) (aq (ay (bin .Add) (ay (bin .Add) (ay (bin .Mult) (ay bT (ah 0) (λ_=>ok (.dat (.int 3)))) (λ_=>ok (.dat (.int 40961)))) (ay (bin .Mult) (ay (bin .Mod) (bW (pu gb) (aq (ah 2) aB)) (λ_=>ok (.dat (.int 2147483549)))) (λ_=>ok (.dat (.int 28657))))) (λ_=>ok (.dat (.int 7)))) aB)) (λ_=>ok (.dat (.int 2147483647)))) (ah 0) (λ_=>ok (.dat (.int 3))))))) d8)
theorem Xf (hj:M[j]?=some (cy ns i d x y))(hl:j<M.length)(hz:ns.length<=63)(h2:0<=i)(hx:0<=x)(zu:x<2147483647):
    ∃s2 oV gu pF,0<=oV/\0<=pF/\pF<2147483647/\vR t [.mu j,.dat (.int n),.un,.un,.un] M=.ret (.ok (.nx [.mu j,.dat (.int n),s2,.un,.un]) (M.set j (cy ns oV gu pF y))):=by
  have self:M.set j (cy ns i d x y)=M:=by
    apply List.ext_getElem?
    intro k;by_cases e:j=k
    · subst e;rw[pC hl,hj]
    · rw[List.getElem?_set_ne e]
  by_cases c1:d=0
  · subst c1
    by_cases c2:i<(ns.length:Int)
    · obtain⟨c,hc⟩:=hcell (ns:=ns) h2 c2
      have hz2:ns.length<=sizeLine:=Nat.le_trans hz (by decide);have c6:(M.set j (cy ns (i+1) 0 x y))[j]?=some (cy ns (i+1) 0 x y):=pC hl;have HR:j<(M.set j (cy ns (i+1) 0 x y)).length:=by rw[List.length_set];exact hl
      by_cases c3:1000000000000000000<=c
      · refine⟨.dat (.int c),i+1,c,x,by omega,hx,zu,?_⟩
        simp[vR,dF,aY,jh,c_,sIx,tAnd,bZ,ay,bW,aq,aB,Ev.bind,tV,T.bind,bH,R.ok,ofM,ah,qc hj,we hj,Hy hj,Hx hj,cmp,fH,iZ,eH,lenOf,fk,iD,hz2,c2,hc,mU,TJ hj,bin,qc c6,c3];rw[DG c6];simp
      · refine⟨.dat (.int c),i+1,0,(x*40961+c%2147483549*28657+7)%2147483647,by omega,Int.emod_nonneg _ (by decide),Int.emod_lt_of_pos _ (by decide),?_⟩
        have q1:(-(2^64)<x/\x<2^64):=by omega
        simp[vR,dF,aY,jh,c_,sIx,tAnd,bZ,ay,bW,aq,aB,Ev.bind,tV,T.bind,bH,R.ok,ofM,ah,qc hj,we hj,Hy hj,Hx hj,cmp,fH,iZ,eH,lenOf,fk,iD,hz2,c2,hc,mU,TJ hj,bin,qc c6,c3,Hz c6,pu,gb,q1];rw[TM c6];simp
    · refine⟨.un,i,0,x,h2,hx,zu,?_⟩
      rw[self];have hz2:ns.length<=sizeLine:=Nat.le_trans hz (by decide);simp[vR,dF,tAnd,bZ,ay,bW,aq,aB,Ev.bind,tV,T.bind,bH,R.ok,ofM,ah,qc hj,we hj,Hy hj,Hx hj,cmp,fH,iZ,eH,lenOf,fk,iD,hz2,c2,d8,Int.not_lt.mp c2]
  · refine⟨.un,i,d,x,h2,hx,zu,?_⟩
    rw[self];simp[vR,dF,tAnd,bZ,ay,Ev.bind,tV,T.bind,bH,R.ok,ofM,ah,qc hj,we hj,cmp,fH,iZ,c1,d8]
def BE (t:cH):aQ:=
  (aY (dF (bZ (ay (cmp .Gt) (ay bT (ah 0) (λ_=>ok (.dat (.int 2)))) (λ_=>ok (.dat (.int 0))))) (aY (c_ 3 (ay (bin .Mod) (bW (pu gb) (aq (ay bT (ah 0) (λ_=>ok (.dat (.int 2)))) aB)) (ah 1)))
  (aY (sIx (ay (bin .FloorDiv) (ay bT (ah 0) (λ_=>ok (.dat (.int 2)))) (ah 1)) (ah 0) (λ_=>ok (.dat (.int 2))))
  (bU (ah 3)))) d8)
  (aY (sIx (ay (bin .Add) (ay bT (ah 0) (λ_=>ok (.dat (.int 4)))) (λ_=>ok (.dat (.int 1)))) (ah 0) (λ_=>ok (.dat (.int 4))))
  (aY (c_ 4 (ay bT (ah 0) (λ_=>ok (.dat (.int 3)))))
  (aY (sIx (ay (bin .Mod) (bW (pu gb) (aq (ay (bin .Add) (ay (bin .Add) (ay (bin .Add) (ay (bin .Mult) (ah 4) (ah 4)) (ay (bin .Mult) (ah 4) (λ_=>ok (.dat (.int 17389))))) (ay (bin .Mult) (ay bT (ah 0) (λ_=>ok (.dat (.int 4)))) (λ_=>ok (.dat (.int 611953))))) (λ_=>ok (.dat (.int 4099)))) aB)) (λ_=>ok (.dat (.int 2147483647)))) (ah 0) (λ_=>ok (.dat (.int 3))))
  (bU (ay (bin .Mod) (bW (pu gb) (aq (ay (bin .Add) (ay (bin .FloorDiv) (ay bT (ah 0) (λ_=>ok (.dat (.int 3)))) (λ_=>ok (.dat (.int 61)))) (ay (bin .Mult) (ay (bin .Mod) (bW (pu gb) (aq (ay bT (ah 0) (λ_=>ok (.dat (.int 3)))) aB)) (λ_=>ok (.dat (.int 8191)))) (λ_=>ok (.dat (.int 37))))) aB)) (ah 1)))))))
theorem Xg {s2:af}(hj:M[j]?=some (cy ns i d x y))(hl:j<M.length)(hn:0<n)(oS:n<1073741824)(hx:0<=x)(zu:x<2147483647):
    ∃r gu pF Li,0<=r/\r<n/\0<=pF/\pF<2147483647/\BE t [.mu j,.dat (.int n),s2,.un,.un] M=.ret (.ok (.rt (.dat (.int r))) (M.set j (cy ns i gu pF Li))):=by
  by_cases c1:0<d
  · have c6:(M.set j (cy ns i (d/n) x y))[j]?=some (cy ns i (d/n) x y):=pC hl
    refine⟨d%n,d/n,x,y,Int.emod_nonneg _ (by omega),Int.emod_lt_of_pos _ hn,hx,zu,?_⟩;simp[BE,dF,aY,jh,c_,sIx,bU,bZ,ay,bW,aq,aB,Ev.bind,tV,T.bind,bH,R.ok,ofM,ah,qc hj,we hj,cmp,fH,iZ,c1,fk,iD,mU,pu,gb,bin,hn,oS,DG hj]
  · have c6:(M.set j (cy ns i d x (y+1)))[j]?=some (cy ns i d x (y+1)):=pC hl
    have JN:(-18446744073709551616<x/\x<18446744073709551616):=by omega
    let iU:Int:=(x*x+x*17389+(y+1)*611953+4099)%2147483647
    have ZZ:0<=iU:=Int.emod_nonneg _ (by decide);have Z0:iU<2147483647:=Int.emod_lt_of_pos _ (by decide);have cN:(M.set j (cy ns i d iU (y+1)))[j]?=some (cy ns i d iU (y+1)):=pC hl;have oF:stI (M.set j (cy ns i d x (y+1))) (.dat (.int iU)) (.mu j) (.dat (.int 3))=some (M.set j (cy ns i d iU (y+1))):=by rw[TM c6,set_set]
    refine⟨(iU/61+iU%8191*37)%n,d,iU,y+1,Int.emod_nonneg _ (by omega),Int.emod_lt_of_pos _ hn,ZZ,Z0,?_⟩;simp[BE,dF,aY,jh,c_,sIx,bU,bZ,ay,bW,aq,aB,Ev.bind,tV,T.bind,bH,R.ok,ofM,ah,qc hj,we hj,OU hj,cmp,fH,iZ,c1,fk,iD,mU,pu,gb,bin,hn,oS,afs hj,d8,qc c6,Hz c6,OU c6,JN];rw[show stI _ _ _ _=_ from oF];simp[Ev.bind,tV,T.bind,bH,R.ok,ofM,ah,qc cN,Hz cN,mU,ay,bW,aq,aB,fk,iD,pu,gb,bin,hn,oS,bU,aY,jh]
    done
theorem V9:yl t=aY (vR t) (BE t):=rfl
variable{K:Frag}{aa:List Addr}{G H:Hp}
theorem abR {m m':ak}(ms:aE K aa G M H)(hj:M[j]?=some m)(hm:m.live)(hk:∀a,nh K aa G H a m->nh K aa G H a m'):aE K aa G (M.set j m') H:=
 ⟨ms.le,by rw[List.length_set];exact ms.len,ms.nd,λk a mk e1 e2=>by
  by_cases e:j=k
  ·subst e
   have hl:j<M.length:=(List.getElem?_eq_some_iff.mp hj).1;rw[pC hl]at e2;cases e2
   have q:=ms.mo j a m e1 hj;exact⟨λ_=>q.1 hm,hk a q.2⟩
  ·rw[List.getElem?_set_ne e]at e2
   exact ms.mo k a mk e1 e2,ms.dQ⟩
theorem YO (ms:aE K aa G M H)(hj:M[j]?=some .hand):∃ns i d x y,ns.length<=63/\0<=i/\0<=x/\x<2147483647/\aE K aa G (M.set j (cy ns i d x y)) H:=by
 have hl:j<M.length:=(List.getElem?_eq_some_iff.mp hj).1;have ha:∃a,aa[j]?=some a:=⟨aa[j]'(by rw[ms.len];exact hl),List.getElem?_eq_getElem _⟩;obtain⟨a,ha⟩:=ha;obtain⟨s,ns,i,d,x,y,h1,h2,h3,h4,c6,cN⟩:=(ms.mo j a _ ha hj).2;refine⟨ns,i,d,x,y,h3,h4,c6,cN,?_⟩;refine⟨ms.le,by rw[List.length_set];exact ms.len,ms.nd,λk b mk e1 e2=>?_,ms.dQ⟩;by_cases e:j=k
 ·subst e
  rw[pC hl]at e2;cases e2
  rw[ha]at e1;cases e1;exact⟨λ_=>(ms.mo j a _ ha hj).1 trivial,_,h1,.cons (bK.lst h2 (JW ns)) (.cons (bK.int i) (.cons (bK.int d) (.cons (bK.int x) (.cons (bK.int y) .nil))))⟩
 ·rw[List.getElem?_set_ne e]at e2
  exact ms.mo k b mk e1 e2
theorem OV (ms:aE K aa G M H)(hj:M[j]?=some (cy ns i d x y))(h3:ns.length<=63)(h4:0<=i)(c6:0<=x)(cN:x<2147483647):aE K aa G (M.set j .hand) H:=
 abR ms hj trivial λa ⟨vs,e1,e2⟩=>by
  cases e2 with
  |cons r0 e2=>
   cases e2 with
   |cons r1 e2=>
    cases e2 with
    |cons r2 e2=>
     cases e2 with
     |cons r3 e2=>
      cases e2 with
      |cons nP e2=>
       cases e2
       cases iT r1;cases iT r2;cases iT r3;cases iT nP
       have r0:bK K G _ (.lst (ns.map .int)):=r0;cases r0 with
       |lst hg hr=>
        rw[SW hr]at hg;exact⟨_,ns,i,d,x,y,e1,hg,h3,h4,c6,cN⟩
theorem fN {ao:List ak}{k:Nat}(h:ao.length=k):cut k ao=ao:=by
 unfold cut;split
 ·exact List.take_of_length_le (Nat.le_of_eq h)
 ·rfl
theorem Z9 {t:cH}(vs:List V)(H:Hp)(Q:VK)(E:XK)(h:fM K 2 mV vs H Q E):fM K 2 (aX false 2 5 (yl t)) vs H Q E:=by
 obtain⟨aa,G,M,ss,ms,r,hl,h⟩:=h;unfold mV at h;split at h
 ·rename_i j n
  split at h
  ·rename_i hj
   split at h
   ·rename_i hn
    have r_:j<M.length:=(List.getElem?_eq_some_iff.mp hj).1;obtain⟨ns,i,d,x,y,h3,h4,c6,cN,m2⟩:=YO ms hj;refine⟨aa,G,M.set j (cy ns i d x y),[.mu j,.dat (.int n)],m2,r,rfl,?_⟩;have g1:(M.set j (cy ns i d x y))[j]?=some (cy ns i d x y):=pC r_;have l1:j<(M.set j (cy ns i d x y)).length:=by rw[List.length_set];exact r_
    obtain⟨s2,oV,gu,pF,a1,a2,a3,e1⟩:=Xf (t:=t) (n:=n) g1 l1 h3 h4 c6 cN;rw[set_set]at e1;have g2:(M.set j (cy ns oV gu pF y))[j]?=some (cy ns oV gu pF y):=pC r_;have l2:j<(M.set j (cy ns oV gu pF y)).length:=by rw[List.length_set];exact r_
    obtain⟨r0,d2,iU,m8,dG,b2,om,b4,e2⟩:=Xg (t:=t) (s2:=s2) g2 l2 hn.1 hn.2 a2 a3;rw[set_set]at e2;have e3:aX false 2 5 (yl t) [.mu j,.dat (.int n)] (M.set j (cy ns i d x y))=.ret (.ok (.dat (.int r0)) (M.set j (cy ns oV d2 iU m8))):=by
     have e4:yl t [.mu j,.dat (.int n),.un,.un,.un] (M.set j (cy ns i d x y))=.ret (.ok (.rt (.dat (.int r0))) (M.set j (cy ns oV d2 iU m8))):=by
      rw[V9];unfold aY;simp only[Ev.bind,e1,T.bind,bH,jh,e2]
     unfold aX;rw[if_pos (show[af.mu j,af.dat (D.int n)].length=2 from rfl)];show(yl t [.mu j,.dat (.int n),.un,.un,.un] (M.set j (cy ns i d x y))).bind _=_
     rw[e4];show clean false _ (.dat (.int r0)) _=_
     unfold clean
     dsimp only
     rw[fN (by rw[List.length_set,List.length_set])]
    rw[e3];intro aj ai H' v g m3 bL;have g3:(M.set j (cy ns oV d2 iU m8))[j]?=some (cy ns oV d2 iU m8):=pC r_;have m4:=OV m3 g3 h3 a1 om b4;have iz:(M.set j (cy ns oV d2 iU m8)).set j .hand=M:=by
     rw[set_set];apply List.ext_getElem?
     intro k;by_cases e:j=k
     ·subst e;rw[pC r_,hj]
     ·rw[List.getElem?_set_ne e]
    rw[iz]at m4;exact h r0 dG b2 aj ai H' v g m4 bL
   ·exact h.elim
  ·exact h.elim
 ·exact h.elim
theorem Z_ (vs:List V)(H:Hp)(Q:VK)(E:XK)(h:fM K 1 uQ vs H Q E):fM K 1 (aX true 1 1 yq) vs H Q E:=by
 obtain⟨aa,G,M,ss,ms,r,hl,h⟩:=h;unfold uQ at h;split at h
 ·rename_i ns
  refine⟨aa,G,M,[.dat (.d9 ns)],ms,r,rfl,?_⟩;have hz:(cutD ns none (some 63)).length<=63:=by
   unfold cutD;rw[List.length_take,List.length_drop];show min (min 63 ns.length-0) _<=63
   omega
  have e1:yq [.dat (.d9 ns)] M=.ret (.ok (.rt (.mu M.length)) (M++[cy (cutD ns none (some 63)) 0 0 4912 0])):=by
   have q:(5:Nat)<=sizeLine:=by decide
   simp[yq,bU,fC,aq,aB,bW,yI,Df,wW,Ev.bind,T.bind,bH,R.ok,ofM,ah,mU,Ag,pu,uG,lU,eX,fk,iD,q,cy]
  have e3:aX true 1 1 yq [.dat (.d9 ns)] M=.ret (.ok (.mu M.length) (M++[cy (cutD ns none (some 63)) 0 0 4912 0])):=by
   unfold aX;rw[if_pos (show[af.dat (D.d9 ns)].length=1 from rfl)];show(yq [.dat (.d9 ns)] M).bind _=_
   rw[e1];show clean true M.length (.mu M.length) (M++[cy (cutD ns none (some 63)) 0 0 4912 0])=_
   unfold clean;simp[cy]
  rw[e3];intro aj ai H' v g m3 bL;have g3:(M++[cy (cutD ns none (some 63)) 0 0 4912 0])[M.length]?=some (cy (cutD ns none (some 63)) 0 0 4912 0):=by simp
  have m4:=OV m3 g3 hz (by decide) (by decide) (by decide);have iz:(M++[cy (cutD ns none (some 63)) 0 0 4912 0]).set M.length .hand=M++[.hand]:=by simp
  rw[iz]at m4;exact h aj ai H' v g m4 bL
 ·exact h.elim
end
theorem ad0 {ss:List af}{M:List ak}{Q:Re af->Prop}(h:wp (mV ss M) Q):ss.length=2:=by
 unfold mV at h;split at h
 ·rfl
 ·exact h.elim
theorem ad1 {ss:List af}{M:List ak}{Q:Re af->Prop}(h:wp (uQ ss M) Q):ss.length=1:=by
 unfold uQ at h;split at h
 ·rfl
 ·exact h.elim
theorem DJ {h_ c:Nat}{sZ F:aK}(h:List.lookup h_ [(c,F)]=some sZ):h_=c/\sZ=F:=by
 rw[List.lookup_cons]at h;split at h
 ·rename_i e
  exact⟨by simpa using e,(Option.some.inj h).symm⟩
 ·cases h
end R
namespace R
end R
namespace R
open PySem PySem.Spec PyProof.Rows L2
variable[aI]
def rW (n:Nat)(ρ:List af)(M:List ak):List ak:=if ρ.all (iJ n)then cut n M else M
def BD (n:Nat):Re ck->T (Re ck)
 | .ok (.nx ρ) M=>.ret (.ok (.nx ρ) (rW n ρ M))
 | .ok (.bk ρ) M=>.ret (.ok (.bk ρ) (rW n ρ M))
 | .ok (.ct ρ) M=>.ret (.ok (.ct ρ) (rW n ρ M))
 |r=>.ret r
def xh (b:aQ):aQ:=λρ M=>(b ρ M).bind (BD M.length)
section
variable{X:Cx}{W:WX}{st:Stmt}{l_:List Stmt}{f:aQ}{aa aj:List Addr}{G ai H H':Hp}{M ao:List ak}{ρ:List af}{σ:L2.St}
theorem XF {n:Nat}(h:ρ.all (iJ n)=true)(e:bO X.K aj ai σ ρ):bO X.K (aj.take n) ai σ ρ:=
 ⟨e.len,λi s hs=>(e.at_ i s hs).elim .inl λ⟨v,e1,r⟩=>.inr ⟨v,e1,Bo (List.all_eq_true.mp h s (List.mem_of_getElem? hs)) r⟩⟩
theorem Gy {rM:Prop}(ms:aE X.K aa G M H)(g:aG aa G H aj ai H')(m':aE X.K aj ai ao H')(en:bO X.K aj ai σ ρ)
    (q:∀aM,aG aa G H aM ai H'->aE X.K aM ai (rW M.length ρ ao) H'->bO X.K aM ai σ ρ->rM):rM:=by
  unfold rW at q;by_cases h:ρ.all (iJ M.length)=true
  · rw[if_pos h]at q
    unfold cut at q;by_cases h2:closed M.length ao=true
    · rw[if_pos h2,<-ms.len]at q
      rw[<-ms.len]at h h2;exact q _ (Cf g) (zN m' h2) (XF h en)
    · rw[if_neg h2]at q
      exact q aj g m' en
  · rw[if_neg h]at q
    exact q aj g m' en
theorem ad2 {D:Ends}(ms:aE X.K aa G M H):∀r:Re ck,wp (BD M.length r) (dY X W D aa G H)->dY X W D aa G H r
 | .ok (.nx ρ) ao,h=>λaj ai H' aN g m en=>Gy ms g m en λaM g2 m2 iM=>h aM ai H' aN g2 m2 iM
 | .ok (.bk ρ) ao,h=>λaj ai H' aN g m en=>Gy ms g m en λaM g2 m2 iM=>h aM ai H' aN g2 m2 iM
 | .ok (.ct ρ) ao,h=>λaj ai H' aN g m en=>Gy ms g m en λaM g2 m2 iM=>h aM ai H' aN g2 m2 iM
 | .ok (.rt s) ao,h=>h
 | .ex c fs ao,h=>h
theorem Te (h:SB X W l_ f):SB X W l_ (xh f):=⟨λρ M aa G σ H D ms en w=>
 h.run ρ M aa G σ H D ms en (wp_mono (λr hr=>ad2 ms r hr) (wp_bind.mp w))⟩
end
structure Lz (K:Frag)(v5:Str)(C f:Addr)(name qual:Str)(params:Arguments)(body:List Stmt)(scope:Scope)(fd:FuncData):Prop where
 zP:OexC K C
 ex:∃(oc:Value) (od:Option Addr) (fq:Array (Option Value)) (oE kV doc pm:Value) (an:Option Addr) (ct:Value) (gG cZ:Addr),
  fd=PySem.W.ksFn name qual params body scope oE kV doc pm an (.ref gG) ct cZ/\K.lookup f=some ⟨oc,od,.func fd,fq⟩/\PySem.W.codeIn K (.ref gG) qual=true/\
  (∃(pR:Value) (ow:Option Addr) (vs:Array Value) (ou:Array (Option Value)) (file:Str) (tf:Tok),K.lookup gG=some ⟨pR,ow,.fields vs,ou⟩/\vs[2]?=some (.str file tf)/\(v5==file)=true)/\
  ∃(cl:Value) (Bq:Option Addr) (BC:Array (Option Value)),K.lookup cZ=some ⟨cl,Bq,.cell (some (.ref C)),BC⟩
 cls:∃cd,PySem.W.clsIn K C=some cd/\PySem.W.alongIn K "__init__" ((cd.mro.dropWhile (· != .ref C)).drop 1)=some (some (.builtin "ValueError.__init__"))/\cd.hasDict=true/\PySem.HandSPX.refsVE cd.mro=true
 sub:PySem.W.mroIn K C (.ref C)=some true
 afB:PySem.W.subIn K (.ref C) (.type "ValueError")=some true
 sup:PySem.W.nsIn K mainGlobals "super"=some none
 acD:PySem.W.nsIn K cStatics "thirdparty.any"=some none
def uc (code fld:Str)(p:Nat->Pos)(j:Nat):List Stmt:=
  [.Expr (.Call (.Attribute (.Call (.Name "super" (p 0)) [] [] (p 1)) "__init__" (p 2)) [.Name fld (p 3)] [] (p 4)) (p 5),
   .Assign [.Attribute (.Name "self" (p 6)) "code" (p 7)] (.Constant (.str code) j (p 8)) (p 9),
   .Assign [.Attribute (.Name "self" (p 10)) fld (p 11)] (.Name fld (p 12)) (p 13)]
def KJ (C:Addr)(code fld:Str):Sp:=λvs H Q _=>∃(a:Addr) (y:V),vs=[.ref a,y]/\H a=some (exo a C none)/\
 ∀bx,H bx=none->bx≠a->Q .non (upd (upd H bx (exd bx [(fld,y),("code",.str code)])) a (exo a C (some bx)))
section
variable{prog:Program}{w:World}{A:Around}{E:Value->Shared->Prop}
open PySem.W in
theorem Wt {M:Model}{h:Heap}{g:Array GenState}{d:Drawn}{t:Nat}{os:OsState}{C u e t0 N:Addr}{nm q:Str}{bs bm:List Value}{Y9:Bool}{sn:List Str}{sub:List Value}{qs:Bool}{col:Option Bool}{dd:Option Addr}{k0 k1 k2 k3 k5:Option Value}{rest:List Value}{Q:Value->Shared->Prop}
    (hC:h.get? C=some (excClassObj nm q C N bs bm Y9 sn sub qs col dd k0 k1 k2 k3 k5 "ValueError.__new__")) (hT:∀X:String,bm.contains (.type X)=HandSPX.veTail.contains (.type X)) (he:h.get? e=some (HandSPX.excO C t0)) (hu:h.get? u=some (kxs_mw "ValueError.__init__" e)) (hz:rest.length<=sizeLine)
    (hq:∀h' t1,(∀b o,b≠e->h.get? b=some o->h'.get? b=some o)->h'.get? e=some (HandSPX.excO C t1)->Q .none ⟨h',g,d,t,os⟩):
    wpAny (model prog w) A (call (.ref u) rest) Q E ⟨h,g,d,t,os⟩:=by
  refine wpAny_call (codeAny_of_tree ?_);show wpAny _ A.in1 (callAny (.ref u) ⟨rest,[]⟩) _ _ _
  simp only[callAny];refine wpAny_bind (wpAny_load hu ?_);simp only[kxs_mw,show(Value.type "method-wrapper"==Value.type "method"||Value.type "method-wrapper"==Value.type "builtin_function_or_method"||Value.type "method-wrapper"==Value.type "method-wrapper")=true by decide,if_true];refine KFB.if_so (by decide) ?_;refine wpAny_bind (check_bound_init F.excBase_ValueError.toExcCallFacts hC he rfl ?_);refine wpAny_bind (wpAny_pure (wpAny_pure ?_));refine⟨plainId_quiet F.excBase_ValueError.init.plain _,codeAny_builtin F.excBase_ValueError.initEntry ?_⟩;exact exc_init_tree (cls:=.ref C) (t0:=t0) (dv:=none) (c2:=.none) (c3:=.none) (b4:=.bool false) he hz λh' k eT _=>hq h' _ k eT
theorem abE {o:Expr}{env:Env}{apos pos:Pos}(h:(apos.endLine==pos.line)=true):methodCallPos true o env apos pos=pure pos:=by
 unfold methodCallPos;rw[h];rfl
theorem mc_eq {o:Expr}{name:Str}{apos pos:Pos}{args:List Expr}{env:Env}(h:(apos.endLine==pos.line)=true)(hf:methodCallForm (args.length+0) (backTo pos (starEach args env)) (backToKw pos (keywordEach [] env))=true):
    eval (.Call (.Attribute o name apos) args [] pos) env=(do
      let nO <-attributeBase o name env (eval o env)
      standAt apos.atName
      let(f,first) <-holding [nO] (getMethod nO name (do return (<-importBound o env).getD true))
      callWith pos f first (backTo pos (starEach args env)) []):=by
  show(do
    let nO <-attributeBase o name env (eval o env)
    standAt apos.atName
    methodCall o name apos pos env nO (args.length+0) (backTo pos (starEach args env)) (backToKw pos (keywordEach [] env)))=_
  unfold methodCall;rw[hf,abE h];rfl
structure LA (prog:Program)(K:Frag)(C:Addr)(scope:Scope)(code fld:Str):Prop where
 kind:scope.kind=.function
 co:scope.isCoroutine=false
 gen:scope.isGenerator=false
 nocell:∀x∈scope.names,x.2≠.cell
 n1:scope.names.lookup ("super":Str)=some .globalImplicit
 n2:scope.names.lookup ("__class__":Str)=some .free
 n3:scope.names.lookup ("self":Str)=some .local
 qS:scope.names.lookup (fld:Str)=some .local
 top:(prog.main.scope.names.lookup ("super":Str)).isSome=false
 f1:PySem.W.findIn K (.ref C) "code"=some none
 f2:PySem.W.findIn K (.ref C) fld=some none
 ne:fld≠"code"
 ne2:fld≠"self"
 BF:(fld==("__debug__":Str))=false
open PySem.W in
theorem XT {K:Frag}{mg:Str->Option Value}{base:Heap}{CX:CXT}{C f:Addr}{name qual code fld:Str}{params:Arguments}{scope:Scope}{fd:FuncData}{p:Nat->Pos}{j:Nat}
    (X:Lz K prog.main.file C f name qual params (uc code fld p j) scope fd) (W:LA prog K C scope code fld) (hp:(params.posonlyargs++params.args).head?.map (·.arg)=some "self") (hpos:((p 2).endLine==(p 4).line)=true):
    FnOk prog w K mg base CX 1 f fd ["self",fld] (KJ C code fld):=by
  refine⟨λvs H Q E h=>by obtain⟨a,y,rfl,_⟩:=h;rfl,λA outer s H args us vs Q E hr e0 hb hv hs=>?_⟩;obtain⟨a,y,rfl,ha,hq⟩:=hs;obtain⟨oc,od,fq,oE,kV,doc,pm,an,ct,gG,cZ,rfl,lk,hcd,⟨pR,ow,aiy,ou,file,tf,I4,Ig,HP⟩,cl,Bq,BC,abt⟩:=X.ex;obtain⟨ahM,hcl,YN,aiT,aiU⟩:=X.cls;obtain⟨nm,uS,N,bs,bm,sn,sub,qs,col,dd,k0,k1,k2,k3,k5,hC,HA⟩:=X.zP.cls;cases hv with
  | @cons _ age _ agk r0 hv=>
  cases hv with
  | @cons _ nU _ agk r1 hv=>
  cases hv
  obtain rfl:age=Value.ref a:=r0;have AS:K.In s.heap:=e0.mod.kin.keeps λb o e=>(e0.bs b o e).1
  have lim:s.heap.NoLimit:=e0.mod.nolimit.keeps λb o e=>(e0.bs b o e).1
  obtain⟨uH,ZA,Y4⟩:=e0.mod.blt;obtain⟨t0,Ph⟩:=exo_at e0.hok ha;have oO:s.heap.Ns mainGlobals mg:=e0.mod.glob.keeps λb o e=>(e0.bs b o e).1
  have b0:s.heap.Ns builtinsNs uH:=ZA.keeps λb o e=>(e0.bs b o e).1
  have Cm:clsIn K C=some {name:=nm,bases:=bs,mro:=.ref C::bm,ns:=N,qualname:=uS,hasDict:=true,slotNames:=sn,subclasses:=sub,abstract:=qs,collection:=col,hasDel:=false}:=by unfold clsIn;rw[hC]<;>rfl
  have Xy:=hcl.symm.trans Cm;cases Xy
  obtain⟨yj,YQ,OW⟩:∃yj:Arg,(params.posonlyargs++params.args).head?=some yj/\yj.arg="self":=by
    cases e:(params.posonlyargs++params.args).head? with
    |none=>rw[e]at hp;cases hp
    |some yj=>rw[e]at hp;exact⟨yj,rfl,Option.some.inj hp⟩
  obtain⟨iB,g,d,t,os⟩:=s;have fs:("self"==fld)=false:=by
    cases e:("self"==fld)with
    |false=>rfl
    |true=>exact absurd (eq_of_beq e).symm W.ne2
  have ako:(fld=="self")=false:=by
    cases e:(fld=="self")with
    |false=>rfl
    |true=>exact absurd (eq_of_beq e) W.ne2
  have mR:∀u:Value,(([("self",Value.ref a),(fld,u)]:List (Str×Value)).reverse.lookup ("self":Str))=some (Value.ref a):=λu=>by
    show(([(fld,u),("self",Value.ref a)]:List (Str×Value)).lookup ("self":Str))=_
    rw[List.lookup_cons,fs,List.lookup_cons];rfl
  have Q9:∀u:Value,(([("self",Value.ref a),(fld,u)]:List (Str×Value)).reverse.lookup (fld:Str))=some u:=λu=>by
    show(([(fld,u),("self",Value.ref a)]:List (Str×Value)).lookup fld)=_
    rw[List.lookup_cons,beq_self_eq_true]
  refine ks_codeAny_call_defAt (fd:=ksFn name qual params (uc code fld p j) scope oE kV doc pm an (.ref gG) ct cZ) (body:=uc code fld p j) (binds:=[("self",Value.ref a),(fld,nU)]) hr.depth (AS _ _ lk) rfl lim (codeRec_of AS hcd) rfl hb W.nocell (λy hy=>?_) (λh1 j7 kp=>?_) W.co W.gen W.kind
  · simp only[List.mem_cons,List.not_mem_nil,or_false]at hy
    rcases hy with rfl|rfl
    · exact W.n3
    · exact W.qS
  show _root_.PySem.wpAt (model prog w) _ (.func _ (ksEnv qual scope iB.objs.size f (.ref gG) cZ)) (execs (uc code fld p j) (ksEnv qual scope iB.objs.size f (.ref gG) cZ)) _ _ _
  have vh:K.In h1:=AS.keeps kp;have Co:=kp _ _ Ph;have Hu:=vh _ _ hC;have ZI:∀c,(HandSPX.excO C t0).data≠.cls c:=λc q=>by cases q
  have YM:a≠C:=λz=>by
    rw[z,Hu]at Co;cases Co
  have hint:interactive (ksEnv qual scope iB.objs.size f (.ref gG) cZ)=false:=by
    unfold interactive;simp[Env.blockKind,W.kind]
  unfold uc;refine ks_wpAt_execs_cons (ks_wpAt_Expr_any (hi:=hint) (ks_wpAt_MethodCall ?_ (mc_eq hpos (by rfl))));refine ks_wpAt_super_base (env:=ksEnv qual scope iB.objs.size f (.ref gG) cZ) W.n1 W.n2 (by decide) rfl (vh _ _ lk) rfl YQ rfl (vh _ _ I4) rfl Ig HP W.top ?_;refine ks_loadName_global W.kind W.n1 (Calls.loadGlobal_builtin (env:=ksEnv qual scope iB.objs.size f (.ref gG) cZ) (oO.keeps kp) (mg_none_of AS oO X.sup) (b0.keeps kp) ((Y4 _ (by decide+kernel)).trans (show bootBuiltins "super"=some (.type "super") by first|rfl|kernel_rfl)) ⟨rfl,?_⟩);refine wpAny_loadName_free W.kind W.n2 rfl ⟨_,vh _ _ abt,rfl⟩ ?_;refine wpAny_loadName_local W.kind (by rw[OW];exact W.n3) j7 (by rw[OW];exact mR nU) ?_;refine ks_wpAny_isType_cls Hu rfl ⟨rfl,?_⟩;refine ks_wpAny_call_super Hu rfl Co rfl ZI (looks_mroIn vh X.sub) (λh2 e2 k2=>?_);have vj:K.In h2:=vh.keeps k2;have jN:=k2 _ _ Co;have cJ:InstAt h2 a (HandSPX.excO C t0) C none:=⟨jN,rfl,rfl,trivial⟩;refine kxs_getMethod kxs_ValueError e2 (looks_opaque vj X.acD) (l₀:=Value.ref C::bm) (λA Q E s k q=>wpAny_bind ((looks_clsIn vj Cm) A _ E s k (wpAny_pure q))) rfl vj YN (cJ.type.andThen (looks_subIn vj X.afB)) YM (by decide) ?_;have Pc:(h2.push (kxs_mw "ValueError.__init__" a)).get? h2.objs.size=some (kxs_mw "ValueError.__init__" a):=Heap.get?_push_size _ rfl;have k3:∀b o,h2.get? b=some o->(h2.push (kxs_mw "ValueError.__init__" a)).get? b=some o:=λb o q=>Heap.get?_push_of_some _ q
  have Pd:=(j7.keeps k2).keeps k3;rw[show starEach [Expr.Name fld (p 3)] (ksEnv qual scope iB.objs.size f (.ref gG) cZ)=(false,eval (Expr.Name fld (p 3)) (ksEnv qual scope iB.objs.size f (.ref gG) cZ))::starEach [] (ksEnv qual scope iB.objs.size f (.ref gG) cZ)from rfl];refine kxs_callWith (i:="ValueError.__init__") (x:=a) (by rfl) (PySem.Calls.evalArgs_plain ?_);refine Calls.spliced_cons (wpAny_Name (hd:=W.BF) (wpAny_loadName_local W.kind W.qS Pd (Q9 nU) ?_));refine Calls.spliced_nil ⟨Pc,?_⟩;have V_:∀Y:String,bm.contains (.type Y)=HandSPX.veTail.contains (.type Y):=λY=>HandSPX.refsVE_contains Y bm HA
  refine Wt (M:=model prog w) (k3 _ _ (vj _ _ hC)) V_ (k3 _ _ jN) Pc (by show 1<=sizeLine;rw[sizeLine_eq];omega) (λh4 t1 k4 zb=>?_);have Em:K.In h4:=λb o q=>by
    have hb:=(e0.bs b o (e0.mod.kin _ _ q)).2;have ne:b≠a:=λz=>by
      rw[z,ha]at hb;cases hb
    exact k4 b o ne (k3 _ _ (vj _ _ q))
  have aaw:∀b o,b≠a->iB.get? b=some o->h4.get? b=some o:=λb o n q=>k4 b o n (k3 _ _ (k2 _ _ (kp _ _ q)))
  have LS:iB.objs.size≠a:=λz=>by
    have q:=Heap.lt_size (show iB.get? a=_ from Ph);rw[<-z]at q;exact Nat.lt_irrefl _ q
  have HU:h4.Ns iB.objs.size λx=>([("self",Value.ref a),(fld,nU)]:List (Str×Value)).reverse.lookup x:=by
    obtain⟨o,es,eZ,ho,r⟩:=Pd;exact⟨o,es,eZ,k4 _ _ LS ho,r⟩
  have afH:iB.objs.size<h4.objs.size:=by
    obtain⟨o,es,eZ,ho,r⟩:=HU;exact Heap.lt_size ho
  show _root_.PySem.wpAt (model prog w) _ (.func _ (ksEnv qual scope iB.objs.size f (.ref gG) cZ)) (execs _ (ksEnv qual scope iB.objs.size f (.ref gG) cZ)) _ _ _
  refine ks_wpAt_execs_cons (ks_wpAt_Assign_Attr (wpAt_of_wpAny (Calls.Constant_str ?_)) (by rfl));refine wpAny_Name (wpAny_loadName_local W.kind W.n3 HU (mR nU) ?_);refine set_plain Em (ox:=HandSPX.excO C t1) (od:=none) ⟨zb,rfl,rfl,trivial⟩ X.zP.sa ?_;refine HandSPX.exc_osa Em zb Cm (show HandSPX.refsVE (.ref C::bm)=true from HA) rfl W.f1 (λc6 akC bx k5 dn NN HL Cy=>?_);have LQ:K.In c6:=λb o q=>by
    have hb:=(e0.bs b o (e0.mod.kin _ _ q)).2;have ne:b≠a:=λz=>by
      rw[z,ha]at hb;cases hb
    exact k5 b o ne (Em _ _ q)
  have Pe:c6.Ns iB.objs.size λx=>([("self",Value.ref a),(fld,nU)]:List (Str×Value)).reverse.lookup x:=by
    obtain⟨o,es,eZ,ho,r⟩:=HU;exact⟨o,es,eZ,k5 _ _ LS ho,r⟩
  obtain⟨aco,_,_,ZJ,_⟩:=id Cy;show _root_.PySem.wpAt (model prog w) _ (.func _ (ksEnv qual scope iB.objs.size f (.ref gG) cZ)) (execs _ (ksEnv qual scope iB.objs.size f (.ref gG) cZ)) _ _ _
  refine ks_wpAt_execs_cons (ks_wpAt_Assign_Attr (wpAt_of_wpAny (wpAny_Name (hd:=W.BF) (wpAny_loadName_local W.kind W.qS Pe (Q9 nU) ?_))) (by rfl));refine wpAny_Name (wpAny_loadName_local W.kind W.n3 Pe (mR nU) ?_);refine set_plain LQ (ox:={cls:=.ref C,dict:=some bx,data:=.fields #[.ref t1,.none,.none,.none,.bool false,.none]}) (od:=some aco) ⟨HL,rfl,rfl,ZJ⟩ X.zP.sa ?_;obtain⟨tok,Cy⟩:∃tok,c6.Ns1 bx (λy:Str=>if y=("code":Str)then some (Value.str code tok)else none):=⟨_,Cy⟩;have ad6:RelV (V.str code) (Value.str code tok):=⟨tok,rfl⟩;have SH:∀g,RelO (([("code",V.str code)]:List (Str×V)).lookup g) ((λy:Str=>if y=("code":Str)then some (Value.str code tok)else none) g):=λg=>relO_put (f:="code") (y:=.str code) (fs:=[]) (mA:=λ_=>none) ad6 (λg=>True.intro) g
  refine OEX.osa_old LQ HL Cy (within_of SH) (by simp) Cm (show HandSPX.refsVE (.ref C::bm)=true from HA) rfl W.f2 (λcN akD k6 ZG=>?_);refine wpAt_of_wpAny (wpAny_execs_nil ?_);have NS:iB.objs.size<=bx:=Nat.le_trans (Nat.le_of_lt afH) dn;have nd:∀{b:Addr} {o:Obj},iB.get? b=some o->b≠bx:=λ{b o} q=>Nat.ne_of_lt (Nat.lt_of_lt_of_le (Heap.lt_size q) NS)
  have CL:∀b o,b≠a->iB.get? b=some o->cN.get? b=some o:=λb o n q=>k6 b o (nd q) (k5 b o n (aaw b o n q))
  have O2:=k6 _ _ (Ne.symm NN) HL;have hnd:H bx=none:=e0.hok.fresh NS;have na:∀{b:Addr},H b=none->b≠a:=λ{b} n z=>by
    rw[z,ha]at n;cases n
  refine⟨.non,upd (upd H bx (exd bx [(fld,y),("code",.str code)])) a (exo a C (some bx)),rfl,e0.bare,?_,λb o q=>?_,rfl,hq bx hnd NN⟩
  · exact{
      keep:=λb o q n _ _=>CL b o (na n) q
      slot:=λb o q n _ _=>⟨o.slots,CL b o (na n) q⟩
      free:=λb o q n _=>by rw[upd_ne (na n),upd_ne (nd q)];exact n
      there:=λb o q _=>by
        by_cases hb:b=a
        · exact⟨_,by rw[hb];exact O2⟩
        · exact⟨o,CL b o hb q⟩
      tups:=λb xs q=>by rw[upd_ne (at_ne ha q exo_tup),upd_ne (ne_of_none q hnd)];exact q
      frzs:=λb o v q=>by rw[upd_ne (at_ne ha q exo_frz),upd_ne (ne_of_none q hnd)];exact q
      tbls:=λb ps q=>⟨#[],by rw[upd_ne (at_ne ha q exo_tbl),upd_ne (ne_of_none q hnd),q];simp⟩}
  · by_cases hb:b=a
    · subst hb
      rw[upd_same]at q;cases q
      exact exo_ok O2
    · rw[upd_ne hb]at q
      by_cases hd:b=bx
      · subst hd
        rw[upd_same]at q;cases q
        exact exd_ok ZG (relO_put r1 SH)
      · rw[upd_ne hd]at q
        exact(e0.hok b o q).stay (λc v hc z=>CL c v (by
            rcases hc with hc|hc
            · rw[hc]
              exact hb
            · exact at_ne ha hc exo_own) z)
          (λc hc=>by rw[upd_ne (at_ne ha hc exo_own),upd_ne (ne_of_none hc hnd)];exact hc) (λc xs hc=>by rw[upd_ne (at_ne ha hc exo_tup),upd_ne (ne_of_none hc hnd)];exact hc)
end
def BW (c:Nat)(code fld:Str):List af->Ev ck:=λss M=>match iA M ss with
 |some ([d],ao)=>.ret (.ex c [(fld,d),("code",.str code)] ao)
 |_=>.bad
def uU (c:Nat)(code fld:Str)(qz:CE):aQ:=λρ=>(aq qz aB ρ).bind (BW c code fld)
structure yc (D:f6)(x:Str)(c:Nat)(code fld:Str):Prop where
 zP:OexC D.K (bQ D.K c)
 ex:∃(BY:Addr) (fd:FuncData),PySem.W.findIn D.K (.ref (bQ D.K c)) "__init__"=some (some (.ref BY))/\PySem.W.typeIn D.K (.ref BY)=some (.type "function")/\
  FnOk D.prog D.w D.K D.mg D.base (L2.CX D.prog D.w) 1 BY fd ["self",fld] (KJ (bQ D.K c) code fld)/\Binds D.K fd ["self",fld] []
 mg:D.mg x=some (.ref (bQ D.K c))
section
variable{X:Cx}{W:WX}{e:Expr}{aJ:CE}{x code fld:Str}{c k:Nat}{dI cI fS:Pos}
theorem Xq {H:Hp}{a bx:Addr}{o1 lX acn RV:HO}(ha:H a=none)(hne:bx≠a):upd (del (upd (upd (upd H a o1) bx lX) a acn) a) bx RV=upd H bx RV:=by
 funext b
 by_cases hb:b=bx
 ·rw[hb,upd_same,upd_same]
 ·rw[upd_ne hb,upd_ne hb]
  by_cases h2:b=a
  ·rw[h2,del_same,ha]
  ·rw[del_ne h2,upd_ne h2,upd_ne hb,upd_ne h2]
theorem DE (F:yc X.gj x c code fld)(hc:X.calm=true)(tk:Takes X W)(hr:Room (k+1) X.A)(hk:1<=k)(G:dW X x)(h1:aV X W e aJ)
    (he:starEach [e] X.env=(false,eval e X.env)::starEach [] X.env:=by rfl):iI X W (.Raise (some (.Call (.Name x dI) [e] [] cI)) none fS) (uU c code fld aJ):=⟨λρ M aa gO σ H D ms en h=>by
  obtain⟨BY,fd,Z5,afK,eg,hb⟩:=F.ex;refine toS (ps_raise hc tk (pmk_oex F.zP Z5 afK eg (hr.mono (by omega)) hb .nil (passes_call tk λ_ _ _ _ z=>z.elim) G.gl F.mg uN G.nd he)) ?_;refine(aD h1 bq he).m5 ms en h λav au M1 H1 vs ss g1 m1 r1 aC=>?_
  unfold BW at aC;split at aC
  · rename_i d M2 e1
    obtain⟨aU,m2,g2,r2⟩:=yO m1 r1 e1;cases r2 with
    | @cons y DU _ _ d7 adm=>
    cases adm
    refine⟨by simp,λa ha=>⟨a,y,rfl,upd_same,λbx r9 hne=>⟨rfl,bx,[(fld,y),("code",.str code)],upd_same,?_,?_,?_⟩⟩⟩
    · rw[upd_ne hne,upd_same]
    · rw[upd_ne hne]at r9
      exact r9
    · rw[upd_ne hne]at r9
      rw[Xq ha hne];have pu:=Pure.new (o:=.xd [(fld,y),("code",.str code)]) m2.le r9;exact aC σ av _ _ bx _ (g2.trans pu.grow) (m2.pure pu) upd_same (.cons (bK.mono pu.ex d7) (.cons (.str code) .nil))
  · exact aC.elim⟩
end
abbrev gn:=List (Addr×Obj)
def c7 (L:gn)(H:Hp):Hp:=λb=>match L.lookup b with
 |some o=>some (bM b o)
 |none=>H b
def cK (L:gn)(H:Hp):Hp:=λb=>match L.lookup b with
 |some _=>none
 |none=>H b
structure AV (L:gn)(base:Heap)(fs:List Addr)(h:Heap)(H:Hp):Prop where
 at_:∀b o,L.lookup b=some o->h.get? b=some o/\H b=none/\b∉fs/\base.get? b=none
section
variable{L:gn}{H G:Hp}{b:Addr}{o:Obj}
theorem mQ (h:L.lookup b=some o):c7 L H b=some (bM b o):=by unfold c7;rw[h]
theorem dj (h:L.lookup b=none):c7 L H b=H b:=by unfold c7;rw[h]
theorem back_in (h:L.lookup b=some o):cK L H b=none:=by unfold cK;rw[h]
theorem cB (h:L.lookup b=none):cK L H b=H b:=by unfold cK;rw[h]
theorem Jt {x:Addr}:bM b o≠.own x:=λz=>by unfold bM at z;cases z
theorem wX {xs:List V}:bM b o≠.tup xs:=λz=>by unfold bM at z;cases z
theorem Ny {c:Addr}{q:Str}{o:Obj}:LamX.CodeO c q≠bM c o:=λz=>by
 unfold LamX.CodeO bM at z
 injection z with z
 have key:∀vs:Array Value,vs[1]?=some (.str q 0)->o={cls:=.none,data:=.fields vs}:=λvs hv=>by
  have e:=congrFun z {objs:=Array.replicate (c+1) {cls:=.none,data:=.fields vs}};have g:(({objs:=Array.replicate (c+1) {cls:=.none,data:=.fields vs}}:Heap)).get? c=some {cls:=.none,data:=.fields vs}:=by
   unfold Heap.get?;rw[show(Array.replicate (c+1) ({cls:=.none,data:=.fields vs}:Obj))[c]?=some {cls:=.none,data:=.fields vs}from by simp]
  have l:∃(oc:Obj) (DU:Array Value) (t:Tok),(({objs:=Array.replicate (c+1) {cls:=.none,data:=.fields vs}}:Heap)).get? c=some oc/\oc.data=.fields DU/\DU[1]?=some (.str q t):=⟨_,vs,0,g,rfl,hv⟩;have r:=e.mp l;rw[g]at r;exact(Option.some.inj r).symm
 have h1:=key #[.none,.str q 0] rfl;have h2:=key #[.none,.str q 0,.none] rfl;rw[h1]at h2;simp at h2
theorem aaH {c' tp:Addr}{T:eo}{cl:List (Str×Addr)}{f:Addr}:rJ f T cl c' tp≠bM f o:=λz=>by
 unfold rJ bM at z
 injection z with z
 have key:∀pm:Value,o={cls:=.type "function",data:=.func (ju T cl c' tp pm .none .none)}:=λpm=>by
  have e:=congrFun z {objs:=Array.replicate (f+1) {cls:=.type "function",data:=.func (ju T cl c' tp pm .none .none)}};have g:(({objs:=Array.replicate (f+1) {cls:=.type "function",data:=.func (ju T cl c' tp pm .none .none)}}:Heap)).get? f=some {cls:=.type "function",data:=.func (ju T cl c' tp pm .none .none)}:=by
   unfold Heap.get?;rw[show(Array.replicate (f+1) ({cls:=.type "function",data:=.func (ju T cl c' tp pm .none .none)}:Obj))[f]?=some {cls:=.type "function",data:=.func (ju T cl c' tp pm .none .none)}from by simp]
  have r:=e.mp ⟨pm,.none,.none,g⟩;rw[g]at r;exact(Option.some.inj r).symm
 have h1:=key .none;have h2:=key .ellipsis;rw[h1]at h2;have h3:=congrArg (λo:Obj=>match o.data with|.func fd=>fd.pyModule|_=>.none) h2;cases h3
theorem gz {u:HO}(hl:∀b o,L.lookup b=some o->G b=some (bM b o))(h:G b=some u)(n:∀o,u≠bM b o):L.lookup b=none:=by
 cases e:L.lookup b with
 |none=>rfl
 |some o=>
  have:=hl b o e;rw[h]at this;exact absurd (Option.some.inj this) (n o)
end
section
variable{P:Program}{w:World}{K:Frag}{mg:Str->Option Value}{base:Heap}{A:Around}{outer:List Env}{s aF:Shared}{H:Hp}{L:gn}{Q:VK}{u:Value}
theorem UO (e:Env0 P w K mg base A outer s H)(l:AV L base (frs outer) s.heap H):Env0 P w K mg base A outer s (c7 L H):=by
 refine⟨e.frames,e.mod,λb o q=>?_,e.bsz,e.funs,λb hb=>?_,λb u q=>?_,e.bare⟩
 ·have:=e.bs b o q
  cases z:L.lookup b with
  |none=>rw[dj z];exact this
  |some cj=>
   have:=(l.at_ b cj z).2.2.2;rw[q]at this;cases this
 ·cases z:L.lookup b with
  |none=>rw[dj z];exact e.frf b hb
  |some cj=>exact absurd hb (l.at_ b cj z).2.2.1
 ·cases z:L.lookup b with
  |some cj=>
   rw[mQ z]at q;cases q
   have hb:=(l.at_ b cj z).1;exact⟨hb,⟨cj,hb⟩,λh1 h2 p st=>st _ p⟩
  |none=>
   rw[dj z]at q;refine(e.hok b u q).stay (λc v _ y=>y) (λc y=>?_) λc xs y=>?_
   ·cases d_:L.lookup c with
    |none=>rw[dj d_];exact y
    |some cj=>
     have:=(l.at_ c cj d_).2.1;rw[y]at this;cases this
   ·cases d_:L.lookup c with
    |none=>rw[dj d_];exact y
    |some cj=>
     have:=(l.at_ c cj d_).2.1;rw[y]at this;cases this
theorem WO (l:AV L base (frs outer) s.heap H)(hq:∀v H',Q v H'->∀b o,L.lookup b=some o->H' b=some (bM b o))(h:L2.CE outer P w (c7 L H) s Q u aF):
    L2.CE outer P w H s (λv Eh=>∃H',Q v H'/\Eh=cK L H') u aF:=by
  obtain⟨v,H',os,bare,un,hok,bL,q⟩:=h;have told:=hq v H' q;have nl:∀b,(∃u,H b=some u)->L.lookup b=none:=λb ⟨u,hu⟩=>by
    cases z:L.lookup b with
    |none=>rfl
    |some o=>
      have:=(l.at_ b o z).2.1;rw[hu]at this;cases this
  refine⟨v,cK L H',os,bare,?_,λb u hb=>?_,bL,H',q,rfl⟩
  · exact{
      keep:=λb o e n hf hx=>by
        cases z:L.lookup b with
        |some cj=>
          have h1:=(l.at_ b cj z).1;rw[e]at h1;cases h1
          exact(hok b _ (told b _ z)).1
        |none=>exact un.keep b o e (by rw[dj z];exact n) hf hx
      slot:=λb o e n hf hx=>by
        cases z:L.lookup b with
        |some cj=>exact absurd hf (l.at_ b cj z).2.2.1
        |none=>exact un.slot b o e (by rw[dj z];exact n) hf hx
      free:=λb o e n hx=>by
        cases z:L.lookup b with
        |some cj=>exact back_in z
        |none=>rw[cB z];exact un.free b o e (by rw[dj z];exact n) hx
      there:=λb o e hx=>un.there b o e hx
      tups:=λb xs e=>by
        have z:=nl b ⟨_,e⟩;rw[cB z];exact un.tups b xs (by rw[dj z];exact e)
      frzs:=λb o v e=>by
        have z:=nl b ⟨_,e⟩;rw[cB z];exact un.frzs b o v (by rw[dj z];exact e)
      tbls:=λb ps e=>by
        have z:=nl b ⟨_,e⟩;rw[cB z];exact un.tbls b ps (by rw[dj z];exact e)}
  · cases z:L.lookup b with
    |some cj=>rw[back_in z]at hb;cases hb
    |none=>
      rw[cB z]at hb;refine(hok b u hb).stay (λc v _ y=>y) (λc y=>?_) λc xs y=>?_
      · rw[cB (gz told y λo=>Ne.symm Jt)];exact y
      · rw[cB (gz told y λo=>Ne.symm wX)];exact y
end
mutual
def fj:D->Bool
 | .lst xs=>iR xs
 | .tup xs=>iR xs
 | .dK xs=>Dc xs
 | .dT xs=>Dd xs
 | .ins _ xs=>C_ xs
 | .exc _ _=>false
 | .cL _ _=>false
 |_=>true
def iR:List D->Bool
 |[]=>true
 |d::r=>fj d&&iR r
def Dc:List (Key×D)->Bool
 |[]=>true
 |(_,d)::r=>fj d&&Dc r
def Dd:List (List Key×D)->Bool
 |[]=>true
 |(_,d)::r=>fj d&&Dd r
def C_:List (Str×D)->Bool
 |[]=>true
 |(_,d)::r=>fj d&&C_ r
end
section
variable{K:Frag}{G:Hp}{L:gn}
theorem aaG (hl:∀b o,L.lookup b=some o->G b=some (bM b o)){f c' tp:Addr}{T:eo}{cl:List (Str×Addr)}(h:pO G f T cl c' tp):pO (cK L G) f T cl c' tp:=
 ⟨(cB (gz hl h.f λo=>aaH)).trans h.f,(cB (gz hl h.c λo=>Ny)).trans h.c,λz=>(cB (gz hl (h.t z) λo w=>by unfold bM at w;cases w)).trans (h.t z)⟩
theorem SG (hl:∀b o,L.lookup b=some o->G b=some (bM b o)){a:Addr}{u:HO}(hn:∀o,u≠bM a o)(h:Rd G a u):Rd (cK L G) a u:=by
 rcases h with h|⟨o,h⟩
 ·exact .inl ((cB (gz hl h hn)).trans h)
 ·exact .inr ⟨o,(cB (gz hl h λcj z=>by unfold bM at z;cases z)).trans h⟩
mutual
theorem sM (hl:∀b o,L.lookup b=some o->G b=some (bM b o)):∀{v:V} {d:D},fj d=true->bK K G v d->bK K (cK L G) v d
 |_,_,_,.non=>.non
 |_,_,_,.bl b=>.bl b
 |_,_,_,.int i=>.int i
 |_,_,_,.str x=>.str x
 |_,_,n,.lst h r=>.lst ((cB (gz hl h λo z=>by unfold bM at z;cases z)).trans h) (Dt hl (by simpa[fj]using n) r)
 |_,_,_,.d9 h=>.d9 (h.elim (λh=>.inl (SG hl (λo z=>by unfold bM at z;cases z) h)) .inr)
 |_,_,n,.tup h r=>.tup ((cB (gz hl h λo z=>by unfold bM at z;cases z)).trans h) (Dt hl (by simpa[fj]using n) r)
 |_,_,n,.dK h r=>.dK (SG hl (λo z=>by unfold bM at z;cases z) h) (SR hl (by simpa[fj]using n) r)
 |_,_,n,.dT h r=>.dT ((cB (gz hl h λo z=>by unfold bM at z;cases z)).trans h) (S1 hl (by simpa[fj]using n) r)
 |_,_,n,.ins h r=>.ins ((cB (gz hl h λo z=>by unfold bM at z;cases z)).trans h) (SQ hl (by simpa[fj]using n) r)
 |_,_,n,.exc _ _ _ _=>by simp[fj]at n
 |_,_,n,.cL _ _ _=>by simp[fj]at n
 |_,_,_,.lam h=>.lam (aaG hl h)
theorem Dt (hl:∀b o,L.lookup b=some o->G b=some (bM b o)):∀{v:List V} {d:List D},iR d=true->bJ K G v d->bJ K (cK L G) v d
 |_,_,_,.nil=>.nil
 |_,_,n,.cons h r=>by
  unfold iR at n;rw[Bool.and_eq_true]at n;exact .cons (sM hl n.1 h) (Dt hl n.2 r)
theorem SQ (hl:∀b o,L.lookup b=some o->G b=some (bM b o)):∀{v:List (Str×V)} {d:List (Str×D)},C_ d=true->fG K G v d->fG K (cK L G) v d
 |_,_,_,.nil=>.nil
 |_,_,n,.cons h r=>by
  unfold C_ at n;rw[Bool.and_eq_true]at n;exact .cons (sM hl n.1 h) (SQ hl n.2 r)
theorem SR (hl:∀b o,L.lookup b=some o->G b=some (bM b o)):∀{v:List (Key×V)} {d:List (Key×D)},Dc d=true->lD K G v d->lD K (cK L G) v d
 |_,_,_,.nil=>.nil
 |_,_,n,.cons h r=>by
  unfold Dc at n;rw[Bool.and_eq_true]at n;exact .cons (sM hl n.1 h) (SR hl n.2 r)
theorem S1 (hl:∀b o,L.lookup b=some o->G b=some (bM b o)):∀{v:List (List Key×V)} {d:List (List Key×D)},Dd d=true->ni K G v d->ni K (cK L G) v d
 |_,_,_,.nil=>.nil
 |_,_,n,.cons h r=>by
  unfold Dd at n;rw[Bool.and_eq_true]at n;exact .cons (sM hl n.1 h) (S1 hl n.2 r)
end
def gW:af->Bool
 | .dat d=>fj d
 |_=>true
def fR:ak->Bool
 | .fz (some d)=>fj d
 | .lst xs=>xs.all gW
 | .dK xs=>xs.all λp=>gW p.2
 | .dT xs=>xs.all λp=>gW p.2
 | .ins _ xs=>xs.all λp=>gW p.2
 | .qx xs=>xs.all λp=>fj p.1&&fj p.2
 |_=>true
variable{aa:List Addr}{H:Hp}{M:List ak}
theorem z3 (hl:∀b o,L.lookup b=some o->G b=some (bM b o)){v:V}{s:af}(n:gW s=true)(r:bz K aa G v s):bz K aa (cK L G) v s:=by
 cases s with
 |un=>trivial
 |dat d=>exact sM hl n r
 |mu j=>exact r
 |raw w=>exact r
theorem S0 (hl:∀b o,L.lookup b=some o->G b=some (bM b o)):∀{v:List V} {s:List af},s.all gW=true->bA K aa G v s->bA K aa (cK L G) v s
 |_,_,_,.nil=>.nil
 |_,_::_,n,.cons r t=>by
  rw[List.all_cons,Bool.and_eq_true]at n;exact .cons (z3 hl n.1 r) (S0 hl n.2 t)
theorem Du {cW:Type}(hl:∀b o,L.lookup b=some o->G b=some (bM b o)):∀{v:List (cW×V)} {s:List (cW×af)},(s.all λp=>gW p.2)=true->gp K aa G v s->gp K aa (cK L G) v s
 |_,_,_,.nil=>.nil
 |_,_::_,n,.cons r t=>by
  rw[List.all_cons,Bool.and_eq_true]at n;exact .cons ⟨r.1,z3 hl n.1 r.2⟩ (Du hl n.2 t)
theorem N1 (hl:∀b o,L.lookup b=some o->G b=some (bM b o)):∀{es:List DictEntry} {s:List (D×D)},(s.all λp=>fj p.1&&fj p.2)=true->Paired (vd K G) es s->Paired (vd K (cK L G)) es s
 |_,_,_,.nil=>.nil
 |_,_::_,n,.cons r t=>by
  rw[List.all_cons,Bool.and_eq_true,Bool.and_eq_true]at n;obtain⟨b,v,k,h1,h2,h3,h4⟩:=r;exact .cons ⟨b,v,k,h1,sM hl n.1.1 h2,sM hl n.1.2 h3,h4⟩ (N1 hl n.2 t)
theorem Rj (hl:∀b o,L.lookup b=some o->G b=some (bM b o))(ha:∀a∈aa,L.lookup a=none)(hn:M.all fR=true)(ms:aE K aa G M H):aE K aa (cK L G) M (cK L H):=by
 refine⟨λb u e=>?_,ms.len,ms.nd,λj a m h1 h2=>?_,λa h=>by rw[cB (ha a h)];exact ms.dQ a h⟩
 ·cases z:L.lookup b with
  |some o=>rw[back_in z]at e;cases e
  |none=>rw[cB z]at e⊢;exact ms.le b u e
 ·have nW:=ha a (List.mem_of_getElem? h1)
  obtain⟨q1,q2⟩:=ms.mo j a m h1 h2;refine⟨λy=>by rw[cB nW];exact q1 y,?_⟩;have nm:=List.all_eq_true.mp hn m (List.mem_of_getElem? h2);cases m with
  |fz o=>exact⟨q2.1.imp λu q=>⟨(cB nW).trans q.1,q.2⟩,λd e=>by subst e;exact sM hl nm (q2.2 d rfl)⟩
  |hand=>
   obtain⟨s,ns,i,d,x,y,e1,e2,e3⟩:=q2;exact⟨s,ns,i,d,x,y,(cB nW).trans e1,(cB (gz hl e2 λo z=>by unfold bM at z;cases z)).trans e2,e3⟩
  |tab i=>
   obtain⟨e0,ps,e1,e2,e3⟩:=q2;refine⟨e0,ps,(cB nW).trans e1,e2,λpos ie hc=>?_⟩;obtain⟨c,f1,f2⟩:=e3 pos ie hc;refine⟨c,f1,?_⟩;exact(cB (gz hl f2 λo=>Ny)).trans f2
  |lst xs=>obtain⟨vs,e1,e2⟩:=q2;exact⟨vs,(cB nW).trans e1,S0 hl nm e2⟩
  |dK xs=>obtain⟨vs,e1,e2⟩:=q2;exact⟨vs,(cB nW).trans e1,Du hl nm e2⟩
  |dT xs=>obtain⟨vs,e1,e2⟩:=q2;exact⟨vs,(cB nW).trans e1,Du hl nm e2⟩
  |ins c xs=>obtain⟨bx,vs,e1,e2⟩:=q2;exact⟨bx,vs,(cB nW).trans e1,Du hl nm e2⟩
  |qx xs=>obtain⟨h0,es,eZ,e1,e2⟩:=q2;exact⟨h0,es,eZ,(cB nW).trans e1,N1 hl nm e2⟩
end
section
variable{K:Frag}{aa:List Addr}{G H:Hp}{M:List ak}{L:gn}
theorem ud (hl:∀b o,L.lookup b=some o->H b=none)(le:dM G H):b6 G (c7 L G):=λa o h=>by
 cases z:L.lookup a with
 |none=>rw[dj z];exact h
 |some cj=>
  have:=hl a cj z;rcases le a o h with y|⟨_,_,y⟩<;>rw[this]at y<;>cases y
theorem o5 (hl:∀b o,L.lookup b=some o->H b=none){a:Addr}(h:H a≠none):L.lookup a=none:=by
 cases z:L.lookup a with
 |none=>rfl
 |some cj=>exact absurd (hl a cj z) h
theorem C3 (hl:∀b o,L.lookup b=some o->H b=none)(ms:aE K aa G M H):aE K aa (c7 L G) M (c7 L H):=by
 refine⟨λa o h=>?_,ms.len,ms.nd,λj a m e1 e2=>?_,λa ha=>?_⟩
 ·cases z:L.lookup a with
  |none=>rw[dj z]at h⊢;exact ms.le a o h
  |some cj=>rw[mQ z]at h⊢;exact .inl h
 ·have nW:=o5 hl (ms.dQ a (List.mem_of_getElem? e1))
  obtain⟨q1,q2⟩:=ms.mo j a m e1 e2;exact⟨λy=>by rw[dj nW];exact q1 y,q2.mono (ud hl ms.le) (λ_ _ y=>y) (dj nW)⟩
 ·rw[dj (o5 hl (ms.dQ a ha))];exact ms.dQ a ha
theorem uF {aj:List Addr}{ai H':Hp}(g:aG aa (c7 L G) (c7 L H) aj ai H'):∀b o,L.lookup b=some o->ai b=some (bM b o):=λb o z=>g.ex b _ (mQ z)
theorem Q3 {aj:List Addr}{ai H':Hp}{ao:List ak}(g:aG aa (c7 L G) (c7 L H) aj ai H')(m:aE K aj ai ao H'):∀b o,L.lookup b=some o->H' b=some (bM b o):=λb o z=>by
 rcases m.le b _ (uF g b o z)with y|⟨y,_⟩
 ·exact y
 ·unfold bM at y;cases y
theorem OP {aj:List Addr}{ai H':Hp}(hl:∀b o,L.lookup b=some o->H b=none)(le:dM G H)(g:aG aa (c7 L G) (c7 L H) aj ai H'):aG aa G H aj (cK L ai) (cK L H'):=by
 have hG:∀a,G a≠none->L.lookup a=none:=λa h=>by
  cases z:L.lookup a with
  |none=>rfl
  |some cj=>
   have:=hl a cj z;cases q:G a with
   |none=>exact absurd q h
   |some u=>rcases le a u q with y|⟨_,_,y⟩<;>rw[this]at y<;>cases y
 obtain⟨more,e,hm⟩:=g.pre;refine⟨λa o h=>?_,⟨more,e,λa ha=>?_⟩,λa o h n=>?_,λa h n=>?_,λa h=>?_⟩
 ·have z:=hG a (by rw[h];simp)
  rw[cB z];exact g.ex a o (by rw[dj z];exact h)
 ·have:=hm a ha
  cases z:L.lookup a with
  |none=>rw[dj z]at this;exact this
  |some cj=>rw[mQ z]at this;cases this
 ·have z:=o5 hl (a:=a) (by rw[h];simp)
  rw[cB z];exact g.fr a o (by rw[dj z];exact h) n
 ·have z:=o5 hl h
  rcases g.jM a (by rw[dj z];exact h) n with y|⟨xs,rA,m8⟩
  ·exact .inl (by rw[cB z,y,dj z])
  ·exact .inr ⟨xs,(dj z).symm.trans rA,(cB z).trans m8⟩
 ·have z:=o5 hl h
  rw[cB z];exact g.dQ a (by rw[dj z];exact h)
end
def vP:Re af->T (Re af)
 | .ok s M=>if gW s&&M.all fR then .ret (.ok s M)else .bad
 | .ex _ _ _=>.bad
section
variable{X:Cx}{W:WX}{f:Addr}{fd:FuncData}{ps:List Str}{k n:Nat}{F:aK}{pins:List (Addr×Obj)}{σ:L2.St}{H:Hp}{s:Shared}{Q:VK}{us:List Value}{vs:List V}{A1:Around}{L:gn}{aa:List Addr}{G:Hp}{M:List ak}{ss:List af}
theorem Wr (eg:FnOk X.prog X.w X.K X.mg X.base (L2.CX X.prog X.w) k f fd ps (fM X.K n F))(hb:Binds X.K fd ps [])(hr:Room k A1)(hf:A1.frames=X.A.frames)
    (I:Inv X pins σ H s) (l:AV L X.base (frs X.stack) s.heap H) (bL:Vals vs us) (ms:aE X.K aa G M H) (rs:bA X.K aa (c7 L G) vs ss) (hn:ss.length=n)
    (w:wp ((F ss M).bind vP) (jW X.K Q (λ_ _ _=>False) aa G H)):wpAny (model X.prog X.w) A1 (call (.ref f) us) (EP X pins σ Q) X.xe s:=by
  have hl:∀b o,L.lookup b=some o->H b=none:=λb o z=>(l.at_ b o z).2.1
  have e0:Env0 X.prog X.w X.K X.mg X.base A1 X.stack s H:=by
    have e:=I.env0;exact⟨by rw[hf];exact e.frames,e.mod,e.bs,e.bsz,e.funs,e.frf,e.hok,e.bare⟩
  let Ez:VK:=λv H'=>(∀b o,L.lookup b=some o->H' b=some (bM b o))/\Q v (cK L H')
  have sp:fM X.K n F vs (c7 L H) Ez (λ_ _ _=>False):=by
    refine⟨aa,c7 L G,M,ss,C3 hl ms,rs,hn,wp_mono (λr hr=>?_) (wp_bind.mp w)⟩;cases r with
    |ex c fs M2=>exact(show False from hr).elim
    |ok t M2=>
      intro aj ai H' v g m r;have hr:wp (if gW t&&M2.all fR then .ret (.ok t M2)else .bad) (jW X.K Q (λ_ _ _=>False) aa G H):=hr;split at hr
      · rename_i hh
        rw[Bool.and_eq_true]at hh;have hr:jW X.K Q (λ_ _ _=>False) aa G H (.ok t M2):=hr;have sW:=uF g;have ha:∀a∈aj,L.lookup a=none:=λa ha=>by
          obtain⟨more,e,hm⟩:=g.pre;rw[e]at ha;rcases List.mem_append.mp ha with z|z
          · exact o5 hl (ms.dQ a z)
          · have:=hm a z
            cases q:L.lookup a with
            |none=>rfl
            |some cj=>rw[mQ q]at this;cases this
        exact⟨Q3 g m,hr aj (cK L ai) (cK L H') v (OP hl ms.le g) (Rj sW ha hh.2 m) (z3 sW hh.1 r)⟩
      · exact(show False from hr).elim
  have hlen:us.length=ps.length:=by rw[<-bL.length];exact eg.len _ _ _ _ sp
  refine wpAny_call (codeAny_mono (eg.run A1 X.stack s (c7 L H) ⟨us,[]⟩ us vs Ez _ hr (UO e0 l) (by
    have:=hb s us I.kIn (by simpa using hlen);simpa using this) bL sp) λr aF hq=>?_)
  cases r with
  |error e=>
    obtain⟨_,_,_,_,_,_,_,_,_,_,_,_,z⟩:=hq;exact z.elim
  |ok fK=>
    cases fK with
    |ret w=>
      have c:=WO l (Q:=Ez) (λv H' q=>q.1) hq;obtain⟨v,aO,cJ,w_,H',q,rfl⟩:=I.after c;exact⟨v,_,cJ,w_,q.2⟩
    |next=>exact False.elim hq
    |brk=>exact False.elim hq
    |cont=>exact False.elim hq
end
structure AW (X:Cx)(di:Nat):Prop where
 ex:∃c,X.env.code=.ref c/\LamX.TabB X.base X.mg c (aI.tab di)
structure AU (X:Cx)(di i:Nat)(params:Arguments)(body:Expr)(scope:Scope):Prop where
 q:(aI.txt i).qual=X.env.qual++"<lambda>"
 jU:aI.jU di=X.env.qual++"<lambda>"
 p:(aI.txt i).params=params
 b:(aI.txt i).body=body
 s:(aI.txt i).scope=scope
 cl:aI.cells=X.env.cells
 free:∀y∈scope.names,y.2=.free->∃c,X.env.cells.lookup y.1=some c
section
variable{X:Cx}{W:WX}{pins:List (Addr×Obj)}{σ:L2.St}{H G:Hp}{s:Shared}{aa:List Addr}{M:List ak}{pos:Pos}{di i:Nat}{params:Arguments}{body:Expr}{scope:Scope}
theorem aaE {P:Program}{w:World}{H:Hp}{h:Heap}{f c' tp:Addr}{T:eo}{cl:List (Str×Addr)}{pm ctv doc:Value}(e:h.get? f=some {cls:=.type "function",data:=.func (ju T cl c' tp pm ctv doc)}):ObjOk P w H h f (rJ f T cl c' tp):=
 ⟨⟨pm,ctv,doc,e⟩,⟨_,e⟩,λh1 h2 ⟨a,b,c,z⟩ st=>⟨a,b,c,st _ z⟩⟩
theorem QV {T:eo}{cl:List (Str×Addr)}{tp c':Addr}{Q:VK}{h':Heap}{t0 t':Nat}{pm ctv doc:Value}(hn:T.params=params)(ms:aE X.K aa G M H)(I:Inv X pins σ H {s with heap:=h',toks:=t0})(hc:G c'=some (LamX.CodeO c' T.qual))(ht:T.dfl=true->G tp=some (.tup [.int 0]))
    (q:∀ai H' f,Pure G H ai H'->aE X.K aa ai M H'->pO ai f T cl c' tp->Q (.ref f) H'):
    EP X pins σ Q (.ref h'.objs.size) {s with heap:=h'.push {cls:=.type "function",data:=.func (ju T cl c' tp pm ctv doc)},toks:=t'}:=by
  have hf:H h'.objs.size=none:=I.hok.fresh (Nat.le_refl _);have pu:=Pure.new (o:=rJ h'.objs.size T cl c' tp) ms.le hf;have cJ:Inv X pins σ (upd H h'.objs.size (rJ h'.objs.size T cl c' tp)) {s with heap:=h'.push {cls:=.type "function",data:=.func (ju T cl c' tp pm ctv doc)},toks:=t'}:=
    Inv.laid (s:={s with heap:=h',toks:=t0}) I (λb u e=>Heap.get?_push_of_some _ e) (Nat.le_refl _) (aaE (pm:=pm) (ctv:=ctv) (doc:=doc) (Heap.get?_push_size _ rfl))
  exact⟨.ref h'.objs.size,_,cJ,rfl,q _ _ _ pu (ms.pure pu) ⟨upd_same,pu.ex _ _ hc,λz=>pu.ex _ _ (ht z)⟩⟩
theorem afQ {P c':Addr}{ps more:Array Value}(ms:aE X.K aa G M H)(h1:aa[di]?=some P)(h2:M[di]?=some (.tab di))(hP:H P=some (.tbl ps))(hc:H c'=none)
    (ht:TriplesOk (ps++more).toList) (ha:∀(pos:Pos) (ie:Value),codeAmong pos (ps++more).toList=some ie->(∃c,ie=.ref c/\G c=some (LamX.CodeO c (aI.jU di)))\/ie=.ref c'):
    ∃ai,aG aa G H aa ai (upd (upd H P (.tbl (ps++more))) c' (LamX.CodeO c' (aI.jU di)))/\aE X.K aa ai M (upd (upd H P (.tbl (ps++more))) c' (LamX.CodeO c' (aI.jU di)))/\ai c'=some (LamX.CodeO c' (aI.jU di))/\b6 G ai:=by
  have pu:=Pure.new (o:=LamX.CodeO c' (aI.jU di)) ms.le hc;have m1:=ms.pure pu;have ne:P≠c':=ne_of_none hP hc;have Xz:upd (upd H P (.tbl (ps++more))) c' (LamX.CodeO c' (aI.jU di))=upd (upd H c' (LamX.CodeO c' (aI.jU di))) P (.tbl (ps++more)):=by
    funext b
    by_cases hb:b=c'
    · rw[hb,upd_same,upd_ne (Ne.symm ne),upd_same]
    · by_cases hp:b=P
      · rw[hp,upd_ne ne,upd_same,upd_same]
      · rw[upd_ne hb,upd_ne hp,upd_ne hp,upd_ne hb]
  obtain⟨GO,_⟩:=(ms.mo di P _ h1 h2).2;have Rl:=m1.write (m':=.tab di) (o:=.tbl (ps++more)) h1 h2 trivial (by
    refine⟨GO,ps++more,upd_same,ht,λpos ie e=>?_⟩;rcases ha pos ie e with⟨c,e1,e2⟩|e1
    · exact⟨c,e1,pu.ex _ _ e2⟩
    · exact⟨c',e1,upd_same⟩)
  have ji:M.set di (.tab di)=M:=by
    refine List.ext_getElem? λn=>?_
    by_cases hn:di=n
    · subst hn
      rw[List.getElem?_set_self (List.getElem?_eq_some_iff.mp h2).1,h2]
    · rw[List.getElem?_set_ne hn]
  rw[ji]at Rl;rw[Xz];refine⟨_,pu.grow.trans (aG.write (List.mem_of_getElem? h1) ?_),Rl,upd_same,pu.ex⟩;rw[upd_ne ne,hP];simp
end
section
variable{X:Cx}{W:WX}{pins:List (Addr×Obj)}{σ:L2.St}{H G:Hp}{s:Shared}{aa:List Addr}{M:List ak}{pos:Pos}{di i:Nat}{params:Arguments}{body:Expr}{scope:Scope}
def jr (di i:Nat):CE:=λ_ M=>match M[di]? with
 |some (.tab j)=>if j=di then .ret (.ok (.dat (.lam i)) M)else .bad
 |_=>.bad
theorem QW {tp:Addr}{Q:VK}{oE:Value}{E:Value->Shared->Prop}(F:AW X di)(L:AU X di i params body scope)(ms:aE X.K aa G M H)(hM:M[di]?=some (.tab di))(I:Inv X pins σ H s)(ht:(aI.txt i).dfl=true->G tp=some (.tup [.int 0]))(hd:oE=if(aI.txt i).dfl then .ref tp else .none)
    (q:∀ai H' f c',aG aa G H aa ai H'->aE X.K aa ai M H'->pO ai f (aI.txt i) (cloFrom aI.cells (aI.txt i).scope.names []) c' tp->Q (.ref f) H'):
    wpAny (model X.prog X.w) X.A (makeTail "<lambda>" (X.env.qual++"<lambda>") params (.expr body) scope X.env oE .none none pos pos.line) (EP X pins σ Q) E s:=by
  obtain⟨c,hcode,TB⟩:=F.ex;obtain⟨P,OR,_⟩:=ms.ad hM;obtain⟨GO,ps,hP,j8,ha⟩:=(ms.mo di P _ OR hM).2;subst GO;have MV:=TB.bm.keeps I.bk;have M6:=TB.code.keeps I.bk;have gP:=I.mod.glob.keeps I.bk;have RW:s.heap.get? (aI.tab di)=some {cls:=.none,data:=.fields ps}:=I.hok _ _ hP;have BR:∀(c':Addr) (pm ctv doc:Value),PySem.W.kdv_obj "<lambda>" (X.env.qual++"<lambda>") params (.expr body) scope (cloFrom X.env.cells scope.names []) oE doc pm c' ctv={cls:=.type "function",data:=.func (ju (aI.txt i) (cloFrom aI.cells (aI.txt i).scope.names []) c' tp pm ctv doc)}:=λc' pm ctv doc=>by
    unfold ju;rw[L.q,L.p,L.b,L.s,L.cl,hd]
  cases hc:codeAmong pos ps.toList with
  |none=>
    refine PySem.W.kdv_makeTail (c:=c) (clos:=cloFrom X.env.cells scope.names []) (closure_ok L.free) I.ok.glob gP hcode M6 RW j8 hc TB.gP MV λc' ctv doc h' tk hx O8 hlt H6 ZT=>?_
    obtain⟨c2,oc,vs,t,e2,Pg,Zb,hv⟩:=H6;cases e2
    have abW:H c'=none:=I.hok.fresh O8;have bE:=LamX.inv_table (t':=tk) (more:=#[rawInt pos.line,rawInt pos.col,.ref c']) (h':=h') I hP (λb o hb e=>hx b o hb e) ZT O8 ⟨oc,vs,t,Pg,Zb,hv⟩;obtain⟨au,g1,m1,r1,Az⟩:=afQ (more:=#[rawInt pos.line,rawInt pos.col,.ref c']) ms OR hM hP abW (by rw[Array.toList_append];exact PySem.TriplesOk_snoc _ _ _ _ j8) (λp ie e=>by
      rw[Array.toList_append]at e;rcases LamX.among_app _ j8 e with z|z
      · exact .inl (ha p ie z)
      · exact .inr z)
    rw[<-L.jU]at bE;rw[BR];exact QV (T:=aI.txt i) L.p m1 bE (by rw[L.q,<-L.jU];exact r1) (λz=>Az _ _ (ht z)) λai H' f pu m2 jP=>q _ _ _ _ (g1.trans pu.grow) m2 jP
  |some ie=>
    obtain⟨c',e,hco⟩:=ha pos ie hc;subst e;refine PySem.W.kdv_makeTailHit (c:=c) (clos:=cloFrom X.env.cells scope.names []) (closure_ok L.free) I.ok.glob gP hcode M6 RW j8 hc MV λctv doc h' tk hx hsz=>?_
    have bE:Inv X pins σ H {s with heap:=h'}:=I.kept (t':=s.toks) hx;have:=BR c' ((X.mg "__name__").getD .none) ctv doc;unfold PySem.W.kdv_obj at this;rw[this];exact QV (T:=aI.txt i) L.p ms bE (by rw[L.q,<-L.jU];exact hco) ht λai H' f pu m2 jP=>q _ _ _ _ pu.grow m2 jP
theorem aeY {p:Pos}(F:AW X di)(L:AU X di i params body scope)(hT:(aI.txt i).dfl=false)(hd:defaultsOf params X.env=([],[]):=by rfl):aV X W (.Lambda params body scope p) (jr di i):=⟨λρ M aa G σ H Q ms en h=>by
 intro pins s I;unfold jr at h;split at h
 ·rename_i j hM
  split at h
  ·rename_i hj
   subst hj;refine PySem.W.kla_eval hd ?_;rw[makeFunction_eq];simp only[List.zip_nil_right,List.filterMap_nil,List.isEmpty_nil,if_true,pure_bind];exact QW (i:=i) (tp:=0) F L ms hM I (λz=>by rw[hT]at z;cases z) (by rw[hT];rfl) λai H' f c' g m jP=>h aa ai H' _ g m (bK.lam jP)
  ·exact h.elim
 ·exact h.elim⟩
theorem Ab {p p0:Pos}{aam:Nat}(F:AW X di)(L:AU X di i params body scope)(hT:(aI.txt i).dfl=true)(hd:params.defaults=[.Constant (.int 0) aam p0])(hk:params.kw_defaults=[]):aV X W (.Lambda params body scope p) (jr di i):=⟨λρ M aa G σ H Q ms en h=>by
 intro pins s I;unfold jr at h;split at h
 ·rename_i j hM
  split at h
  ·rename_i hj
   subst hj;refine PySem.W.kdv_lam (by rw[hd];rfl) hk ?_;rw[hd];refine PySem.W.kdv_all1 (thn ((pe_int (X:=X) (i:=0)).run pins s σ H (λv H1=>v=.int 0/\H1=H) I ⟨rfl,rfl⟩) λu s1 ⟨v,H1,bE,bL,e1,e2⟩=>PySem.W.kdv_all0 ?_);subst e1 e2;obtain⟨t,rfl⟩:=bL;rw[makeFunction_eq];simp only[List.zip_nil_right,List.filterMap_nil,List.isEmpty_cons,List.isEmpty_nil,if_true,pure_bind,Bool.false_eq_true,if_false];refine wpAny_bind (wpAny_newTextTuple ?_);have hf:H1 s1.heap.objs.size=none:=bE.hok.fresh (Nat.le_refl _);have pu:=Pure.new (o:=.tup [.int 0]) ms.le hf;have cJ:Inv X pins σ (upd H1 s1.heap.objs.size (.tup [.int 0])) {s1 with heap:=s1.heap.push {cls:=.type "tuple",data:=.seq [Value.int 0 t].toArray}}:=
    Inv.laid (t':=s1.toks) bE (λb u e=>Heap.get?_push_of_some _ e) (Nat.le_refl _) ⟨by decide,[.int 0 t],.cons ⟨t,rfl⟩ .nil,⟨_,Heap.get?_push_size _ rfl,rfl,_,rfl⟩⟩
   exact QW (i:=i) (tp:=s1.heap.objs.size) F L (ms.pure pu) hM cJ (λ_=>upd_same) (by rw[hT];rfl) λai H' f c' g m jP=>h aa ai H' _ (pu.grow.trans g) m (bK.lam jP)
  ·exact h.elim
 ·exact h.elim⟩
end
section
variable{K:Frag}{aa aj:List Addr}{G H ai H':Hp}{M ao:List ak}{L:gn}{Q:VK}{E:XK}{P:Program}{w:World}{mg:Str->Option Value}{base:Heap}{A:Around}{outer:List Env}{s aF:Shared}{u:Value}
theorem Rk (hl:∀b o,L.lookup b=some o->G b=some (bM b o))(hn:M.all fR=true)(ms:aE K aa G M H):aE K aa (cK L G) M (cK L H):=by
 refine Rj hl (λa ha=>?_) hn ms;cases z:L.lookup a with
 |none=>rfl
 |some o=>
  obtain⟨j,hj⟩:=List.getElem?_of_mem ha;have hm:M[j]?=some (M[j]'(by rw[<-ms.len];exact(List.getElem?_eq_some_iff.mp hj).1)):=List.getElem?_eq_getElem _;obtain⟨q1,q2⟩:=ms.mo j a _ hj hm;generalize M[j]'_=m at q1 q2;have g:=hl a o z;cases m with
  |fz d=>
   obtain⟨⟨v,e1,e2⟩,_⟩:=q2;rw[g]at e1;exact absurd (Option.some.inj e1).symm (e2 o)
  |_=>have:=q1 trivial;rw[g]at this;cases this
theorem I2 (hl:∀b o,L.lookup b=some o->G b=some (bM b o))(le:dM G H):∀b o,L.lookup b=some o->H b=some (bM b o):=λb o z=>by
 rcases le b _ (hl b o z)with y|⟨y,_⟩
 ·exact y
 ·unfold bM at y;cases y
theorem OQ (hl:∀b o,L.lookup b=some o->G b=some (bM b o))(hH:∀b o,L.lookup b=some o->H b=some (bM b o))(hn:∀b o,L.lookup b=some o->H' b=none)(m:aE K aj ai ao H')(g:aG aa (cK L G) (cK L H) aj ai H'):aG aa G H aj (c7 L ai) (c7 L H'):=by
 obtain⟨more,e,hm⟩:=g.pre;refine⟨λa o h=>?_,⟨more,e,λa ha=>?_⟩,λa o h n=>?_,λa h n=>?_,λa h=>?_⟩
 ·cases z:L.lookup a with
  |some cj=>rw[hl a cj z]at h;rw[mQ z];exact h
  |none=>rw[dj z];exact g.ex a o ((cB z).trans h)
 ·cases z:L.lookup a with
  |some cj=>
   have:=m.dQ a (by rw[e];exact List.mem_append_right _ ha);exact absurd (hn a cj z) this
  |none=>have:=hm a ha;rw[cB z]at this;exact this
 ·cases z:L.lookup a with
  |some cj=>rw[hH a cj z]at h;rw[mQ z];exact h
  |none=>rw[dj z];exact g.fr a o ((cB z).trans h) n
 ·cases z:L.lookup a with
  |some cj=>exact .inl (by rw[mQ z,hl a cj z])
  |none=>
   rcases g.jM a (by rw[cB z];exact h) n with y|⟨xs,rA,m8⟩
   ·exact .inl (by rw[dj z,y,cB z])
   ·exact .inr ⟨xs,(cB z).symm.trans rA,(dj z).trans m8⟩
 ·cases z:L.lookup a with
  |some cj=>rw[mQ z];simp
  |none=>rw[dj z];exact g.dQ a (by rw[cB z];exact h)
def K2 (L:gn)(Q:VK):VK:=λv H'=>(∀b o,L.lookup b=some o->H' b=none)->Q v (c7 L H')
def DO (L:gn)(E:XK):XK:=λc d H'=>(∀b o,L.lookup b=some o->H' b=none)->E c d (c7 L H')
theorem Sj (hl:∀b o,L.lookup b=some o->G b=some (bM b o))(le:dM G H){r:Re af}(h:jW K Q E aa G H r):jW K (K2 L Q) (DO L E) aa (cK L G) (cK L H) r:=by
 cases r with
 |ok t M2=>exactλaj ai H' v g m r hn=>h aj (c7 L ai) (c7 L H') v (OQ hl (I2 hl le) hn m g) (C3 hn m) (r.mono (ud hn m.le) λ_ _ z=>z)
 |ex c fs M2=>exactλaj ai H' d bG g m e r hn=>h aj (c7 L ai) (c7 L H') d bG (OQ hl (I2 hl le) hn m g) (C3 hn m) (ud hn m.le _ _ e) (fG.mono (ud hn m.le) r)
theorem oq (h:H xH=none):cK L H xH=none:=by
 cases z:L.lookup xH with
 |some o=>exact back_in z
 |none=>rw[cB z];exact h
theorem RT (hH:∀b o,L.lookup b=some o->H b=some (bM b o)){b:Addr}(h:H b=none):L.lookup b=none:=by
 cases z:L.lookup b with
 |none=>rfl
 |some o=>have:=hH b o z;rw[h]at this;cases this
theorem XC (hH:∀b o,L.lookup b=some o->H b=some (bM b o))(e:Env0 P w K mg base A outer s H):Env0 P w K mg base A outer s (cK L H):=
 ⟨e.frames,e.mod,λb o q=>⟨(e.bs b o q).1,oq (e.bs b o q).2⟩,e.bsz,e.funs,λb hb=>oq (e.frf b hb),λb u q=>by
  cases z:L.lookup b with
  |some o=>rw[back_in z]at q;cases q
  |none=>
   rw[cB z]at q;refine(e.hok b u q).stay (λc v _ y=>y) (λc y=>?_) λc xs y=>?_
   ·rw[cB (gz hH y λo=>Ne.symm Jt)];exact y
   ·rw[cB (gz hH y λo=>Ne.symm wX)];exact y,e.bare⟩
theorem HV {h:Heap}(hn:∀b o,L.lookup b=some o->H' b=none)(hg:∀b o,L.lookup b=some o->h.get? b=some o)(hok:HOk P w H' h):HOk P w (c7 L H') h:=λb u q=>by
 cases z:L.lookup b with
 |some o=>
  rw[mQ z]at q;cases q
  exact⟨hg b o z,⟨o,hg b o z⟩,λh1 h2 p st=>st _ p⟩
 |none=>
  rw[dj z]at q;refine(hok b u q).stay (λc v _ y=>y) (λc y=>?_) λc xs y=>?_
  ·rw[dj (o5 hn (by rw[y];simp))];exact y
  ·rw[dj (o5 hn (by rw[y];simp))];exact y
theorem WQ (hH:∀b o,L.lookup b=some o->H b=some (bM b o))(wk:HOk P w H s.heap)(hf:∀b∈frs outer,H b=none)(h:L2.CE outer P w (cK L H) s (K2 L Q) u aF):L2.CE outer P w H s Q u aF:=by
 obtain⟨v,H',os,bare,un,hok,bL,q⟩:=h;have hg:∀b o,L.lookup b=some o->s.heap.get? b=some o:=λb o z=>(wk b _ (hH b o z)).1
 have hnf:∀b o,L.lookup b=some o->b∉frs outer:=λb o z y=>by have:=hf b y;rw[hH b o z]at this;cases this
 have hn:∀b o,L.lookup b=some o->H' b=none:=λb o z=>un.free b o (hg b o z) (back_in z) (by simp)
 refine⟨v,c7 L H',os,bare,?_,HV hn (λb o z=>un.keep b o (hg b o z) (back_in z) (hnf b o z) (by simp)) hok,bL,q hn⟩;exact{
  keep:=λb o e n hf hx=>un.keep b o e (oq n) hf hx
  slot:=λb o e n hf hx=>un.slot b o e (oq n) hf hx
  free:=λb o e n hx=>by rw[dj (RT hH n)];exact un.free b o e (oq n) hx
  there:=un.there
  tups:=λb xs e=>by
   have z:=gz hH e λo=>Ne.symm wX
   rw[dj z];exact un.tups b xs ((cB z).trans e)
  frzs:=λb o v e=>by
   have z:=gz hH e λcj y=>by unfold bM at y;cases y
   rw[dj z];exact un.frzs b o v ((cB z).trans e)
  tbls:=λb ps e=>by
   have z:=gz hH e λcj y=>by unfold bM at y;cases y
   rw[dj z];exact un.tbls b ps ((cB z).trans e)}
theorem NI (hH:∀b o,L.lookup b=some o->H b=some (bM b o))(wk:HOk P w H s.heap)(hf:∀b∈frs outer,H b=none)(h:L2.CX P w outer (cK L H) s (DO L E) u aF):L2.CX P w outer H s E u aF:=by
 obtain⟨a,B,H',cls,d,rfl,Og,hok,lu,na,os,yi,hE⟩:=h;have hg:∀b o,L.lookup b=some o->s.heap.get? b=some o:=λb o z=>(wk b _ (hH b o z)).1
 have hnf:∀b o,L.lookup b=some o->b∉frs outer:=λb o z y=>by have:=hf b y;rw[hH b o z]at this;cases this
 have hn:∀b o,L.lookup b=some o->H' b=none:=λb o z=>lu.free b o (hg b o z) (back_in z)
 have hB:∀b o,L.lookup b=some o->B.get? b=some o:=λb o z=>lu.keep b o (hg b o z) (back_in z) (hnf b o z)
 have abZ:L.lookup a=none:=by
  cases z:L.lookup a with
  |none=>rfl
  |some o=>have:=hB a o z;rw[Og.2.1]at this;cases this
 refine⟨a,B,c7 L H',cls,d,rfl,Og,HV hn hB hok,?_,by rw[dj abZ];exact na,os,yi,hE hn⟩;exact{
  keep:=λb o e n hf=>lu.keep b o e (oq n) hf
  slot:=lu.slot
  free:=λb o e n=>by rw[dj (RT hH n)];exact lu.free b o e (oq n)
  there:=lu.there
  tups:=λb xs e=>by
   have z:=gz hH e λo=>Ne.symm wX
   rw[dj z];exact lu.tups b xs ((cB z).trans e)
  frzs:=λb o v e=>by
   have z:=gz hH e λcj y=>by unfold bM at y;cases y
   rw[dj z];exact lu.frzs b o v ((cB z).trans e)
  tbls:=λb ps e=>by
   have z:=gz hH e λcj y=>by unfold bM at y;cases y
   rw[dj z];exact lu.tbls b ps ((cB z).trans e)}
end
structure LamS (T:eo):Prop where
 kind:T.scope.kind=.function
 co:T.scope.isCoroutine=false
 gen:T.scope.isGenerator=false
 nocell:∀y∈T.scope.names,y.2≠.cell
 par:∀x∈T.pn,T.scope.names.lookup x=some .local
 one:T.pn.length=if T.dfl then 1 else 0
 free:∀y,T.scope.names.lookup y=some .free->y∈T.fr
 cR:∀y∈T.fr,T.scope.names.lookup y=some .free
 mem:∀y∈T.scope.names,y.2=.free->y.1∈T.fr
def lamSB (T:eo):Bool:=
 decide (T.scope.kind=.function)&&!T.scope.isCoroutine&&!T.scope.isGenerator&&T.scope.names.all (λy=>!decide (y.2=.cell))&&T.pn.all (λx=>decide (T.scope.names.lookup x=some .local))&&decide (T.pn.length=if T.dfl then 1 else 0)&&
 T.scope.names.all (λy=>!decide (y.2=.free)||T.fr.contains y.1)&&T.fr.all (λy=>decide (T.scope.names.lookup y=some .free))
theorem uD {T:eo}(h:lamSB T=true):LamS T:=by
 unfold lamSB at h;simp only[Bool.and_eq_true,Bool.not_eq_true',decide_eq_true_eq,decide_eq_false_iff_not,List.all_eq_true,Bool.or_eq_true]at h;obtain⟨⟨⟨⟨⟨⟨⟨h1,h2⟩,h3⟩,h4⟩,c6⟩,cN⟩,pX⟩,qB⟩:=h;refine⟨h1,h2,h3,h4,c6,cN,λy hy=>?_,qB,λy hy e=>by
  rcases pX y hy with z|z
  ·exact absurd e z
  ·simpa using z⟩
 rcases pX _ (PySem.mem_of_lookup hy)with z|z
 ·exact absurd rfl z
 ·simpa using z
structure tE (T:eo):Prop where
 no:T.dfl=false->∀(cl:List (Str×Addr)) (c' tp:Addr) (pm ctv doc:Value),bindArgs (ju T cl c' tp pm ctv doc) ⟨[],[]⟩=pure []
 one:T.dfl=true->∀(cl:List (Str×Addr)) (c' tp:Addr) (pm ctv doc:Value),∃k,bindArgs (ju T cl c' tp pm ctv doc) ⟨[],[]⟩=seqItems? (.ref tp) >>=k/\∀v:Value,k (some #[v])=pure (T.pn.map λx=>(x,v))
abbrev uC (T:eo)(L f c':Addr)(cl:List (Str×Addr)):Env:=PySem.W.envX T.qual T.scope L f (.ref c') cl
def jQ (P:Program)(w:World)(K:Frag)(mg:Str->Option Value)(base:Heap)(T:eo)(cl:List (Str×Addr))(f c':Addr)(A:Around)(outer:List Env)(s:Shared)(H:Hp)(E:XK):Cx where
 prog:=P
 w:=w
 K:=K
 mg:=mg
 base:=base
 A:=A.deeper (uC T s.heap.objs.size f c' cl)
 N:=T.N
 s_0:=s
 H_0:=H
 env:=uC T s.heap.objs.size f c' cl
 outer:=outer
 stack:=uC T s.heap.objs.size f c' cl::outer
 ex:=[]
 fn:=λ_=>false
 calm:=true
 pn:=[]
 xe:=λe aF=>wpAny (model P w) (A.deeper (uC T s.heap.objs.size f c' cl)) (leaving (uC T s.heap.objs.size f c' cl) e) (λ_ jf=>L2.CX P w outer H s E e jf) (λeT jf=>L2.CX P w outer H s E eT jf) aF
section
variable{P:Program}{w:World}{K:Frag}{mg:Str->Option Value}{base:Heap}{T:eo}{cl:List (Str×Addr)}{f c' tp:Addr}{A:Around}{outer:List Env}{s:Shared}{H G:Hp}{E:XK}{vs:List V}{L:gn}
theorem bF.jQ (S:LamS T):bF T.N T.scope T.scope (jQ P w K mg base T cl f c' A outer s H E):=⟨rfl,rfl,λx h=>absurd rfl (S.nocell _ (PySem.mem_of_lookup (by simpa using h))),rfl⟩
theorem xE:Takes (jQ P w K mg base T cl f c' A outer s H E) (λcls d _ H=>E cls d H):=takes_of rfl rfl rfl rfl
theorem w5:PassesOwn (model (jQ P w K mg base T cl f c' A outer s H E).prog (jQ P w K mg base T cl f c' A outer s H E).w) (jQ P w K mg base T cl f c' A outer s H E).A (jQ P w K mg base T cl f c' A outer s H E).env (jQ P w K mg base T cl f c' A outer s H E).xe:=passes_of rfl
def nu (T:eo)(cl:List (Str×Addr))(h:Heap):gn:=T.fr.filterMap λy=>(cl.lookup y).bind λc=>(h.get? c).map λo=>(c,o)
theorem CZ:∀{l:gn} {b:Addr} {o:Obj},l.lookup b=some o->(b,o)∈l
 |[],_,_,h=>by cases h
 |(c,cj)::r,b,o,h=>by
  rw[List.lookup_cons]at h;cases e:(b==c)with
  |true=>rw[e]at h;cases h;rw[eq_of_beq e];exact .head _
  |false=>rw[e]at h;exact .tail _ (CZ h)
theorem WS (C:ql G T cl vs)(le:dM G H)(hok:HOk P w H s.heap):∀b o,(nu T cl s.heap).lookup b=some o->G b=some (bM b o):=λb o z=>by
 have m:=CZ z;unfold nu at m;rw[List.mem_filterMap]at m;obtain⟨y,hy,e⟩:=m;obtain⟨k,hk⟩:=List.getElem?_of_mem hy;have hv:vs[k]?=some (vs[k]'(by rw[C.len];exact(List.getElem?_eq_some_iff.mp hk).1)):=List.getElem?_eq_getElem _;obtain⟨c,cj,u,e1,e2,e3,e4⟩:=C.has k y _ hk hv;rw[e1]at e;have Hl:s.heap.get? c=some cj:=by
  rcases le c _ e2 with y|⟨y,_⟩
  ·exact(hok c _ y).1
  ·unfold bM at y;cases y
 simp only[Option.bind_some,Hl,Option.map_some]at e;cases e
 exact e2
theorem WR (C:ql G T cl vs)(le:dM G H)(hok:HOk P w H s.heap){y:Str}{c:Addr}(h:cl.lookup y=some c):∃o,(nu T cl s.heap).lookup c=some o:=by
 have hy:=C.own y c h;obtain⟨k,hk⟩:=List.getElem?_of_mem hy;have hv:vs[k]?=some (vs[k]'(by rw[C.len];exact(List.getElem?_eq_some_iff.mp hk).1)):=List.getElem?_eq_getElem _;obtain⟨c2,cj,u,e1,e2,e3,e4⟩:=C.has k y _ hk hv;rw[h]at e1;cases e1
 have Hl:s.heap.get? c=some cj:=by
  rcases le c _ e2 with y|⟨y,_⟩
  ·exact(hok c _ y).1
  ·unfold bM at y;cases y
 have m:(c,cj)∈nu T cl s.heap:=by
  unfold nu;rw[List.mem_filterMap];exact⟨y,hy,by rw[h];simp only[Option.bind_some,Hl,Option.map_some]⟩
 cases z:(nu T cl s.heap).lookup c with
 |some o=>exact⟨o,rfl⟩
 |none=>
  rw[List.lookup_eq_none_iff]at z;have:=z _ m;simp at this
def uE (T:eo)(vs:List V):L2.St:=T.pn.map (λ_=>some (.int 0))++(vs.map some++T.loc.map λ_=>none)
def oZ (T:eo)(ws:List D):List af:=T.pn.map (λ_=>.dat (.int 0))++(ws.map .dat++T.loc.map λ_=>.un)
theorem aaI {qL:Heap}{tk t:Nat}(S:LamS T)(C:ql G T cl vs)(le:dM G H)(wk:HOk P w H s.heap)(hL:∀b o,L.lookup b=some o->H b=some (bM b o))(hc:∀y c,cl.lookup y=some c->∃o,L.lookup c=some o)(e0:Env0 P w K mg base A outer s (cK L H))(hd:A.handled=none)
    (j7:qL.Ns s.heap.objs.size λy=>(T.pn.map λx=>(x,Value.int 0 t)).reverse.lookup y) (kp:∀b o,s.heap.get? b=some o->qL.get? b=some o):
    Inv (jQ P w K mg base T cl f c' A outer s (cK L H) E) [] (uE T vs) (cK L H) {s with heap:=qL,toks:=tk}:=by
  have jd:∀b:Addr,b∉(jQ P w K mg base T cl f c' A outer s (cK L H) E).ex:=λb z=>absurd (show b∈([]:List Addr)from z) (by simp)
  have cell:∀y c,cl.lookup y=some c->∃(k:Nat) (v:V) (u:Value),T.fr[k]?=some y/\vs[k]?=some v/\RelV v u/\s.heap.IsCell c (some u):=λy c h=>by
    obtain⟨k,hk⟩:=List.getElem?_of_mem (C.own y c h);have hv:vs[k]?=some (vs[k]'(by rw[C.len];exact(List.getElem?_eq_some_iff.mp hk).1)):=List.getElem?_eq_getElem _;obtain⟨c2,cj,u,e1,e2,e3,e4⟩:=C.has k y _ hk hv;rw[h]at e1;cases e1
    refine⟨k,_,u,hk,hv,e4,cj,?_,e3⟩;rcases le c _ e2 with y|⟨y,_⟩
    · exact(wk c _ y).1
    · unfold bM at y;cases y
  have cellK:∀{c:Addr} {v:Option Value},s.heap.IsCell c v->qL.IsCell c v:=λ{c v} ⟨o,ho,hd⟩=>⟨o,kp _ _ ho,hd⟩
  have Wv:∀y∈T.fr,∃c,cl.lookup y=some c:=λy hy=>by
    obtain⟨k,hk⟩:=List.getElem?_of_mem hy;have hv:vs[k]?=some (vs[k]'(by rw[C.len];exact(List.getElem?_eq_some_iff.mp hk).1)):=List.getElem?_eq_getElem _;obtain⟨c2,_,_,e1,_⟩:=C.has k y _ hk hv;exact⟨c2,e1⟩
  have abz:T.pn.length=if T.dfl then 1 else 0:=S.one
  refine⟨⟨e0.mod,S.kind,rfl,rfl,Nat.le_refl _,λy z c e1 e2=>C.inj y z c e1 e2,λy hy=>?_,λy c z _=>?_,λ_=>hd,Around.frames_deeper e0.frames,.inr ⟨rfl,rfl⟩,λb z=>absurd z (jd b),e0.bs,e0.bsz,λb _ _=>jd b,
      λb z=>absurd z (jd b),e0.funs,e0.frf⟩,
    rfl,e0.bare,Un.kept kp,⟨_,j7,λi y v e1 e2 e3=>?_⟩,λy c e=>?_,e0.hok.fresh (Nat.le_refl _),λy c e=>?_,λq hq=>absurd (show q∈([]:List (Addr×Obj))++[]from hq) (by simp),e0.hok.kept kp,?_⟩
  · have hy:T.scope.names.lookup y=some .cell\/T.scope.names.lookup y=some .free:=hy
    rcases hy with hy|hy
    · exact absurd rfl (S.nocell _ (PySem.mem_of_lookup hy))
    · exact Wv y (S.free y hy)
  · have z:false=true:=z
    cases z
  · have e1:T.N[i]?=some y:=e1
    have e3:Vis T.scope y:=e3;unfold eo.N at e1;unfold uE at e2;by_cases hi:i<T.pn.length
    · rw[List.getElem?_append_left hi]at e1
      rw[List.getElem?_append_left (by rw[List.length_map];exact hi)]at e2;have gR:y∈T.pn:=List.mem_of_getElem? e1;have ev:v=.int 0:=by
        rw[List.getElem?_map,e1]at e2;simp at e2;exact e2.symm
      subst ev;refine⟨.int 0 t,⟨t,rfl⟩,.inl ⟨S.par y gR,?_⟩⟩;have l1:T.pn=[y]:=by
        have:T.pn.length=1:=by
          have h1:T.pn.length<=1:=by rw[abz];split<;>omega
          omega
        match hp:T.pn,this with
        |[z],_=>rw[hp]at gR;simp at gR;rw[gR]
      rw[l1];simp
    · rw[List.getElem?_append_right (by omega)]at e1
      rw[List.getElem?_append_right (by rw[List.length_map];omega),List.length_map]at e2;by_cases hj:i-T.pn.length<T.fr.length
      · rw[List.getElem?_append_left hj]at e1
        rw[List.getElem?_append_left (by rw[List.length_map,C.len];exact hj),List.getElem?_map]at e2;cases hv:vs[i-T.pn.length]? with
        |none=>rw[hv]at e2;simp at e2
        |some K3=>
          rw[hv]at e2;simp at e2;subst e2;obtain⟨c,o,u,q1,q2,q3,lZ⟩:=C.has _ y _ e1 hv;refine⟨u,lZ,.inr ⟨.inr (S.cR y (List.mem_of_getElem? e1)),c,q1,?_⟩⟩;refine cellK ⟨o,?_,q3⟩;rcases le c _ q2 with y|⟨y,_⟩
          · exact(wk c _ y).1
          · unfold bM at y;cases y
      · rw[List.getElem?_append_right (by rw[List.length_map,C.len];omega),List.getElem?_map]at e2
        cases hz:T.loc[i-T.pn.length-(vs.map some).length]? with
        |none=>rw[hz]at e2;simp at e2
        |some z=>rw[hz]at e2;simp at e2
  · obtain⟨k,v,u,_,_,_,z⟩:=cell y c e
    exact⟨_,cellK z⟩
  · obtain⟨o,z⟩:=hc y c e
    exact back_in z
  · show(uE T vs).length=T.N.length
    unfold uE eo.N;simp[C.len]
theorem XD {aa:List Addr}{ws:List D}(r:bJ K G vs ws):bO K aa G (uE T vs) (oZ T ws):=by
 unfold uE oZ;have hl:=r.length;refine⟨by simp[hl],λi z e=>?_⟩;by_cases hi:i<T.pn.length
 ·rw[List.getElem?_append_left (by rw[List.length_map];exact hi)]at e⊢
  rw[List.getElem?_map]at e⊢;cases hp:T.pn[i]? with
  |none=>rw[hp]at e;simp at e
  |some x=>rw[hp]at e;simp at e;subst e;exact .inr ⟨.int 0,by simp,bK.int 0⟩
 ·rw[List.getElem?_append_right (by rw[List.length_map];omega),List.length_map]at e⊢
  by_cases hj:i-T.pn.length<vs.length
  ·rw[List.getElem?_append_left (by rw[List.length_map];omega),List.getElem?_map]at e
   cases hw:ws[i-T.pn.length]? with
   |none=>rw[hw]at e;simp at e
   |some d=>
    rw[hw]at e;simp at e;subst e;obtain⟨v,h1,h2⟩:=r.get hw;exact .inr ⟨v,by rw[List.getElem?_append_left (by rw[List.length_map];exact hj),List.getElem?_map,h1];rfl,h2⟩
  ·rw[List.getElem?_append_right (by rw[List.length_map];omega),List.getElem?_map]at e
   cases hz:T.loc[i-T.pn.length-(ws.map af.dat).length]? with
   |none=>rw[hz]at e;simp at e
   |some z=>rw[hz]at e;simp at e;exact .inl e.symm
end
abbrev gD:Type:=List R.D->Ev af
def CN (n:Nat):Re af->T (Re af)
 | .ok s M=>clean false n s M
 | .ex c fs M=>.ret (.ex c fs (cut n M))
def uI (t:eo)(b:CE):gD:=λws M=>if iR ws&&M.all fR then(b (oZ t ws) M).bind (CN M.length)else .bad
structure ng (dU:f6)(k:Nat)(i:Nat)(F:gD):Prop where
 run:∀(A:Around) (outer:List Env) (s:Shared) (H G:Hp) (f c' tp:Addr) (cl:List (Str×Addr)) (vs:List V) (ws:List R.D) (aa:List Addr) (M:List ak) (Q:VK) (E:XK),Room k A->Env0 dU.prog dU.w dU.K dU.mg dU.base A outer s H->aE dU.K aa G M H->
  pO G f (aI.txt i) cl c' tp->ql G (aI.txt i) cl vs->bJ dU.K G vs ws->wp (F ws M) (jW dU.K Q E aa G H)->
  codeAny (model dU.prog dU.w) A (.call (.ref f) ⟨[],[]⟩) (CR (L2.CX dU.prog dU.w) outer dU.prog dU.w H s Q E) s
theorem wJ {dU:f6}{k i:Nat}{b:CE}(S:LamS (aI.txt i))(B:tE (aI.txt i))
    (body:∀cl f c' A outer s H E,Room k (A.deeper (uC (aI.txt i) s.heap.objs.size f c' cl))->aV (jQ dU.prog dU.w dU.K dU.mg dU.base (aI.txt i) cl f c' A outer s H E) (λcls d _ H=>E cls d H) (aI.txt i).body b):
    ng dU (k+1) i (uI (aI.txt i) b):=⟨λA outer s H G f c' tp cl vs ws aa M Q E hr e0 ms jP C r h=>by
  obtain⟨P,w,K,mg,base⟩:=dU
  dsimp only at *
  generalize hT:aI.txt i=t at *;have le:=ms.le;obtain⟨pm,ctv,doc,hf⟩:∃pm ctv doc,s.heap.get? f=some {cls:=.type "function",data:=.func (ju t cl c' tp pm ctv doc)}:=by
    rcases le f _ jP.f with y|⟨y,_⟩
    · exact(e0.hok f _ y).1
    · unfold rJ at y;cases y
  have hcode:s.heap.CodeRec (.ref c') t.qual:=by
    rcases le c' _ jP.c with y|⟨y,_⟩
    · exact NdefX.codeO_at e0.hok y
    · unfold LamX.CodeO at y;cases y
  obtain⟨tk,YW⟩:∃tk,BindsTo s (ju t cl c' tp pm ctv doc) ⟨[],[]⟩ (t.pn.map λx=>(x,Value.int 0 tk)):=by
    cases hd:t.dfl with
    |false=>
      have l0:t.pn=[]:=by
        have:=S.one;rw[hd]at this;exact List.length_eq_zero_iff.mp this
      rw[l0];exact⟨0,.of_eq (B.no hd cl c' tp pm ctv doc)⟩
    |true=>
      obtain⟨k,h1,h2⟩:=B.one hd cl c' tp pm ctv doc;rcases le tp _ (jP.t hd)with y|⟨y,_⟩
      · obtain⟨_,its,hv,ot,ho,Pg,n,ZL⟩:=e0.hok tp _ y
        cases hv with
        | @cons _ u _ _ kg hv=>
        cases hv
        obtain⟨tk,rfl⟩:=kg;have O0:(ju t cl c' tp pm ctv doc).defaults=.ref tp:=by
          show(if t.dfl then Value.ref tp else Value.none)=.ref tp
          rw[hd];rfl
        exact⟨tk,BindsTo.of_defaults O0 ho ZL (by rw[O0];exact h1) (h2 _)⟩
      · cases y
  unfold uI at h;split at h
  · rename_i hno
    rw[Bool.and_eq_true]at hno;have lim:s.heap.NoLimit:=e0.mod.nolimit.keeps λb o e=>(e0.bs b o e).1
    have sW:=WS C le e0.hok;have Ai:=I2 sW le;refine PySem.W.kla_callFunE hr.depth hf rfl S.co S.gen rfl hcode (YW _ _ _ _ ?_);refine wpAny_newFunctionEnv S.nocell (λy hy=>?_) (λqL j7 Pk=>⟨lim.fresh _ Pk,?_⟩) S.kind
    · obtain⟨x,hx,rfl⟩:=List.mem_map.mp hy
      exact S.par x hx
    show codeAny _ _ (.expr t.body (uC t s.heap.objs.size f c' cl)) _ _
    have kp:∀b o,s.heap.get? b=some o->qL.get? b=some o:=λb o e=>Pk.extBut b o (Nat.ne_of_lt (Heap.lt_size e)) (Heap.get?_push_of_some _ e)
    have J:=aaI (E:=DO (nu t cl s.heap) E) (f:=f) (c':=c') (tk:=s.toks+(t.pn.map λx=>(x,Value.int 0 tk)).length) S C le e0.hok Ai (λy c=>WR C le e0.hok) (XC Ai e0) hr.hd j7 kp;have m1:=Rk sW hno.2 ms;have bd:=(body cl f c' A outer s (cK (nu t cl s.heap) H) (DO (nu t cl s.heap) E) (hr.deeper _)).run (oZ t ws) M aa (cK (nu t cl s.heap) G) (uE t vs) (cK (nu t cl s.heap) H) (K2 (nu t cl s.heap) Q) m1 (XD (Dt sW hno.1 r)) (wp_mono (λcE iP=>by
      have hn:M.length=aa.length:=ms.len.symm;cases cE with
      |ok z M1=>
        intro aj ai H' v g m xg;have iP:wp (clean false M.length z M1) (jW K Q E aa G H):=iP;exact Br m1 g m xg (wp_mono (λ_=>Sj sW le) iP)
      |ex c fs M1=>
        intro aj ai H' d bG g m ed sL;have iP:jW K Q E aa G H (.ex c fs (cut M.length M1)):=iP;rw[hn]at iP;exact lG m1 g m λaM g2 m2 _=>Sj sW le iP aM ai H' d bG g2 m2 ed sL) (wp_bind.mp h))
    refine PySem.W.kla_codeExpr (wpAny_mono (bd [] _ J) (λu aF hq=>?_) λe aF hq=>?_)
    · obtain⟨v,H',vg,bL,q⟩:=hq
      exact WQ Ai e0.hok e0.frf ⟨v,H',vg.os,vg.bare,vg.base,vg.hok,bL,q⟩
    · exact wpAny_mono hq (λ_ jf z=>NI Ai e0.hok e0.frf z) λeT jf z=>NI Ai e0.hok e0.frf z
  · exact h.elim⟩
abbrev qo:Type:=Nat->Option gD
def yr (tb:qo)(s:af):Ev af:=λM=>match s with
 | .dat (.cL i ws)=>match tb i with
  |some F=>F ws M
  |none=>.bad
 |_=>.bad
def BK (tb:qo)(aJ:CE):CE:=λρ=>(aJ ρ).bind (yr tb)
def Es (dU:f6)(k:Nat)(tb:qo):Prop:=∀i F,tb i=some F->ng dU k i F
theorem aeS {X:Cx}{W:WX}{aJ:CE}{tb:qo}{k:Nat}{a:Str}{dI cI:Pos}(T:Es X.gj k tb)(hr:Room k X.A)(tk:Takes X W)(h1:aV X W (.Name a dI) aJ):aV X W (.Call (.Name a dI) [] [] cI) (BK tb aJ):=⟨λρ M aa G σ H Q ms en h=>by
 intro pins s I;have hw:wE X (.Name a dI) σ H λv H1=>∃av au M1 i ws F,aE X.K av au M1 H1/\bK X.K au v (.cL i ws)/\tb i=some F/\wp (F ws M1) (cV X W (bz X.K) Q σ av au H1):=
  h1.seq ms en h λav au M1 H1 v s1 g1 m1 r1 aC=>by
   unfold yr at aC;split at aC
   ·rename_i i ws
    split at aC
    ·rename_i F hF
     exact⟨av,au,M1,i,ws,F,m1,r1,hF,aC⟩
    ·exact aC.elim
   ·exact aC.elim
 refine wpAny_Call_Name_kw (thn (hw pins s I) λu s1 ⟨v,H1,bE,bL,av,au,M1,i,ws,F,m1,r1,hF,aC⟩=>?_);cases r1 with
 | @cL f c' tp _ cl vs _ jP C r=>
 obtain rfl:u=Value.ref f:=bL;obtain⟨pm,ctv,doc,hf⟩:∃pm ctv doc,s1.heap.get? f=some {cls:=.type "function",data:=.func (ju (aI.txt i) cl c' tp pm ctv doc)}:=by
  rcases m1.le f _ jP.f with y|⟨y,_⟩
  ·exact(bE.hok f _ y).1
  ·unfold rJ at y;cases y
 refine PySem.W.callWith_F0 ⟨_,_,_,_,hf⟩ ?_;refine wpAny_call (codeAny_mono ((T i F hF).run X.A X.stack s1 H1 au f c' tp cl vs ws av M1 Q (WE W σ) hr bE.env0 m1 jP C r (wp_mono (λcE iP=>by
  cases cE with
  |ok z M2=>exact iP
  |ex c fs M2=>exact iP) aC)) λcE aF hq=>?_)
 cases cE with
 |error e=>exact passAt tk σ pins H1 s1 e aF bE hq
 |ok fK=>
  cases fK with
  |ret w=>exact bE.after hq
  |next=>exact False.elim hq
  |brk=>exact False.elim hq
  |cont=>exact False.elim hq⟩
def EE (X:Cx)(qi:Expr)(cs:List Value):Prop:=∀(a:Addr) (oe:Obj) (pn:List (Addr×Obj)) (s1:Shared) (pins:List (Addr×Obj)) (σ:L2.St) (H:Hp) (Q E:Value->Shared->Prop),Inv (X.suite a ((a,oe)::pn)) pins σ H s1->
 (∀(h':Heap) (ie:Value),(∀b o,s1.heap.get? b=some o->h'.get? b=some o)->(∀cls b,PySem.W.exmAny X.K cls cs=some b->PySem.W.Looks (model X.prog X.w) h' (typeOf (.ref a)) cls->PySem.W.Looks (model X.prog X.w) h' (excMatches (.ref a) ie) b)->Q ie {s1 with heap:=h'})->
 wpAny (model X.prog X.w) (X.A.mark (some (.ref a))) (eval qi X.env) Q E s1
theorem afY {X:Cx}{n1 n2 n3:Str}{c1 c2 c3:Value}{dI cI fS p:Pos}{k:Nat}(g1:dW X n1)(m1:X.mg n1=some c1)(g2:dW X n2)(m2:X.mg n2=some c2)(g3:dW X n3)(m3:X.mg n3=some c3)
    (hs:starEach [.Name n1 dI,.Name n2 cI,.Name n3 fS] X.env=[(false,eval (.Name n1 dI) X.env),(false,eval (.Name n2 cI) X.env),(false,eval (.Name n3 fS) X.env)]:=by rfl):EE X (.Tuple [.Name n1 dI,.Name n2 cI,.Name n3 fS] k p) [c1,c2,c3]:=by
  intro a oe pn s1 pins σ H Q E I h;refine wpAny_Tuple_spliced ?_;rw[hs];refine Calls.spliced_cons (ld_glob (X:=X.suite a ((a,oe)::pn)) I g1.gl m1 ?_ g1.nd);refine Calls.spliced_cons (ld_glob (X:=X.suite a ((a,oe)::pn)) I g2.gl m2 ?_ g2.nd);refine Calls.spliced_cons (ld_glob (X:=X.suite a ((a,oe)::pn)) I g3.gl m3 ?_ g3.nd);refine Calls.spliced_nil ⟨by show(3:Nat)<=sizeLine;decide,?_⟩;have kp:∀b o,s1.heap.get? b=some o->(s1.heap.push {cls:=.type "tuple",data:=.seq [c1,c2,c3].toArray}).get? b=some o:=λb o e=>Heap.get?_push_of_some _ e
  exact h _ _ kp λcls b hx LT=>PySem.W.exm_tup3 (I.kIn.keeps kp) LT (Heap.get?_push_size _ rfl) hx
def wMany (K:Frag)(h0:Heap)(cs:List Value)(i n:Nat)(ts:Addr->Value->Option Addr->TS)(yf:WX)(D:Ends):WX:=λcls d σ H=>σ.length=n->
 ∃b,PySem.W.exmAny K cls cs=some b/\(b=true->∀a,H a=none->h0.get? a=none->ts a cls d {nx:=λaN H'=>D.nx (aN.set i none) H',rt:=D.rt,bk:=λaN H'=>D.bk (aN.set i none) H',ct:=λaN H'=>D.ct (aN.set i none) H'} (σ.set i (some (.ref a))) H)/\
  (b=false->yf cls d σ H)
theorem Ze {B:Heap}{l:List Env}{a:Addr}{Z:Obj->Prop}{h h':Heap}(k:∀b o,h.get? b=some o->h'.get? b=some o)(x:HandSPX.FlyingZ B l a Z h):HandSPX.FlyingZ B l a Z h':=by
 obtain⟨q1,q2,q3,oe,vs,T,oT,ts,r1,r2,r3,nP,nQ,Dk,JQ,Sy⟩:=x;exact⟨λb o e=>k b o (q1 b o e),q2,Heap.FunFrames.of_keeps (λb o e _=>⟨o,k b o e,rfl⟩) q3,oe,vs,T,oT,ts,k _ _ r1,r2,r3,nP,nQ,Dk,k _ _ JQ,Sy⟩
section
variable{X:Cx}{n:Str}{cs:List Value}{i:Nat}{body suite:List Stmt}{s0:Stmt}{qi:Expr}{hp pos:Pos}{tb:WX->TS}{ts:Addr->Value->Option Addr->TS}{yf:WX}
theorem ps_try_many (hex:X.ex=[])(hs:X.stack=X.env::X.outer)(hf:X.env.frame=some X.env.locals)(hN:X.N.Nodup)(hi:X.N[i]?=some n)(zl:X.env.kindOf n=some .local)(ht:EE X qi cs)(tk:Takes X yf)
    (hb:∀(W:WX) (pn:List (Addr×Obj)) (xe:Value->Shared->Prop),Takes (X.tr pn xe) W->PassesOwn (model X.prog X.w) X.A X.env xe->PSs (X.tr pn xe) body (tb W))
    (H8:∀(a:Addr) (oe:Obj) (cls:Value) (d:Option Addr) (pn:List (Addr×Obj)),Zc cls d oe->(∃vs,oe.data=.fields vs)->(∀p∈pn,p.1≠a)->∀(s:Shared) (σ:L2.St) (H:Hp) (D:Ends),Inv (X.suite a ((a,oe)::pn)) [] σ H s->ts a cls d D σ H->wpAny (model X.prog X.w) (X.A.mark (some (.ref a))) (execs (s0::suite) X.env) (SP (X.suite a ((a,oe)::pn)) [] D) (λ_ _=>False) s):
    PS X (.Try body [.ExceptHandler (some qi) (some n) (s0::suite) hp] [] [] pos) (λD σ H=>tb (wMany X.K X.s_0.heap cs i X.N.length ts yf D) D σ H):=⟨λpins s σ H D I h=>by
  have ok:=I.ok;have hfr:X.A.frames=some (X.env::X.outer):=ok.frames.trans (by rw[hs]);have Cv:Loc X.env.scope n:=.inl zl;refine wpAny_Try_except (wpAny_mono ((hb (wMany X.K X.s_0.heap cs i X.N.length ts yf D) (X.pn++pins) (λe fY=>wpAny (model X.prog X.w) X.A (noteFrame e X.env) (λ_ d_=>wpAny (model X.prog X.w) X.A (setFlight e none)
    (λ_ pH=>wpAny (model X.prog X.w) X.A (handleBy e X.env [.ExceptHandler (some qi) (some n) (s0::suite) hp]) (SP X pins D) X.xe pH) X.xe d_) X.xe fY) (λu z agZ=>?_) PassesOwn.looking).run [] s σ H D (I.toTry _) h) (λfK z hz=>?_) λ_ _ q=>q)
  · obtain⟨a,B,S7,aki,aN,H',cls,d,rfl,vg,nb,up,af7,na,os,yi,wish⟩:=agZ
    have J:Inv X pins aN H' S7:=vg.ofTry ok;obtain⟨b,hb1,Z2,hno⟩:=wish J.len;rw[show frs (X.tr (X.pn++pins) _).stack=frs X.stack from rfl]at nb;have af8:Sky B (X.env::X.outer) a (Zc cls d) X.env.locals z.heap:=hs▸af7;show wpAny (model X.prog X.w) X.A (noteFrame (.ref a) X.env) _ _ _
    refine Sky.land Zc.steady hfr hf af8 λk1 v_ nU=>?_
    have Vd:Inv X pins aN H' {z with heap:=k1}:=J.landed nb v_.1 (up.trans nU) os yi;obtain⟨oe,vs,e1,XZ,ed⟩:=v_.there;have C7:a∉frs (X.env::X.outer):=λhm=>by
      obtain⟨_,cj,eT,hnf⟩:=v_.2.2.1.mem hm;rw[e1]at eT;cases eT;exact hnf _ ed
    have zO:a≠X.env.locals:=λq=>C7 (List.mem_filterMap.mpr ⟨X.env,.head _,by rw[hf,q]⟩)
    have C5:a∉X.fs:=λhm=>by
      obtain⟨e,he,q⟩:=List.mem_filterMap.mp hm;exact C7 (List.mem_filterMap.mpr ⟨e,.tail _ he,q⟩)
    have apart:∀p∈X.pn++pins,p.1≠a:=λp hp z=>by
      have:=nb p.1 p.2 (J.pin p hp).1 (by rw[hs,z];exact C7);rw[z,v_.2.1]at this;cases this
    have fresh:X.s_0.heap.get? a=none:=by
      cases q:X.s_0.heap.get? a with
      |none=>rfl
      |some o=>
        obtain⟨cj,q2⟩:=J.base.there a o q (by rw[hex];simp);have:=nb a cj q2 (by rw[hs];exact C7);rw[v_.2.1]at this;cases this
    refine wpAny_handleBy_cons (codeAny_handlers_test ?_) (by intro q;cases q);refine ht a oe (X.pn++pins) _ _ aN H' _ _ (Vd.suite e1 ed na zO C5) λk2 ie kp look=>?_
    have Hf:=Ze kp v_;have e2:=kp _ _ e1;have KZ:=nU.trans (Heap.UpToSlots.of_keeps kp);have LT:PySem.W.Looks (model X.prog X.w) k2 (typeOf (.ref a)) cls:=λA Q E s k q=>wpAny_typeOf_ref (k _ _ e2) (by rw[XZ.1];exact q)
    refine(look cls b hb1 LT).here ?_;cases b with
    |false=>
      show wpAny _ X.A (handleBy (.ref a) X.env []) _ _ _
      refine wpAny_handleBy_nil ?_;obtain⟨_,_,_,akd,DU,T,oT,agc,f1,f2,oJ,f4,pU⟩:=id Hf;have fin:wpAny (model X.prog X.w) X.A (setFlight (.ref a) X.env.frame) (λ_ y=>wpAny (model X.prog X.w) X.A (throw (.ref a):Sem Flow) (SP X pins D) X.xe y) X.xe {z with heap:=k2}:=by
        rw[hf];exact HandSPX.setFlight_upZ Hf λk3 B_ K0=>wpAny_throw (tk _ _ ⟨a,B,S7,pins,aN,H',cls,d,rfl,J,nb,(up.trans KZ).trans K0,.inr (.inr (by rw[hs];exact B_)),na,os,yi,hno rfl⟩)
      unfold PySem.passOn;refine wpAny_bind (wpAny_field f1 oJ f4 ?_);rw[if_neg (show¬((Value.ref T==Value.none)=true)from by simp)]
      first
        |exact wpAny_bind (wpAny_pure (wpAny_bind fin))
        |exact wpAny_bind fin
    |true=>
      refine codeAny_handlers_suite_as (HandSPX.lands_againZ Hf λk3 B_ K0=>?_);obtain⟨Ju,akI,g1,g2,g3⟩:=B_.there;have Ve:Inv X pins aN H' {z with heap:=k3}:=J.landed nb B_.1 ((up.trans KZ).trans K0) os yi;refine store_ok (X:=X.suite a ((a,Ju)::(X.pn++pins))) (v:=.ref a) (Ve.suite g1 g3 na zO C5) hN hi Cv rfl (λy Y=>?_) (.inr zl);refine wpAny_mono (H8 a Ju cls d (X.pn++pins) g2 ⟨_,g3⟩ apart y _ H' _ Y (Z2 rfl a na fresh)) (λfK t ht=>?_) λ_ _ q=>q.elim
      have fin:∀{Lp:L2.St} {rG:Hp} {Q:Shared->Prop},Inv (X.suite a ((a,Ju)::(X.pn++pins))) [] Lp rG t->(∀r,Inv X pins (Lp.set i none) rG r->Q r)->wpAny (model X.prog X.w) X.A (do bindName X.env n .none;unbindBehindTheSuite X.env n hp) (λ_ r=>Q r) X.xe t:=
        λq r=>gone_ok (q.unsuite ok) hN hi zl r
      cases fK with
      |next=>obtain⟨_,_,q1,q2⟩:=ht;exact fin q1 λ_ q=>⟨_,_,q,q2⟩
      |brk=>obtain⟨_,_,q1,q2⟩:=ht;exact fin q1 λ_ q=>⟨_,_,q,q2⟩
      |cont=>obtain⟨_,_,q1,q2⟩:=ht;exact fin q1 λ_ q=>⟨_,_,q,q2⟩
      |ret u=>obtain⟨_,_,_,q1,q3,q2⟩:=ht;exact fin q1 λ_ q=>⟨_,_,_,q,q3,q2⟩
  · cases fK with
    |next=>obtain⟨_,_,q1,q2⟩:=hz;exact wpAny_execs_nil ⟨_,_,q1.ofTry ok,q2⟩
    |brk=>obtain⟨_,_,q1,q2⟩:=hz;exact⟨_,_,q1.ofTry ok,q2⟩
    |cont=>obtain⟨_,_,q1,q2⟩:=hz;exact⟨_,_,q1.ofTry ok,q2⟩
    |ret u=>obtain⟨_,_,_,q1,q3,q2⟩:=hz;exact⟨_,_,_,q1.ofTry ok,q3,q2⟩⟩
end
structure rO (K:Frag)(C:Addr)(f:Str):Prop where
 x:L2.XfC K C
 no:PySem.W.findIn K (.ref C) f=some none
def v8 (f:Str)(cs:List Nat):af->Option af
 | .dat (.exc c fs)=>if cs.contains c then(fs.lookup f).map .dat else none
 |_=>none
def kJ (f:Str)(cs:List Nat)(aJ:CE):CE:=λρ=>(aJ ρ).bind λs=>wY (v8 f cs s)
theorem pB {X:Cx}{W:WX}{e:Expr}{aJ:CE}{f:Str}{cs:List Nat}{pos:Pos}(hf:∀c∈cs,rO X.K (bQ X.K c) f)(h1:aV X W e aJ)(hb:attributeBase e f X.env (eval e X.env)=eval e X.env:=by rfl):aV X W (.Attribute e f pos) (kJ f cs aJ):=⟨λρ M aa G σ H Q ms en h=>by
 intro pins s I;have hw:wE X e σ H λv H1=>∃av au M1 c fs d,aE X.K av au M1 H1/\bK X.K au v (.exc c fs)/\c∈cs/\fs.lookup f=some d/\∀u,bK X.K au u d->Q u H1:=
  h1.seq ms en h λav au M1 H1 v s1 g1 m1 r1 aC=>by
   obtain⟨t,e1,q⟩:=Le.mp aC;unfold v8 at e1;split at e1
   ·rename_i c fs
    split at e1
    ·rename_i hc
     cases hl:fs.lookup f with
     |none=>rw[hl]at e1;cases e1
     |some d=>
      rw[hl]at e1;cases e1
      exact⟨av,au,M1,c,fs,d,m1,r1,by simpa using hc,hl,λu kg=>q _ _ _ _ (aG.refl _ _ _) m1 kg⟩
    ·cases e1
   ·cases e1
 refine attr_of hb (thn (hw pins s I) λu s1 ⟨v,H1,bE,bL,av,au,M1,c,fs,d,m1,r1,hc,hl,q⟩=>?_);cases r1 with
 | @exc a bx _ bG _ o ga Lh gd sL=>
 obtain rfl:u=Value.ref a:=bL;have T:=hf c hc;have ha:s1.heap.get? a=some o:=by
  rcases m1.le a _ ga with y|⟨y,_⟩
  ·exact(bE.hok a _ y).1
  ·unfold bM at y;cases y
 have hx:ObjOk X.prog X.w H1 s1.heap bx (.xd bG):=by
  rcases m1.le bx _ gd with y|⟨y,_⟩
  ·exact bE.hok bx _ y
  ·cases y
 obtain⟨mA,j7,hr⟩:=hx;obtain⟨od,ho,hlk⟩:=lookIn_ns j7;obtain⟨v,hv,adB⟩:=sL.lookup hl;obtain⟨u,hu,kg⟩:=RelO.some_of (v:=v) (o:=mA f) (by rw[<-hv];exact hr f);obtain⟨vs,hd⟩:=Lh.data;have J:PySem.W.InstAt s1.heap a o (bQ X.K c) (some od):=⟨ha,Lh.cls,by unfold PySem.W.notCls;rw[hd]<;>rfl,by rw[Lh.dict];exact ho⟩;exact HandSPX.exc_get bE.kIn J T.x.ga T.x.gg T.x.exC (PySem.W.findObj_own T.x.hdC T.no rfl (by rw[hlk,hu])) (handed_of kg) ⟨v,H1,bE.tok _,kg,q v adB⟩⟩
structure AI (P:Program)(w:World)(K:Frag)(mg:Str->Option Value)(base:Heap)(CX:CXT)(k:Nat)(f:Addr)(fd:FuncData)(ps:List Str)(sp:Sp):Prop where
 len:∀vs H Q E,sp vs H Q E->vs.length=ps.length
 run:∀(A:Around) (outer:List Env) (s:Shared) (H:Hp) (args:Args) (us:List Value) (vs:List V) (Q:VK) (E:XK),L2H.RoomH k A->Env0 P w K mg base A outer s H->BindsTo s fd args (ps.zip us)->Vals vs us->sp vs H Q E->
  codeAny (model P w) A (.call (.ref f) args) (CR CX outer P w H s Q E) s
abbrev vM (P:Program)(w:World)(K:Frag)(mg:Str->Option Value)(base:Heap)(N:List Str)(qual:Str)(sc:Scope)(f:Addr)(cdv:Value)(A:Around)(outer:List Env)(s:Shared)(H:Hp)(E:XK):Cx:=
 { cxOf (L2.CX P w) P w K mg base N qual sc f cdv A outer s H E with calm:=false}
section
variable{P:Program}{w:World}{K:Frag}{mg:Str->Option Value}{base:Heap}{x qual:Str}{dg:Stmt}{f:Addr}{fd:FuncData}{N ps:List Str}{k:Nat}
theorem aa4 {cdv:Value}{A:Around}{outer:List Env}{s s1:Shared}{H:Hp}{E:XK}{us:List Value}{vs:List V}{scope:Scope}(S:FnScope N ps scope)(e0:Env0 P w K mg base A outer s H)(hl:vs.length=ps.length)(r:Vals vs us)
    (y:InCallC s s.heap.objs.size (bindL (envOfC qual scope s.heap.objs.size f cdv).kindOf (ps.zip us) λ_=>none) (cellsFrom (s.heap.objs.size+1) scope.names []) (bindC (envOfC qual scope s.heap.objs.size f cdv).kindOf (ps.zip us) λ_=>none) s1):
    Inv (vM P w K mg base N qual scope f cdv A outer s H E) [] (L2.start N vs) H s1:=by
  obtain⟨A1,hA,hd⟩:∃A1:Around,A1.frames=A.frames/\A1.handled=none:=⟨{A with handled:=none},rfl,rfl⟩;have I:=inv_start (CX:=L2.CX P w) (A:=A1) (E:=E) (N:=N) (qual:=qual) (f:=f) (cd:=cdv) S hd ⟨by rw[hA];exact e0.frames,e0.mod,e0.bs,e0.bsz,e0.funs,e0.frf,e0.hok,e0.bare⟩ hl r y;have ok:=I.ok;exact⟨⟨ok.mod,ok.kind,ok.glob,ok.blt,ok.above,ok.inj,ok.has,ok.cab,λz=>absurd (show false=true from z) Bool.false_ne_true,Around.frames_deeper e0.frames,ok.stk,ok.exf,ok.bs,ok.bsz,ok.noex,ok.exfs,ok.funs,ok.frf⟩,
    I.os,I.bare,I.base,I.loc,I.cell,I.free,I.freeC,I.pin,I.hok,I.len⟩
end
section
variable{P:Program}{w:World}{K:Frag}{mg:Str->Option Value}{base:Heap}{x qual:Str}{dg:Stmt}{f:Addr}{fd:FuncData}{N ps:List Str}{k:Nat}
theorem Yb (m:Bool)(F:Fun K x qual dg f fd)(S:FnScope N ps (defScope dg)){mH:aQ}
    (body:∀cdv A outer s H E,L2H.RoomH k (A.deeper (envOfC qual (defScope dg) s.heap.objs.size f cdv))->SB (vM P w K mg base N qual (defScope dg) f cdv A outer s H E) (λcls d _ H=>E cls d H) (defBody dg) mH):
    AI P w K mg base (L2.CX P w) (k+1) f fd ps (fM K ps.length (aX m ps.length N.length mH)):=by
  have len:∀vs H Q E,fM K ps.length (aX m ps.length N.length mH) vs H Q E->vs.length=ps.length:=λvs H Q E h=>by
    obtain⟨aa,G,M,ss,_,r,e,_⟩:=h;rw[r.length,e]
  refine⟨len,λA outer s H args us vs Q E hr e0 hb bL wm=>?_⟩;have hl:=len _ _ _ _ wm;obtain⟨oc,od,kV,doc,pm,an,cdv,ct,fq,rfl,lk,hcd⟩:=F.ex;have KX:K.In s.heap:=e0.mod.kin.keeps λb o e=>(e0.bs b o e).1
  have lim:s.heap.NoLimit:=e0.mod.nolimit.keeps λb o e=>(e0.bs b o e).1
  refine codeAny_call_function hr.depth (KX _ _ lk) rfl S.co S.gen rfl (PySem.W.codeRec_of KX hcd) (hb _ _ _ _ (wpAny_newFunctionEnv_cells S.kind (λy hy=>?_) λenv he s1 y=>?_))
  · obtain⟨n,v⟩:=y
    rcases S.par n (List.of_mem_zip hy).1 with q|q
    · exact .inl q
    · exact .inr ⟨q,PySem.W.cellsFrom_some _ _ _ (.inl q)⟩
  · subst he
    refine⟨lim.keeps y.toInCall.keep,codeAny_func ?_⟩;have J:=aa4 (E:=E) (cdv:=cdv) (qual:=qual) (f:=f) S e0 hl bL y;obtain⟨aa,G,M,ss,ms,r,e,h⟩:=wm;have en:=vX (K:=K) (aa:=aa) (G:=G) (N:=N) r;rw[e]at en;unfold aX at h;rw[if_pos e]at h;have run:=(body cdv A outer s H E (hr.deeper _)).run _ M aa G (L2.start N vs) H {nx:=λ_ H'=>Q .non H',rt:=Q} ms en (wp_mono (λcE iP=>by
      cases cE with
      |ex c fs M1=>
        intro aN aj ai H' d bG g1 m1 e1 r1;rw[show M.length=aa.length from ms.len.symm]at iP;exact lG ms g1 m1 λaM g2 m2 _=>iP aM ai H' d bG g2 m2 e1 r1
      |ok a M1=>
        cases a with
        |nx aT=>
          intro aj ai H' aN g1 m1 _;have iP:jW K Q E aa G H (.ok (.dat .non) (cut M.length M1)):=iP;rw[show M.length=aa.length from ms.len.symm]at iP;exact lG ms g1 m1 λaM g2 m2 _=>iP aM ai H' .non g2 m2 Dw
        |rt s1=>exactλaj ai H' v g1 m1 r1=>Br ms g1 m1 r1 iP
        |bk aT=>exact(show False from iP).elim
        |ct aT=>exact(show False from iP).elim) (wp_bind.mp h))
    refine wpAny_mono (run [] s1 J) (λfK aF hs=>?_) λe aF hs=>hs
    cases fK with
    |ret u=>obtain⟨v,aN,H',eV,adA,q⟩:=hs;exact⟨v,H',eV.os,eV.bare,eV.base,eV.hok,adA,q⟩
    |next=>obtain⟨aN,H',eV,q⟩:=hs;exact⟨.non,H',eV.os,eV.bare,eV.base,eV.hok,rfl,q⟩
    |brk=>obtain⟨_,_,_,q⟩:=hs;exact False.elim q
    |cont=>obtain⟨_,_,_,q⟩:=hs;exact False.elim q
end
section
variable{X:Cx}{a:Addr}{oe:Obj}{pn pins:List (Addr×Obj)}{σ:L2.St}{H H' G:Hp}{s:Shared}
theorem mR {b:Addr}{o:Obj}(z:([(a,oe)]:gn).lookup b=some o):b=a/\o=oe:=by
 rw[List.lookup_cons]at z;cases e:(b==a)with
 |true=>rw[e]at z;cases z;exact⟨eq_of_beq e,rfl⟩
 |false=>rw[e]at z;cases z
theorem I3:([(a,oe)]:gn).lookup a=some oe:=by simp
theorem aa5 (I:Inv (X.suite a ((a,oe)::pn)) [] σ H s)(fr:X.s_0.heap.get? a=none)(ap:∀p∈pn,p.1≠a):Inv (X.suite a pn) [] σ (c7 [(a,oe)] H) s:=by
 have ok:=I.ok;obtain⟨dI,cI,fS,qV,j_⟩:=I.pin (a,oe) (List.mem_append_left _ (.head _));have no:∀b,b≠a->c7 [(a,oe)] H b=H b:=λb hb=>dj (by
  cases z:([(a,oe)]:gn).lookup b with
  |none=>rfl
  |some o=>exact absurd (mR z).1 hb)
 have hn:∀b o,([(a,oe)]:gn).lookup b=some o->H b=none:=λb o z=>by rw[(mR z).1];exact cI
 refine⟨⟨ok.mod,ok.kind,ok.glob,ok.blt,ok.above,ok.inj,ok.has,ok.cab,ok.hd,ok.frames,ok.stk,ok.exf,ok.bs,ok.bsz,ok.noex,ok.exfs,ok.funs,ok.frf⟩,I.os,I.bare,?_,I.loc,I.cell,?_,λx c e=>?_,λp hp=>?_,?_,I.len⟩
 ·have un:=I.base
  have ne:∀b o,X.s_0.heap.get? b=some o->b≠a:=λb o e z=>by rw[z,fr]at e;cases e
  exact{
   keep:=un.keep
   slot:=un.slot
   free:=λb o e n hx=>by rw[no b (ne b o e)];exact un.free b o e n hx
   there:=un.there
   tups:=λb xs e=>by
    have q:=un.tups b xs e;rw[dj (o5 hn (by rw[q];simp))];exact q
   frzs:=λb o v e=>by
    have q:=un.frzs b o v e;rw[dj (o5 hn (by rw[q];simp))];exact q
   tbls:=λb ps e=>by
    obtain⟨more,q⟩:=un.tbls b ps e;exact⟨more,by rw[dj (o5 hn (by rw[q];simp))];exact q⟩}
 ·rw[no _ (Ne.symm fS)];exact I.free
 ·have hc:c≠a:=λz=>by
   obtain⟨v,o,ho,hd⟩:=I.cell x c e;rw[z,dI]at ho;cases ho
   exact j_ v hd
  rw[no c hc];exact I.freeC x c e
 ·have oU:p∈pn:=by simpa using(show p∈pn++[]from hp)
  have q:=I.pin p (List.mem_append_left _ (.tail _ oU));exact⟨q.1,by rw[no _ (ap p oU)];exact q.2.1,q.2.2⟩
 ·exact HV hn (λb o z=>by rw[(mR z).1,(mR z).2];exact dI) I.hok
theorem aa2 (I:Inv (X.suite a pn) [] σ H s)(acw:(X.suite a ((a,oe)::pn)).Ok)(fr:X.s_0.heap.get? a=none)(ap:∀p∈pn,p.1≠a)(hH:H a=some (bM a oe))(hd:∃vs,oe.data=.fields vs)(zO:a≠X.env.locals)(C5:a∉X.fs):Inv (X.suite a ((a,oe)::pn)) [] σ (cK [(a,oe)] H) s:=by
 have no:∀b,b≠a->cK [(a,oe)] H b=H b:=λb hb=>cB (by
  cases z:([(a,oe)]:gn).lookup b with
  |none=>rfl
  |some o=>exact absurd (mR z).1 hb)
 have tl:∀b o,([(a,oe)]:gn).lookup b=some o->H b=some (bM b o):=λb o z=>by rw[(mR z).1,(mR z).2];exact hH
 have ha:s.heap.get? a=some oe:=(I.hok a _ hH).1;obtain⟨vs,hd⟩:=hd;refine⟨acw,I.os,I.bare,?_,I.loc,I.cell,oq I.free,λx c e=>oq (I.freeC x c e),λp hp=>?_,λb u e=>?_,I.len⟩
 ·have un:=I.base
  exact{
   keep:=un.keep
   slot:=un.slot
   free:=λb o e n hx=>oq (un.free b o e n hx)
   there:=un.there
   tups:=λb xs e=>by
    have q:=un.tups b xs e;rw[cB (gz tl q λo=>Ne.symm wX)];exact q
   frzs:=λb o v e=>by
    have q:=un.frzs b o v e;rw[cB (gz tl q λcj y=>by unfold bM at y;cases y)];exact q
   tbls:=λb ps e=>by
    obtain⟨more,q⟩:=un.tbls b ps e;exact⟨more,by rw[cB (gz tl q λcj y=>by unfold bM at y;cases y)];exact q⟩}
 ·have oU:p∈(a,oe)::pn:=by simpa using(show p∈((a,oe)::pn)++[]from hp)
  rcases List.mem_cons.mp oU with rfl|z
  ·exact⟨ha,back_in I3,zO,C5,λv z=>by have DZ:oe.data=.cell v:=z;rw[hd]at DZ;cases DZ⟩
  ·have q:=I.pin p (List.mem_append_left _ z)
   exact⟨q.1,oq q.2.1,q.2.2⟩
 ·cases z:([(a,oe)]:gn).lookup b with
  |some o=>rw[back_in z]at e;cases e
  |none=>
   rw[cB z]at e;refine(I.hok b u e).stay (λc v _ y=>y) (λc y=>?_) λc xs y=>?_
   ·rw[cB (gz tl y λo=>Ne.symm Jt)];exact y
   ·rw[cB (gz tl y λo=>Ne.symm wX)];exact y
end
def Dg (i:Nat):Re ck->T (Re ck)
 | .ok (.nx ρ) M=>if(ρ.set i .un).all gW&&M.all fR then .ret (.ok (.nx (ρ.set i .un)) M)else .bad
 | .ok (.bk ρ) M=>if(ρ.set i .un).all gW&&M.all fR then .ret (.ok (.bk (ρ.set i .un)) M)else .bad
 | .ok (.ct ρ) M=>if(ρ.set i .un).all gW&&M.all fR then .ret (.ok (.ct (ρ.set i .un)) M)else .bad
 | .ok (.rt s) M=>if gW s&&M.all fR then .ret (.ok (.rt s) M)else .bad
 | .ex _ _ _=>.bad
def yt (n i:Nat)(cat:Nat->Option Bool)(fs:aQ):Re ck->T (Re ck)
 | .ok f M=>.ret (.ok f M)
 | .ex c es M=>match cat c with
  |some true=>(fs ((List.replicate n .un).set i (.dat (.exc c es))) M).bind (Dg i)
  |some false=>.ret (.ex c es M)
  |none=>.bad
def DA (bS:aQ)(n i:Nat)(cat:Nat->Option Bool)(fs:aQ):aQ:=λρ M=>(bS ρ M).bind (yt n i cat fs)
section
variable{X:Cx}{W:WX}{a:Addr}{oe:Obj}{pn:List (Addr×Obj)}{K:Frag}{aa aj:List Addr}{G ai H H':Hp}{M ao:List ak}{σ:L2.St}{ρ:List af}{L:gn}{i:Nat}
theorem GW (hl:∀b o,L.lookup b=some o->G b=some (bM b o))(hn:(ρ.set i .un).all gW=true)(en:bO K aa G σ ρ):bO K aa (cK L G) (σ.set i none) (ρ.set i .un):=by
 refine⟨by rw[List.length_set,List.length_set];exact en.len,λj s e=>?_⟩;have ns:=List.all_eq_true.mp hn s (List.mem_of_getElem? e);by_cases hj:i=j
 ·subst hj
  rw[List.getElem?_set]at e;split at e
  ·split at e
   ·cases e;exact .inl rfl
   ·cases e
  ·exact absurd rfl ‹_›
 ·rw[List.getElem?_set_ne hj]at e⊢
  rcases en.at_ j s e with z|⟨v,e1,r⟩
  ·exact .inl z
  ·exact .inr ⟨v,e1,z3 hl ns r⟩
theorem afr {n:Str}{np:Nat}{cs:List Value}{body suite:List Stmt}{s0:Stmt}{qi:Expr}{hp pos:Pos}{bS fs:aQ}{cat:Nat->Option Bool}(hex:X.ex=[])(hs:X.stack=X.env::X.outer)(hf:X.env.frame=some X.env.locals)(hN:X.N.Nodup)(jt:X.N.length=np)(hi:X.N[i]?=some n)(zl:X.env.kindOf n=some .local)
    (ht:EE X qi cs) (tk:Takes X W) (hc:∀c b,cat c=some b->PySem.W.exmAny X.K (.ref (bQ X.K c)) cs=some b)
    (hb:∀(W:WX) (pn:List (Addr×Obj)) (xe:Value->Shared->Prop),Takes (X.tr pn xe) W->PassesOwn (model X.prog X.w) X.A X.env xe->SB (X.tr pn xe) W body bS)
    (H8:∀(a:Addr) (pn:List (Addr×Obj)),SB (X.suite a pn) (λ_ _ _ _=>False) (s0::suite) fs):
    iI X W (.Try body [.ExceptHandler (some qi) (some n) (s0::suite) hp] [] [] pos) (DA bS np i cat fs):=⟨λρ M aa G σ H D ms en h=>by
  let ts:Addr->Value->Option Addr->TS:=λa cls d D σ H=>∃c es aa G M bG bx,cls=.ref (bQ X.K c)/\d=some bx/\aE X.K aa G M H/\G bx=some (.xd bG)/\fG X.K G bG es/\σ.length=np/\i<np/\σ[i]?=some (some (.ref a))/\X.s_0.heap.get? a=none/\H a=none/\
    wp (fs ((List.replicate np .un).set i (.dat (.exc c es))) M) (λr=>∀oe:Obj,aG aa (c7 [(a,oe)] G) (c7 [(a,oe)] H) aa (c7 [(a,oe)] G) (c7 [(a,oe)] H)->
      dY X (λ_ _ _ _=>False) {nx:=λaN H'=>H' a=some (bM a oe)/\D.nx aN (cK [(a,oe)] H'),rt:=λv H'=>H' a=some (bM a oe)/\D.rt v (cK [(a,oe)] H'),bk:=λaN H'=>H' a=some (bM a oe)/\D.bk aN (cK [(a,oe)] H'),ct:=λaN H'=>H' a=some (bM a oe)/\D.ct aN (cK [(a,oe)] H')} aa (c7 [(a,oe)] G) (c7 [(a,oe)] H) r)
  let tb:WX->TS:=λW D σ H=>∃ρ M aa G,aE X.K aa G M H/\bO X.K aa G σ ρ/\wp (bS ρ M) (dY X W D aa G H)
  refine toS (ps_try_many (tb:=tb) (ts:=ts) hex hs hf hN hi zl ht tk (λW pn xe tk po=>⟨λpins s σ H D I ⟨ρ,M,aa,G,ms,en,w⟩=>?_⟩) (λa oe cls d pn hz hd ap s σ H D I j8=>?_)) ⟨ρ,M,aa,G,ms,en,?_⟩
  · exact(hb W pn xe tk po).run ρ M aa G σ H D ms en w pins s I
  · obtain⟨c,es,aa,G,M,bG,bx,rfl,rfl,ms,gd,sL,hl,nK,wu,fr,ha,w⟩:=j8
    have hn:∀b o,([(a,oe)]:gn).lookup b=some o->H b=none:=λb o z=>by rw[(mR z).1];exact ha
    have m1:=C3 hn ms;have ex:=ud hn ms.le;have bE:=aa5 I fr ap;have yL:bO X.K aa (c7 [(a,oe)] G) σ ((List.replicate np .un).set i (.dat (.exc c es))):=by
      refine⟨by simp[hl],λj t e=>?_⟩;by_cases hj:i=j
      · subst hj
        rw[List.getElem?_set_self (by simpa using nK)]at e;cases e
        exact .inr ⟨_,wu,bK.exc (mQ I3) ⟨hz.1,hz.2,hd⟩ (ex _ _ gd) (fG.mono ex sL)⟩
      · rw[List.getElem?_set_ne hj,List.getElem?_replicate]at e
        split at e
        · exact .inl (Option.some.inj e).symm
        · cases e
    obtain⟨dI,cI,fS,qV,j_⟩:=I.pin (a,oe) (List.mem_append_left _ (.head _));refine wpAny_mono ((H8 a pn).run _ M aa _ σ _ _ m1 yL (wp_mono (λr hr=>hr oe (aG.refl _ _ _)) w) [] s bE) (λfK t q=>?_) λ_ _ z=>z.elim
    have bk:∀{aN:L2.St} {H':Hp},Inv (X.suite a pn) [] aN H' t->H' a=some (bM a oe)->Inv (X.suite a ((a,oe)::pn)) [] aN (cK [(a,oe)] H') t:=λeV e=>aa2 eV I.ok fr ap e hd fS qV
    cases fK with
    |next=>obtain⟨aN,H',eV,e,q⟩:=q;exact⟨_,_,bk eV e,q⟩
    |brk=>obtain⟨aN,H',eV,e,q⟩:=q;exact⟨_,_,bk eV e,q⟩
    |cont=>obtain⟨aN,H',eV,e,q⟩:=q;exact⟨_,_,bk eV e,q⟩
    |ret u=>obtain⟨v,aN,H',eV,bL,e,q⟩:=q;exact⟨_,_,_,bk eV e,bL,q⟩
  · refine wp_mono (λr hr=>?_) (wp_bind.mp h)
    cases r with
    |ok f M1=>
      have hr:dY X W D aa G H (.ok f M1):=hr;cases f with
      |nx _=>exact hr
      |rt _=>exact hr
      |bk _=>exact hr
      |ct _=>exact hr
    |ex c es M1=>
      intro aN av au H1 d bG g1 m1 gd sL hl;have hl:aN.length=np:=hl.trans jt;unfold yt at hr;cases hcat:cat c with
      |none=>simp only[hcat]at hr;exact hr.elim
      |some b=>
        simp only[hcat]at hr;refine⟨b,hc c b hcat,λhb1 a ha fr=>?_,λhb0=>?_⟩
        · subst hb1
          have nK:i<np:=by rw[<-jt];exact(List.getElem?_eq_some_iff.mp hi).1
          refine⟨c,es,av,au,M1,bG,d,rfl,rfl,m1,gd,sL,by rw[List.length_set];exact hl,nK,by rw[List.getElem?_set_self (by rw[hl];exact nK)],fr,ha,wp_mono (λr w oe oO=>?_) (wp_bind.mp hr)⟩;have hn:∀b o,([(a,oe)]:gn).lookup b=some o->H1 b=none:=λb o z=>by rw[(mR z).1];exact ha
          have BA:∀{aj:List Addr} {ai H':Hp} {ao:List ak},aG av (c7 [(a,oe)] au) (c7 [(a,oe)] H1) aj ai H'->aE X.K aj ai ao H'->ao.all fR=true->H' a=some (bM a oe)/\aG aa G H aj (cK [(a,oe)] ai) (cK [(a,oe)] H')/\aE X.K aj (cK [(a,oe)] ai) ao (cK [(a,oe)] H'):=λ{aj ai H' ao} g m hm=>
            ⟨Q3 g m a oe I3,g1.trans (OP hn m1.le g),Rk (uF g) hm m⟩
          cases r with
          |ex c2 air M2=>exact(show False from w).elim
          |ok f M2=>
            cases f with
            |nx gU=>
              intro aj ai H' eK g m iM;have w:wp (if(gU.set i .un).all gW&&M2.all fR then .ret (.ok (.nx (gU.set i .un)) M2)else .bad) (dY X W D aa G H):=w;split at w
              · rename_i hh
                rw[Bool.and_eq_true]at hh;obtain⟨q1,q2,q3⟩:=BA g m hh.2;exact⟨q1,w _ _ _ _ q2 q3 (GW (uF g) hh.1 iM)⟩
              · exact w.elim
            |bk gU=>
              intro aj ai H' eK g m iM;have w:wp (if(gU.set i .un).all gW&&M2.all fR then .ret (.ok (.bk (gU.set i .un)) M2)else .bad) (dY X W D aa G H):=w;split at w
              · rename_i hh
                rw[Bool.and_eq_true]at hh;obtain⟨q1,q2,q3⟩:=BA g m hh.2;exact⟨q1,w _ _ _ _ q2 q3 (GW (uF g) hh.1 iM)⟩
              · exact w.elim
            |ct gU=>
              intro aj ai H' eK g m iM;have w:wp (if(gU.set i .un).all gW&&M2.all fR then .ret (.ok (.ct (gU.set i .un)) M2)else .bad) (dY X W D aa G H):=w;split at w
              · rename_i hh
                rw[Bool.and_eq_true]at hh;obtain⟨q1,q2,q3⟩:=BA g m hh.2;exact⟨q1,w _ _ _ _ q2 q3 (GW (uF g) hh.1 iM)⟩
              · exact w.elim
            |rt z=>
              intro aj ai H' v g m xg;have w:wp (if gW z&&M2.all fR then .ret (.ok (.rt z) M2)else .bad) (dY X W D aa G H):=w;split at w
              · rename_i hh
                rw[Bool.and_eq_true]at hh;obtain⟨q1,q2,q3⟩:=BA g m hh.2;exact⟨q1,w _ _ _ _ q2 q3 (z3 (uF g) hh.1 xg)⟩
              · exact w.elim
        · subst hb0
          have hr:dY X W D aa G H (.ex c es M1):=hr;exact hr aN av au H1 d bG g1 m1 gd sL⟩
end
structure Lv (D:f6)(k:Nat)(x:Str)(np:Nat)(F:aK):Prop where
 ex:∃f fd ps,AI D.prog D.w D.K D.mg D.base (L2.CX D.prog D.w) k f fd ps (fM D.K np F)/\D.mg x=some (.ref f)/\PySem.W.keepIn D.K (.ref f)=true/\Binds D.K fd ps []
theorem aeR {X:Cx}{W:WX}{e:Expr}{es:List Expr}{x:Str}{fs:aH}{F:aK}{k n:Nat}{p pos:Pos}(C:Lv X.gj k x n F)(hl:∀{ss M Q},wp (F ss M) Q->ss.length=n)(hr:L2H.RoomH k X.A)(G:dW X x)(tk:Takes X W)(h1:jn X W (e::es) fs)
    (he:starEach (e::es) X.env=(false,eval e X.env)::starEach es X.env:=by rfl) (hpl:(backTo pos (starEach es X.env)).any (·.1)=false:=by rfl):aV X W (.Call (.Name x p) (e::es) [] pos) (bR F fs):=⟨λρ M aa tw σ H Q ms en h=>by
  intro pins s I;obtain⟨f,fd,ps,eg,hm,hk,hb⟩:=C.ex;have qF:u5 X (e::es) σ H λvs H1=>∃av au M1 ss,aE X.K av au M1 H1/\bA X.K av au vs ss/\wp (F ss M1) (cV X W (bz X.K) Q σ av au H1):=
    h1.seq ms en h λav au M1 H1 vs ss g1 m1 r1 aC=>⟨av,au,M1,ss,m1,r1,aC⟩
  refine wpAny_Call_Name_kw (ld_glob I G.gl hm ?_ G.nd);refine PySem.W.callWith_K (h₀:=X.base) I.ok.mod.kin hk (thn (qF pos pins s I) λus s1 ⟨vs,H1,bE,bL,av,au,M1,ss,m1,r1,aC⟩=>⟨bE.kIn,?_⟩) he hpl;have sp:fM X.K n F vs H1 Q (WE W σ):=⟨av,au,M1,ss,m1,r1,hl aC,wp_mono (λr hr=>by
    cases r with
    |ok z M2=>exact hr
    |ex c fs M2=>exact hr) aC⟩
  have hlen:us.length=ps.length:=by rw[<-bL.length];exact eg.len _ _ _ _ sp
  refine wpAny_call (codeAny_mono (eg.run X.A X.stack s1 H1 ⟨us,[]⟩ us vs Q (WE W σ) hr bE.env0 (by
    have:=hb s1 us bE.kIn (by simpa using hlen);simpa using this) bL sp) λr aF hq=>?_)
  cases r with
  |error e=>exact passAt tk σ pins H1 s1 e aF bE hq
  |ok fK=>
    cases fK with
    |ret w=>exact bE.after hq
    |next=>exact False.elim hq
    |brk=>exact False.elim hq
    |cont=>exact False.elim hq⟩
theorem afU {X:Cx}{a:Addr}{pn:List (Addr×Obj)}:Takes (X.suite a pn) (λ_ _ _ _=>False):=λu aF x=>by
 obtain⟨_,_,_,_,_,_,_,_,_,_,_,_,_,_,_,_,z⟩:=x;exact z.elim
def nC (ρ:List af):List Nat->Option (List af)
 |[]=>some []
 |j::r=>match ρ[j]? with
  |some .un=>none
  |some s=>(nC ρ r).map (s::·)
  |none=>none
abbrev nZ:Type:=Nat->Option (List Nat)
def rT (cR:nZ)(ρ:List af)(i:Nat)(M:List ak):Option (R.D×List ak):=match cR i with
 |some dH=>match nC ρ dH with
  |some ss=>match iA M ss with
   |some (ds,M1)=>if iR ds then some (.cL i ds,M1)else none
   |none=>none
  |none=>none
 |none=>none
def j4 (cR:nZ)(ρ:List af):List R.D->List ak->Option (List R.D×List ak)
 |[],M=>some ([],M)
 | .lam i::r,M=>match rT cR ρ i M with
  |some (d,M1)=>(j4 cR ρ r M1).map λp=>(d::p.1,p.2)
  |none=>none
 |_::_,_=>none
def clo (cR:nZ)(ρ:List af)(M:List ak):R.D->Option (R.D×List ak)
 | .lam i=>rT cR ρ i M
 | .lst xs=>(j4 cR ρ xs M).map λp=>(.lst p.1,p.2)
 |_=>none
structure D_ (X:Cx)(i:Nat)(dH:List Nat):Prop where
 S:LamS (aI.txt i)
 cl:aI.cells=X.env.cells
 at_:∀(k:Nat) y,(aI.txt i).fr[k]?=some y->∃j,dH[k]?=some j/\X.N[j]?=some y/\(X.env.scope.names.lookup y=some .cell\/X.env.scope.names.lookup y=some .free)
 len:dH.length=(aI.txt i).fr.length
def jI (X:Cx)(h:Heap):gn:=X.env.cells.filterMap λp=>if X.env.cells.lookup p.1=some p.2 then(h.get? p.2).map λo=>(p.2,o)else none
section
variable{X:Cx}{W:WX}{pins:List (Addr×Obj)}{σ:L2.St}{ρ:List af}{H G:Hp}{s:Shared}{aa:List Addr}{M M1:List ak}{cR:nZ}
theorem OI (en:bO X.K aa G σ ρ):∀{dH:List Nat} {ss:List af},nC ρ dH=some ss->∃vs:List V,bA X.K aa G vs ss/\vs.length=dH.length/\∀(k j:Nat),dH[k]?=some j->∃v,vs[k]?=some v/\σ[j]?=some (some v)
 |[],ss,h=>by cases h;exact⟨[],.nil,rfl,λk j e=>by simp at e⟩
 |j::r,ss,h=>by
  unfold nC at h;split at h
  ·cases h
  ·rename_i t hu ht
   cases hr:nC ρ r with
   |none=>rw[hr]at h;cases h
   |some tt=>
    rw[hr]at h;cases h
    obtain⟨vs,r1,r2,r3⟩:=OI en hr;rcases en.at_ j t ht with z|⟨v,e1,e2⟩
    ·exact absurd z hu
    ·refine⟨v::vs,.cons e2 r1,by simp[r2],λk i e=>?_⟩
     cases k with
     |zero=>simp at e;subst e;exact⟨v,rfl,e1⟩
     |succ k=>simp at e;simpa using r3 k i e
  ·cases h
theorem WU (I:Inv X pins σ H s){x:Str}{c:Addr}(h:X.env.cells.lookup x=some c):∃o,s.heap.get? c=some o/\(jI X s.heap).lookup c=some o:=by
 obtain⟨v,o,ho,_⟩:=I.cell x c h;refine⟨o,ho,?_⟩;have m:(c,o)∈jI X s.heap:=by
  unfold jI;rw[List.mem_filterMap];exact⟨(x,c),PySem.mem_of_lookup h,by simp[ho,h]⟩
 cases z:(jI X s.heap).lookup c with
 |none=>
  rw[List.lookup_eq_none_iff]at z;have:=z _ m;simp at this
 |some cj=>
  have m2:=CZ z;unfold jI at m2;rw[List.mem_filterMap]at m2;obtain⟨q,_,e⟩:=m2;split at e
  case isFalse=>cases e
  cases g:s.heap.get? q.2 with
  |none=>rw[g]at e;cases e
  |some lX=>
   rw[g]at e;cases e
   rw[ho]at g;exact g▸rfl
theorem WV {h:Heap}{b:Addr}{o:Obj}(z:(jI X h).lookup b=some o):∃x,X.env.cells.lookup x=some b/\h.get? b=some o:=by
 have m:=CZ z;unfold jI at m;rw[List.mem_filterMap]at m;obtain⟨q,_,e⟩:=m;split at e
 ·rename_i hq
  cases g:h.get? q.2 with
  |none=>rw[g]at e;cases e
  |some lX=>rw[g]at e;cases e;exact⟨q.1,hq,g⟩
 ·cases e
theorem WW (I:Inv X pins σ H s)(ze:∀x c,X.env.cells.lookup x=some c->X.fn x=true):AV (jI X s.heap) X.base (frs X.stack) s.heap H:=⟨λb o z=>by
 obtain⟨x,hx,hg⟩:=WV z;have ge:=I.ok.cab x b (ze x b hx) hx;refine⟨hg,I.freeC x b hx,λhm=>?_,?_⟩
 ·rcases List.mem_cons.mp (I.stkSub _ hm)with e|e
  ·exact I.cne x b hx e
  ·obtain⟨_,cj,eT,_⟩:=I.ok.funs.mem e
   exact absurd (Nat.lt_of_lt_of_le (Heap.lt_size eT) ge) (Nat.lt_irrefl _)
 ·cases q:X.base.get? b with
  |none=>rfl
  |some cj=>exact absurd (Nat.lt_of_lt_of_le (Heap.lt_size q) (Nat.le_trans I.ok.bsz ge)) (Nat.lt_irrefl _)⟩
theorem Bu {T:eo}(S:LamS T)(hh:∀y∈T.scope.names,y.2=.free->∃c,X.env.cells.lookup y.1=some c){y:Str}{c:Addr}(e:(cloFrom X.env.cells T.scope.names []).lookup y=some c):y∈T.fr/\X.env.cells.lookup y=some c:=by
 rcases cloFrom_mem (PySem.mem_of_lookup e)with hm|⟨h1,h2⟩
 ·cases hm
 ·obtain⟨c1,h3⟩:=hh _ h1 rfl
  have h3:X.env.cells.lookup y=some c1:=h3;rw[h3]at h2;exact⟨S.mem _ h1 rfl,by rw[h3,h2];rfl⟩
theorem clo_has {T:eo}(S:LamS T)(hh:∀y∈T.scope.names,y.2=.free->∃c,X.env.cells.lookup y.1=some c){y:Str}(hy:y∈T.fr):∃c,(cloFrom X.env.cells T.scope.names []).lookup y=some c:=by
 have hm:(y,NameKind.free)∈T.scope.names:=PySem.mem_of_lookup (S.cR y hy);exact mem_lookup (cloFrom_has (cells:=X.env.cells) (acc:=[]) hm)
theorem WT {i:Nat}{dH:List Nat}{vs:List V}(C:D_ X i dH)(I:Inv X pins σ H s)(hl:∀b o,(jI X s.heap).lookup b=some o->H b=none)(hv:vs.length=dH.length)(YU:∀(k j:Nat),dH[k]?=some j->∃v,vs[k]?=some v/\σ[j]?=some (some v)):
    ql (c7 (jI X s.heap) G) (aI.txt i) (cloFrom aI.cells (aI.txt i).scope.names []) vs:=by
  have S:=C.S;have fr:∀y∈(aI.txt i).fr,∃c,X.env.cells.lookup y=some c:=λy hy=>by
    obtain⟨k,hk⟩:=List.getElem?_of_mem hy;obtain⟨j,_,_,h3⟩:=C.at_ k y hk;exact I.ok.has y h3
  have hh:∀y∈(aI.txt i).scope.names,y.2=.free->∃c,X.env.cells.lookup y.1=some c:=λy hy e=>fr _ (S.mem y hy e)
  rw[C.cl];refine⟨by rw[hv,C.len],λx y c e1 e2=>I.ok.inj x y c (Bu S hh e1).2 (Bu S hh e2).2,λy c e=>(Bu S hh e).1,λk y v hk ZX=>?_⟩;obtain⟨j,h1,h2,h3⟩:=C.at_ k y hk;obtain⟨K3,h4,c6⟩:=YU k j h1;rw[ZX]at h4;cases h4
  obtain⟨c,hc⟩:=clo_has S hh (List.mem_of_getElem? hk);have hc2:=(Bu S hh hc).2;obtain⟨m,_,lk⟩:=I.loc;obtain⟨u,kg,lo⟩:=lk j y v h2 c6 (h3.elim (λz=>.inr (.inl z)) λz=>.inr (.inr z));obtain⟨o,ho,hL⟩:=WU I hc2;refine⟨c,o,u,hc,mQ hL,?_,kg⟩;rcases lo with⟨z,_⟩|⟨_,c',eT,cj,Pf,hd⟩
  · have z:X.env.scope.names.lookup y=some .local:=z
    rcases h3 with q|q<;>rw[q]at z<;>cases z
  · rw[hc2]at eT
    cases eT
    rw[ho]at Pf;cases Pf
    exact hd
end
section
variable{X:Cx}{W:WX}{pins:List (Addr×Obj)}{σ:L2.St}{ρ:List af}{H G au aU:Hp}{s:Shared}{aa:List Addr}{M M1:List ak}{cR:nZ}{L:gn}
theorem abh (e:b6 au aU):b6 (c7 L au) (c7 L aU):=λa o h=>by
 cases z:L.lookup a with
 |none=>rw[dj z]at h⊢;exact e a o h
 |some cj=>rw[mQ z]at h⊢;exact h
def xU (X:Cx)(cR:nZ):Prop:=∀i dH,cR i=some dH->D_ X i dH
theorem Nq (T:xU X cR)(I:Inv X pins σ H s)(hl:∀b o,(jI X s.heap).lookup b=some o->H b=none)(ms:aE X.K aa G M H)(en:bO X.K aa G σ ρ){i:Nat}{v:V}{d:R.D}(r:bK X.K G v (.lam i))(h:rT cR ρ i M=some (d,M1)):
    ∃ai,aE X.K aa ai M1 H/\aG aa G H aa ai H/\bK X.K (c7 (jI X s.heap) ai) v d:=by
  unfold rT at h;split at h
  · rename_i dH hj
    split at h
    · rename_i ss hs
      split at h
      · rename_i ds M2 hf
        split at h
        · cases h
          obtain⟨vs,r1,r2,r3⟩:=OI en hs;obtain⟨ai,m',dR,cE⟩:=yO ms r1 hf;cases r with
          |lam jP=>
            have ex:=ud hl m'.le;exact⟨ai,m',dR,bK.cL (jP.mono (dR.ex.trans ex)) (WT (T i dH hj) I hl r2 r3) (bJ.mono ex cE)⟩
        · cases h
      · cases h
    · cases h
  · cases h
theorem Nr (T:xU X cR)(I:Inv X pins σ H s)(hl:∀b o,(jI X s.heap).lookup b=some o->H b=none):∀{xs:List R.D} {vs:List V} {G:Hp} {M:List ak} {ds:List R.D} {M1:List ak},aE X.K aa G M H->bO X.K aa G σ ρ->bJ X.K G vs xs->j4 cR ρ xs M=some (ds,M1)->
    ∃ai,aE X.K aa ai M1 H/\aG aa G H aa ai H/\bJ X.K (c7 (jI X s.heap) ai) vs ds
  |[],_,G,M,ds,M1,ms,en,r,h=>by
    cases r
    unfold j4 at h;cases h
    exact⟨G,ms,aG.refl _ _ _,.nil⟩
  |d::xs,_,G,M,ds,M1,ms,en,.cons r cE,h=>by
    cases d with
    |lam i=>
      unfold j4 at h;split at h
      · rename_i gu M2 h1
        obtain⟨ai,m',dR,fU⟩:=Nq T I hl ms en r h1;cases hx:j4 cR ρ xs M2 with
        |none=>rw[hx]at h;cases h
        |some p=>
          rw[hx]at h;cases h
          obtain⟨aU,m2,g2,r2⟩:=Nr T I hl m' (en.grow dR) (bJ.mono dR.ex cE) hx;exact⟨aU,m2,dR.trans g2,.cons (fU.mono (abh g2.ex)) r2⟩
      · cases h
    |_=>unfold j4 at h;cases h
theorem W7 (T:xU X cR)(I:Inv X pins σ H s)(hl:∀b o,(jI X s.heap).lookup b=some o->H b=none)(ms:aE X.K aa G M H)(en:bO X.K aa G σ ρ){v:V}{d gu:R.D}(r:bK X.K G v d)(h:clo cR ρ M d=some (gu,M1)):
    ∃ai,aE X.K aa ai M1 H/\aG aa G H aa ai H/\bK X.K (c7 (jI X s.heap) ai) v gu:=by
  cases d with
  |lam i=>exact Nq T I hl ms en r h
  |lst xs=>
    have h:(j4 cR ρ xs M).map (λp=>(R.D.lst p.1,p.2))=some (gu,M1):=h;cases hx:j4 cR ρ xs M with
    |none=>rw[hx]at h;cases h
    |some p=>
      rw[hx]at h;cases h
      cases r with
      |lst ha cE=>
        obtain⟨ai,m',dR,fU⟩:=Nr T I hl ms en cE hx;exact⟨ai,m',dR,.lst (ud hl m'.le _ _ (dR.ex _ _ ha)) fU⟩
  |_=>cases h
def yx (cR:nZ)(ρ:List af)(F:aK)(s:af):Ev af:=λM=>match jL M s with
 |some (d,M1)=>match clo cR ρ M1 d with
  |some (gu,M2)=>(F [.dat gu] M2).bind vP
  |none=>.bad
 |none=>.bad
def BJ (cR:nZ)(F:aK)(aJ:CE):CE:=λρ=>(aJ ρ).bind (yx cR ρ F)
theorem aeQ {x:Str}{F:aK}{k:Nat}{p pos:Pos}{e:Expr}{aJ:CE}(C:iV X.gj k x 1 F)(T:xU X cR)(ze:∀x c,X.env.cells.lookup x=some c->X.fn x=true)(hr:Room k X.A)(n5:dW X x)(h1:aV X W e aJ)
    (he:starEach [e] X.env=(false,eval e X.env)::starEach [] X.env:=by rfl):aV X W (.Call (.Name x p) [e] [] pos) (BJ cR F aJ):=⟨λρ M aa tw σ H Q ms en h=>by
  intro pins s I;obtain⟨f,fd,ps,eg,hm,hk,hb⟩:=C.ex;have hw:wE X e σ H λv H1=>∃av au M1 d gu M2,bO X.K av au σ ρ/\aE X.K av au M1 H1/\bK X.K au v d/\clo cR ρ M1 d=some (gu,M2)/\wp ((F [.dat gu] M2).bind vP) (cV X W (bz X.K) Q σ av au H1):=
    h1.seq ms en h λav au M1 H1 v s1 g1 m1 r1 aC=>by
      unfold yx at aC;split at aC
      · rename_i d M2 hf
        obtain⟨aU,m2,g2,r2⟩:=ug m1 r1 hf;split at aC
        · rename_i gu bB hc
          exact⟨av,aU,M2,d,gu,bB,(en.grow g1).grow g2,m2,r2,hc,wp_mono (λ_=>cV.shift g2) aC⟩
        · exact aC.elim
      · exact aC.elim
  refine wpAny_Call_Name_kw (ld_glob I n5.gl hm ?_ n5.nd);refine PySem.W.callWith_K (h₀:=X.base) I.ok.mod.kin hk ?_ he (by rfl);rw[he];refine Calls.spliced_cons (thn (hw pins s I) λu s1 ⟨v,H1,bE,bL,av,au,M1,d,gu,M2,yL,m1,r1,hc,aC⟩=>?_);refine Calls.spliced_nil ⟨bE.kIn,?_⟩;have l:=WW bE ze;have hl:∀b o,(jI X s1.heap).lookup b=some o->H1 b=none:=λb o z=>(l.at_ b o z).2.1
  obtain⟨aU,m2,g2,r2⟩:=W7 T bE hl m1 yL r1 hc;refine Wr (us:=[u]) (vs:=[v]) (ss:=[.dat gu]) eg hb hr rfl bE l (.cons bL .nil) m2 (.cons r2 .nil) rfl (wp_bind.mpr (wp_mono (λr hr=>?_) (wp_bind.mp aC)));cases r with
  |ex c fs bB=>exact(show False from hr).elim
  |ok z bB=>
    have hr:wp (if gW z&&bB.all fR then .ret (.ok z bB)else .bad) (cV X W (bz X.K) Q σ av au H1):=hr;show wp (if gW z&&bB.all fR then .ret (.ok z bB)else .bad) (jW X.K Q (λ_ _ _=>False) av aU H1)
    split at hr
    · rename_i hh
      rw[if_pos hh];exactλaj ai H' v g m r=>hr aj ai H' v (g2.trans g) m r
    · exact hr.elim⟩
end
end R
namespace R
open PySem PySem.Spec PyProof.Rows L2
@[reducible]def aI.at (cW:aI)(cl:List (Str×Addr)):aI:={cW with cells:=cl}
section
variable{P:Program}{w:World}{K:Frag}{mg:Str->Option Value}{base:Heap}{x qual:Str}{dg:Stmt}{f:Addr}{fd:FuncData}{N ps:List Str}{k:Nat}
theorem Wl [aI](m:Bool){cdv:Value}{A:Around}{outer:List Env}{s:Shared}{H:Hp}{vs:List V}{Q:VK}{E:XK}{sc:Scope}{bd:List Stmt}{mH:aQ}(b:SB (cX P w K mg base N qual sc f cdv A outer s H E) (λcls d _ H=>E cls d H) bd mH)
    (h:fM K ps.length (aX m ps.length N.length mH) vs H Q E):Au (cX P w K mg base N qual sc f cdv A outer s H E) bd {nx:=λ_ H'=>Q .non H',rt:=Q} (L2.start N vs) H:=by
  obtain⟨aa,G,M,ss,ms,r,e,h⟩:=h;have en:=vX (K:=K) (aa:=aa) (G:=G) (N:=N) r;rw[e]at en;unfold aX at h;rw[if_pos e]at h;refine b.run _ M aa G (L2.start N vs) H {nx:=λ_ H'=>Q .non H',rt:=Q} ms en (wp_mono (λr hr=>?_) (wp_bind.mp h));cases r with
  |ex c fs M1=>
    intro aN aj ai H' d bG g1 m1 e1 r1;rw[show M.length=aa.length from ms.len.symm]at hr;exact lG ms g1 m1 λaM g2 m2 _=>hr aM ai H' d bG g2 m2 e1 r1
  |ok a M1=>
    cases a with
    |nx aT=>
      intro aj ai H' aN g1 m1 _;have hr:jW K Q E aa G H (.ok (.dat .non) (cut M.length M1)):=hr;rw[show M.length=aa.length from ms.len.symm]at hr;exact lG ms g1 m1 λaM g2 m2 _=>hr aM ai H' .non g2 m2 Dw
    |rt s1=>exactλaj ai H' v g1 m1 r1=>Br ms g1 m1 r1 hr
    |bk aT=>exact(show False from hr).elim
    |ct aT=>exact(show False from hr).elim
theorem afm [aI]{K:Frag}{np:Nat}{F:aK}{vs:List V}{H:Hp}{Q:VK}{E:XK}(h:fM K np F vs H Q E):vs.length=np:=by
 obtain⟨aa,G,M,ss,_,r,e,_⟩:=h;rw[r.length,e]
def xw (cW:aI)(K:Frag)(np:Nat)(F:aK):Sp:=λvs H Q E=>∀cl,@fM (cW.at cl) K np F vs H Q E
end
def uM (P:Addr)(H:Hp):Hp:=λb=>if b=P then none else H b
theorem aaO (cW:aI){K:Frag}{F:aK}{ns:List Int}{H:Hp}{a:Addr}(hT:H (cW.tab 0)=some (.tbl #[]))(hS:SqL K H a (ns.map V.int))(h:wp (F [.dat (.d9 ns)] [.tab 0]) λr=>∃M,r=.ok (.dat (.bl true)) M):xw cW K 1 F [.ref a] H (λv _=>v=.bl true) λ_ _ _=>False:=λcl=>by
 letI:aI:=cW.at cl
 have rd:∀{u:HO},Rd H a u->(∀ps,u≠.tbl ps)->Rd (uM (cW.tab 0) H) a u:=λ{u} q n=>by
  have key:∀{o:HO},H a=some o->(∀ps,o≠.tbl ps)->uM (cW.tab 0) H a=some o:=λ{o} e n=>by
   unfold uM;rw[if_neg (λz=>by rw[z,hT]at e;exact n _ (Option.some.inj e).symm)];exact e
  rcases q with q|⟨o,q⟩
  ·exact .inl (key q n)
  ·exact .inr ⟨o,key q λps z=>by cases z⟩
 have YI:SqL K (uM (cW.tab 0) H) a (ns.map V.int):=by
  rcases hS with q|q
  ·exact .inl (rd q λps z=>by cases z)
  ·exact .inr q
 refine⟨[cW.tab 0],uM (cW.tab 0) H,[.tab 0],[.dat (.d9 ns)],⟨λb u e=>?_,rfl,by simp,λj b m e1 e2=>?_,λb hb=>?_⟩,.cons (@bK.d9 (cW.at cl) _ _ _ _ YI) .nil,rfl,wp_mono (λr hr=>?_) h⟩
 ·unfold uM at e
  split at e
  ·cases e
  ·exact .inl e
 ·cases j with
  |succ j=>simp at e1
  |zero=>
   simp at e1 e2;subst e1 e2;refine⟨λ_=>by unfold uM;rw[if_pos rfl],rfl,#[],hT,True.intro,λpos ie hc=>?_⟩;have z:codeAmong pos []=some ie:=hc;simp[codeAmong]at z
 ·have:b=cW.tab 0:=by simpa using hb
  rw[this,hT];simp
 ·obtain⟨M,rfl⟩:=hr
  exactλaj ai H' v g m r=>@pe (cW.at cl) _ _ _ _ _ r
theorem agt {l:PySem.W.OpenLaw}{n k:Nat}{q:Program}{loose:List Str}{V1:(Str->Option Value)->Heap->Prop}{ML:World->Heap->Prop}{d:DefRec}{x:Str}
    (hn:l.most=some n) (oS:n<=sizeLine) (Y_:d.params.defaults=[]) (hr:Room k callerA) (H6:((recsOf q).any λe=>e.name==d.name)=true)
    (F:∀(w:World) (mg:Str->Option Value) (aJ:Addr) (h:Heap),ML w h->h.Ns mainGlobals mg->mg d.name=some (.ref aJ)->
      ∃(K:Frag) (fd:FuncData) (c P:Addr) (oc:Value) (od:Option Addr) (fq:Array (Option Value)) (cZ:Value) (cd:Option Addr) (vs:Array Value) (cs:Array (Option Value)) (sp:Sp),K.In h/\K.lookup aJ=some ⟨oc,od,.func fd,fq⟩/\fd.code=.ref c/\K.lookup c=some ⟨cZ,cd,.fields vs,cs⟩/\vs[11]?=some (.ref P)/\K.lookup P=none/\
        (∀(s:Shared) (u:Value),BindsTo s fd ⟨[u],[]⟩ [(x,u)])/\
        (∀(H:Hp) (a:Addr) (ns:List Int),ns.length<=n->H P=some (.tbl #[])->SqL K H a (ns.map V.int)->sp [.ref a] H (λv _=>v=.bl true) λ_ _ _=>False)/\
        ∀base:Heap,K.In base->base.Ns mainGlobals mg->LamX.TabB base mg c P->FnOk l.prog w K mg base (L2.CX l.prog w) k aJ fd [x] sp):
    PySem.W.WalkO q loose V1 ML l.row.toRowW d [] (λf vs=>PySem.call f vs):=by
  refine Att.attach_callB hn Y_ λw dh m6 mg uH aJ o pm cd doc a vs ns G Y ho hd hcd hmg ZK hints hlen aiR hg=>?_
  obtain⟨K,fd,c,P,oc,od,fq,cZ,ow,aih,ou,sp,KX,lk,hc,I4,hP,abX,hb,wm,hF⟩:=F w mg aJ _ Y G.T.g hmg;obtain⟨dL,hm,hn1⟩:=List.any_eq_true.mp H6;obtain⟨a1,o1,ait,c1,ahq,h1,h2,h3,h4,c6,cN⟩:=G.T.tab dL hm;rw[beq_iff_eq.mp hn1,hmg]at h1;cases h1
  rw[KX _ _ lk]at h2;cases h2
  cases h3
  rw[hc]at h4;cases h4
  have hd:=PySem.W.CodeHd.of c6 cN;obtain⟨⟨ox,iE,e1,_,e3,e4⟩,hT⟩:=cN;rw[KX _ _ I4]at e1;cases e1
  cases e3
  rw[hP]at e4;cases e4
  exact LamX.law_callTs (cs:=[(c,P)]) KX G.T.g G.T.b G.T.builtins G.T.nolimit hg (λp hp=>by rw[List.mem_singleton.mp hp];exact hT) (λp hp=>by rw[List.mem_singleton.mp hp];exact abX) (λp hp=>by rw[List.mem_singleton.mp hp];exact hd) G.T.bmain ZK hints (Nat.le_trans hlen oS) hr
    (λbase h1 h2 h3=>hF base h1 h2 (h3 _ (.head _))) hb (λH hH hS=>wm H a ns hlen (hH _ (.head _)) hS) λH e aF h=>by
      obtain⟨_,_,_,_,_,_,_,_,_,_,_,_,z⟩:=h;exact z.elim
def agP:Expr->List Expr
 | .BoolOp _ vs _=>vs
 | .BinOp a _ b _=>[a,b]
 | .UnaryOp _ a _=>[a]
 | .IfExp t a b _=>[t,a,b]
 | .Compare a _ bs _=>a::bs
 | .Call f as _ _=>f::as
 | .Attribute a _ _=>[a]
 | .Subscript a b _=>[a,b]
 | .List es _=>es
 | .Tuple es _ _=>es
 | .Lambda _ b _ _=>[b]
 | .ListComp e _ _ _=>[e]
 |_=>[]
def adM:Stmt->List Expr
 | .Return (some e) _=>[e]
 | .Assign _ e _=>[e]
 | .If t _ _ _=>[t]
 | .For _ i _ _ _=>[i]
 | .While t _ _ _=>[t]
 | .Expr e _=>[e]
 |_=>[]
def adQ:Stmt->List Stmt
 | .If _ a b _=>a++b
 | .For _ _ a b _=>a++b
 | .While _ a b _=>a++b
 |_=>[]
def C9:Expr:=.Constant .none 0 ⟨0,0,0,0⟩
def Uu:List Nat->Expr->Expr
 |[],e=>e
 |i::r,e=>Uu r ((agP e).getD i C9)
def S6:List Nat->List Stmt->Stmt
 |[],_=>.Pass ⟨0,0,0,0⟩
 |[i],l=>l.getD i (.Pass ⟨0,0,0,0⟩)
 |i::r,l=>S6 r (adQ (l.getD i (.Pass ⟨0,0,0,0⟩)))
def wF (q:Str)(fr pn loc:List Str)(b:List Stmt)(dI cI:List Nat):eo:=match Uu cI ((adM (S6 dI b)).getD 0 C9)with
 | .Lambda a e s _=>⟨q,a,e,s,fr,!pn.isEmpty,pn,loc⟩
 |_=>⟨q,⟨[],[],none,[],[],none,[]⟩,C9,default,fr,!pn.isEmpty,pn,loc⟩
theorem XU {K:Frag}{C:Addr}(h:GZ K C=true):∃nm q N bs bm sn sub qs col dd k0 k1 k2 k3 k5,K.lookup C=some (excClassObj nm q C N bs bm true sn sub qs col dd k0 k1 k2 k3 k5 "ValueError.__new__")/\PySem.HandSPX.refsVE bm=true:=by
 unfold GZ at h;split at h
 ·rename_i cls dd cd sl e
  obtain⟨nm,bs,mro,N,q,hd,sn,sub,qs,col,aiS⟩:=cd;simp only[Bool.and_eq_true,decide_eq_true_eq,Bool.not_eq_true']at h;obtain⟨h1,h2,h3,h4,c6⟩:=h;subst h1 h3 h4;split at h2
  ·rename_i c bm
   simp only[Bool.and_eq_true,beq_iff_eq]at h2;obtain⟨rfl,h2⟩:=h2;split at c6
   ·rename_i k0 k1 k2 k3 s4 k5 iz
    have c6:=of_decide_eq_true c6;subst c6;have oF:sl=#[k0,k1,k2,k3,some (.builtin "ValueError.__new__"),k5]:=Array.ext' iz;subst oF;exact⟨nm,q,N,bs,bm,sn,sub,qs,col,dd,k0,k1,k2,k3,k5,e,h2⟩
   ·cases c6
  ·cases h2
 ·cases h
theorem RY {K:Frag}{C:Addr}(h:Jv K C=true):OexC K C:=by
 unfold Jv at h;simp only[Bool.and_eq_true,decide_eq_true_eq]at h;obtain⟨h1,h2,h3,h4,c6⟩:=h;exact⟨XU h1,h2,h3,h4,c6⟩
theorem WY {K:Frag}{cd:Value}{v5:Str}(h:Ge K cd v5=true):∃c pR ow vs ou file tf,cd=.ref c/\K.lookup c=some ⟨pR,ow,.fields vs,ou⟩/\vs[2]?=some (.str file tf)/\(v5==file)=true:=by
 unfold Ge at h;split at h
 ·rename_i c
  split at h
  ·rename_i pR ow vs ou e
   split at h
   ·rename_i v0 v1 f tf r e2
    refine⟨c,pR,ow,vs,ou,f,tf,rfl,e,?_,h⟩;rw[<-Array.getElem?_toList,e2];rfl
   ·cases h
  ·cases h
 ·cases h
theorem Wz {K:Frag}{cl:List (Str×Addr)}{C:Addr}(h:Gb K cl C=true)(hn:cl.map (·.1)=[("__class__":Str)]):∃cZ c1 c2 c3,cl=[(("__class__":Str),cZ)]/\K.lookup cZ=some ⟨c1,c2,.cell (some (.ref C)),c3⟩:=by
 unfold Gb at h;split at h
 ·rename_i n cZ
  split at h
  ·rename_i c1 c2 c c3 e
   have h:=beq_iff_eq.mp h;subst h;have hn:[n]=[("__class__":Str)]:=hn;cases hn
   exact⟨cZ,c1,c2,c3,rfl,e⟩
  ·cases h
 ·cases h
theorem fu.fun {K:Frag}{d:fu}(e:fnX K (mA d.x "__init__" K)=d.val)(c:d.ok K=true):∃(fd:FuncData) (oc:Value) (od:Option Addr) (fq:Array (Option Value)) (doc pm:Value) (an:Option Addr) (ct:Value) (gG cZ:Addr),
    fd=PySem.W.ksFn "__init__" d.qual (defArgs d.st) (defBody d.st) (defScope d.st) .none .none doc pm an (.ref gG) ct cZ/\K.lookup (mA d.x "__init__" K)=some ⟨oc,od,.func fd,fq⟩/\PySem.W.codeIn K (.ref gG) d.qual=true/\
    (∃(pR:Value) (ow:Option Addr) (vs:Array Value) (ou:Array (Option Value)) (file:Str) (tf:Tok),K.lookup gG=some ⟨pR,ow,.fields vs,ou⟩/\vs[2]?=some (.str file tf)/\(d.file==file)=true)/\
    ∃(cl:Value) (Bq:Option Addr) (BC:Array (Option Value)),K.lookup cZ=some ⟨cl,Bq,.cell (some (.ref (aZ K d.x))),BC⟩:=by
  unfold fnX at e;unfold fu.ok at c;cases q:K.lookup (mA d.x "__init__" K)with
  |none=>rw[q]at c;cases c
  |some o=>
    obtain⟨oc,od,GH,fq⟩:=o;rw[q]at c e;cases GH with
    |func fd=>
      simp only[Bool.and_eq_true]at c;obtain⟨c1,c2,c3⟩:=c;obtain⟨n1,n2,n3,qS,Jf,Jg,qT,Jh,n9,Jb,Jc,Jd,Rm,Rn,Je⟩:=fd;have e2:(some (n1,n2,n3,qS,Jf,Jg,qT.map (·.1),n9,Je,Jh):AJ)=d.val:=e;unfold fu.val at e2;simp only[Option.some.injEq,Prod.mk.injEq]at e2;obtain⟨h1,h2,h3,h4,c6,cN,pX,qB,h9,yV⟩:=e2;obtain⟨ca,pR,ow,vs,ou,file,tf,rfl,q2,q3,lZ⟩:=WY c2;obtain⟨cZ,d1,d2,d3,rfl,uR⟩:=Wz c3 pX;subst h1 h2 h3 h4 c6 cN qB h9 yV;exact⟨_,oc,od,fq,Jb,Jc,Jd,_,ca,cZ,rfl,rfl,c1,⟨pR,ow,vs,ou,file,tf,q2,q3,lZ⟩,d1,d2,d3,uR⟩
    |_=>cases c
def SaysE (b_:List Fk)(fn:List eL)(en:List fu)(K:Frag):Prop:=obsE b_ fn en K=valE fn en
theorem SaysE.r {b_:List Fk}{fn:List eL}{en:List fu}{K:Frag}(c:SaysE b_ fn en K):tL b_ fn K:=by
 have c1:=(He.ba (show(((b_.all λf=>f K)&&fn.all λd=>d.ok K)&&en.all λd=>d.ok K)=true from congrArg (λz:qk=>z.1) c)).1;have c2:fn.map (λd=>uf K (d.ad K))=fn.map eL.val:=congrArg (λz:qk=>z.2.1) c;unfold tL RX Uc;rw[c1,c2]
theorem SaysE.jJ {b_:List Fk}{fn:List eL}{en:List fu}{K:Frag}(c:SaysE b_ fn en K)(i:Nat){d:fu}(h:en[i]?=some d:=by rfl):fnX K (mA d.x "__init__" K)=d.val/\d.ok K=true:=by
 have c1:=(He.ba (show(((b_.all λf=>f K)&&fn.all λd=>d.ok K)&&en.all λd=>d.ok K)=true from congrArg (λz:qk=>z.1) c)).2;have c2:en.map (λd=>fnX K (mA d.x "__init__" K))=en.map fu.val:=congrArg (λz:qk=>z.2.2) c;have e2:(en.map λd=>fnX K (mA d.x "__init__" K))[i]?=(en.map fu.val)[i]?:=by rw[c2]
 rw[List.getElem?_map,List.getElem?_map,h]at e2;exact⟨Option.some.inj e2,List.all_eq_true.mp c1 d (List.mem_of_getElem? h)⟩
end R
namespace R
open PySem PySem.Spec PyProof.Rows L2
variable[aI]
def XO:List Stmt->List Pos×Nat
 |[.Expr (.Call (.Attribute (.Call (.Name _ p0) [] [] dI) _ cI) [.Name _ fS] [] qV) j_,.Assign [.Attribute (.Name _ qW) _ kW] (.Constant _ j kY) p9,.Assign [.Attribute (.Name _ acG) _ acH] (.Name _ acI) acJ]=>([p0,dI,cI,fS,qV,j_,qW,kW,kY,p9,acG,acH,acI,acJ],j)
 |_=>([],0)
def BX (b:List Stmt)(i:Nat):Pos:=(XO b).1.getD i ⟨0,0,0,0⟩
structure AH (st:Stmt)(code fld:Str)(j:Nat):Prop where
 body:defBody st=uc code fld (BX (defBody st)) j
 hp:((defArgs st).posonlyargs++(defArgs st).args).head?.map (·.arg)=some "self"
 hpos:((BX (defBody st) 2).endLine==(BX (defBody st) 4).line)=true
 kind:(defScope st).kind=.function
 co:(defScope st).isCoroutine=false
 gen:(defScope st).isGenerator=false
 nocell:∀x∈(defScope st).names,x.2≠.cell
 n1:(defScope st).names.lookup ("super":Str)=some .globalImplicit
 n2:(defScope st).names.lookup ("__class__":Str)=some .free
 n3:(defScope st).names.lookup ("self":Str)=some .local
 qS:(defScope st).names.lookup (fld:Str)=some .local
 ne:fld≠"code"
 ne2:fld≠"self"
 BF:(fld==("__debug__":Str))=false
theorem JT {P:Program}{w:World}{K:Frag}{mg:Str->Option Value}{base:Heap}{x code fld:Str}{c j:Nat}{d:fu}(h:zD x fld K=true)(e:fnX K (mA d.x "__init__" K)=d.val/\d.ok K=true)(hd:d.x=x)(hf:d.file=P.main.file)(hs:(P.main.scope.names.lookup ("super":Str)).isSome=false)
    (T:AH d.st code fld j) (hb:∀(doc pm:Value) (an:Option Addr) (cdv ct:Value) (cZ:Addr) (us:List Value),us.length=2->bindArgs (PySem.W.ksFn "__init__" d.qual (defArgs d.st) (defBody d.st) (defScope d.st) .none .none doc pm an cdv ct cZ) ⟨us,[]⟩=pure ((["self",fld]:List Str).zip us))
    (hc:FW c=x) (hm:mg x=some (.ref (aZ K x))):yc ⟨P,w,K,mg,base⟩ x c code fld:=by
  subst hd;have hC:bQ K c=aZ K d.x:=by unfold bQ;rw[show Bv.getD c Str.empty=d.x from hc]
  unfold zD at h;simp only[Bool.and_eq_true,decide_eq_true_eq]at h;obtain⟨h1,h2,h3,h4,c6,cN,pX,qB,h9,yV⟩:=h;obtain⟨fd,oc,od,fq,doc,pm,an,ct,gG,cZ,rfl,lk,hcd,HP,hcell⟩:=fu.fun e.1 e.2;have HG:∃cd,PySem.W.clsIn K (aZ K d.x)=some cd/\PySem.W.alongIn K "__init__" ((cd.mro.dropWhile (· != .ref (aZ K d.x))).drop 1)=some (some (.builtin "ValueError.__init__"))/\cd.hasDict=true/\PySem.HandSPX.refsVE cd.mro=true:=by
    split at h2
    · rename_i cd q
      simp only[Bool.and_eq_true,decide_eq_true_eq]at h2;exact⟨cd,q,h2⟩
    · cases h2
  have X:Lz K P.main.file (aZ K d.x) (mA d.x "__init__" K) "__init__" d.qual (defArgs d.st) (uc code fld (BX (defBody d.st)) j) (defScope d.st) (PySem.W.ksFn "__init__" d.qual (defArgs d.st) (defBody d.st) (defScope d.st) .none .none doc pm an (.ref gG) ct cZ):=
    ⟨RY h1,⟨oc,od,fq,.none,.none,doc,pm,an,ct,gG,cZ,by rw[<-T.body],lk,hcd,by rw[<-hf];exact HP,hcell⟩,HG,h3,h4,c6,cN⟩
  have VY:LA P K (aZ K d.x) (defScope d.st) code fld:=⟨T.kind,T.co,T.gen,T.nocell,T.n1,T.n2,T.n3,T.qS,hs,pX,qB,T.ne,T.ne2,T.BF⟩;refine⟨?_,⟨mA d.x "__init__" K,_,?_,yV,?_,.all (hb doc pm an (.ref gG) ct cZ)⟩,?_⟩
  · show OexC K (bQ K c)
    rw[hC];exact RY h1
  · show PySem.W.findIn K (.ref (bQ K c)) "__init__"=_
    rw[hC];exact h9
  · show FnOk P w K mg base (L2.CX P w) 1 _ _ ["self",fld] (KJ (bQ K c) code fld)
    rw[hC];exact XT X VY T.hp T.hpos
  · show mg d.x=some (.ref (bQ K c))
    rw[hC];exact hm
theorem afP {K:Frag}{x:Str}(h:II x K=true):∃(oc:Value) (od:Option Addr) (fd:FuncData) (fq:Array (Option Value)) (cZ:Value) (cd:Option Addr) (vs:Array Value) (cs:Array (Option Value)),K.lookup (aZ K x)=some ⟨oc,od,.func fd,fq⟩/\fd.code=.ref (xD K (aZ K x))/\
    K.lookup (xD K (aZ K x))=some ⟨cZ,cd,.fields vs,cs⟩/\vs[11]?=some (.ref (Am K (aZ K x)))/\K.lookup (Am K (aZ K x))=none:=by
  unfold II at h;simp only[Bool.and_eq_true]at h;obtain⟨h1,h2,h3⟩:=h;split at h1
  · rename_i oc od fd fq q1
    split at h2
    · rename_i cZ cd vs cs q2
      exact⟨oc,od,fd,fq,cZ,cd,vs,cs,q1,of_decide_eq_true h1,q2,of_decide_eq_true h2,Option.isNone_iff_eq_none.mp h3⟩
    · cases h2
  · cases h1
theorem exm_ok {K:Frag}{c:Nat}{xs:List Str}{b:Bool}(h:PZ c xs b K=true):PySem.W.exmAny K (.ref (bQ K c)) (xs.map λx=>.ref (aZ K x))=some b:=of_decide_eq_true h
theorem pG {K:Frag}{c:Nat}{x f:Str}(h:mO x f K=true)(hc:FW c=x):rO K (bQ K c) f:=by
 have hC:bQ K c=aZ K x:=by unfold bQ;rw[show Bv.getD c Str.empty=x from hc]
 unfold mO at h;rw[Bool.and_eq_true,decide_eq_true_eq]at h;rw[hC];exact⟨L2.xfB_ok h.1,h.2⟩
end R
namespace R
open PySem PySem.Spec PyProof.Rows L2
structure jk (N:List Str)(sc:Scope)(X:Cx):Prop where
 N:X.N=N
 sc:X.env.scope=sc
section
variable[aI]
variable{N:List Str}{sc s0:Scope}{X:Cx}
theorem bF.q (h:bF N sc s0 X):jk N sc X:=⟨h.N,h.sc⟩
theorem jk.v0 (h:jk N sc X):∀(l:List (Str×Nat)),(l.all λp=>xK N sc p.1 p.2)=true->xV X l
 |[],_=>trivial
 |p::r,e=>by
  rw[List.all_cons,Bool.and_eq_true]at e;refine⟨?_,h.v0 r e.2⟩;have e:=e.1;unfold xK at e;simp only[Bool.and_eq_true,Bool.or_eq_true,decide_eq_true_eq,Bool.not_eq_true']at e;exact⟨by rw[h.N];exact e.1.1.1,by unfold Vis;rw[h.sc];exact e.1.1.2,e.1.2,e.2⟩
theorem jk.v (h:jk N sc X)(l:List (Str×Nat))(e:(l.all λp=>xK N sc p.1 p.2)=true:=by decide+kernel):xV X l:=h.v0 l e
theorem jk.oO (h:jk N sc X):∀(l:List Str),(l.all λp=>wc sc p)=true->FG X l
 |[],_=>trivial
 |p::r,e=>by
  rw[List.all_cons,Bool.and_eq_true]at e;refine⟨?_,h.oO r e.2⟩;have e:=e.1;unfold wc at e;simp only[Bool.and_eq_true,decide_eq_true_eq,Bool.not_eq_true']at e;exact⟨by unfold Gl Env.kindOf;rw[h.sc];exact e.1,e.2⟩
theorem jk.g (h:jk N sc X)(l:List Str)(e:(l.all λp=>wc sc p)=true:=by decide+kernel):FG X l:=h.oO l e
theorem jk.vM {P:Program}{w:World}{K:Frag}{mg:Str->Option Value}{base:Heap}{qual:Str}{f:Addr}{cdv:Value}{A:Around}{outer:List Env}{s:Shared}{H:Hp}{E:XK}:jk N sc (vM P w K mg base N qual sc f cdv A outer s H E):=⟨rfl,rfl⟩
theorem afR {P:Program}{w:World}{K:Frag}{mg:Str->Option Value}{base:Heap}{qual:Str}{f:Addr}{cdv:Value}{A:Around}{outer:List Env}{s:Shared}{H:Hp}{E:XK}:Takes (vM P w K mg base N qual sc f cdv A outer s H E) (λcls d _ H=>E cls d H):=takes_of rfl rfl rfl rfl
theorem zq {k:Nat}{A:Around}(r:L2H.RoomH k A):A.units+65<cLine:=by have:=r.un;omega
theorem roomH_mark {k:Nat}{A:Around}{a:Option Value}(r:Room k A):L2H.RoomH k (A.mark a):=⟨r.dp,r.un⟩
theorem _root_.R.nk.tr {x:Str}{i:Nat}{pn:List (Addr×Obj)}{xe:Value->Shared->Prop}(h:nk X x i):nk (X.tr pn xe) x i:=⟨h.ix,h.DR,h.nd,h.C6⟩
theorem _root_.R.nk.DI {x:Str}{i:Nat}{pn:List (Addr×Obj)}{a:Addr}(h:nk X x i):nk (X.suite a pn) x i:=⟨h.ix,h.DR,h.nd,h.C6⟩
theorem _root_.R.dW.tr {x:Str}{pn:List (Addr×Obj)}{xe:Value->Shared->Prop}(h:dW X x):dW (X.tr pn xe) x:=⟨h.gl,h.nd⟩
theorem _root_.R.dW.DI {x:Str}{pn:List (Addr×Obj)}{a:Addr}(h:dW X x):dW (X.suite a pn) x:=⟨h.gl,h.nd⟩
structure A3 (X:Cx):Prop where
 ex:X.ex=[]
 st:X.stack=X.env::X.outer
 fr:X.env.frame=some X.env.locals
theorem A3.cX {P:Program}{w:World}{K:Frag}{mg:Str->Option Value}{base:Heap}{qual:Str}{f:Addr}{cdv:Value}{A:Around}{outer:List Env}{s:Shared}{H:Hp}{E:XK}:A3 (cX P w K mg base N qual sc f cdv A outer s H E):=⟨rfl,rfl,rfl⟩
theorem kind_ok (h:jk N sc X){x:Str}(e:decide (sc.names.lookup x=some .local)=true):X.env.kindOf x=some .local:=by unfold Env.kindOf;rw[h.sc];exact of_decide_eq_true e
theorem aak (h:jk N sc X){x:Str}{i:Nat}(e:decide (N[i]?=some x)=true):X.N[i]?=some x:=by rw[h.N];exact of_decide_eq_true e
theorem acf (h:jk N sc X){n:Nat}(e:decide (N.length=n)=true):X.N.length=n:=by rw[h.N];exact of_decide_eq_true e
end
theorem Rf {β:Type}{c:Nat}{b:β}:∀{l:List (Nat×β)},l.lookup c=some b->(c,b)∈l
 |[],h=>by cases h
 |(a,x)::r,h=>by
  rw[List.lookup_cons]at h;cases e:(c==a)with
  |true=>rw[e]at h;cases h;rw[eq_of_beq e];exact .head _
  |false=>rw[e]at h;exact .tail _ (Rf h)
def yu (l:List (Nat×Bool))(c:Nat):Option Bool:=l.lookup c
theorem Wy [aI]{K:Frag}{l:List (Nat×Bool)}{xs:List Str}(h:Ir l xs K=true):∀c b,yu l c=some b->PySem.W.exmAny K (.ref (bQ K c)) (xs.map λx=>.ref (aZ K x))=some b:=λc b e=>by
 unfold Ir at h;rw[List.all_eq_true]at h;have e:l.lookup c=some b:=e;exact exm_ok (h (c,b) (Rf e))
def rY:List af->List R.D
 | .dat d::r=>d::rY r
 |_=>[]
theorem Xn (ws:List R.D):rY (ws.map .dat)=ws:=by
 induction ws with
 |nil=>rfl
 |cons d r ih=>rw[List.map_cons,rY,ih]
def j9 (T:eo)(b:CE):aK:=λss=>uI T b (rY ss)
def wG (C:Nat->aK)(n m:Nat):qo:=λi=>if i<m then some λws=>C (n+i) (ws.map .dat)else none
section
variable[aI]{P:Program}{w:World}{K:Frag}{mg:Str->Option Value}{base:Heap}{k:Nat}
theorem wH {dU:f6}{i:Nat}:ng dU k i λ_=>bad:=⟨λ_ _ _ _ _ _ _ _ _ _ _ _ _ _ _ _ _ _ _ _ _ h=>h.elim⟩
theorem aaJ {dU:f6}{C:Nat->aK}{n m:Nat}(h:∀i,i<m->ng dU k i λws=>C (n+i) (ws.map .dat)):Es dU k (wG C n m):=λi F e=>by
 unfold wG at e;split at e
 ·cases e;exact h i ‹_›
 ·cases e
theorem wI {dU:f6}{i:Nat}{T:eo}{b:CE}{F:aK}(h:ng dU k i (uI T b))(e:F=j9 T b):ng dU k i λws=>F (ws.map .dat):=by
 subst e;have:(λws:List R.D=>j9 T b (ws.map .dat))=uI T b:=by
  funext ws
  unfold j9;rw[Xn]
 rw[this];exact h
end
theorem X9 [aI]{P:Program}{w:World}{K:Frag}{mg:Str->Option Value}{base:Heap}{CX:CXT}{k:Nat}{f:Addr}{fd:FuncData}{ps:List Str}{n:Nat}:AI P w K mg base CX k f fd ps (fM K n λ_=>bad):=
 ⟨λ_ _ _ _ ⟨_,_,_,_,_,_,_,h⟩=>h.elim,λ_ _ _ _ _ _ _ _ _ _ _ _ _ ⟨_,_,_,_,_,_,_,h⟩=>h.elim⟩
section
variable[aI]
structure x8 (q:Str)(sc:Scope)(X:Cx):Prop where
 cl:aI.cells=X.env.cells
 mkr:AW X 0
 Sw:X.env.qual=q
 jU:aI.jU 0=q++("<lambda>":Str)
 fn:∀x c,X.env.cells.lookup x=some c->X.fn x=true
 akn:X.env.scope=sc
 has:∀x,sc.names.lookup x=some .cell->∃c,X.env.cells.lookup x=some c
variable{X:Cx}{q:Str}{sc:Scope}{N:List Str}{txt:Nat->eo}
theorem wD {i:Nat}{T:eo}(H:x8 q sc X)(HQ:aI.txt=txt)(hi:txt i=T)(hq:T.qual=q++("<lambda>":Str))(hfree:(T.scope.names.all λy=>!decide (y.2=.free)||decide (sc.names.lookup y.1=some .cell))=true):AU X 0 i T.params T.body T.scope:=by
 have e:aI.txt i=T:=by rw[HQ];exact hi
 refine⟨by rw[e,hq,H.Sw],by rw[H.jU,H.Sw],by rw[e],by rw[e],by rw[e],H.cl,λy hy hf=>?_⟩;rw[List.all_eq_true]at hfree;have:=hfree y hy;simp only[Bool.or_eq_true,Bool.not_eq_true',decide_eq_false_iff_not,decide_eq_true_eq]at this;rcases this with z|z
 ·exact absurd hf z
 ·exact H.has _ z
def F8 (N:List Str)(sc:Scope)(T:eo)(dH:List Nat):Bool:=lamSB T&&(decide (dH.length=T.fr.length)&&(T.fr.zip dH).all λp=>decide (N[p.2]?=some p.1)&&decide (sc.names.lookup p.1=some .cell))
theorem Ww {i:Nat}{dH:List Nat}(h:jk N sc X)(H:x8 q sc X)(e:F8 N sc (aI.txt i) dH=true):D_ X i dH:=by
 unfold F8 at e;simp only[Bool.and_eq_true,decide_eq_true_eq,List.all_eq_true]at e;obtain⟨e1,e2,e3⟩:=e;refine⟨uD e1,H.cl,λk y hk=>?_,e2⟩;have hl:k<dH.length:=by rw[e2];exact(List.getElem?_eq_some_iff.mp hk).1
 have hj:dH[k]?=some dH[k]:=List.getElem?_eq_getElem hl;have hz:((aI.txt i).fr.zip dH)[k]?=some (y,dH[k]):=by
  rw[List.getElem?_zip_eq_some];exact⟨hk,hj⟩
 have:=e3 _ (List.mem_of_getElem? hz);exact⟨_,hj,by rw[h.N];exact this.1,by rw[h.sc];exact .inl this.2⟩
def pQ (l:List (List Nat)):nZ:=λi=>l[i]?
theorem Wx {l:List (List Nat)}(h:jk N sc X)(H:x8 q sc X)(HQ:aI.txt=txt)(e:((List.range l.length).all λi=>F8 N sc (txt i) (l.getD i []))=true):xU X (pQ l):=λi dH hi=>by
 unfold pQ at hi;have hl:=(List.getElem?_eq_some_iff.mp hi).1;rw[List.all_eq_true]at e;have:=e i (List.mem_range.mpr hl);rw[List.getD_eq_getElem?_getD,hi]at this;exact Ww h H (by rw[HQ];exact this)
end
section
variable{P:Program}{w:World}{K:Frag}{mg:Str->Option Value}{base:Heap}{x qual:Str}{dg:Stmt}{f:Addr}{fd:FuncData}{N ps:List Str}{k:Nat}
theorem X_ (cW:aI)(m:Bool){c:Addr}(F:Fun K x qual dg f fd)(hc:fd.code=.ref c)(S:FnScope N ps (defScope dg)){mH:aQ}
    (body:∀A outer s H E,Room k (A.deeper (envOfC qual (defScope dg) s.heap.objs.size f (.ref c)))->
      @SB (cW.at (envOfC qual (defScope dg) s.heap.objs.size f (.ref c)).cells) (cX P w K mg base N qual (defScope dg) f (.ref c) A outer s H E) (λcls d _ H=>E cls d H) (defBody dg) mH):FnOk P w K mg base (L2.CX P w) (k+1) f fd ps (xw cW K ps.length (aX m ps.length N.length mH)):=by
  obtain⟨oc,od,kV,doc,pm,an,cdv,ct,fq,rfl,lk,hcd⟩:=F.ex;have hc:cdv=.ref c:=hc;subst hc;refine fn_of lk hcd S (λvs H Q E h=>?_) (λA outer s H vs Q E hr h=>⟨_,w6,?_⟩)
  · exact@afm (cW.at []) _ _ _ _ _ _ _ (h [])
  · exact@Wl P w K mg base qual f N ps (cW.at (envOfC qual (defScope dg) s.heap.objs.size f (.ref c)).cells) m (.ref c) A outer s H vs Q E (defScope dg) (defBody dg) mH (body A outer s H E hr) (h _)
theorem aaK (cW:aI){q:Str}{sc:Scope}{c:Addr}{A:Around}{outer:List Env}{s:Shared}{H:Hp}{E:XK}(tb:LamX.TabB base mg c (cW.tab 0))(hq:(envOfC qual sc s.heap.objs.size f (.ref c)).qual=q)(ZV:cW.jU 0=q++("<lambda>":Str)):
    @x8 (cW.at (envOfC qual sc s.heap.objs.size f (.ref c)).cells) q sc (cX P w K mg base N qual sc f (.ref c) A outer s H E):=
  letI:aI:=cW.at (envOfC qual sc s.heap.objs.size f (.ref c)).cells
  ⟨rfl,⟨c,rfl,tb⟩,hq,ZV,λ_ _ _=>rfl,rfl,λx h=>cell_has h⟩
end
end R
namespace R
open PySem PySem.Spec PyProof.Rows L2
variable[aI]
def gh {α:Type}(pm:List Nat)(xs:List α):List α:=pm.filterMap λi=>xs[i]?
theorem agm {zs:List V}{ws:List Value}(h:Vals zs ws):∀i:Nat,(zs[i]?=none/\ws[i]?=none)\/∃z w,zs[i]?=some z/\ws[i]?=some w/\RelV z w:=by
 induction h with
 |nil=>exactλi=>.inl ⟨rfl,rfl⟩
 | @cons z w zs ws r _ ih=>exactλi=>match i with
  |0=>.inr ⟨z,w,rfl,rfl,r⟩
  |i+1=>ih i
theorem K5 {zs:List V}{ws:List Value}(h:Vals zs ws):∀pm:List Nat,Vals (gh pm zs) (gh pm ws)
 |[]=>.nil
 |i::r=>by
  unfold gh;rw[List.filterMap_cons,List.filterMap_cons];rcases agm h i with⟨e1,e2⟩|⟨z,w,e1,e2,q⟩
  ·rw[e1,e2];exact K5 h r
  ·rw[e1,e2];exact .cons q (K5 h r)
theorem adp {K:Frag}{aa:List Addr}{G:Hp}{zs:List V}{ss:List af}(h:bA K aa G zs ss):∀i:Nat,(zs[i]?=none/\ss[i]?=none)\/∃z w,zs[i]?=some z/\ss[i]?=some w/\bz K aa G z w:=by
 induction h with
 |nil=>exactλi=>.inl ⟨rfl,rfl⟩
 | @cons z w zs ws r _ ih=>exactλi=>match i with
  |0=>.inr ⟨z,w,rfl,rfl,r⟩
  |i+1=>ih i
theorem JX {K:Frag}{aa:List Addr}{G:Hp}{zs:List V}{ss:List af}(h:bA K aa G zs ss):∀pm:List Nat,bA K aa G (gh pm zs) (gh pm ss)
 |[]=>.nil
 |i::r=>by
  unfold gh;rw[List.filterMap_cons,List.filterMap_cons];rcases adp h i with⟨e1,e2⟩|⟨z,w,e1,e2,q⟩
  ·rw[e1,e2];exact JX h r
  ·rw[e1,e2];exact .cons q (JX h r)
theorem Oq {K:Frag}{x qual:Str}{st:Stmt}{f:Addr}{fd:FuncData}{ps ks:List Str}{n:Nat}{pm:List Nat}(F:Fun K x qual st f fd)
    (h:∀(kV doc pv:Value) (an:Option Addr) (cdv ct:Value) (us ws:List Value),us.length=n->ws.length=ks.length->bindArgs (PySem.W.fnOf x qual (defArgs st) (defBody st) (defScope st) .none kV doc pv an cdv ct) ⟨us,ks.zip ws⟩=pure (ps.zip (us++gh pm ws))):KBn K fd ps n ks (λus ws=>us++gh pm ws) (λus ws=>us++gh pm ws):=by
  obtain⟨oc,od,kV,doc,pv,an,cdv,ct,fq,rfl,lk,hcd⟩:=F.ex;exact⟨λs us ws X l1 l2=>.of_eq (h kV doc pv an cdv ct us ws l1 l2),λr1 r2=>r1.append (K5 r2 pm)⟩
def vU (F:aK)(pm:List Nat)(fs b_:aH):CE:=λρ=>(fs ρ).bind λss=>(b_ ρ).bind λzs M=>if zs.length=pm.length then F (ss++gh pm zs) M else .bad
section
variable{X:Cx}{W:WX}{o e:Expr}{es:List Expr}{kws:List Keyword}{x m:Str}{aJ bS:CE}{fs b_:aH}{F:aK}{k n np c:Nat}{p pos apos:Pos}{pm:List Nat}{ks:List Str}
def abn (m:Bool)(M:List ak):List af->Option (af×List ak)
 |[.dat (.tup ds)]=>some (eX m M ds)
 |ss=>uG m M ss
end
def El (y z:Str):It:=⟨λi H=>i<y.cps.size/\i<z.cps.size,λi H v H'=>∃T c d,v=.ref T/\H T=none/\H'=upd H T (.tup [.str ⟨#[c]⟩,.str ⟨#[d]⟩])/\y.cps[i]?=some c/\z.cps[i]?=some d,
 λi H=>i<=y.cps.size/\i<=z.cps.size/\(i=y.cps.size\/i=z.cps.size)⟩
theorem agb {P:Program}{w:World}{K:Frag}{elts:List Expr}{kk:Nat}{jA:Pos}(y z:Str)(t u:Tok){q TI TO i1 fP:Addr}(D:ZipSep2 q TI TO i1 fP [i1] [fP]):
    Turn P w K (.Tuple elts kk jA) (El y z) [q,TI,TO,i1,fP] q (λi h=>IsZip h q TI TO .none/\IsTupOf2 h TI (.ref i1) (.ref fP)/\(∃a b,IsTupOf2 h TO a b)/\h.IsStrIter i1 (strIterType y) y t i/\h.IsStrIter fP (strIterType z) z u i) where
  mem:=by simp
  obj:=λi h st c hc=>by
    obtain⟨hz,mK,⟨x,y,nH⟩,⟨o1,e1,_,d1⟩,⟨lX,e2,_,d2⟩⟩:=st;have eT:c=q\/c=TI\/c=TO\/c=i1\/c=fP:=by simpa using hc
    rcases eT with r|r|r|r|r
    · rw[r];exact⟨_,hz,λv q=>nomatch q⟩
    · rw[r];exact⟨_,mK,λv q=>nomatch q⟩
    · rw[r];exact⟨_,nH,λv q=>nomatch q⟩
    · rw[r];exact⟨o1,e1,λv q=>by rw[d1]at q;cases q⟩
    · rw[r];exact⟨lX,e2,λv q=>by rw[d2]at q;cases q⟩
  keep:=λi h h' st k=>by
    obtain⟨hz,mK,⟨x,y,nH⟩,⟨o1,e1,r1⟩,⟨lX,e2,r2⟩⟩:=st;exact⟨k q (by simp) _ hz,k TI (by simp) _ mK,⟨x,y,k TO (by simp) _ nH⟩,⟨o1,k i1 (by simp) _ e1,r1⟩,⟨lX,k fP (by simp) _ e2,r2⟩⟩
  item:=by
    intro X hP hw hK hc i pins s σ H E I hf st hg;subst hP hw hK;obtain⟨hz,mK,⟨x0,ah0,nH⟩,h1,h2⟩:=st;obtain⟨g1,g2⟩:=hg;have hzl:q<s.heap.objs.size:=Heap.lt_size hz;refine wpAny_pyNext_zipD2_item D (Draws.text (A:=X.A.in1) (I.ok.hd hc) i1 y t) (Draws.text (A:=X.A.in1) (I.ok.hd hc) fP z u) hz mK nH h1 h2 g1 g2 λv1 v2 h' tk dI cI DZ VQ YB YE hT hsz hk=>?_
    obtain⟨c,t1,hc1,rfl⟩:=dI;obtain⟨d,t2,hc2,rfl⟩:=cI;refine⟨_,rfl,wpAny_letOwnedTupleGo_zip (s:={s with heap:=h',toks:=tk}) DZ λpW ah6 sb=>?_⟩;have Hv:pW.get? s.heap.objs.size=some {cls:=.type "tuple",data:=.seq #[.str ⟨#[c]⟩ t1,.str ⟨#[d]⟩ t2]}:=(sb.2 _ (Nat.ne_of_gt hzl)).trans hT;have new:ObjOk X.prog X.w (upd H s.heap.objs.size (.tup [.str ⟨#[c]⟩,.str ⟨#[d]⟩])) pW s.heap.objs.size (.tup [.str ⟨#[c]⟩,.str ⟨#[d]⟩]):=
      ⟨by show 2<=sizeLine;decide,[.str ⟨#[c]⟩ t1,.str ⟨#[d]⟩ t2],.cons ⟨_,rfl⟩ (.cons ⟨_,rfl⟩ .nil),⟨_,Hv,rfl,_,rfl⟩⟩
    have bE:Inv X pins σ (upd H s.heap.objs.size (.tup [.str ⟨#[c]⟩,.str ⟨#[d]⟩])) {s with heap:=pW,toks:=tk}:=
      I.turnedNew (t':=tk) (ch:=[q,TI,TO,i1,fP]) (λc o hb r=>(sb.2 c (λjT=>hb (by simp[jT]))).trans (hk c o (λjT=>hb (by simp[jT])) (λjT=>hb (by simp[jT])) (λjT=>hb (by simp[jT])) (λjT=>hb (by simp[jT])) r)) hf (Nat.le_refl _) new
    refine⟨.ref s.heap.objs.size,_,bE,rfl,⟨_,c,d,rfl,I.hok.fresh (Nat.le_refl _),rfl,hc1,hc2⟩,⟨ah6,?_,⟨.str ⟨#[c]⟩ t1,.str ⟨#[d]⟩ t2,?_⟩,?_,?_⟩,λb qH=>?_⟩
    · exact(sb.2 _ D.TIz).trans (hk _ _ D.TIz D.TITO D.TIi1 D.TIi2 mK)
    · exact(sb.2 _ D.TOz).trans VQ
    · obtain⟨o,e,r⟩:=YB
      exact⟨o,(sb.2 _ D.zi1.symm).trans e,r⟩
    · obtain⟨o,e,r⟩:=YE
      exact⟨o,(sb.2 _ D.zi2.symm).trans e,r⟩
    · have hlt:b<s.heap.objs.size:=by
        have eT:b=q\/b=TI\/b=TO\/b=i1\/b=fP:=by simpa using qH
        rcases eT with r|r|r|r|r
        · rw[r];exact hzl
        · rw[r];exact Heap.lt_size mK
        · rw[r];exact Heap.lt_size nH
        · rw[r];obtain⟨_,e1,_⟩:=h1;exact Heap.lt_size e1
        · rw[r];obtain⟨_,e2,_⟩:=h2;exact Heap.lt_size e2
      rw[upd_ne (Nat.ne_of_lt hlt)];exact(hf b qH).1
  done:=by
    intro X hP hw hK hc i pins s σ H E I hf st hg;subst hP hw hK;obtain⟨hz,mK,⟨x0,ah0,nH⟩,h1,h2⟩:=st;obtain⟨g1,g2,g3⟩:=hg;exact wpAny_pyNext_zipD2_end D (Draws.text (A:=X.A.in1) (I.ok.hd hc) i1 y t) (Draws.text (A:=X.A.in1) (I.ok.hd hc) fP z u) hz mK nH h1 h2 g1 g2 g3 λh' tk hk=>⟨rfl,I.turnedL (t':=tk) (ch:=[q,TI,TO,i1,fP]) (λc o hb r=>
      hk c o (λjT=>hb (by simp[jT])) (λjT=>hb (by simp[jT])) (λjT=>hb (by simp[jT])) (λjT=>hb (by simp[jT])) r) hf⟩
  self:=λA i s Q E st h=>wpAny_pyIter_zip st.1 h
def Z6 (K:Frag)(xC:TA):TI:=λσ H R=>xC σ H λvs H1=>(∃a b xs aA,vs=[.ref a,.ref b]/\SqL K H1 a xs/\SqL K H1 b aA/\R (Itz K a b) H1)\/∃y z,vs=[.str y,.str z]/\R (El y z) H1
theorem acQ {X:Cx}{e e2:Expr}{xC:TA}{p pos jA:Pos}{elts:List Expr}{kk:Nat}(hg:Gl X "zip")(hm:X.mg "zip"=none)(ha:PA X [e,e2] xC)
    (hs:starEach [e,e2] X.env=(false,eval e X.env)::starEach [e2] X.env:=by rfl) (hpl:(backTo pos (starEach [e2] X.env)).any (·.1)=false:=by rfl):
    PI X (.Tuple elts kk jA) (.Call (.Name "zip" p) [e,e2] [] pos) (Z6 X.K xC):=by
  refine⟨λpins s σ H R I h=>?_⟩;refine Call_ (ld_blt I hg hm PyProof.Rows.boot_zip (PyProof.Rows.callWith_type1 (thn (ha.run pos pins s σ H _ I h) λus s1 ⟨vs,H1,bE,r1,q1⟩=>?_) hs hpl));have fin:∀{c:Addr},c=s1.heap.objs.size+4\/c=s1.heap.objs.size+2\/c=s1.heap.objs.size+3\/c=s1.heap.objs.size\/c=s1.heap.objs.size+1->s1.heap.objs.size<=c:=λ{c} eT=>by
    rcases eT with z|z|z|z|z<;>rw[z]<;>first|exact Nat.le_add_right _ _|exact Nat.le_refl _
  rcases q1 with⟨a,b,xs,aA,ex,ZN,ZO,q⟩|⟨y,z,ex,q⟩
  · subst ex
    cases r1 with
    |cons r cE=>
      cases cE with
      |cons fU cE=>
        cases cE
        cases r
        cases fU
        obtain⟨its,bL,dI,_⟩:=bE.list ZN;obtain⟨aj2,w_,cI,_⟩:=bE.list ZO;have aaD:a<s1.heap.objs.size:=dI.lt;have aaQ:b<s1.heap.objs.size:=cI.lt;refine call_zip_2 dI.isList cI.isList λh' hz mK nH h1 h2 hsz hk=>wpAny_pyIter_zip hz ?_
        have cJ:Inv X pins σ H1 {s1 with heap:=h'}:=bE.kept (t':=s1.toks) hk;refine⟨s1.heap.objs.size+4,[s1.heap.objs.size+4,s1.heap.objs.size+2,s1.heap.objs.size+3,s1.heap.objs.size,s1.heap.objs.size+1],_,_,H1,rfl,cJ,turn_zip (PySem.W.ktu_apart s1.heap.objs.size a b aaD aaQ),⟨hz,mK,⟨_,_,nH⟩,h1,h2⟩,λc qH=>?_,q⟩;have hle:=fin (by simpa using qH);exact bE.fpOk hle (bE.hok.fresh hle)
  · subst ex
    cases r1 with
    |cons r cE=>
      cases cE with
      |cons fU cE=>
        cases cE
        obtain⟨t,rfl⟩:=r;obtain⟨u,rfl⟩:=fU;refine zip_begins2 (begins_text y t) (begins_text z u) trivial trivial λh' hz mK nH h1 h2 hsz hk=>wpAny_pyIter_zip hz ?_
        have cJ:Inv X pins σ H1 {s1 with heap:=h'}:=bE.kept (t':=s1.toks) hk;have S:ZipSep2 (s1.heap.objs.size+4) (s1.heap.objs.size+2) (s1.heap.objs.size+3) s1.heap.objs.size (s1.heap.objs.size+1) [s1.heap.objs.size] [s1.heap.objs.size+1]:=by
          constructor<;>simp
        refine⟨s1.heap.objs.size+4,[s1.heap.objs.size+4,s1.heap.objs.size+2,s1.heap.objs.size+3,s1.heap.objs.size,s1.heap.objs.size+1],_,_,H1,rfl,cJ,agb y z t u S,⟨hz,mK,⟨_,_,nH⟩,⟨_,h1,rfl,rfl⟩,⟨_,h2,rfl,rfl⟩⟩,λc qH=>?_,q⟩;have hle:=fin (by simpa using qH);exact bE.fpOk hle (bE.hok.fresh hle)
section
variable{K:Frag}{aa:List Addr}{G H:Hp}
theorem agI {y z:Str}:jo K (El y z) (.data (iw (fc y) (fc z))) aa G where
 goes i aj ai ao H' hi l ms _:=by
  have hi:i<(iw (fc y) (fc z)).length:=hi;rw[AE]at hi;simp only[fc,List.length_map,Array.length_toList]at hi;show i<y.cps.size/\i<z.cps.size
  omega
 stops aj ai ao H' l ms _:=by
  show(iw (fc y) (fc z)).length<=y.cps.size/\(iw (fc y) (fc z)).length<=z.cps.size/\((iw (fc y) (fc z)).length=y.cps.size\/(iw (fc y) (fc z)).length=z.cps.size)
  rw[AE];simp only[fc,List.length_map,Array.length_toList];omega
 yld i aj ai ao H' x aO s hi l ms hs Li:=by
  obtain⟨d,hd,rfl⟩:=qy hs;obtain⟨T,c,e,rfl,hT,rfl,hc,he⟩:=Li;rw[Ln]at hd;unfold fc at hd;rw[List.getElem?_map,List.getElem?_map,Array.getElem?_toList,Array.getElem?_toList,hc,he]at hd;cases hd
  exact uO ms.le hT (.str _) (.str _)
def wM (ds:List D)(j:Nat):List ak->Nat->Option af:=λM i=>match M[j]? with
 |some (.lst xs)=>match ds[i]?,xs[i]? with
  |some d,some (.dat e)=>some (.dat (.tup [d,e]))
  |_,_=>none
 |_=>none
def CW (ds:List D)(j n:Nat):List ak->Bool:=λM=>match M[j]? with
 |some (.lst xs)=>decide (ds.length<=n)||decide (xs.length<=n)
 |_=>false
theorem agE {j n:Nat}{a b:Addr}{xs:List V}{ds:List D}(q:SqL K G a xs)(r:bJ K G xs ds)(h:aa[j]?=some b):jo K (Itz K a b) (.live n (wM ds j) (CW ds j n)) aa G where
 goes i aj ai ao H' hi l ms hs:=by
  have hs:(wM ds j ao i).isSome=true:=hs;unfold wM at hs;split at hs
  ·rename_i aA e
   obtain⟨vs,h1,h2⟩:=qP h l ms e;split at hs
   ·rename_i d d2 ed ex
    obtain⟨v,e1,_⟩:=h2.get ex;obtain⟨u,e3,_⟩:=r.get ed;exact⟨xs,vs,u,v,ms.le.l (l.ex.l q),SqL.of h1,e3,e1⟩
   ·cases hs
  ·cases hs
 stops aj ai ao H' l ms hs:=by
  have hs:CW ds j n ao=true:=hs;unfold CW at hs;split at hs
  ·rename_i aA e
   obtain⟨vs,h1,h2⟩:=qP h l ms e;refine⟨xs,vs,ms.le.l (l.ex.l q),SqL.of h1,?_⟩;show xs.length<=n\/vs.length<=n
   rw[h2.length,r.length];rcases Bool.or_eq_true_iff.mp hs with z|z
   ·exact .inl (of_decide_eq_true z)
   ·exact .inr (of_decide_eq_true z)
  ·cases hs
 yld i aj ai ao H' x aO s hi l ms hs y:=by
  have hs:wM ds j ao i=some s:=hs;obtain⟨T,nU,KZ,rfl,hT,rfl,hx,hy⟩:=y;unfold wM at hs;split at hs
  ·rename_i aA e
   obtain⟨vs,h1,h2⟩:=qP h l ms e;split at hs
   ·rename_i d d2 ed ex
    cases hs
    obtain⟨v,e1,e2⟩:=h2.get ex;obtain⟨u,e3,e4⟩:=r.get ed;have fY:=hx xs (ms.le.l (l.ex.l q));have d_:=hy vs (SqL.of h1);rw[e3]at fY;cases fY;rw[e1]at d_;cases d_;exact uO ms.le hT (e4.mono l.ex) e2
   ·cases hs
  ·cases hs
end
def Lo (M:List ak):af->af->Option Its
 | .dat (.lst ds),.dat (.lst es)=>some (.data (iw ds es))
 | .dat (.str y),.dat (.str z)=>some (.data (iw (fc y) (fc z)))
 | .dat (.lst ds),.mu j=>match M[j]? with
  |some (.lst xs)=>some (.live (min ds.length xs.length) (wM ds j) (CW ds j (min ds.length xs.length)))
  |_=>none
 |_,_=>none
def Px (aJ bS:CE):iy:=λρ=>(aJ ρ).bind λs=>(bS ρ).bind λt=>λM=>match Lo M s t with
 |some its=>.ret (.ok its M)
 |none=>.bad
section
variable{X:Cx}{W:WX}{a b:Expr}{aJ bS:CE}{p pos jA:Pos}{elts:List Expr}{kk:Nat}
theorem af4 (F:dW X "zip")(hm:X.mg "zip"=none)(h1:aV X W a aJ)(h2:aV X W b bS)(hs:starEach [a,b] X.env=[(false,eval a X.env),(false,eval b X.env)]:=by rfl)(lQ:starEach [b] X.env=[(false,eval b X.env)]:=by rfl):mC X W (.Tuple elts kk jA) (.Call (.Name "zip" p) [a,b] [] pos) (Px aJ bS):=⟨λρ M aa G σ H R ms en h=>
 toI (acQ F.gl hm (pa_cons cS (pa_cons cS pa_nil lQ) (by rw[hs,lQ])) (by rw[hs,lQ]) (by rw[lQ];rfl)) (h1.seq ms en h λav au M1 H1 v s g1 m1 r1 aC=>h2.seq m1 (en.grow g1) aC λaM aU M2 aO v2 t g2 m2 r2 bN=>by
  cases hi:Lo M2 s t with
  |none=>simp only[hi]at bN;exact bN.elim
  |some its=>
   simp only[hi]at bN;have q:∀J,jo X.K J its aM aU->R J aO:=λJ gK=>bN aM aU aO J (aG.refl _ _ _) m2 gK
   have r1:=r1.grow g2;unfold Lo at hi;split at hi
   ·cases hi
    cases r1 with
    |lst ha hr=>
     cases r2 with
     |lst hb hr2=>exact .inl ⟨_,_,_,_,rfl,SqL.of (m2.le.lst ha),SqL.of (m2.le.lst hb),q _ (agH (SqL.of ha) hr (SqL.of hb) hr2)⟩
   ·cases hi
    cases r1
    cases r2
    exact .inr ⟨_,_,rfl,q _ agI⟩
   ·split at hi
    ·rename_i aA hj
     cases hi
     obtain⟨b,e1,rfl⟩:=r2;obtain⟨vs,e2,e3⟩:=(m2.mo _ b _ e1 hj).2;cases r1 with
     |lst ha hr=>exact .inl ⟨_,_,_,_,rfl,SqL.of (m2.le.lst ha),SqL.of e2,q _ (agE (SqL.of ha) hr e1)⟩
    ·cases hi
   ·cases hi)⟩
end
structure EF (D:f6)(x:Str)(zs:List Str):Prop where
 ex:∃a,D.mg x=some (.ref a)/\∀H,SqT D.K H a (zs.map V.str)
theorem aaq {D:f6}{x:Str}{zs:List Str}(h:P8 x zs D.K=true)(g:D.mg x=some (.ref (aZ D.K x))):EF D x zs:=by
 refine⟨_,g,λH=>?_⟩;have q:=He.tupB_ok (show He.tupB D.K x (zs.map He.Dv.str)=true from h) H;rw[List.map_map]at q;exact q
section
variable{X:Cx}{W:WX}{c bD it elt rf ux:Expr}{ifs wz:List Expr}{ts u0:List Nat}{g g1:dz}{t t1:dB}{e:CE}{fi ny:iy}{scope:Scope}{own:List (Str×Nat)}{vs1:List Nat}{pos:Pos}
theorem TH (m:Bool){y:Str}{i:Nat}{py Tu:Pos}(F:rH X y i)(hy:X.env.scope.names.lookup y=some .local)(hi:mC X W bD it fi)(hg:∀s b8 C cl bC,GT (Cx.cY X scope s b8 C cl bC) bD ts g)(j8:∀i∈ts,i∈own.map (·.2))(ht:∀s b8 C cl bC,oj (Cx.cY X scope s b8 C cl bC) ifs t)(hi1:∀s b8 C cl bC,mC (Cx.cY X scope s b8 C cl bC) lE rf ux ny)
    (cQ:∀s b8 C cl bC,GT (Cx.cY X scope s b8 C cl bC) rf u0 g1) (Ia:∀i∈u0,i∈vs1) (H9:∀s b8 C cl bC,oj (Cx.cY X scope s b8 C cl bC) wz t1) (he:∀s b8 C cl bC,aV (Cx.cY X scope s b8 C cl bC) lE elt e)
    (hc:X.calm=true) (ok:BlkOk X.N X.env.scope scope own) (hv:∀i∈vs1,i∈own.map (·.2)) (hsw:swapsWith (.ListComp elt [⟨bD,it,ifs,0⟩,⟨rf,ux,wz,0⟩] scope pos) (some (.Name y py)) Tu.line X.env=pure true) (hs:∀x,foldedSetIterable it X.env x=pure x:=by intro _;rfl) (hs1:∀env x,foldedSetIterable ux env x=pure x:=by intro _ _;rfl):
    iI X W (.Assign [.Name y py] (.ListComp elt [⟨bD,it,ifs,0⟩,⟨rf,ux,wz,0⟩] scope pos) Tu) (c_ i (BN m (own.map (·.2)) fi g t ny vs1 g1 t1 e)):=⟨λρ M aa G σ H D ms en h=>
  toS (ps_setLc2 (i:=i) hc F.nd F.ix hy hsw JE ok hv Jz JJ acP Jz JJ R_ hs hs1) (hi.run ρ M aa G σ H _ ms en (by
    refine wp_mono (λr hr=>?_) (cz.mp (cz.mp h));cases r with
    |ex c fs M1=>exact hr σ
    |ok its M1=>
      intro av au H1 J f9 m1 gK;have hr:wp ((if its.n<=4000 then Ev.bind (gH its (xG g t ny vs1 g1 t1 e (gk ρ (own.map (·.2)))) 0) λds=>ofM λM=>some (eX m M ds)else bad:Ev af) M1) (λr=>wp (bH (λs=>R.ok (.nx (ρ.set i s))) r) (dY X W D aa G H)):=hr;split at hr
      · rename_i hz
        refine aaR (Q:=λv H'=>gName i v σ H' D.nx) (k:=λacc M2=>∀aM aU aO v,aG aa G H aM aU aO->aE X.K aM aU (eX m M2 acc).2 aO->bz X.K aM aU v (eX m M2 acc).1->D.nx (σ.set i (some v)) aO) hg j8 ht hi1 cQ Ia H9 he gK m1 (en.grow f9) hz (wp_mono (λr hr=>?_) (cz.mp hr)) λaW aj ai ao H' acc hD a q=>A5 (Q:=λv H'=>D.nx (σ.set i (some v)) H') hD f9 a q
        cases r with
        |ex c fs M2=>trivial
        |ok b M2=>exactλaM aU aO v g2 m2 r2=>hr aM aU aO _ g2 m2 ((en.grow g2).set r2)
      · exact hr.elim))⟩
end
end R
namespace R
open PySem PySem.Spec PyProof.Rows L2
variable[aI]
def dd:List Int->List Int
 |[]=>[]
 |a::r=>if a∈dd r then dd r else a::dd r
end R
namespace R
open PySem PySem.Spec PyProof.Rows L2
variable[aI]
end R
namespace R
open PySem PySem.Spec PyProof.Rows L2
variable[aI]
end R
namespace R
open PySem PySem.Spec PyProof.Rows L2
variable[aI]
end R
namespace R
open PySem PySem.Spec PyProof.Rows L2
inductive aL where
 |i (n:Int)
 |t (xs:List aL)
mutual
def aP:aL->aL->Ordering
 | .i a,.i b=>if a<b then .lt else if a=b then .eq else .gt
 | .i _,.t _=>.lt
 | .t _,.i _=>.gt
 | .t xs,.t aA=>bI xs aA
def bI:List aL->List aL->Ordering
 |[],[]=>.eq
 |[],_::_=>.lt
 |_::_,[]=>.gt
 |x::xs,y::aA=>(aP x y).then (bI xs aA)
end
mutual
theorem yy:∀x y:aL,aP y x=(aP x y).swap
 | .i a,.i b=>by
  unfold aP;by_cases h1:a<b
  ·rw[if_pos h1,if_neg (by omega),if_neg (by omega)];rfl
  ·by_cases h2:a=b
   ·subst h2;rw[if_neg h1,if_pos rfl];rfl
   ·rw[if_neg h1,if_neg h2,if_pos (by omega)];rfl
 | .i _,.t _=>by unfold aP;rfl
 | .t _,.i _=>by unfold aP;rfl
 | .t xs,.t aA=>by unfold aP;exact yD xs aA
theorem yD:∀xs aA:List aL,bI aA xs=(bI xs aA).swap
 |[],[]=>by unfold bI;rfl
 |[],_::_=>by unfold bI;rfl
 |_::_,[]=>by unfold bI;rfl
 |x::xs,y::aA=>by
  unfold bI;rw[yy x y,yD xs aA];cases aP x y<;>rfl
end
mutual
theorem qv:∀{x y:aL},aP x y=.eq->x=y
 | .i a,.i b,h=>by
  unfold aP at h;by_cases h1:a<b
  ·rw[if_pos h1]at h;cases h
  ·by_cases h2:a=b
   ·rw[h2]
   ·rw[if_neg h1,if_neg h2]at h;cases h
 | .i _,.t _,h=>by unfold aP at h;cases h
 | .t _,.i _,h=>by unfold aP at h;cases h
 | .t xs,.t aA,h=>by unfold aP at h;rw[yz h]
theorem yz:∀{xs aA:List aL},bI xs aA=.eq->xs=aA
 |[],[],_=>rfl
 |[],_::_,h=>by unfold bI at h;cases h
 |_::_,[],h=>by unfold bI at h;cases h
 |x::xs,y::aA,h=>by
  unfold bI at h;cases e:aP x y with
  |lt=>rw[e]at h;cases h
  |gt=>rw[e]at h;cases h
  |eq=>rw[e]at h;rw[qv e,yz h]
end
mutual
theorem Bw:∀x:aL,aP x x=.eq
 | .i a=>by unfold aP;rw[if_neg (by omega),if_pos rfl]
 | .t xs=>by unfold aP;exact yC xs
theorem yC:∀xs:List aL,bI xs xs=.eq
 |[]=>by unfold bI;rfl
 |x::xs=>by unfold bI;rw[Bw x,yC xs];rfl
end
mutual
theorem Bx:∀{x y z:aL},aP x y=.lt->aP y z=.lt->aP x z=.lt
 | .i a,.i b,.i c,h1,h2=>by
  unfold aP at *;have e1:a<b:=by
   by_cases h:a<b
   ·exact h
   ·rw[if_neg h]at h1;split at h1<;>cases h1
  have e2:b<c:=by
   by_cases h:b<c
   ·exact h
   ·rw[if_neg h]at h2;split at h2<;>cases h2
  rw[if_pos (by omega)]
 | .i _,.i _,.t _,_,_=>by unfold aP;rfl
 | .i _,.t _,.i _,_,h2=>by unfold aP at h2;cases h2
 | .i _,.t _,.t _,_,_=>by unfold aP;rfl
 | .t _,.i _,_,h1,_=>by unfold aP at h1;cases h1
 | .t _,.t _,.i _,_,h2=>by unfold aP at h2;cases h2
 | .t xs,.t aA,.t zs,h1,h2=>by unfold aP at *;exact yE h1 h2
theorem yE:∀{xs aA zs:List aL},bI xs aA=.lt->bI aA zs=.lt->bI xs zs=.lt
 |[],[],_,h1,_=>by unfold bI at h1;cases h1
 |[],_::_,[],_,h2=>by unfold bI at h2;cases h2
 |[],_::_,_::_,_,_=>by unfold bI;rfl
 |_::_,[],_,h1,_=>by unfold bI at h1;cases h1
 |_::_,_::_,[],_,h2=>by unfold bI at h2;cases h2
 |x::xs,y::aA,z::zs,h1,h2=>by
  unfold bI at *;cases e1:aP x y with
  |gt=>rw[e1]at h1;cases h1
  |eq=>
   obtain rfl:=qv e1;rw[e1]at h1;cases e2:aP x z with
   |gt=>rw[e2]at h2;cases h2
   |lt=>rfl
   |eq=>rw[e2]at h2;exact yE h1 h2
  |lt=>
   cases e2:aP y z with
   |gt=>rw[e2]at h2;cases h2
   |eq=>
    obtain rfl:=qv e2;rw[e1];rfl
   |lt=>rw[Bx e1 e2];rfl
end
def fD (x y:aL):Bool:=aP x y==.lt
theorem CY {x y:aL}:fD x y=true↔aP x y=.lt:=by
 unfold fD;cases aP x y<;>decide
theorem afE {α:Type}(k:α->aL):SrtO.Swo λv u=>fD (k v) (k u):=by
 refine⟨λx y h=>?_,λx y z h1 h2=>?_⟩
 ·have a:=CY.mp h
  unfold fD;rw[yy (k x) (k y),a];rfl
 ·have n1:aP (k y) (k x)≠.lt:=λq=>by rw[CY.mpr q]at h1;cases h1
  have n2:aP (k z) (k y)≠.lt:=λq=>by rw[CY.mpr q]at h2;cases h2
  cases e:fD (k z) (k x)with
  |false=>rfl
  |true=>
   have a:=CY.mp e
   exfalso
   cases e1:aP (k y) (k x)with
   |lt=>exact n1 e1
   |eq=>exact n2 (by rw[qv e1];exact a)
   |gt=>
    have q1:aP (k x) (k y)=.lt:=by rw[yy (k y) (k x),e1];rfl
    exact n2 (Bx a q1)
def CA (a:aL):List aL->List aL
 |[]=>[a]
 |b::r=>if fD b a then b::CA a r else a::b::r
def qh:List aL->List aL
 |[]=>[]
 |a::r=>CA a (qh r)
theorem PL (a:aL):∀l,(CA a l).Perm (a::l)
 |[]=>.refl _
 |b::r=>by
  unfold CA;split
  ·exact((PL a r).cons b).trans (.swap a b r)
  ·exact .refl _
theorem uX:∀l,(qh l).Perm l
 |[]=>.refl _
 |a::r=>(PL a (qh r)).trans ((uX r).cons a)
abbrev MC (l:List aL):Prop:=l.Pairwise λx y=>fD y x=false
mutual
def bu:aL->PyData
 | .i n=>.int n
 | .t xs=>.tuple (br xs)
def br:List aL->List PyData
 |[]=>[]
 |x::xs=>bu x::br xs
end
mutual
def i8:aL->aL->Bool
 | .i _,.i _=>true
 | .t xs,.t aA=>oz xs aA
 |_,_=>false
def oz:List aL->List aL->Bool
 |x::xs,y::aA=>i8 x y&&oz xs aA
 |_,_=>true
end
def i7:List aL->List aL->Nat->Ordering
 |x::_,y::_,0=>aP x y
 |_::xs,_::aA,j+1=>i7 xs aA j
 |_,_,_=>.eq
mutual
theorem rg:∀t:aL,(bu t).canLay0=true
 | .i _=>by unfold bu;rfl
 | .t xs=>by unfold bu;exact Ao xs
theorem Ao:∀ts:List aL,PyData.canLayAll0 (br ts)=true
 |[]=>by unfold br;rfl
 |t::ts=>by
  unfold br;show((bu t).canLay0&&PyData.canLayAll0 (br ts))=true
  rw[rg t,Ao ts];rfl
end
mutual
theorem vY:∀x y:aL,PyData.eqv (bu x) (bu y)=(aP x y==.eq)
 | .i a,.i b=>by
  unfold bu aP PyData.eqv;by_cases h1:a<b
  ·rw[if_pos h1,beq_eq_false_iff_ne.mpr (by omega)];rfl
  ·by_cases h2:a=b
   ·subst h2;rw[if_neg h1,if_pos rfl,beq_self_eq_true];rfl
   ·rw[if_neg h1,if_neg h2,beq_eq_false_iff_ne.mpr h2];rfl
 | .i _,.t _=>by unfold bu aP PyData.eqv;rfl
 | .t _,.i _=>by unfold bu aP PyData.eqv;rfl
 | .t xs,.t aA=>by
  unfold bu aP PyData.eqv;exact yN xs aA
theorem yN:∀xs aA:List aL,PyData.eqvAll (br xs) (br aA)=(bI xs aA==.eq)
 |[],[]=>by unfold br bI PyData.eqvAll;rfl
 |[],_::_=>by unfold bI;simp only[br,PyData.eqvAll];rfl
 |_::_,[]=>by unfold bI;simp only[br,PyData.eqvAll];rfl
 |x::xs,y::aA=>by
  unfold bI;simp only[br,PyData.eqvAll];rw[vY x y,yN xs aA];cases aP x y<;>rfl
end
theorem zF {e r:Nat->Bool}:∀(xs aA:List aL) (i:Nat),(∀j,j<xs.length->j<aA.length->e (i+j)=(i7 xs aA j==.eq))->(∀j,j<xs.length->j<aA.length->r (i+j)=(i7 xs aA j==.lt))->
    Ob.lexAt e r (decide (xs.length<aA.length)) i (min xs.length aA.length)=(bI xs aA==.lt)
  |[],[],i,_,_=>by unfold bI;rfl
  |[],y::aA,i,_,_=>by
    unfold bI;rw[List.length_nil,Nat.zero_min,Ob.lexAt_zero,decide_eq_true (by simp)];rfl
  |x::xs,[],i,_,_=>by
    unfold bI;rw[List.length_nil,Nat.min_zero,Ob.lexAt_zero,decide_eq_false (by simp)];rfl
  |x::xs,y::aA,i,he,hr=>by
    have ih:=zF xs aA (i+1) (λj h1 h2=>by
      have:=he (j+1) (by simp;omega) (by simp;omega);rw[show i+1+j=i+(j+1) by omega];exact this) (λj h1 h2=>by
      have:=hr (j+1) (by simp;omega) (by simp;omega);rw[show i+1+j=i+(j+1) by omega];exact this)
    have e0:e i=(aP x y==.eq):=he 0 (by simp) (by simp);have r0:r i=(aP x y==.lt):=hr 0 (by simp) (by simp);rw[List.length_cons,List.length_cons,show min (xs.length+1) (aA.length+1)=min xs.length aA.length+1 by omega,Ob.lexAt_succ,e0,r0,
      show decide (xs.length+1<aA.length+1)=decide (xs.length<aA.length) by by_cases h:xs.length<aA.length<;>simp[h],ih,show bI (x::xs) (y::aA)=(aP x y).then (bI xs aA) by conv=>lhs;unfold bI]
    cases aP x y<;>rfl
theorem readsAll_len {h:Heap}:∀{ts:List aL} {us:List Value} {as:List Addr},ReadsAll h us (br ts) as->us.length=ts.length
 |[],us,as,r=>by unfold br at r;cases r;rfl
 |t::ts,us,as,r=>by
  unfold br at r;cases r with
  |cons r1 r2=>rw[List.length_cons,List.length_cons,readsAll_len r2]
theorem yM:∀(xs aA:List aL) (A:Around) (s:Shared) (us vs:List Value) (as bs:List Addr),ReadsAll s.heap us (br xs) as->ReadsAll s.heap vs (br aA) bs->A.units+PyData.depthAll (br xs)<cLine->∀j (h1:j<us.length) (h2:j<vs.length),SeqAt.EqAt A s us[j] vs[j] (i7 xs aA j==.eq)
 |[],aA,A,s,us,vs,as,bs,r1,r2,hu,j,h1,h2=>by unfold br at r1;cases r1;exact absurd h1 (Nat.not_lt_zero _)
 |x::xs,[],A,s,us,vs,as,bs,r1,r2,hu,j,h1,h2=>by unfold br at r2;cases r2;exact absurd h2 (Nat.not_lt_zero _)
 |x::xs,y::aA,A,s,us,vs,as,bs,r1,r2,hu,j,h1,h2=>by
  unfold br at r1 r2;cases r1 with
  |cons a1 a2=>
   cases r2 with
   |cons dG b2=>
    have hu:A.units+max (bu x).depth (PyData.depthAll (br xs))<cLine:=by unfold br at hu;exact hu
    cases j with
    |zero=>
     have q:=SeqAt.eqAt_reads (bu x) (bu y) A s _ _ _ _ a1 dG (rg x) (rg y) (by omega);rw[vY]at q;exact q
    |succ j=>exact yM xs aA A s _ _ _ _ a2 b2 (by omega) j (by simpa using h1) (by simpa using h2)
mutual
theorem Dm:∀(x y:aL) (A:Around) (s:Shared) (u v:Value) (as bs:List Addr),Reads s.heap u (bu x) as->Reads s.heap v (bu y) bs->i8 x y=true->A.units+(bu x).depth<cLine->Ob.RcOp .Lt A s u v (fD x y)
  | .i a,.i b,A,s,u,v,as,bs,r1,r2,_,_=>by
    unfold bu at r1 r2;cases r1
    cases r2
    have e:fD (.i a) (.i b)=decide (a<b):=by
      unfold fD aP;by_cases h:a<b
      · rw[if_pos h,decide_eq_true h];rfl
      · rw[if_neg h,decide_eq_false h];split<;>rfl
    rw[e];exact Ob.RcOp.lt_int _ _ _ _
  | .i _,.t _,_,_,_,_,_,_,_,_,h,_=>by unfold i8 at h;cases h
  | .t _,.i _,_,_,_,_,_,_,_,_,h,_=>by unfold i8 at h;cases h
  | .t xs,.t aA,A,s,u,v,as,bs,r1,r2,hc,hu=>by
    unfold bu at r1 r2 hu;unfold i8 at hc;have hu:A.units+(PyData.depthAll (br xs)+1)<cLine:=hu;cases r1 with
    |tuple a1 a2 a3 a4=>
      cases r2 with
      |tuple dG b2 om b4=>
        rename_i l1 o1 vs1 n1 l2 lX Ud n2;have l1:=readsAll_len a4;have l2:=readsAll_len b4;have q:=Ob.RcOp.tuples_lt (A:=A) (e:=λj=>i7 xs aA j==.eq) (r:=λj=>i7 xs aA j==.lt) ⟨_,a1,a2,_,a3⟩ ⟨_,dG,b2,_,om⟩ (by omega)
          (λj h1 h2=>by
            have:=yM xs aA A.in1 s _ _ _ _ a4 b4 (by show A.units+1+_<_;omega) j (by simpa using h1) (by simpa using h2);simpa using this)
          (λj h1 h2 _=>by
            have:=zT xs aA A.in1 s _ _ _ _ a4 b4 hc (by show A.units+1+_<_;omega) j (by simpa using h1) (by simpa using h2);simpa using this)
        have e:=zF (e:=λj=>i7 xs aA j==.eq) (r:=λj=>i7 xs aA j==.lt) xs aA 0 (λj _ _=>by rw[Nat.zero_add]) (λj _ _=>by rw[Nat.zero_add]);rw[<-Array.length_toList,<-Array.length_toList,l1,l2,e]at q;have z:fD (.t xs) (.t aA)=(bI xs aA==.lt):=by unfold fD aP;rfl
        rw[z];exact q
theorem zT:∀(xs aA:List aL) (A:Around) (s:Shared) (us vs:List Value) (as bs:List Addr),ReadsAll s.heap us (br xs) as->ReadsAll s.heap vs (br aA) bs->oz xs aA=true->A.units+PyData.depthAll (br xs)<cLine->∀j (h1:j<us.length) (h2:j<vs.length),Ob.RcOp .Lt A s us[j] vs[j] (i7 xs aA j==.lt)
 |[],aA,A,s,us,vs,as,bs,r1,r2,hc,hu,j,h1,h2=>by unfold br at r1;cases r1;exact absurd h1 (Nat.not_lt_zero _)
 |x::xs,[],A,s,us,vs,as,bs,r1,r2,hc,hu,j,h1,h2=>by unfold br at r2;cases r2;exact absurd h2 (Nat.not_lt_zero _)
 |x::xs,y::aA,A,s,us,vs,as,bs,r1,r2,hc,hu,j,h1,h2=>by
  unfold br at r1 r2;unfold oz at hc;obtain⟨hc1,hc2⟩:=Bool.and_eq_true_iff.mp hc;cases r1 with
  |cons a1 a2=>
   cases r2 with
   |cons dG b2=>
    have hu:A.units+max (bu x).depth (PyData.depthAll (br xs))<cLine:=by unfold br at hu;exact hu
    cases j with
    |zero=>exact Dm x y A s _ _ _ _ a1 dG hc1 (by omega)
    |succ j=>exact zT xs aA A s _ _ _ _ a2 b2 hc2 (by omega) j (by simpa using h1) (by simpa using h2)
end
section
variable{prog:Program}{w:World}{A:Around}{E:Value->Shared->Prop}{s:Shared}{b fin:Bool}{Q:Bool->Shared->Prop}
def oK:aL->Bool
 | .t (.i _::_)=>true
 |_=>false
def v9:aL->Bool
 | .t (.t _::_)=>true
 |_=>false
theorem Qm:∀(xs aA:List aL) (us vs:List Value) (as bs:List Addr) (i:Nat),ReadsAll s.heap us (br xs) as->ReadsAll s.heap vs (br aA) bs->oz xs aA=true->A.units+PyData.depthAll (br xs)<cLine->
    ((b&&i==0)=true->oK (.t xs)=true/\oK (.t aA)=true)->fin=decide (xs.length<aA.length)->Q (bI xs aA==.lt) s->PySem.W.KatLex prog w A b fin Q (us.zip vs) i s
  |[],[],us,vs,as,bs,i,r1,r2,hc,hu,hb,hf,q=>by
    unfold br at r1 r2;cases r1;cases r2;rw[hf];have e:(bI [] []==Ordering.lt)=false:=by unfold bI;rfl
    rw[e]at q;exact q
  |[],y::aA,us,vs,as,bs,i,r1,r2,hc,hu,hb,hf,q=>by
    unfold br at r1;cases r1;rw[hf];have e:(bI [] (y::aA)==Ordering.lt)=true:=by unfold bI;rfl
    rw[e]at q;have z:decide (([]:List aL).length<(y::aA).length)=true:=decide_eq_true (by simp);rw[z,List.zip_nil_left];exact q
  |x::xs,[],us,vs,as,bs,i,r1,r2,hc,hu,hb,hf,q=>by
    unfold br at r2;cases r2;rw[hf];have e:(bI (x::xs) []==Ordering.lt)=false:=by unfold bI;rfl
    rw[e]at q;have z:decide ((x::xs).length<([]:List aL).length)=false:=decide_eq_false (by simp);rw[z,List.zip_nil_right];exact q
  |x::xs,y::aA,us,vs,as,bs,i,r1,r2,hc,hu,hb,hf,q=>by
    unfold br at r1 r2;unfold oz at hc;obtain⟨hc1,hc2⟩:=Bool.and_eq_true_iff.mp hc;have e:bI (x::xs) (y::aA)=(aP x y).then (bI xs aA):=by conv=>lhs;unfold bI
    rw[e]at q;cases r1 with
    |cons a1 a2=>
      cases r2 with
      |cons dG b2=>
        have hu:A.units+max (bu x).depth (PyData.depthAll (br xs))<cLine:=by unfold br at hu;exact hu
        have Sv:=SeqAt.eqAt_reads (bu x) (bu y) A s _ _ _ _ a1 dG (rg x) (rg y) (by omega);rw[vY]at Sv;rw[List.zip_cons_cons];refine PySem.W.kat_cons (Sv prog w _ _ ?_);refine PySem.W.kat_go (λe1=>?_) λe1=>?_
        · have e2:aP x y=.eq:=by cases z:aP x y<;>first|rfl|(rw[z]at e1;cases e1)
          rw[e2]at q;refine PySem.W.kat_yes (Qm xs aA _ _ _ _ (i+1) a2 b2 hc2 (by omega) (λz=>?_) (by rw[hf];by_cases h:xs.length<aA.length<;>simp[h]) q);simp at z
        · have e2:((aP x y).then (bI xs aA)==Ordering.lt)=fD x y:=by
            unfold fD;cases z:aP x y<;>first|rfl|(rw[z]at e1;cases e1)
          rw[e2]at q;refine PySem.W.kat_no ?_;cases YX:(b&&i==0)with
          |true=>
            obtain⟨f1,f2⟩:=hb YX;cases x with
            |t _=>unfold oK at f1;cases f1
            |i n=>
              cases y with
              |t _=>unfold oK at f2;cases f2
              |i m=>
                unfold bu at a1 dG;cases a1
                cases dG
                refine oneLt_int ?_;have z:fD (.i n) (.i m)=decide (n<m):=by
                  unfold fD aP;by_cases h:n<m
                  · rw[if_pos h,decide_eq_true h];rfl
                  · rw[if_neg h,decide_eq_false h];split<;>rfl
                rw[z]at q;exact q
          |false=>
            exact PySem.W.kat_one _ _ (Dm x y A s _ _ _ _ a1 dG hc1 (by omega) prog w _ _ q)
def jX (h:Heap)(v:Value)(t:aL):Prop:=∃as,Reads h v (bu t) as
mutual
theorem Dr {h:Heap}:∀(x y:aL) (v:Value) (as bs:List Addr),Reads h v (bu x) as->Reads h v (bu y) bs->x=y
 | .i a,.i b,v,as,bs,r1,r2=>by unfold bu at r1 r2;cases r1;cases r2;rfl
 | .i _,.t _,v,as,bs,r1,r2=>by unfold bu at r1 r2;cases r1;cases r2
 | .t _,.i _,v,as,bs,r1,r2=>by unfold bu at r1 r2;cases r1;cases r2
 | .t xs,.t aA,v,as,bs,r1,r2=>by
  unfold bu at r1 r2;cases r1 with
  |tuple a1 a2 a3 a4=>
   cases r2 with
   |tuple dG b2 om b4=>
    have e:=Option.some.inj (a1.symm.trans dG);subst e;have e2:=a3.symm.trans om;cases e2
    rw[zU xs aA _ _ _ a4 b4]
theorem zU {h:Heap}:∀(xs aA:List aL) (vs:List Value) (as bs:List Addr),ReadsAll h vs (br xs) as->ReadsAll h vs (br aA) bs->xs=aA
 |[],[],_,_,_,_,_=>rfl
 |[],_::_,_,_,_,r1,r2=>by unfold br at r1 r2;cases r1;cases r2
 |_::_,[],_,_,_,r1,r2=>by unfold br at r1 r2;cases r2;cases r1
 |x::xs,y::aA,vs,as,bs,r1,r2=>by
  unfold br at r1 r2;cases r1 with
  |cons a1 a2=>
   cases r2 with
   |cons dG b2=>rw[Dr x y _ _ _ a1 dG,zU xs aA _ _ _ a2 b2]
end
mutual
theorem zW {h h':Heap}(k:∀b o,h.get? b=some o->o.cls=.type "tuple"->h'.get? b=some o):∀(x:aL) (v:Value) (as:List Addr),Reads h v (bu x) as->Reads h' v (bu x) as
 | .i a,v,as,r=>by unfold bu at r⊢;cases r;exact .int _ _
 | .t xs,v,as,r=>by
  unfold bu at r⊢;cases r with
  |tuple a1 a2 a3 a4=>exact .tuple (k _ _ a1 a2) a2 a3 (zV k xs _ _ a4)
theorem zV {h h':Heap}(k:∀b o,h.get? b=some o->o.cls=.type "tuple"->h'.get? b=some o):∀(xs:List aL) (vs:List Value) (as:List Addr),ReadsAll h vs (br xs) as->ReadsAll h' vs (br xs) as
 |[],vs,as,r=>by unfold br at r⊢;cases r;exact .nil
 |x::xs,vs,as,r=>by
  unfold br at r⊢;cases r with
  |cons a1 a2=>exact .cons (zW k x _ _ a1) (zV k xs _ _ a2)
end
theorem jX.keep {h h':Heap}{v:Value}{t:aL}(k:∀b o,h.get? b=some o->o.cls=.type "tuple"->h'.get? b=some o)(r:jX h v t):jX h' v t:=
 let⟨as,r⟩:=r
 ⟨as,zW k t v as r⟩
def yH (t:aL):Prop:=(bu t).depth<=60
theorem T5 {vs:List Value}{k:Value->aL}(hp:∀v∈vs,jX s.heap v (k v))(hr:∀v∈vs,∃a,v=.ref a)(hd:∀v∈vs,yH (k v))(hc:∀v∈vs,∀u∈vs,i8 (k v) (k u)=true)(hb:b=true->∀v∈vs,oK (k v)=true)(hu:A.units+61<cLine):
    SrtO.Cmp prog w A s (tuples' b) (λp=>p.1∈vs) (SrtO.lt2 λv u=>fD (k v) (k u)):=by
  intro p q hm wj;obtain⟨as,r1⟩:=hp _ hm;obtain⟨bs,r2⟩:=hp _ wj;obtain⟨a,ea⟩:=hr _ hm;obtain⟨c,BP⟩:=hr _ wj;have h3:=hc _ hm _ wj;have h4:=hd _ hm;have c6:=λz=>hb z _ hm
  have cN:=λz=>hb z _ wj
  show wpAny (model prog w) A (keyLt' (tuples' b) p.1 q.1) (λr aF=>aF=s/\r=fD (k p.1) (k q.1)) (λ_ _=>False) s
  generalize k p.1=x at *;generalize k q.1=y at *;rw[ea]at r1⊢;rw[BP]at r2⊢;cases x with
  |i _=>unfold bu at r1;cases r1
  |t xs=>
    cases y with
    |i _=>unfold bu at r2;cases r2
    |t aA=>
      unfold bu at r1 r2;unfold yH bu at h4;have h4:PyData.depthAll (br xs)+1<=60:=h4;unfold i8 at h3;cases r1 with
      |tuple a1 a2 a3 a4=>
        cases r2 with
        |tuple dG b2 om b4=>
          refine PySem.W.kat_lt a1 a3 dG om ?_;refine Qm xs aA _ _ _ _ 0 a4 b4 h3 (by omega) (λz=>?_) ?_ ⟨rfl,?_⟩
          · have d_:b=true:=by cases b<;>first|rfl|(simp at z)
            exact⟨c6 d_,cN d_⟩
          · rw[<-Array.length_toList,<-Array.length_toList,readsAll_len a4,readsAll_len b4]
          · unfold fD aP;rfl
theorem G2 {h:Heap}{k:Value->aL}{T:Value}{f:aL->Bool}(hf:(f=oK/\T=.type "int")\/(f=v9/\T=.type "tuple")):∀{vs:List Value},(∀v∈vs,jX h v (k v)/\(∃a,v=.ref a)/\f (k v)=true)->∃fs:List Value,PySem.W.KatTups h vs fs/\fs.length=vs.length/\∀x∈fs,∀M:Model,PySem.W.Looks M h (typeOf x) T
 |[],_=>⟨[],PySem.W.KatTups.nil,rfl,λ_ hm=>by simp at hm⟩
 |v::vs,hp=>by
  obtain⟨fs,h1,h2,h3⟩:=G2 (vs:=vs) hf λK3 hm=>hp K3 (List.mem_cons_of_mem _ hm)
  obtain⟨⟨as,r⟩,⟨a,rfl⟩,hk⟩:=hp v List.mem_cons_self;generalize k (.ref a)=x at *;cases x with
  |i _=>unfold bu at r;cases r
  |t xs=>
   unfold bu at r;cases r with
   |tuple a1 a2 a3 a4=>
    rename_i o vs1 n;cases xs with
    |nil=>rcases hf with⟨rfl,rfl⟩|⟨rfl,rfl⟩<;>(first|unfold oK at hk|unfold v9 at hk)<;>cases hk
    |cons y aA=>
     unfold br at a4;obtain⟨xN,rest,e0⟩:∃xN rest,vs1.toList=xN::rest:=by
      generalize vs1.toList=l at a4;cases a4
      exact⟨_,_,rfl⟩
     rw[e0]at a4;have oO:vs1[0]?=some xN:=by rw[<-Array.getElem?_toList,e0];rfl
     refine⟨xN::fs,PySem.W.KatTups.cons a1 a2 a3 oO h1,by rw[List.length_cons,List.length_cons,h2],λx hm M=>?_⟩;rcases List.mem_cons.mp hm with rfl|hm
     ·cases a4 with
      |cons c1 c2=>
       rcases hf with⟨rfl,rfl⟩|⟨rfl,rfl⟩
       ·cases y with
        |t _=>unfold oK at hk;cases hk
        |i _=>unfold bu at c1;cases c1;exact PySem.W.Looks.now
       ·cases y with
        |i _=>unfold v9 at hk;cases hk
        |t _=>
         unfold bu at c1;cases c1 with
         |tuple d1 d2 d3 d4=>
          rename_i lX Ud n2;rw[<-d2];exact(PySem.W.Looks.ld d1).andThen .now
     ·exact h3 x hm M
theorem ag4 {a:Addr}{vs:List Value}{k:Value->aL}(h0:0<vs.length)(hp:∀v∈vs,jX s.heap v (k v))(hr:∀v∈vs,∃a,v=.ref a)(hd:∀v∈vs,yH (k v))(hc:∀v∈vs,∀u∈vs,i8 (k v) (k u)=true)
    (hf:(∀v∈vs,oK (k v)=true)\/(∀v∈vs,v9 (k v)=true)) (hu:A.units+61<cLine) (ha:∀o,s.heap.get? a=some o->o.cls≠.type "tuple"):SrtO.SortableO prog w A s a vs λv u=>fD (k v) (k u):=by
  intro h' keep;have oU:∀v∈vs,jX h' v (k v):=λv hm=>(hp v hm).keep λb o e c=>keep b o (λz=>by subst z;exact ha o e c) e
  rcases hf with hf|hf
  · obtain⟨fs,h1,h2,h3⟩:=G2 (h:=h') (k:=k) (f:=oK) (.inl ⟨rfl,rfl⟩) λv hm=>⟨oU v hm,hr v hm,hf v hm⟩
    refine⟨tuples' true,λQ E hq=>?_,T5 oU hr hd hc (λ_=>hf) hu⟩;refine PySem.W.kat_kind (T:=.type "int") h1 (by omega) (λf hm=>h3 f hm _) (by rfl) ?_;have e:(Value.type "int" !=Value.type "tuple")=true:=by first|decide+kernel|rfl|decide
    rw[e];exact hq
  · obtain⟨fs,h1,h2,h3⟩:=G2 (h:=h') (k:=k) (f:=v9) (.inr ⟨rfl,rfl⟩) λv hm=>⟨oU v hm,hr v hm,hf v hm⟩
    refine⟨tuples' false,λQ E hq=>?_,T5 oU hr hd hc (λz=>by cases z) hu⟩;refine PySem.W.kat_kind (T:=.type "tuple") h1 (by omega) (λf hm=>h3 f hm _) (by rfl) ?_;have e:(Value.type "tuple" !=Value.type "tuple")=false:=by first|decide+kernel|rfl|decide
    rw[e];exact hq
end
mutual
def eF:D->Option aL
 | .int n=>some (.i n)
 | .tup ds=>(jB ds).map .t
 |_=>none
def jB:List D->Option (List aL)
 |[]=>some []
 |d::ds=>match eF d,jB ds with
  |some t,some ts=>some (t::ts)
  |_,_=>none
end
mutual
def eY:aL->D
 | .i n=>.int n
 | .t ts=>.tup (gv ts)
def gv:List aL->List D
 |[]=>[]
 |t::ts=>eY t::gv ts
end
mutual
theorem KW:∀{d:D} {t:aL},eF d=some t->d=eY t/\py d=bu t
 | .int n,t,h=>by
  unfold eF at h;cases h
  exact⟨by unfold eY;rfl,by unfold py bu;rfl⟩
 | .tup ds,t,h=>by
  unfold eF at h;cases e:jB ds with
  |none=>rw[e]at h;cases h
  |some ts=>
   rw[e]at h;cases h
   obtain⟨e1,e2⟩:=An e;exact⟨by unfold eY;rw[e1],by unfold py bu;rw[e2]⟩
 | .non,t,h=>by unfold eF at h;cases h
 | .bl _,t,h=>by unfold eF at h;cases h
 | .str _,t,h=>by unfold eF at h;cases h
 | .lst _,t,h=>by unfold eF at h;cases h
 | .dK _,t,h=>by unfold eF at h;cases h
 | .dT _,t,h=>by unfold eF at h;cases h
 | .ins _ _,t,h=>by unfold eF at h;cases h
 | .d9 _,t,h=>by unfold eF at h;cases h
 | .exc _ _,t,h=>by unfold eF at h;cases h
 | .cL _ _,t,h=>by unfold eF at h;cases h
 | .lam _,t,h=>by unfold eF at h;cases h
theorem An:∀{ds:List D} {ts:List aL},jB ds=some ts->ds=gv ts/\eu ds=br ts
 |[],ts,h=>by
  unfold jB at h;cases h
  exact⟨by unfold gv;rfl,by unfold eu br;rfl⟩
 |d::ds,ts,h=>by
  unfold jB at h;cases e1:eF d with
  |none=>rw[e1]at h;cases h
  |some t=>
   cases e2:jB ds with
   |none=>rw[e1,e2]at h;cases h
   |some ag7=>
    rw[e1,e2]at h;cases h
    obtain⟨a1,a2⟩:=KW e1;obtain⟨dG,b2⟩:=An e2;exact⟨by unfold gv;rw[a1,dG],by unfold eu br;rw[a2,b2]⟩
end
end R
namespace R
open PySem PySem.Spec PyProof.Rows L2
variable[aI]
def vW (f:CE):CE:=λρ=>(f ρ).bind λs=>(frz s).bind λd=>ok (.dat d)
section
variable{X:Cx}{W:WX}{e o:Expr}{aJ bS:CE}
theorem aeU (h1:aV X W e aJ):aV X W e (vW aJ):=⟨λρ M aa G σ H Q ms en h=>
 h1.seq ms en h λav au M1 H1 v s g1 m1 r1 aC=>by
  have aC:wp (Ev.bind (frz s) (λd=>ok (.dat d)) M1) (cV X W (bz X.K) Q σ av au H1):=aC;obtain⟨d,M2,e1,q⟩:=iF.mp (cz.mp aC);obtain⟨aU,m2,g2,r2⟩:=ug m1 r1 e1;exact(show cV X W (bz X.K) Q σ av au H1 (.ok (.dat d) M2)from q) av aU H1 v g2 m2 r2⟩
end
end R
namespace R
open PySem PySem.Spec PyProof.Rows L2
variable[aI]
end R
namespace R
open PySem PySem.Spec PyProof.Rows L2
variable[aI]
def nv {α:Type}(kvs:List (List Key×α))(k:List Key):Option α:=(kvs.find? λp=>decide (p.1=k)).map (·.2)
def Xi {α:Type}(kvs:List (List Key×α))(k:List Key):Bool:=kvs.any λp=>decide (p.1=k)
def Xj {α:Type}(kvs:List (List Key×α))(k:List Key)(v:α):List (List Key×α):=
 if Xi kvs k then kvs.map (λp=>if p.1=k then(p.1,v)else p)else kvs++[(k,v)]
def aaA:D->Option Key
 | .int i=>some (.inl i)
 | .str x=>some (.inr x)
 |_=>none
def CK:List D->Option (List Key)
 |[]=>some []
 |d::ds=>match aaA d,CK ds with
  |some k,some ks=>some (k::ks)
  |_,_=>none
def NK:Key->D
 | .inl i=>.int i
 | .inr x=>.str x
def q_ (ks:List Key):D:=.tup (ks.map NK)
def Qo:af->Option (List Key)
 | .dat (.tup ds)=>CK ds
 |_=>none
def NJ (M:List ak)(x:af)(k:List Key):Option (Option af):=match x with
 | .dat (.dT kvs)=>some ((nv kvs k).map .dat)
 | .mu j=>match M[j]? with
  |some (.dT kvs)=>some ((nv kvs k).map (gJ M))
  |_=>none
 |_=>none
def zA (M:List ak)(x y:af):Option (af×List ak):=match Qo y with
 |some k=>match NJ M x k with
  |some (some s)=>some (s,M)
  |_=>none
 |none=>bT M x y
def Xk (kvs:List (List Key×D))(d:D):List (List Key×D):=match d with
 | .dT [(k,v)]=>Xj kvs k v
 |_=>kvs
def Xp (acc:List D):List (List Key×D):=acc.foldl Xk []
structure D4 (K:Frag)(aW:Addr)(av:List Addr)(au H1:Hp)(acc:List D)(aj:List Addr)(ai:Hp)(ao:List ak)(H':Hp):Prop where
 f9:aG av au H1 aj ai H'
 out:aW∉aj
 nG:ai aW=none
 ms:aE K aj ai ao H'
 at_:∃vs,H' aW=some (.dT vs)/\ni K ai vs (Xp acc)
theorem D4.grow {K:Frag}{aW:Addr}{av aj aM:List Addr}{au H1 ai H' aU aO:Hp}{acc:List D}{ao M2:List ak}(a:D4 K aW av au H1 acc aj ai ao H')(g:aG aj ai H' aM aU aO)(m:aE K aM aU M2 aO):D4 K aW av au H1 acc aM aU M2 aO:=by
 obtain⟨vs,hv,bL⟩:=a.at_;obtain⟨n2,yT,cO⟩:=Ce g a.out a.nG hv;exact⟨a.f9.trans g,n2,yT,m,vs,cO,bL.mono g.ex⟩
def Gz (M:List ak)(s:af):Option (List (List Key)):=match s with
 | .dat (.dT kvs)=>some (kvs.map (·.1))
 | .mu j=>match M[j]? with
  |some (.dT kvs)=>some (kvs.map (·.1))
  |_=>none
 |_=>none
def CV (m:Bool)(M:List ak):List af->Option (af×List ak):=λss=>match ss.head?.bind (Gz M)with
 |some ks=>if ss.length=1 then some (eX m M (ks.map q_))else none
 |none=>abn m M ss
end R
namespace R
open PySem PySem.Spec PyProof.Rows L2 PySem.W PySem.Calls
def HW (as:List Addr)(b_:List Fk)(fn:List eL)(en:List fu):PySem.W.Hook where
 α:=qk
 obs:=λs=>sF as b_ fn en s.heap.get?
 val:=λ_=>valE fn en
 says:=λ_ h=>∃K:Frag,K.In h/\SaysE b_ fn en K
 of:=λ_ _ q=>⟨_,He.frG_in,q⟩
 keeps:=λ_ _ _ ⟨K,i,c⟩ k=>⟨K,Frag.In.keeps i k,c⟩
theorem acs {as:List Addr}{b_:List Fk}{fn:List eL}{en:List fu}{g:Addr->Option Obj}{s:Shared}(h:∀a,g a=s.heap.get? a):sF as b_ fn en g=(HW as b_ fn en).obs s:=by
 have e:g=s.heap.get?:=funext h;rw[e]<;>rfl
theorem acr {f1 f2:List Fk}{d1 d2:List eL}{e1 e2:List fu}{K:Frag}(h1:obsE f1 d1 e1 K=valE d1 e1)(h2:obsE f2 d2 e2 K=valE d2 e2):obsE (f1++f2) (d1++d2) (e1++e2) K=valE (d1++d2) (e1++e2):=by
 unfold obsE valE at *;rw[Prod.mk.injEq,Prod.mk.injEq]at h1 h2;obtain⟨a1,dG,c1⟩:=h1;obtain⟨a2,b2,c2⟩:=h2;rw[Bool.and_eq_true,Bool.and_eq_true]at a1 a2;rw[List.map_append,List.map_append,List.map_append,List.map_append,dG,b2,c1,c2,List.all_append,List.all_append,List.all_append,a1.1.1,a1.1.2,a1.2,a2.1.1,a2.1.2,a2.2];rfl
theorem acu {as:List Addr}{f1 f2:List Fk}{d1 d2:List eL}{e1 e2:List fu}{g:Addr->Option Obj}(h1:sF as f1 d1 e1 g=valE d1 e1)(h2:sF as f2 d2 e2 g=valE d2 e2):sF as (f1++f2) (d1++d2) (e1++e2) g=valE (d1++d2) (e1++e2):=acr h1 h2
theorem vc.join {r:PySem.W.OpenRow}{M:Nat}{as:List Addr}{f1 f2:List Fk}{d1 d2:List eL}{e1 e2:List fu}{w:World}(h1:vc r M as f1 d1 e1 w)(h2:vc r M as f2 d2 e2 w):vc r M as (f1++f2) (d1++d2) (e1++e2) w:=λos=>by
 obtain⟨s,hs,a⟩:=Option.map_eq_some_iff.mp (h1 os);obtain⟨s2,lQ,b⟩:=Option.map_eq_some_iff.mp (h2 os);rw[hs]at lQ;cases lQ
 rw[hs];exact congrArg some (acu a b)
theorem adz {r:PySem.W.OpenRow}{q:Program}{M:Nat}{as:List Addr}{b_:List Fk}{dl:List eL}{el:List fu}{loose:List Str}{w:World}(h1:Ly r q M loose w)(h2:vc r M as b_ dl el w):HandSHeadRun.RunEq r q (HW as b_ dl el) (λs=>sF as b_ dl el (HandSHeadRun.getT s)) M loose w:=λos=>by
 obtain⟨s,hs,a⟩:=Option.map_eq_some_iff.mp (h1 os);obtain⟨s2,lQ,b⟩:=Option.map_eq_some_iff.mp (h2 os);rw[hs]at lQ;cases lQ
 obtain⟨a1,a2⟩:=Prod.mk.injEq .. ▸a;show Option.map _ _=some (true,PySem.W.openGood q loose,valE dl el)
 rw[hs];exact congrArg some (Prod.ext a1 (Prod.ext a2 b))
end R
namespace R
open PySem PySem.Spec PyProof.Rows L2
variable[aI]
end R
namespace DX
open PySem PySem.W PySem.Calls PyProof.Rows PyProof.V PySem.Spec
end DX
namespace DX
open PySem PySem.W PySem.Calls PyProof.Rows PyProof.V PySem.Spec L2
end DX
namespace R
open PySem PySem.Spec PyProof.Rows L2
variable[aI]
end R
namespace R
open PySem PySem.Spec PyProof.Rows L2
variable[aI]
end R
namespace R
open PySem PySem.Spec PyProof.Rows L2
variable[aI]
end R
namespace DX
open PySem PySem.W PySem.Calls PyProof.Rows PyProof.V PySem.Spec
end DX
namespace DX
open PySem PySem.W PySem.Calls PyProof.Rows PyProof.V PySem.Spec L2
end DX
namespace R
open PySem PySem.Spec PyProof.Rows L2
variable[aI]
section
variable{X:Cx}{W:WX}{o e:Expr}{aJ bS:CE}{pos apos:Pos}
theorem SY {K:Frag}{G:Hp}:∀(aA:List Str),bJ K G (aA.map V.str) (aA.map D.str)
 |[]=>.nil
 |y::aA=>.cons (.str y) (SY aA)
end
end R
namespace R
open PySem PySem.Spec PyProof.Rows L2
namespace ME
def eE (x y:Str):Bool:=decide (x.cps.toList<y.cps.toList)
theorem J0 (x:Str):eE x x=false:=decide_eq_false (List.lt_irrefl _)
theorem JZ {x y:Str}(h:eE x y=true):eE y x=false:=decide_eq_false λq=>absurd (of_decide_eq_true h) (List.lt_asymm q)
theorem TN {x y:Str}(h:x.cps.toList=y.cps.toList):x=y:=by
 cases x;cases y;simp only[Str.mk.injEq];exact Array.toList_inj.mp h
theorem Dz {x y:Str}(h1:eE x y=false)(h2:eE y x=false):x=y:=by
 refine TN ?_;have a:=of_decide_eq_false h1;have b:=of_decide_eq_false h2;exact List.le_antisymm (List.not_lt.mp b) (List.not_lt.mp a)
theorem S_ {x y z:Str}(h1:eE x y=true)(h2:eE y z=true):eE x z=true:=decide_eq_true (List.lt_trans (of_decide_eq_true h1) (of_decide_eq_true h2))
inductive aL where
 |i (n:Int)
 |s (z:Str) (h:PyData.strOk z=true)
 |t (xs:List aL)
mutual
def aP:aL->aL->Ordering
 | .i a,.i b=>if a<b then .lt else if a=b then .eq else .gt
 | .s a _,.s b _=>if eE a b then .lt else if eE b a then .gt else .eq
 | .i _,.s _ _=>.lt
 | .s _ _,.i _=>.gt
 | .i _,.t _=>.lt
 | .t _,.i _=>.gt
 | .s _ _,.t _=>.lt
 | .t _,.s _ _=>.gt
 | .t xs,.t aA=>bI xs aA
def bI:List aL->List aL->Ordering
 |[],[]=>.eq
 |[],_::_=>.lt
 |_::_,[]=>.gt
 |x::xs,y::aA=>(aP x y).then (bI xs aA)
end
mutual
theorem yy:∀x y:aL,aP y x=(aP x y).swap
 | .i a,.i b=>by
  unfold aP;by_cases h1:a<b
  ·rw[if_pos h1,if_neg (by omega),if_neg (by omega)];rfl
  ·by_cases h2:a=b
   ·subst h2;rw[if_neg h1,if_pos rfl];rfl
   ·rw[if_neg h1,if_neg h2,if_pos (by omega)];rfl
 | .s a _,.s b _=>by
  unfold aP;cases h1:eE a b with
  |true=>rw[JZ h1];rfl
  |false=>cases h2:eE b a<;>rfl
 | .i _,.s _ _=>by unfold aP;rfl
 | .s _ _,.i _=>by unfold aP;rfl
 | .i _,.t _=>by unfold aP;rfl
 | .t _,.i _=>by unfold aP;rfl
 | .s _ _,.t _=>by unfold aP;rfl
 | .t _,.s _ _=>by unfold aP;rfl
 | .t xs,.t aA=>by unfold aP;exact yD xs aA
theorem yD:∀xs aA:List aL,bI aA xs=(bI xs aA).swap
 |[],[]=>by unfold bI;rfl
 |[],_::_=>by unfold bI;rfl
 |_::_,[]=>by unfold bI;rfl
 |x::xs,y::aA=>by
  unfold bI;rw[yy x y,yD xs aA];cases aP x y<;>rfl
end
mutual
theorem qv:∀{x y:aL},aP x y=.eq->x=y
 | .i a,.i b,h=>by
  unfold aP at h;by_cases h1:a<b
  ·rw[if_pos h1]at h;cases h
  ·by_cases h2:a=b
   ·rw[h2]
   ·rw[if_neg h1,if_neg h2]at h;cases h
 | .s a _,.s b _,h=>by
  unfold aP at h;cases h1:eE a b with
  |true=>rw[h1]at h;cases h
  |false=>
   cases h2:eE b a with
   |true=>rw[h1,h2]at h;cases h
   |false=>cases Dz h1 h2;rfl
 | .i _,.s _ _,h=>by unfold aP at h;cases h
 | .s _ _,.i _,h=>by unfold aP at h;cases h
 | .i _,.t _,h=>by unfold aP at h;cases h
 | .t _,.i _,h=>by unfold aP at h;cases h
 | .s _ _,.t _,h=>by unfold aP at h;cases h
 | .t _,.s _ _,h=>by unfold aP at h;cases h
 | .t xs,.t aA,h=>by unfold aP at h;rw[yz h]
theorem yz:∀{xs aA:List aL},bI xs aA=.eq->xs=aA
 |[],[],_=>rfl
 |[],_::_,h=>by unfold bI at h;cases h
 |_::_,[],h=>by unfold bI at h;cases h
 |x::xs,y::aA,h=>by
  unfold bI at h;cases e:aP x y with
  |lt=>rw[e]at h;cases h
  |gt=>rw[e]at h;cases h
  |eq=>rw[e]at h;rw[qv e,yz h]
end
mutual
theorem Bw:∀x:aL,aP x x=.eq
 | .i a=>by unfold aP;rw[if_neg (by omega),if_pos rfl]
 | .s a _=>by unfold aP;rw[J0];rfl
 | .t xs=>by unfold aP;exact yC xs
theorem yC:∀xs:List aL,bI xs xs=.eq
 |[]=>by unfold bI;rfl
 |x::xs=>by unfold bI;rw[Bw x,yC xs];rfl
end
mutual
theorem Bx:∀{x y z:aL},aP x y=.lt->aP y z=.lt->aP x z=.lt
 | .i a,.i b,.i c,h1,h2=>by
  unfold aP at *;have e1:a<b:=by
   by_cases h:a<b
   ·exact h
   ·rw[if_neg h]at h1;split at h1<;>cases h1
  have e2:b<c:=by
   by_cases h:b<c
   ·exact h
   ·rw[if_neg h]at h2;split at h2<;>cases h2
  rw[if_pos (by omega)]
 | .s a _,.s b _,.s c _,h1,h2=>by
  unfold aP at *;have e1:eE a b=true:=by
   cases h:eE a b with
   |true=>rfl
   |false=>rw[h]at h1;simp at h1;split at h1<;>cases h1
  have e2:eE b c=true:=by
   cases h:eE b c with
   |true=>rfl
   |false=>rw[h]at h2;simp at h2;split at h2<;>cases h2
  rw[if_pos (S_ e1 e2)]
 | .i _,.i _,.s _ _,_,_=>by unfold aP;rfl
 | .i _,.i _,.t _,_,_=>by unfold aP;rfl
 | .i _,.s _ _,.i _,_,h2=>by unfold aP at h2;cases h2
 | .i _,.s _ _,.s _ _,_,_=>by unfold aP;rfl
 | .i _,.s _ _,.t _,_,_=>by unfold aP;rfl
 | .i _,.t _,.i _,_,h2=>by unfold aP at h2;cases h2
 | .i _,.t _,.s _ _,_,h2=>by unfold aP at h2;cases h2
 | .i _,.t _,.t _,_,_=>by unfold aP;rfl
 | .s _ _,.i _,_,h1,_=>by unfold aP at h1;cases h1
 | .s _ _,.s _ _,.i _,_,h2=>by unfold aP at h2;cases h2
 | .s _ _,.s _ _,.t _,_,_=>by unfold aP;rfl
 | .s _ _,.t _,.i _,_,h2=>by unfold aP at h2;cases h2
 | .s _ _,.t _,.s _ _,_,h2=>by unfold aP at h2;cases h2
 | .s _ _,.t _,.t _,_,_=>by unfold aP;rfl
 | .t _,.i _,_,h1,_=>by unfold aP at h1;cases h1
 | .t _,.s _ _,_,h1,_=>by unfold aP at h1;cases h1
 | .t _,.t _,.i _,_,h2=>by unfold aP at h2;cases h2
 | .t _,.t _,.s _ _,_,h2=>by unfold aP at h2;cases h2
 | .t xs,.t aA,.t zs,h1,h2=>by unfold aP at *;exact yE h1 h2
theorem yE:∀{xs aA zs:List aL},bI xs aA=.lt->bI aA zs=.lt->bI xs zs=.lt
 |[],[],_,h1,_=>by unfold bI at h1;cases h1
 |[],_::_,[],_,h2=>by unfold bI at h2;cases h2
 |[],_::_,_::_,_,_=>by unfold bI;rfl
 |_::_,[],_,h1,_=>by unfold bI at h1;cases h1
 |_::_,_::_,[],_,h2=>by unfold bI at h2;cases h2
 |x::xs,y::aA,z::zs,h1,h2=>by
  unfold bI at *;cases e1:aP x y with
  |gt=>rw[e1]at h1;cases h1
  |eq=>
   obtain rfl:=qv e1;rw[e1]at h1;cases e2:aP x z with
   |gt=>rw[e2]at h2;cases h2
   |lt=>rfl
   |eq=>rw[e2]at h2;exact yE h1 h2
  |lt=>
   cases e2:aP y z with
   |gt=>rw[e2]at h2;cases h2
   |eq=>
    obtain rfl:=qv e2;rw[e1];rfl
   |lt=>rw[Bx e1 e2];rfl
end
def fD (x y:aL):Bool:=aP x y==.lt
mutual
def bu:aL->PyData
 | .i n=>.int n
 | .s z _=>.str z
 | .t xs=>.tuple (br xs)
def br:List aL->List PyData
 |[]=>[]
 |x::xs=>bu x::br xs
end
mutual
def i8:aL->aL->Bool
 | .i _,.i _=>true
 | .s _ _,.s _ _=>true
 | .t xs,.t aA=>oz xs aA
 |_,_=>false
def oz:List aL->List aL->Bool
 |x::xs,y::aA=>i8 x y&&oz xs aA
 |_,_=>true
end
def i7:List aL->List aL->Nat->Ordering
 |x::_,y::_,0=>aP x y
 |_::xs,_::aA,j+1=>i7 xs aA j
 |_,_,_=>.eq
mutual
theorem rg:∀t:aL,(bu t).canLay0=true
 | .i _=>by unfold bu;rfl
 | .s _ h=>by unfold bu;exact h
 | .t xs=>by unfold bu;exact Ao xs
theorem Ao:∀ts:List aL,PyData.canLayAll0 (br ts)=true
 |[]=>by unfold br;rfl
 |t::ts=>by
  unfold br;show((bu t).canLay0&&PyData.canLayAll0 (br ts))=true
  rw[rg t,Ao ts];rfl
end
mutual
theorem vY:∀x y:aL,PyData.eqv (bu x) (bu y)=(aP x y==.eq)
 | .i a,.i b=>by
  unfold bu aP PyData.eqv;by_cases h1:a<b
  ·rw[if_pos h1,beq_eq_false_iff_ne.mpr (by omega)];rfl
  ·by_cases h2:a=b
   ·subst h2;rw[if_neg h1,if_pos rfl,beq_self_eq_true];rfl
   ·rw[if_neg h1,if_neg h2,beq_eq_false_iff_ne.mpr h2];rfl
 | .s a _,.s b _=>by
  unfold bu aP PyData.eqv;cases h1:eE a b with
  |true=>
   have:a≠b:=λq=>by rw[q,J0]at h1;cases h1
   rw[beq_eq_false_iff_ne.mpr this];rfl
  |false=>
   cases h2:eE b a with
   |true=>
    have:a≠b:=λq=>by rw[q,J0]at h2;cases h2
    rw[beq_eq_false_iff_ne.mpr this];rfl
   |false=>rw[Dz h1 h2,beq_self_eq_true];rfl
 | .i _,.s _ _=>by unfold bu aP PyData.eqv;rfl
 | .s _ _,.i _=>by unfold bu aP PyData.eqv;rfl
 | .i _,.t _=>by unfold bu aP PyData.eqv;rfl
 | .t _,.i _=>by unfold bu aP PyData.eqv;rfl
 | .s _ _,.t _=>by unfold bu aP PyData.eqv;rfl
 | .t _,.s _ _=>by unfold bu aP PyData.eqv;rfl
 | .t xs,.t aA=>by
  unfold bu aP PyData.eqv;exact yN xs aA
theorem yN:∀xs aA:List aL,PyData.eqvAll (br xs) (br aA)=(bI xs aA==.eq)
 |[],[]=>by unfold br bI PyData.eqvAll;rfl
 |[],_::_=>by unfold bI;simp only[br,PyData.eqvAll];rfl
 |_::_,[]=>by unfold bI;simp only[br,PyData.eqvAll];rfl
 |x::xs,y::aA=>by
  unfold bI;simp only[br,PyData.eqvAll];rw[vY x y,yN xs aA];cases aP x y<;>rfl
end
theorem zF {e r:Nat->Bool}:∀(xs aA:List aL) (i:Nat),(∀j,j<xs.length->j<aA.length->e (i+j)=(i7 xs aA j==.eq))->(∀j,j<xs.length->j<aA.length->r (i+j)=(i7 xs aA j==.lt))->
    Ob.lexAt e r (decide (xs.length<aA.length)) i (min xs.length aA.length)=(bI xs aA==.lt)
  |[],[],i,_,_=>by unfold bI;rfl
  |[],y::aA,i,_,_=>by
    unfold bI;rw[List.length_nil,Nat.zero_min,Ob.lexAt_zero,decide_eq_true (by simp)];rfl
  |x::xs,[],i,_,_=>by
    unfold bI;rw[List.length_nil,Nat.min_zero,Ob.lexAt_zero,decide_eq_false (by simp)];rfl
  |x::xs,y::aA,i,he,hr=>by
    have ih:=zF xs aA (i+1) (λj h1 h2=>by
      have:=he (j+1) (by simp;omega) (by simp;omega);rw[show i+1+j=i+(j+1) by omega];exact this) (λj h1 h2=>by
      have:=hr (j+1) (by simp;omega) (by simp;omega);rw[show i+1+j=i+(j+1) by omega];exact this)
    have e0:e i=(aP x y==.eq):=he 0 (by simp) (by simp);have r0:r i=(aP x y==.lt):=hr 0 (by simp) (by simp);rw[List.length_cons,List.length_cons,show min (xs.length+1) (aA.length+1)=min xs.length aA.length+1 by omega,Ob.lexAt_succ,e0,r0,
      show decide (xs.length+1<aA.length+1)=decide (xs.length<aA.length) by by_cases h:xs.length<aA.length<;>simp[h],ih,show bI (x::xs) (y::aA)=(aP x y).then (bI xs aA) by conv=>lhs;unfold bI]
    cases aP x y<;>rfl
theorem readsAll_len {h:Heap}:∀{ts:List aL} {us:List Value} {as:List Addr},ReadsAll h us (br ts) as->us.length=ts.length
 |[],us,as,r=>by unfold br at r;cases r;rfl
 |t::ts,us,as,r=>by
  unfold br at r;cases r with
  |cons r1 r2=>rw[List.length_cons,List.length_cons,readsAll_len r2]
theorem yM:∀(xs aA:List aL) (A:Around) (s:Shared) (us vs:List Value) (as bs:List Addr),ReadsAll s.heap us (br xs) as->ReadsAll s.heap vs (br aA) bs->A.units+PyData.depthAll (br xs)<cLine->∀j (h1:j<us.length) (h2:j<vs.length),SeqAt.EqAt A s us[j] vs[j] (i7 xs aA j==.eq)
 |[],aA,A,s,us,vs,as,bs,r1,r2,hu,j,h1,h2=>by unfold br at r1;cases r1;exact absurd h1 (Nat.not_lt_zero _)
 |x::xs,[],A,s,us,vs,as,bs,r1,r2,hu,j,h1,h2=>by unfold br at r2;cases r2;exact absurd h2 (Nat.not_lt_zero _)
 |x::xs,y::aA,A,s,us,vs,as,bs,r1,r2,hu,j,h1,h2=>by
  unfold br at r1 r2;cases r1 with
  |cons a1 a2=>
   cases r2 with
   |cons dG b2=>
    have hu:A.units+max (bu x).depth (PyData.depthAll (br xs))<cLine:=by unfold br at hu;exact hu
    cases j with
    |zero=>
     have q:=SeqAt.eqAt_reads (bu x) (bu y) A s _ _ _ _ a1 dG (rg x) (rg y) (by omega);rw[vY]at q;exact q
    |succ j=>exact yM xs aA A s _ _ _ _ a2 b2 (by omega) j (by simpa using h1) (by simpa using h2)
mutual
theorem Dm:∀(x y:aL) (A:Around) (s:Shared) (u v:Value) (as bs:List Addr),Reads s.heap u (bu x) as->Reads s.heap v (bu y) bs->i8 x y=true->A.units+(bu x).depth<cLine->Ob.RcOp .Lt A s u v (fD x y)
  | .i a,.i b,A,s,u,v,as,bs,r1,r2,_,_=>by
    unfold bu at r1 r2;cases r1
    cases r2
    have e:fD (.i a) (.i b)=decide (a<b):=by
      unfold fD aP;by_cases h:a<b
      · rw[if_pos h,decide_eq_true h];rfl
      · rw[if_neg h,decide_eq_false h];split<;>rfl
    rw[e];exact Ob.RcOp.lt_int _ _ _ _
  | .s a ha,.s b hb,A,s,u,v,as,bs,r1,r2,_,_=>by
    unfold bu at r1 r2;cases r1
    cases r2
    have e:fD (.s a ha) (.s b hb)=decide (a.cps.toList<b.cps.toList):=by
      unfold fD aP;show _=eE a b
      cases h1:eE a b with
      |true=>rfl
      |false=>cases h2:eE b a<;>rfl
    rw[e];exactλ_ _ _ _ h=>PySem.P.lt_str h
  | .i _,.s _ _,_,_,_,_,_,_,_,_,h,_=>by unfold i8 at h;cases h
  | .s _ _,.i _,_,_,_,_,_,_,_,_,h,_=>by unfold i8 at h;cases h
  | .s _ _,.t _,_,_,_,_,_,_,_,_,h,_=>by unfold i8 at h;cases h
  | .t _,.s _ _,_,_,_,_,_,_,_,_,h,_=>by unfold i8 at h;cases h
  | .i _,.t _,_,_,_,_,_,_,_,_,h,_=>by unfold i8 at h;cases h
  | .t _,.i _,_,_,_,_,_,_,_,_,h,_=>by unfold i8 at h;cases h
  | .t xs,.t aA,A,s,u,v,as,bs,r1,r2,hc,hu=>by
    unfold bu at r1 r2 hu;unfold i8 at hc;have hu:A.units+(PyData.depthAll (br xs)+1)<cLine:=hu;cases r1 with
    |tuple a1 a2 a3 a4=>
      cases r2 with
      |tuple dG b2 om b4=>
        rename_i l1 o1 vs1 n1 l2 lX Ud n2;have l1:=readsAll_len a4;have l2:=readsAll_len b4;have q:=Ob.RcOp.tuples_lt (A:=A) (e:=λj=>i7 xs aA j==.eq) (r:=λj=>i7 xs aA j==.lt) ⟨_,a1,a2,_,a3⟩ ⟨_,dG,b2,_,om⟩ (by omega)
          (λj h1 h2=>by
            have:=yM xs aA A.in1 s _ _ _ _ a4 b4 (by show A.units+1+_<_;omega) j (by simpa using h1) (by simpa using h2);simpa using this)
          (λj h1 h2 _=>by
            have:=zT xs aA A.in1 s _ _ _ _ a4 b4 hc (by show A.units+1+_<_;omega) j (by simpa using h1) (by simpa using h2);simpa using this)
        have e:=zF (e:=λj=>i7 xs aA j==.eq) (r:=λj=>i7 xs aA j==.lt) xs aA 0 (λj _ _=>by rw[Nat.zero_add]) (λj _ _=>by rw[Nat.zero_add]);rw[<-Array.length_toList,<-Array.length_toList,l1,l2,e]at q;have z:fD (.t xs) (.t aA)=(bI xs aA==.lt):=by unfold fD aP;rfl
        rw[z];exact q
theorem zT:∀(xs aA:List aL) (A:Around) (s:Shared) (us vs:List Value) (as bs:List Addr),ReadsAll s.heap us (br xs) as->ReadsAll s.heap vs (br aA) bs->oz xs aA=true->A.units+PyData.depthAll (br xs)<cLine->∀j (h1:j<us.length) (h2:j<vs.length),Ob.RcOp .Lt A s us[j] vs[j] (i7 xs aA j==.lt)
 |[],aA,A,s,us,vs,as,bs,r1,r2,hc,hu,j,h1,h2=>by unfold br at r1;cases r1;exact absurd h1 (Nat.not_lt_zero _)
 |x::xs,[],A,s,us,vs,as,bs,r1,r2,hc,hu,j,h1,h2=>by unfold br at r2;cases r2;exact absurd h2 (Nat.not_lt_zero _)
 |x::xs,y::aA,A,s,us,vs,as,bs,r1,r2,hc,hu,j,h1,h2=>by
  unfold br at r1 r2;unfold oz at hc;obtain⟨hc1,hc2⟩:=Bool.and_eq_true_iff.mp hc;cases r1 with
  |cons a1 a2=>
   cases r2 with
   |cons dG b2=>
    have hu:A.units+max (bu x).depth (PyData.depthAll (br xs))<cLine:=by unfold br at hu;exact hu
    cases j with
    |zero=>exact Dm x y A s _ _ _ _ a1 dG hc1 (by omega)
    |succ j=>exact zT xs aA A s _ _ _ _ a2 b2 hc2 (by omega) j (by simpa using h1) (by simpa using h2)
end
section
variable{prog:Program}{w:World}{A:Around}{E:Value->Shared->Prop}{s:Shared}{b fin:Bool}{Q:Bool->Shared->Prop}
def jX (h:Heap)(v:Value)(t:aL):Prop:=∃as,Reads h v (bu t) as
mutual
theorem Dr {h:Heap}:∀(x y:aL) (v:Value) (as bs:List Addr),Reads h v (bu x) as->Reads h v (bu y) bs->x=y
 | .i a,.i b,v,as,bs,r1,r2=>by unfold bu at r1 r2;cases r1;cases r2;rfl
 | .s a _,.s b _,v,as,bs,r1,r2=>by unfold bu at r1 r2;cases r1;cases r2;rfl
 | .i _,.s _ _,v,as,bs,r1,r2=>by unfold bu at r1 r2;cases r1;cases r2
 | .s _ _,.i _,v,as,bs,r1,r2=>by unfold bu at r1 r2;cases r1;cases r2
 | .s _ _,.t _,v,as,bs,r1,r2=>by unfold bu at r1 r2;cases r1;cases r2
 | .t _,.s _ _,v,as,bs,r1,r2=>by unfold bu at r1 r2;cases r1;cases r2
 | .i _,.t _,v,as,bs,r1,r2=>by unfold bu at r1 r2;cases r1;cases r2
 | .t _,.i _,v,as,bs,r1,r2=>by unfold bu at r1 r2;cases r1;cases r2
 | .t xs,.t aA,v,as,bs,r1,r2=>by
  unfold bu at r1 r2;cases r1 with
  |tuple a1 a2 a3 a4=>
   cases r2 with
   |tuple dG b2 om b4=>
    have e:=Option.some.inj (a1.symm.trans dG);subst e;have e2:=a3.symm.trans om;cases e2
    rw[zU xs aA _ _ _ a4 b4]
theorem zU {h:Heap}:∀(xs aA:List aL) (vs:List Value) (as bs:List Addr),ReadsAll h vs (br xs) as->ReadsAll h vs (br aA) bs->xs=aA
 |[],[],_,_,_,_,_=>rfl
 |[],_::_,_,_,_,r1,r2=>by unfold br at r1 r2;cases r1;cases r2
 |_::_,[],_,_,_,r1,r2=>by unfold br at r1 r2;cases r2;cases r1
 |x::xs,y::aA,vs,as,bs,r1,r2=>by
  unfold br at r1 r2;cases r1 with
  |cons a1 a2=>
   cases r2 with
   |cons dG b2=>rw[Dr x y _ _ _ a1 dG,zU xs aA _ _ _ a2 b2]
end
mutual
theorem zW {h h':Heap}(k:∀b o,h.get? b=some o->o.cls=.type "tuple"->h'.get? b=some o):∀(x:aL) (v:Value) (as:List Addr),Reads h v (bu x) as->Reads h' v (bu x) as
 | .i a,v,as,r=>by unfold bu at r⊢;cases r;exact .int _ _
 | .s a _,v,as,r=>by unfold bu at r⊢;cases r;exact .str _ _
 | .t xs,v,as,r=>by
  unfold bu at r⊢;cases r with
  |tuple a1 a2 a3 a4=>exact .tuple (k _ _ a1 a2) a2 a3 (zV k xs _ _ a4)
theorem zV {h h':Heap}(k:∀b o,h.get? b=some o->o.cls=.type "tuple"->h'.get? b=some o):∀(xs:List aL) (vs:List Value) (as:List Addr),ReadsAll h vs (br xs) as->ReadsAll h' vs (br xs) as
 |[],vs,as,r=>by unfold br at r⊢;cases r;exact .nil
 |x::xs,vs,as,r=>by
  unfold br at r⊢;cases r with
  |cons a1 a2=>exact .cons (zW k x _ _ a1) (zV k xs _ _ a2)
end
theorem jX.keep {h h':Heap}{v:Value}{t:aL}(k:∀b o,h.get? b=some o->o.cls=.type "tuple"->h'.get? b=some o)(r:jX h v t):jX h' v t:=
 let⟨as,r⟩:=r
 ⟨as,zW k t v as r⟩
end
mutual
def eF:D->Option aL
 | .int n=>some (.i n)
 | .str z=>if h:PyData.strOk z=true then some (.s z h)else none
 | .tup ds=>(jB ds).map .t
 |_=>none
def jB:List D->Option (List aL)
 |[]=>some []
 |d::ds=>match eF d,jB ds with
  |some t,some ts=>some (t::ts)
  |_,_=>none
end
mutual
def eY:aL->D
 | .i n=>.int n
 | .s z _=>.str z
 | .t ts=>.tup (gv ts)
def gv:List aL->List D
 |[]=>[]
 |t::ts=>eY t::gv ts
end
mutual
theorem KW:∀{d:D} {t:aL},eF d=some t->d=eY t/\py d=bu t
 | .int n,t,h=>by
  unfold eF at h;cases h
  exact⟨by unfold eY;rfl,by unfold py bu;rfl⟩
 | .str n,t,h=>by
  unfold eF at h;split at h
  ·cases h
   exact⟨by unfold eY;rfl,by unfold py bu;rfl⟩
  ·cases h
 | .tup ds,t,h=>by
  unfold eF at h;cases e:jB ds with
  |none=>rw[e]at h;cases h
  |some ts=>
   rw[e]at h;cases h
   obtain⟨e1,e2⟩:=An e;exact⟨by unfold eY;rw[e1],by unfold py bu;rw[e2]⟩
 | .non,t,h=>by unfold eF at h;cases h
 | .bl _,t,h=>by unfold eF at h;cases h
 | .lst _,t,h=>by unfold eF at h;cases h
 | .dK _,t,h=>by unfold eF at h;cases h
 | .dT _,t,h=>by unfold eF at h;cases h
 | .ins _ _,t,h=>by unfold eF at h;cases h
 | .d9 _,t,h=>by unfold eF at h;cases h
 | .exc _ _,t,h=>by unfold eF at h;cases h
 | .cL _ _,t,h=>by unfold eF at h;cases h
 | .lam _,t,h=>by unfold eF at h;cases h
theorem An:∀{ds:List D} {ts:List aL},jB ds=some ts->ds=gv ts/\eu ds=br ts
 |[],ts,h=>by
  unfold jB at h;cases h
  exact⟨by unfold gv;rfl,by unfold eu br;rfl⟩
 |d::ds,ts,h=>by
  unfold jB at h;cases e1:eF d with
  |none=>rw[e1]at h;cases h
  |some t=>
   cases e2:jB ds with
   |none=>rw[e1,e2]at h;cases h
   |some ag7=>
    rw[e1,e2]at h;cases h
    obtain⟨a1,a2⟩:=KW e1;obtain⟨dG,b2⟩:=An e2;exact⟨by unfold gv;rw[a1,dG],by unfold eu br;rw[a2,b2]⟩
end
end ME
end R
namespace R
open PySem PySem.Spec PyProof.Rows L2
namespace SX
open ME
def sd (a:Str):List Str->List Str
 |[]=>[a]
 |b::r=>if eE b a then b::sd a r else a::b::r
def q8:List Str->List Str
 |[]=>[]
 |a::r=>sd a (q8 r)
theorem Ik (a:Str):∀l,(sd a l).Perm (a::l)
 |[]=>.refl _
 |b::r=>by
  unfold sd;split
  ·exact((Ik a r).cons b).trans (.swap a b r)
  ·exact .refl _
theorem Tv:∀l,(q8 l).Perm l
 |[]=>.refl _
 |a::r=>(Ik a (q8 r)).trans ((Tv r).cons a)
abbrev tM (l:List Str):Prop:=l.Pairwise λx y=>eE y x=false
theorem S8 {x y z:Str}(h1:eE y x=false)(h2:eE z y=false):eE z x=false:=by
 cases e:eE z x with
 |false=>rfl
 |true=>
  exfalso
  cases e1:eE x y with
  |true=>rw[S_ e e1]at h2;cases h2
  |false=>
   cases Dz h1 e1
   rw[e]at h2;cases h2
theorem PF (a:Str):∀{l:List Str},tM l->tM (sd a l)
 |[],_=>by unfold sd tM;simp
 |b::r,h=>by
  obtain⟨h1,h2⟩:=List.pairwise_cons.mp h;unfold sd;split
  ·rename_i hab
   refine List.pairwise_cons.mpr ⟨λc hc=>?_,PF a h2⟩;rcases List.mem_cons.mp ((Ik a r).mem_iff.mp hc)with rfl|hc
   ·exact JZ hab
   ·exact h1 c hc
  ·rename_i hab
   have hab:eE b a=false:=by cases q:eE b a<;>first|rfl|exact absurd q hab
   refine List.pairwise_cons.mpr ⟨λc hc=>?_,h⟩;rcases List.mem_cons.mp hc with rfl|hc
   ·exact hab
   ·exact S8 hab (h1 c hc)
theorem Tw:∀l,tM (q8 l)
 |[]=>.nil
 |a::r=>PF a (Tw r)
theorem Tz:∀{l1 l2:List Str},l1.Perm l2->tM l1->tM l2->l1=l2
 |[],l2,p,_,_=>(List.perm_nil.mp p.symm).symm
 |a::l1,[],p,_,_=>absurd (List.perm_nil.mp p) (by simp)
 |a::l1,b::l2,p,h1,h2=>by
  obtain⟨q1,q2⟩:=List.pairwise_cons.mp h1;obtain⟨q3,lZ⟩:=List.pairwise_cons.mp h2;have e:a=b:=by
   have m1:a∈b::l2:=p.mem_iff.mp List.mem_cons_self;have m2:b∈a::l1:=p.mem_iff.mpr List.mem_cons_self;rcases List.mem_cons.mp m1 with z|z
   ·exact z
   ·rcases List.mem_cons.mp m2 with y|y
    ·exact y.symm
    ·exact Dz (q3 a z) (q1 b y)
  subst e;rw[Tz p.cons_inv q2 lZ]
section
variable{prog:Program}{w:World}{A:Around}{E:Value->Shared->Prop}{s:Shared}
def wO (v u:Value):Bool:=eE (strOf v) (strOf u)
theorem afD:SrtO.Swo wO:=⟨λ_ _ h=>JZ h,λ_ _ _ h1 h2=>S8 h1 h2⟩
theorem afx {vs:List Value}{ns:List Str}(hI:StrsAre vs ns):SrtO.Cmp prog w A s oneType' (λp=>p.1∈vs) (SrtO.lt2 wO):=by
 intro p q hm wj;obtain⟨a,t,e⟩:=hI.all _ hm;obtain⟨b,u,eT⟩:=hI.all _ wj;show wpAny (model prog w) A (keyLt' oneType' p.1 q.1) (λr aF=>aF=s/\r=wO p.1 q.1) (λ_ _=>False) s
 rw[e,eT,keyLt'_oneType];exact oneLt_str ⟨rfl,rfl⟩
theorem afz {a:Addr}{vs:List Value}{ns:List Str}(hI:StrsAre vs ns)(h2:2<=vs.length):SrtO.SortableO prog w A s a vs wO:=by
 intro h' _;refine⟨oneType',λQ E hq=>?_,afx hI⟩
 match vs,hI,h2 with
 |v1::v2::rest,hI,_=>
  rw[keyKind_strs hI];exact wpAny_pure hq
 |[],_,h=>exact absurd h (by decide)
 |[v],_,h=>exact absurd h (by simp)
theorem afy {vs out:List Value}{ns:List Str}(hI:StrsAre vs ns)(hs:SrtO.Srtd wO out)(hb:SrtO.Stb wO out vs):StrsAre out (out.map strOf)/\(out.map strOf).Perm ns/\tM (out.map strOf):=by
 refine⟨strsAre_map out λv hv=>hI.all v (hb.perm.mem_iff.mp hv),?_,?_⟩
 ·have q:=hb.perm.map strOf
  rw[hI.strs]at q;exact q
 ·exact List.pairwise_map.mpr hs
end
theorem vals_strs:∀{ns:List Str} {its:List Value},Vals (ns.map V.str) its->StrsAre its ns
 |[],its,r=>by cases r;exact .nil
 |n::ns,its,r=>by
  cases r with
  |cons r1 cE=>
   obtain⟨t,rfl⟩:=r1;exact .cons n t (vals_strs cE)
theorem TQ:∀{its:List Value} {ns:List Str},StrsAre its ns->Vals (ns.map V.str) its
 |_,_,.nil=>.nil
 |_,_,.cons x t h=>.cons ⟨t,rfl⟩ (TQ h)
def rSortedS (K:Frag):List V->Hp->VK->Prop:=λvs H Q=>∃(a:Addr) (ns:List Str),vs=[V.ref a]/\SqL K H a (ns.map V.str)/\
 ∀(p:Addr),H p=none->Q (.ref p) (upd H p (.lst ((q8 ns).map V.str)))
theorem cr_sortedS {X:Cx}:CallR X (.builtin "sorted") (rSortedS X.K):=by
 intro pins s σ H vs us Q I r h;obtain⟨a,ns,rfl,hs,q⟩:=h;obtain⟨its,bL,hl,hz⟩:=I.list hs;rw[Vals.ref1 r];have hi:=vals_strs bL;refine SrtO.sorted_ord afD hl.isList (by rw[<-bL.length];exact hz) (λh2 qL tQ _ _=>afz hi h2) λout h1 h2=>?_
 obtain⟨k1,k2,k3⟩:=afy hi h1 h2;obtain⟨eZ,HK⟩:=PyProof.Rows.sortedAll_at s.heap its out.toArray;have hlen:((out.map strOf).map V.str).length<=sizeLine:=by
  rw[List.length_map,k2.length_eq];rw[List.length_map]at hz;exact hz
 have ee:=Tz (k2.trans (Tv ns).symm) k3 (Tw ns);refine⟨.ref _,upd H (s.heap.objs.size+1) (.lst ((q8 ns).map V.str)),?_,rfl,q _ (I.hok.fresh (Nat.le_succ _))⟩;rw[<-ee];exact I.laid (t':=s.toks) (λ_ _=>PyProof.Rows.sortedAll_old) (Nat.le_succ _) ⟨hlen,out,eZ,TQ k1,HK⟩
end SX
variable[aI]
def xu (m:Bool)(M:List ak):List af->Option (af×List ak)
 |[s]=>match lU M s with
  |some ds=>match strsOf ds with
   |some ns=>some (eX m M ((SX.q8 ns).map .str))
   |none=>none
  |none=>none
 |_=>none
theorem afk {X:Cx}(uJ:Bool):qp X (rj X (.builtin "sorted")) (pu (xu uJ)):=DV (DS SX.cr_sortedS λss M s ao aa G H vs Q e ms r q=>by
 unfold xu at e;split at e
 ·rename_i t
  split at e
  ·rename_i ds hd
   cases j7:strsOf ds with
   |none=>rw[j7]at e;cases e
   |some ns=>
    rw[j7]at e;have e:eX uJ M ((SX.q8 ns).map .str)=(s,ao):=Option.some.inj e;cases r with
    |cons r cE=>
     cases cE
     obtain⟨p,vs,e2,e3,e4⟩:=o6 ms r (sr hd);have q3:=bA.toRps e4;rw[KO j7]at q3;have lZ:=JY q3;subst lZ;refine⟨p,ns,by rw[e2],SqL.of e3,λl hl=>?_⟩;exact RE (m:=uJ) ms (SY (SX.q8 ns)) (by rw[e];exact q) hl
  ·cases e
 ·cases e)
end R
namespace EA
open PySem PySem.Spec PyProof.Rows L2 R
variable[aI]
section
variable{P:Program}{w:World}{K:Frag}{mg:Str->Option Value}{base:Heap}{x qual:Str}{dg:Stmt}{f:Addr}{fd:FuncData}{N ps:List Str}{k:Nat}
abbrev cX (P:Program)(w:World)(K:Frag)(mg:Str->Option Value)(base:Heap)(N:List Str)(qual:Str)(sc:Scope)(f:Addr)(cdv:Value)(A:Around)(outer:List Env)(s:Shared)(H:Hp)(E:XK):Cx:=cxOf (L2N.CX P w) P w K mg base N qual sc f cdv A outer s H E
end
section
variable{N:List Str}{sc s0:Scope}{X:Cx}
theorem bF.cX {P:Program}{w:World}{K:Frag}{mg:Str->Option Value}{base:Heap}{qual:Str}{f:Addr}{cdv:Value}{A:Around}{outer:List Env}{s:Shared}{H:Hp}{E:XK}:bF N sc s0 (cX P w K mg base N qual sc f cdv A outer s H E):=⟨rfl,rfl,λ_ _=>rfl,rfl⟩
end
end EA
namespace R
open PySem PySem.Spec PyProof.Rows L2
variable[aI]
end R
namespace EA
open PySem PySem.Spec PyProof.Rows L2 R
end EA
namespace R
open PySem PySem.Spec PyProof.Rows L2
variable[aI]
theorem W9 {M:List ak}{x:af}{ds:List D}:fH .NotIn M x (.dat (.tup ds))=(match kh M x with
    |some d=>if plain 58 d&&e_ 58 ds then some (!(eu ds).any λz=>PyData.eqv z (py d))else none
    |none=>none):=by
  cases x with
  |dat d=>cases d<;>rfl
  |mu j=>
    show(match kh M (.mu j),kh M (.dat (.tup ds))with
      |some d,some (.lst ds)=>if plain 58 d&&e_ 58 ds then some (!(eu ds).any λz=>PyData.eqv z (py d))else none
      |some d,some (.tup ds)=>if plain 58 d&&e_ 58 ds then some (!(eu ds).any λz=>PyData.eqv z (py d))else none
      |_,_=>none)=_
    cases kh M (.mu j)<;>rfl
  |un=>rfl
  |_=>first|rfl|(cases kh M _<;>rfl)
theorem NP {K:Frag}{H:Hp}:∀zs:List Str,DpAll K H (zs.map V.str) (eu (zs.map D.str))
 |[]=>by unfold eu;exact .nil
 |z::zs=>by
  rw[List.map_cons,List.map_cons];unfold eu;exact .cons (by unfold py;exact .str z) (NP zs)
theorem afu {X:Cx}{W:WX}{a:Expr}{aJ:CE}{x:Str}{zs:List Str}{p pos:Pos}(hu:X.A.units+65<cLine)(h1:aV X W a aJ)(F:dW X x)(T:EF X.gj x zs)(hm:behindInMarks .NotIn (.Name x p)=false:=by rfl):
    ST X W (.Compare a [.NotIn] [.Name x p] pos) (bZ (ay (cmp .NotIn) aJ λ_=>ok (.dat (.tup (zs.map D.str))))):=⟨λρ M aa G σ H Q ms en h=>by
  obtain⟨t,g1,g2⟩:=T.ex;have h':wp (Ev.bind (aJ ρ) (λx=>Ev.bind (ofM λM=>cmp .NotIn M x (.dat (.tup (zs.map D.str)))) iZ) M) (cV X W vt Q σ aa G H):=by
    refine cz.mpr (wp_mono (λr hr=>?_) (cz.mp (cz.mp h)));cases r with
    |ex c fs M1=>exact hr
    |ok x M1=>exact cz.mpr hr
  refine toT (pt_cmpR sG cS (pe_glob (v:=.ref t) F.gl g1 rfl F.nd) hm) (h1.seq ms en h' λav au M1 H1 v1 s g1 m1 r1 aC=>?_);obtain⟨y,ao,e,q⟩:=iF.mp (cz.mp aC);unfold cmp at e;rw[W9]at e;cases hv:kh M1 s with
  |none=>rw[hv]at e;cases e
  |some d=>
    simp only[hv]at e;split at e
    · rename_i hp
      simp only[Bool.and_eq_true]at hp;cases e
      have qf:SeqAt.shaped (py d)=true:=Ae hp.1 (by decide);have Af:SeqAt.shaped (py (.tup (zs.map D.str)))=true:=Ae (n:=59) (d:=.tup (zs.map D.str)) (by simpa[plain]using hp.2) (by decide);refine⟨_,R6 hu,_,_,m7 m1 r1 hv hp.1,?_,qf,(by unfold py at Af;exact Af),?_⟩
      · exact .tup (g2 _) (NP zs)
      · exact⟨_,rfl,q av au H1 _ (aG.refl _ _ _) m1 rfl⟩
    · cases e⟩
end R
namespace R
open PySem PySem.Spec PyProof.Rows L2
def qx (zs:List Str):Nat:=((List.range zs.length).filter λi=>decide (zs[i]?.getD Str.empty∉zs.take i)).length
variable[aI]
end R
namespace R
open PySem PySem.Spec PyProof.Rows L2
variable[aI]
end R
namespace PySem.W
open PySem PySem.Spec PySem.Calls PyProof.Rows
section
open Builtin Builtin.ObjectAttr
variable{prog:Program}{w:World}{A:Around}{E:Value->Shared->Prop}{R:Result->Shared->Prop}{hp:Heap}{g:Array GenState}{d:Drawn}{t:Nat}{os:OsState}{B:String}{ahA:List Value}
end
end PySem.W
namespace R
open PySem PySem.Spec PyProof.Rows L2
variable[aI]
end R
namespace PySem.HandSPX
open PySem PySem.Spec PySem.Calls PyProof.Rows PySem.W
end PySem.HandSPX
namespace R
open PySem PySem.Spec PyProof.Rows L2
variable[aI]
abbrev UM:Type:=List D->aQ
structure VM (X:Cx)(W:WX)(ag0:List Expr)(f:UM):Prop where
 run:∀ds ρ M aa G σ H vs D,aE X.K aa G M H->bO X.K aa G σ ρ->bJ X.K G vs ds->wp (f ds ρ M) (dY X W D aa G H)->DW X ag0 vs σ H D.nx
end R
namespace rL
open PySem PySem.Spec PyProof.Rows L2
mutual
def sE:NestedKey->Bool
 | .num _=>true
 | .tup ks=>qU ks
 |_=>false
def qU:List NestedKey->Bool
 |[]=>true
 |k::ks=>sE k&&qU ks
end
section
variable{P:Program}{w:World}{A:Around}{E:Value->Shared->Prop}{s:Shared}
def nj (P:Program)(w:World)(s:Shared)(m:Sem Bool)(b:Bool):Prop:=∀(A:Around) (E:Value->Shared->Prop) (Q:Bool->Shared->Prop),Q b s->wpAny (model P w) A m Q E s
theorem nj.of_eq {m:Sem Bool}{b:Bool}(h:m=pure b):nj P w s m b:=λA E Q q=>by rw[h];exact wpAny_pure q
theorem adS {n:Nat}{a:Addr}{o:Obj}{vs:Array Value}{m:Nat}(ho:s.heap.get? a=some o)(hc:o.cls=.type "tuple")(hd:o.data=.seq vs m)
    (hq:∀v∈vs.toList,nj P w s (hashByValue n v) true):nj P w s (hashByValue (n+1) (.ref a)) true:=λA E Q h=>by
  have ty:s.TypeIs (.ref a) "tuple":=⟨o,ho,hc⟩;unfold hashByValue;refine wpAny_bind (wpAny_specialOf ty F.slot_tuple_hash.lookup ?_);show wpAny _ _ (seqItems? (.ref a) >>=_) _ _ s
  refine wpAny_bind (wpAny_seqItems ho hd (wpAny_bind ?_));show wpAny _ _ (forIn vs _ _) _ _ s
  rw[<-Array.forIn_toList];refine wpAny_forIn_list _ (λl r t=>r.1=none/\t=s/\∀v∈l,nj P w s (hashByValue n v) true) _ (λv l r t hr=>?_) (λr t hr=>?_) _ _ ⟨rfl,rfl,hq⟩
  · obtain⟨q1,q2,q3⟩:=hr
    subst q2;refine wpAny_bind (q3 v List.mem_cons_self _ _ _ ?_);simp only[Bool.not_true,Bool.false_eq_true,if_false];exact wpAny_pure ⟨rfl,rfl,λu hu=>q3 u (List.mem_cons_of_mem _ hu)⟩
  · obtain⟨r1,r2⟩:=r
    obtain⟨q1,q2,_⟩:=hr;simp only at q1;subst q1 q2;exact wpAny_pure h
theorem adR {n:Nat}{a:Addr}{o:Obj}{vs:Array Value}{m:Nat}(ho:s.heap.get? a=some o)(hc:o.cls=.type "tuple")(hd:o.data=.seq vs m)
    (hq:∀v∈vs.toList,nj P w s (ofAClassStatement n v) false):nj P w s (ofAClassStatement (n+1) (.ref a)) false:=λA E Q h=>by
  have ty:s.TypeIs (.ref a) "tuple":=⟨o,ho,hc⟩;unfold ofAClassStatement;refine wpAny_bind (wpAny_typeOf ty ?_)
  dsimp only
  have e:(("tuple":String)=="tuple")=true:=by decide
  simp only[e,if_true,Bool.not_true,Bool.false_eq_true,if_false]
  try refine wpAny_bind (wpAny_pure ?_)
  try simp only[Bool.not_true,Bool.false_eq_true,if_false]
  show wpAny _ _ (seqItems? (.ref a) >>=_) _ _ s
  refine wpAny_bind (wpAny_seqItems ho hd ?_)
  dsimp only
  refine wpAny_bind ?_;show wpAny _ _ (forIn vs _ _) _ _ s
  rw[<-Array.forIn_toList];refine wpAny_forIn_list _ (λl r t=>r.1=none/\t=s/\∀v∈l,nj P w s (ofAClassStatement n v) false) _ (λv l r t hr=>?_) (λr t hr=>?_) _ _ ⟨rfl,rfl,hq⟩
  · obtain⟨q1,q2,q3⟩:=hr
    subst q2;refine wpAny_bind (q3 v List.mem_cons_self _ _ _ ?_);simp only[Bool.false_eq_true,if_false];exact wpAny_pure ⟨rfl,rfl,λu hu=>q3 u (List.mem_cons_of_mem _ hu)⟩
  · obtain⟨r1,r2⟩:=r
    obtain⟨q1,q2,_⟩:=hr;simp only at q1;subst q1 q2;exact wpAny_pure h
mutual
theorem YT:∀(k:NestedKey) (v:Value) (n:Nat) (s:Shared),NestedIs s.heap k v->k.depth<=n->sE k=true->nj P w s (hashByValue n v) true
 | .none,_,_,_,_,_,h=>by cases h
 | .text _,_,_,_,_,_,h=>by cases h
 | .num i,_,n,s,x,_,_=>by cases x<;>exact .of_eq (by cases n<;>rfl)
 | .tup ks,_,n,s,x,hn,h=>by
  cases x with
  |tup h1 h2 h3 h4=>
   simp only[NestedKey.depth]at hn;cases n with
   |zero=>omega
   |succ n=>exact adS h1 h2 h3 (OY ks _ n s h4 (by omega) h)
theorem OY:∀(ks:List NestedKey) (vs:List Value) (n:Nat) (s:Shared),NestedAll s.heap ks vs->NestedKey.depthAll ks<=n->qU ks=true->∀v∈vs,nj P w s (hashByValue n v) true
 |[],_,n,s,x,_,_,v,hv=>by cases x;cases hv
 |k::ks,_,n,s,x,hn,h,v,hv=>by
  cases x with
  |cons Az iU=>
   simp only[NestedKey.depthAll]at hn;unfold qU at h;rw[Bool.and_eq_true]at h;rcases List.mem_cons.mp hv with e|hv
   ·rw[e];exact YT k _ n s Az (by omega) h.1
   ·exact OY ks _ n s iU (by omega) h.2 v hv
end
mutual
theorem W6:∀(k:NestedKey) (v:Value) (n:Nat) (s:Shared),NestedIs s.heap k v->k.depth<=n->nj P w s (ofAClassStatement n v) false
 | .none,_,n,s,x,_=>by cases x;exact .of_eq (by cases n<;>rfl)
 | .text _,_,n,s,x,_=>by cases x;exact .of_eq (by cases n<;>rfl)
 | .num i,_,n,s,x,_=>by cases x<;>exact .of_eq (by cases n<;>rfl)
 | .tup ks,_,n,s,x,hn=>by
  cases x with
  |tup h1 h2 h3 h4=>
   simp only[NestedKey.depth]at hn;cases n with
   |zero=>omega
   |succ n=>exact adR h1 h2 h3 (Np ks _ n s h4 (by omega))
theorem Np:∀(ks:List NestedKey) (vs:List Value) (n:Nat) (s:Shared),NestedAll s.heap ks vs->NestedKey.depthAll ks<=n->∀v∈vs,nj P w s (ofAClassStatement n v) false
 |[],_,n,s,x,_,v,hv=>by cases x;cases hv
 |k::ks,_,n,s,x,hn,v,hv=>by
  cases x with
  |cons Az iU=>
   simp only[NestedKey.depthAll]at hn;rcases List.mem_cons.mp hv with e|hv
   ·rw[e];exact W6 k _ n s Az (by omega)
   ·exact Np ks _ n s iU (by omega) v hv
end
structure n6 (h:Heap)(k:NestedKey)(b:Addr):Prop where
 is:NestedIs h k (.ref b)
 dp:k.depth<=8
 num:sE k=true
theorem n6.kind {h:Heap}{k:NestedKey}{b:Addr}(x:n6 h k b):(nestedKind P w).is h k b:=⟨x.is,x.dp⟩
theorem n6.inj {h:Heap}{k dJ:NestedKey}{b:Addr}(x:n6 h k b)(y:n6 h dJ b):k=dJ:=NestedIs.inj _ _ _ x.is y.is
theorem n6.stay {h h':Heap}{k:NestedKey}{b:Addr}(x:n6 h k b)(q:∀c o vs n,h.get? c=some o->o.data=.seq vs n->h'.get? c=some o):n6 h' k b:=⟨NestedIs.at q _ _ x.is,x.dp,x.num⟩
theorem n6.keep {h h':Heap}{k:NestedKey}{b:Addr}(x:n6 h k b)(q:∀c o,h.get? c=some o->h'.get? c=some o):n6 h' k b:=x.stay λc o _ _ e _=>q c o e
abbrev vm:Type:=Addr×NestedKey
def lines (w:World)(L:List vm):List (Int×Value):=L.map λp=>(p.2.hash w,Value.ref p.1)
theorem abm (L:List vm):(lines w L).length=L.length:=by unfold lines;rw[List.length_map]
structure Tab (w:World)(h:Heap)(a:Addr)(L:List vm)(es:Array (Int×Value))(eZ:Nat)(t:SetTable):Prop where
 ob:∃o,h.get? a=some o/\o.ExactSet/\o.data=.set es eZ t
 rows:es.toList=lines w L
 tab:TabOk t (L.map λp=>p.2.hash w)
 nd:(L.map (·.2)).Nodup
 plain:t.plain=true
 led:w.params.followText "set-order"=true\/t.led=true
 room:L.length*5<t.mask*3
 few:L.length<64
variable{a:Addr}{L:List vm}{es:Array (Int×Value)}{eZ:Nat}{t:SetTable}
theorem af5 (h:es.toList=lines w L):es.size=L.length:=by rw[<-abm (w:=w) L,<-h,Array.length_toList]
theorem Tab.size (R:Tab w s.heap a L es eZ t):es.size=L.length:=af5 R.rows
theorem fits_of (h1:t.place.size=es.size)(h2:t.dummies=#[])(h3:es.size<=t.mask):t.fits es.size=true:=by
 unfold SetTable.fits SetTable.fill;rw[h2,Bool.and_eq_true,beq_iff_eq,decide_eq_true_eq];show t.place.size=es.size/\t.place.size+0<=t.mask
 omega
theorem Tab.places (R:Tab w s.heap a L es eZ t):t.place.size=L.length:=by rw[R.tab.sz,List.length_map]
theorem Tab.fits (R:Tab w s.heap a L es eZ t):t.fits es.size=true:=by
 have q1:=R.places;have q2:=R.size;have q3:=R.room;exact fits_of (by omega) R.tab.dm (by omega)
theorem Tab.line (R:Tab w s.heap a L es eZ t){i:Nat}{p:vm}(h:L[i]?=some p):es[i]?=some (p.2.hash w,Value.ref p.1):=by
 have q:es.toList[i]?=some (p.2.hash w,Value.ref p.1):=by rw[R.rows];unfold lines;rw[List.getElem?_map,h];rfl
 rw[<-Array.getElem?_toList];exact q
end
end rL
namespace R
open PySem PySem.Spec PyProof.Rows L2 rL
variable[aI]
mutual
def ig:aL->NestedKey
 | .i n=>.num n
 | .t ts=>.tup (jc ts)
def jc:List aL->List NestedKey
 |[]=>[]
 |t::ts=>ig t::jc ts
end
mutual
theorem acd:∀{x y:aL},ig x=ig y->x=y
 | .i a,.i b,h=>by unfold ig at h;cases h;rfl
 | .i _,.t _,h=>by unfold ig at h;cases h
 | .t _,.i _,h=>by unfold ig at h;cases h
 | .t xs,.t aA,h=>by unfold ig at h;injection h with h;rw[RO h]
theorem RO:∀{xs aA:List aL},jc xs=jc aA->xs=aA
 |[],[],_=>rfl
 |[],_::_,h=>by unfold jc at h;cases h
 |_::_,[],h=>by unfold jc at h;cases h
 |x::xs,y::aA,h=>by
  unfold jc at h
  injection h with h1 h2
  rw[acd h1,RO h2]
end
mutual
theorem ace:∀t:aL,sE (ig t)=true
 | .i _=>by unfold ig sE;rfl
 | .t ts=>by unfold ig sE;exact RP ts
theorem RP:∀ts:List aL,qU (jc ts)=true
 |[]=>by unfold jc qU;rfl
 |t::ts=>by unfold jc qU;rw[ace t,RP ts];rfl
end
abbrev afX (t:aL):Nat:=(ig t).depth
section
variable{X:Cx}{pins:List (Addr×Obj)}{σ:L2.St}{G H:Hp}{s:Shared}
mutual
theorem ac5 (le:dM G H)(I:Inv X pins σ H s):∀(t:aL) {v:V} {u:Value},bK X.K G v (eY t)->RelV v u->NestedIs s.heap (ig t) u
 | .i n,v,u,r,q=>by
  unfold eY at r;cases r
  obtain⟨t,rfl⟩:=q;unfold ig;exact .int n t
 | .t ts,v,u,r,q=>by
  unfold eY at r;cases r with
  |tup hg cE=>
   obtain⟨its,bL,ht,_⟩:=I.tuple (le.t (.inl (.inl hg)));obtain rfl:u=Value.ref _:=q;obtain⟨o,h1,h2,n,h3⟩:=ht;unfold ig;exact .tup h1 h2 h3 (by simpa using RC le I ts cE bL)
theorem RC (le:dM G H)(I:Inv X pins σ H s):∀(ts:List aL) {vs:List V} {us:List Value},bJ X.K G vs (gv ts)->Vals vs us->NestedAll s.heap (jc ts) us
 |[],_,_,r,q=>by
  unfold gv at r;cases r
  cases q
  unfold jc;exact .nil
 |t::ts,_,_,r,q=>by
  unfold gv at r;cases r with
  |cons r cE=>
   cases q with
   |cons q Dj=>
    unfold jc;exact .cons (ac5 le I t r q) (RC le I ts cE Dj)
end
structure tO (K:Frag)(G:Hp)(b:Addr)(t:aL):Prop where
 SN:bK K G (.ref b) (eY t)
 dp:afX t<=8
theorem tO.mono {K:Frag}{G ai:Hp}{b:Addr}{t:aL}(e:b6 G ai)(x:tO K G b t):tO K ai b t:=⟨bK.mono e x.SN,x.dp⟩
abbrev mD:Type:=Addr×aL
def w9 (L:List mD):List vm:=L.map λp=>(p.1,ig p.2)
theorem SM (L:List mD):(w9 L).map (·.2)=(L.map (·.2)).map ig:=by unfold w9;rw[List.map_map,List.map_map];rfl
def MF (w:World)(a:Addr)(L:List mD):HO:=.ext λh=>∃es eZ t,Tab w h a (w9 L) es eZ t
end
end R
namespace R
open PySem PySem.Spec PyProof.Rows L2 rL
variable[aI]
end R
namespace R
open PySem PySem.Spec PyProof.Rows L2 rL
variable[aI]
theorem perm_lift {α β:Type}(f:α->β){A B:List β}(p:A.Perm B):∀{M:List α},B=M.map f->∃M2:List α,A=M2.map f/\M2.Perm M:=by
 induction p with
 |nil=>intro M e;exact⟨M,e,.refl _⟩
 |cons z p ih=>
  intro M e;cases M with
  |nil=>cases e
  |cons m M=>
   rw[List.map_cons]at e
   injection e with e1 e2
   obtain⟨M2,f1,f2⟩:=ih e2;exact⟨m::M2,by rw[List.map_cons,<-f1,e1],f2.cons m⟩
 |swap y z l=>
  intro M e
  match M,e with
  |[],e=>cases e
  |[_],e=>cases e
  |m::n::M,e=>
   rw[List.map_cons,List.map_cons]at e
   injection e with e1 e2
   injection e2 with e2 e3
   exact⟨n::m::M,by rw[List.map_cons,List.map_cons,e1,e2,e3],.swap m n M⟩
 |trans p q Z7 Z8=>
  intro M e;obtain⟨M2,f1,f2⟩:=Z8 e;obtain⟨bB,g1,g2⟩:=Z7 f1;exact⟨bB,g1,g2.trans f2⟩
mutual
theorem JM:∀t:aL,py (eY t)=bu t
 | .i n=>by unfold eY py bu;rfl
 | .t ts=>by unfold eY py bu;rw[Su ts]
theorem Su:∀ts:List aL,eu (gv ts)=br ts
 |[]=>by unfold gv eu br;rfl
 |t::ts=>by unfold gv eu br;rw[JM t,Su ts]
end
section
variable{X:Cx}{pins:List (Addr×Obj)}{σ:L2.St}{G H:Hp}{s:Shared}
theorem tO.reads {b:Addr}{t:aL}(le:dM G H)(I:Inv X pins σ H s)(x:tO X.K G b t)(pl:plain 57 (eY t)=true):jX s.heap (.ref b) t:=by
 have d:=JF le 57 _ _ pl x.SN;rw[JM]at d;exact Dp.reads I _ _ _ d rfl
theorem acW {t:aL}(pl:plain 57 (eY t)=true):yH t:=by
 have q:=(JG 57 _ pl).2;rw[JM]at q;unfold yH;omega
def rSortedS (w:World)(K:Frag):List V->Hp->VK->Prop:=λvs H Q=>∃(a:Addr) (L:List mD),vs=[V.ref a]/\H a=some (MF w a L)/\(∃G,dM G H/\∀p∈L,tO K G p.1 p.2)/\(∀p∈L,plain 57 (eY p.2)=true)/\
 (2<=L.length->(L.map (·.2)).Nodup->(∀p∈L,∀q∈L,i8 p.2 q.2=true)/\((∀p∈L,oK p.2=true)\/(∀p∈L,v9 p.2=true)))/\
 ∀(gB:List mD) p,gB.Perm L->(gB.map (·.2)).Nodup->MC (gB.map (·.2))->H p=none->Q (.ref p) (upd H p (.lst (gB.map λq=>V.ref q.1)))
theorem cr_sortedS (hc:X.calm=true)(hu:X.A.units+65<cLine):CallR X (.builtin "sorted") (rSortedS X.w X.K):=by
  intro pins s σ H vs us Q I r h;obtain⟨a,L,rfl,at_,⟨G,le,hL⟩,hp,hg,q⟩:=h;obtain⟨es,eZ,t,R⟩:=(I.hok a _ at_).1;have⟨o,ho,ex,hd⟩:=R.ob;have ak1:=R.size;have zO:(w9 L).length=L.length:=by unfold w9;rw[List.length_map]
  have few:=R.few;rw[Vals.ref1 r];refine Calls.call_function_entry kind_sorted plain_sorted entry_sorted (args_sorted1 _) ?_;unfold Builtin.«sorted»;refine wpAny_bind (m:=checkCount "sorted" 1 1 _) (wpAny_pure ?_);refine wpAny_bind (collect_set (A:=X.A.in1) (by simp[I.ok.hd hc]) ⟨o,ho,ex.1,hd⟩ R.fits (by unfold scanBound;omega) R.tab.ris R.led λs1 its k1 hz g1 o1 pm=>?_);have rows:es.toList.map (·.2)=L.map λp=>Value.ref p.1:=by
    rw[R.rows];unfold lines w9;rw[List.map_map,List.map_map];rfl
  rw[rows]at pm;have ak2:its.length=L.length:=by rw[pm.length_eq,List.length_map]
  have refs:∀v∈its,∃p∈L,v=Value.ref p.1:=λv hv=>by
    obtain⟨p,h1,h2⟩:=List.mem_map.mp (pm.mem_iff.mp hv);exact⟨p,h1,h2.symm⟩
  refine wpAny_bind (wpAny_newList ?_ (by rw[sizeLine_eq];omega));have Cz:(s1.heap.push (seqObj "list" its.toArray 0)).get? s1.heap.objs.size=some (seqObj "list" its.toArray 0):=Heap.get?_push_size _ rfl;have rd:∀p∈L,jX (s1.heap.push (seqObj "list" its.toArray 0)) (.ref p.1) p.2:=λp h=>((hL p h).reads le I (hp p h)).keep λb u e _=>Heap.get?_push_of_some _ (k1 b u e)
  obtain⟨k,kk⟩:∃k:Value->aL,∀p∈L,k (.ref p.1)=p.2:=by
    classical
    refine⟨λv=>if h:∃t,jX (s1.heap.push (seqObj "list" its.toArray 0)) v t then h.choose else .i 0,λp h=>?_⟩;have hh:∃t,jX (s1.heap.push (seqObj "list" its.toArray 0)) (.ref p.1) t:=⟨_,rd p h⟩;show(if h:∃t,jX (s1.heap.push (seqObj "list" its.toArray 0)) (.ref p.1) t then h.choose else .i 0)=_
    rw[dif_pos hh];obtain⟨a1,r1⟩:=hh.choose_spec;obtain⟨a2,r2⟩:=rd p h;exact Dr _ _ _ _ _ r1 r2
  have uB:∀v∈its,∃p∈L,v=Value.ref p.1/\k v=p.2:=λv hv=>by
    obtain⟨p,h1,h2⟩:=refs v hv;exact⟨p,h1,h2,by rw[h2];exact kk p h1⟩
  refine wpAny_bind (wpAny_holding (wpAny_call_entry slot_list_sort ⟨_,Cz,rfl⟩ entry_list_sort (SrtO.list_sort_ord (s:={s1 with heap:=s1.heap.push (seqObj "list" its.toArray 0)}) (afE k) Cz (by rw[sizeLine_eq];omega) (λh2=>?_) λout h1 h2=>⟨_,rfl,?_⟩) (args_list_sort _)))
  · obtain⟨c1,c2⟩:=hg (by omega) (by
      have z:=R.nd;rw[SM]at z;exact nodup_of_map z)
    refine ag4 (s:={s1 with heap:=s1.heap.push (seqObj "list" its.toArray 0)}) (by omega) (λv hv=>?_) (λv hv=>?_) (λv hv=>?_) (λv hv u hu=>?_) ?_ (by simp;omega) λo e=>?_
    · obtain⟨p,e1,e2,e3⟩:=uB v hv
      rw[e3,e2];exact rd p e1
    · obtain⟨p,_,e2,_⟩:=uB v hv
      exact⟨_,e2⟩
    · obtain⟨p,e1,_,e3⟩:=uB v hv
      rw[e3];exact acW (hp p e1)
    · obtain⟨p,e1,_,e3⟩:=uB v hv
      obtain⟨iS,f1,_,oJ⟩:=uB u hu;rw[e3,oJ];exact c1 p e1 iS f1
    · rcases c2 with c2|c2
      · exact .inl λv hv=>by obtain⟨p,e1,_,e3⟩:=uB v hv;rw[e3];exact c2 p e1
      · exact .inr λv hv=>by obtain⟨p,e1,_,e3⟩:=uB v hv;rw[e3];exact c2 p e1
    · have eT:some o=some (seqObj "list" its.toArray 0):=e.symm.trans Cz
      cases eT
      intro c;exact absurd (Value.type.inj c) (by decide)
  · obtain⟨gB,e1,e2⟩:=perm_lift (λp:mD=>Value.ref p.1) (h2.perm.trans pm) (M:=L) rfl
    obtain⟨c,uq⟩:=sortedHeap_at (vs:=its) (out:=out.toArray) Cz;have ac2:(gB.map (·.2)).Nodup:=by
      refine(e2.map (·.2)).nodup_iff.mpr ?_;have z:=R.nd;rw[SM]at z;exact nodup_of_map z
    have st:MC (gB.map (·.2)):=by
      have z:SrtO.Srtd fD (out.map k):=SrtO.srtd_map (lt:=fD) h1;have e:out.map k=gB.map (·.2):=by
        rw[e1,List.map_map];exact List.map_congr_left λp oU=>kk p (e2.mem_iff.mp oU)
      rw[e]at z;exact z
    have keep:∀b u,s.heap.get? b=some u->(sortedHeap (s1.heap.push (seqObj "list" its.toArray 0)) s1.heap.objs.size its out.toArray).get? b=some u:=λb u e=>by
      have z:=k1 b u e;have lt:=Heap.lt_size z;rw[sortedHeap_old (Nat.ne_of_lt lt) (by rw[size_push'];exact Nat.lt_succ_of_lt lt)];exact Heap.get?_push_of_some _ z
    have hn:H s1.heap.objs.size=none:=I.hok.fresh hz;have len:(gB.map λq=>V.ref q.1).length<=sizeLine:=by rw[List.length_map,e2.length_eq,sizeLine_eq];omega
    have hv:∀M:List mD,Vals (M.map λq=>V.ref q.1) (M.map λq=>Value.ref q.1):=λM=>by
      induction M with
      |nil=>exact .nil
      |cons m M ih=>exact .cons rfl ih
    refine wpAny_pure ⟨_,rfl,.ref s1.heap.objs.size,upd H s1.heap.objs.size (.lst (gB.map λq=>V.ref q.1)),?_,rfl,q gB _ e2 ac2 st hn⟩;have J:Inv X pins σ (upd H s1.heap.objs.size (.lst (gB.map λq=>V.ref q.1))) {s with heap:=sortedHeap (s1.heap.push (seqObj "list" its.toArray 0)) s1.heap.objs.size its out.toArray,gens:=s1.gens,drawn:=s1.drawn,toks:=s1.toks}:=I.call (ch:=[]) (Un.laid keep hz hn) (I.hok.laid keep hz ⟨len,out,c,by rw[e1];exact hv gB,uq⟩) (by rw[g1];exact I.bare) (λ_ z=>nomatch z);have e:({s1 with heap:=sortedHeap (s1.heap.push (seqObj "list" its.toArray 0)) s1.heap.objs.size its out.toArray}:Shared)={s with heap:=sortedHeap (s1.heap.push (seqObj "list" its.toArray 0)) s1.heap.objs.size its out.toArray,gens:=s1.gens,drawn:=s1.drawn,toks:=s1.toks}:=by
      cases s1
      cases s
      cases o1
      rfl
    show Inv _ _ _ _ ({s1 with heap:=sortedHeap (s1.heap.push (seqObj "list" its.toArray 0)) s1.heap.objs.size its out.toArray}:Shared)
    rw[e];exact J
end
end R
namespace R
open PySem PySem.Spec PyProof.Rows L2 rL
def pT:List aL->List aL
 |[]=>[]
 |t::ts=>if ts.any (λu=>aP t u==.eq)then pT ts else t::pT ts
theorem V7 {t:aL}{ts:List aL}:ts.any (λu=>aP t u==.eq)=true↔t∈ts:=by
 rw[List.any_eq_true];constructor
 ·rintro⟨u,h1,h2⟩
  have e:t=u:=qv (by simpa using h2);rw[e];exact h1
 ·exactλh=>⟨t,h,by rw[Bw];rfl⟩
theorem I7 {u:aL}:∀{ts:List aL},u∈pT ts↔u∈ts
 |[]=>Iff.rfl
 |t::ts=>by
  unfold pT;have ih:=I7 (u:=u) (ts:=ts);split
  ·rename_i h
   rw[ih,List.mem_cons];exact⟨.inr,λz=>z.elim (λe=>e▸V7.mp h) id⟩
  ·rw[List.mem_cons,List.mem_cons,ih]
variable[aI]
mutual
theorem ag2:∀t:aL,eF (eY t)=some t
 | .i n=>by unfold eY eF;rfl
 | .t ts=>by unfold eY eF;rw[T4 ts];rfl
theorem T4:∀ts:List aL,jB (gv ts)=some ts
 |[]=>by unfold gv jB;rfl
 |t::ts=>by unfold gv jB;rw[ag2 t,T4 ts]
end
structure D5 (w:World)(K:Frag)(aW:Addr)(av:List Addr)(au H1:Hp)(acc:List D)(aj:List Addr)(ai:Hp)(ao:List ak)(H':Hp):Prop where
 f9:aG av au H1 aj ai H'
 out:aW∉aj
 nG:ai aW=none
 ms:aE K aj ai ao H'
 at_:∃L:List mD,H' aW=some (MF w aW L)/\(∀p∈L,tO K ai p.1 p.2/\plain 57 (eY p.2)=true)/\(∀t,t∈L.map (·.2)↔eY t∈acc)/\(∀d∈acc,∃t,d=eY t)/\L.length<=acc.length
section
variable{w:World}{K:Frag}{aW:Addr}{av aj aM:List Addr}{au H1 ai H' aU aO:Hp}{acc:List D}{ao M2:List ak}
theorem D5.grow (a:D5 w K aW av au H1 acc aj ai ao H')(g:aG aj ai H' aM aU aO)(m:aE K aM aU M2 aO):D5 w K aW av au H1 acc aM aU M2 aO:=by
 obtain⟨L,h1,h2,h3⟩:=a.at_;obtain⟨n2,yT,cO⟩:=Ce g a.out a.nG h1;exact⟨a.f9.trans g,n2,yT,m,L,cO,λp hp=>⟨(h2 p hp).1.mono g.ex,(h2 p hp).2⟩,h3⟩
end
end R
namespace R
open PySem PySem.Spec PyProof.Rows L2
variable[aI]
end R
namespace R
open PySem PySem.Spec PyProof.Rows L2 rL
variable[aI]
structure ya (ks:List mD)(i:Nat)(L:List mD):Prop where
 sub:∀p∈L,p∈ks.take i
 all:∀p∈ks.take i,p.2∈L.map (·.2)
 len:L.length<=i
theorem ya.zero (ks:List mD):ya ks 0 []:=⟨λ_ h=>(by cases h),λ_ h=>(by simp at h),Nat.le_refl _⟩
theorem ya.next {ks L gB:List mD}{i:Nat}{x:mD}(g:ya ks i L)(h:ks[i]?=some x)(c1:x.2∈L.map (·.2)->gB=L)(c2:x.2∉L.map (·.2)->gB.Perm (x::L)):ya ks (i+1) gB:=by
 have tn:ks.take (i+1)=ks.take i++[x]:=by rw[List.take_add_one,h];rfl
 by_cases m:x.2∈L.map (·.2)
 ·rw[c1 m]
  refine⟨λp hp=>by rw[tn];exact List.mem_append_left _ (g.sub p hp),λp hp=>?_,Nat.le_succ_of_le g.len⟩;rw[tn]at hp;rcases List.mem_append.mp hp with z|z
  ·exact g.all p z
  ·rw[List.mem_singleton.mp z];exact m
 ·have pm:=c2 m
  refine⟨λp hp=>?_,λp hp=>?_,by rw[pm.length_eq];exact Nat.succ_le_succ g.len⟩
  ·rw[tn]
   rcases List.mem_cons.mp (pm.mem_iff.mp hp)with e|z
   ·rw[e];exact List.mem_append_right _ List.mem_cons_self
   ·exact List.mem_append_left _ (g.sub p z)
  ·rw[(pm.map (·.2)).mem_iff,List.map_cons]
   rw[tn]at hp;rcases List.mem_append.mp hp with z|z
   ·exact List.mem_cons_of_mem _ (g.all p z)
   ·rw[List.mem_singleton.mp z];exact List.mem_cons_self
end R
namespace R
open PySem PySem.Spec PyProof.Rows L2
variable[aI]
end R
namespace R
open PySem PySem.Spec PyProof.Rows L2 rL
variable[aI]
mutual
theorem YS (w xM:World):∀k:NestedKey,sE k=true->k.hash w=k.hash xM
 | .none,h=>by cases h
 | .text _,h=>by cases h
 | .num i,_=>rfl
 | .tup ks,h=>by
  unfold sE at h;unfold NestedKey.hash;rw[OZ w xM ks h]
theorem OZ (w xM:World):∀ks:List NestedKey,qU ks=true->NestedKey.hashes w ks=NestedKey.hashes xM ks
 |[],_=>rfl
 |k::ks,h=>by
  unfold qU at h;rw[Bool.and_eq_true]at h;unfold NestedKey.hashes;rw[YS w xM k h.1,OZ w xM ks h.2]
end
mutual
theorem ac9:∀(t:aL) {k:NestedKey},vo (eY t) k->k=ig t
 | .i n,k,h=>by
  unfold eY at h;cases h
  unfold ig;rfl
 | .t ts,k,h=>by
  unfold eY at h;cases h with
  |t h=>
   unfold ig;rw[RN ts h]
theorem RN:∀(ts:List aL) {ks:List NestedKey},vp (gv ts) ks->ks=jc ts
 |[],ks,h=>by
  unfold gv at h;cases h
  unfold jc;rfl
 |t::ts,ks,h=>by
  unfold gv at h;cases h with
  |cons h1 h2=>
   unfold jc;rw[ac9 t h1,RN ts h2]
end
mutual
theorem ac8:∀t:aL,vo (eY t) (ig t)
 | .i n=>by unfold eY ig;exact .i n
 | .t ts=>by unfold eY ig;exact .t (RM ts)
theorem RM:∀ts:List aL,vp (gv ts) (jc ts)
 |[]=>by unfold gv jc;exact .nil
 |t::ts=>by unfold gv jc;exact .cons (ac8 t) (RM ts)
end
end R
namespace R
open PySem PySem.Spec PyProof.Rows L2
structure eG where
 ad:List Addr
 ok:List (Addr×Obj)->Prop
def iH (aH:eG)(cp:List (Addr×Obj)):Prop:=cp.map Prod.fst=aH.ad/\aH.ok cp
def jd:eG:=⟨[],λ_=>True⟩
abbrev Cons:=V->Hp->(Hp->Prop)->Prop
def Ef (X:Cx)(aH:eG)(cons:Cons):Protocol:=λ_ _ v s CJ=>
 ∃(x:V) (cp ip:List (Addr×Obj)) (σ:L2.St) (H:Hp) (Q:Hp->Prop),iH aH cp/\(∀p∈ip,p.1∉aH.ad)/\RelV x v/\Inv X (cp++ip) σ H s/\cons x H Q/\
  ∀(aF:Shared) (H':Hp) (eO:List (Addr×Obj)),iH aH eO->Q H'->Inv X (eO++ip) σ H' aF->CJ (.send .none) aF
structure GE where
 nx:Nat->L2.St->Hp->Prop
 rt:Nat->VK
 bk:Nat->L2.St->Hp->Prop:=λ_ _ _=>False
 ct:Nat->L2.St->Hp->Prop:=λ_ _ _=>False
abbrev EB:=GE->Nat->L2.St->Hp->Prop
def GE.at (D:GE)(k:Nat):Ends:={nx:=D.nx k,rt:=D.rt k,bk:=D.bk k,ct:=D.ct k}
def UU (X:Cx)(aH:eG)(ip:List (Addr×Obj))(D:GE)(k:Nat)(f:Flow)(s:Shared):Prop:=
 ∃cp:List (Addr×Obj),iH aH cp/\SP X (cp++ip) (D.at k) f s
structure tu (X:Cx)(A:Around)(c:Code)(fs:List Frame)(gd:Bool->Bool):Prop where
 over:A.over c fs=X.A
 split:splitAtGen fs=none
 guard:fs.any Frame.guarded=false
 gd:gd false=false
structure UT (X:Cx)(aH:eG)(cons:Cons)(N:Nat)(ip:List (Addr×Obj))(A:Around)(Re:GenEnd)(c:Code)(fs:List Frame)(K:Flow->Sem PySem.Fin)(J:Value->Sem PySem.Fin)(D:GE):Prop where
 ok:∀(n k:Nat) (dh s:Shared) (f:Flow),n+k=N->UU X aH ip D k f s->Seg (model X.prog X.w) A Re (Ef X aH cons) n dh c (K f) fs s
 exc:∀(n:Nat) (dh:Shared) (e:Value) (s:Shared),X.xe e s->Seg (model X.prog X.w) A Re (Ef X aH cons) n dh c (J e) fs s
def agr (X:Cx)(aH:eG)(cons:Cons)(N:Nat)(st:List Stmt):EB:=λD k σ H=>
 ∀(A:Around) (ip cp:List (Addr×Obj)) (Re:GenEnd) (n:Nat) (dh:Shared) (c:Code) (fs:List Frame) (K:Flow->Sem PySem.Fin) (J:Value->Sem PySem.Fin) (gd:Bool->Bool) (lv:List Value->List Value) (s:Shared),
  tu X A c fs gd->n+k=N->iH aH cp->(∀p∈ip,p.1∉aH.ad)->UT X aH cons N ip A Re c fs K J D->Inv X (cp++ip) σ H s->Seg (model X.prog X.w) A Re (Ef X aH cons) n dh c ((execs st X.env).wrap K J gd lv) fs s
section
variable{X:Cx}{aH:eG}{cons:Cons}{N:Nat}{st:Stmt}{rest:List Stmt}{D:GE}{k:Nat}{σ:L2.St}{H:Hp}
theorem OE {A:Around}{c c':Code}{fs:List Frame}{gd:Bool->Bool}{kk:Result->Sem PySem.Fin}{l kp:List Value}{p:Pos}(g:tu X A c fs gd)(hw:c'.weight=0)(hu:c'.cUnits=0):
    tu X A c' (.ret kk none (gd false) l c p kp::fs) id where
  over:=(GenW.over_loop hw hu).trans g.over
  split:=by
    show(splitAtGen fs).map _=none
    rw[g.split];rfl
  guard:=by
    show(gd false||fs.any Frame.guarded)=false
    rw[g.gd,g.guard];rfl
  gd:=rfl
end
section
variable{X:Cx}{aH:eG}{cons:Cons}{N:Nat}{D:GE}{k:Nat}{σ:L2.St}{H:Hp}
theorem Yd {cp eO ip:List (Addr×Obj)}{H:Hp}{b:Addr}(h:iH aH cp)(h':iH aH eO)(f:FpOk X (cp++ip) H b):FpOk X (eO++ip) H b:=by
 obtain⟨f0,f1,f2,oJ,f4,pU⟩:=f;refine⟨f0,f1,f2,oJ,f4,λp hp=>?_⟩;rcases List.mem_append.mp hp with z|z
 ·exact pU p (List.mem_append_left _ z)
 rcases List.mem_append.mp z with z|z
 ·have hm:p.1∈cp.map Prod.fst:=by rw[h.1,<-h'.1];exact List.mem_map.mpr ⟨p,z,rfl⟩
  obtain⟨q,hq,e⟩:=List.mem_map.mp hm;rw[<-e];exact pU q (List.mem_append_right _ (List.mem_append_left _ hq))
 ·exact pU p (List.mem_append_right _ (List.mem_append_right _ z))
end
end R
namespace R
open PySem PySem.Spec PyProof.Rows L2 GenW
structure ve (P:Program)(w:World)(K:Frag)(mg:Str->Option Value)(base:Heap)(N:List Str)(qual:Str)(scope:Scope)(f:Addr)(cd:Value)(body:List Stmt)(k:Nat)(outer:List Env)(s:Shared)(H:Hp)(vs:List V)(a:Addr)(g:Nat)(go:Obj)(aF:Shared):Prop where
 at_:aF.heap.get? a=some go
 wB:∀h:Heap,h.get? a=some go->h.IsGen a g
 nocell:∀v,go.data≠.cell v
 lo:s.heap.objs.size<a
 gen:aF.gens[g]?=some (.fresh (.func body (envOfC qual scope s.heap.objs.size f cd)))
 os:aF.os=s.os
 bare:AllBare aF.gens
 lim:aF.heap.NoLimit
 keep:∀b o,s.heap.get? b=some o->aF.heap.get? b=some o
 inv:∀(A:Around) (E:XK),Room k A->A.frames=some outer->Inv (gcxOf P w K mg base N qual scope f cd A outer s H E [(a,go)]) [] (start N vs) H aF
section
variable{P:Program}{w:World}{K:Frag}{mg:Str->Option Value}{base:Heap}{k:Nat}{f:Addr}{name qual:Str}{params:Arguments}{body:List Stmt}{scope:Scope}{oE kV doc pm cdv ct oc:Value}{an od:Option Addr}
    {fq:Array (Option Value)} {N ps:List Str}
theorem OO (lk:K.lookup f=some ⟨oc,od,.func (PySem.W.fnOf name qual params body scope oE kV doc pm an cdv ct),fq⟩)(hcd:PySem.W.codeIn K cdv qual=true)(S:GScope N ps scope)
    (A:Around) (outer:List Env) (s:Shared) (H:Hp) (args:Args) (us:List Value) (vs:List V) (hr:Room (k+1) A) (e0:Env0 P w K mg base A outer s H) (hb:BindsTo s (PySem.W.fnOf name qual params body scope oE kV doc pm an cdv ct) args (ps.zip us)) (r:Vals vs us) (hl:vs.length=ps.length):
    codeAny (model P w) A (.call (.ref f) args) (λr aF=>match r with|.ok (.ret u)=>∃a g go,u=.ref a/\ve P w K mg base N qual scope f cdv body k outer s H vs a g go aF|_=>False) s:=by
  have KX:K.In s.heap:=e0.mod.kin.keeps λb o e=>(e0.bs b o e).1
  have lim:s.heap.NoLimit:=e0.mod.nolimit.keeps λb o e=>(e0.bs b o e).1
  have hkind:∀y∈ps.zip us,scope.names.lookup y.1=some .local\/(scope.names.lookup y.1=some .cell/\((cellsFrom (s.heap.objs.size+1) scope.names []).lookup y.1).isSome=true):=λ⟨n,v⟩ hy=>by
    rcases S.par n (List.of_mem_zip hy).1 with q|q
    · exact .inl q
    · exact .inr ⟨q,PySem.W.cellsFrom_some _ _ _ (.inl q)⟩
  refine codeAny_call_generator hr.depth (KX _ _ lk) rfl S.co S.gen rfl (PySem.W.codeRec_of KX hcd) (hb _ _ _ _ ?_);refine wpAny_newFunctionEnv_cells S.kind hkind λenv he s1 x=>?_
  subst he;have Q7:s1.heap.NoLimit:=lim.keeps x.toInCall.keep;refine⟨Q7,?_⟩;obtain⟨h1,tk,BU,hk1⟩:=x.done;have acE:s1.os=s.os:=by rw[BU]
  have Yv:s1.gens=s.gens:=by rw[BU]
  have I5:s.heap.objs.size<s1.heap.objs.size:=x.toInCall.ns.lt;have akx:s.heap.objs.size<=s1.heap.objs.size:=Nat.le_of_lt I5;have aax:∀b o,s.heap.get? b=some o->s1.heap.get? b=some o:=x.toInCall.keep;have main:∀(go:Obj) (nm uS:Value) (KR:Nat),go.cls=.type "generator"->go.data=.fields #[.int s1.gens.size 0,nm,uS]->go.slots=#[]->(∀h:Heap,(h.push go).get? h.objs.size=some go)->
      ve P w K mg base N qual scope f cdv body k outer s H vs s1.heap.objs.size s1.gens.size go {s1 with gens:=s1.gens.push (.fresh (.func body (envOfC qual scope s.heap.objs.size f cdv))),toks:=KR,heap:=s1.heap.push go}:=by
    intro go nm uS KR Zk O7 Cs O9;have O6:∀v,go.data≠.cell v:=λv q=>by rw[O7]at q;cases q
    have Ck:AllBare (s1.gens.push (.fresh (.func body (envOfC qual scope s.heap.objs.size f cdv)))):=AllBare.push (by rw[Yv];exact e0.bare) rfl;refine⟨O9 _,λh e=>⟨go,nm,uS,e,Zk,O7,Cs⟩,O6,I5,Array.getElem?_push_size ..,acE,Ck,Q7.keeps λb o e=>Heap.get?_push_of_some _ e,λb o e=>Heap.get?_push_of_some _ (aax b o e),λD7 E ZP hfr=>?_⟩;have Xv:Env0 P w K mg base D7 outer s H:=⟨hfr,e0.mod,e0.bs,e0.bsz,e0.funs,e0.frf,e0.hok,e0.bare⟩;have bE:Inv (gcxOf P w K mg base N qual scope f cdv D7 outer s H E []) [] (start N vs) H s1:=inv_startG S ZP.hd Xv hl r x;have Qx:∀b o,s1.heap.get? b=some o->(s1.heap.push go).get? b=some o:=λb o e=>Heap.get?_push_of_some _ e
    have cJ:Inv (gcxOf P w K mg base N qual scope f cdv D7 outer s H E []) [] (start N vs) H {s1 with gens:=s1.gens.push (.fresh (.func body (envOfC qual scope s.heap.objs.size f cdv))),toks:=KR,heap:=s1.heap.push go}:=
      bE.call' (ch:=[]) rfl (Un.kept Qx) (bE.hok.kept Qx) Ck λb z=>by simp at z
    refine Inv.pinnedG cJ λp hp=>?_
    have hp:p∈[(s1.heap.objs.size,go)]:=by simpa using hp
    rw[List.mem_singleton.mp hp];exact⟨O9 _,bE.hok.fresh (Nat.le_refl _),Nat.ne_of_gt I5,bE.nofs (Nat.le_refl _),O6⟩
  exact⟨_,_,_,rfl,main _ _ _ _ rfl rfl rfl λh=>Heap.get?_push_size _ rfl⟩
end
end R
namespace R
open PySem PySem.Spec PyProof.Rows L2 GenW
section
variable{X:Cx}{pins:List (Addr×Obj)}{σ:L2.St}{H:Hp}{s aF:Shared}
theorem PM (I:Inv X pins σ H s)(hh:aF.heap=s.heap)(ho:aF.os=s.os)(hb:AllBare aF.gens):Inv X pins σ H aF:=by
 obtain⟨h1,h2,h3,h4,c6,cN,pX,qB,h9,yV,YC⟩:=I;exact⟨h1,ho.trans h2,hb,by rw[hh];exact h4,by rw[hh];exact c6,by rw[hh];exact cN,pX,qB,by rw[hh];exact h9,by rw[hh];exact yV,YC⟩
theorem CB {g:Nat}{x:GenState}(I:Inv X pins σ H s)(hx:x.bare=true):Inv X pins σ H (s.setGen g x):=PM I rfl rfl (allBare_setGen I.bare hx)
end
def oB (S:Addr):Cons:=λx H Q=>∃acc,H S=some (.lst acc)/\acc.length<sizeLine/\Q (upd H S (.lst (acc++[x])))
end R
namespace R
open PySem PySem.Spec PyProof.Rows L2 GenW
structure m9 where
 N:List Str
 qual:Str
 scope:Scope
 f:Addr
 cd:Value
 body:List Stmt
 k:Nat
 sc:Shared
 H:Hp
 vs:List V
 a:Addr
 g:Nat
 go:Obj
abbrev m9.gQ (G:m9)(X:Cx)(A:Around)(E:XK):Cx:=gcxOf X.prog X.w X.K X.mg X.base G.N G.qual G.scope G.f G.cd A X.stack G.sc G.H E [(G.a,G.go)]
def m9.run (G:m9)(X:Cx)(E:XK)(aH:eG)(cons:Cons)(Qf:Hp->Prop)(aO:Hp):Prop:=
 ∀A:Around,Room G.k A->A.frames=some X.stack->agr (G.gQ X A E) aH cons sizeLine G.body {nx:=λ_ _ H'=>Qf H',rt:=λ_ v H'=>v=.non/\Qf H'} 0 (start G.N G.vs) aO
structure AK (X:Cx)(pins:List (Addr×Obj))(σ:L2.St)(G:m9)(u:Value)(s1:Shared):Prop where
 val:u=.ref G.a
 inv:Inv X pins σ G.H G.sc
 made:ve X.prog X.w X.K X.mg X.base G.N G.qual G.scope G.f G.cd G.body G.k X.stack G.sc G.H G.vs G.a G.g G.go s1
def Ax (X:Cx)(e:Expr)(k:Nat):L2.St->Hp->(m9->Prop)->Prop:=λσ H R=>
 ∀pins s,Inv X pins σ H s->wpAny (model X.prog X.w) X.A (eval e X.env) (λu s1=>∃G,AK X pins σ G u s1/\G.k=k/\R G) X.xe s
section
variable{X:Cx}{pins:List (Addr×Obj)}{σ:L2.St}{H:Hp}
theorem aa3 {G:m9}{u:Value}{s1 aF:Shared}{A:Around}{E:XK}{cp:List (Addr×Obj)}{aN:L2.St}{H':Hp}(M:AK X pins σ G u s1)(I:Inv (G.gQ X A E) cp aN H' aF):Inv X pins σ H' aF:=
 M.inv.call' (ch:=[]) I.os I.base I.hok I.bare λb hb=>by simp at hb
end
end R
namespace R
open PySem PySem.Spec PyProof.Rows L2 GenW
end R
namespace R
open PySem PySem.Spec PyProof.Rows L2 GenW
def jS:XK:=λ_ _ _=>False
end R
namespace R
open PySem PySem.Spec PyProof.Rows L2 GenW
end R
namespace R
open PySem PySem.Spec PyProof.Rows L2 GenW
variable[aI]
theorem TV:sizeLine=16777216:=by decide
inductive mh:Type where
 |nx (ρ:List af) (c:Nat) (L:List D)|bk (ρ:List af) (c:Nat) (L:List D)|ct (ρ:List af) (c:Nat) (L:List D)
abbrev dP:Type:=List af->Nat->List D->Ev mh
abbrev Flt:Type:=D->Option (List D)
def acU (c:Nat)(L:List D):ck->Ev mh
 | .nx ρ=>ok (.nx ρ c L)
 | .bk ρ=>ok (.bk ρ c L)
 | .ct ρ=>ok (.ct ρ c L)
 | .rt _=>bad
def r4 (f:aQ):dP:=λρ c L=>Ev.bind (f ρ) (acU c L)
def Yq (g:dP):mh->Ev mh
 | .nx ρ c L=>g ρ c L
 |r=>ok r
def r5 (f g:dP):dP:=λρ c L=>Ev.bind (f ρ c L) (Yq g)
def AD (ct:Flt)(ρ:List af)(c:Nat)(L:List D):D->Ev mh:=λd=>match ct d with
 |some es=>if c<4000/\L.length<4000 then ok (.nx ρ (c+1) (L++es))else bad
 |none=>bad
def Cb (ct:Flt)(e:CE):dP:=λρ c L=>Ev.bind (Ev.bind (e ρ) frz) (AD ct ρ c L)
def Hj (k:dP):mh->Ev mh
 | .nx ρ c L=>k ρ c L
 | .ct ρ c L=>k ρ c L
 | .bk ρ c L=>ok (.nx ρ c L)
def nB (g:dz)(b:dP):List D->dP
 |[],ρ,c,L=>ok (.nx ρ c L)
 |d::ds,ρ,c,L=>match g (.dat d) ρ with
  |some aT=>Ev.bind (b aT c L) (Hj (nB g b ds))
  |none=>bad
def Ox (g:dz)(b:dP)(ρ:List af)(c:Nat)(L:List D):Its->Ev mh
 | .data ds=>nB g b ds ρ c L
 | .live _ _ _=>bad
def yR (fi:iy)(g:dz)(b:dP):dP:=λρ c L=>Ev.bind (fi ρ) (Ox g b ρ c L)
structure sY (K:Frag)(S:Addr)(ct:Flt)(cons:Cons):Prop where
 run:∀{av aa:List Addr} {au H1 G H:Hp} {L es:List D} {M:List ak} {v:V} {d:D} {oh:Hp->Prop},Acc K S av au H1 L aa G M H->H1 S=none->bK K G v d->ct d=some es->L.length<sizeLine->
  (∀H',Acc K S av au H1 (L++es) aa G M H'->oh H')->cons v H oh
def jK:Flt:=λd=>some [d]
theorem NB {K:Frag}{S:Addr}:sY K S jK (oB S):=⟨λ{av aa au H1 G H L es M v d oh} a hS r e hl k=>by
 cases e
 obtain⟨vs,e1,e2,e3⟩:=a.push hS r hl;exact⟨vs,e1,e2,k _ e3⟩⟩
def X0 (w:Str):Flt
 | .tup [d,.str q]=>some (if q=w then[d]else[])
 |_=>none
section
variable(X:Cx)(W:WX)
def mq (D:GE)(S:Addr)(av:List Addr)(au H1:Hp)(aa:List Addr)(G:Hp):Re mh->Prop
 | .ok (.nx cC c L) ao=>∀aj ai H' aN,f5 aa G aj ai->Acc X.K S av au H1 L aj ai ao H'->bO X.K aj ai aN cC->D.nx c aN H'
 | .ok (.bk cC c L) ao=>∀aj ai H' aN,f5 aa G aj ai->Acc X.K S av au H1 L aj ai ao H'->bO X.K aj ai aN cC->D.bk c aN H'
 | .ok (.ct cC c L) ao=>∀aj ai H' aN,f5 aa G aj ai->Acc X.K S av au H1 L aj ai ao H'->bO X.K aj ai aN cC->D.ct c aN H'
 | .ex c fs ao=>∀aN,PX X W aN av au H1 c fs ao
end
section
variable{X:Cx}{W:WX}{aH:eG}{cons:Cons}{S:Addr}{st:Stmt}{rest body orelse:List Stmt}{f g a b:dP}{e bD it:Expr}{pos u6:Pos}{qz:CE}{cg:dB}{ct:Flt}
theorem mq.shift {D:GE}{av aa aM:List Addr}{au H1 G aU:Hp}{r:Re mh}(l:f5 aa G aM aU)(h:mq X W D S av au H1 aa G r):mq X W D S av au H1 aM aU r:=by
 cases r with
 |ex c fs M1=>exact h
 |ok v M1=>
  cases v with
  |nx aT c1 dX=>exactλ_ _ _ _ lS=>h _ _ _ _ (l.trans lS)
  |bk aT c1 dX=>exactλ_ _ _ _ lS=>h _ _ _ _ (l.trans lS)
  |ct aT c1 dX=>exactλ_ _ _ _ lS=>h _ _ _ _ (l.trans lS)
theorem Yn {k:dP}{D:GE}{g7:Nat->L2.St->Hp->Prop}{av D6 aa:List Addr}{au H1 gO G:Hp}{r:Re mh}(l0:f5 D6 gO aa G)(h:wp (bH (Hj k) r) (mq X W D S av au H1 D6 gO))
    (hn:∀gU c2 L2 M2,wp (k gU c2 L2 M2) (mq X W D S av au H1 D6 gO)->∀aj ai H' aN,f5 aa G aj ai->Acc X.K S av au H1 L2 aj ai M2 H'->bO X.K aj ai aN gU->g7 c2 aN H'):mq X W {D with nx:=g7,ct:=g7,bk:=D.nx} S av au H1 aa G r:=by
  cases r with
  |ex c fs M1=>exact h
  |ok a M1=>
    cases a with
    |nx aT c1 dX=>exact hn aT c1 dX M1 h
    |ct aT c1 dX=>exact hn aT c1 dX M1 h
    |bk aT c1 dX=>exactλ_ _ _ _ lS=>h _ _ _ _ (l0.trans lS)
end
end R
namespace R
open PySem PySem.Spec PyProof.Rows L2 GenW
variable[aI]
def adf (n:Nat):Re mh->T (Re af)
 | .ok (.nx _ _ L) M=>.ret (.ok (.dat (.lst L)) (cut n M))
 |_=>.bad
def qQ (np n:Nat)(b:dP):aK:=λss M=>if ss.length=np then(b (ss++List.replicate (n-np) .un) 0 [] M).bind (adf M.length)else .bad
def n_ (K:Frag)(Qd:Addr->Hp->Prop)(aa:List Addr)(G H:Hp):Re af->Prop
 | .ok s ao=>∃L,s=.dat (.lst L)/\∀av au H1 aj ai H' S,aG aa G H av au H1->H1 S=none->Acc K S av au H1 L aj ai ao H'->Qd S H'
 | .ex _ _ _=>False
theorem MS {K:Frag}{S:Addr}{aa aj:List Addr}{G H ai H':Hp}{L:List D}{ao:List ak}{rM:Prop}(a:Acc K S aa G H L aj ai ao H')(q:∀aM,Acc K S aa G H L aM ai (cut aa.length ao) H'->rM):rM:=by
 unfold cut at q;by_cases h:closed aa.length ao=true
 ·rw[if_pos h]at q
  exact q _ ⟨Cf a.f9,λz=>a.out (List.mem_of_mem_take z),a.nG,zN a.ms h,a.at_⟩
 ·rw[if_neg h]at q
  exact q aj a
def X8:D->Flt
 | .str w=>X0 w
 |_=>jK
section
variable{X:Cx}{W:WX}{k:Nat}{e o:Expr}{aJ:CE}{m:Str}{pos apos p:Pos}{ah8:Addr->eG}{aid:Addr->Cons}{ct:Flt}
theorem n_.shift {K:Frag}{Qd:Addr->Hp->Prop}{aa av:List Addr}{G H au H1:Hp}{r:Re af}(g:aG aa G H av au H1)(h:n_ K Qd aa G H r):n_ K Qd av au H1 r:=by
 cases r with
 |ex c fs M1=>exact h
 |ok s M1=>
  obtain⟨L,e,q⟩:=h;exact⟨L,e,λaM aU aO aj ai H' S g2=>q aM aU aO aj ai H' S (g.trans g2)⟩
theorem abK {np n:Nat}{b:dP}{ss:List af}{M:List ak}{Q:Re af->Prop}(w:wp (qQ np n b ss M) Q):wp (qQ np n b ss M) λr=>(∃s ao,r=.ok s ao)/\Q r:=by
 unfold qQ at w⊢;split
 ·rename_i e
  rw[if_pos e]at w;refine wp_bind.mpr (wp_mono (λr hr=>?_) (wp_bind.mp w));cases r with
  |ex c fs M1=>exact(show False from hr).elim
  |ok v M1=>
   cases v with
   |nx aT c1 dX=>exact⟨⟨_,_,rfl⟩,hr⟩
   |bk aT c1 dX=>exact(show False from hr).elim
   |ct aT c1 dX=>exact(show False from hr).elim
 ·rename_i e
  rw[if_neg e]at w;exact w.elim
end
end R
namespace R
open PySem PySem.Spec PyProof.Rows L2 GenW
variable[aI]
def AB (m:Bool):af->Ev af:=λs M=>match s with
 | .dat (.lst L)=>.ret (.ok (eX m M L).1 (eX m M L).2)
 |_=>.bad
def t7 (m:Bool)(f:CE):CE:=λρ=>Ev.bind (f ρ) (AB m)
section
variable{X:Cx}{W:WX}{k:Nat}{e elt bD iter:Expr}{f:CE}{pos p:Pos}{nm:Str}{ifs:List Expr}{scope:Scope}{own:List (Str×Nat)}
theorem ah3 {m:Bool}{ρ:List af}{M:List ak}{aa:List Addr}{G H:Hp}{σ:L2.St}{Q:VK}(h:wp (t7 m f ρ M) (cV X W (bz X.K) Q σ aa G H)):
    wp (f ρ M) (λr=>match r with|.ok s ao=>n_ X.K (λS H'=>Q (.ref S) H') aa G H (.ok s ao)|.ex c fs ao=>PX X W σ aa G H c fs ao):=wp_mono (λr hr=>by
  cases r with
  |ex c fs M1=>exact hr
  |ok s M1=>
    have hr:wp (AB m s M1) (cV X W (bz X.K) Q σ aa G H):=hr;unfold AB at hr;split at hr
    · exact⟨_,rfl,λav au H1 aj ai H' S g1 hS a=>A5 (X:=X) (m:=m) hS g1 a λaM aU aO v g2 m2 r2=>hr aM aU aO v g2 m2 r2⟩
    · exact hr.elim) (cz.mp h)
end
end R
namespace R
open PySem PySem.Spec PyProof.Rows L2 PySem.W PySem.Calls
def Mz (b_:List Fk)(fn:List eL)(en:List fu)(ts:List EC)(w:World)(K:Frag):Prop:=SaysE b_ fn en K/\(ts.map λt=>He.dicW K (aZ K t.1))=ts.map λt=>some (He.keysIn w.params t.2)
theorem Mz.tab {b_:List Fk}{fn:List eL}{en:List fu}{ts:List EC}{w:World}{K:Frag}(c:Mz b_ fn en ts w K)(i:Nat){t:EC}(h:ts[i]?=some t:=by rfl):He.dicW K (aZ K t.1)=some (He.keysIn w.params t.2):=by
 have e:(ts.map λt=>He.dicW K (aZ K t.1))[i]?=(ts.map λt=>some (He.keysIn w.params t.2))[i]?:=by rw[c.2]
 rw[List.getElem?_map,List.getElem?_map,h]at e;exact Option.some.inj e
end R
namespace R
open PySem PySem.Spec PyProof.Rows L2 PySem.W PySem.Calls
end R
namespace R
open PySem PySem.Spec PyProof.Rows L2 PySem.W PySem.Calls
end R
namespace R
open PySem PySem.Spec PyProof.Rows L2
variable[aI]
end R
namespace R
open PySem PySem.Spec PyProof.Rows L2 rL PySem.Froz
namespace TS
structure EG (P:Program)(w:World)(h:Heap)(a:Addr)(l:List Str)(D:SD):Prop where
 at_:h.get? a=some (sObj "set" D)
 ok:TxOk P w D l
 ris:Ris D.2.2.place.toList
 led:w.params.followText "set-order"=true\/D.2.2.led=true
 nd:l.Nodup
section
variable{P:Program}{w:World}{A:Around}{E:Value->Shared->Prop}{s:Shared}{a:Addr}{l:List Str}{D:SD}
theorem EG.keep {h h':Heap}(R:EG P w h a l D)(k:∀o,h.get? a=some o->h'.get? a=some o):EG P w h' a l D:=⟨k _ R.at_,R.ok,R.ris,R.led,R.nd⟩
end
end TS
end R
namespace R
open PySem PySem.Spec PyProof.Rows L2
abbrev gi (X:Cx)(t:Shared):Cx:={X with s_0:=t}
abbrev fB:Type:=Shared->Prop
def kj (X:Cx)(Fa:fB)(pins:List (Addr×Obj))(σ:L2.St)(H:Hp)(s:Shared):Prop:=∃t,Fa t/\Inv (gi X t) pins σ H s
abbrev pM (X:Cx)(Fa:fB):Prop:=∀t,Fa t->t.heap.objs.size=X.s_0.heap.objs.size
def m_ (X:Cx)(Fa:fB)(aH:eG)(cons:Cons):Protocol:=λ_ _ v s CJ=>
 ∃(x:V) (cp ip:List (Addr×Obj)) (σ:L2.St) (H:Hp) (Q:Hp->Prop),iH aH cp/\(∀p∈ip,p.1∉aH.ad)/\RelV x v/\kj X Fa (cp++ip) σ H s/\cons x H Q/\
  ∀(aF:Shared) (H':Hp) (eO:List (Addr×Obj)),iH aH eO->Q H'->kj X Fa (eO++ip) σ H' aF->CJ (.send .none) aF
def UW (X:Cx)(Fa:fB)(aH:eG)(ip:List (Addr×Obj))(D:GE)(k:Nat)(f:Flow)(s:Shared):Prop:=
 ∃cp:List (Addr×Obj),iH aH cp/\∃t,Fa t/\SP (gi X t) (cp++ip) (D.at k) f s
structure Ed (X:Cx)(Fa:fB)(aH:eG)(cons:Cons)(N:Nat)(ip:List (Addr×Obj))(A:Around)(Re:GenEnd)(c:Code)(fs:List Frame)(K:Flow->Sem PySem.Fin)(J:Value->Sem PySem.Fin)(D:GE):Prop where
 ok:∀(n k:Nat) (dh s:Shared) (f:Flow),n+k=N->UW X Fa aH ip D k f s->Seg (model X.prog X.w) A Re (m_ X Fa aH cons) n dh c (K f) fs s
 exc:∀(n:Nat) (dh:Shared) (e:Value) (s:Shared),X.xe e s->Seg (model X.prog X.w) A Re (m_ X Fa aH cons) n dh c (J e) fs s
def Aw (X:Cx)(Fa:fB)(aH:eG)(cons:Cons)(N:Nat)(st:Stmt):EB:=λD k σ H=>
 ∀(A:Around) (ip cp:List (Addr×Obj)) (Re:GenEnd) (n:Nat) (dh:Shared) (c:Code) (fs:List Frame) (K:Flow->Sem PySem.Fin) (J:Value->Sem PySem.Fin) (gd:Bool->Bool) (lv:List Value->List Value) (s:Shared),
  tu X A c fs gd->n+k=N->iH aH cp->(∀p∈ip,p.1∉aH.ad)->Ed X Fa aH cons N ip A Re c fs K J D->kj X Fa (cp++ip) σ H s->Seg (model X.prog X.w) A Re (m_ X Fa aH cons) n dh c ((exec st X.env).wrap K J gd lv) fs s
def rm (X:Cx)(Fa:fB)(aH:eG)(cons:Cons)(N:Nat)(st:List Stmt):EB:=λD k σ H=>
 ∀(A:Around) (ip cp:List (Addr×Obj)) (Re:GenEnd) (n:Nat) (dh:Shared) (c:Code) (fs:List Frame) (K:Flow->Sem PySem.Fin) (J:Value->Sem PySem.Fin) (gd:Bool->Bool) (lv:List Value->List Value) (s:Shared),
  tu X A c fs gd->n+k=N->iH aH cp->(∀p∈ip,p.1∉aH.ad)->Ed X Fa aH cons N ip A Re c fs K J D->kj X Fa (cp++ip) σ H s->Seg (model X.prog X.w) A Re (m_ X Fa aH cons) n dh c ((execs st X.env).wrap K J gd lv) fs s
section
variable{X:Cx}{Fa:fB}{aH:eG}{cons:Cons}{N:Nat}{st:Stmt}{rest:List Stmt}{D:GE}{k:Nat}{σ:L2.St}{H:Hp}
theorem Uh (h:∀t,Fa t->wS (gi X t) st (D.at k) σ H):Aw X Fa aH cons N st D k σ H:=by
 intro A ip cp Re n dh c fs K J gd lv s g hn hc hi kk ⟨t,cg,I⟩;refine seg_wrap ?_;rw[g.over];exact wpAny_mono (h t cg _ s I) (λf aF hs=>kk.ok n k dh aF f hn ⟨cp,hc,t,cg,hs⟩) λx aF hx=>kk.exc n dh x aF hx
theorem agv (h:D.nx k σ H):rm X Fa aH cons N [] D k σ H:=by
 intro A ip cp Re n dh c fs K J gd lv s g hn hc hi kk ⟨t,cg,I⟩;exact seg_execs_nil (kk.ok n k dh s .next hn ⟨cp,hc,t,cg,σ,H,I,h⟩)
theorem K_ (h:Aw X Fa aH cons N st {D with nx:=λdJ aN H'=>rm X Fa aH cons N rest D dJ aN H'} k σ H):rm X Fa aH cons N (st::rest) D k σ H:=by
 intro A ip cp Re n dh c fs K J gd lv s g hn hc hi kk I;refine seg_execs_cons ?_;refine h A ip cp Re n dh c fs _ J gd lv s g hn hc hi ⟨λo7 dJ pD aF f lP ⟨eO,i_,t',oM,hs⟩=>?_,kk.exc⟩ I;cases f with
 |next=>
  obtain⟨aN,H',eV,q⟩:=hs;exact q A ip eO Re o7 pD c fs K J gd lv aF g lP i_ hi kk ⟨t',oM,eV⟩
 |brk=>exact kk.ok o7 dJ pD aF .brk lP ⟨eO,i_,t',oM,hs⟩
 |cont=>exact kk.ok o7 dJ pD aF .cont lP ⟨eO,i_,t',oM,hs⟩
 |ret u=>exact kk.ok o7 dJ pD aF (.ret u) lP ⟨eO,i_,t',oM,hs⟩
theorem agx {e:Expr}{u6 pos:Pos}(hco:X.env.scope.isCoroutine=false)(hint:interactive X.env=false)(h:∀t,Fa t->wE (gi X t) e σ H λx H1=>k<N/\cons x H1 λaO=>D.nx (k+1) σ aO):Aw X Fa aH cons N (.Expr (.Yield (some e) u6) pos) D k σ H:=by
 intro A ip cp Re n dh c fs K J gd lv s g hn hc hi kk ⟨t,cg,I⟩;cases n with
 |zero=>
  rw[exec_Expr X.env _ pos hint rfl];show Seg _ _ _ _ 0 dh c (.at pos λ_=>((eval e X.env >>=λv=>(standAt u6 >>=λ_=>yieldOut X.env v)) >>=λx=>dropValue (.Yield (some e) u6) pos x).wrap K J gd lv) fs s
  refine seg_at ?_;rw[Sem.bind_eq_wrap',Sem.bind_eq_wrap',Sem.wrap_wrap,Sem.wrap_wrap];refine seg_wrap ?_;rw[g.over];refine wpAny_mono (h t cg _ s I) (λv aF hv=>?_) λx aF hx=>kk.exc _ dh x aF hx
  obtain⟨x,H1,bE,bL,hlt,q⟩:=hv;exact absurd hlt (by omega)
 |succ m=>
  refine seg_Expr_Yield g.split g.gd g.guard ?_ hco hint;rw[g.over];refine wpAny_mono (h t cg _ s I) (λv aF hv=>?_) λx aF hx=>kk.exc _ dh x aF hx
  obtain⟨x,H1,bE,bL,hlt,q⟩:=hv;intro CJ hk;refine⟨x,cp,ip,σ,H1,_,hc,hi,bL,⟨t,cg,bE⟩,q,λjf Eh Xc Y7 hq ⟨afI,Yh,UZ⟩=>hk .none jf ?_⟩;exact kk.ok m (k+1) jf jf .next (by omega) ⟨Xc,Y7,afI,Yh,σ,Eh,UZ,hq⟩
theorem To {ip:List (Addr×Obj)}{A:Around}{Re:GenEnd}{c:Code}{fs:List Frame}{K:Flow->Sem PySem.Fin}{J:Value->Sem PySem.Fin}{gd:Bool->Bool}{lv:List Value->List Value}{n:Nat}{dh s:Shared}{e:Value}
    (g:tu X A c fs gd) (kk:Ed X Fa aH cons N ip A Re c fs K J D) (h:cameBackBy (model X.prog X.w) X.A X.env X.xe e s):
    Seg (model X.prog X.w) A Re (m_ X Fa aH cons) n dh c (((Sem.raise e:Sem Flow).onRaise (cameBack X.env)).wrap K J gd lv) fs s:=by
  show Seg _ _ _ _ _ _ _ (((cameBack X.env e).bind λ_=>(Sem.raise e:Sem Flow)).wrap K J gd lv) _ _
  rw[Sem.bind_eq_wrap,Sem.wrap_wrap];refine seg_wrap ?_;rw[g.over];exact wpAny_mono h (λ_ aF hx=>kk.exc n dh e aF hx) λx aF hx=>kk.exc n dh x aF hx
end
section
variable{X:Cx}{Fa:fB}{aH:eG}{cons:Cons}{N:Nat}{D:GE}{k:Nat}{σ:L2.St}{H:Hp}
theorem Ye {t t':Shared}{pins:List (Addr×Obj)}{H:Hp}{b:Addr}(e:t.heap.objs.size=t'.heap.objs.size)(f:FpOk (gi X t) pins H b):FpOk (gi X t') pins H b:=by
 obtain⟨f0,f1,f2,oJ,f4,pU⟩:=f;exact⟨f0,f1,f2,oJ.imp id λz=>by show t'.heap.objs.size<=b;rw[<-e];exact z,f4,pU⟩
def Ym (X:Cx)(Fa:fB)(aH:eG)(cons:Cons)(N:Nat)(bD:Expr)(body:List Stmt)(D:GE)(J:It)(W:Nat->Nat->Nat->L2.St->Hp->Prop):Prop:=
 ∀i m k σ H,W i m k σ H->(J.stop i H/\D.nx k σ H)\/(J.go i H/\∃g7:Nat->L2.St->Hp->Prop,(∀dJ aN H',g7 dJ aN H'->∃m',m'<m/\W (i+1) m' dJ aN H')/\
  ∀x H',J.yld i H x H'->∀t,Fa t->Av (gi X t) bD x σ H' λeK aO=>rm X Fa aH cons N body {D with nx:=g7,ct:=g7,bk:=D.nx} k eK aO)
theorem agw {bD iter:Expr}{body:List Stmt}{pos:Pos}(hF:pM X Fa)(hp:PassesOwn (model X.prog X.w) X.A X.env X.xe)(qH:X.calm=true)(hs:∀x,foldedSetIterable iter X.env x=pure x)
    (h:∀t,Fa t->Ay (gi X t) bD iter σ H λJ H1=>∃W:Nat->Nat->Nat->L2.St->Hp->Prop,(∃m,W 0 m k σ H1)/\Ym X Fa aH cons N bD body D J W):Aw X Fa aH cons N (.For bD iter body [] pos) D k σ H:=by
  intro A ip cp Re n dh c fs K J gd lv s g hn hc hi kk ⟨t0,G_,I⟩;rw[exec_For];refine seg_at ?_;show Seg _ _ _ _ _ _ _ ((eval iter X.env >>=λv=>foldedSetIterable iter X.env v >>=λx=>standAt iter.pos >>=λ_=>holding [x] (pyIter x) >>=λit=>runOwn (.forLoop bD it body [] X.env) X.env).wrap K J gd lv) _ _
  refine seg_bind_wrap ?_;rw[g.over];refine wpAny_mono (h t0 G_ _ s I) (λv s1 h1=>?_) λx aF hx=>kk.exc n dh x aF hx
  refine seg_bind_wrap ?_;rw[g.over];refine wpAny_of_eq (hs v) ?_;refine seg_bind_wrap (wpAny_standAt ?_);refine seg_bind_wrap ?_;rw[g.over];refine wpAny_holding (wpAny_mono h1 (λu s2 h2=>?_) λx aF hx=>kk.exc n dh x aF hx);obtain⟨it,bC,tn,ahk,aO,e,cJ,T,DG,f2,W,⟨m0,xN⟩,turn⟩:=h2;subst e;show Seg _ _ _ _ _ _ _ ((runOwn (.forLoop bD (.ref it) body [] X.env) X.env).wrap K J gd lv) _ _
  unfold runOwn;refine seg_call λp=>?_
  have gl:=λ(kk:Result->Sem PySem.Fin)=>OE (kk:=kk) (c':=.forLoop bD (.ref it) body [] X.env) (l:=lv []) (kp:=[]) (p:=p) g rfl rfl
  have aiK:=λ(kk:Result->Sem PySem.Fin)=>OE (kk:=kk) (c':=.block [] X.env) (l:=lv []) (kp:=[]) (p:=p) g rfl rfl
  have DH:∀{eO:List (Addr×Obj)} {H':Hp} (t:Shared),Fa t->iH aH eO->(∀b∈bC,H' b=none)->∀b∈bC,FpOk (gi X t) (eO++ip) H' b:=λ{eO H'} t cg i_ hn b hb=>Yd hc i_ (Ye (((hF t0 G_)).trans (hF t cg).symm) ⟨hn b hb,(f2 b hb).2⟩)
  have ac0:∀{eO:List (Addr×Obj)} {H':Hp} {b:Addr} {t:Shared},iH aH eO->FpOk (gi X t) (eO++ip) H' b->b∉aH.ad:=λ{eO H' b t} i_ f hb=>by
    rw[<-i_.1]at hb;obtain⟨q,hq,e⟩:=List.mem_map.mp hb;exact f.2.2.2.2.2 q (List.mem_append_right _ (List.mem_append_left _ hq)) e
  have loop:∀(m i n k:Nat) (dh s:Shared) (σ:L2.St) (H:Hp) (cp:List (Addr×Obj)),n+k=N->iH aH cp->W i m k σ H->kj X Fa (cp++ip) σ H s->tn i s.heap->(∀b∈bC,H b=none)->
      Seg (model X.prog X.w) A Re (m_ X Fa aH cons) n dh (.forLoop bD (.ref it) body [] X.env) ((model X.prog X.w).den (.forLoop bD (.ref it) body [] X.env))
        (.ret (λr=>((match r with|.ok f=>(.pure f:Sem Flow)|.error e=>.raise e).onRaise (cameBack X.env)).wrap K J gd lv) none (gd false) (lv []) c p []::fs) s:=by
    intro m;induction m using Nat.strongRecOn with
    |ind m ih=>
      intro i n k dh s σ H cp hn hc w ⟨t,cg,I⟩ st fr;have ee:∀(c':Code) (Cr:tu X A c' (.ret (λr=>((match r with|.ok f=>(.pure f:Sem Flow)|.error e=>.raise e).onRaise (cameBack X.env)).wrap K J gd lv) none (gd false) (lv []) c p []::fs) id) (n:Nat) (dh:Shared) (x:Value) (aF:Shared),X.xe x aF->Seg (model X.prog X.w) A Re (m_ X Fa aH cons) n dh c'
          ((do noteFrame x X.env;theTreesLotGoes x:Sem Unit).wrap (λ_=>.raise x) .raise id id)
          (.ret (λr=>((match r with|.ok f=>(.pure f:Sem Flow)|.error e=>.raise e).onRaise (cameBack X.env)).wrap K J gd lv) none (gd false) (lv []) c p []::fs) aF:=λc' Cr n dh x aF hx=>by
        refine seg_wrap ?_;rw[Cr.over];refine wpAny_bind (wpAny_mono (hp x aF hx) (λ_ jf HF=>wpAny_theTreesLotGoes ?_) λy jf HF=>?_)
        · exact seg_leaf (.error x) (To g kk HF)
        · exact seg_leaf (.error y) (To g kk HF)
      have BV:∀(x:Value),(((do noteFrame x X.env;theTreesLotGoes x:Sem Unit).bind λ_=>(Sem.raise x:Sem PySem.Fin)))=((do noteFrame x X.env;theTreesLotGoes x:Sem Unit).wrap (λ_=>.raise x) .raise id id):=λx=>Sem.bind_eq_wrap _ _
      show Seg _ _ _ _ _ _ _ ((forTurn bD (.ref it) body [] X.env).onRaise (λx=>do noteFrame x X.env;theTreesLotGoes x)) _ _
      rw[Sem.onRaise_eq_wrap];unfold forTurn;refine seg_bind_wrap (wpAny_standAt ?_);refine seg_bind_wrap ?_;rw[(gl _).over];have ex:∀(x:Value) (aF:Shared),X.xe x aF->Seg (model X.prog X.w) A Re (m_ X Fa aH cons) n dh (.forLoop bD (.ref it) body [] X.env) (((do noteFrame x X.env;theTreesLotGoes x:Sem Unit).bind λ_=>(Sem.raise x:Sem PySem.Fin)))
          (.ret (λr=>((match r with|.ok f=>(.pure f:Sem Flow)|.error e=>.raise e).onRaise (cameBack X.env)).wrap K J gd lv) none (gd false) (lv []) c p []::fs) aF:=λx aF hx=>by
        rw[BV];exact ee _ (gl _) n dh x aF hx
      rcases turn i m k σ H w with⟨stop,uS⟩|⟨go,g7,YG,step⟩
      · refine wpAny_onRaise (wpAny_mono (T.done (gi X t) rfl rfl rfl qH i (cp++ip) s σ H (λ_ _=>False) I (DH t cg hc fr) st stop) (λr s4 ⟨hr,xZ⟩=>?_) λ_ _ z=>z.elim)
        subst hr;show Seg _ _ _ _ _ _ _ (Sem.pure (.again (.block [] X.env))) _ _
        refine seg_again rfl ?_;show Seg _ _ _ _ _ _ _ (((execs [] X.env).onRaise (λx=>do noteFrame x X.env;theTreesLotGoes x)) >>=λf=>(Sem.pure (Fin.done f))) _ _
        refine seg_leaf (.ok .next) (kk.ok n k dh s4 .next hn ⟨cp,hc,t,cg,σ,H,xZ,uS⟩)
      · refine wpAny_onRaise (wpAny_mono (T.item (gi X t) rfl rfl rfl qH i (cp++ip) s σ H (λ_ _=>False) I (DH t cg hc fr) st go) (λr s4 ⟨u,hr,h4⟩=>?_) λ_ _ z=>z.elim)
        subst hr;refine seg_bind_wrap ?_;rw[(gl _).over];refine wpAny_mono h4 (λ_ s5 ⟨x,qm,U0,nQ,ah1,KL,Oo⟩=>?_) λ_ _ z=>z.elim
        have LO:=U0.pinned (DH t cg hc Oo) (T.obj _ _ KL);rw[List.append_assoc]at LO;refine seg_bind_wrap ?_;rw[(gl _).over];refine wpAny_mono (step x qm ah1 t cg _ s5 u LO nQ) (λ_ adK ⟨Lp,rG,U3,JO⟩=>?_) λx aF hx=>ex x aF hx
        have Zp:∀q∈ip++pinsAt bC s5.heap,q.1∉aH.ad:=λq hq=>by
          rcases List.mem_append.mp hq with z|z
          · exact hi q z
          · exact ac0 hc (DH t cg hc Oo q.1 (of_pinsAt z).1)
        rw[Sem.bind_eq_wrap',Sem.wrap_wrap];rw[Sem.wrap_congr (execs body X.env) _ _ (K':=λf=>match f with
            | .next|.cont=>.pure (.again (.forLoop bD (.ref it) body [] X.env))
            | .brk=>.pure (.done .next)
            | .ret v=>.pure (.done (.ret v))) (H':=λe=>(do noteFrame e X.env;theTreesLotGoes e:Sem Unit).wrap (λ_=>.raise e) .raise id id)
          (λf=>by cases f<;>rfl) (λe=>by first|exact BV e|exact Sem.bind_eq_wrap _ _|rfl)]
        refine JO A (ip++pinsAt bC s5.heap) cp Re n dh _ _ _ _ id id adK (gl _) hn hc Zp ⟨λo7 dJ pD qe f lP ⟨eO,i_,t',oM,pZ⟩=>?_,λo7 pD x qe hx=>ee _ (gl _) o7 pD x qe hx⟩ ⟨t,cg,U3⟩;have again:∀{pI:L2.St} {jV:Hp},Inv (gi X t') (eO++(ip++pinsAt bC s5.heap)) pI jV qe->g7 dJ pI jV->
            Seg (model X.prog X.w) A Re (m_ X Fa aH cons) o7 pD (.forLoop bD (.ref it) body [] X.env) (Sem.pure (.again (.forLoop bD (.ref it) body [] X.env)))
              (.ret (λr=>((match r with|.ok f=>(.pure f:Sem Flow)|.error e=>.raise e).onRaise (cameBack X.env)).wrap K J gd lv) none (gd false) (lv []) c p []::fs) qe:=λ{pI jV} mj qT=>by
          obtain⟨m',hm,agq⟩:=YG dJ pI jV qT;rw[<-List.append_assoc]at mj;have Sd:∀b∈bC,∀o,s5.heap.get? b=some o->qe.heap.get? b=some o/\jV b=none:=λb hb o e=>
            let z:=mj.pin (b,o) (List.mem_append_right _ (List.mem_append_right _ (mem_pinsAt hb e)))
            ⟨z.1,z.2.1⟩
          refine seg_again rfl (ih m' hm (i+1) o7 dJ pD qe pI jV eO lP i_ agq ⟨t',oM,mj.unpinned⟩ (T.keep _ _ _ KL λb hb o e=>(Sd b hb o e).1) λb hb=>?_);obtain⟨o,e,d⟩:=T.obj _ _ KL b hb;exact(Sd b hb o e).2
        cases f with
        |next=>obtain⟨pI,jV,mj,qT⟩:=pZ;exact again mj qT
        |cont=>obtain⟨pI,jV,mj,qT⟩:=pZ;exact again mj qT
        |brk=>
          obtain⟨pI,jV,mj,JP⟩:=pZ;rw[<-List.append_assoc]at mj;exact seg_leaf (.ok .next) (kk.ok o7 dJ pD qe .next lP ⟨eO,i_,t',oM,pI,jV,mj.unpinned,JP⟩)
        |ret v=>
          obtain⟨agO,pI,jV,mj,JQ,JP⟩:=pZ;rw[<-List.append_assoc]at mj;exact seg_leaf (.ok (.ret v)) (kk.ok o7 dJ pD qe (.ret v) lP ⟨eO,i_,t',oM,agO,pI,jV,mj.unpinned,JQ,JP⟩)
  exact loop m0 0 n k dh s2 σ aO cp hn hc xN ⟨t0,G_,cJ⟩ DG λb hb=>(f2 b hb).1
end
end R
namespace R
open PySem PySem.Spec PyProof.Rows L2 GenW
section
variable{P:Program}{w:World}{K:Frag}{mg:Str->Option Value}{base:Heap}{k:Nat}{f:Addr}{name qual:Str}{params:Arguments}{body:List Stmt}{scope:Scope}{oE kV doc pm cdv ct oc:Value}{an od:Option Addr}
    {fq:Array (Option Value)} {N ps:List Str}
def LJ (X:Cx)(Fa:fB)(aH:eG)(Q:Hp->Prop)(Er:Value->Shared->Prop):GenEnd:=λ_ _ r s=>
 ((r=.ok (.ret .none)\/r=.ok .next)/\∃cp σ H,iH aH cp/\kj X Fa cp σ H s/\Q H)\/∃e,r=.error e/\Er e s
theorem KD {Fa:fB}{A:Around}{outer:List Env}{s s2:Shared}{H aO:Hp}{E:XK}{pn cp:List (Addr×Obj)}{aH:eG}{cons:Cons}{Ew:Nat}{Q:Hp->Prop}{σ:L2.St}
    (hc:iH aH cp) (I:kj (gcxOf P w K mg base N qual scope f cdv A outer s H E pn) Fa cp σ aO s2)
    (hb:rm (gcxOf P w K mg base N qual scope f cdv A outer s H E pn) Fa aH cons Ew body {nx:=λ_ _ H'=>Q H',rt:=λ_ v H'=>v=.non/\Q H'} 0 σ aO):
    Seg (model P w) A (LJ (gcxOf P w K mg base N qual scope f cdv A outer s H E pn) Fa aH Q λe aF=>CX P w outer H s E e aF/\∀p∈pn,aF.heap.get? p.1=some p.2) (m_ (gcxOf P w K mg base N qual scope f cdv A outer s H E pn) Fa aH cons) Ew s2
      (.func body (envOfC qual scope s.heap.objs.size f cdv)) ((model P w).den (.func body (envOfC qual scope s.heap.objs.size f cdv))) [] s2:=by
  refine seg_func ?_;refine hb A [] cp _ Ew s2 _ [] _ _ id id s2 ⟨over_func,rfl,rfl,rfl⟩ (Nat.add_zero _) hc (λp hp=>by simp at hp) ⟨λn k dh aF fK hn ⟨eO,i_,t',oM,hs⟩=>?_,λn dh e aF hx=>?_⟩ (by rw[List.append_nil];exact I)
  · cases fK with
    |next=>
      obtain⟨aN,H',hI,hQ⟩:=hs;rw[List.append_nil]at hI;exact seg_end (.ok (.ret .none)) (.inl ⟨.inl rfl,eO,aN,H',i_,⟨t',oM,hI⟩,hQ⟩)
    |brk=>obtain⟨_,_,_,q⟩:=hs;exact False.elim q
    |cont=>obtain⟨_,_,_,q⟩:=hs;exact False.elim q
    |ret u=>
      obtain⟨v,aN,H',hI,bL,ev,hQ⟩:=hs;rw[List.append_nil]at hI;subst ev;have XM:u=Value.none:=bL;subst XM;exact seg_end (.ok (.ret .none)) (.inl ⟨.inl rfl,eO,aN,H',i_,⟨t',oM,hI⟩,hQ⟩)
  · refine seg_wrap ?_
    rw[over_func];refine wpAny_mono (show wpAny (model P w) (A.deeper (envOfC qual scope s.heap.objs.size f cdv)) (leaving (envOfC qual scope s.heap.objs.size f cdv) e) (λ_ jf=>CX P w outer H s E e jf/\∀p∈pn,jf.heap.get? p.1=some p.2) (λ_ _=>False) aF from hx) (λ_ jf q=>?_) λ_ jf q=>q.elim
    exact seg_end (.error e) (.inr ⟨e,rfl,q⟩)
end
section
variable{P:Program}{w:World}{X:Cx}{Fa:fB}{aH:eG}{cons:Cons}{Qf:Hp->Prop}{Er:Value->Shared->Prop}{a:Addr}{g:Nat}{go:Obj}
def vA (P:Program)(w:World)(X:Cx)(Fa:fB)(aH:eG)(cons:Cons)(Qf:Hp->Prop)(Er:Value->Shared->Prop)(g:Nat)(A:Around)(m:Nat)(s:Shared):Prop:=
 ∃bG:GenState,s.gens[g]?=some bG/\bG.Goes (model P w) A (LJ X Fa aH Qf Er) (m_ X Fa aH cons) m (.send .none) (s.setGen g .running)
theorem Od {g:Nat}{x:GenState}{pins:List (Addr×Obj)}{σ:L2.St}{H:Hp}{s:Shared}(I:kj X Fa pins σ H s)(hx:x.bare=true):kj X Fa pins σ H (s.setGen g x):=let⟨t,cg,J⟩:=I;⟨t,cg,CB J hx⟩
theorem Jq {A:Around}{E:Value->Shared->Prop}{Q:Option Value->Shared->Prop}{m:Nat}{s:Shared}(hh:A.handled=none)(hd:A.depth<recursionLimit)(hl:s.heap.NoLimit)(Ct:∀h:Heap,h.get? a=some go->h.IsGen a g)(hg:s.heap.get? a=some go)(HY:(a,go)∈X.pn)
    (hs:vA P w X Fa aH cons Qf Er g A.in1 m s)
    (hY:∀(v:Value) (x:V) (cp ip:List (Addr×Obj)) (σ:L2.St) (H:Hp) (oh:Hp->Prop) (s1:Shared),iH aH cp->(∀p∈ip,p.1∉aH.ad)->RelV x v->kj X Fa (cp++ip) σ H s1->cons x H oh->
      (∀(aF:Shared) (H':Hp) (eO:List (Addr×Obj)),iH aH eO->oh H'->kj X Fa (eO++ip) σ H' aF->aF.gens=s1.gens->∃m',m'<m/\vA P w X Fa aH cons Qf Er g A.in1 m' aF)->Q (some v) s1)
    (hP:∀(cp:List (Addr×Obj)) (σ:L2.St) (H:Hp) (s1:Shared),iH aH cp->kj X Fa cp σ H s1->Qf H->Q none s1)
    (hE:∀e s1,Er e s1->s1.heap.get? a=some go/\NotStop (model P w) e s1.heap/\E e (s1.setGen g .finished)):
    wpAny (model P w) A (pyNext (.ref a)) Q E s:=by
  obtain⟨bG,Cs,Zl⟩:=hs;have Cr:g<s.gens.size:=(Array.getElem?_eq_some_iff.mp Cs).1;refine wpAny_gsz (n:=g+1) Cr (next_genG (A:=A) (F:=λn dh s1=>∃(cp:List (Addr×Obj)) (σ:L2.St) (H:Hp),iH aH cp/\kj X Fa cp σ H s1/\Qf H) (Er:=Er) (Y:=m_ X Fa aH cons) (Q:=λr s1=>g+1<=s1.gens.size->Q r s1) (E:=λe s1=>g+1<=s1.gens.size->E e s1) hh hl hd (Ct _ hg) Cs Zl (λv m6 Hs Ck hv hsz=>?_) (λm6 hp h' hk hsz=>?_) λe m6 he=>?_)
  · obtain⟨x,cp,ip,σ,H,oh,hc,hi,bL,I,hq,hk⟩:=hv
    have ZS:g<m6.gens.size:=by
      have q:(m6.setGen g Hs).gens.size=m6.gens.size:=setGen_size _ _ _;have aiV:g+1<=(m6.setGen g Hs).gens.size:=hsz;omega
    refine hY v x cp ip σ H oh _ hc hi bL (Od I Ck) hq λaF H' eO i_ uv eV Zh=>?_
    have z:=hk (aF.setGen g .running) H' eO i_ uv (Od eV rfl);cases m with
    |zero=>exact False.elim z
    |succ m=>exact⟨m,Nat.lt_succ_self m,Hs,by rw[Zh];exact setGen_at ZS,z⟩
  · obtain⟨cp,σ,H,hc,⟨t,cg,I⟩,hq⟩:=hp
    have cJ:Inv (gi X t) cp σ H {m6 with heap:=h'}:=I.kept (t':=m6.toks) hk;exact hP cp σ H _ hc ⟨t,cg,PM cJ rfl rfl (allBare_setGen I.bare rfl)⟩ hq
  · obtain⟨h1,h2,h3⟩:=hE e m6 he
    exact⟨Ct _ h1,h2,λ_=>h3⟩
end
section
variable{P:Program}{w:World}{X:Cx}{Fa:fB}{Qf:Hp->Prop}{Er:Value->Shared->Prop}{a S:Addr}{g:Nat}{go:Obj}{A:Around}{R:Result->Shared->Prop}{res:Value}
theorem Xr (hh:A.handled=none)(hd:A.depth<recursionLimit)(Ct:∀h:Heap,h.get? a=some go->h.IsGen a g)(HY:(a,go)∈X.pn)
    (hend:∀σ H s1,kj X Fa [] σ H s1->Qf H->R (.ok (.ret res)) s1)
    (HM:∀e s1,Er e s1->s1.heap.get? a=some go/\NotStop (model P w) e s1.heap/\R (.error e) (s1.setGen g .finished)):
    ∀(m:Nat) (s:Shared),s.heap.get? a=some go->s.heap.NoLimit->vA P w X Fa jd (oB S) Qf Er g A.in1.in1 m s->
      codeAny (model P w) A (.builtin "list.extend.loop" ⟨[.ref S,.ref a,res],[]⟩) R s:=by
  intro m;induction m using Nat.strongRecOn with
  |ind m ih=>
    intro s hg hl hs;refine codeAny_builtin F.entry_extend_loop ?_;rw[Around.under_plainId F.plain_extend_loop _];show wpAny _ A.in1 (pyNext (.ref a) >>=_) _ _ s
    refine wpAny_bind (Jq (A:=A.in1) hh hd hl Ct hg HY hs (λv x cp ip σ H oh s1 hc hi bL I hq hk=>?_) (λcp σ H s1 hc I hq=>?_) HM)
    · obtain rfl:cp=[]:=List.map_eq_nil_iff.mp hc.1
      obtain⟨acc,hS,hz,hq⟩:=hq;obtain⟨t,cg,I⟩:=I;rw[List.nil_append]at I;obtain⟨_,its,c,w_,hle,eS⟩:=I.lstM hS;show wpAny _ A.in1 (updateSeq S (·.push v) >>=_) _ _ _
      refine wpAny_bind ?_;refine wpAny_updateSeq eS rfl (wpAny_pure ⟨plainId_quiet F.plain_extend_loop _,?_⟩) (by rw[List.size_toArray];omega) (by show(its.toArray.push v).size<=sizeLine+1;rw[Array.size_push,List.size_toArray];omega);have cJ:=I.lset (its':=its++[v]) (t':=s1.toks) (f:=(·.push v)) hS eS (by simp) (w_.append (.cons bL .nil)) (by rw[List.length_append,List.length_singleton];omega);obtain⟨m',hm,pZ⟩:=hk {s1 with heap:=s1.heap.update S (Obj.mapSeq (·.push v))} _ [] ⟨rfl,trivial⟩ hq ⟨t,cg,by rw[List.nil_append];exact cJ⟩ rfl;exact ih m' hm _ (cJ.pin (a,go) (List.mem_append_left _ HY)).1 cJ.nolimit pZ
    · obtain rfl:cp=[]:=List.map_eq_nil_iff.mp hc.1
      exact wpAny_pure (hend σ H s1 I hq)
end
section
variable{P:Program}{w:World}{K:Frag}{mg:Str->Option Value}{base:Heap}{k:Nat}{f:Addr}{qual:Str}{body:List Stmt}{scope:Scope}{cdv:Value}{N:List Str}{outer:List Env}{s s1:Shared}{H:Hp}{vs:List V}{a:Addr}{g:Nat}{go:Obj}{A:Around}{E:XK}
theorem Ws {Fa:fB}(hFa:Fa s){Q':Value->Shared->Prop}{Lx:Value->Shared->Prop}(hr:Room (k+1) A)(hfr:A.frames=some outer)(G:ve P w K mg base N qual scope f cdv body k outer s H vs a g go s1)
    (hb:∀S,H S=none->∃Qf:Hp->Prop,rm (gcxOf P w K mg base N qual scope f cdv A.in1.in1.in1 outer s H E [(a,go)]) Fa jd (oB S) sizeLine body {nx:=λ_ _ H'=>Qf H',rt:=λ_ v H'=>v=.non/\Qf H'} 0 (start N vs) (upd H S (.lst []))/\
      ∀σ H' aF,kj (gcxOf P w K mg base N qual scope f cdv A.in1.in1.in1 outer s H E [(a,go)]) Fa [] σ H' aF->Qf H'->Q' (.ref S) aF)
    (HM:∀e aF,CX P w outer H s E e aF->NotStop (model P w) e aF.heap/\Lx e (aF.setGen g .finished)):
    wpAny (model P w) A (call (.type "list") [.ref a]) Q' Lx s1:=by
  have ha2:a<s1.heap.objs.size:=Heap.lt_size G.at_;have hSa:s1.heap.objs.size≠a:=Nat.ne_of_gt ha2;have hcl:cStatics<s1.heap.objs.size:=let⟨_,hn,_⟩:=G.lim;hn.lt;have jO:Room k A.in1.in1.in1:=⟨hr.hd,by have:=hr.dp;show A.depth+3*k+5<_;omega,by have:=hr.un;show A.units+1+1+1+16*k+200<_;omega⟩;have LN:=G.inv A.in1.in1.in1 E jO hfr;have YK:H s1.heap.objs.size=none:=LN.hok.fresh (Nat.le_refl _);obtain⟨Qf,hb,hQ⟩:=hb _ YK;refine callType_codes (Q₁:=λobj m6=>obj=.ref s1.heap.objs.size/\m6={s1 with heap:=s1.heap.push {cls:=.type "list",data:=.seq #[]}}) F.called_list (F.typeCall_list_1 _) F.entry_list_init
    (code_list_new _ ⟨rfl,rfl⟩) λobj m6 qL=>?_
  obtain⟨rfl,rfl⟩:=qL;have hS:(s1.heap.push {cls:=.type "list",data:=.seq #[]}).get? s1.heap.objs.size=some {cls:=.type "list",data:=.seq #[]}:=Heap.get?_push_size _ rfl;refine⟨⟨_,hS,rfl⟩,F.args_list_init_2 _ _,?_⟩;show wpAny _ A.in1.in1 (do let old <-Builtin.List.listItems (.ref s1.heap.objs.size);Builtin.List.listUpdate (.ref s1.heap.objs.size) (λ_=>#[]);letGo old.toList.reverse;Builtin.List.listExtendWith (.ref s1.heap.objs.size) (.ref a) .none) _ _ _
  refine wpAny_bind ?_;unfold Builtin.List.listItems;refine wpAny_bind (wpAny_seqItems hS rfl (wpAny_pure ?_));show wpAny _ A.in1.in1 (updateSeq s1.heap.objs.size (λ_=>#[]) >>=λ_=>letGo (#[]:Array Value).toList.reverse >>=λ_=>Builtin.List.listExtendWith (.ref s1.heap.objs.size) (.ref a) .none) _ _ _
  refine wpAny_bind (wpAny_updateSeq hS rfl ?_);have hS2:=Heap.get?_update_self (Obj.mapSeq (λ_=>(#[]:Array Value))) hS rfl;refine wpAny_bind (wpAny_letGo ?_);unfold Builtin.List.listExtendWith;have up:∀(h:Heap) (f:Obj->Obj),(∀b o,s1.heap.get? b=some o->h.get? b=some o)->∀b o,s1.heap.get? b=some o->(h.update s1.heap.objs.size f).get? b=some o:=λh f q b o e=>
    (Heap.get?_update_other _ _ (Ne.symm (Nat.ne_of_lt (Heap.lt_size e)))).trans (q b o e)
  have k1:∀b o,s1.heap.get? b=some o->(s1.heap.push {cls:=.type "list",data:=.seq #[]}).get? b=some o:=λb o e=>Heap.get?_push_of_some _ e
  have k2:=up _ (Obj.mapSeq (λ_=>(#[]:Array Value))) k1;have Cg:∀{h:Heap},(∀b o,s1.heap.get? b=some o->h.get? b=some o)->h.IsGen a g:=λ{h} q=>G.wB h (q a go G.at_)
  refine wpAny_bind (wpAny_typeOf (Heap.IsGen.typeIs (s:={s1 with heap:=_}) (Cg k2)) ?_);have h1:Builtin.List.listSameRef (.ref s1.heap.objs.size) (.ref a)=false:=by simp[Builtin.List.listSameRef,hSa]
  have h2:(Value.type "generator"==Value.type "list")=false:=by decide
  have h3:(Value.type "generator"==Value.type "tuple")=false:=by decide
  simp only[h1,h2,h3,Bool.or_false,Bool.false_eq_true,if_false];refine wpAny_bind (wpAny_pyIter_gen (s:={s1 with heap:=_}) (Cg k2) ?_);refine wpAny_bind (wpAny_holding ?_);unfold Builtin.List.listLengthHint;refine wpAny_bind (wpAny_specialOf (Heap.IsGen.typeIs (s:={s1 with heap:=_}) (Cg k2)) F.gen_no_len ?_);show wpAny _ A.in1.in1 (specialOf (Value.ref a) (Str.ofString "__length_hint__") >>=_) _ _ _
  refine wpAny_bind (wpAny_specialOf (Heap.IsGen.typeIs (s:={s1 with heap:=_}) (Cg k2)) F.gen_no_hint ?_);refine wpAny_pure ?_;show wpAny _ A.in1.in1 (rule "list.extend.makes-room" >>=λ_=>Builtin.List.listTouch (.ref s1.heap.objs.size) >>=λ_=>
    again (.builtin "list.extend.loop" ⟨[.ref s1.heap.objs.size,.ref a,.none],[]⟩)) _ _ _
  refine wpAny_bind (wpAny_rule ?_);refine wpAny_bind ?_;show wpAny _ A.in1.in1 (updateSeq s1.heap.objs.size (·.push .none) >>=λ_=>updateSeq s1.heap.objs.size (·.pop)) _ _ _
  refine wpAny_bind (wpAny_updateSeq hS2 rfl ?_);have OT:=Heap.get?_update_self (Obj.mapSeq (·.push Value.none)) hS2 rfl;refine wpAny_updateSeq (hz:=by seq_fits) OT rfl ?_;have YJ:=Heap.get?_update_self (Obj.mapSeq (·.pop)) OT rfl;have k4:=up _ (Obj.mapSeq (·.pop)) (up _ (Obj.mapSeq (·.push Value.none)) k2);refine wpAny_pure ⟨plainId_quiet F.plain_extend_loop _,?_⟩
  have bE:Inv (gcxOf P w K mg base N qual scope f cdv A.in1.in1.in1 outer s H E [(a,go)]) [] (start N vs) (upd H s1.heap.objs.size (.lst [])) {s1 with heap:=(((s1.heap.push {cls:=.type "list",data:=.seq #[]}).update s1.heap.objs.size (Obj.mapSeq λ_=>#[])).update s1.heap.objs.size (Obj.mapSeq λx=>x.push Value.none)).update s1.heap.objs.size (Obj.mapSeq λx=>x.pop)}:=
    LN.laid (t':=s1.toks) k4 (Nat.le_refl _) ⟨Nat.zero_le _,[],_,.nil,YJ⟩
  refine Xr (Fa:=Fa) (P:=P) (w:=w) (X:=gcxOf P w K mg base N qual scope f cdv A.in1.in1.in1 outer s H E [(a,go)]) (Qf:=Qf) (S:=s1.heap.objs.size) (A:=A.in1) (g:=g) (Er:=λe aF=>CX P w outer H s E e aF/\∀p∈[(a,go)],aF.heap.get? p.1=some p.2) hr.hd (by have:=hr.dp;show A.depth<_;omega) G.wB (List.mem_singleton.mpr rfl)
    (λσ H' aF eV hq=>⟨rfl,hQ σ H' aF eV hq⟩) (λe aF ⟨hc,hp⟩=>⟨hp (a,go) (List.mem_singleton.mpr rfl),HM e aF hc⟩) sizeLine _ (k4 a go G.at_) bE.nolimit ⟨_,G.gen,rfl,?_⟩
  exact KD (aH:=jd) (cp:=[]) ⟨rfl,trivial⟩ ⟨s,hFa,CB bE rfl⟩ hb
end
def m9.Dy (G:m9)(X:Cx)(E:XK)(Fa:fB)(aH:eG)(cons:Cons)(Qf:Hp->Prop)(aO:Hp):Prop:=
 ∀A:Around,Room G.k A->A.frames=some X.stack->rm (G.gQ X A E) Fa aH cons sizeLine G.body {nx:=λ_ _ H'=>Qf H',rt:=λ_ v H'=>v=.non/\Qf H'} 0 (start G.N G.vs) aO
end R
namespace R
open PySem PySem.Spec PyProof.Rows L2 GenW
variable[aI]
section
variable(X:Cx)(Fa:fB)(W:WX)
structure yg (aH:eG)(cons:Cons)(S:Addr)(st:Stmt)(f:dP):Prop where
 run:∀ρ c L M av au H1 aa G σ H D,Acc X.K S av au H1 L aa G M H->H1 S=none->bO X.K aa G σ ρ->wp (f ρ c L M) (mq X W D S av au H1 aa G)->Aw X Fa aH cons sizeLine st D c σ H
structure nq (aH:eG)(cons:Cons)(S:Addr)(st:List Stmt)(f:dP):Prop where
 run:∀ρ c L M av au H1 aa G σ H D,Acc X.K S av au H1 L aa G M H->H1 S=none->bO X.K aa G σ ρ->wp (f ρ c L M) (mq X W D S av au H1 aa G)->rm X Fa aH cons sizeLine st D c σ H
end
section
variable{X:Cx}{Fa:fB}{W:WX}{aH:eG}{cons:Cons}{S:Addr}{st:Stmt}{rest body orelse:List Stmt}{f g a b:dP}{e bD it:Expr}{pos u6:Pos}{qz:CE}{cg:dB}{ct:Flt}
theorem af1 (h1:yg X Fa W aH cons S st f)(h2:nq X Fa W aH cons S rest g):nq X Fa W aH cons S (st::rest) (r5 f g):=⟨λρ c L M av au H1 aa G σ H D ac hS en w=>by
 refine K_ (h1.run ρ c L M av au H1 aa G σ H _ ac hS en (wp_mono (λr hr=>?_) (cz.mp w)));cases r with
 |ex k fs M1=>exact hr
 |ok v M1=>
  cases v with
  |nx aT c1 dX=>exactλaj ai H' aN l1 a1 e1=>h2.run aT c1 dX M1 av au H1 aj ai aN H' D a1 hS e1 (wp_mono (λ_=>mq.shift l1) hr)
  |bk aT c1 dX=>exact hr
  |ct aT c1 dX=>exact hr⟩
theorem KG (h1:yg X Fa W aH cons S st f):nq X Fa W aH cons S [st] f:=⟨λρ c L M av au H1 aa G σ H D ac hS en w=>by
 refine K_ (h1.run ρ c L M av au H1 aa G σ H _ ac hS en (wp_mono (λr hr=>?_) w));cases r with
 |ex k fs M1=>exact hr
 |ok v M1=>
  cases v with
  |nx aT c1 dX=>exactλaj ai H' aN l1 a1 e1=>agv (hr aj ai H' aN l1 a1 e1)
  |bk aT c1 dX=>exact hr
  |ct aT c1 dX=>exact hr⟩
end
end R
namespace R
open PySem PySem.Spec PyProof.Rows L2 GenW
section
variable{X:Cx}{pins:List (Addr×Obj)}{σ:L2.St}{H:Hp}{s aF:Shared}
def U_ (X:Cx)(σ:L2.St)(h:Heap)(m:Str->Option Value):Prop:=∀(i:Nat) (x:Str) (v:V),X.N[i]?=some x->σ[i]?=some (some v)->Vis X.env.scope x->∃u,RelV v u/\Look X.env h m x u
theorem aa7 {i:Nat}{x:Str}{v:V}{u:Value}{m:Str->Option Value}(I:Inv X pins σ H s)(hN:X.N.Nodup)(hi:X.N[i]?=some x)(hk:X.env.scope.names.lookup x=some .local)(hn:s.heap.Ns X.env.locals m)(hl:U_ X σ s.heap m)(r:RelV v u)
    (lP:aF.heap.Ns X.env.locals λy=>if y=x then some u else m y) (kp:∀b o,b≠X.env.locals->s.heap.get? b=some o->aF.heap.get? b=some o) (ho:aF.os=s.os) (hb:AllBare aF.gens):Inv X pins (σ.set i (some v)) H aF:=by
  have old:∀b o,X.s_0.heap.get? b=some o->b≠X.env.locals:=λb o e=>Nat.ne_of_lt (Nat.lt_of_lt_of_le (Heap.lt_size e) I.ok.above)
  have Zq:i<σ.length:=by rw[I.len];exact(List.getElem?_eq_some_iff.mp hi).1
  have yv:∀c w,c≠X.env.locals->s.heap.IsCell c w->aF.heap.IsCell c w:=λc w hc ⟨o,h1,h2⟩=>⟨o,kp c o hc h1,h2⟩
  refine⟨I.ok,ho.trans I.os,hb,⟨λb o e n hf hx=>kp b o (old b o e) (I.base.keep b o e n hf hx),λb o e n hf hx=>?_,I.base.free,λb o e hx=>?_,I.base.tups,I.base.frzs,I.base.tbls⟩,⟨_,lP,λj y w e1 e2 e3=>?_⟩,λy c e=>?_,I.free,I.freeC,λp hp=>?_,λb ob e=>?_,by simpa using I.len⟩
  · obtain⟨sl,e1⟩:=I.base.slot b o e n hf hx
    exact⟨sl,kp b _ (old b o e) e1⟩
  · obtain⟨cj,e1⟩:=I.base.there b o e hx
    exact⟨cj,kp b _ (old b o e) e1⟩
  · by_cases hj:j=i
    · subst hj
      rw[hi]at e1;cases e1
      rw[List.getElem?_set_self Zq]at e2;cases e2
      exact⟨u,r,.inl ⟨hk,by simp⟩⟩
    · rw[List.getElem?_set_ne (Ne.symm hj)]at e2
      obtain⟨xH,fU,q⟩:=hl j y w e1 e2 e3;refine⟨xH,fU,?_⟩;rcases q with⟨k,e⟩|⟨k,c,e,z⟩
      · have acm:y≠x:=λe=>hj (nodup_ix hN e1 (e▸hi))
        exact .inl ⟨k,by simp[acm,e]⟩
      · exact .inr ⟨k,c,e,yv c _ (I.cne y c e) z⟩
  · obtain⟨w,z⟩:=I.cell y c e
    exact⟨w,yv c _ (I.cne y c e) z⟩
  · obtain⟨e,n,ne,o8,d⟩:=I.pin p hp
    exact⟨kp _ _ ne e,n,ne,o8,d⟩
  · refine(I.hok b ob e).stay (λc w hc q=>kp c w (λz=>?_) q) (λ_ q=>q) λ_ _ q=>q
    rw[z]at hc;have fr:=I.free;rcases hc with hc|hc
    · rw[<-hc,fr]at e;cases e
    · rw[fr]at hc;cases hc
theorem Ot {h h' base:Heap}{L:Addr}{oL:Obj}(k:∀b o,b≠L->h.get? b=some o->h'.get? b=some o)(hL:h'.get? L=some oL)(hd:∀vs,oL.data≠.fields vs):∀{l:List Env},h.FunFrames base l->h'.FunFrames base l
 |[],_=>trivial
 |env::rest,⟨h1,⟨a,o,h2,h3,h4,c6⟩,cN⟩=>by
  refine⟨h1,?_,Ot k hL hd cN⟩;by_cases e:a=L
  ·subst e
   exact⟨a,oL,h2,h3,hL,hd⟩
  ·exact⟨a,o,h2,h3,k a o e h4,c6⟩
theorem aa6 {t t':Shared}{L:Addr}{oL:Obj}(I:Inv (gi X t) pins σ H s)(hL:L∈frs X.outer)(hT:∃m,t.heap.Ns L m)(nd:∃es eZ,oL.data=.dict es eZ)(sz:t'.heap.objs.size=t.heap.objs.size)(k1:∀b,b≠L->t'.heap.get? b=t.heap.get? b)(l1:t'.heap.get? L=some oL)(o1:t'.os=t.os)
    (k2:∀b,b≠L->aF.heap.get? b=s.heap.get? b) (l2:aF.heap.get? L=some oL) (lX:aF.os=s.os) (hb:AllBare aF.gens):Inv (gi X t') pins σ H aF:=by
  obtain⟨es,eZ,nd⟩:=nd;obtain⟨q1,oT,q2,q3⟩:=I.ok.funs.mem hL;have q1:X.base.get? L=none:=q1;have q2:t.heap.get? L=some oT:=q2;have nb:∀b o,X.base.get? b=some o->b≠L:=λb o e z=>by rw[z,q1]at e;cases e
  have hn:H L=none:=I.base.free L oT q2 (I.ok.frf L hL) λz=>I.ok.exfs L z hL
  obtain⟨sl,e1⟩:=I.base.slot L oT q2 (I.ok.frf L hL) hL λz=>I.ok.exfs L z hL
  have lt:L<t.heap.objs.size:=Heap.lt_size q2;have ac4:L≠X.env.locals:=Nat.ne_of_lt (Nat.lt_of_lt_of_le lt I.ok.above);have ac3:∀vs,oL.data≠.fields vs:=λvs z=>by rw[nd]at z;cases z
  have uz:∀b o,b≠L->s.heap.get? b=some o->aF.heap.get? b=some o:=λb o hb e=>(k2 b hb).trans e
  have ac1:∀c w,s.heap.IsCell c w->c≠L:=λc w ⟨o,h1,h2⟩ z=>by
    obtain⟨m,acp,aiq,aip,hN,hd,_⟩:=hT;have hN:t.heap.get? L=some acp:=hN;rw[q2]at hN;cases hN
    rw[z]at h1;rw[e1]at h1;cases h1
    have h2:oT.data=_:=h2;rw[hd]at h2;cases h2
  have yv:∀c w,s.heap.IsCell c w->aF.heap.IsCell c w:=λc w z=>by
    have hc:=ac1 c w z;obtain⟨o,h1,h2⟩:=z;exact⟨o,uz c o hc h1,h2⟩
  refine⟨⟨I.ok.mod,I.ok.kind,I.ok.glob,I.ok.blt,?_,I.ok.inj,I.ok.has,λy c h1 h2=>?_,I.ok.hd,I.ok.frames,I.ok.stk,I.ok.exf,λb o e=>?_,?_,I.ok.noex,I.ok.exfs,?_,I.ok.frf⟩,?_,hb,⟨λb o e n hf hx=>?_,λb o e n hf hx=>?_,λb o e n hx=>?_,λb o e hx=>?_,I.base.tups,I.base.frzs,I.base.tbls⟩,?_,λy c e=>?_,I.free,I.freeC,λp hp=>?_,λb ob e=>?_,I.len⟩
  · show t'.heap.objs.size<=_
    rw[sz];exact I.ok.above
  · show t'.heap.objs.size<=_
    rw[sz];exact I.ok.cab y c h1 h2
  · obtain⟨fY,d_⟩:=I.ok.bs b o e
    exact⟨(k1 b (nb b o e)).trans fY,d_⟩
  · show _<=t'.heap.objs.size
    rw[sz];exact I.ok.bsz
  · exact Ot (λb o hb e=>(k1 b hb).trans e) l1 ac3 I.ok.funs
  · exact(lX.trans I.os).trans o1.symm
  · have mL:b≠L:=λz=>hf (z▸hL)
    have e:t'.heap.get? b=some o:=e;rw[k1 b mL]at e;exact uz b o mL (I.base.keep b o e n hf hx)
  · have e:t'.heap.get? b=some o:=e
    by_cases mL:b=L
    · subst mL
      rw[l1]at e;cases e
      exact⟨oL.slots,l2⟩
    · rw[k1 b mL]at e
      obtain⟨sl,e2⟩:=I.base.slot b o e n hf hx;exact⟨sl,uz b _ mL e2⟩
  · have e:t'.heap.get? b=some o:=e
    by_cases mL:b=L
    · rw[mL];exact hn
    · rw[k1 b mL]at e
      exact I.base.free b o e n hx
  · have e:t'.heap.get? b=some o:=e
    by_cases mL:b=L
    · rw[mL];exact⟨oL,l2⟩
    · rw[k1 b mL]at e
      obtain⟨cj,e2⟩:=I.base.there b o e hx;exact⟨cj,uz b _ mL e2⟩
  · obtain⟨m,⟨o,BU,XG,h1,h2⟩,hl⟩:=I.loc
    refine⟨m,⟨o,BU,XG,uz _ _ (Ne.symm ac4) h1,h2⟩,λi y v a1 a2 a3=>?_⟩;obtain⟨u,r,q⟩:=hl i y v a1 a2 a3;exact⟨u,r,q.imp id λ⟨k,c,e,z⟩=>⟨k,c,e,yv c _ z⟩⟩
  · obtain⟨w,z⟩:=I.cell y c e
    exact⟨w,yv c _ z⟩
  · obtain⟨e,n,ne,o8,d⟩:=I.pin p hp
    exact⟨uz _ _ (λz=>o8 (z▸hL)) e,n,ne,o8,d⟩
  · refine(I.hok b ob e).stay (λc w hc q=>uz c w (λz=>?_) q) (λ_ q=>q) λ_ _ q=>q
    rw[z]at hc;rcases hc with hc|hc
    · rw[<-hc,hn]at e;cases e
    · rw[hn]at hc;cases hc
theorem agM {l x:Str}{eU ix k:Nat}{qV j_ qW kW kY p9 pos:Pos}{e:Expr}{S:Addr}{D:Ends}(hc:X.calm=true)(hr:Room (k+1) X.A)(hs:∀x,foldedSetIterable e X.env x=pure x)(hN:X.N.Nodup)(zf:X.N[ix]?=some x)(zj:X.env.scope.names.lookup x=some .local)
    (nK:X.N[eU]?=some l) (zg:X.env.scope.names.lookup l=some .local) (zv:l≠x) (r9:(x==("__debug__":Str))=false) (Za:(l==("__debug__":Str))=false) (ez:X.stack=X.env::X.outer/\X.env.frame=some X.env.locals) (wu:σ[eU]?=some (some (.ref S)))
    (hint:interactive X.env=false) (hsw:swapsWith (.Call (.Attribute (.Name l j_) "append" qW) [.Name x kW] [] kY) none p9.line X.env=pure false)
    (yY:attributeBase (.Name l j_) "append" X.env (eval (.Name l j_) X.env)=eval (.Name l j_) X.env)
    (zd:((backTo kY (starEach [.Name x kW] X.env)).all (λx=>!x.1)&&(backToKw kY (keywordEach [] X.env)).all (λx=>x.1.isSome)
      &&decide (([.Name x kW]:List Expr).length+([]:List Keyword).length+(if([]:List Keyword).isEmpty then 0 else 1)<30))=true) (zk:(qW.endLine==kY.line)=true)
    (H_:backTo kY (starEach [.Name x kW] X.env)=[(false,eval (.Name x kW) X.env)])
    (h:Ax X e k σ H λG=>G.H S=some (.lst [])/\∃Qf:Hp->Prop,(∀Fa,pM (G.gQ X X.A.in1 jS) Fa->G.Dy X jS Fa jd (oB S) Qf G.H)/\∀H' aN,aN.length=σ.length->(∀i,i≠ix->aN[i]?=σ[i]?)->Qf H'->D.nx aN H'):
    wS X (.For (.Name x qV) e [.Expr (.Call (.Attribute (.Name l j_) "append" qW) [.Name x kW] [] kY) p9] [] pos) D σ H:=by
  intro pins s I;refine wpAny_For (thn (h pins s I) λu s1 ⟨G,M,hk,aiP,Qf,qK,hq⟩=>?_) hs;obtain rfl:=M.val;subst hk;refine wpAny_pyIter_gen (M.made.wB _ M.made.at_) ?_;obtain⟨Fa,hFa⟩:∃Fa:fB,Fa=λt=>t.heap.objs.size=G.sc.heap.objs.size/\∃qj:L2.St,qj.length=σ.length/\(∀i,i≠ix->qj[i]?=σ[i]?)/\Inv X pins qj G.H t:=⟨_,rfl⟩
  have hF:pM (G.gQ X X.A.in1 jS) Fa:=λt cg=>by rw[hFa]at cg;exact cg.1
  have zp:Room G.k X.A.in1:=⟨hr.hd,by have:=hr.dp;show X.A.depth+3*G.k+5<_;omega,by have:=hr.un;show X.A.units+1+16*G.k+200<_;omega⟩;have Ej:=M.made.inv X.A.in1 jS zp M.inv.ok.frames;have OS:X.env.locals∈frs X.stack:=by
    rw[ez.1];unfold frs;rw[List.filterMap_cons,ez.2];exact List.mem_cons_self
  have hkind:X.env.scope.kind=.function:=M.inv.ok.kind;have HG:(X.env.scope.kind==.class||(X.env.scope.kind==.module&&X.env.locals !=X.env.globals))=false:=by rw[hkind];rfl
  have sl:vA X.prog X.w (G.gQ X X.A.in1 jS) Fa jd (oB S) Qf (λe aF=>CX X.prog X.w X.stack G.H G.sc jS e aF/\∀p∈[(G.a,G.go)],aF.heap.get? p.1=some p.2) G.g X.A.in1 sizeLine s1:=by
    refine⟨.fresh (.func G.body (envOfC G.qual G.scope G.sc.heap.objs.size G.f G.cd)),M.made.gen,rfl,?_⟩;exact KD (aH:=jd) (cp:=[]) ⟨rfl,trivial⟩ ⟨G.sc,by rw[hFa];exact⟨rfl,σ,rfl,λ_ _=>rfl,M.inv⟩,CB Ej rfl⟩ (qK Fa hF X.A.in1 zp M.inv.ok.frames)
  refine codeAny_forLoop (λn s=>s.heap.get? G.a=some G.go/\s.heap.NoLimit/\vA X.prog X.w (G.gQ X X.A.in1 jS) Fa jd (oB S) Qf (λe aF=>CX X.prog X.w X.stack G.H G.sc jS e aF/\∀p∈[(G.a,G.go)],aF.heap.get? p.1=some p.2) G.g X.A.in1 n s) (λn s hI=>?_) sizeLine ⟨M.made.at_,M.made.lim,sl⟩;obtain⟨hg,hl,H7⟩:=hI;refine Jq (X:=G.gQ X X.A.in1 jS) (M.inv.ok.hd hc) (by have:=hr.dp;omega) hl M.made.wB hg (List.mem_singleton.mpr rfl) H7 (λv xv cp ip AF qn oh s2 uq hi bL cJ HH hk=>?_) (λcp AF qn s2 uq cJ hQ=>?_) λe s2 ⟨he,hp⟩=>?_
  · obtain rfl:cp=[]:=List.map_eq_nil_iff.mp uq.1
    obtain⟨acc,hS,hz,YH⟩:=HH;obtain⟨t,cg,cJ⟩:=cJ;rw[hFa]at cg;obtain⟨sz,qj,a1,a2,It⟩:=cg;rw[List.nil_append]at cJ;have LP:Inv X pins qj qn s2:=It.call' (ch:=[]) cJ.os cJ.base cJ.hok cJ.bare λb hb=>by simp at hb
    obtain⟨m,hn,Cv⟩:=It.loc;obtain⟨oT,es,eZ,q1,q2,q3⟩:=id hn;obtain⟨slt,e1⟩:=cJ.base.slot X.env.locals oT q1 It.free OS λz=>by
      have z:X.env.locals∈([]:List Addr):=z;simp at z
    have oS:s2.heap.Ns X.env.locals m:=⟨_,es,eZ,e1,q2,q3⟩;refine wpAny_assign_Name (wpAny_storeName_local zj oS (λh' lP pZ=>?_) HG);obtain⟨oL,N8,N4,r1,r2,r3⟩:=id lP;obtain⟨t3,wo⟩:∃t3:Shared,t3={t with heap:=t.heap.update X.env.locals λ_=>oL}:=⟨_,rfl⟩;have g1:t3.heap.get? X.env.locals=some oL:=by rw[wo];exact Heap.get?_update_self (λ_=>oL) q1 (Obj.isFreed_of_dict r2)
    have g2:∀b,b≠X.env.locals->t3.heap.get? b=t.heap.get? b:=λb hb=>by rw[wo];exact Heap.get?_update_other _ _ (Ne.symm hb)
    have g3:t3.heap.objs.size=t.heap.objs.size:=by rw[wo];exact Heap.size_update _ _ _
    have U4:Inv X pins (qj.set ix (some xv)) G.H t3:=aa7 It hN zf zj hn Cv bL ⟨oL,N8,N4,g1,r2,r3⟩ (λb o hb e=>(g2 b hb).trans e) (by rw[wo]) (by rw[wo];exact It.bare);have AO:Inv (gi (G.gQ X X.A.in1 jS) t3) ip AF qn {s2 with heap:=h',toks:=s2.toks+1}:=aa6 cJ OS ⟨m,hn⟩ ⟨N8,N4,r2⟩ g3 g2 g1 (by rw[wo]) pZ.2 r1 rfl cJ.bare;obtain⟨fY,its,c,w_,hle,eS⟩:=AO.lstM hS;have H7:eU≠ix:=λz=>zv (by
      rw[z,zf]at nK;exact(Option.some.inj nK).symm)
    have ZD:m l=some (.ref S):=by
      obtain⟨u,kg,lk⟩:=Cv eU l (.ref S) nK (by rw[a2 eU H7];exact wu) (.inl zg);have kg:u=.ref S:=kg;rcases lk with⟨_,lk⟩|⟨kk,_⟩
      · rw[lk,kg]
      · have kk:X.env.scope.names.lookup l=some .cell\/X.env.scope.names.lookup l=some .free:=kk
        rcases kk with kk|kk<;>(rw[zg]at kk;cases kk)
    refine wpAny_execs_cons (wpAny_Expr ?_ hint hsw);refine wpAny_Call_append yY zd zk H_ ?_;refine wpAny_Name (wpAny_loadName_local hkind zg lP (v:=.ref S) (by rw[if_neg zv];exact ZD) ?_) Za;refine⟨S,its.toArray,rfl,⟨_,c,eS,rfl,rfl,rfl⟩,?_⟩;refine wpAny_Name (wpAny_loadName_local hkind zj lP (v:=v) (by simp) ?_) r9;refine wpAny_list_append_plain ⟨c,eS⟩ (λpW pl sb=>?_) (by rw[List.size_toArray];omega);obtain⟨c2,pl⟩:=pl;refine wpAny_execs_nil ?_;have xZ:Inv (gi (G.gQ X X.A.in1 jS) t3) ip AF (upd qn S (.lst (acc++[xv]))) {s2 with heap:=pW,toks:=s2.toks+1}:=AO.write (t':=s2.toks+1) (by rw[hS];trivial) (.inl rfl) (λb u hb q=>(sb.2 b hb).trans q) ⟨_,pl⟩ ⟨by rw[List.length_append];exact hz,its++[v],c2,w_.append (.cons bL .nil),by
      rw[pl];simp⟩
    obtain⟨m',hm,ZQ⟩:=hk {s2 with heap:=pW,toks:=s2.toks+1} _ [] ⟨rfl,trivial⟩ YH ⟨t3,by
      rw[hFa];refine⟨g3.trans sz,_,by simpa using a1,λi hi=>?_,U4⟩;rw[List.getElem?_set_ne (Ne.symm hi)];exact a2 i hi,by rw[List.nil_append];exact xZ⟩ rfl
    exact⟨m',hm,(xZ.pin (G.a,G.go) (List.mem_append_left _ (List.mem_singleton.mpr rfl))).1,xZ.nolimit,ZQ⟩
  · obtain rfl:cp=[]:=List.map_eq_nil_iff.mp uq.1
    obtain⟨t,cg,cJ⟩:=cJ;rw[hFa]at cg;obtain⟨sz,qj,a1,a2,It⟩:=cg;have LP:Inv X pins qj qn s2:=It.call' (ch:=[]) cJ.os cJ.base cJ.hok cJ.bare λb hb=>by simp at hb
    refine wpAny_execs_nil ?_;exact⟨qj,qn,LP,hq qn qj a1 a2 hQ⟩
  · obtain⟨_,_,_,_,_,_,_,_,_,_,_,_,z⟩:=he
    exact z.elim
end
end R
namespace R
open PySem PySem.Spec PyProof.Rows L2 GenW
variable[aI]
structure MK (X:Cx)(W:WX)(k:Nat)(e:Expr)(f:CE):Prop where
 run:∀ρ M aa G σ H (jm:Re af->Prop),aE X.K aa G M H->bO X.K aa G σ ρ->wp (f ρ M) (λr=>match r with|.ok s ao=>jm (.ok s ao)|.ex c fs ao=>PX X W σ aa G H c fs ao)->
  Ax X e k σ H λa_=>∃av au M1 ss np b,aG aa G H av au a_.H/\aE X.K av au M1 a_.H/\bA X.K av au a_.vs ss/\a_.N.length-np=a_.N.length-ss.length/\
   (∀(A:Around) (S:Addr) (Fa:fB),Room k A->pM (a_.gQ X A jS) Fa->nq (a_.gQ X A jS) Fa lE jd (oB S) S a_.body b)/\wp (qQ np a_.N.length b ss M1) jm
section
variable{X:Cx}{W:WX}{k:Nat}{e o:Expr}{aJ f:CE}{m:Str}{pos apos p:Pos}
theorem Ys {a_:m9}{np:Nat}{b:dP}{S:Addr}{aH:eG}{cons:Cons}{aa:List Addr}{gO H1:Hp}{M:List ak}{ss:List af}{Qd:Addr->Hp->Prop}{Fa:fB}
    (hb:∀A:Around,Room a_.k A->nq (a_.gQ X A jS) Fa lE aH cons S a_.body b) (hn:a_.N.length-np=a_.N.length-ss.length) (ms:aE X.K aa gO M H1) (r:bA X.K aa gO a_.vs ss) (hS:H1 S=none)
    (w:wp (qQ np a_.N.length b ss M) (n_ X.K Qd aa gO H1)):a_.Dy X jS Fa aH cons (λH'=>Qd S H') (upd H1 S (.lst [])):=by
  intro A jO hfr;unfold qQ at w;split at w
  · rename_i e
    have en:=vX (K:=X.K) (aa:=aa) (G:=gO) (N:=a_.N) r;rw[<-e]at w;refine(hb A jO).run _ 0 [] M aa gO H1 aa gO (start a_.N a_.vs) (upd H1 S (.lst [])) _ (A6 (X:=X) hS ms) hS en (wp_mono (λr hr=>?_) (wp_bind.mp w));cases r with
    |ex c fs M1=>exact(show False from hr).elim
    |ok v M1=>
      cases v with
      |nx aT c1 dX=>
        intro aj ai H' aN _ a1 _;obtain⟨L,GL,q⟩:=(show n_ X.K Qd aa gO H1 (.ok (.dat (.lst dX)) (cut M.length M1))from hr);cases GL
        rw[show M.length=aa.length from ms.len.symm]at q;exact MS a1 λaM a2=>q aa gO H1 aM ai H' S (aG.refl _ _ _) hS a2
      |bk aT c1 dX=>exact(show False from hr).elim
      |ct aT c1 dX=>exact(show False from hr).elim
  · exact w.elim
end
abbrev qa (H:Hp)(S:Addr):Hp:=λa=>if a=S then none else H a
section
variable{K:Frag}{aa aj:List Addr}{G ai H H':Hp}{M:List ak}{S:Addr}
theorem lW {a:Addr}(h:a≠S):qa H S a=H a:=if_neg h
theorem C2:qa H S S=none:=if_pos rfl
theorem abQ (ms:aE K aa G M H)(h:S∉aa)(g:G S=none):aE K aa G M (qa H S):=by
 refine⟨λa u e=>?_,ms.len,ms.nd,λj a m e1 e2=>?_,λa ha=>?_⟩
 ·have:a≠S:=λz=>by rw[z,g]at e;cases e
  rw[lW this];exact ms.le a u e
 ·have:a≠S:=λz=>h (z▸List.mem_of_getElem? e1)
  obtain⟨q1,q2⟩:=ms.mo j a m e1 e2;exact⟨q1,q2.mono (b6.refl G) (λ_ _ z=>z) (lW this)⟩
 ·rw[lW (show a≠S fromλz=>h (z▸ha))]
  exact ms.dQ a ha
theorem Yz (g:aG aa G H aj ai H')(h:S∉aa):aG aa G (qa H S) aj ai (qa H' S):=by
 have e0:∀{a:Addr} {o:HO},qa H S a=some o->a≠S/\H a=some o:=λ{a o} e=>by
  by_cases z:a=S
  ·rw[z,C2]at e;cases e
  ·rw[lW z]at e;exact⟨z,e⟩
 have e1:∀{a:Addr},qa H S a≠none->a≠S/\H a≠none:=λ{a} e=>by
  by_cases z:a=S
  ·rw[z]at e;exact absurd C2 e
  ·rw[lW z]at e;exact⟨z,e⟩
 obtain⟨more,dI,cI⟩:=g.pre;refine⟨g.ex,⟨more,dI,λa ha=>?_⟩,λa o e n=>?_,λa e n=>?_,λa e=>?_⟩
 ·by_cases z:a=S
  ·rw[z];exact C2
  ·rw[lW z];exact cI a ha
 ·obtain⟨z,e⟩:=e0 e
  rw[lW z];exact g.fr a o e n
 ·obtain⟨z,e⟩:=e1 e
  unfold Same;rw[lW z];exact g.jM a e n
 ·obtain⟨z,e⟩:=e1 e
  rw[lW z];exact g.dQ a e
theorem abM {o:HO}(e:H S=some o):upd (qa H S) S o=H:=by
 funext a
 by_cases z:a=S
 ·rw[z,upd_same,e]
 ·rw[upd_ne z,lW z]
end
def Cc (eU ix j:Nat)(ρ:List af):Re af->T (Re ck)
 | .ok (.dat (.lst L)) ao=>if ao.length=j then .ret (.ok (.nx (((ρ.set eU .un).set ix .un).set eU (.mu j))) (ao++[.lst (L.map .dat)]))else .bad
 | .ok _ _=>.bad
 | .ex _ _ _=>.bad
def CC:Option ak->Bool
 |some (.lst [])=>true
 |_=>false
theorem aaa {o:Option ak}(h:CC o=true):o=some (.lst []):=by
 unfold CC at h;split at h
 ·rfl
 ·cases h
def xm (eU ix j:Nat)(f:CE):aQ:=λρ M=>
 if CC M[j]?=true/\M.length=j+1/\closed j M=true/\((ρ.set eU .un).set ix .un).all (iJ j)=true/\eU<ρ.length then(f ((ρ.set eU .un).set ix .un) (M.take j)).bind (Cc eU ix j ρ)else .bad
def xj (eU ix:Nat)(f:CE):aQ:=λρ M=>match ρ[eU]? with
 |some (.mu j)=>xm eU ix j f ρ M
 |_=>.bad
theorem adN {eU ix:Nat}{f:CE}{ρ:List af}{M:List ak}{Q:Re ck->Prop}(h:wp (xj eU ix f ρ M) Q):∃j,ρ[eU]?=some (.mu j)/\wp (xm eU ix j f ρ M) Q:=by
 unfold xj at h;split at h
 ·rename_i j e
  exact⟨j,e,h⟩
 ·exact h.elim
section
variable{X:Cx}{W:WX}{k:Nat}{e:Expr}{f:CE}
set_option maxHeartbeats 8000000 in
theorem afq {l x:Str}{eU ix:Nat}{qV j_ qW kW kY p9 pos:Pos}(he:MK X W k e f)(hr:Room (k+1) X.A)(hc:X.calm=true)(hx:rH X x ix)(zj:X.env.scope.names.lookup x=some .local)
    (hl:nk X l eU) (zg:X.env.scope.names.lookup l=some .local) (r9:(x==("__debug__":Str))=false) (ez:X.stack=X.env::X.outer/\X.env.frame=some X.env.locals) (zv:l≠x:=by decide)
    (hs:∀x,foldedSetIterable e X.env x=pure x:=by intro _;rfl) (hint:interactive X.env=false) (hsw:swapsWith (.Call (.Attribute (.Name l j_) "append" qW) [.Name x kW] [] kY) none p9.line X.env=pure false:=by rfl)
    (yY:attributeBase (.Name l j_) "append" X.env (eval (.Name l j_) X.env)=eval (.Name l j_) X.env:=by rfl)
    (zd:((backTo kY (starEach [.Name x kW] X.env)).all (λx=>!x.1)&&(backToKw kY (keywordEach [] X.env)).all (λx=>x.1.isSome)
      &&decide (([.Name x kW]:List Expr).length+([]:List Keyword).length+(if([]:List Keyword).isEmpty then 0 else 1)<30))=true:=by rfl) (zk:(qW.endLine==kY.line)=true:=by rfl)
    (H_:backTo kY (starEach [.Name x kW] X.env)=[(false,eval (.Name x kW) X.env)]:=by rfl):
    iI X W (.For (.Name x qV) e [.Expr (.Call (.Attribute (.Name l j_) "append" qW) [.Name x kW] [] kY) p9] [] pos) (xj eU ix f):=⟨λρ M aa G σ H D ms en h=>by
  obtain⟨j,hj,h⟩:=adN h;unfold xm at h;by_cases HD:CC M[j]?=true/\M.length=j+1/\closed j M=true/\((ρ.set eU .un).set ix .un).all (iJ j)=true/\eU<ρ.length
  case neg=>
    rw[if_neg HD]at h;exact h.elim
  rw[if_pos HD]at h;obtain⟨c1,c2,c3,c4,c5⟩:=HD;have c1:=aaa c1
  have ajz:aa.length=j+1:=ms.len.trans c2;obtain⟨S,hS⟩:∃S,aa[j]?=some S:=⟨aa[j],List.getElem?_eq_getElem (by omega)⟩;obtain⟨gl,vs,YF,Ig⟩:=ms.mo j S _ hS c1;have Yo:G S=none:=gl trivial;cases Ig
  have NT:aa=aa.take j++[S]:=by
    refine List.ext_getElem? λi=>?_
    by_cases hi:i<j
    · rw[List.getElem?_append_left (by rw[List.length_take];omega),List.getElem?_take_of_lt hi]
    · by_cases hi2:i=j
      · subst hi2
        rw[hS,List.getElem?_append_right (by rw[List.length_take];omega),List.length_take,Nat.min_eq_left (by omega),Nat.sub_self];rfl
      · rw[List.getElem?_eq_none (by omega),List.getElem?_eq_none (by rw[List.length_append,List.length_take,List.length_singleton];omega)]
  have Rp:S∉aa.take j:=λz=>by
    have nd:=ms.nd;rw[NT,List.nodup_append]at nd;exact nd.2.2 S z S (List.mem_singleton.mpr rfl) rfl
  have l0:(aa.take j).length=j:=by rw[List.length_take];omega
  have abO:aE X.K (aa.take j) G (M.take j) H:=zN ms c3;have XA:bO X.K (aa.take j) G σ ((ρ.set eU .un).set ix .un):=by
    refine⟨by rw[List.length_set,List.length_set];exact en.len,λi s hs=>?_⟩;have cs:=List.all_eq_true.mp c4 s (List.mem_of_getElem? hs);by_cases h1:i=ix
    · subst h1
      left
      have:=(List.getElem?_eq_some_iff.mp hs).1;rw[List.length_set]at this;rw[List.getElem?_set_self (by rw[List.length_set]at *;exact this)]at hs;exact(Option.some.inj hs).symm
    · rw[List.getElem?_set_ne (Ne.symm h1)]at hs
      by_cases h2:i=eU
      · subst h2
        left
        rw[List.getElem?_set_self c5]at hs;exact(Option.some.inj hs).symm
      · rw[List.getElem?_set_ne (Ne.symm h2)]at hs
        exact(en.at_ i s hs).imp id λ⟨v,e1,r⟩=>⟨v,e1,Bo cs r⟩
  have wu:σ[eU]?=some (some (.ref S)):=by
    rcases en.at_ eU _ hj with z|⟨v,e1,a,e2,e3⟩
    · cases z
    · rw[hS]at e2
      cases e2
      rw[e1,e3]
  refine agM (S:=S) hc hr hs hx.nd hx.ix zj hl.ix zg zv r9 hl.nd ez wu hint hsw yY zd zk H_ ?_;intro pins s I;refine thn (he.run _ _ _ _ σ H (λr=>wp (Cc eU ix j ρ r) (dY X W D aa G H)) abO XA (wp_mono (λr hr=>?_) (wp_bind.mp h)) pins s I) λu s1 ⟨a_,tH,hk,av,au,M1,ss,np,b,g1,m1,r1,jt,hb,aC⟩=>⟨a_,tH,hk,?_⟩
  · cases r with
    |ok s ao=>exact hr
    |ex c fs ao=>exact(show False from hr).elim
  obtain⟨n1,Yp,hS1⟩:=Ce g1 Rp Yo YF;refine⟨hS1,?_⟩;have nK:eU≠ix:=λz=>zv (by
    have h1:=hl.ix;rw[z,hx.ix]at h1;exact(Option.some.inj h1).symm)
  have bN:wp (qQ np a_.N.length b ss M1) (n_ X.K (λoi H'=>oi=S->∀aN:L2.St,aN.length=σ.length->(∀i,i≠ix->aN[i]?=σ[i]?)->D.nx aN H') av au (qa a_.H S)):=wp_mono (λr hr=>by
    obtain⟨⟨s2,ao,rfl⟩,hr⟩:=hr;unfold Cc at hr;split at hr
    · rename_i r0 L aho e0
      cases e0
      by_cases Cu:ao.length=j
      case neg=>
        rw[if_neg Cu]at hr;exact hr.elim
      rw[if_pos Cu]at hr;refine⟨L,rfl,λaM aU aO aj ai H' oi g2 hS2 a eS aN a1 a2=>?_⟩;subst eS;obtain⟨dO,eN,g3,m3,xJ⟩:∃dO eN,aG aM aU aO dO eN H'/\aE X.K dO eN (eX true ao L).2 H'/\bz X.K dO eN (.ref oi) (eX true ao L).1:=
        A5 (X:=X) (m:=true) (Q:=λv H'=>∃dO eN,aG aM aU aO dO eN H'/\aE X.K dO eN (eX true ao L).2 H'/\bz X.K dO eN v (eX true ao L).1) hS2 (aG.refl _ _ _) a λdO eN ff v g m r=>⟨dO,eN,g,m,r⟩
      have m3:aE X.K dO eN (ao++[.lst (L.map .dat)]) H':=m3;obtain⟨a3,v4,K4⟩:∃a,dO[ao.length]?=some a/\V.ref oi=.ref a:=xJ;cases K4
      rw[Cu]at v4;have qO:dO.length=j+1:=by rw[m3.len,List.length_append,Cu];rfl
      have yS:aG (aa.take j) G (qa H oi) dO eN H':=((Yz g1 Rp).trans g2).trans g3;obtain⟨more,dI,cI⟩:=yS.pre;have Xw:dO=aa:=by
        rw[NT,dI]
        congr 1
        have lm:more.length=1:=by
          rw[dI,List.length_append,l0]at qO;omega
        match more,lm,dI with
        |[b],_,dI=>
          rw[dI,List.getElem?_append_right (by omega),l0,Nat.sub_self]at v4;have:b=oi:=Option.some.inj v4;rw[this]
      subst Xw;have nm:∀a,a∉dO->a≠oi/\a∉dO.take j:=λa h=>⟨λz=>h (by rw[z];exact List.mem_of_getElem? hS),λz=>h (List.mem_of_mem_take z)⟩
      have Ow:aG dO G H dO eN H':=by
        refine⟨yS.ex,⟨[],by simp,by simp⟩,λa o e n=>?_,λa e n=>?_,λa e=>?_⟩
        · obtain⟨fY,d_⟩:=nm a n
          exact yS.fr a o (by rw[lW fY];exact e) d_
        · obtain⟨fY,d_⟩:=nm a n
          have q:=yS.jM a (by rw[lW fY];exact e) d_;unfold Same at q;rw[lW fY]at q;exact q
        · by_cases z:a=oi
          · rw[z];exact m3.dQ oi (List.mem_of_getElem? hS)
          · exact yS.dQ a (by rw[lW z];exact e)
      have hr:dY X W D dO G H (.ok (.nx (((ρ.set eU .un).set ix .un).set eU (.mu j))) (ao++[.lst (L.map .dat)])):=hr;refine hr dO eN H' aN Ow m3 ⟨by rw[a1,en.len];simp,λi s hs=>?_⟩;by_cases h1:i=eU
      · subst h1
        rw[List.getElem?_set_self (by rw[List.length_set,List.length_set];exact c5)]at hs;have hs:=Option.some.inj hs;subst hs;exact .inr ⟨.ref oi,by rw[a2 i nK];exact wu,oi,hS,rfl⟩
      · rw[List.getElem?_set_ne (Ne.symm h1)]at hs
        by_cases h2:i=ix
        · subst h2
          left
          have:=(List.getElem?_eq_some_iff.mp hs).1;rw[List.length_set]at this;rw[List.getElem?_set_self this]at hs;exact(Option.some.inj hs).symm
        · rw[List.getElem?_set_ne (Ne.symm h2),List.getElem?_set_ne (Ne.symm h1)]at hs
          have q:=(en.grow Ow).at_ i s hs;rw[a2 i h2];exact q
    · exact hr.elim
    · exact hr.elim) (abK aC)
  have zm:=abQ m1 n1 Yp;refine⟨λH'=>S=S->∀aN:L2.St,aN.length=σ.length->(∀i,i≠ix->aN[i]?=σ[i]?)->D.nx aN H',λFa hF=>?_,λH' aN a1 a2 q=>q rfl aN a1 a2⟩;have cE:=Ys (S:=S) (Fa:=Fa) (aH:=jd) (cons:=oB S) (λA jO=>hb A S Fa (by rw[<-hk];exact jO) hF) jt zm r1 C2 bN;rw[abM hS1]at cE;exact cE⟩
end
section
variable{X:Cx}{x:Str}{i:Nat}
theorem nk.re (h:nk X x i)(t:Shared):nk (gi X t) x i:=⟨h.ix,h.DR,h.nd,h.C6⟩
theorem rH.re (h:rH X x i)(t:Shared):rH (gi X t) x i:=⟨h.ix,h.loc,h.fn,h.nd⟩
theorem dW.re (h:dW X x)(t:Shared):dW (gi X t) x:=⟨h.gl,h.nd⟩
theorem afT (h:Takes X lE)(t:Shared):Takes (gi X t) lE:=λu aF x=>by
 obtain⟨_,_,_,_,_,_,_,_,_,_,_,_,_,_,_,_,z⟩:=x;exact z.elim
end
end R
namespace R
open PySem PySem.Spec PyProof.Rows L2 GenW
variable[aI]
abbrev mE (E:XK):WX:=λcls d _ H=>E cls d H
abbrev ye (X:Cx)(Fa:fB)(W:WX):Prop:=∀t,Fa t->Takes (gi X t) W
section
variable{X:Cx}{Fa:fB}{W:WX}{aH:eG}{cons:Cons}{S:Addr}{st:Stmt}{rest body orelse:List Stmt}{f g a b:dP}{e bD it:Expr}{pos u6:Pos}{qz:CE}{cg:dB}{ct:Flt}
theorem afF {fs:aQ}(h:∀t,Fa t->iI (gi X t) W st fs):yg X Fa W aH cons S st (r4 fs):=⟨λρ c L M av au H1 aa G σ H D ac hS en w=>by
 refine Uh λt lO=>((h t lO).run ρ M aa G σ H (D.at c) ac.ms en (wp_mono (λr hr=>?_) (cz.mp w)))
 cases r with
 |ex k fs M1=>exactλaN=>PX.shift ac.f9 (hr aN)
 |ok v M1=>
  cases v with
  |nx aT=>exactλaj ai H' aN g1 m1 e1=>hr aj ai H' aN g1.gc (ac.grow g1 m1) e1
  |bk aT=>exactλaj ai H' aN g1 m1 e1=>hr aj ai H' aN g1.gc (ac.grow g1 m1) e1
  |ct aT=>exactλaj ai H' aN g1 m1 e1=>hr aj ai H' aN g1.gc (ac.grow g1 m1) e1
  |rt s=>exact(show False from hr).elim⟩
theorem afG (qI:sY X.K S ct cons)(hco:X.env.scope.isCoroutine=false)(hint:interactive X.env=false)(h:∀t,Fa t->aV (gi X t) W e qz):yg X Fa W aH cons S (.Expr (.Yield (some e) u6) pos) (Cb ct qz):=⟨λρ c L M av au H1 aa G σ H D ac hS en w=>by
 refine agx hco hint λt lO=>((h t lO).run ρ M aa G σ H _ ac.ms en (wp_mono (λr hr=>?_) (cz.mp (cz.mp w))))
 cases r with
 |ex k fs M1=>exact PX.shift ac.f9 (hr σ)
 |ok s M1=>
  intro aM aU aO v g2 m2 r2;obtain⟨d,bB,ef,hr⟩:=iF.mp (show wp (ofM (λM=>jL M s) M1) _ from hr);obtain⟨eN,m3,g3,r3⟩:=ug m2 r2 ef;have a3:=ac.grow (g2.trans g3) m3;have hr:wp (AD ct ρ c L d bB) (mq X W D S av au H1 aa G):=hr;unfold AD at hr;cases HJ:ct d with
  |none=>rw[HJ]at hr;exact hr.elim
  |some es=>
   rw[HJ]at hr
   dsimp only at hr
   by_cases hl:c<4000/\L.length<4000
   ·rw[if_pos hl]at hr
    refine⟨by rw[TV];omega,qI.run a3 hS r3 HJ (by rw[TV];omega) λH' a4=>?_⟩;exact hr _ _ H' σ (g2.trans g3).gc a4 (en.grow (g2.trans g3))
   ·rw[if_neg hl]at hr
    exact hr.elim⟩
theorem TU {fi:iy}{gt:dz}{ts:List Nat}{bd:dP}(hF:pM X Fa)(hi:∀t,Fa t->mC (gi X t) W bD it fi)(hg:∀t,Fa t->GT (gi X t) bD ts gt)(hb:nq X Fa W aH cons S body bd)(hp:PassesOwn (model X.prog X.w) X.A X.env X.xe)(hc:X.calm=true)(hs:∀x,foldedSetIterable it X.env x=pure x:=by intro _;rfl):
    yg X Fa W aH cons S (.For bD it body [] pos) (yR fi gt bd):=⟨λρ c L M av au H1 aa G σ H D ac hS en w=>by
  refine agw hF hp hc hs λt lO=>((hi t lO).run ρ M aa G σ H _ ac.ms en (wp_mono (λr hr=>?_) (cz.mp w)))
  cases r with
  |ex k fs M1=>exact PX.shift ac.f9 (hr σ)
  |ok its M1=>
    intro aM aU aO J g2 m2 gK;cases its with
    |live n item fin=>exact(show False from hr).elim
    |data ds=>
    have hr:wp (nB gt bd ds ρ c L M1) (mq X W D S av au H1 aa G):=hr;have a2:=ac.grow g2 m2;refine⟨λi m k aN H'=>m=ds.length-i/\i<=ds.length/\∃aj ai ao cC gB,f5 aM aU aj ai/\Acc X.K S av au H1 gB aj ai ao H'/\bO X.K aj ai aN cC/\wp (nB gt bd (ds.drop i) cC k gB ao) (mq X W D S av au H1 aa G),⟨ds.length,by simp,Nat.zero_le _,aM,aU,M1,ρ,L,f5.refl _ _,a2,en.grow g2,by rw[List.drop_zero];exact hr⟩,?_⟩
    rintro i m k aN H' ⟨rfl,hle,aj,ai,ao,cC,gB,lS,tQ,t8,ii⟩
    by_cases hlt:i<ds.length
    · rw[List.drop_eq_getElem_cons hlt]at ii
      have e1:(Its.data ds).at_ ao i=some (.dat ds[i]):=by show ds[i]?.map af.dat=_;rw[List.getElem?_eq_getElem hlt];rfl
      cases oH:gt (.dat ds[i]) cC with
      |none=>simp only[nB,oH]at ii;exact ii.elim
      |some aT=>
      simp only[nB,oH]at ii;refine .inr ⟨gK.goes i aj ai ao H' hlt lS tQ.ms (by rw[e1];rfl),λk2 eK LM=>∃aj ai ao cC gB,f5 aM aU aj ai/\Acc X.K S av au H1 gB aj ai ao LM/\bO X.K aj ai eK cC/\wp (nB gt bd (ds.drop (i+1)) cC k2 gB ao) (mq X W D S av au H1 aa G),λk2 eK LM z=>⟨ds.length-(i+1),by omega,rfl,hlt,z⟩,λx ff y t2 YL=>?_⟩;obtain⟨Gc,pu,r⟩:=gK.yld i aj ai ao H' x ff _ hlt lS tQ.ms e1 y;have g3:=pu.grow (aa:=aj);have a3:=tQ.grow g3 (tQ.ms.pure pu);have qO:f5 aa G aj Gc:=(g2.gc.trans lS).trans g3.gc;refine(hg t2 YL).run _ cC aT aj Gc aN ff x oH pu.le (t8.grow g3) r _ λu7 GP _=>?_
      exact hb.run aT k gB ao av au H1 aj Gc u7 ff _ a3 hS GP (wp_mono (λr hr=>Yn qO hr λgU c2 L2 M2 hk pK pN jD ah7 IM a4 e4=>⟨pK,pN,M2,gU,L2,(lS.trans g3.gc).trans IM,a4,e4,hk⟩) (cz.mp ii))
    · have e:i=ds.length:=by omega
      subst e;rw[List.drop_length]at ii;exact .inl ⟨gK.stops aj ai ao H' lS tQ.ms rfl,ii aj ai H' aN (g2.gc.trans lS) tQ t8⟩⟩
end
abbrev AX (K:Frag)(ns:Nat->Bool):Prop:=∀c,ns c=true->PySem.W.subIn K (.ref (bQ K c)) (.type "StopIteration")=some false
def adi (ns:Nat->Bool)(n:Nat):Re mh->T (Re af)
 | .ok (.nx _ _ L) M=>.ret (.ok (.dat (.lst L)) (cut n M))
 | .ex c fs M=>if ns c=true then .ret (.ex c fs (cut n M))else .bad
 |_=>.bad
def jR (ns:Nat->Bool)(np n:Nat)(b:dP):aK:=λss M=>if ss.length=np then(b (ss++List.replicate (n-np) .un) 0 [] M).bind (adi ns M.length)else .bad
theorem Rh {ns:Nat->Bool}{np n:Nat}{b:dP}{ss:List af}{M:List ak}{Q:Re af->Prop}(w:wp (jR ns np n b ss M) Q):ss.length=np:=by
 unfold jR at w;split at w
 ·assumption
 ·exact w.elim
theorem abJ {ns:Nat->Bool}{np n:Nat}{b:dP}{ss:List af}{M:List ak}{Q:Re af->Prop}(w:wp (jR ns np n b ss M) λr=>match r with|.ok s ao=>Q (.ok s ao)|.ex _ _ _=>False):wp (qQ np n b ss M) Q:=by
 unfold jR at w;unfold qQ;split at w
 ·rename_i e
  rw[if_pos e];refine wp_bind.mpr (wp_mono (λr hr=>?_) (wp_bind.mp w));cases r with
  |ex c fs M1=>
   have hr:wp (if ns c=true then(R.T.ret (.ex c fs (cut M.length M1)):T (Re af))else .bad) _:=hr;split at hr
   ·exact(show False from hr).elim
   ·exact hr.elim
  |ok v M1=>
   cases v with
   |nx aT c1 dX=>exact hr
   |bk aT c1 dX=>exact(show False from hr).elim
   |ct aT c1 dX=>exact(show False from hr).elim
 ·exact w.elim
structure xX (D:f6)(k:Nat)(f:Addr)(fd:FuncData)(ps:List Str)(n:Nat)(gr:Flt->dP):Prop where
 ex:∃(N:List Str) (qual:Str) (scope:Scope) (cd:Value) (body:List Stmt),N.length=n/\
  (∀(A:Around) (outer:List Env) (s:Shared) (H:Hp) (args:Args) (us:List Value) (vs:List V),Room (k+2) A->Env0 D.prog D.w D.K D.mg D.base A outer s H->BindsTo s fd args (ps.zip us)->Vals vs us->vs.length=ps.length->
   codeAny (model D.prog D.w) A (.call (.ref f) args) (λr aF=>match r with|.ok (.ret u)=>∃a g go,u=.ref a/\ve D.prog D.w D.K D.mg D.base N qual scope f cd body (k+1) outer s H vs a g go aF|_=>False) s)/\
  (∀(A:Around) (outer:List Env) (s:Shared) (H:Hp) (E:XK) (pn:List (Addr×Obj)) (aH:eG) (cons:Cons) (S:Addr) (ct:Flt) (Fa:fB),Room (k+1) A->sY D.K S ct cons->pM (gcxOf D.prog D.w D.K D.mg D.base N qual scope f cd A outer s H E pn) Fa->
   ye (gcxOf D.prog D.w D.K D.mg D.base N qual scope f cd A outer s H E pn) Fa (mE E)->nq (gcxOf D.prog D.w D.K D.mg D.base N qual scope f cd A outer s H E pn) Fa (mE E) aH cons S body (gr ct))
abbrev lM (P:Program)(w:World)(K:Frag)(mg:Str->Option Value)(base:Heap)(N:List Str)(qual:Str)(sc:Scope)(f:Addr)(cdv:Value)(A:Around)(outer:List Env)(s:Shared)(H:Hp)(E:XK)(pn:List (Addr×Obj)):Cx:=gcxOf P w K mg base N qual sc f cdv A outer s H E pn
theorem Si {P:Program}{w:World}{K:Frag}{mg:Str->Option Value}{base:Heap}{N:List Str}{qual:Str}{sc:Scope}{f:Addr}{cdv:Value}{A:Around}{outer:List Env}{s:Shared}{H:Hp}{E:XK}{pn:List (Addr×Obj)}:
    PassesOwn (model (lM P w K mg base N qual sc f cdv A outer s H E pn).prog (lM P w K mg base N qual sc f cdv A outer s H E pn).w) (lM P w K mg base N qual sc f cdv A outer s H E pn).A (lM P w K mg base N qual sc f cdv A outer s H E pn).env (lM P w K mg base N qual sc f cdv A outer s H E pn).xe:=owns_gcx
theorem bF.lM {P:Program}{w:World}{K:Frag}{mg:Str->Option Value}{base:Heap}{N:List Str}{qual:Str}{sc s0:Scope}{f:Addr}{cdv:Value}{A:Around}{outer:List Env}{s:Shared}{H:Hp}{E:XK}{pn:List (Addr×Obj)}:bF N sc s0 (lM P w K mg base N qual sc f cdv A outer s H E pn):=⟨rfl,rfl,λ_ _=>rfl,rfl⟩
section
variable{P:Program}{w:World}{K:Frag}{mg:Str->Option Value}{base:Heap}{x qual:Str}{dg:Stmt}{f:Addr}{fd:FuncData}{N ps:List Str}{k:Nat}
theorem OH (F:L2.Fun K x qual dg f fd)(S:GScope N ps (defScope dg)){gr:Flt->dP}
    (body:∀(cdv:Value) (A:Around) (outer:List Env) (s:Shared) (H:Hp) (E:XK) (pn:List (Addr×Obj)) (aH:eG) (cons:Cons) (rN:Addr) (ct:Flt) (Fa:fB),Room k (A.deeper (envOfC qual (defScope dg) s.heap.objs.size f cdv))->A.handled=none->sY K rN ct cons->pM (lM P w K mg base N qual (defScope dg) f cdv A outer s H E pn) Fa->
      ye (lM P w K mg base N qual (defScope dg) f cdv A outer s H E pn) Fa (mE E)->nq (lM P w K mg base N qual (defScope dg) f cdv A outer s H E pn) Fa (mE E) aH cons rN (defBody dg) (gr ct)):xX ⟨P,w,K,mg,base⟩ k f fd ps N.length gr:=by
  obtain⟨oc,od,kV,doc,pm,an,cdv,ct,fq,rfl,lk,hcd⟩:=F.ex;exact⟨N,qual,defScope dg,cdv,defBody dg,rfl,λA outer s H args us vs hr e0 mG r hl=>OO lk hcd S A outer s H args us vs hr e0 mG r hl,
    λA outer s H E pn aH cons rN ct Fa hr qI hF hT=>body cdv A outer s H E pn aH cons rN ct Fa (hr.deeper _) hr.hd qI hF hT⟩
end
structure vC (X:Cx)(W:WX)(ns:Nat->Bool)(k:Nat)(e:Expr)(ct:Flt)(f:CE):Prop where
 run:∀ρ M aa G σ H (jm:Re af->Prop),aE X.K aa G M H->bO X.K aa G σ ρ->wp (f ρ M) (λr=>match r with|.ok s ao=>jm (.ok s ao)|.ex c fs ao=>PX X W σ aa G H c fs ao/\jm (.ex c fs ao))->
  Ax X e k σ H λa_=>∃av au M1 ss np b,aG aa G H av au a_.H/\aE X.K av au M1 a_.H/\bA X.K av au a_.vs ss/\a_.N.length-np=a_.N.length-ss.length/\
   (∀(A:Around) (S:Addr) (Fa:fB) (E:XK) (aH:eG) (cons:Cons),sY X.K S ct cons->Room k A->pM (a_.gQ X A E) Fa->ye (a_.gQ X A E) Fa (mE E)->nq (a_.gQ X A E) Fa (mE E) aH cons S a_.body b)/\wp (jR ns np a_.N.length b ss M1) jm
def XN:Re af->T (Re af)
 | .ok s M=>.ret (.ok s M)
 | .ex _ _ _=>.bad
def BO (f:CE):CE:=λρ M=>(f ρ M).bind XN
section
variable{X:Cx}{W:WX}{k:Nat}{e o:Expr}{es:List Expr}{kws:List Keyword}{aJ f:CE}{fs b_:aH}{x m:Str}{pos apos p:Pos}{ns:Nat->Bool}{ct:Flt}
theorem vC.toF (h:vC X W ns k e jK f):MK X W k e (BO f):=⟨λρ M aa G σ H jm ms en w=>by
 intro pins s I;refine thn (h.run ρ M aa G σ H (λr=>match r with|.ok s ao=>jm (.ok s ao)|.ex _ _ _=>False) ms en (wp_mono (λr hr=>?_) (wp_bind.mp w)) pins s I) λu s1 ⟨a_,M,hk,av,au,M1,ss,np,b,g1,m1,r1,jt,hb,aC⟩=>⟨a_,M,hk,av,au,M1,ss,np,b,g1,m1,r1,jt,λA S Fa jO hF=>?_,abJ aC⟩
 ·cases r with
  |ok s ao=>exact hr
  |ex c fs ao=>exact(show False from hr).elim
 ·exact hb A S Fa jS jd (oB S) NB jO hF λt _=>afT (takes_gcx (E:=jS)) t⟩
theorem Yt {a_:m9}{np:Nat}{b:dP}{S:Addr}{aH:eG}{cons:Cons}{aa:List Addr}{gO H1:Hp}{M:List ak}{ss:List af}{Qd:Addr->Hp->Prop}{Fa:fB}{E:XK}
    (hb:∀A:Around,Room a_.k A->nq (a_.gQ X A E) Fa (mE E) aH cons S a_.body b) (hn:a_.N.length-np=a_.N.length-ss.length) (ms:aE X.K aa gO M H1) (r:bA X.K aa gO a_.vs ss) (hS:H1 S=none)
    (w:wp (jR ns np a_.N.length b ss M) λr=>match r with
      | .ok s ao=>n_ X.K Qd aa gO H1 (.ok s ao)
      | .ex c fs ao=>ns c=true->∀aj ai H' d bG,aG aa gO H1 aj ai H'->aE X.K aj ai ao H'->ai d=some (.xd bG)->fG X.K ai bG fs->E (.ref (bQ X.K c)) (some d) H'):a_.Dy X E Fa aH cons (λH'=>Qd S H') (upd H1 S (.lst [])):=by
  intro A jO hfr;unfold jR at w;split at w
  · rename_i e
    have en:=vX (K:=X.K) (aa:=aa) (G:=gO) (N:=a_.N) r;rw[<-e]at w;refine(hb A jO).run _ 0 [] M aa gO H1 aa gO (start a_.N a_.vs) (upd H1 S (.lst [])) _ (A6 (X:=X) hS ms) hS en (wp_mono (λr hr=>?_) (wp_bind.mp w));cases r with
    |ex c fs M1=>
      have hr:wp (if ns c=true then(R.T.ret (.ex c fs (cut M.length M1)):T (Re af))else .bad) _:=hr;split at hr
      · rename_i hc
        intro aN aj ai H' d bG g1 m1 e1 r1;have hr:ns c=true->∀aj ai H' d bG,aG aa gO H1 aj ai H'->aE X.K aj ai (cut M.length M1) H'->ai d=some (.xd bG)->fG X.K ai bG fs->E (.ref (bQ X.K c)) (some d) H':=hr;rw[show M.length=aa.length from ms.len.symm]at hr;exact lG ms g1 m1 λaM g2 m2 _=>hr hc aM ai H' d bG g2 m2 e1 r1
      · exact hr.elim
    |ok v M1=>
      cases v with
      |nx aT c1 dX=>
        intro aj ai H' aN _ a1 _;obtain⟨L,GL,q⟩:=(show n_ X.K Qd aa gO H1 (.ok (.dat (.lst dX)) (cut M.length M1))from hr);cases GL
        rw[show M.length=aa.length from ms.len.symm]at q;exact MS a1 λaM a2=>q aa gO H1 aM ai H' S (aG.refl _ _ _) hS a2
      |bk aT c1 dX=>exact(show False from hr).elim
      |ct aT c1 dX=>exact(show False from hr).elim
  · exact w.elim
theorem S5 {pins:List (Addr×Obj)}{σ:L2.St}{H:Hp}{s:Shared}{f:Addr}{fd:FuncData}{ps:List Str}{n np:Nat}{gr:Flt->dP}{aa:List Addr}{G:Hp}{M:List ak}{us us':List Value}{kw:List (Str×Value)}{vs:List V}{ss:List af}{jm:Re af->Prop}(D:xX X.gj k f fd ps n gr)(hr:Room (k+2) X.A)
    (I:Inv X pins σ H s) (mG:BindsTo s fd ⟨us,kw⟩ (ps.zip us')) (bL:Vals vs us') (r:bA X.K aa G vs ss) (jt:np=ps.length) (w:wp (jR ns np n (gr ct) ss M) jm):
    wpAny (model X.prog X.w) X.A (call (.ref f) us kw) (λu s1=>∃a_,AK X pins σ a_ u s1/\a_.k=k+1/\a_.H=H/\a_.vs=vs/\a_.N.length=n/\a_.N.length-np=a_.N.length-ss.length/\
      ∀(A:Around) (S:Addr) (Fa:fB) (E:XK) (aH:eG) (cons:Cons),sY X.K S ct cons->Room (k+1) A->pM (a_.gQ X A E) Fa->ye (a_.gQ X A E) Fa (mE E)->nq (a_.gQ X A E) Fa (mE E) aH cons S a_.body (gr ct)) X.xe s:=by
  obtain⟨N,qual,scope,cd,body,hN,HE,HB⟩:=D.ex;have hl:=Rh w;have ZY:vs.length=ps.length:=by rw[<-jt,<-hl,r.length]
  refine wpAny_call (codeAny_mono (HE X.A X.stack s H ⟨us,kw⟩ us' vs hr I.env0 mG bL ZY) λq aF hq=>?_);cases q with
  |error e=>exact False.elim hq
  |ok fK=>
    cases fK with
    |next=>exact False.elim hq
    |brk=>exact False.elim hq
    |cont=>exact False.elim hq
    |ret u=>
      obtain⟨a,g,go,rfl,mk⟩:=hq;exact⟨⟨N,qual,scope,f,cd,body,k+1,s,H,vs,a,g,go⟩,⟨rfl,I,mk⟩,rfl,rfl,rfl,hN,by rw[hl],λA S Fa E aH cons qI jO hF hT=>HB A X.stack s H E _ aH cons S ct Fa jO qI hF hT⟩
structure Lu (D:f6)(ns:Nat->Bool)(k:Nat)(x:Str)(np:Nat)(ct:Flt)(F:aK):Prop where
 ex:∃dJ f fd ps n gr,k=dJ+1/\xX D dJ f fd ps n gr/\D.mg x=some (.ref f)/\PySem.W.keepIn D.K (.ref f)=true/\Binds D.K fd ps []/\np=ps.length/\∀ss M Q,wp (F ss M) Q->wp (jR ns np n (gr ct) ss M) Q
structure Lr (D:f6)(ns:Nat->Bool)(k:Nat)(x:Str)(ks:List Str)(pm:List Nat)(np:Nat)(ct:Flt)(F:aK):Prop where
 ex:∃dJ f fd ps n gr,k=dJ+1/\xX D dJ f fd ps n gr/\D.mg x=some (.ref f)/\PySem.W.keepIn D.K (.ref f)=true/\KBn D.K fd ps 0 ks (λus ws=>us++gh pm ws) (λus ws=>us++gh pm ws)/\np=ps.length/\∀ss M Q,wp (F ss M) Q->wp (jR ns np n (gr ct) ss M) Q
theorem Lj {np:Nat}{F:aK}(C:Lu X.gj ns k x np ct F)(hr:Room (k+1) X.A)(n5:dW X x)(h1:jn X W (e::es) fs)
    (he:starEach (e::es) X.env=(false,eval e X.env)::starEach es X.env:=by rfl) (hpl:(backTo pos (starEach es X.env)).any (·.1)=false:=by rfl):vC X W ns k (.Call (.Name x p) (e::es) [] pos) ct (bR F fs):=⟨λρ M aa G σ H jm ms en h=>by
  obtain⟨dJ,f,fd,ps,n,gr,rfl,xW,hm,hk,hb,jt,hF⟩:=C.ex;intro pins s I;have qF:=h1.run ρ M aa G σ H (λvs H1=>∃av au M1 ss,aG aa G H av au H1/\aE X.K av au M1 H1/\bA X.K av au vs ss/\wp (F ss M1) λr=>match r with|.ok s ao=>jm (.ok s ao)|.ex c fs ao=>PX X W σ aa G H c fs ao/\jm (.ex c fs ao)) ms en (wp_mono (λr hr=>by
    cases r with
    |ex c fs M1=>exact hr.1
    |ok ss M1=>exactλav au H1 vs g1 m1 r1=>⟨av,au,M1,ss,g1,m1,r1,hr⟩) (cz.mp h))
  refine wpAny_Call_Name_kw (ld_glob I n5.gl hm ?_ n5.nd);refine PySem.W.callWith_K (h₀:=X.base) I.ok.mod.kin hk (thn (qF pos pins s I) λus s1 ⟨vs,H1,bE,r,av,au,M1,ss,g1,m1,r1,aC⟩=>⟨bE.kIn,?_⟩) he hpl;have bN:wp (jR ns np n (gr ct) ss M1) jm:=hF _ _ _ (wp_mono (λr hr=>by
    cases r with
    |ex c fs M1=>exact hr.2
    |ok s M1=>exact hr) aC)
  have hl:us.length=ps.length:=by rw[<-r.length,r1.length,Rh bN,jt]
  have mG:=hb s1 us bE.kIn (by rw[List.append_nil];exact hl);rw[List.append_nil]at mG;refine wpAny_mono (S5 (us':=us) (np:=np) xW hr bE mG r r1 jt bN) (λu s2 ⟨a_,M2,hk,hH,hv,hn,HS,hb⟩=>⟨a_,M2,hk,?_⟩) λ_ _ h=>h
  subst hH hn;exact⟨av,au,M1,ss,np,_,g1,m1,by rw[hv];exact r1,HS,hb,bN⟩⟩
theorem ah5 {np:Nat}{F:aK}{ks:List Str}{pm:List Nat}(C:Lr X.gj ns k x ks pm np ct F)(hr:Room (k+1) X.A)(n5:dW X x)(h2:SK X W kws b_)(ZM:pm.length=ks.length)
    (hall:(backToKw pos (keywordEach kws X.env)).all (·.1.isSome)=true:=by rfl) (Zr:(backToKw pos (keywordEach kws X.env)).filterMap (·.1)=ks:=by rfl)
    (hpl:((backTo pos (starEach [] X.env)).any (·.1)||(backToKw pos (keywordEach kws X.env)).any (·.1.isNone))=false:=by rfl):vC X W ns k (.Call (.Name x p) [] kws pos) ct (vU F pm aB b_):=⟨λρ M aa G σ H jm ms en h=>by
  obtain⟨dJ,f,fd,ps,n,gr,rfl,xW,hm,hk,hb,jt,hF⟩:=C.ex;intro pins s I;have aC:wp (Ev.bind (b_ ρ) (λzs M=>if zs.length=pm.length then F ([]++gh pm zs) M else .bad) M) _:=h;refine wpAny_Call_Name_kw (ld_glob I n5.gl hm ?_ n5.nd);refine PySem.W.callWith_KW0 (h₀:=X.base) I.ok.mod.kin hk hall ?_ hpl;have Zs:=h2.run ρ M aa G σ H (λzs aO=>∃aM aU M2 ts,aG aa G H aM aU aO/\aE X.K aM aU M2 aO/\bA X.K aM aU zs ts/\ts.length=pm.length/\wp (F ([]++gh pm ts) M2) λr=>match r with|.ok s ao=>jm (.ok s ao)|.ex c fs ao=>PX X W σ aa G H c fs ao/\jm (.ex c fs ao)) ms en (wp_mono (λr hr=>by
    cases r with
    |ex c fs M1=>exact hr.1
    |ok ts M2=>
      intro aM aU aO zs g2 m2 r2;have hr:wp (if ts.length=pm.length then F ([]++gh pm ts) M2 else .bad) _:=hr;by_cases hz:ts.length=pm.length
      · rw[if_pos hz]at hr;exact⟨aM,aU,M2,ts,g2,m2,r2,hz,hr⟩
      · rw[if_neg hz]at hr;exact hr.elim) (cz.mp aC))
  refine thn (Zs pos pins s I) λws s2 ⟨zs,aO,cJ,xg,aM,aU,M2,ts,g2,m2,r2,hz,bN⟩=>⟨cJ.kIn,?_⟩
  rw[Zr];have ly:wp (jR ns np n (gr ct) ([]++gh pm ts) M2) jm:=hF _ _ _ (wp_mono (λr hr=>by
    cases r with
    |ex c fs M1=>exact hr.2
    |ok s M1=>exact hr) bN)
  have mG:=hb.to s2 [] ws cJ.kIn rfl (xg.length.symm.trans (by rw[r2.length,hz,ZM]));have cE:bA X.K aM aU ([]++gh pm zs) ([]++gh pm ts):=JX r2 pm;have bL:Vals ([]++gh pm zs) ([]++gh pm ws):=hb.rel .nil xg;refine wpAny_mono (S5 (us':=[]++gh pm ws) (np:=np) xW hr cJ mG bL cE jt ly) (λu s3 ⟨a_,bB,hk,hH,hv,hn,HS,hb⟩=>⟨a_,bB,hk,?_⟩) λ_ _ h=>h
  subst hH hn;exact⟨aM,aU,M2,[]++gh pm ts,np,_,g2,m2,by rw[hv];exact cE,HS,hb,ly⟩⟩
theorem Oa {pins:List (Addr×Obj)}{σ:L2.St}{G:m9}{u e:Value}{s1 aF:Shared}{E:XK}(M:AK X pins σ G u s1)(hx:PassesAt (CX X.prog X.w) X σ E)(j7:NoStop X.K E)(hc:CX X.prog X.w X.stack G.H G.sc E e aF)(g:Nat):
    NotStop (model X.prog X.w) e aF.heap/\X.xe e (aF.setGen g .finished):=by
  have bE:=M.inv;have kin:X.K.In aF.heap:=by
    obtain⟨a,B,H',cls,d,_,fK,_,lu,_⟩:=id hc;refine bE.ok.mod.kin.keeps λb o lH=>fK.1 b o (lu.keep b o (bE.bs b o lH).1 (bE.bs b o lH).2 λhm=>?_)
    rcases List.mem_cons.mp (bE.stkSub b hm)with z|z
    · have h1:=Heap.lt_size lH
      have h2:=Nat.le_trans bE.ok.bsz bE.ok.above;rw[z]at h1;exact absurd (Nat.lt_of_lt_of_le h1 h2) (Nat.lt_irrefl _)
    · exact bE.ok.nofr lH z
  refine⟨notStop_of j7 kin hc,hx pins G.H G.sc e _ bE ?_⟩;obtain⟨a,B,H',cls,d,fY,fK,d_,lu,pH,Lk,Ll,Lm⟩:=hc;exact⟨a,B,H',cls,d,fY,fK,d_,lu,pH,Lk,allBare_setGen Ll rfl,Lm⟩
theorem agu {σ:L2.St}{H:Hp}{nm:Str}{E:XK}{Q:VK}(hx:PassesAt (CX X.prog X.w) X σ E)(j7:NoStop X.K E)(hr:Room (k+1) X.A)(hg:Gl X nm)(hmg:X.mg nm=none)(hv:bootBuiltins nm=some (.type "list"))(hnm:nm≠"__name__")(Y8:(nm==("__debug__":Str))=false)
    (he:starEach [e] X.env=(false,eval e X.env)::starEach [] X.env)
    (h:Ax X e k σ H λG=>∀S,G.H S=none->∃Qf:Hp->Prop,G.Dy X E (λt=>t=G.sc) jd (oB S) Qf (upd G.H S (.lst []))/\∀H',Qf H'->Q (.ref S) H'):wE X (.Call (.Name nm p) [e] [] pos) σ H Q:=by
  intro pins s I;refine wpAny_Call_Name_kw (ld_blt I hg hmg hv ?_ hnm Y8);refine PyProof.Rows.callWith_type1 ?_ he rfl;rw[he];show wpAny _ _ (spliced ((false,eval e X.env)::backTo pos (starEach [] X.env))) _ _ s
  refine Calls.spliced_cons (thn (h pins s I) λu s1 ⟨G,M,hk,hR⟩=>?_);refine Calls.spliced_nil ?_;obtain rfl:=M.val;subst hk;refine Ws (Fa:=λt=>t=G.sc) (hFa:=rfl) (Q':=λv aF=>EP X pins σ Q v aF) (E:=E) hr M.inv.ok.frames M.made (λS hS=>?_) λe aF hc=>Oa M hx j7 hc G.g
  obtain⟨Qf,qK,hq⟩:=hR S hS;have jO:Room G.k X.A.in1.in1.in1:=⟨hr.hd,by have:=hr.dp;show X.A.depth+3*G.k+5<_;omega,by have:=hr.un;show X.A.units+1+1+1+16*G.k+200<_;omega⟩;exact⟨Qf,qK _ jO M.inv.ok.frames,λaN H' aF eV q=>by
    obtain⟨t,cg,eV⟩:=eV;subst cg;exact⟨.ref S,H',aa3 M eV,rfl,hq H' q⟩⟩
abbrev rC (K:Frag)(W:WX)(σ:L2.St):XK:=λcls d H=>PySem.W.subIn K cls (.type "StopIteration")=some false/\W cls d σ H
theorem R9 {σ:L2.St}(tk:Takes X W):PassesAt (CX X.prog X.w) X σ (rC X.K W σ):=λpins H s e aF I c=>passAt tk σ pins H s e aF I (by
 obtain⟨a,B,H',cls,d,fY,fK,d_,lu,pH,Lk,Ll,Lm⟩:=c;exact⟨a,B,H',cls,d,fY,fK,d_,lu,pH,Lk,Ll,Lm.2⟩)
theorem Kz {m:Bool}(h:vC X W ns k e jK f)(hn:AX X.K ns)(hr:Room (k+1) X.A)(tk:Takes X W)(UX:dW X "list")(hm:X.mg "list"=none)
    (he:starEach [e] X.env=(false,eval e X.env)::starEach [] X.env:=by rfl):aV X W (.Call (.Name "list" p) [e] [] pos) (t7 m f):=⟨λρ M aa G σ H Q ms en w=>by
  refine agu (E:=rC X.K W σ) (R9 tk) (λ_ _ _ h=>h.1) hr UX.gl hm rfl (by decide) (by decide) he ?_;intro pins s I;refine thn (h.run ρ M aa G σ H (λr=>match r with|.ok s ao=>n_ X.K (λS H'=>Q (.ref S) H') aa G H (.ok s ao)|.ex c fs ao=>PX X W σ aa G H c fs ao) ms en (wp_mono (λr hr=>by
    cases r with
    |ex c fs M1=>exact⟨hr,hr⟩
    |ok s M1=>exact hr) (ah3 w)) pins s I) λu s1 ⟨a_,M1,hk,av,au,tH,ss,np,b,g1,m1,r1,jt,hb,aC⟩=>⟨a_,M1,hk,λS hS=>?_⟩
  refine⟨λH'=>Q (.ref S) H',Yt (ns:=ns) (Qd:=λS H'=>Q (.ref S) H') (λA jO=>hb A S _ _ jd (oB S) NB (by rw[<-hk];exact jO) (λt ht=>by subst ht;rfl) λt ht=>by
    subst ht;exact takes_gcx) jt m1 r1 hS (wp_mono (λr hr=>?_) aC),λH' h=>h⟩
  cases r with
  |ok s ao=>exact n_.shift g1 hr
  |ex c fs ao=>exactλhc aj ai H' d bG g2 m2 e2 r2=>⟨hn c hc,hr aj ai H' d bG (g1.trans g2) m2 e2 r2⟩⟩
end
end R
namespace R
open PySem PySem.Spec PyProof.Rows L2 GenW
variable[aI]
theorem acj {K:Frag}{l:List Nat}(h:Qc l K=true):AX K λc=>l.contains c:=λc hc=>by
 have:=List.all_eq_true.mp h c (by simpa using hc);exact of_decide_eq_true this
abbrev NC:Cons:=λ_ _ _=>False
def XQ:Re af->T (Re ck)
 | .ok _ _=>.bad
 | .ex c fs M=>.ret (.ex c fs M)
def qZ (f:CE):aQ:=λρ M=>(f ρ M).bind XQ
def adh (ns:Nat->Bool)(n:Nat):Re ck->T (Re af)
 | .ex c fs M=>if ns c=true then .ret (.ex c fs (cut n M))else .bad
 |_=>.bad
def lV (ns:Nat->Bool)(np n:Nat)(f:aQ):aK:=λss M=>if ss.length=np then(f (ss++List.replicate (n-np) .un) M).bind (adh ns M.length)else .bad
theorem Ri {ns:Nat->Bool}{np n:Nat}{f:aQ}{ss:List af}{M:List ak}{Q:Re af->Prop}(w:wp (lV ns np n f ss M) Q):ss.length=np:=by
 unfold lV at w;split at w
 ·assumption
 ·exact w.elim
def uh (ns:Nat->Bool)(np n:Nat)(b:Flt->dP)(f:aQ):aK:=λss M=>match ss with
 | .dat (.bl _)::ss=>lV ns np n f ss M
 | .dat d::ss=>jR ns np n (b (X8 d)) ss M
 |_=>.bad
def Cp (l:List Stmt):Stmt:=l.headD (.Pass ⟨0,0,0,0⟩)
structure Ec (D:f6)(k:Nat)(f:Addr)(fd:FuncData)(ps:List Str)(n:Nat)(fs:aQ):Prop where
 ex:∃(N:List Str) (qual:Str) (scope:Scope) (cd:Value) (st:Stmt) (rest:List Stmt),N.length=n/\
  (∀(A:Around) (outer:List Env) (s:Shared) (H:Hp) (args:Args) (us:List Value) (vs:List V),Room (k+2) A->Env0 D.prog D.w D.K D.mg D.base A outer s H->BindsTo s fd args (ps.zip us)->Vals vs us->vs.length=ps.length->
   codeAny (model D.prog D.w) A (.call (.ref f) args) (λr aF=>match r with|.ok (.ret u)=>∃a g go,u=.ref a/\ve D.prog D.w D.K D.mg D.base N qual scope f cd (st::rest) (k+1) outer s H vs a g go aF|_=>False) s)/\
  (∀(A:Around) (outer:List Env) (s:Shared) (H:Hp) (E:XK) (pn:List (Addr×Obj)),Room (k+1) A->iI (gcxOf D.prog D.w D.K D.mg D.base N qual scope f cd A outer s H E pn) (mE E) st fs)
theorem afS {P:Program}{w:World}{K:Frag}{mg:Str->Option Value}{base:Heap}{N:List Str}{qual:Str}{sc:Scope}{f:Addr}{cdv:Value}{A:Around}{outer:List Env}{s:Shared}{H:Hp}{E:XK}{pn:List (Addr×Obj)}:Takes (lM P w K mg base N qual sc f cdv A outer s H E pn) (mE E):=takes_gcx
section
variable{P:Program}{w:World}{K:Frag}{mg:Str->Option Value}{base:Heap}{x qual:Str}{dg:Stmt}{f:Addr}{fd:FuncData}{N ps:List Str}{k:Nat}
theorem OG (F:L2.Fun K x qual dg f fd)(S:GScope N ps (defScope dg)){fs:aQ}(hb:defBody dg=Cp (defBody dg)::(defBody dg).tail)
    (body:∀(cdv:Value) (A:Around) (outer:List Env) (s:Shared) (H:Hp) (E:XK) (pn:List (Addr×Obj)),Room k (A.deeper (envOfC qual (defScope dg) s.heap.objs.size f cdv))->A.handled=none->
      iI (lM P w K mg base N qual (defScope dg) f cdv A outer s H E pn) (mE E) (Cp (defBody dg)) fs):Ec ⟨P,w,K,mg,base⟩ k f fd ps N.length fs:=by
  obtain⟨oc,od,kV,doc,pm,an,cdv,ct,fq,rfl,lk,hcd⟩:=F.ex;refine⟨N,qual,defScope dg,cdv,Cp (defBody dg),(defBody dg).tail,rfl,λA outer s H args us vs hr e0 mG r hl=>?_,λA outer s H E pn hr=>body cdv A outer s H E pn (hr.deeper _) hr.hd⟩;rw[<-hb];exact OO lk hcd S A outer s H args us vs hr e0 mG r hl
end
structure MM (X:Cx)(W:WX)(ns:Nat->Bool)(k:Nat)(e:Expr)(f:CE):Prop where
 run:∀ρ M aa G σ H,aE X.K aa G M H->bO X.K aa G σ ρ->wp (f ρ M) (λr=>match r with|.ok _ _=>False|.ex c fs ao=>PX X W σ aa G H c fs ao)->
  Ax X e k σ H λa_=>∃av au M1 ss np fs st rest,aG aa G H av au a_.H/\aE X.K av au M1 a_.H/\bA X.K av au a_.vs ss/\a_.N.length-np=a_.N.length-ss.length/\a_.body=st::rest/\
   (∀(A:Around) (E:XK),Room k A->iI (a_.gQ X A E) (mE E) st fs)/\wp (lV ns np a_.N.length fs ss M1) λr=>match r with|.ok _ _=>False|.ex c fs ao=>PX X W σ aa G H c fs ao
structure Ls (D:f6)(ns:Nat->Bool)(k:Nat)(x:Str)(np:Nat)(F:aK):Prop where
 ex:∃dJ f fd ps n fs,k=dJ+1/\Ec D dJ f fd ps n fs/\D.mg x=some (.ref f)/\PySem.W.keepIn D.K (.ref f)=true/\Binds D.K fd ps []/\np=ps.length/\∀ss M Q,wp (F ss M) Q->wp (lV ns np n fs ss M) Q
section
variable{X:Cx}{W:WX}{k:Nat}{e bD:Expr}{es:List Expr}{f:CE}{fs:aH}{x:Str}{ns:Nat->Bool}{body:List Stmt}{p pos:Pos}
theorem UE {np:Nat}{F:aK}(C:Ls X.gj ns k x np F)(hr:Room (k+1) X.A)(n5:dW X x)(h1:jn X W (e::es) fs)
    (he:starEach (e::es) X.env=(false,eval e X.env)::starEach es X.env:=by rfl) (hpl:(backTo pos (starEach es X.env)).any (·.1)=false:=by rfl):MM X W ns k (.Call (.Name x p) (e::es) [] pos) (bR F fs):=⟨λρ M aa G σ H ms en h=>by
  obtain⟨dJ,f,fd,ps,n,G9,rfl,xW,hm,hk,hb,jt,hF⟩:=C.ex;intro pins s I;have qF:=h1.run ρ M aa G σ H (λvs H1=>∃av au M1 ss,aG aa G H av au H1/\aE X.K av au M1 H1/\bA X.K av au vs ss/\wp (F ss M1) λr=>match r with|.ok _ _=>False|.ex c fs ao=>PX X W σ aa G H c fs ao) ms en (wp_mono (λr hr=>by
    cases r with
    |ex c fs M1=>exact hr
    |ok ss M1=>exactλav au H1 vs g1 m1 r1=>⟨av,au,M1,ss,g1,m1,r1,hr⟩) (cz.mp h))
  refine wpAny_Call_Name_kw (ld_glob I n5.gl hm ?_ n5.nd);refine PySem.W.callWith_K (h₀:=X.base) I.ok.mod.kin hk (thn (qF pos pins s I) λus s1 ⟨vs,H1,bE,r,av,au,M1,ss,g1,m1,r1,aC⟩=>⟨bE.kIn,?_⟩) he hpl;have bN:=hF _ _ _ aC;have hl:us.length=ps.length:=by rw[<-r.length,r1.length,Ri bN,jt]
  have mG:=hb s1 us bE.kIn (by rw[List.append_nil];exact hl);rw[List.append_nil]at mG;obtain⟨N,qual,scope,cd,st,rest,hN,HE,HB⟩:=xW.ex;refine wpAny_call (codeAny_mono (HE X.A X.stack s1 H1 ⟨us,[]⟩ us vs hr bE.env0 mG r (by rw[r.length];exact hl)) λq aF hq=>?_);cases q with
  |error e=>exact False.elim hq
  |ok fK=>
    cases fK with
    |next=>exact False.elim hq
    |brk=>exact False.elim hq
    |cont=>exact False.elim hq
    |ret u=>
      obtain⟨a,g,go,rfl,mk⟩:=hq;subst hN;exact⟨⟨N,qual,scope,f,cd,st::rest,dJ+1,s1,H1,vs,a,g,go⟩,⟨rfl,bE,mk⟩,rfl,av,au,M1,ss,np,G9,st,rest,g1,m1,r1,by rw[Ri bN],rfl,λA E jO=>HB A X.stack s1 H1 E _ jO,bN⟩⟩
theorem TF (he:MM X W ns k e f)(hn:AX X.K ns)(hr:Room (k+1) X.A)(tk:Takes X W)(po:PassesOwn (model X.prog X.w) X.A X.env X.xe)(hc:X.calm=true)(hs:∀x,foldedSetIterable e X.env x=pure x:=by intro _;rfl):
    iI X W (.For bD e body [] pos) (qZ f):=⟨λρ M aa G σ H D ms en w=>by
  intro pins s I;refine wpAny_For (thn (he.run ρ M aa G σ H ms en (wp_mono (λr hr=>by
    cases r with
    |ex c fs M1=>exact hr σ
    |ok s M1=>exact(show False from hr).elim) (wp_bind.mp w)) pins s I) λu s1 ⟨a_,M1,hk,av,au,tH,ss,np,fs,st,rest,g1,m1,r1,jt,hbd,hb,aC⟩=>?_) hs
  obtain rfl:=M1.val;subst hk;refine wpAny_pyIter_gen (M1.made.wB _ M1.made.at_) ?_;have zp:Room a_.k X.A.in1:=⟨hr.hd,by have:=hr.dp;show X.A.depth+3*a_.k+5<_;omega,by have:=hr.un;show X.A.units+1+16*a_.k+200<_;omega⟩;have Ej:=M1.made.inv X.A.in1 (rC X.K W σ) zp M1.inv.ok.frames;have qK:rm (a_.gQ X X.A.in1 (rC X.K W σ)) (λt=>t=a_.sc) jd NC sizeLine a_.body {nx:=λ_ _ H'=>False,rt:=λ_ v H'=>v=.non/\False} 0 (start a_.N a_.vs) a_.H:=by
    rw[hbd];unfold lV at aC;split at aC
    · rename_i e
      have en:=vX (K:=X.K) (aa:=av) (G:=au) (N:=a_.N) r1;rw[<-e]at aC;refine K_ (Uh λt cg=>?_);subst cg;refine(hb _ (rC X.K W σ) zp).run _ tH av au (start a_.N a_.vs) a_.H _ m1 en (wp_mono (λr hr=>?_) (wp_bind.mp aC));cases r with
      |ok a ao=>cases a<;>exact(show False from hr).elim
      |ex c fs ao=>
        have hr:wp (if ns c=true then(R.T.ret (.ex c fs (cut tH.length ao)):T (Re af))else .bad) _:=hr;split at hr
        · rename_i hc
          intro aN aj ai H' d bG g2 m2 e2 r2;have hr:PX X W σ aa G H c fs (cut tH.length ao):=hr;rw[show tH.length=av.length from m1.len.symm]at hr;exact lG m1 g2 m2 λaM g3 m3 _=>⟨hn c hc,hr aM ai H' d bG (g1.trans g3) m3 e2 r2⟩
        · exact hr.elim
    · exact aC.elim
  have sl:vA X.prog X.w (a_.gQ X X.A.in1 (rC X.K W σ)) (λt=>t=a_.sc) jd NC (λ_=>False) (λe aF=>CX X.prog X.w X.stack a_.H a_.sc (rC X.K W σ) e aF/\∀p∈[(a_.a,a_.go)],aF.heap.get? p.1=some p.2) a_.g X.A.in1 sizeLine s1:=by
    refine⟨.fresh (.func a_.body (envOfC a_.qual a_.scope a_.sc.heap.objs.size a_.f a_.cd)),M1.made.gen,rfl,?_⟩;exact KD (aH:=jd) (cp:=[]) ⟨rfl,trivial⟩ ⟨a_.sc,rfl,CB Ej rfl⟩ qK
  refine codeAny_forLoop_any (λn s=>s=s1) (λn s hI=>?_) 0 rfl;subst hI;refine Jq (X:=a_.gQ X X.A.in1 (rC X.K W σ)) (M1.inv.ok.hd hc) (by have:=hr.dp;omega) M1.made.lim M1.made.wB M1.made.at_ (List.mem_singleton.mpr rfl) sl (λv xv cp ip AF qn oh s2 uq hi bL cJ HH hk=>HH.elim) (λcp AF qn s2 uq cJ hQ=>hQ.elim) λe s2 ⟨he,hp⟩=>?_
  obtain⟨q1,q2⟩:=Oa M1 (R9 tk) (λ_ _ _ h=>h.1) he a_.g;exact⟨hp (a_.a,a_.go) (List.mem_singleton.mpr rfl),q1,po _ _ q2⟩⟩
end
end R
namespace g8
open PySem PySem.Spec PyProof.Rows L2 R
def sD:Nat->Bool:=λc=>RU.contains c
abbrev LX:List Str:=["_law_script"]
abbrev Vf:List Str:=["_law_script"]
theorem aen:FnScope LX Vf (defScope J3):=fJ
def Wa (C:Nat->aK):aQ:=
 (bU (fC true (aq (bW (pu (uG false)) (aq (yI (ah 0) Df (wW (λ_=>ok (.dat (.int 63))))) aB)) (aq (λ_=>ok (.dat (.int 0))) (aq (λ_=>ok (.dat (.int 0))) (aq (λ_=>ok (.dat (.int 4912))) (aq (λ_=>ok (.dat (.int 0))) aB)))))))
abbrev LY:List Str:=["_law_hand","_law_many","_law_cell","_law_digit","_law_seed"]
abbrev Vg:List Str:=["_law_hand","_law_many"]
theorem aeo:FnScope LY Vg (defScope J4):=fJ
def Wb (C:Nat->aK):aQ:=
  (aY (dF (tAnd (bZ (ay (cmp .Eq) (ay bT (ah 0) (λ_=>ok (.dat (.int 2)))) (λ_=>ok (.dat (.int 0))))) (bZ (ay (cmp .Lt) (ay bT (ah 0) (λ_=>ok (.dat (.int 1)))) (bW (eH []) (aq (ay bT (ah 0) (λ_=>ok (.dat (.int 0)))) aB))))) (aY (c_ 2 (ay bT (ay bT (ah 0) (λ_=>ok (.dat (.int 0)))) (ay bT (ah 0) (λ_=>ok (.dat (.int 1))))))
  (aY (sIx (ay (bin .Add) (ay bT (ah 0) (λ_=>ok (.dat (.int 1)))) (λ_=>ok (.dat (.int 1)))) (ah 0) (λ_=>ok (.dat (.int 1))))
  (dF (bZ (ay (cmp .GtE) (ah 2) (ay (bin .Pow) (λ_=>ok (.dat (.int 10))) (λ_=>ok (.dat (.int 18)))))) (sIx (ah 2) (ah 0) (λ_=>ok (.dat (.int 2)))) (sIx (ay (bin .Mod) (bW (pu gb) (aq (ay (bin .Add) (ay (bin .Add) (ay (bin .Mult) (ay bT (ah 0) (λ_=>ok (.dat (.int 3)))) (λ_=>ok (.dat (.int 40961)))) (ay (bin .Mult) (ay (bin .Mod) (bW (pu gb) (aq (ah 2) aB)) (λ_=>ok (.dat (.int 2147483549)))) (λ_=>ok (.dat (.int 28657))))) (λ_=>ok (.dat (.int 7)))) aB)) (λ_=>ok (.dat (.int 2147483647)))) (ah 0) (λ_=>ok (.dat (.int 3))))))) d8)
  (aY (dF (bZ (ay (cmp .Gt) (ay bT (ah 0) (λ_=>ok (.dat (.int 2)))) (λ_=>ok (.dat (.int 0))))) (aY (c_ 3 (ay (bin .Mod) (bW (pu gb) (aq (ay bT (ah 0) (λ_=>ok (.dat (.int 2)))) aB)) (ah 1)))
  (aY (sIx (ay (bin .FloorDiv) (ay bT (ah 0) (λ_=>ok (.dat (.int 2)))) (ah 1)) (ah 0) (λ_=>ok (.dat (.int 2))))
  (bU (ah 3)))) d8)
  (aY (sIx (ay (bin .Add) (ay bT (ah 0) (λ_=>ok (.dat (.int 4)))) (λ_=>ok (.dat (.int 1)))) (ah 0) (λ_=>ok (.dat (.int 4))))
  (aY (c_ 4 (ay bT (ah 0) (λ_=>ok (.dat (.int 3)))))
  (aY (sIx (ay (bin .Mod) (bW (pu gb) (aq (ay (bin .Add) (ay (bin .Add) (ay (bin .Add) (ay (bin .Mult) (ah 4) (ah 4)) (ay (bin .Mult) (ah 4) (λ_=>ok (.dat (.int 17389))))) (ay (bin .Mult) (ay bT (ah 0) (λ_=>ok (.dat (.int 4)))) (λ_=>ok (.dat (.int 611953))))) (λ_=>ok (.dat (.int 4099)))) aB)) (λ_=>ok (.dat (.int 2147483647)))) (ah 0) (λ_=>ok (.dat (.int 3))))
  (bU (ay (bin .Mod) (bW (pu gb) (aq (ay (bin .Add) (ay (bin .FloorDiv) (ay bT (ah 0) (λ_=>ok (.dat (.int 3)))) (λ_=>ok (.dat (.int 61)))) (ay (bin .Mult) (ay (bin .Mod) (bW (pu gb) (aq (ay bT (ah 0) (λ_=>ok (.dat (.int 3)))) aB)) (λ_=>ok (.dat (.int 8191)))) (λ_=>ok (.dat (.int 37))))) aB)) (ah 1))))))))
abbrev Eu:List Str:=["bounds","ticks","place","phase","bits"]
abbrev VC:List Str:=["bounds","ticks","place"]
theorem DC:L2.GScope Eu VC (defScope sN):=⟨rfl,rfl,rfl,by decide+kernel,rfl,by decide+kernel,by decide+kernel⟩
def FJ (C:Nat->aK)(ct:Flt):dP:=
  (r5 (r4 (l5 (bR (C 3) (aq (ah 1) (aq (ah 2) aB)))))
  (yR (f_ (ah 1)) (b7 3) (yR (fQ (bR (C 5) (aq (bW (eH []) (aq (bR (C 6) (aq (ah 1) (aq (ah 2) (aq (ah 3) (aq (oG [(1,C 7)] (ah 0)) aB))))) aB)) aB))) (b7 4) (Cb ct (dN (aq (ah 3) (aq (ah 4) aB)))))))
def JS (C:Nat->aK):aQ:=
 (l5 (bR (C 3) (aq (ah 1) (aq (ah 2) aB))))
abbrev Mp:List Str:=["ticks","place"]
abbrev VD:List Str:=["ticks","place"]
theorem aeK:FnScope Mp VD (defScope Kr):=fJ
def FL (C:Nat->aK):aQ:=
  (aY (l5 (bR (C 4) (aq (ah 0) (aq (λ_=>ok (.dat (.int 1))) (aq (λ_=>ok (.dat (.int 6))) aB)))))
  (l5 (bR (C 4) (aq (ah 1) (aq (λ_=>ok (.dat (.int 0))) (aq (ay (bin .Sub) (ah 0) (λ_=>ok (.dat (.int 1)))) aB))))))
abbrev Mq:List Str:=["number","least","most"]
abbrev VE:List Str:=["number","least","most"]
theorem aeL:FnScope Mq VE (defScope Ks):=fJ
def FN (C:Nat->aK):aQ:=
 (dF (tNot (bZ (tW .LtE .LtE (ah 1) (ah 0) (ah 2)))) (uU 12 "BadNumber" "given" (ah 0)) d8)
abbrev Mr:List Str:=["many","found","turn","bits","sign"]
abbrev VF:List Str:=["many"]
theorem aeM:FnScope Mr VF (defScope Ku):=fJ
def FO (C:Nat->aK):aQ:=
  (aY (c_ 1 (fC false (aq (λ_=>ok (.dat (.str ""))) aB)))
  (aY (l6 (f_ (ah 0)) (b7 2) (pA [2] (c_ 1 (BN false [3,4] (fQ (ah 1)) (b7 3) fW (fQ (λ_=>ok (.dat (.str "01")))) [4] (b7 4) fW (ay (bin .Add) (ah 3) (ah 4))))))
  (bU (ah 1))))
abbrev Ms:List Str:=["ticks","place","phase","many","gap"]
abbrev VG:List Str:=["ticks","place","phase","many"]
theorem aeN:FnScope Ms VG (defScope Kv):=fJ
def FP (C:Nat->aK):aQ:=
 (bU (fO false [4] (f_ (ah 3)) (b7 4) (bZ (ay (cmp .Eq) (ay (bin .Mod) (ay (bin .Add) (ah 2) (ah 4)) (ah 0)) (ah 1))) (ah 4)))
abbrev Mu:List Str:=["self"]
abbrev VH:List Str:=["self"]
theorem aeO:FnScope Mu VH (defScope Kw):=fJ
def FQ (C:Nat->aK):aQ:=
 (bU (iK "own_bounce" [1] (ah 0)))
abbrev Mv:List Str:=["self","depth","rows","at","row","looks"]
abbrev VI:List Str:=["self","depth","rows"]
theorem aeP:FnScope Mv VI (defScope Kx):=fJ
def FT (C:Nat->aK):aQ:=
  (aY (l5 (bR (C 4) (aq (ah 1) (aq (λ_=>ok (.dat (.int 1))) (aq (λ_=>ok (.dat (.int 2))) aB)))))
  (aY (dF (bZ (ay (cmp .Gt) (bW (eH []) (aq (ah 2) aB)) (λ_=>ok (.dat (.int 12))))) (uU 18 "BadRow" "at" (cM sC (λ_=>ok (.dat (.int 1))))) d8)
  (aY (l6 (Pw (ah 2)) (lK 2 (gx (b7 3) (gx (b7 4) mJ))) (pA [3,4] (dF (tNot (bZ (bR (C 12) (aq (ah 4) (aq (ah 1) aB))))) (uU 18 "BadRow" "at" (ah 3)) d8)))
  (aY (sFld "own_depth" [3] (ah 1) (ah 0))
  (aY (sFld "own_rows" [3] (bW (pu (uG false)) (aq (ah 2) aB)) (ah 0))
  (sFld "own_table" [3] (fO false [5] (fQ (bR (C 13) (aq (ah 1) aB))) (b7 5) fW (GN "verdict" [(3,C 9)] (ah 0) (aq (ah 5) aB))) (ah 0)))))))
abbrev LZ:List Str:=["self","looks","pattern","verdict"]
abbrev Vh:List Str:=["self","looks"]
theorem aep:FnScope LZ Vh (defScope J5):=fJ
def Fp (C:Nat->aK):aQ:=
  (aY (dF (tOr (tNot (bZ (bR (C 11) (aq (ah 1) (aq (iK "own_depth" [3] (ah 0)) aB))))) (bZ (ay (cmp .NotEq) (bW (eH []) (aq (ah 1) aB)) (iK "own_depth" [3] (ah 0))))) (uU 16 "BadLook" "given" (ah 1)) d8)
  (aY (l6 (fQ (iK "own_rows" [3] (ah 0))) (lK 2 (gx (b7 2) (gx (b7 3) mJ))) (pA [2,3] (dF (bZ (bR (C 10) (aq (ah 2) (aq (ah 1) aB)))) (bU (ah 3)) d8)))
  (bU (λ_=>ok (.dat (.str "keep"))))))
abbrev L0:List Str:=["pattern","looks","sign","look"]
abbrev Vi:List Str:=["pattern","looks"]
theorem aeq:FnScope L0 Vi (defScope J6):=fJ
def Fq (C:Nat->aK):aQ:=
 (bU (bW (pu (qt true)) (aq (fO false [2,3] (Px (ah 0) (ah 1)) (lK 2 (gx (b7 2) (gx (b7 3) mJ))) fW (ay (cmp .In) (ah 2) (dN (aq (λ_=>ok (.dat (.str "?"))) (aq (ah 3) aB))))) aB)))
abbrev L3:List Str:=["value","most","look"]
abbrev Vj:List Str:=["value","most"]
theorem aer:FnScope L3 Vj (defScope J7):=fJ
def Ft (C:Nat->aK):aQ:=
 (bU (jq (cM (e7 ["str"]) (ah 0)) (jq (tW .LtE .LtE (λ_=>ok (.dat (.int 1))) (bW (eH []) (aq (ah 0) aB)) (ah 1)) (bW (pu (qt true)) (aq (fO false [2] (fQ (ah 0)) (b7 2) fW (ay (cmp .In) (ah 2) (λ_=>ok (.dat (.str "012"))))) aB)))))
abbrev L4:List Str:=["row","depth","pattern","verdict","sign"]
abbrev Vk:List Str:=["row","depth"]
theorem aes:FnScope L4 Vk (defScope J8):=fJ
def Fv (C:Nat->aK):aQ:=
  (aY (dF (tOr (tNot (bZ (cM (e7 ["tuple"]) (ah 0)))) (bZ (ay (cmp .NotEq) (bW (eH []) (aq (ah 0) aB)) (λ_=>ok (.dat (.int 2)))))) (bU (λ_=>ok (.dat (.bl false)))) d8)
  (aY (q6 (lK 2 (gx (b7 2) (gx (b7 3) mJ))) (ah 0))
  (aY (dF (tOr (tNot (bZ (cM (e7 ["str"]) (ah 2)))) (tOr (tNot (bZ (cM (e7 ["str"]) (ah 3)))) (bZ (ay (cmp .NotIn) (ah 3) (λ_=>ok (.dat (.tup (List.map D.str ["down","up","keep"])))))))) (bU (λ_=>ok (.dat (.bl false)))) d8)
  (bU (jq (ay (cmp .Eq) (bW (eH []) (aq (ah 2) aB)) (ah 1)) (bW (pu (qt true)) (aq (fO false [4] (fQ (ah 2)) (b7 4) fW (ay (cmp .In) (ah 4) (λ_=>ok (.dat (.str "012?"))))) aB)))))))
abbrev L5:List Str:=["many","found","turn","looks","look"]
abbrev Vl:List Str:=["many"]
theorem aet:FnScope L5 Vl (defScope J9):=fJ
def Fw (C:Nat->aK):aQ:=
  (aY (c_ 1 (fC false (aq (λ_=>ok (.dat (.str ""))) aB)))
  (aY (l6 (f_ (ah 0)) (b7 2) (pA [2] (c_ 1 (BN false [3,4] (fQ (ah 1)) (b7 3) fW (fQ (λ_=>ok (.dat (.str "012")))) [4] (b7 4) fW (ay (bin .Add) (ah 3) (ah 4))))))
  (bU (ah 1))))
abbrev L6:List Str:=["self","bounce","hold"]
abbrev Vm:List Str:=["self","bounce","hold"]
theorem aeu:FnScope L6 Vm (defScope J_):=fJ
def Fx (C:Nat->aK):aQ:=
  (aY (l5 (bR (C 4) (aq (ah 1) (aq (λ_=>ok (.dat (.int 0))) (aq (λ_=>ok (.dat (.int 6))) aB)))))
  (aY (l5 (bR (C 4) (aq (ah 2) (aq (ay (bin .Add) (ah 1) (λ_=>ok (.dat (.int 1)))) (aq (λ_=>ok (.dat (.int 12))) aB)))))
  (aY (sFld "own_bounce" [1] (ah 1) (ah 0))
  (aY (sFld "own_hold" [1] (ah 2) (ah 0))
  (sFld "own_pair" [1] (dN (aq (ah 1) (aq (ah 2) aB))) (ah 0))))))
abbrev L7:List Str:=["_law_hand","_law_things"]
abbrev Vn:List Str:=["_law_hand","_law_things"]
theorem aev:FnScope L7 Vn (defScope Ka):=fJ
def Fy (C:Nat->aK):aQ:=
 (bU (ay bT (ah 1) (bR (C 1) (aq (ah 0) (aq (bW (eH []) (aq (ah 1) aB)) aB)))))
abbrev L8:List Str:=["_law_asks","_law_ask"]
abbrev Vo:List Str:=["_law_asks"]
theorem aew:FnScope L8 Vo (defScope Kc):=fJ
def Bc (C:Nat->aK):aQ:=
 (bU (fO false [1] (fQ (ah 0)) (b7 1) fW (bR (C 17) (aq (ah 1) aB))))
abbrev L_:List Str:=["_law_ask","_law_e"]
abbrev Vp:List Str:=["_law_ask"]
theorem aex:FnScope L_ Vp (defScope z7):=fJ
def Be (C:Nat->aK):aQ:=
 (DA (bU (dN (aq (λ_=>ok (.dat (.str ""))) (aq (BK (wG C 29 6) (ah 0)) aB)))) 2 1 (yu Ga) (bU (ay (bin .Add) (dN (aq (kJ "code" [12,13,16,18,28,29] (ah 1)) aB)) (bR (C 18) (aq (ah 1) aB)))))
abbrev Ma:List Str:=["_law_e"]
abbrev Vq:List Str:=["_law_e"]
theorem aey:FnScope Ma Vq (defScope DB):=fJ
def vE (C:Nat->aK):aQ:=
  (aY (dF (bZ (ay (cmp .In) (kJ "code" [12,13,16,18,28,29] (ah 0)) (dN (aq (λ_=>ok (.dat (.str "BadNumber"))) (aq (λ_=>ok (.dat (.str "BadText"))) (aq (λ_=>ok (.dat (.str "BadKey"))) (aq (λ_=>ok (.dat (.str "BadWord"))) (aq (λ_=>ok (.dat (.str "BadLook"))) (aq (λ_=>ok (.dat (.str "BadState"))) (aq (λ_=>ok (.dat (.str "BadLimit"))) aB)))))))))) (bU (dN (aq (kJ "given" [12,13,16] (ah 0)) aB))) d8)
  (aY (dF (bZ (ay (cmp .In) (kJ "code" [12,13,16,18,28,29] (ah 0)) (dN (aq (λ_=>ok (.dat (.str "BadRow"))) (aq (λ_=>ok (.dat (.str "BadCommand"))) aB))))) (bU (dN (aq (kJ "at" [18] (ah 0)) aB))) d8)
  (aY (dF (bZ (ay (cmp .In) (kJ "code" [12,13,16,18,28,29] (ah 0)) (dN (aq (λ_=>ok (.dat (.str "TooWide"))) (aq (λ_=>ok (.dat (.str "Full"))) aB))))) (bU (dN (aq (kJ "most" [] (ah 0)) aB))) d8)
  (aY (dF (bZ (ay (cmp .In) (kJ "code" [12,13,16,18,28,29] (ah 0)) (dN (aq (λ_=>ok (.dat (.str "TooSoon"))) (aq (λ_=>ok (.dat (.str "Steady"))) aB))))) (bU (dN (aq (kJ "key" [] (ah 0)) aB))) d8)
  (bU (GJ (bZ (ay (cmp .In) (kJ "code" [12,13,16,18,28,29] (ah 0)) (dN (aq (λ_=>ok (.dat (.str "BadName"))) (aq (λ_=>ok (.dat (.str "TakenName"))) (aq (λ_=>ok (.dat (.str "NoName"))) aB)))))) (dN (aq (kJ "name" [28] (ah 0)) aB)) (dN aB)))))))
abbrev Mc:List Str:=["_law_found","_law_due","_law_k"]
abbrev Vs:List Str:=["_law_found","_law_due"]
theorem aeA:FnScope Mc Vs (defScope Kd):=fJ
def Bg (C:Nat->aK):aQ:=
  (aY (dF (tOr (bZ (ay (cmp .Is) (ah 0) (λ_=>ok (.dat .non)))) (bZ (ay (cmp .Is) (ah 1) (λ_=>ok (.dat .non))))) (bU (jq (ay (cmp .Is) (ah 0) (λ_=>ok (.dat .non))) (ay (cmp .Is) (ah 1) (λ_=>ok (.dat .non))))) d8)
  (aY (dF (bZ (cM (e7 ["list","tuple"]) (ah 1))) (aY (dF (tOr (bZ (ay (cmp .NotEq) (cM (e7 ["list"]) (ah 0)) (cM (e7 ["list"]) (ah 1)))) (bZ (ay (cmp .NotEq) (cM (e7 ["tuple"]) (ah 0)) (cM (e7 ["tuple"]) (ah 1))))) (bU (λ_=>ok (.dat (.bl false)))) d8)
  (bU (jq (ay (cmp .Eq) (bW (eH []) (aq (ah 0) aB)) (bW (eH []) (aq (ah 1) aB))) (bW (pu (qt true)) (aq (fO false [2] (f_ (bW (eH []) (aq (ah 1) aB))) (b7 2) fW (bR (C 19) (aq (ay bT (ah 0) (ah 2)) (aq (ay bT (ah 1) (ah 2)) aB)))) aB))))) d8)
  (aY (dF (tOr (bZ (ay (cmp .NotEq) (cM (e7 ["bool"]) (ah 0)) (cM (e7 ["bool"]) (ah 1)))) (bZ (ay (cmp .NotEq) (cM (e7 ["int"]) (ah 0)) (cM (e7 ["int"]) (ah 1))))) (bU (λ_=>ok (.dat (.bl false)))) d8)
  (bU (jq (ay (cmp .Eq) (cM (e7 ["str"]) (ah 0)) (cM (e7 ["str"]) (ah 1))) (ay (cmp .Eq) (ah 0) (ah 1)))))))
abbrev Me:List Str:=["rule","bounds","ticks","place","most","phase","bits","said","reads"]
abbrev Vt:List Str:=["rule","bounds","ticks","place"]
theorem aeB:FnScope Me Vt (defScope Ke):=fJ
def tT (C:Nat->aK):aQ:=
  (aY (c_ 4 (λ_=>ok (.dat (.int 0))))
  (aY (qZ (bR (λss=>C 2 (.dat (.bl true)::ss)) (aq (ah 1) (aq (ah 2) (aq (ah 3) aB)))))
  (bU (ah 4))))
abbrev Mf:List Str:=["rule","bits","looks","at"]
abbrev Vu:List Str:=["rule","bits"]
theorem aeC:FnScope Mf Vu (defScope Kf):=fJ
def Fz (C:Nat->aK):aQ:=
  (aY (c_ 2 (ay (bin .Add) (ay (bin .Add) (ay (bin .Mult) (λ_=>ok (.dat (.str "0"))) (ay (bin .Sub) (oG [(3,C 22)] (ah 0)) (λ_=>ok (.dat (.int 1))))) (ah 1)) (ay (bin .Mult) (λ_=>ok (.dat (.str "1"))) (oG [(3,C 22)] (ah 0)))))
  (bU (fO false [3] (f_ (ay (bin .Add) (bW (eH []) (aq (ah 1) aB)) (oG [(3,C 22)] (ah 0)))) (b7 3) fW (GN "verdict" [(3,C 9)] (ah 0) (aq (yI (ah 2) (wW (ah 3)) (wW (ay (bin .Add) (ah 3) (oG [(3,C 22)] (ah 0))))) aB)))))
abbrev Mg:List Str:=["self"]
abbrev Vv:List Str:=["self"]
theorem aeD:FnScope Mg Vv (defScope Kg):=fJ
def FA (C:Nat->aK):aQ:=
 (bU (iK "own_depth" [3] (ah 0)))
abbrev Mh:List Str:=["rule","bounds","ticks","place","phase","bits","stage","verdict"]
abbrev Vw:List Str:=["rule","bounds","ticks","place"]
theorem aeE:FnScope Mh Vw (defScope Kh):=fJ
def tU (C:Nat->aK):aQ:=
  (aY (qZ (bR (λss=>C 2 (.dat (.bl true)::ss)) (aq (ah 1) (aq (ah 2) (aq (ah 3) aB)))))
  (bU (λ_=>ok (.dat .non))))
abbrev Mi:List Str:=["self","other"]
abbrev Vx:List Str:=["self","other"]
theorem aeF:FnScope Mi Vx (defScope Kl):=fJ
def FD (C:Nat->aK):aQ:=
 (bU (jq (cM (CD 1 [1]) (ah 1)) (ay (cmp .Eq) (iK "own_pair" [1] (ah 0)) (iK "own_pair" [1] (ah 1)))))
abbrev Mj:List Str:=["self","other"]
abbrev Vy:List Str:=["self","other"]
theorem aeG:FnScope Mj Vy (defScope Km):=fJ
def FE (C:Nat->aK):aQ:=
 (bU (jq (cM (CD 3 [3]) (ah 1)) (ay (cmp .Eq) (iK "own_table" [3] (ah 0)) (iK "own_table" [3] (ah 1)))))
abbrev Ml:List Str:=["self"]
abbrev Vz:List Str:=["self"]
theorem aeH:FnScope Ml Vz (defScope Kn):=fJ
def FF (C:Nat->aK):aQ:=
 (bU (qN [(λ_=>ok (.dat (.str "Bounds("))),(cM qA (iK "own_bounce" [1] (ah 0))),(λ_=>ok (.dat (.str " "))),(cM qA (iK "own_hold" [1] (ah 0))),(λ_=>ok (.dat (.str ")")))] Str.empty))
abbrev Mm:List Str:=["self"]
abbrev VA:List Str:=["self"]
theorem aeI:FnScope Mm VA (defScope Ko):=fJ
def FH (C:Nat->aK):aQ:=
 (bU (qN [(λ_=>ok (.dat (.str "Rule("))),(cM qA (oG [(3,C 28)] (ah 0))),(λ_=>ok (.dat (.str ")")))] Str.empty))
abbrev Mn:List Str:=["self","shown","pattern","verdict"]
abbrev VB:List Str:=["self"]
theorem aeJ:FnScope Mn VB (defScope Kq):=fJ
def FI (C:Nat->aK):aQ:=
  (aY (c_ 1 (NV (λ_=>ok (.dat (.str "; "))) (fO false [2,3] (fQ (iK "own_rows" [3] (ah 0))) (lK 2 (gx (b7 2) (gx (b7 3) mJ))) fW (qN [(cM qA (ah 2)),(λ_=>ok (.dat (.str " "))),(cM qA (ah 3))] Str.empty))))
  (bU (ay (bin .Add) (qN [(cM qA (iK "own_depth" [3] (ah 0))),(λ_=>ok (.dat (.str ":")))] Str.empty) (GJ (bZ (ay (cmp .NotEq) (ah 1) (λ_=>ok (.dat (.str ""))))) (qN [(λ_=>ok (.dat (.str " "))),(cM qA (ah 1))] Str.empty) (λ_=>ok (.dat (.str "")))))))
abbrev Mb:List Str:=["_law_script","_law_hand","_law_bounce","_law_ticks_z","_law_place_z","_law_made","_law_due","_law_phase","_law_reads","_law_tick","_law_rows","_law_k","_law_bits","_law_found","_law_pair","_law_wrong","_law_bad","_law_rule","_law_asks"]
abbrev Vr:List Str:=["_law_script"]
theorem aez:FnScope Mb Vr (defScope k_):=fJ
def cA:Nat->eo
 |0=>wF "law.<locals>.<lambda>" ["_law_made","_law_wrong","_law_bad"] [] [] (defBody k_) [10] [0]
 |1=>wF "law.<locals>.<lambda>" ["_law_made","_law_ticks_z","_law_bad"] ["_law_a"] [] (defBody k_) [10] [1]
 |2=>wF "law.<locals>.<lambda>" ["_law_rule","_law_made","_law_wrong","_law_bad"] ["_law_b"] [] (defBody k_) [10] [2]
 |3=>wF "law.<locals>.<lambda>" ["_law_rule","_law_made","_law_ticks_z","_law_bad"] ["_law_c"] [] (defBody k_) [11] [1,0]
 |4=>wF "law.<locals>.<lambda>" ["_law_rule","_law_made","_law_wrong","_law_bad"] ["_law_d"] [] (defBody k_) [11] [1,1]
 |5=>wF "law.<locals>.<lambda>" ["_law_rule","_law_made","_law_ticks_z","_law_bad"] ["_law_f"] [] (defBody k_) [11] [1,2]
 |_=>⟨Str.empty,defArgs k_,C9,defScope k_,[],false,[],[]⟩
def rR:List (List Nat):=[[5,15,16],[5,3,16],[17,5,15,16],[17,5,3,16],[17,5,15,16],[17,5,3,16]]
def Bf (C:Nat->aK):aQ:=
  (aY (c_ 1 (bR (C 0) (aq (ah 0) aB)))
  (aY (q6 (lK 2 (gx (b7 2) (gx (b7 3) mJ))) (dN (aq (bR (C 1) (aq (ah 1) (aq (λ_=>ok (.dat (.int 7))) aB))) (aq (ay (bin .Add) (λ_=>ok (.dat (.int 1))) (bR (C 1) (aq (ah 1) (aq (λ_=>ok (.dat (.int 6))) aB)))) aB))))
  (aY (q6 (lK 2 (gx (b7 4) (gx (b7 5) mJ))) (dN (aq (bR (C 1) (aq (ah 1) (aq (ah 3) aB))) (aq (t6 true 1 (C 14) (aq (ah 2) (aq (ay (bin .Add) (ay (bin .Add) (ah 2) (λ_=>ok (.dat (.int 1)))) (bR (C 1) (aq (ah 1) (aq (λ_=>ok (.dat (.int 3))) aB)))) aB))) aB))))
  (aY (c_ 6 (fC false aB))
  (aY (l6 (f_ (ah 3)) (b7 7) (xh (pA [7,8,10,11] (aY (c_ 8 (bW (eH []) (aq (fO false [9] (zw (ah 7) (ay (bin .Add) (ah 7) (ah 2))) (b7 9) (bZ (ay (cmp .Eq) (ay (bin .Mod) (bW (pu gb) (aq (ah 9) aB)) (ah 3)) (ah 4))) (ah 9)) aB)))
  (aY (c_ 10 (fC false (aq (λ_=>ok (.dat (.str ""))) aB)))
  (aY (l6 (f_ (ah 8)) (b7 11) (xh (pA [11] (c_ 10 (ay (bin .Add) (fO false [12] (fQ (ah 10)) (b7 12) fW (ay (bin .Add) (ah 12) (λ_=>ok (.dat (.str "0"))))) (fO false [12] (fQ (ah 10)) (b7 12) fW (ay (bin .Add) (ah 12) (λ_=>ok (.dat (.str "1"))))))))))
  (c_ 6 (ay (bin .Add) (ah 6) (fO false [12] (fQ (bW (pu (xu false)) (aq (ah 10) aB))) (b7 12) fW (dN (aq (ah 7) (aq (ah 12) aB))))))))))))
  (aY (c_ 13 (fC true aB))
  (aY (xj 13 14 (BO (bR (λss=>C 2 (.dat .non::ss)) (aq (ah 5) (aq (ah 3) (aq (ah 4) aB))))))
  (aY (dF (tOr (tNot (bZ (bR (C 19) (aq (vW (ah 13)) (aq (ah 6) aB))))) (bZ (ay (cmp .NotEq) (t7 false (vU (λss=>C 2 (.dat .non::ss)) [0,1,2] aB (aq (ah 5) (aq (ah 3) (aq (ah 4) aB))))) (ah 6)))) (bU (λ_=>ok (.dat (.bl false)))) d8)
  (aY (q6 (lK 2 (gx (b7 15) (gx (b7 16) mJ))) (dN (aq (bR (C 15) (aq (ah 1) (aq (fC false (aq (λ_=>ok (.dat (.int 0))) (aq (λ_=>ok (.dat (.int 7))) (aq (cM sC (λ_=>ok (.dat (.int 1)))) (aq (ay (bin .Pow) (λ_=>ok (.dat (.int 10))) (λ_=>ok (.dat (.int 9)))) aB))))) aB))) (aq (bR (C 15) (aq (ah 1) (aq (fC false (aq (cM sC (λ_=>ok (.dat (.int 1)))) (aq (ah 3) (aq (ay (bin .Pow) (λ_=>ok (.dat (.int 10))) (λ_=>ok (.dat (.int 9)))) aB)))) aB))) aB))))
  (aY (c_ 17 (t6 true 3 (C 8) (aq (λ_=>ok (.dat (.int 1))) (aq (fC false aB) aB))))
  (aY (c_ 18 (fC false (aq (jr 0 0) (aq (jr 0 1) (aq (jr 0 2) aB)))))
  (aY (c_ 18 (ay (bin .Add) (ah 18) (fC false (aq (jr 0 3) (aq (jr 0 4) (aq (jr 0 5) aB))))))
  (bU (ay (cmp .Eq) (BJ (pQ rR) (C 16) (ah 18)) (ay (bin .Add) (fC false (aq (dN (aq (λ_=>ok (.dat (.str "BadNumber"))) (aq (ah 15) aB))) (aq (dN (aq (λ_=>ok (.dat (.str "BadNumber"))) (aq (ah 16) aB))) aB))) (ay (bin .Mult) (fC false (aq (dN (aq (λ_=>ok (.dat (.str "BadNumber"))) (aq (ah 15) aB))) (aq (dN (aq (λ_=>ok (.dat (.str "BadNumber"))) (aq (ah 16) aB))) aB))) (λ_=>ok (.dat (.int 2)))))))))))))))))))
def vG (C:Nat->aK):CE:=
 (t7 false (bR (λss=>C 2 (.dat .non::ss)) (aq (ah 0) (aq (ah 1) (aq (ah 2) aB)))))
def vH (C:Nat->aK):CE:=
 (t7 false (bR (λss=>C 2 (.dat .non::ss)) (aq (ah 1) (aq (ah 2) (aq (ah 3) aB)))))
def vI (C:Nat->aK):CE:=
 (bR (C 20) (aq (ah 1) (aq (ah 2) (aq (ah 3) (aq (ah 4) aB)))))
def vJ (C:Nat->aK):CE:=
 (bR (C 20) (aq (ah 1) (aq (ah 2) (aq (ah 3) (aq (ah 4) aB)))))
def vK (C:Nat->aK):CE:=
 (bR (C 23) (aq (ah 1) (aq (ah 2) (aq (ah 3) (aq (ah 4) aB)))))
def vL (C:Nat->aK):CE:=
 (bR (C 23) (aq (ah 1) (aq (ah 2) (aq (ah 3) (aq (ah 4) aB)))))
abbrev jE (C:Nat->aK)(i m:Nat):Prop:=∀{ss M Q},wp (C i ss M) Q->ss.length=m
structure mw [aI](C:Nat->aK)(D:f6)(k:Nat):Prop where
 bP:UL D.mg
 k1:1<=k
 d_len:Lw D k "__len__" 1 []
 F6:iV D k "check_place" 2 (C 3)
 Jm:jE C 3 2
 R7:AY D k "bounce" [(1,C 7)]
 Nf:iV D k "reads_after" 4 (C 6)
 RA:jE C 6 4
 Nd:iV D k "all_bits" 1 (C 5)
 Rz:jE C 5 1
 OD:∃t,D.mg "MOST_TICKS"=some (.int 6 t)
 vO:iV D k "check_number" 3 (C 4)
 wR:jE C 4 3
 SA:yc D "BadNumber" 12 "BadNumber" "given"
 BZ:∀c∈([1]:List Nat),rD D.K (bQ D.K c) "own_bounce"
 OA:∃t,D.mg "MOST_DEPTH"=some (.int 2 t)
 OC:∃t,D.mg "MOST_ROWS"=some (.int 12 t)
 JR:yc D "BadRow" 18 "BadRow" "at"
 M_:iV D k "is_row" 2 (C 12)
 Rv:jE C 12 2
 vZ:∀c∈([3]:List Nat),rD D.K (bQ D.K c) "own_depth"
 B4:∀c∈([3]:List Nat),rD D.K (bQ D.K c) "own_rows"
 Na:iV D k "all_looks" 1 (C 13)
 Rw:jE C 13 1
 I6:LW D k "verdict" [(3,C 9)]
 B5:∀c∈([3]:List Nat),rD D.K (bQ D.K c) "own_table"
 M9:iV D k "is_looks" 2 (C 11)
 Ru:jE C 11 2
 Sz:yc D "BadLook" 16 "BadLook" "given"
 M8:iV D k "fits_pattern" 2 (C 10)
 Rr:jE C 10 2
 T8:EF D "VERDICTS" ["down","up","keep"]
 Oz:∃t,D.mg "MOST_BOUNCE"=some (.int 6 t)
 OB:∃t,D.mg "MOST_HOLD"=some (.int 12 t)
 G1:∀c∈([1]:List Nat),rD D.K (bQ D.K c) "own_hold"
 B0:∀c∈([1]:List Nat),rD D.K (bQ D.K c) "own_pair"
 vN:iV D k "_law_draw" 2 (C 1)
 wQ:jE C 1 2
 Nc:iV D k "_law_try" 1 (C 17)
 Rx:jE C 17 1
 OL:D.mg "FeintError"=some (.ref (aZ D.K "FeintError"))
 OM:D.mg "NoName"=some (.ref (aZ D.K "NoName"))
 ON:D.mg "NothingLeft"=some (.ref (aZ D.K "NothingLeft"))
 cat:∀c b,yu Ga c=some b->PySem.W.exmAny D.K (.ref (bQ D.K c)) ((["FeintError","NoName","NothingLeft"]:List Str).map λx=>.ref (aZ D.K x))=some b
 lam:Es D k (wG C 29 6)
 Nm:Lv D k "_law_fields" 1 (C 18)
 Ry:jE C 18 1
 x_code:∀c∈([12,13,16,18,28,29]:List Nat),rO D.K (bQ D.K c) "code"
 Ux:∀c∈([12,13,16]:List Nat),rO D.K (bQ D.K c) "given"
 x_at:∀c∈([18]:List Nat),rO D.K (bQ D.K c) "at"
 UA:∀c∈([]:List Nat),rO D.K (bQ D.K c) "most"
 Uz:∀c∈([]:List Nat),rO D.K (bQ D.K c) "key"
 UC:∀c∈([28]:List Nat),rO D.K (bQ D.K c) "name"
 FZ:iV D k "_law_like" 2 (C 19)
 Jj:jE C 19 2
 Gx:Ls D sD k "presses" 3 (λss=>C 2 (.dat (.bl true)::ss))
 ns:AX D.K sD
 zR:AY D k "depth" [(3,C 22)]
 Py:Ek D "Bounds" 1 [1]
 Pz:Ek D "Rule" 3 [3]
 R8:AY D k "text" [(3,C 28)]
 M7:iV D k "_law_start" 1 (C 0)
 Rq:jE C 0 1
 Qk:Et D k "Bounds" 1 3 (C 14)
 Bk:Lu D sD k "presses" 3 jK (λss=>C 2 (.dat .non::ss))
 OJ:Lr D sD k "presses" ["bounds","ticks","place"] [0,1,2] 3 jK (λss=>C 2 (.dat .non::ss))
 FY:iV D k "_law_pick" 2 (C 15)
 Ji:jE C 15 2
 Ql:Et D k "Rule" 3 3 (C 8)
 Nb:iV D k "_law_tries" 1 (C 16)
 abY:jE C 16 1
 F0:iV D k "delay" 4 (C 20)
 Jk:jE C 20 4
 F4:iV D k "flutter" 4 (C 23)
 Jl:jE C 23 4
section
variable[aI]
abbrev gq (N:List Str)(s:Stmt)(b:(Nat->aK)->aQ):Prop:=∀{C:Nat->aK} {X:Cx} {W:WX} {k:Nat},bF N (defScope s) (defScope s) X->Takes X W->PassesOwn (model X.prog X.w) X.A X.env X.xe->Room (k+1) X.A->mw C X.gj k->SB X W (defBody s) (b C)
theorem adT:gq LX J3 Wa:=@λC X W k h tk po hr P=>by
 obtain⟨hv0,-⟩:=h.v [("_law_script",0)];obtain⟨bV,-⟩:=h.g ["list"];exact(cF (dS (mZ true (aD (q7 bV (P.bP.all "list" (by decide)) (by rfl) (by decide) (Q8 false) (aD (Tn (az hv0) afj (KI bY)) bq)) (aD bY (aD bY (aD bY (aD bY bq))))))))
theorem adU:gq LY J4 Wb:=@λC X W k h tk po hr P=>by
  obtain⟨hv0,cO,hv1,eW,iQ,-⟩:=h.v [("_law_hand",0),("_law_cell",2),("_law_many",1),("_law_digit",3),("_law_seed",4)];obtain⟨hl2,oR,qJ,-⟩:=h.l [("_law_cell",2),("_law_digit",3),("_law_seed",4)];obtain⟨bV,cQ,-⟩:=h.g ["len","int"];exact(cG (jj (sR (afC (iu (hu hr) (jg (az hv0) bY) bY) (sU (iu (hu hr) (jg (az hv0) bY) (jx bV (P.bP.all "len" (by decide)) (by rfl) (by decide) (mP hr P.d_len) (aD (jg (az hv0) bY) bq)))))) (cG (jy hl2 (jg (jg (az hv0) bY) (jg (az hv0) bY)))
  (cG (xB (cP (jg (az hv0) bY) bY) (az hv0) bY)
  (cF (jj (iu (hu hr) (az cO) (cP bY bY)) (cF (xB (az cO) (az hv0) bY)) (cF (xB (cP (q7 cQ (P.bP.all "int" (by decide)) (by rfl) (by decide) int_ok (aD (cP (cP (cP (jg (az hv0) bY) bY) (cP (cP (q7 cQ (P.bP.all "int" (by decide)) (by rfl) (by decide) int_ok (aD (az cO) bq)) bY) bY)) bY) bq)) bY) (az hv0) bY)))))) jw)
  (cG (jj (iu (hu hr) (jg (az hv0) bY) bY) (cG (jy oR (cP (q7 cQ (P.bP.all "int" (by decide)) (by rfl) (by decide) int_ok (aD (jg (az hv0) bY) bq)) (az hv1)))
  (cG (xB (cP (jg (az hv0) bY) (az hv1)) (az hv0) bY)
  (cF (dS (az eW))))) jw)
  (cG (xB (cP (jg (az hv0) bY) bY) (az hv0) bY)
  (cG (jy qJ (jg (az hv0) bY))
  (cG (xB (cP (q7 cQ (P.bP.all "int" (by decide)) (by rfl) (by decide) int_ok (aD (cP (cP (cP (cP (az iQ) (az iQ)) (cP (az iQ) bY)) (cP (jg (az hv0) bY) bY)) bY) bq)) bY) (az hv0) bY)
  (cF (dS (cP (q7 cQ (P.bP.all "int" (by decide)) (by rfl) (by decide) int_ok (aD (cP (cP (jg (az hv0) bY) bY) (cP (cP (q7 cQ (P.bP.all "int" (by decide)) (by rfl) (by decide) int_ok (aD (jg (az hv0) bY) bq)) bY) bY)) bq)) (az hv1)))))))))
theorem aeg {C:Nat->aK}{X:Cx}{Fa:fB}{W:WX}{k:Nat}{aH:eG}{cons:Cons}{rN:Addr}{ct:Flt}(h:bF Eu (defScope sN) (defScope sN) X)(KS:ye X Fa W)(po:PassesOwn (model X.prog X.w) X.A X.env X.xe)(hr:Room (k+1) X.A)(qI:sY X.K rN ct cons)(hF:pM X Fa)(P:mw C X.gj k):nq X Fa W aH cons rN (defBody sN) (FJ C ct):=by
 obtain⟨hv1,cO,eW,hv0,iQ,-⟩:=h.v [("ticks",1),("place",2),("phase",3),("bounds",0),("bits",4)];obtain⟨oR,qJ,-⟩:=h.l [("phase",3),("bits",4)];obtain⟨bV,cQ,iN,iO,pY,-⟩:=h.g ["check_place","range","reads_after","len","all_bits"];exact(af1 (afF (λt lO=>(uY (fV P.F6 P.Jm hr.dn (bV.re t) (KS t lO) (aD (az (hv1.re t)) (aD (az (cO.re t)) bq))))))
 (KG (TU hF (λt lO=>(sP (cQ.re t) (P.bP.all "range" (by decide)) (az (hv1.re t)))) (λt lO=>(er (oR.re t))) (KG (TU hF (λt lO=>(l8 (fV P.Nd P.Rz hr.dn (pY.re t) (KS t lO) (aD (jx (iO.re t) (P.bP.all "len" (by decide)) (by rfl) (by decide) (mP hr P.d_len) (aD (fV P.Nf P.RA hr.dn (iN.re t) (KS t lO) (aD (az (hv1.re t)) (aD (az (cO.re t)) (aD (az (eW.re t)) (aD (xq P.R7 hr (az (hv0.re t))) bq))))) bq)) bq)))) (λt lO=>(er (qJ.re t))) (KG (afG qI (by rw[h.sc];rfl) (by unfold interactive;rw[h.sc];rfl) (λt lO=>(gT (aD (az (eW.re t)) (aD (az (iQ.re t)) bq)))))) po h.calm)) po h.calm)))
theorem afo {C:Nat->aK}{X:Cx}{W:WX}{k:Nat}(h:bF Eu (defScope sN) (defScope sN) X)(tk:Takes X W)(po:PassesOwn (model X.prog X.w) X.A X.env X.xe)(hr:Room (k+1) X.A)(P:mw C X.gj k):iI X W (Cp (defBody sN)) (JS C):=by
 obtain⟨hv1,cO,-⟩:=h.v [("ticks",1),("place",2)];obtain⟨bV,-⟩:=h.g ["check_place"];exact(uY (fV P.F6 P.Jm hr.dn bV tk (aD (az hv1) (aD (az cO) bq))))
theorem aeh:gq Mp Kr FL:=@λC X W k h tk po hr P=>by
 obtain⟨hv0,hv1,-⟩:=h.v [("ticks",0),("place",1)];obtain⟨bV,cQ,-⟩:=h.g ["MOST_TICKS","check_number"];exact(cG (uY (fV P.vO P.wR hr.dn cQ tk (aD (az hv0) (aD bY (aD (z_ bV P.OD) bq)))))
 (cF (uY (fV P.vO P.wR hr.dn cQ tk (aD (az hv1) (aD bY (aD (cP (az hv0) bY) bq)))))))
theorem aei:gq Mq Ks FN:=@λC X W k h tk po hr P=>by
 obtain⟨hv1,hv0,cO,-⟩:=h.v [("least",1),("number",0),("most",2)];obtain⟨bV,-⟩:=h.g ["BadNumber"];exact(cF (jj (uZ (aft (hu hr) (az hv1) (az hv0) (az cO))) (cF (DE P.SA h.calm tk hr P.k1 bV (az hv0))) jw))
theorem aej:gq Mr Ku FO:=@λC X W k h tk po hr P=>by
  obtain⟨hv0,hv1,-⟩:=h.v [("many",0),("found",1)];obtain⟨hl1,hl2,-⟩:=h.l [("found",1),("turn",2)];obtain⟨bV,-⟩:=h.g ["range"];exact(cG (jy hl1 (mZ false (aD dw bq)))
  (cG (xA (sP bV (P.bP.all "range" (by decide)) (az hv0)) (er hl2) (xo [2] (cF (TH (ts:=[3]) (u0:=[4]) (own:=[("bits",3),("sign",4)]) (vs1:=[4]) false hl1 (h.loc (by decide+kernel)) (l8 (az hv1)) (λ_ _ _ _ _=>by refine jG h λhb=>?_;obtain⟨qG,-⟩:=hb.l [("bits",3)];exact(er qG)) (by decide) (λ_ _ _ _ _=>by refine jH h λhb=>?_;exact lg) (λ_ _ _ _ _=>by refine Ni h λhb=>?_;exact(l8 dw)) (λ_ _ _ _ _=>by refine jG h λhb=>?_;obtain⟨uo,-⟩:=hb.l [("sign",4)];exact(er uo)) (by decide) (λ_ _ _ _ _=>by refine jH h λhb=>?_;exact lg) (λ_ _ _ _ _=>by refine kH h λhb=>?_;obtain⟨nJ,oQ,-⟩:=hb.v [("bits",3),("sign",4)];exact(cP (az nJ) (az oQ))) h.calm (kr h (⟨by decide+kernel,by decide+kernel,by decide+kernel,by decide+kernel,by decide+kernel⟩)) (by decide) (h.TR (by intro V qE;obtain⟨⟩:=V;cases qE;rfl))))) po h.calm)
  (cF (dS (az hv1)))))
theorem aek:gq Ms Kv FP:=@λC X W k h tk po hr P=>by
 obtain⟨eW,-⟩:=h.v [("many",3)];obtain⟨bV,-⟩:=h.g ["range"];exact(cF (dS (mY (ts:=[4]) (own:=[("gap",4)]) false (sP bV (P.bP.all "range" (by decide)) (az eW)) (λ_ _ _ _ _=>by refine jG h λhb=>?_;obtain⟨uo,-⟩:=hb.l [("gap",4)];exact(er uo)) (by decide) (λ_ _ _ _ _=>by refine jH h λhb=>?_;obtain⟨nI,oQ,r8,y_,-⟩:=hb.v [("phase",2),("gap",4),("ticks",0),("place",1)];exact(Tq (iu (hu hr) (cP (cP (az nI) (az oQ)) (az r8)) (az y_)))) (λ_ _ _ _ _=>by refine kH h λhb=>?_;obtain⟨oQ,-⟩:=hb.v [("gap",4)];exact(az oQ)) h.calm (h.nd (by decide+kernel)) (kr h (⟨by decide+kernel,by decide+kernel,by decide+kernel,by decide+kernel,by decide+kernel⟩)))))
theorem ael:gq Mu Kw FQ:=@λC X W k h tk po hr P=>by
 obtain⟨hv0,-⟩:=h.v [("self",0)];exact(cF (dS (mX P.BZ (az hv0))))
theorem aem:gq Mv Kx FT:=@λC X W k h tk po hr P=>by
  obtain⟨hv1,cO,iQ,eW,hv0,-⟩:=h.v [("depth",1),("rows",2),("row",4),("at",3),("self",0)];obtain⟨qJ,oR,-⟩:=h.l [("row",4),("at",3)];obtain⟨bV,cQ,iN,iO,pY,ur,uu,wg,wh,-⟩:=h.g ["MOST_DEPTH","check_number","len","MOST_ROWS","BadRow","enumerate","is_row","list","all_looks"];exact(cG (uY (fV P.vO P.wR hr.dn cQ tk (aD (az hv1) (aD bY (aD (z_ bV P.OA) bq)))))
  (cG (jj (iu (hu hr) (jx iN (P.bP.all "len" (by decide)) (by rfl) (by decide) (mP hr P.d_len) (aD (az cO) bq)) (z_ iO P.OC)) (cF (DE P.JR h.calm tk hr P.k1 pY (KA bY))) jw)
  (cG (xA (af2 ur (P.bP.all "enumerate" (by decide)) (az cO)) (r7 (j6 (er oR) (j6 (er qJ) r6)) h.calm) (xo [3,4] (cF (jj (uZ (sS (fV P.M_ P.Rv hr.dn uu tk (aD (az iQ) (aD (az hv1) bq))))) (cF (DE P.JR h.calm tk hr P.k1 pY (az eW))) jw))) po h.calm)
  (cG (xy P.vZ (az hv1) (az hv0))
  (cG (xy P.B4 (q7 wg (P.bP.all "list" (by decide)) (by rfl) (by decide) (Q8 false) (aD (az cO) bq)) (az hv0))
  (cF (xy P.B5 (mY (ts:=[5]) (own:=[("looks",5)]) false (l8 (fV P.Na P.Rw hr.dn wh tk (aD (az hv1) bq))) (λ_ _ _ _ _=>by refine jG h λhb=>?_;obtain⟨YZ,-⟩:=hb.l [("looks",5)];exact(er YZ)) (by decide) (λ_ _ _ _ _=>by refine jH h λhb=>?_;exact lg) (λ_ _ _ _ _=>by refine kH h λhb=>?_;obtain⟨r8,Y5,-⟩:=hb.v [("self",0),("looks",5)];exact(Ti P.I6 hr.dn DK (az r8) (aD (az Y5) bq))) h.calm (h.nd (by decide+kernel)) (kr h (⟨by decide+kernel,by decide+kernel,by decide+kernel,by decide+kernel,by decide+kernel⟩))) (az hv0))))))))
theorem adV:gq LZ J5 Fp:=@λC X W k h tk po hr P=>by
  obtain⟨hv1,hv0,cO,eW,-⟩:=h.v [("looks",1),("self",0),("pattern",2),("verdict",3)];obtain⟨oR,hl2,-⟩:=h.l [("verdict",3),("pattern",2)];obtain⟨bV,cQ,iN,iO,-⟩:=h.g ["is_looks","len","BadLook","fits_pattern"];exact(cG (jj (sR (sV (uZ (sS (fV P.M9 P.Ru hr.dn bV tk (aD (az hv1) (aD (mX P.vZ (az hv0)) bq))))) (sU (iu (hu hr) (jx cQ (P.bP.all "len" (by decide)) (by rfl) (by decide) (mP hr P.d_len) (aD (az hv1) bq)) (mX P.vZ (az hv0)))))) (cF (DE P.Sz h.calm tk hr P.k1 iN (az hv1))) jw)
  (cG (xA (l8 (mX P.B4 (az hv0))) (r7 (j6 (er hl2) (j6 (er oR) r6)) h.calm) (xo [2,3] (cF (jj (sS (fV P.M8 P.Rr hr.dn iO tk (aD (az cO) (aD (az hv1) bq)))) (cF (dS (az eW))) jw))) po h.calm)
  (cF (dS dw))))
theorem adW:gq L0 J6 Fq:=@λC X W k h tk po hr P=>by
 obtain⟨hv0,hv1,-⟩:=h.v [("pattern",0),("looks",1)];obtain⟨bV,cQ,-⟩:=h.g ["zip","all"];exact(cF (dS (jx cQ (P.bP.all "all" (by decide)) (by rfl) (by decide) (A8 h.calm) (aD (mY (ts:=[2,3]) (own:=[("sign",2),("look",3)]) false (af4 bV (P.bP.all "zip" (by decide)) (az hv0) (az hv1)) (λ_ _ _ _ _=>by refine jG h λhb=>?_;obtain⟨qG,um,-⟩:=hb.l [("look",3),("sign",2)];exact(r7 (j6 (er um) (j6 (er qG) r6)) hb.calm)) (by decide) (λ_ _ _ _ _=>by refine jH h λhb=>?_;exact lg) (λ_ _ _ _ _=>by refine kH h λhb=>?_;obtain⟨nI,nJ,-⟩:=hb.v [("sign",2),("look",3)];exact(nR (hu hr) (az nI) (gT (aD dw (aD (az nJ) bq))))) h.calm (h.nd (by decide+kernel)) (kr h (⟨by decide+kernel,by decide+kernel,by decide+kernel,by decide+kernel,by decide+kernel⟩))) bq))))
theorem adX:gq L3 J7 Ft:=@λC X W k h tk po hr P=>by
 obtain⟨hv0,hv1,-⟩:=h.v [("value",0),("most",1)];obtain⟨bV,cQ,iN,iO,-⟩:=h.g ["isinstance","str","len","all"];exact(cF (dS (sO (l7 bV (P.bP.all "isinstance" (by decide)) cQ (P.bP.all "str" (by decide)) (by rfl) (by decide) (az hv0)) (sO (aeT (hu hr) bY (jx iN (P.bP.all "len" (by decide)) (by rfl) (by decide) (mP hr P.d_len) (aD (az hv0) bq)) (az hv1)) (uW (jx iO (P.bP.all "all" (by decide)) (by rfl) (by decide) (A8 h.calm) (aD (mY (ts:=[2]) (own:=[("look",2)]) false (l8 (az hv0)) (λ_ _ _ _ _=>by refine jG h λhb=>?_;obtain⟨um,-⟩:=hb.l [("look",2)];exact(er um)) (by decide) (λ_ _ _ _ _=>by refine jH h λhb=>?_;exact lg) (λ_ _ _ _ _=>by refine kH h λhb=>?_;obtain⟨nI,-⟩:=hb.v [("look",2)];exact(nR (hu hr) (az nI) dw)) h.calm (h.nd (by decide+kernel)) (kr h (⟨by decide+kernel,by decide+kernel,by decide+kernel,by decide+kernel,by decide+kernel⟩))) bq)))))))
theorem adY:gq L4 J8 Fv:=@λC X W k h tk po hr P=>by
  obtain⟨hv0,cO,eW,hv1,-⟩:=h.v [("row",0),("pattern",2),("verdict",3),("depth",1)];obtain⟨oR,hl2,-⟩:=h.l [("verdict",3),("pattern",2)];obtain⟨bV,cQ,iN,iO,pY,ur,-⟩:=h.g ["isinstance","tuple","len","str","VERDICTS","all"];exact(cG (jj (sR (sV (uZ (sS (l7 bV (P.bP.all "isinstance" (by decide)) cQ (P.bP.all "tuple" (by decide)) (by rfl) (by decide) (az hv0)))) (sU (iu (hu hr) (jx iN (P.bP.all "len" (by decide)) (by rfl) (by decide) (mP hr P.d_len) (aD (az hv0) bq)) bY)))) (cF (dS z9)) jw)
  (cG (DF (r7 (j6 (er hl2) (j6 (er oR) r6)) h.calm) (az hv0))
  (cG (jj (sR (sV (uZ (sS (l7 bV (P.bP.all "isinstance" (by decide)) iO (P.bP.all "str" (by decide)) (by rfl) (by decide) (az cO)))) (sV (uZ (sS (l7 bV (P.bP.all "isinstance" (by decide)) iO (P.bP.all "str" (by decide)) (by rfl) (by decide) (az eW)))) (sU (afu (hu hr) (az eW) pY P.T8))))) (cF (dS z9)) jw)
  (cF (dS (sO (nR (hu hr) (jx iN (P.bP.all "len" (by decide)) (by rfl) (by decide) (mP hr P.d_len) (aD (az cO) bq)) (az hv1)) (uW (jx ur (P.bP.all "all" (by decide)) (by rfl) (by decide) (A8 h.calm) (aD (mY (ts:=[4]) (own:=[("sign",4)]) false (l8 (az cO)) (λ_ _ _ _ _=>by refine jG h λhb=>?_;obtain⟨uo,-⟩:=hb.l [("sign",4)];exact(er uo)) (by decide) (λ_ _ _ _ _=>by refine jH h λhb=>?_;exact lg) (λ_ _ _ _ _=>by refine kH h λhb=>?_;obtain⟨oQ,-⟩:=hb.v [("sign",4)];exact(nR (hu hr) (az oQ) dw)) h.calm (h.nd (by decide+kernel)) (kr h (⟨by decide+kernel,by decide+kernel,by decide+kernel,by decide+kernel,by decide+kernel⟩))) bq)))))))))
theorem adZ:gq L5 J9 Fw:=@λC X W k h tk po hr P=>by
  obtain⟨hv0,hv1,-⟩:=h.v [("many",0),("found",1)];obtain⟨hl1,hl2,-⟩:=h.l [("found",1),("turn",2)];obtain⟨bV,-⟩:=h.g ["range"];exact(cG (jy hl1 (mZ false (aD dw bq)))
  (cG (xA (sP bV (P.bP.all "range" (by decide)) (az hv0)) (er hl2) (xo [2] (cF (TH (ts:=[3]) (u0:=[4]) (own:=[("looks",3),("look",4)]) (vs1:=[4]) false hl1 (h.loc (by decide+kernel)) (l8 (az hv1)) (λ_ _ _ _ _=>by refine jG h λhb=>?_;obtain⟨qG,-⟩:=hb.l [("looks",3)];exact(er qG)) (by decide) (λ_ _ _ _ _=>by refine jH h λhb=>?_;exact lg) (λ_ _ _ _ _=>by refine Ni h λhb=>?_;exact(l8 dw)) (λ_ _ _ _ _=>by refine jG h λhb=>?_;obtain⟨uo,-⟩:=hb.l [("look",4)];exact(er uo)) (by decide) (λ_ _ _ _ _=>by refine jH h λhb=>?_;exact lg) (λ_ _ _ _ _=>by refine kH h λhb=>?_;obtain⟨nJ,oQ,-⟩:=hb.v [("looks",3),("look",4)];exact(cP (az nJ) (az oQ))) h.calm (kr h (⟨by decide+kernel,by decide+kernel,by decide+kernel,by decide+kernel,by decide+kernel⟩)) (by decide) (h.TR (by intro V qE;obtain⟨⟩:=V;cases qE;rfl))))) po h.calm)
  (cF (dS (az hv1)))))
theorem ae0:gq L6 J_ Fx:=@λC X W k h tk po hr P=>by
  obtain⟨hv1,cO,hv0,-⟩:=h.v [("bounce",1),("hold",2),("self",0)];obtain⟨bV,cQ,iN,-⟩:=h.g ["MOST_BOUNCE","check_number","MOST_HOLD"];exact(cG (uY (fV P.vO P.wR hr.dn cQ tk (aD (az hv1) (aD bY (aD (z_ bV P.Oz) bq)))))
  (cG (uY (fV P.vO P.wR hr.dn cQ tk (aD (az cO) (aD (cP (az hv1) bY) (aD (z_ iN P.OB) bq)))))
  (cG (xy P.BZ (az hv1) (az hv0))
  (cG (xy P.G1 (az cO) (az hv0))
  (cF (xy P.B0 (gT (aD (az hv1) (aD (az cO) bq))) (az hv0)))))))
theorem ae1:gq L7 Ka Fy:=@λC X W k h tk po hr P=>by
 obtain⟨hv1,hv0,-⟩:=h.v [("_law_things",1),("_law_hand",0)];obtain⟨bV,cQ,-⟩:=h.g ["len","_law_draw"];exact(cF (dS (jg (az hv1) (fV P.vN P.wQ hr.dn cQ tk (aD (az hv0) (aD (jx bV (P.bP.all "len" (by decide)) (by rfl) (by decide) (mP hr P.d_len) (aD (az hv1) bq)) bq))))))
theorem ae2:gq L8 Kc Bc:=@λC X W k h tk po hr P=>by
 obtain⟨hv0,-⟩:=h.v [("_law_asks",0)];exact(cF (dS (mY (ts:=[1]) (own:=[("_law_ask",1)]) false (l8 (az hv0)) (λ_ _ _ _ _=>by refine jG h λhb=>?_;obtain⟨YY,-⟩:=hb.l [("_law_ask",1)];exact(er YY)) (by decide) (λ_ _ _ _ _=>by refine jH h λhb=>?_;exact lg) (λ_ _ _ _ _=>by refine kH h λhb=>?_;obtain⟨y_,-⟩:=hb.v [("_law_ask",1)];obtain⟨yZ,-⟩:=hb.g ["_law_try"];exact(fV P.Nc P.Rx hr.dn yZ DK (aD (az y_) bq))) h.calm (h.nd (by decide+kernel)) (kr h (⟨by decide+kernel,by decide+kernel,by decide+kernel,by decide+kernel,by decide+kernel⟩)))))
theorem ae3 {C:Nat->aK}{X:Cx}{W:WX}{k:Nat}(h:bF L_ (defScope z7) (defScope z7) X)(tx:A3 X)(tk:Takes X W)(po:PassesOwn (model X.prog X.w) X.A X.env X.xe)(hr:Room (k+1) X.A)(P:mw C X.gj k):SB X W (defBody z7) (Be C):=by
 obtain⟨hv0,hv1,-⟩:=h.v [("_law_ask",0),("_law_e",1)];obtain⟨bV,cQ,iN,iO,-⟩:=h.g ["FeintError","NoName","NothingLeft","_law_fields"];exact(cF (afr tx.ex tx.st tx.fr (h.nd (by decide+kernel)) (acf h.q (by decide+kernel)) (aak h.q (by decide+kernel)) (kind_ok h.q (by decide+kernel)) (afY bV P.OL cQ P.OM iN P.ON) tk P.cat (λW pn xe tk po=>cF (dS (gT (aD dw (aD (aeS P.lam hr.dn tk (az hv0.tr)) bq))))) (λa pn=>cF (dS (cP (gT (aD (pB P.x_code (az hv1.DI)) bq)) (aeR P.Nm P.Ry (roomH_mark hr.dn) iO.DI afU (aD (az hv1.DI) bq)))))))
theorem ae4 {C:Nat->aK}{X:Cx}{W:WX}{k:Nat}(h:jk Ma (defScope DB) X)(tk:Takes X W)(hr:L2H.RoomH (k+1) X.A)(P:mw C X.gj k):SB X W (defBody DB) (vE C):=by
  obtain⟨hv0,-⟩:=h.v [("_law_e",0)];exact(cG (jj (iu (zq hr) (pB P.x_code (az hv0)) (gT (aD dw (aD dw (aD dw (aD dw (aD dw (aD dw (aD dw bq))))))))) (cF (dS (gT (aD (pB P.Ux (az hv0)) bq)))) jw)
  (cG (jj (iu (zq hr) (pB P.x_code (az hv0)) (gT (aD dw (aD dw bq)))) (cF (dS (gT (aD (pB P.x_at (az hv0)) bq)))) jw)
  (cG (jj (iu (zq hr) (pB P.x_code (az hv0)) (gT (aD dw (aD dw bq)))) (cF (dS (gT (aD (pB P.UA (az hv0)) bq)))) jw)
  (cG (jj (iu (zq hr) (pB P.x_code (az hv0)) (gT (aD dw (aD dw bq)))) (cF (dS (gT (aD (pB P.Uz (az hv0)) bq)))) jw)
  (cF (dS (Tf (iu (zq hr) (pB P.x_code (az hv0)) (gT (aD dw (aD dw (aD dw bq))))) (gT (aD (pB P.UC (az hv0)) bq)) (gT bq))))))))
theorem ae6:gq Mc Kd Bg:=@λC X W k h tk po hr P=>by
  obtain⟨hv0,hv1,-⟩:=h.v [("_law_found",0),("_law_due",1)];obtain⟨bV,cQ,iN,iO,pY,ur,uu,wg,wh,-⟩:=h.g ["isinstance","list","tuple","len","range","all","bool","int","str"];exact(cG (jj (sR (sV (iu (hu hr) (az hv0) Ad) (sU (iu (hu hr) (az hv1) Ad)))) (cF (dS (sO (nR (hu hr) (az hv0) Ad) (uW (nR (hu hr) (az hv1) Ad))))) jw)
  (cG (jj (sS (aeW bV (P.bP.all "isinstance" (by decide)) cQ (P.bP.all "list" (by decide)) (by rfl) (by decide) iN (P.bP.all "tuple" (by decide)) (by rfl) (by decide) (az hv1))) (cG (jj (sR (sV (iu (hu hr) (l7 bV (P.bP.all "isinstance" (by decide)) cQ (P.bP.all "list" (by decide)) (by rfl) (by decide) (az hv0)) (l7 bV (P.bP.all "isinstance" (by decide)) cQ (P.bP.all "list" (by decide)) (by rfl) (by decide) (az hv1))) (sU (iu (hu hr) (l7 bV (P.bP.all "isinstance" (by decide)) iN (P.bP.all "tuple" (by decide)) (by rfl) (by decide) (az hv0)) (l7 bV (P.bP.all "isinstance" (by decide)) iN (P.bP.all "tuple" (by decide)) (by rfl) (by decide) (az hv1)))))) (cF (dS z9)) jw)
  (cF (dS (sO (nR (hu hr) (jx iO (P.bP.all "len" (by decide)) (by rfl) (by decide) (mP hr P.d_len) (aD (az hv0) bq)) (jx iO (P.bP.all "len" (by decide)) (by rfl) (by decide) (mP hr P.d_len) (aD (az hv1) bq))) (uW (jx ur (P.bP.all "all" (by decide)) (by rfl) (by decide) (A8 h.calm) (aD (mY (ts:=[2]) (own:=[("_law_k",2)]) false (sP pY (P.bP.all "range" (by decide)) (jx iO (P.bP.all "len" (by decide)) (by rfl) (by decide) (mP hr P.d_len) (aD (az hv1) bq))) (λ_ _ _ _ _=>by refine jG h λhb=>?_;obtain⟨um,-⟩:=hb.l [("_law_k",2)];exact(er um)) (by decide) (λ_ _ _ _ _=>by refine jH h λhb=>?_;exact lg) (λ_ _ _ _ _=>by refine kH h λhb=>?_;obtain⟨r8,nI,y_,-⟩:=hb.v [("_law_found",0),("_law_k",2),("_law_due",1)];obtain⟨yZ,-⟩:=hb.g ["_law_like"];exact(fV P.FZ P.Jj hr.dn yZ DK (aD (jg (az r8) (az nI)) (aD (jg (az y_) (az nI)) bq)))) h.calm (h.nd (by decide+kernel)) (kr h (⟨by decide+kernel,by decide+kernel,by decide+kernel,by decide+kernel,by decide+kernel⟩))) bq))))))) jw)
  (cG (jj (sR (sV (iu (hu hr) (l7 bV (P.bP.all "isinstance" (by decide)) uu (P.bP.all "bool" (by decide)) (by rfl) (by decide) (az hv0)) (l7 bV (P.bP.all "isinstance" (by decide)) uu (P.bP.all "bool" (by decide)) (by rfl) (by decide) (az hv1))) (sU (iu (hu hr) (l7 bV (P.bP.all "isinstance" (by decide)) wg (P.bP.all "int" (by decide)) (by rfl) (by decide) (az hv0)) (l7 bV (P.bP.all "isinstance" (by decide)) wg (P.bP.all "int" (by decide)) (by rfl) (by decide) (az hv1)))))) (cF (dS z9)) jw)
  (cF (dS (sO (nR (hu hr) (l7 bV (P.bP.all "isinstance" (by decide)) wh (P.bP.all "str" (by decide)) (by rfl) (by decide) (az hv0)) (l7 bV (P.bP.all "isinstance" (by decide)) wh (P.bP.all "str" (by decide)) (by rfl) (by decide) (az hv1))) (uW (nR (hu hr) (az hv0) (az hv1)))))))))
theorem ae7:gq Me Ke tT:=@λC X W k h tk po hr P=>by
  obtain⟨hv1,cO,eW,iQ,-⟩:=h.v [("bounds",1),("ticks",2),("place",3),("most",4)];obtain⟨qJ,-⟩:=h.l [("most",4)];obtain⟨bV,-⟩:=h.g ["presses"];exact(cG (jy qJ bY)
  (cG (TF (UE P.Gx hr bV (aD (az hv1) (aD (az cO) (aD (az eW) bq)))) P.ns hr tk po h.calm)
  (cF (dS (az iQ)))))
theorem ae8:gq Mf Kf Fz:=@λC X W k h tk po hr P=>by
 obtain⟨hv0,hv1,-⟩:=h.v [("rule",0),("bits",1)];obtain⟨hl2,-⟩:=h.l [("looks",2)];obtain⟨bV,cQ,-⟩:=h.g ["len","range"];exact(cG (jy hl2 (cP (cP (cP dw (cP (xq P.zR hr (az hv0)) bY)) (az hv1)) (cP dw (xq P.zR hr (az hv0)))))
 (cF (dS (mY (ts:=[3]) (own:=[("at",3)]) false (sP cQ (P.bP.all "range" (by decide)) (cP (jx bV (P.bP.all "len" (by decide)) (by rfl) (by decide) (mP hr P.d_len) (aD (az hv1) bq)) (xq P.zR hr (az hv0)))) (λ_ _ _ _ _=>by refine jG h λhb=>?_;obtain⟨qG,-⟩:=hb.l [("at",3)];exact(er qG)) (by decide) (λ_ _ _ _ _=>by refine jH h λhb=>?_;exact lg) (λ_ _ _ _ _=>by refine kH h λhb=>?_;obtain⟨r8,nI,nJ,-⟩:=hb.v [("rule",0),("looks",2),("at",3)];exact(Ti P.I6 hr.dn DK (az r8) (aD (Tn (az nI) (KI (az nJ)) (KI (cP (az nJ) (xq P.zR hr (az r8))))) bq))) h.calm (h.nd (by decide+kernel)) (kr h (⟨by decide+kernel,by decide+kernel,by decide+kernel,by decide+kernel,by decide+kernel⟩))))))
theorem ae9:gq Mg Kg FA:=@λC X W k h tk po hr P=>by
 obtain⟨hv0,-⟩:=h.v [("self",0)];exact(cF (dS (mX P.vZ (az hv0))))
theorem aea:gq Mh Kh tU:=@λC X W k h tk po hr P=>by
 obtain⟨hv1,cO,eW,-⟩:=h.v [("bounds",1),("ticks",2),("place",3)];obtain⟨bV,-⟩:=h.g ["presses"];exact(cG (TF (UE P.Gx hr bV (aD (az hv1) (aD (az cO) (aD (az eW) bq)))) P.ns hr tk po h.calm)
 (cF (dS Ad)))
theorem aeb:gq Mi Kl FD:=@λC X W k h tk po hr P=>by
 obtain⟨hv1,hv0,-⟩:=h.v [("other",1),("self",0)];obtain⟨bV,cQ,-⟩:=h.g ["isinstance","Bounds"];exact(cF (dS (sO (Tg bV (P.bP.all "isinstance" (by decide)) cQ P.Py (az hv1)) (uW (nR (hu hr) (mX P.B0 (az hv0)) (mX P.B0 (az hv1)))))))
theorem aec:gq Mj Km FE:=@λC X W k h tk po hr P=>by
 obtain⟨hv1,hv0,-⟩:=h.v [("other",1),("self",0)];obtain⟨bV,cQ,-⟩:=h.g ["isinstance","Rule"];exact(cF (dS (sO (Tg bV (P.bP.all "isinstance" (by decide)) cQ P.Pz (az hv1)) (uW (nR (hu hr) (mX P.B5 (az hv0)) (mX P.B5 (az hv1)))))))
theorem aed:gq Ml Kn FF:=@λC X W k h tk po hr P=>by
 obtain⟨hv0,-⟩:=h.v [("self",0)];exact(cF (dS (Aa (gE.cons dw (gE.cons (uV (mX P.BZ (az hv0))) (gE.cons dw (gE.cons (uV (mX P.G1 (az hv0))) (gE.cons dw gE.nil))))))))
theorem aee:gq Mm Ko FH:=@λC X W k h tk po hr P=>by
 obtain⟨hv0,-⟩:=h.v [("self",0)];exact(cF (dS (Aa (gE.cons dw (gE.cons (uV (xq P.R8 hr (az hv0))) (gE.cons dw gE.nil))))))
theorem aef:gq Mn Kq FI:=@λC X W k h tk po hr P=>by
 obtain⟨hv0,hv1,-⟩:=h.v [("self",0),("shown",1)];obtain⟨hl1,-⟩:=h.l [("shown",1)];exact(cG (jy hl1 (aeX dw (mY (ts:=[2,3]) (own:=[("pattern",2),("verdict",3)]) false (l8 (mX P.B4 (az hv0))) (λ_ _ _ _ _=>by refine jG h λhb=>?_;obtain⟨qG,um,-⟩:=hb.l [("verdict",3),("pattern",2)];exact(r7 (j6 (er um) (j6 (er qG) r6)) hb.calm)) (by decide) (λ_ _ _ _ _=>by refine jH h λhb=>?_;exact lg) (λ_ _ _ _ _=>by refine kH h λhb=>?_;obtain⟨nI,nJ,-⟩:=hb.v [("pattern",2),("verdict",3)];exact(Aa (gE.cons (uV (az nI)) (gE.cons dw (gE.cons (uV (az nJ)) gE.nil))))) h.calm (h.nd (by decide+kernel)) (kr h (⟨by decide+kernel,by decide+kernel,by decide+kernel,by decide+kernel,by decide+kernel⟩)))))
 (cF (dS (cP (Aa (gE.cons (uV (mX P.vZ (az hv0))) (gE.cons dw gE.nil))) (Tf (iu (hu hr) (az hv1) dw) (Aa (gE.cons dw (gE.cons (uV (az hv1)) gE.nil))) dw)))))
theorem ae5 {C:Nat->aK}{X:Cx}{W:WX}{k:Nat}(h:bF Mb (defScope k_) (defScope k_) X)(lB:x8 "law.<locals>." (defScope k_) X)(kt:aI.txt=cA)(ez:X.stack=X.env::X.outer/\X.env.frame=some X.env.locals)(tk:Takes X W)(po:PassesOwn (model X.prog X.w) X.A X.env X.xe)(hr:Room (k+1) X.A)(P:mw C X.gj k):SB X W (defBody k_) (Bf C):=by
  obtain⟨hv0,hv1,eW,cO,Pr,ZW,Ic,Ie,hv5,iQ,Pn,Pq,Po,Pp,-⟩:=h.v [("_law_script",0),("_law_hand",1),("_law_ticks_z",3),("_law_bounce",2),("_law_phase",7),("_law_reads",8),("_law_rows",10),("_law_due",6),("_law_made",5),("_law_place_z",4),("_law_found",13),("_law_asks",18),("_law_wrong",15),("_law_bad",16)];obtain⟨hl1,oR,hl2,HR,qJ,hl6,hl7,hl8,O_,Zu,Zv,Zw,Zy,Zx,Zz,Pa,-⟩:=h.l [("_law_hand",1),("_law_ticks_z",3),("_law_bounce",2),("_law_made",5),("_law_place_z",4),("_law_due",6),("_law_phase",7),("_law_reads",8),("_law_rows",10),("_law_k",11),("_law_found",13),("_law_pair",14),("_law_bad",16),("_law_wrong",15),("_law_rule",17),("_law_asks",18)];obtain⟨bV,cQ,iN,iO,pY,ur,uu,wg,wh,O5,Zi,Zj,-⟩:=h.g ["_law_start","_law_draw","Bounds","range","len","sorted","presses","_law_like","list","_law_pick","Rule","_law_tries"];exact(cG (jy hl1 (fV P.M7 P.Rq hr.dn bV tk (aD (az hv0) bq)))
  (cG (DF (r7 (j6 (er hl2) (j6 (er oR) r6)) h.calm) (gT (aD (fV P.vN P.wQ hr.dn cQ tk (aD (az hv1) (aD bY bq))) (aD (cP bY (fV P.vN P.wQ hr.dn cQ tk (aD (az hv1) (aD bY bq)))) bq))) (hw:=h.sw (by intro V qE;obtain⟨⟩:=V;cases qE;rfl)))
  (cG (DF (r7 (j6 (er qJ) (j6 (er HR) r6)) h.calm) (gT (aD (fV P.vN P.wQ hr.dn cQ tk (aD (az hv1) (aD (az eW) bq))) (aD (Th true P.Qk hr iN tk (aD (az cO) (aD (cP (cP (az cO) bY) (fV P.vN P.wQ hr.dn cQ tk (aD (az hv1) (aD bY bq)))) bq))) bq))) (hw:=h.sw (by intro V qE;obtain⟨⟩:=V;cases qE;rfl)))
  (cG (jy hl6 (mZ false bq))
  (cG (xA (sP iO (P.bP.all "range" (by decide)) (az eW)) (er hl7) (Te (xo [7,8,10,11] (cG (jy hl8 (jx pY (P.bP.all "len" (by decide)) (by rfl) (by decide) (mP hr P.d_len) (aD (mY (ts:=[9]) (own:=[("_law_tick",9)]) false (af3 iO (P.bP.all "range" (by decide)) (az Pr) (cP (az Pr) (az cO))) (λ_ _ _ _ _=>by refine jG h λhb=>?_;obtain⟨Y0,-⟩:=hb.l [("_law_tick",9)];exact(er Y0)) (by decide) (λ_ _ _ _ _=>by refine jH h λhb=>?_;obtain⟨HC,nJ,oQ,-⟩:=hb.v [("_law_tick",9),("_law_ticks_z",3),("_law_place_z",4)];obtain⟨yZ,-⟩:=hb.g ["int"];exact(Tq (iu (hu hr) (cP (q7 yZ (P.bP.all "int" (by decide)) (by rfl) (by decide) int_ok (aD (az HC) bq)) (az nJ)) (az oQ)))) (λ_ _ _ _ _=>by refine kH h λhb=>?_;obtain⟨HC,-⟩:=hb.v [("_law_tick",9)];exact(az HC)) h.calm (h.nd (by decide+kernel)) (kr h (⟨by decide+kernel,by decide+kernel,by decide+kernel,by decide+kernel,by decide+kernel⟩))) bq)))
  (cG (jy O_ (mZ false (aD dw bq)))
  (cG (xA (sP iO (P.bP.all "range" (by decide)) (az ZW)) (er Zu) (Te (xo [11] (cF (jy O_ (cP (mY (ts:=[12]) (own:=[("_law_bits",12)]) false (l8 (az Ic)) (λ_ _ _ _ _=>by refine jG h λhb=>?_;obtain⟨y9,-⟩:=hb.l [("_law_bits",12)];exact(er y9)) (by decide) (λ_ _ _ _ _=>by refine jH h λhb=>?_;exact lg) (λ_ _ _ _ _=>by refine kH h λhb=>?_;obtain⟨za,-⟩:=hb.v [("_law_bits",12)];exact(cP (az za) dw)) h.calm (h.nd (by decide+kernel)) (kr h (⟨by decide+kernel,by decide+kernel,by decide+kernel,by decide+kernel,by decide+kernel⟩))) (mY (ts:=[12]) (own:=[("_law_bits",12)]) false (l8 (az Ic)) (λ_ _ _ _ _=>by refine jG h λhb=>?_;obtain⟨y9,-⟩:=hb.l [("_law_bits",12)];exact(er y9)) (by decide) (λ_ _ _ _ _=>by refine jH h λhb=>?_;exact lg) (λ_ _ _ _ _=>by refine kH h λhb=>?_;obtain⟨za,-⟩:=hb.v [("_law_bits",12)];exact(cP (az za) dw)) h.calm (h.nd (by decide+kernel)) (kr h (⟨by decide+kernel,by decide+kernel,by decide+kernel,by decide+kernel,by decide+kernel⟩)))))))) po h.calm)
  (cF (jy hl6 (cP (az Ie) (mY (ts:=[12]) (own:=[("_law_bits",12)]) false (l8 (jx ur (P.bP.all "sorted" (by decide)) (by rfl) (by decide) (afk false) (aD (az Ic) bq))) (λ_ _ _ _ _=>by refine jG h λhb=>?_;obtain⟨y9,-⟩:=hb.l [("_law_bits",12)];exact(er y9)) (by decide) (λ_ _ _ _ _=>by refine jH h λhb=>?_;exact lg) (λ_ _ _ _ _=>by refine kH h λhb=>?_;obtain⟨Y6,za,-⟩:=hb.v [("_law_phase",7),("_law_bits",12)];exact(gT (aD (az Y6) (aD (az za) bq)))) h.calm (h.nd (by decide+kernel)) (kr h (⟨by decide+kernel,by decide+kernel,by decide+kernel,by decide+kernel,by decide+kernel⟩))))))))))) po h.calm)
  (cG (jy Zv (mZ true bq))
  (cG (afq (vC.toF (Lj P.Bk hr uu (aD (az hv5) (aD (az eW) (aD (az iQ) bq))))) hr h.calm Zw (by rw[h.sc];decide+kernel) Pn (by rw[h.sc];decide+kernel) (by decide) ez (hint:=by unfold interactive;rw[h.sc];rfl))
  (cG (jj (sR (sV (uZ (sS (fV P.FZ P.Jj hr.dn wg tk (aD (aeU (az Pn)) (aD (az Ie) bq))))) (sU (iu (hu hr) (Kz (ah5 P.OJ hr uu (KH (az hv5) (KH (az eW) (KH (az iQ) af6))) rfl) P.ns hr tk wh (P.bP.all "list" (by decide))) (az Ie))))) (cF (dS z9)) jw)
  (cG (DF (r7 (j6 (er Zx) (j6 (er Zy) r6)) h.calm) (gT (aD (fV P.FY P.Ji hr.dn O5 tk (aD (az hv1) (aD (mZ false (aD bY (aD bY (aD (KA bY) (aD (cP bY bY) bq))))) bq))) (aD (fV P.FY P.Ji hr.dn O5 tk (aD (az hv1) (aD (mZ false (aD (KA bY) (aD (az eW) (aD (cP bY bY) bq)))) bq))) bq))) (hw:=h.sw (by intro V qE;obtain⟨⟩:=V;cases qE;rfl)))
  (cG (jy Zz (Th true P.Ql hr Zi tk (aD bY (aD (mZ false bq) bq))))
  (cG (jy Pa (mZ false (aD (aeY lB.mkr (wD (T:=cA 0) lB kt rfl rfl (by decide+kernel)) (by rw[kt];rfl)) (aD (Ab lB.mkr (wD (T:=cA 1) lB kt rfl rfl (by decide+kernel)) (by rw[kt];rfl) (by rfl) (by rfl)) (aD (Ab lB.mkr (wD (T:=cA 2) lB kt rfl rfl (by decide+kernel)) (by rw[kt];rfl) (by rfl) (by rfl)) bq)))))
  (cG (jy Pa (cP (az Pq) (mZ false (aD (Ab lB.mkr (wD (T:=cA 3) lB kt rfl rfl (by decide+kernel)) (by rw[kt];rfl) (by rfl) (by rfl)) (aD (Ab lB.mkr (wD (T:=cA 4) lB kt rfl rfl (by decide+kernel)) (by rw[kt];rfl) (by rfl) (by rfl)) (aD (Ab lB.mkr (wD (T:=cA 5) lB kt rfl rfl (by decide+kernel)) (by rw[kt];rfl) (by rfl) (by rfl)) bq))))))
  (cF (dS (nR (hu hr) (aeQ P.Nb (Wx h.q lB kt (by decide+kernel)) lB.fn hr.dn Zj (az Pq)) (cP (mZ false (aD (gT (aD dw (aD (az Po) bq))) (aD (gT (aD dw (aD (az Pp) bq))) bq))) (cP (mZ false (aD (gT (aD dw (aD (az Po) bq))) (aD (gT (aD dw (aD (az Pp) bq))) bq))) bY)))))))))))))))))
theorem afa {C:Nat->aK}{X:Cx}{W:WX}{k:Nat}(h:bF (cA 0).N (cA 0).scope (cA 0).scope X)(tk:Takes X W)(po:PassesOwn (model X.prog X.w) X.A X.env X.xe)(hr:Room (k+1) X.A)(P:mw C X.gj k):aV X W (cA 0).body (vG C):=by
 obtain⟨hv0,hv1,cO,-⟩:=h.v [("_law_made",0),("_law_wrong",1),("_law_bad",2)];obtain⟨bV,cQ,-⟩:=h.g ["presses","list"];exact(Kz (Lj P.Bk hr bV (aD (az hv0) (aD (az hv1) (aD (az cO) bq)))) P.ns hr tk cQ (P.bP.all "list" (by decide)))
theorem afb {C:Nat->aK}{X:Cx}{W:WX}{k:Nat}(h:bF (cA 1).N (cA 1).scope (cA 1).scope X)(tk:Takes X W)(po:PassesOwn (model X.prog X.w) X.A X.env X.xe)(hr:Room (k+1) X.A)(P:mw C X.gj k):aV X W (cA 1).body (vH C):=by
 obtain⟨hv1,cO,eW,-⟩:=h.v [("_law_made",1),("_law_ticks_z",2),("_law_bad",3)];obtain⟨bV,cQ,-⟩:=h.g ["presses","list"];exact(Kz (Lj P.Bk hr bV (aD (az hv1) (aD (az cO) (aD (az eW) bq)))) P.ns hr tk cQ (P.bP.all "list" (by decide)))
theorem afc {C:Nat->aK}{X:Cx}{W:WX}{k:Nat}(h:bF (cA 2).N (cA 2).scope (cA 2).scope X)(tk:Takes X W)(po:PassesOwn (model X.prog X.w) X.A X.env X.xe)(hr:Room (k+1) X.A)(P:mw C X.gj k):aV X W (cA 2).body (vI C):=by
 obtain⟨hv1,cO,eW,iQ,-⟩:=h.v [("_law_rule",1),("_law_made",2),("_law_wrong",3),("_law_bad",4)];obtain⟨bV,-⟩:=h.g ["delay"];exact(fV P.F0 P.Jk hr.dn bV tk (aD (az hv1) (aD (az cO) (aD (az eW) (aD (az iQ) bq)))))
theorem afd {C:Nat->aK}{X:Cx}{W:WX}{k:Nat}(h:bF (cA 3).N (cA 3).scope (cA 3).scope X)(tk:Takes X W)(po:PassesOwn (model X.prog X.w) X.A X.env X.xe)(hr:Room (k+1) X.A)(P:mw C X.gj k):aV X W (cA 3).body (vJ C):=by
 obtain⟨hv1,cO,eW,iQ,-⟩:=h.v [("_law_rule",1),("_law_made",2),("_law_ticks_z",3),("_law_bad",4)];obtain⟨bV,-⟩:=h.g ["delay"];exact(fV P.F0 P.Jk hr.dn bV tk (aD (az hv1) (aD (az cO) (aD (az eW) (aD (az iQ) bq)))))
theorem afe {C:Nat->aK}{X:Cx}{W:WX}{k:Nat}(h:bF (cA 4).N (cA 4).scope (cA 4).scope X)(tk:Takes X W)(po:PassesOwn (model X.prog X.w) X.A X.env X.xe)(hr:Room (k+1) X.A)(P:mw C X.gj k):aV X W (cA 4).body (vK C):=by
 obtain⟨hv1,cO,eW,iQ,-⟩:=h.v [("_law_rule",1),("_law_made",2),("_law_wrong",3),("_law_bad",4)];obtain⟨bV,-⟩:=h.g ["flutter"];exact(fV P.F4 P.Jl hr.dn bV tk (aD (az hv1) (aD (az cO) (aD (az eW) (aD (az iQ) bq)))))
theorem afg {C:Nat->aK}{X:Cx}{W:WX}{k:Nat}(h:bF (cA 5).N (cA 5).scope (cA 5).scope X)(tk:Takes X W)(po:PassesOwn (model X.prog X.w) X.A X.env X.xe)(hr:Room (k+1) X.A)(P:mw C X.gj k):aV X W (cA 5).body (vL C):=by
 obtain⟨hv1,cO,eW,iQ,-⟩:=h.v [("_law_rule",1),("_law_made",2),("_law_ticks_z",3),("_law_bad",4)];obtain⟨bV,-⟩:=h.g ["flutter"];exact(fV P.F4 P.Jl hr.dn bV tk (aD (az hv1) (aD (az cO) (aD (az eW) (aD (az iQ) bq)))))
end
def aS (C:Nat->aK):Nat->aK
 |0=>uQ
 |1=>mV
 |2=>uh sD 3 5 (FJ C) (JS C)
 |3=>aX false 2 2 (FL C)
 |4=>aX false 3 3 (FN C)
 |5=>aX false 1 5 (FO C)
 |6=>aX false 4 5 (FP C)
 |7=>aX false 1 1 (FQ C)
 |8=>aX false 3 6 (FT C)
 |9=>aX false 2 4 (Fp C)
 |10=>aX false 2 4 (Fq C)
 |11=>aX false 2 3 (Ft C)
 |12=>aX false 2 5 (Fv C)
 |13=>aX false 1 5 (Fw C)
 |14=>aX false 3 3 (Fx C)
 |15=>aX false 2 2 (Fy C)
 |16=>aX false 1 2 (Bc C)
 |17=>aX false 1 2 (Be C)
 |18=>aX false 1 1 (vE C)
 |19=>aX false 2 3 (Bg C)
 |20=>aX false 4 9 (tT C)
 |21=>aX false 2 4 (Fz C)
 |22=>aX false 1 1 (FA C)
 |23=>aX false 4 8 (tU C)
 |24=>aX false 2 2 (FD C)
 |25=>aX false 2 2 (FE C)
 |26=>aX false 1 1 (FF C)
 |27=>aX false 1 1 (FH C)
 |28=>aX false 1 4 (FI C)
 |29=>j9 (cA 0) (vG C)
 |30=>j9 (cA 1) (vH C)
 |31=>j9 (cA 2) (vI C)
 |32=>j9 (cA 3) (vJ C)
 |33=>j9 (cA 4) (vK C)
 |34=>j9 (cA 5) (vL C)
 |_=>λ_=>bad
section
variable{n:Nat}
theorem WA:aR aS (n+1) 16=aX false 1 2 (Bc (aR aS n)):=rfl
theorem WB:aR aS (n+1) 17=aX false 1 2 (Be (aR aS n)):=rfl
theorem WC:aR aS (n+1) 18=aX false 1 1 (vE (aR aS n)):=rfl
theorem WD:aR aS (n+1) 19=aX false 2 3 (Bg (aR aS n)):=rfl
theorem WG:aR aS (n+1) 20=aX false 4 9 (tT (aR aS n)):=rfl
theorem WH:aR aS (n+1) 23=aX false 4 8 (tU (aR aS n)):=rfl
theorem WI:aR aS (n+1) 29=j9 (cA 0) (vG (aR aS n)):=rfl
theorem WJ:aR aS (n+1) 30=j9 (cA 1) (vH (aR aS n)):=rfl
theorem WK:aR aS (n+1) 31=j9 (cA 2) (vI (aR aS n)):=rfl
theorem WL:aR aS (n+1) 32=j9 (cA 3) (vJ (aR aS n)):=rfl
theorem WM:aR aS (n+1) 33=j9 (cA 4) (vK (aR aS n)):=rfl
theorem WN:aR aS (n+1) 34=j9 (cA 5) (vL (aR aS n)):=rfl
@[simp]theorem ahD:pQ rR 0=some [5,15,16]:=rfl
@[simp]theorem ahE:pQ rR 1=some [5,3,16]:=rfl
@[simp]theorem ahF:pQ rR 2=some [17,5,15,16]:=rfl
@[simp]theorem ahG:pQ rR 3=some [17,5,3,16]:=rfl
@[simp]theorem ahH:pQ rR 4=some [17,5,15,16]:=rfl
@[simp]theorem ahI:pQ rR 5=some [17,5,3,16]:=rfl
@[simp]theorem ajN {d0 d1 d2:D}:oZ (cA 0) [d0,d1,d2]=[.dat d0,.dat d1,.dat d2]:=rfl
@[simp]theorem ajO {d0 d1 d2:D}:oZ (cA 1) [d0,d1,d2]=[.dat (.int 0),.dat d0,.dat d1,.dat d2]:=rfl
@[simp]theorem ajP {d0 d1 d2 d3:D}:oZ (cA 2) [d0,d1,d2,d3]=[.dat (.int 0),.dat d0,.dat d1,.dat d2,.dat d3]:=rfl
@[simp]theorem ajQ {d0 d1 d2 d3:D}:oZ (cA 3) [d0,d1,d2,d3]=[.dat (.int 0),.dat d0,.dat d1,.dat d2,.dat d3]:=rfl
@[simp]theorem ajR {d0 d1 d2 d3:D}:oZ (cA 4) [d0,d1,d2,d3]=[.dat (.int 0),.dat d0,.dat d1,.dat d2,.dat d3]:=rfl
@[simp]theorem ajS {d0 d1 d2 d3:D}:oZ (cA 5) [d0,d1,d2,d3]=[.dat (.int 0),.dat d0,.dat d1,.dat d2,.dat d3]:=rfl
end
theorem XX:AH (inClass (top 3) 0) "BadNumber" "given" 0:=⟨rfl,rfl,rfl,rfl,rfl,rfl,by decide+kernel,by decide+kernel,by decide+kernel,by decide+kernel,by decide+kernel,by decide,by decide,by decide⟩
theorem XY:AH (inClass (top 6) 0) "BadRow" "at" 0:=⟨rfl,rfl,rfl,rfl,rfl,rfl,by decide+kernel,by decide+kernel,by decide+kernel,by decide+kernel,by decide+kernel,by decide,by decide,by decide⟩
theorem XW:AH (inClass (top 5) 0) "BadLook" "given" 0:=⟨rfl,rfl,rfl,rfl,rfl,rfl,by decide+kernel,by decide+kernel,by decide+kernel,by decide+kernel,by decide+kernel,by decide,by decide,by decide⟩
section
variable[aI]{P:Program}{w:World}{K:Frag}{h:Heap}{mg:Str->Option Value}{base:Heap}
abbrev gM [aI](P:Program)(w:World)(K:Frag)(mg:Str->Option Value)(base:Heap)(n:Nat)(ad:Frag->Addr)(ps:List Str)(m i:Nat):Prop:=∃fd,FnOk P w K mg base (L2.CX P w) (2*n+2) (ad K) fd ps (fM K m (aR aS n i))/\Binds K fd ps []
structure Lq (P:Program)(w:World)(K:Frag)(mg:Str->Option Value)(base:Heap)(n:Nat):Prop where
 EL:gM P w K mg base n (λK=>aZ K "_law_start") ["_law_script"] 1 0
 EM:gM P w K mg base n (λK=>aZ K "_law_draw") ["_law_hand","_law_many"] 2 1
 yh:∃fd gr fs,xX ⟨P,w,K,mg,base⟩ (2*n+1) ((λK=>aZ K "presses":Frag->Addr) K) fd ["bounds","ticks","place"] 5 gr/\Ec ⟨P,w,K,mg,base⟩ (2*n+1) ((λK=>aZ K "presses":Frag->Addr) K) fd ["bounds","ticks","place"] 5 fs/\(∀ss M Q,wp (aR aS n 2 (.dat .non::ss) M) Q->wp (jR sD 3 5 (gr jK) ss M) Q)/\(∀ss M Q,wp (aR aS n 2 (.dat (.bl true)::ss) M) Q->wp (lV sD 3 5 fs ss M) Q)/\Binds K fd ["bounds","ticks","place"] []/\KBn K fd ["bounds","ticks","place"] 0 ["bounds","ticks","place"] (λus ws=>us++gh [0,1,2] ws) (λus ws=>us++gh [0,1,2] ws)
 E7:gM P w K mg base n (λK=>aZ K "check_place") ["ticks","place"] 2 3
 E8:gM P w K mg base n (λK=>aZ K "check_number") ["number","least","most"] 3 4
 E9:gM P w K mg base n (λK=>aZ K "all_bits") ["many"] 1 5
 E_:gM P w K mg base n (λK=>aZ K "reads_after") ["ticks","place","phase","many"] 4 6
 Fb:∃fd,FnOk P w K mg base (L2.CX P w) (2*n+2) ((sH "Bounds" "bounce":Frag->Addr) K) fd ["self"] (fM K 1 (aR aS n 7))/\Binds K fd ["self"] []
 Fd:gM P w K mg base n (mA "Rule" "__init__") ["self","depth","rows"] 3 8
 EN:gM P w K mg base n (mA "Rule" "verdict") ["self","looks"] 2 9
 EO:gM P w K mg base n (λK=>aZ K "fits_pattern") ["pattern","looks"] 2 10
 ER:gM P w K mg base n (λK=>aZ K "is_looks") ["value","most"] 2 11
 ES:gM P w K mg base n (λK=>aZ K "is_row") ["row","depth"] 2 12
 ET:gM P w K mg base n (λK=>aZ K "all_looks") ["many"] 1 13
 EU:gM P w K mg base n (mA "Bounds" "__init__") ["self","bounce","hold"] 3 14
 EV:gM P w K mg base n (λK=>aZ K "_law_pick") ["_law_hand","_law_things"] 2 15
 EW:gM P w K mg base n (λK=>aZ K "_law_tries") ["_law_asks"] 1 16
 EY:gM P w K mg base n (λK=>aZ K "_law_try") ["_law_ask"] 1 17
 EZ:∃fd,AI P w K mg base (L2.CX P w) (2*n+2) ((λK=>aZ K "_law_fields":Frag->Addr) K) fd ["_law_e"] (fM K 1 (aR aS n 18))/\Binds K fd ["_law_e"] []
 E2:gM P w K mg base n (λK=>aZ K "_law_like") ["_law_found","_law_due"] 2 19
 E3:gM P w K mg base n (λK=>aZ K "delay") ["rule","bounds","ticks","place"] 4 20
 MN:gM P w K mg base n (λK=>aZ K "verdicts") ["rule","bits"] 2 21
 E4:∃fd,FnOk P w K mg base (L2.CX P w) (2*n+2) ((sH "Rule" "depth":Frag->Addr) K) fd ["self"] (fM K 1 (aR aS n 22))/\Binds K fd ["self"] []
 E5:gM P w K mg base n (λK=>aZ K "flutter") ["rule","bounds","ticks","place"] 4 23
 MO:gM P w K mg base n (mA "Bounds" "__eq__") ["self","other"] 2 24
 MP:gM P w K mg base n (mA "Rule" "__eq__") ["self","other"] 2 25
 MQ:gM P w K mg base n (mA "Bounds" "__repr__") ["self"] 1 26
 MR:gM P w K mg base n (mA "Rule" "__repr__") ["self"] 1 27
 E6:∃fd,FnOk P w K mg base (L2.CX P w) (2*n+2) ((sH "Rule" "text":Frag->Addr) K) fd ["self"] (fM K 1 (aR aS n 28))/\Binds K fd ["self"] []
 IQ:ng ⟨P,w,K,mg,base⟩ (2*n+2) 0 λws=>aR aS n (29+0) (ws.map .dat)
 IS:ng ⟨P,w,K,mg,base⟩ (2*n+2) 1 λws=>aR aS n (29+1) (ws.map .dat)
 IT:ng ⟨P,w,K,mg,base⟩ (2*n+2) 2 λws=>aR aS n (29+2) (ws.map .dat)
 IU:ng ⟨P,w,K,mg,base⟩ (2*n+2) 3 λws=>aR aS n (29+3) (ws.map .dat)
 IV:ng ⟨P,w,K,mg,base⟩ (2*n+2) 4 λws=>aR aS n (29+4) (ws.map .dat)
 IW:ng ⟨P,w,K,mg,base⟩ (2*n+2) 5 λws=>aR aS n (29+5) (ws.map .dat)
theorem aaX:∀(n:Nat) {ss:List af} {M:List ak} {Q:Re af->Prop},wp (aR aS n 0 ss M) Q->ss.length=1
 |0,_,_,_,h=>h.elim
 |n+1,ss,M,Q,h=>ad1 h
theorem aaY:∀(n:Nat) {ss:List af} {M:List ak} {Q:Re af->Prop},wp (aR aS n 1 ss M) Q->ss.length=2
 |0,_,_,_,h=>h.elim
 |n+1,ss,M,Q,h=>ad0 h
abbrev gm (i m:Nat):Prop:=∀(n:Nat) {ss:List af} {M:List ak} {Q:Re af->Prop},wp (aR aS n i ss M) Q->ss.length=m
theorem abc:gm 3 2
 |0,_,_,_,h=>h.elim
 |n+1,ss,M,Q,h=>gy (show wp (aX false 2 2 (FL (aR aS n)) ss M) Q from h)
theorem abd:gm 4 3
 |0,_,_,_,h=>h.elim
 |n+1,ss,M,Q,h=>gy (show wp (aX false 3 3 (FN (aR aS n)) ss M) Q from h)
theorem abe:gm 5 1
 |0,_,_,_,h=>h.elim
 |n+1,ss,M,Q,h=>gy (show wp (aX false 1 5 (FO (aR aS n)) ss M) Q from h)
theorem abf:gm 6 4
 |0,_,_,_,h=>h.elim
 |n+1,ss,M,Q,h=>gy (show wp (aX false 4 5 (FP (aR aS n)) ss M) Q from h)
theorem ajM:gm 7 1
 |0,_,_,_,h=>h.elim
 |n+1,ss,M,Q,h=>gy (show wp (aX false 1 1 (FQ (aR aS n)) ss M) Q from h)
theorem abg:gm 8 3
 |0,_,_,_,h=>h.elim
 |n+1,ss,M,Q,h=>gy (show wp (aX false 3 6 (FT (aR aS n)) ss M) Q from h)
theorem aaZ:gm 9 2
 |0,_,_,_,h=>h.elim
 |n+1,ss,M,Q,h=>gy (show wp (aX false 2 4 (Fp (aR aS n)) ss M) Q from h)
theorem ab0:gm 10 2
 |0,_,_,_,h=>h.elim
 |n+1,ss,M,Q,h=>gy (show wp (aX false 2 4 (Fq (aR aS n)) ss M) Q from h)
theorem ab1:gm 11 2
 |0,_,_,_,h=>h.elim
 |n+1,ss,M,Q,h=>gy (show wp (aX false 2 3 (Ft (aR aS n)) ss M) Q from h)
theorem ab2:gm 12 2
 |0,_,_,_,h=>h.elim
 |n+1,ss,M,Q,h=>gy (show wp (aX false 2 5 (Fv (aR aS n)) ss M) Q from h)
theorem ab3:gm 13 1
 |0,_,_,_,h=>h.elim
 |n+1,ss,M,Q,h=>gy (show wp (aX false 1 5 (Fw (aR aS n)) ss M) Q from h)
theorem ab4:gm 14 3
 |0,_,_,_,h=>h.elim
 |n+1,ss,M,Q,h=>gy (show wp (aX false 3 3 (Fx (aR aS n)) ss M) Q from h)
theorem ab5:gm 15 2
 |0,_,_,_,h=>h.elim
 |n+1,ss,M,Q,h=>gy (show wp (aX false 2 2 (Fy (aR aS n)) ss M) Q from h)
theorem ab6:gm 16 1
 |0,_,_,_,h=>h.elim
 |n+1,ss,M,Q,h=>gy (show wp (aX false 1 2 (Bc (aR aS n)) ss M) Q from h)
theorem ab7:gm 17 1
 |0,_,_,_,h=>h.elim
 |n+1,ss,M,Q,h=>gy (show wp (aX false 1 2 (Be (aR aS n)) ss M) Q from h)
theorem ab8:gm 18 1
 |0,_,_,_,h=>h.elim
 |n+1,ss,M,Q,h=>gy (show wp (aX false 1 1 (vE (aR aS n)) ss M) Q from h)
theorem ab9:gm 19 2
 |0,_,_,_,h=>h.elim
 |n+1,ss,M,Q,h=>gy (show wp (aX false 2 3 (Bg (aR aS n)) ss M) Q from h)
theorem aba:gm 20 4
 |0,_,_,_,h=>h.elim
 |n+1,ss,M,Q,h=>gy (show wp (aX false 4 9 (tT (aR aS n)) ss M) Q from h)
theorem ajF:gm 21 2
 |0,_,_,_,h=>h.elim
 |n+1,ss,M,Q,h=>gy (show wp (aX false 2 4 (Fz (aR aS n)) ss M) Q from h)
theorem ajG:gm 22 1
 |0,_,_,_,h=>h.elim
 |n+1,ss,M,Q,h=>gy (show wp (aX false 1 1 (FA (aR aS n)) ss M) Q from h)
theorem abb:gm 23 4
 |0,_,_,_,h=>h.elim
 |n+1,ss,M,Q,h=>gy (show wp (aX false 4 8 (tU (aR aS n)) ss M) Q from h)
theorem ajH:gm 24 2
 |0,_,_,_,h=>h.elim
 |n+1,ss,M,Q,h=>gy (show wp (aX false 2 2 (FD (aR aS n)) ss M) Q from h)
theorem ajI:gm 25 2
 |0,_,_,_,h=>h.elim
 |n+1,ss,M,Q,h=>gy (show wp (aX false 2 2 (FE (aR aS n)) ss M) Q from h)
theorem ajJ:gm 26 1
 |0,_,_,_,h=>h.elim
 |n+1,ss,M,Q,h=>gy (show wp (aX false 1 1 (FF (aR aS n)) ss M) Q from h)
theorem ajK:gm 27 1
 |0,_,_,_,h=>h.elim
 |n+1,ss,M,Q,h=>gy (show wp (aX false 1 1 (FH (aR aS n)) ss M) Q from h)
theorem ajL:gm 28 1
 |0,_,_,_,h=>h.elim
 |n+1,ss,M,Q,h=>gy (show wp (aX false 1 4 (FI (aR aS n)) ss M) Q from h)
structure U5 (K:Frag):Prop where
 QL:PySem.W.keepIn K (.ref (aZ K "check_place"))=true
 QO:PySem.W.keepIn K (.ref (aZ K "reads_after"))=true
 QN:PySem.W.keepIn K (.ref (aZ K "all_bits"))=true
 QM:PySem.W.keepIn K (.ref (aZ K "check_number"))=true
 QC:PySem.W.keepIn K (.ref (aZ K "is_row"))=true
 QD:PySem.W.keepIn K (.ref (aZ K "all_looks"))=true
 QB:PySem.W.keepIn K (.ref (aZ K "is_looks"))=true
 QA:PySem.W.keepIn K (.ref (aZ K "fits_pattern"))=true
 Qz:PySem.W.keepIn K (.ref (aZ K "_law_draw"))=true
 QG:PySem.W.keepIn K (.ref (aZ K "_law_try"))=true
 QI:PySem.W.keepIn K (.ref (aZ K "_law_like"))=true
 Qy:PySem.W.keepIn K (.ref (aZ K "_law_start"))=true
 QE:PySem.W.keepIn K (.ref (aZ K "_law_pick"))=true
 QF:PySem.W.keepIn K (.ref (aZ K "_law_tries"))=true
 QJ:PySem.W.keepIn K (.ref (aZ K "delay"))=true
 QK:PySem.W.keepIn K (.ref (aZ K "flutter"))=true
 QH:PySem.W.keepIn K (.ref (aZ K "_law_fields"))=true
 CM:PySem.W.keepIn K (.ref (aZ K "presses"))=true
theorem aaz (c:tL b_ dl K):U5 K where
 QL:=by
  obtain⟨fd,F⟩:=c.def_ 3;exact F.kp
 QO:=by
  obtain⟨fd,F⟩:=c.def_ 6;exact F.kp
 QN:=by
  obtain⟨fd,F⟩:=c.def_ 5;exact F.kp
 QM:=by
  obtain⟨fd,F⟩:=c.def_ 4;exact F.kp
 QC:=by
  obtain⟨fd,F⟩:=c.def_ 12;exact F.kp
 QD:=by
  obtain⟨fd,F⟩:=c.def_ 13;exact F.kp
 QB:=by
  obtain⟨fd,F⟩:=c.def_ 11;exact F.kp
 QA:=by
  obtain⟨fd,F⟩:=c.def_ 10;exact F.kp
 Qz:=by
  obtain⟨fd,F⟩:=c.def_ 1;exact F.kp
 QG:=by
  obtain⟨fd,F⟩:=c.def_ 17;exact F.kp
 QI:=by
  obtain⟨fd,F⟩:=c.def_ 19;exact F.kp
 Qy:=by
  obtain⟨fd,F⟩:=c.def_ 0;exact F.kp
 QE:=by
  obtain⟨fd,F⟩:=c.def_ 15;exact F.kp
 QF:=by
  obtain⟨fd,F⟩:=c.def_ 16;exact F.kp
 QJ:=by
  obtain⟨fd,F⟩:=c.def_ 20;exact F.kp
 QK:=by
  obtain⟨fd,F⟩:=c.def_ 23;exact F.kp
 QH:=by
  obtain⟨fd,F⟩:=c.def_ 18;exact F.kp
 CM:=by
  obtain⟨fd,F⟩:=c.def_ 2;exact F.kp
theorem j5 [aI]{D:f6}{k:Nat}{np:Nat}{x:Str}{F:aK}{f:Addr}{ps:List Str}(h:∃fd,FnOk D.prog D.w D.K D.mg D.base (L2.CX D.prog D.w) k f fd ps (fM D.K np F)/\Binds D.K fd ps [])(g:D.mg x=some (.ref f))(p:PySem.W.keepIn D.K (.ref f)=true):iV D k x np F:=let⟨fd,eg,hb⟩:=h;⟨_,fd,_,eg,g,p,hb⟩
theorem Sn (kt:aI.txt=cA)(qC:("/claim/cut.py":Str)=P.main.file)(qD:(P.main.scope.names.lookup ("super":Str)).isSome=false)(X:K.In h)(G:h.Ns mainGlobals mg)(ce:SaysE b_ dl el K){n:Nat}(a:Lq P w K mg base n):mw (aR aS n) ⟨P,w,K,mg,base⟩ (2*n+2):=
  have c:=ce.r;have kp:=aaz c
  { bP:=⟨λx hx=>He.free_ok X G (List.all_eq_true.mp (c.fact 0) x hx)⟩
    k1:=by omega
    d_len:=λh_ sZ hl=>by simp at hl
    F6:=j5 a.E7 (He.glo_ok X G (c.fact 1)) kp.QL
    Jm:=abc _
    R7:=λh_ sZ hl=>by
      have hl:=DJ hl;obtain⟨rfl,rfl⟩:=hl;obtain⟨fd,eg,hb⟩:=a.Fb;exact⟨⟨_,_,fd,_,eg,He.cls_ok (c.fact 2),IF (c.fact 3),hb⟩⟩
    Nf:=j5 a.E_ (He.glo_ok X G (c.fact 4)) kp.QO
    RA:=abf _
    Nd:=j5 a.E9 (He.glo_ok X G (c.fact 5)) kp.QN
    Rz:=abe _
    OD:=He.int_ok X G (c.fact 6)
    vO:=j5 a.E8 (He.glo_ok X G (c.fact 7)) kp.QM
    wR:=abd _
    SA:=JT (c.fact 8) (ce.jJ 0) rfl qC qD XX (λ_ _ _ _ _ _ us hl=>match us,hl with|[_,_],_=>rfl) rfl (He.glo_ok X G (c.fact 9))
    BZ:=λh_ h0=>by
      obtain rfl:=List.mem_singleton.mp h0;exact⟨He.cls_ok (c.fact 2),He.noat_ok (c.fact 10)⟩
    OA:=He.int_ok X G (c.fact 11)
    OC:=He.int_ok X G (c.fact 12)
    JR:=JT (c.fact 13) (ce.jJ 1) rfl qC qD XY (λ_ _ _ _ _ _ us hl=>match us,hl with|[_,_],_=>rfl) rfl (He.glo_ok X G (c.fact 14))
    M_:=j5 a.ES (He.glo_ok X G (c.fact 15)) kp.QC
    Rv:=ab2 _
    vZ:=λh_ h0=>by
      obtain rfl:=List.mem_singleton.mp h0;exact⟨He.cls_ok (c.fact 16),He.noat_ok (c.fact 17)⟩
    B4:=λh_ h0=>by
      obtain rfl:=List.mem_singleton.mp h0;exact⟨He.cls_ok (c.fact 16),He.noat_ok (c.fact 18)⟩
    Na:=j5 a.ET (He.glo_ok X G (c.fact 19)) kp.QD
    Rw:=ab3 _
    I6:=λh_ sZ hl=>by
      have hl:=DJ hl;obtain⟨rfl,rfl⟩:=hl;obtain⟨fd,eg,hb⟩:=a.EN;exact⟨_,⟨_,fd,_,eg,He.meth_ok (c.fact 20),He.cls_ok (c.fact 16),hb⟩,aaZ _⟩
    B5:=λh_ h0=>by
      obtain rfl:=List.mem_singleton.mp h0;exact⟨He.cls_ok (c.fact 16),He.noat_ok (c.fact 21)⟩
    M9:=j5 a.ER (He.glo_ok X G (c.fact 22)) kp.QB
    Ru:=ab1 _
    Sz:=JT (c.fact 23) (ce.jJ 2) rfl qC qD XW (λ_ _ _ _ _ _ us hl=>match us,hl with|[_,_],_=>rfl) rfl (He.glo_ok X G (c.fact 24))
    M8:=j5 a.EO (He.glo_ok X G (c.fact 25)) kp.QA
    Rr:=ab0 _
    T8:=aaq (D:=⟨P,w,K,mg,base⟩) (c.fact 26) (He.glo_ok X G (c.fact 27))
    Oz:=He.int_ok X G (c.fact 28)
    OB:=He.int_ok X G (c.fact 29)
    G1:=λh_ h0=>by
      obtain rfl:=List.mem_singleton.mp h0;exact⟨He.cls_ok (c.fact 2),He.noat_ok (c.fact 30)⟩
    B0:=λh_ h0=>by
      obtain rfl:=List.mem_singleton.mp h0;exact⟨He.cls_ok (c.fact 2),He.noat_ok (c.fact 31)⟩
    vN:=j5 a.EM (He.glo_ok X G (c.fact 32)) kp.Qz
    wQ:=aaY _
    Nc:=j5 a.EY (He.glo_ok X G (c.fact 33)) kp.QG
    Rx:=ab7 _
    OL:=(He.glo_ok X G (c.fact 34))
    OM:=(He.glo_ok X G (c.fact 35))
    ON:=(He.glo_ok X G (c.fact 36))
    cat:=Wy (c.fact 37)
    lam:=aaJ λi hi=>match i,hi with
      |0,_=>a.IQ
      |1,_=>a.IS
      |2,_=>a.IT
      |3,_=>a.IU
      |4,_=>a.IV
      |5,_=>a.IW
      |n+6,h=>absurd h (by omega)
    Nm:=by
      obtain⟨fd,eg,hb⟩:=a.EZ;exact⟨_,fd,_,eg,(He.glo_ok X G (c.fact 38)),kp.QH,hb⟩
    Ry:=ab8 _
    x_code:=λh_ h0=>by
      simp only[List.mem_cons,List.not_mem_nil,or_false]at h0;rcases h0 with rfl|rfl|rfl|rfl|rfl|rfl
      · exact pG (c.fact 39) rfl
      · exact pG (c.fact 40) rfl
      · exact pG (c.fact 41) rfl
      · exact pG (c.fact 42) rfl
      · exact pG (c.fact 43) rfl
      · exact pG (c.fact 44) rfl
    Ux:=λh_ h0=>by
      simp only[List.mem_cons,List.not_mem_nil,or_false]at h0;rcases h0 with rfl|rfl|rfl
      · exact pG (c.fact 45) rfl
      · exact pG (c.fact 46) rfl
      · exact pG (c.fact 47) rfl
    x_at:=λh_ h0=>by
      obtain rfl:=List.mem_singleton.mp h0;exact pG (c.fact 48) rfl
    UA:=λh_ h0=>by simp at h0
    Uz:=λh_ h0=>by simp at h0
    UC:=λh_ h0=>by
      obtain rfl:=List.mem_singleton.mp h0;exact pG (c.fact 49) rfl
    FZ:=j5 a.E2 (He.glo_ok X G (c.fact 50)) kp.QI
    Jj:=ab9 _
    Gx:=by
      obtain⟨fd,gr,fs,AM,GR,hX,hR,hb,hk0⟩:=a.yh;exact⟨2*n+1,_,fd,_,_,fs,rfl,GR,(He.glo_ok X G (c.fact 51)),kp.CM,hb,rfl,hR⟩
    ns:=acj (c.fact 52)
    zR:=λh_ sZ hl=>by
      have hl:=DJ hl;obtain⟨rfl,rfl⟩:=hl;obtain⟨fd,eg,hb⟩:=a.E4;exact⟨⟨_,_,fd,_,eg,He.cls_ok (c.fact 16),IF (c.fact 53),hb⟩⟩
    Py:=⟨(He.glo_ok X G (c.fact 55)),(CH (c.fact 54)).1,(CH (c.fact 54)).2⟩
    Pz:=⟨(He.glo_ok X G (c.fact 57)),(CH (c.fact 56)).1,(CH (c.fact 56)).2⟩
    R8:=λh_ sZ hl=>by
      have hl:=DJ hl;obtain⟨rfl,rfl⟩:=hl;obtain⟨fd,eg,hb⟩:=a.E6;exact⟨⟨_,_,fd,_,eg,He.cls_ok (c.fact 16),IF (c.fact 58),hb⟩⟩
    M7:=j5 a.EL (He.glo_ok X G (c.fact 59)) kp.Qy
    Rq:=aaX _
    Qk:=by
      obtain⟨fd,eg,hb⟩:=a.EU;exact⟨⟨_,fd,_,eg,He.mkr_ok (c.fact 60),(He.glo_ok X G (c.fact 55)),hb⟩,ab4 _⟩
    Bk:=by
      obtain⟨fd,gr,fs,AM,GR,hX,hR,hb,hk0⟩:=a.yh;exact⟨2*n+1,_,fd,_,_,gr,rfl,AM,(He.glo_ok X G (c.fact 51)),kp.CM,hb,rfl,hX⟩
    OJ:=by
      obtain⟨fd,gr,fs,AM,GR,hX,hR,hb,hk0⟩:=a.yh;exact⟨2*n+1,_,fd,_,_,gr,rfl,AM,(He.glo_ok X G (c.fact 51)),kp.CM,hk0,rfl,hX⟩
    FY:=j5 a.EV (He.glo_ok X G (c.fact 61)) kp.QE
    Ji:=ab5 _
    Ql:=by
      obtain⟨fd,eg,hb⟩:=a.Fd;exact⟨⟨_,fd,_,eg,He.mkr_ok (c.fact 62),(He.glo_ok X G (c.fact 57)),hb⟩,abg _⟩
    Nb:=j5 a.EW (He.glo_ok X G (c.fact 63)) kp.QF
    abY:=ab6 _
    F0:=j5 a.E3 (He.glo_ok X G (c.fact 64)) kp.QJ
    Jk:=aba _
    F4:=j5 a.E5 (He.glo_ok X G (c.fact 65)) kp.QK
    Jl:=abb _
  }
theorem g9 {K:Frag}{x qual:Str}{st:Stmt}{f:Addr}{fd:FuncData}{ps:List Str}(F:Fun K x qual st f fd)(h:∀(kV doc pm:Value) (an:Option Addr) (cdv ct:Value) (us:List Value),us.length=ps.length->bindArgs (PySem.W.fnOf x qual (defArgs st) (defBody st) (defScope st) .none kV doc pm an cdv ct) ⟨us,[]⟩=pure (ps.zip us):=by exactλ_ _ _ _ _ _ us hl=>match us,hl with|[_],_=>rfl):Binds K fd ps []:=F.binds h
theorem g_ {K:Frag}{x qual:Str}{st:Stmt}{f:Addr}{fd:FuncData}{ps:List Str}(F:Fun K x qual st f fd)(h:∀(kV doc pm:Value) (an:Option Addr) (cdv ct:Value) (us:List Value),us.length=ps.length->bindArgs (PySem.W.fnOf x qual (defArgs st) (defBody st) (defScope st) .none kV doc pm an cdv ct) ⟨us,[]⟩=pure (ps.zip us):=by exactλ_ _ _ _ _ _ us hl=>match us,hl with|[_,_],_=>rfl):Binds K fd ps []:=F.binds h
theorem rP {K:Frag}{x qual:Str}{st:Stmt}{f:Addr}{fd:FuncData}{ps:List Str}(F:Fun K x qual st f fd)(h:∀(kV doc pm:Value) (an:Option Addr) (cdv ct:Value) (us:List Value),us.length=ps.length->bindArgs (PySem.W.fnOf x qual (defArgs st) (defBody st) (defScope st) .none kV doc pm an cdv ct) ⟨us,[]⟩=pure (ps.zip us):=by exactλ_ _ _ _ _ _ us hl=>match us,hl with|[_,_,_],_=>rfl):Binds K fd ps []:=F.binds h
theorem vF {K:Frag}{x qual:Str}{st:Stmt}{f:Addr}{fd:FuncData}{ps:List Str}(F:Fun K x qual st f fd)(h:∀(kV doc pm:Value) (an:Option Addr) (cdv ct:Value) (us:List Value),us.length=ps.length->bindArgs (PySem.W.fnOf x qual (defArgs st) (defBody st) (defScope st) .none kV doc pm an cdv ct) ⟨us,[]⟩=pure (ps.zip us):=by exactλ_ _ _ _ _ _ us hl=>match us,hl with|[_,_,_,_],_=>rfl):Binds K fd ps []:=F.binds h
theorem MT (kt:aI.txt=cA)(qC:("/claim/cut.py":Str)=P.main.file)(qD:(P.main.scope.names.lookup ("super":Str)).isSome=false)(X:K.In h)(G:h.Ns mainGlobals mg)(ce:SaysE b_ dl el K):∀n,Lq P w K mg base n
 |0=>
  have c:=ce.r
  {
  EL:=by
   obtain⟨fd,F⟩:=c.def_ 0;exact⟨fd,f7,(g9 F)⟩
  EM:=by
   obtain⟨fd,F⟩:=c.def_ 1;exact⟨fd,f7,(g_ F)⟩
  yh:=by
   obtain⟨fd,F⟩:=c.def_ 2;exact⟨fd,λ_ _ _ _=>bad,λ_=>bad,OH F DC (λ_ _ _ _ _ _ _ _ _ _ _ _ _ _ _ _ _=>⟨λ_ _ _ _ _ _ _ _ _ _ _ _ _ _ _ w=>w.elim⟩),OG F DC rfl (λ_ _ _ _ _ _ _ _ _=>⟨λ_ _ _ _ _ _ _ _ _ w=>w.elim⟩),λ_ _ _ w=>w.elim,λ_ _ _ w=>w.elim,(rP F),Oq F λ_ _ _ _ _ _ us ws h1 h2=>match us,ws,h1,h2 with|[],[_,_,_],_,_=>rfl⟩
  E7:=by
   obtain⟨fd,F⟩:=c.def_ 3;exact⟨fd,f7,(g_ F)⟩
  E8:=by
   obtain⟨fd,F⟩:=c.def_ 4;exact⟨fd,f7,(rP F)⟩
  E9:=by
   obtain⟨fd,F⟩:=c.def_ 5;exact⟨fd,f7,(g9 F)⟩
  E_:=by
   obtain⟨fd,F⟩:=c.def_ 6;exact⟨fd,f7,(vF F)⟩
  Fb:=by
   obtain⟨fd,F⟩:=c.def_ 7;exact⟨fd,f7,(g9 F)⟩
  Fd:=by
   obtain⟨fd,F⟩:=c.def_ 8;exact⟨fd,f7,(rP F)⟩
  EN:=by
   obtain⟨fd,F⟩:=c.def_ 9;exact⟨fd,f7,(g_ F)⟩
  EO:=by
   obtain⟨fd,F⟩:=c.def_ 10;exact⟨fd,f7,(g_ F)⟩
  ER:=by
   obtain⟨fd,F⟩:=c.def_ 11;exact⟨fd,f7,(g_ F)⟩
  ES:=by
   obtain⟨fd,F⟩:=c.def_ 12;exact⟨fd,f7,(g_ F)⟩
  ET:=by
   obtain⟨fd,F⟩:=c.def_ 13;exact⟨fd,f7,(g9 F)⟩
  EU:=by
   obtain⟨fd,F⟩:=c.def_ 14;exact⟨fd,f7,(rP F)⟩
  EV:=by
   obtain⟨fd,F⟩:=c.def_ 15;exact⟨fd,f7,(g_ F)⟩
  EW:=by
   obtain⟨fd,F⟩:=c.def_ 16;exact⟨fd,f7,(g9 F)⟩
  EY:=by
   obtain⟨fd,F⟩:=c.def_ 17;exact⟨fd,f7,(g9 F)⟩
  EZ:=by
   obtain⟨fd,F⟩:=c.def_ 18;exact⟨fd,X9,(g9 F)⟩
  E2:=by
   obtain⟨fd,F⟩:=c.def_ 19;exact⟨fd,f7,(g_ F)⟩
  E3:=by
   obtain⟨fd,F⟩:=c.def_ 20;exact⟨fd,f7,(vF F)⟩
  MN:=by
   obtain⟨fd,F⟩:=c.def_ 21;exact⟨fd,f7,(g_ F)⟩
  E4:=by
   obtain⟨fd,F⟩:=c.def_ 22;exact⟨fd,f7,(g9 F)⟩
  E5:=by
   obtain⟨fd,F⟩:=c.def_ 23;exact⟨fd,f7,(vF F)⟩
  MO:=by
   obtain⟨fd,F⟩:=c.def_ 24;exact⟨fd,f7,(g_ F)⟩
  MP:=by
   obtain⟨fd,F⟩:=c.def_ 25;exact⟨fd,f7,(g_ F)⟩
  MQ:=by
   obtain⟨fd,F⟩:=c.def_ 26;exact⟨fd,f7,(g9 F)⟩
  MR:=by
   obtain⟨fd,F⟩:=c.def_ 27;exact⟨fd,f7,(g9 F)⟩
  E6:=by
   obtain⟨fd,F⟩:=c.def_ 28;exact⟨fd,f7,(g9 F)⟩
  IQ:=wH
  IS:=wH
  IT:=wH
  IU:=wH
  IV:=wH
  IW:=wH
  }
 |n+1=>
  have c:=ce.r;have Q:=Sn kt qC qD X G ce (MT kt qC qD X G ce n)
  {
  EL:=by
   obtain⟨fd,F⟩:=c.def_ 0;exact⟨fd,(fn_ok true F aen (λcdv A outer s H E hr=>adT bF.cX fX fT hr Q)).imp Z_,g9 F⟩
  EM:=by
   obtain⟨fd,F⟩:=c.def_ 1;exact⟨fd,(fn_ok false F aeo (λcdv A outer s H E hr=>adU bF.cX fX fT hr Q)).imp Z9,g_ F⟩
  yh:=by
   obtain⟨fd,F⟩:=c.def_ 2;exact⟨fd,λct=>FJ (aR aS n) ct,JS (aR aS n),OH F DC (λcdv A outer s H E pn aH cons rN ct Fa hr hh qI hF hT=>aeg bF.lM hT Si hr qI hF Q),OG F DC rfl (λcdv A outer s H E pn hr hh=>afo bF.lM afS Si hr Q),λ_ _ _ w=>w,λ_ _ _ w=>w,(rP F),Oq F λ_ _ _ _ _ _ us ws h1 h2=>match us,ws,h1,h2 with|[],[_,_,_],_,_=>rfl⟩
  E7:=by
   obtain⟨fd,F⟩:=c.def_ 3;exact⟨fd,fn_ok false F aeK (λcdv A outer s H E hr=>aeh bF.cX fX fT hr Q),(g_ F)⟩
  E8:=by
   obtain⟨fd,F⟩:=c.def_ 4;exact⟨fd,fn_ok false F aeL (λcdv A outer s H E hr=>aei bF.cX fX fT hr Q),(rP F)⟩
  E9:=by
   obtain⟨fd,F⟩:=c.def_ 5;exact⟨fd,fn_ok false F aeM (λcdv A outer s H E hr=>aej bF.cX fX fT hr Q),(g9 F)⟩
  E_:=by
   obtain⟨fd,F⟩:=c.def_ 6;exact⟨fd,fn_ok false F aeN (λcdv A outer s H E hr=>aek bF.cX fX fT hr Q),(vF F)⟩
  Fb:=by
   obtain⟨fd,F⟩:=c.def_ 7;exact⟨fd,fn_ok false F aeO (λcdv A outer s H E hr=>ael bF.cX fX fT hr Q),(g9 F)⟩
  Fd:=by
   obtain⟨fd,F⟩:=c.def_ 8;exact⟨fd,fn_ok false F aeP (λcdv A outer s H E hr=>aem bF.cX fX fT hr Q),(rP F)⟩
  EN:=by
   obtain⟨fd,F⟩:=c.def_ 9;exact⟨fd,fn_ok false F aep (λcdv A outer s H E hr=>adV bF.cX fX fT hr Q),(g_ F)⟩
  EO:=by
   obtain⟨fd,F⟩:=c.def_ 10;exact⟨fd,fn_ok false F aeq (λcdv A outer s H E hr=>adW bF.cX fX fT hr Q),(g_ F)⟩
  ER:=by
   obtain⟨fd,F⟩:=c.def_ 11;exact⟨fd,fn_ok false F aer (λcdv A outer s H E hr=>adX bF.cX fX fT hr Q),(g_ F)⟩
  ES:=by
   obtain⟨fd,F⟩:=c.def_ 12;exact⟨fd,fn_ok false F aes (λcdv A outer s H E hr=>adY bF.cX fX fT hr Q),(g_ F)⟩
  ET:=by
   obtain⟨fd,F⟩:=c.def_ 13;exact⟨fd,fn_ok false F aet (λcdv A outer s H E hr=>adZ bF.cX fX fT hr Q),(g9 F)⟩
  EU:=by
   obtain⟨fd,F⟩:=c.def_ 14;exact⟨fd,fn_ok false F aeu (λcdv A outer s H E hr=>ae0 bF.cX fX fT hr Q),(rP F)⟩
  EV:=by
   obtain⟨fd,F⟩:=c.def_ 15;exact⟨fd,fn_ok false F aev (λcdv A outer s H E hr=>ae1 bF.cX fX fT hr Q),(g_ F)⟩
  EW:=by
   obtain⟨fd,F⟩:=c.def_ 16;exact⟨fd,fn_ok false F aew (λcdv A outer s H E hr=>ae2 bF.cX fX fT hr Q),(g9 F)⟩
  EY:=by
   obtain⟨fd,F⟩:=c.def_ 17;exact⟨fd,fn_ok false F aex (λcdv A outer s H E hr=>ae3 bF.cX A3.cX fX fT hr Q),(g9 F)⟩
  EZ:=by
   obtain⟨fd,F⟩:=c.def_ 18;exact⟨fd,Yb false F aey (λcdv A outer s H E hr=>ae4 jk.vM afR hr Q),(g9 F)⟩
  E2:=by
   obtain⟨fd,F⟩:=c.def_ 19;exact⟨fd,fn_ok false F aeA (λcdv A outer s H E hr=>ae6 bF.cX fX fT hr Q),(g_ F)⟩
  E3:=by
   obtain⟨fd,F⟩:=c.def_ 20;exact⟨fd,fn_ok false F aeB (λcdv A outer s H E hr=>ae7 bF.cX fX fT hr Q),(vF F)⟩
  MN:=by
   obtain⟨fd,F⟩:=c.def_ 21;exact⟨fd,fn_ok false F aeC (λcdv A outer s H E hr=>ae8 bF.cX fX fT hr Q),(g_ F)⟩
  E4:=by
   obtain⟨fd,F⟩:=c.def_ 22;exact⟨fd,fn_ok false F aeD (λcdv A outer s H E hr=>ae9 bF.cX fX fT hr Q),(g9 F)⟩
  E5:=by
   obtain⟨fd,F⟩:=c.def_ 23;exact⟨fd,fn_ok false F aeE (λcdv A outer s H E hr=>aea bF.cX fX fT hr Q),(vF F)⟩
  MO:=by
   obtain⟨fd,F⟩:=c.def_ 24;exact⟨fd,fn_ok false F aeF (λcdv A outer s H E hr=>aeb bF.cX fX fT hr Q),(g_ F)⟩
  MP:=by
   obtain⟨fd,F⟩:=c.def_ 25;exact⟨fd,fn_ok false F aeG (λcdv A outer s H E hr=>aec bF.cX fX fT hr Q),(g_ F)⟩
  MQ:=by
   obtain⟨fd,F⟩:=c.def_ 26;exact⟨fd,fn_ok false F aeH (λcdv A outer s H E hr=>aed bF.cX fX fT hr Q),(g9 F)⟩
  MR:=by
   obtain⟨fd,F⟩:=c.def_ 27;exact⟨fd,fn_ok false F aeI (λcdv A outer s H E hr=>aee bF.cX fX fT hr Q),(g9 F)⟩
  E6:=by
   obtain⟨fd,F⟩:=c.def_ 28;exact⟨fd,fn_ok false F aeJ (λcdv A outer s H E hr=>aef bF.cX fX fT hr Q),(g9 F)⟩
  IQ:=by
   have S:LamS (aI.txt 0):=by rw[kt];exact uD (by decide+kernel)
   have B:tE (aI.txt 0):=by rw[kt];exact⟨λ_ _ _ _ _ _ _=>rfl,λz=>(by cases z)⟩
   refine wI (T:=cA 0) (b:=vG (aR aS n)) ?_ rfl;have gD:=wJ (dU:=⟨P,w,K,mg,base⟩) (k:=2*n+3) (i:=0) (b:=vG (aR aS n)) S B (λcl f c2 A outer s H E hr=>by
    rw[kt]at S hr⊢;exact afa (bF.jQ S) xE w5 hr Q)
   rw[kt]at gD;exact gD
  IS:=by
   have S:LamS (aI.txt 1):=by rw[kt];exact uD (by decide+kernel)
   have B:tE (aI.txt 1):=by rw[kt];exact⟨λz=>(by cases z),λ_ _ _ _ _ _ _=>⟨_,rfl,λ_=>rfl⟩⟩
   refine wI (T:=cA 1) (b:=vH (aR aS n)) ?_ rfl;have gD:=wJ (dU:=⟨P,w,K,mg,base⟩) (k:=2*n+3) (i:=1) (b:=vH (aR aS n)) S B (λcl f c2 A outer s H E hr=>by
    rw[kt]at S hr⊢;exact afb (bF.jQ S) xE w5 hr Q)
   rw[kt]at gD;exact gD
  IT:=by
   have S:LamS (aI.txt 2):=by rw[kt];exact uD (by decide+kernel)
   have B:tE (aI.txt 2):=by rw[kt];exact⟨λz=>(by cases z),λ_ _ _ _ _ _ _=>⟨_,rfl,λ_=>rfl⟩⟩
   refine wI (T:=cA 2) (b:=vI (aR aS n)) ?_ rfl;have gD:=wJ (dU:=⟨P,w,K,mg,base⟩) (k:=2*n+3) (i:=2) (b:=vI (aR aS n)) S B (λcl f c2 A outer s H E hr=>by
    rw[kt]at S hr⊢;exact afc (bF.jQ S) xE w5 hr Q)
   rw[kt]at gD;exact gD
  IU:=by
   have S:LamS (aI.txt 3):=by rw[kt];exact uD (by decide+kernel)
   have B:tE (aI.txt 3):=by rw[kt];exact⟨λz=>(by cases z),λ_ _ _ _ _ _ _=>⟨_,rfl,λ_=>rfl⟩⟩
   refine wI (T:=cA 3) (b:=vJ (aR aS n)) ?_ rfl;have gD:=wJ (dU:=⟨P,w,K,mg,base⟩) (k:=2*n+3) (i:=3) (b:=vJ (aR aS n)) S B (λcl f c2 A outer s H E hr=>by
    rw[kt]at S hr⊢;exact afd (bF.jQ S) xE w5 hr Q)
   rw[kt]at gD;exact gD
  IV:=by
   have S:LamS (aI.txt 4):=by rw[kt];exact uD (by decide+kernel)
   have B:tE (aI.txt 4):=by rw[kt];exact⟨λz=>(by cases z),λ_ _ _ _ _ _ _=>⟨_,rfl,λ_=>rfl⟩⟩
   refine wI (T:=cA 4) (b:=vK (aR aS n)) ?_ rfl;have gD:=wJ (dU:=⟨P,w,K,mg,base⟩) (k:=2*n+3) (i:=4) (b:=vK (aR aS n)) S B (λcl f c2 A outer s H E hr=>by
    rw[kt]at S hr⊢;exact afe (bF.jQ S) xE w5 hr Q)
   rw[kt]at gD;exact gD
  IW:=by
   have S:LamS (aI.txt 5):=by rw[kt];exact uD (by decide+kernel)
   have B:tE (aI.txt 5):=by rw[kt];exact⟨λz=>(by cases z),λ_ _ _ _ _ _ _=>⟨_,rfl,λ_=>rfl⟩⟩
   refine wI (T:=cA 5) (b:=vL (aR aS n)) ?_ rfl;have gD:=wJ (dU:=⟨P,w,K,mg,base⟩) (k:=2*n+3) (i:=5) (b:=vL (aR aS n)) S B (λcl f c2 A outer s H E hr=>by
    rw[kt]at S hr⊢;exact afg (bF.jQ S) xE w5 hr Q)
   rw[kt]at gD;exact gD
  }
end
abbrev CO:aK:=aX false 1 19 (Bf (aR aS 14))
instance ajx:R.aI:=⟨cA,λ_=>0,λ_=>Str.empty,[]⟩
end g8
namespace g8
open PySem PySem.Spec PyProof.Rows L2 R
abbrev hk:PySem.W.Hook:=HW Fj b_ dl el
def ob (s:PySem.W.SharedT):qk:=sF Fj b_ dl el (HandSHeadRun.getT s)
theorem acq (s:PySem.W.SharedT):ob s=hk.obs s.abs:=acs (HandSHeadRun.getT_eq s)
theorem run (w:World):HandSHeadRun.RunEq yb (PySem.W.view yb.prog [42]) hk ob 12000 loose w:=adz (adw w) (adu w)
@[reducible]def oY (K:Frag):aI:=⟨cA,λ_=>Am K (aZ K "law"),λ_=>"law.<locals>.<lambda>",[]⟩
theorem facts {P:Program}{w:World}{K:Frag}{h:Heap}{mg:Str->Option Value}{f:Addr}(qC:("/claim/cut.py":Str)=P.main.file)(qD:(P.main.scope.names.lookup ("super":Str)).isSome=false)(X:K.In h)(G:h.Ns mainGlobals mg)(hfa:mg ("law":Str)=some (.ref f))(ce:SaysE b_ dl el K):
    ∃(fd:FuncData) (c:Addr) (oc:Value) (od:Option Addr) (fq:Array (Option Value)) (cZ:Value) (cd:Option Addr) (vs:Array Value) (cs:Array (Option Value)),K.lookup f=some ⟨oc,od,.func fd,fq⟩/\fd.code=.ref c/\K.lookup c=some ⟨cZ,cd,.fields vs,cs⟩/\vs[11]?=some (.ref ((oY K).tab 0))/\K.lookup ((oY K).tab 0)=none/\
      (∀(s:Shared) (v:Value),BindsTo s fd ⟨[v],[]⟩ [("_law_script",v)])/\∀base:Heap,K.In base->base.Ns mainGlobals mg->LamX.TabB base mg c ((oY K).tab 0)->FnOk P w K mg base (L2.CX P w) 32 f fd ["_law_script"] (xw (oY K) K 1 CO):=by
  have c:=SaysE.r ce;have e:=hfa.symm.trans (He.glo_ok X G (c.fact 66));cases e
  obtain⟨fd,F⟩:=c.def_ 29;obtain⟨oc,od,aiu,fq,cZ,cd,vs,cs,q1,q2,q3,lZ,uR⟩:=afP (c.fact 67);obtain⟨akb,akc,kV,doc,pm,an,cdv,ct,akh,Zf,lk,hcd⟩:=F.ex;have e2:=q1.symm.trans lk;cases e2
  refine⟨fd,_,oc,od,fq,cZ,cd,vs,cs,q1,q2,q3,lZ,uR,λs v=>?_,λbase _ _ tb=>?_⟩
  · rw[Zf]
    exact .of_eq rfl
  · refine X_ (oY K) false F q2 aez λA outer s H E hr=>?_
    letI:aI:=(oY K).at (envOfC "law" (defScope k_) s.heap.objs.size (aZ K "law") (.ref (xD K (aZ K "law")))).cells
    exact ae5 bF.cX (aaK (oY K) tb rfl rfl) rfl ⟨rfl,rfl⟩ fX fT hr (Sn rfl qC qD X G ce (MT rfl qC qD X G ce 14))
end g8
namespace R
open PySem PySem.Spec PyProof.Rows L2
variable[aI]
@[irreducible]def W {α:Type}(t:T α)(Q:α->Prop):Prop:=wp t Q
theorem EI {α:Type}{t:T α}{Q:α->Prop}:W t Q↔wp t Q:=by unfold W;exact Iff.rfl
theorem qq {α:Type}{a:α}{Q:α->Prop}:W (.ret a) Q=Q a:=by unfold W;rfl
theorem VS {α:Type}{n:Int}{k:Int->T α}{Q:α->Prop}:W (.draw n k) Q=∀d,0<=d->d<n->W (k d) Q:=by unfold W;rfl
theorem MG {α β:Type}{f:α->T β}{Q:β->Prop}{t:T α}:W (t.bind f) Q↔W t λa=>W (f a) Q:=by unfold W;exact wp_bind
theorem VW {α:Type}{Q Q':α->Prop}(w:∀a,Q a->Q' a){t:T α}(h:W t Q):W t Q':=EI.mpr (wp_mono w (EI.mp h))
section
variable{M:List ak}{j:Nat}{n:Int}{t:cH}
theorem Uq {m:Bool}{np n:Nat}{b:aQ}{ss:List af}{Q:Re af->Prop}(e:ss.length=np)(h:wp (b (ss++List.replicate (n-np) .un) M) λr=>wp (o_ m M.length r) Q):wp (aX m np n b ss M) Q:=by
 unfold aX;rw[if_pos e];exact wp_bind.mpr h
theorem adj {m:Bool}{d:D}{k:Nat}{Q:Re af->Prop}(hl:M.length=k)(h:Q (.ok (.dat d) M)):wp (o_ m k (.ok (.rt (.dat d)) M)) Q:=by
 show wp (clean m k (.dat d) M) Q
 unfold clean
 dsimp only
 rw[fN hl];exact h
theorem wp_seq {α β:Type}{m:Ev α}{f:α->Ev β}{Q:Re β->Prop}(h:wp (m M) λr=>wp (bH f r) Q):wp (Ev.bind m f M) Q:=cz.mpr h
theorem atI_get {α:Type}{xs:List α}{i:Int}(h0:0<=i)(h1:i<(xs.length:Int)):∃a∈xs,xs[i.toNat]?=some a/\atI xs i=some a:=by
 have hk:i.toNat<xs.length:=by omega
 refine⟨xs[i.toNat],List.getElem_mem hk,List.getElem?_eq_getElem hk,?_⟩;unfold atI ixN;rw[if_pos h0,if_pos h1];show xs[i.toNat]?=_
 exact List.getElem?_eq_getElem hk
theorem ach (hj:M[j]?=some .hand):gJ M (.mu j)=.mu j:=by simp only[gJ,hj]
def ym (gI:aK)(t:cH):aQ:=(bU (ay bT (ah 1) (bR gI (aq (ah 0) (aq (bW (eH t) (aq (ah 1) aB)) aB)))))
theorem acR {ds:List D}{Q:Re af->Prop}(hj:M[j]?=some .hand)(h1:ds≠[])(h2:ds.length<=sizeLine)(h:∀d∈ds,Q (.ok (.dat d) M)):wp (aX false 2 2 (ym mV t) [.mu j,.dat (.lst ds)] M) Q:=by
 refine Uq rfl ?_;have hn:(0:Int)<(ds.length:Int):=by
  cases ds with
  |nil=>exact absurd rfl h1
  |cons a r=>simp only[List.length_cons];omega
 have oS:(ds.length:Int)<1073741824:=by unfold sizeLine at h2;omega
 have ZF:0<ds.length:=by omega
 simp[ym,bU,ay,ah,bR,aq,aB,bW,Ev.bind,T.bind,bH,R.ok,mU,ach hj,eH,lenOf,fk,iD,h2,mV,hj,hn,oS,ZF,wp,ofM,bT];intro d d1 d2;obtain⟨a,ha,_,e⟩:=atI_get d1 d2;rw[e];exact adj (m:=false) rfl (h a ha)
theorem aci {k:Nat}{xs:List af}(hj:M[k]?=some (.lst xs)):gJ M (.mu k)=.mu k:=by simp only[gJ,hj]
def Cl (M:List ak):Prop:=closed M.length M=true
theorem Xe {N:List ak}(hc:Cl M):cut M.length (M++N)=M:=by
 unfold cut closed;unfold Cl closed at hc;rw[List.take_length]at hc;rw[List.take_left,if_pos hc]
theorem agJ {g:aQ}{ρ:List af}{Q:Re ck->Prop}(h:wp (g ρ M) Q):wp (bH (jh g) (.ok (.nx ρ) M)) Q:=h
def Gives (f:CE)(ρ:List af)(M:List ak)(P:af->Prop):Prop:=∀Q:Re af->Prop,(∀s,P s->Q (.ok s M))->wp (f ρ M) Q
theorem ac7 {ρ:List af}:aB ρ M=.ret (.ok [] M):=rfl
theorem ND {ρ:List af}{f:CE}{g:aH}{s:af}{ss:List af}{M1 M2:List ak}(h1:f ρ M=.ret (.ok s M1))(h2:g ρ M1=.ret (.ok ss M2)):aq f g ρ M=.ret (.ok (s::ss) M2):=by
 unfold aq Ev.bind;rw[h1];show((g ρ M1).bind _)=_
 rw[h2];rfl
theorem K6 {ρ:List af}{i:Nat}{s:af}(h:ρ[i]?=some s)(hu:s≠.un)(hn:gJ M s=s):ah i ρ M=.ret (.ok s M):=by
 unfold ah;rw[h];cases s with
 |un=>exact absurd rfl hu
 |dat d=>rfl
 |mu j=>show T.ret (Re.ok (gJ M (.mu j)) M)=_;rw[hn]
 |raw v=>rfl
theorem R5 {g:List ak->af->af->Option (af×List ak)}{f G0:CE}{ρ:List af}{s aF u:af}{M1 M2 bB:List ak}(h1:f ρ M=.ret (.ok s M1))(h2:G0 ρ M1=.ret (.ok aF M2))(h3:g M2 s aF=some (u,bB)):ay g f G0 ρ M=.ret (.ok u bB):=by
 unfold ay Ev.bind;rw[h1];show((G0 ρ M1).bind _)=_
 rw[h2];show(ofM (λM=>g M s aF) M2)=_
 unfold ofM
 dsimp only
 rw[h3]
end
def LL (f:CE)(ρ:List af)(M:List ak)(P:af->Prop):Prop:=∀Q:Re af->Prop,(∀s,P s->Q (.ok s M))->W (f ρ M) Q
theorem Cd {f:CE}{ρ:List af}{M:List ak}{P:af->Prop}:LL f ρ M P=Gives f ρ M P:=by unfold LL W Gives;rfl
section
variable{M:List ak}{j:Nat}{n:Int}{t:cH}
theorem VT {m:Bool}{np n:Nat}{b:aQ}{ss:List af}{Q:Re af->Prop}(e:ss.length=np)(h:W (b (ss++List.replicate (n-np) .un) M) λr=>W (o_ m M.length r) Q):W (aX m np n b ss M) Q:=by
 (try rw[Cd]at *);unfold W at *
 exact Uq e h
theorem VX {α β:Type}{m:Ev α}{f:α->Ev β}{Q:Re β->Prop}(h:W (m M) λr=>W (bH f r) Q):W (Ev.bind m f M) Q:=by
 (try rw[Cd]at *);unfold W at *
 exact wp_seq h
theorem Sb {ds:List D}{Q:Re af->Prop}(hj:M[j]?=some .hand)(h1:ds≠[])(h2:ds.length<=sizeLine)(h:∀d∈ds,Q (.ok (.dat d) M)):W (aX false 2 2 (ym mV t) [.mu j,.dat (.lst ds)] M) Q:=by
 (try rw[Cd]at *);unfold W at *
 exact acR hj h1 h2 h
theorem MH {g:aQ}{ρ:List af}{Q:Re ck->Prop}(h:W (g ρ M) Q):W (bH (jh g) (.ok (.nx ρ) M)) Q:=by
 (try rw[Cd]at *);unfold W at *
 exact agJ h
end
def R1 (z:Str):Prop:=∀c∈z.cps.toList,c∈([46,111,62,60]:List Nat)
instance (z:Str):Decidable (R1 z):=inferInstanceAs (Decidable (∀c∈z.cps.toList,c∈([46,111,62,60]:List Nat)))
section
variable{M:List ak}{j:Nat}{n:Int}{t:cH}
theorem MI {f g:aQ}{ρ:List af}{Q:Re ck->Prop}(h:W (f ρ M) λr=>W (bH (jh g) r) Q):W (aY f g ρ M) Q:=VX h
theorem adk {f:CE}{ρ:List af}{i:Int}(e:f ρ M=.ret (.ok (.dat (.int i)) M))(h1:0<=i)(h2:i<4611686018427387904):f_ f ρ M=.ret (.ok (.data (rng 0 i.toNat)) M):=by
 unfold f_ Ev.bind;simp only[e,T.bind,bH];rw[if_pos ⟨by omega,by omega⟩];rfl
theorem DQ {ρ:List af}{i:Nat}{d:D}(h:ρ[i]?=some (.dat d)):ah i ρ M=.ret (.ok (.dat d) M):=by
 unfold ah;rw[h];rfl
theorem SI {lo:Int}{k:Nat}:(rng lo k).length=k:=by simp[rng]
end
def jZ (lk:aK)(t:cH):aQ:=
  (aY (dF (tOr (bZ (ay (cmp .Is) (ah 0) (λ_=>ok (.dat .non)))) (bZ (ay (cmp .Is) (ah 1) (λ_=>ok (.dat .non))))) (bU (jq (ay (cmp .Is) (ah 0) (λ_=>ok (.dat .non))) (ay (cmp .Is) (ah 1) (λ_=>ok (.dat .non))))) d8)
  (aY (dF (bZ (cM (e7 ["list","tuple"]) (ah 1))) (aY (dF (tOr (bZ (ay (cmp .NotEq) (cM (e7 ["list"]) (ah 0)) (cM (e7 ["list"]) (ah 1)))) (bZ (ay (cmp .NotEq) (cM (e7 ["tuple"]) (ah 0)) (cM (e7 ["tuple"]) (ah 1))))) (bU (λ_=>ok (.dat (.bl false)))) d8)
  (bU (jq (ay (cmp .Eq) (bW (eH t) (aq (ah 0) aB)) (bW (eH t) (aq (ah 1) aB))) (bW (pu (qt true)) (aq (fO false [2] (f_ (bW (eH t) (aq (ah 1) aB))) (b7 2) fW (bR lk (aq (ay bT (ah 0) (ah 2)) (aq (ay bT (ah 1) (ah 2)) aB)))) aB))))) d8)
  (aY (dF (tOr (bZ (ay (cmp .NotEq) (cM (e7 ["bool"]) (ah 0)) (cM (e7 ["bool"]) (ah 1)))) (bZ (ay (cmp .NotEq) (cM (e7 ["int"]) (ah 0)) (cM (e7 ["int"]) (ah 1))))) (bU (λ_=>ok (.dat (.bl false)))) d8)
  (bU (jq (ay (cmp .Eq) (cM (e7 ["str"]) (ah 0)) (cM (e7 ["str"]) (ah 1))) (ay (cmp .Eq) (ah 0) (ah 1)))))))
def good:Nat->D->Bool
 |_,.non=>true
 |_,.bl _=>true
 |_,.int _=>true
 |_,.str _=>true
 |k+1,.lst ds=>ds.all (good k)&&decide (ds.length<4000)
 |k+1,.tup ds=>ds.all (good k)&&decide (ds.length<4000)
 |_,_=>false
section
variable{M:List ak}{t:cH}{lk:aK}
theorem Nz {turn:af->Ev (List D)}{g:D->List D}:∀{ds:List D},(∀d∈ds,turn (.dat d) M=.ret (.ok (g d) M))->oA turn ds M=.ret (.ok (ds.flatMap g) M)
 |[],_=>rfl
 |d::ds,h=>by
  have ih:=Nz (ds:=ds) λd hd=>h d (List.mem_cons_of_mem _ hd)
  unfold oA Ev.bind;rw[h d List.mem_cons_self];simp only[T.bind,bH,ih,R.ok,List.flatMap_cons]
theorem aaS {own:List Nat}{fi:iy}{gt:dz}{tt:dB}{e:CE}{ρ:List af}{ds:List D}{g:D->List D}(h1:fi ρ M=.ret (.ok (.data ds) M))(hz:ds.length<sizeLine)(h2:∀d∈ds,jv gt tt e (gk ρ own) (.dat d) M=.ret (.ok (g d) M)):
    fO false own fi gt tt e ρ M=.ret (.ok (.dat (.lst (ds.flatMap g))) M):=by
  unfold fO Ev.bind;rw[h1];simp only[T.bind,bH];rw[if_pos (show(Its.data ds).n<sizeLine from hz)];unfold gH;simp only[List.drop_zero,Nz h2,T.bind,bH,ofM,eX];rfl
theorem acA {gt:dz}{e:CE}{ρ aT:List af}{s:af}{d:D}(h1:gt s ρ=some aT)(h2:e aT M=.ret (.ok (.dat d) M)):jv gt fW e ρ s M=.ret (.ok [d] M):=by
 unfold jv;rw[h1];simp only[fW,fk,iD,Ev.bind,R.ok,T.bind,bH,if_true,h2,frz,ofM,jL]
def isB (d:D)(ns:List String)(b:Bool):Prop:=∀M:List ak,e7 ns M (.dat d)=some (.dat (.bl b),M)
theorem nb {M:List ak}{a b:Bool}:cmp .NotEq M (.dat (.bl a)) (.dat (.bl b))=some (.dat (.bl (a !=b)),M):=by cases a<;>cases b<;>rfl
theorem lH {M:List ak}{a b:Bool}:cmp .Eq M (.dat (.bl a)) (.dat (.bl b))=some (.dat (.bl (a==b)),M):=by cases a<;>cases b<;>rfl
theorem Wu {F:aK}{fs:aH}{ρ:List af}{ss:List af}{M1:List ak}{r:T (Re af)}(e:fs ρ M=.ret (.ok ss M1))(h:F ss M1=r):bR F fs ρ M=r:=by
 unfold bR Ev.bind;rw[e];exact h
theorem Q6 {c:D}{ds:List D}(zf:∀i,bT M (.dat c) (.dat (.int i))=(atI ds i).map λd=>(.dat d,M))(hlen:lenOf M (.dat c)=some ds.length)(hz:ds.length<4000)(hlk:∀d∈ds,lk [.dat d,.dat d] M=.ret (.ok (.dat (.bl true)) M)):
    fO false [2] (f_ (bW (eH t) (aq (ah 1) aB))) (b7 2) fW (bR lk (aq (ay bT (ah 0) (ah 2)) (aq (ay bT (ah 1) (ah 2)) aB))) [.dat c,.dat c,.un] M=.ret (.ok (.dat (.lst ((List.replicate ds.length true).map .bl))) M):=by
  have hz2:ds.length<=sizeLine:=Nat.le_trans (Nat.le_of_lt hz) (by decide);have e1:bW (eH t) (aq (ah 1) aB) [.dat c,.dat c,.un] M=.ret (.ok (.dat (.int (ds.length:Int))) M):=by
    simp[bW,aq,aB,ah,mU,Ev.bind,T.bind,bH,R.ok,eH,hlen,hz2,fk,iD]
  have r:=aaS (own:=[2]) (gt:=b7 2) (tt:=fW) (e:=bR lk (aq (ay bT (ah 0) (ah 2)) (aq (ay bT (ah 1) (ah 2)) aB))) (g:=λ_=>[.bl true]) (adk e1 (by omega) (by omega)) (by rw[SI,Int.toNat_natCast];exact Nat.lt_of_lt_of_le hz (by decide)) (λd hd=>by
    rw[Int.toNat_natCast]at hd;unfold rng at hd;obtain⟨i,hi,rfl⟩:=List.mem_map.mp hd;have hi:=List.mem_range.mp hi;obtain⟨a,ha,_,e⟩:=atI_get (xs:=ds) (i:=((0:Int)+(i:Nat))) (by omega) (by omega);refine acA (aT:=[.dat c,.dat c,.dat (.int ((0:Int)+(i:Nat)))]) rfl ?_;refine Wu (ND (R5 (DQ rfl) (DQ rfl) (by rw[zf,e];rfl)) (ND (R5 (DQ rfl) (DQ rfl) (by rw[zf,e];rfl)) ac7)) (hlk a ha))
  rw[r,Int.toNat_natCast]
  congr 3
  rw[List.map_replicate];have:∀l:List D,(l.flatMap λ_=>[D.bl true])=List.replicate l.length (D.bl true):=by
    intro l;induction l with
    |nil=>rfl
    |cons a l ih=>rw[List.flatMap_cons,ih];rfl
  rw[this,SI]
theorem MY {n:Nat}:qu (List.replicate n (D.bl true))=some (List.replicate n true):=by
 have:=M3 (List.replicate n true)
 rwa[List.map_replicate]at this
theorem yw {M:List ak}{d:D}:cmp .Is M (.dat d) (.dat .non)=some (.dat (.bl (isNon d)),M):=by cases d<;>rfl
theorem yK {M:List ak}{i k:Int}:cmp .Eq M (.dat (.int i)) (.dat (.int k))=some (.dat (.bl (decide (i=k))),M):=rfl
theorem es {M:List ak}{i k:Str}:cmp .Eq M (.dat (.str i)) (.dat (.str k))=some (.dat (.bl (decide (i=k))),M):=rfl
theorem abl {k:Nat}(hlk:∀d,good k d=true->lk [.dat d,.dat d] M=.ret (.ok (.dat (.bl true)) M)){d:D}(h:good (k+1) d=true):aX false 2 3 (jZ lk t) [.dat d,.dat d] M=.ret (.ok (.dat (.bl true)) M):=by
 have key:jZ lk t [.dat d,.dat d,.un] M=.ret (.ok (.rt (.dat (.bl true))) M):=by
  cases d with
  |non=>rfl
  |bl b=>
   have i1:∀b,isB (.bl b) ["list","tuple"] false:=λb M=>rfl
   have fP:∀b,isB (.bl b) ["bool"] true:=λb M=>rfl
   have kU:∀b,isB (.bl b) ["int"] true:=λb M=>rfl
   have oW:∀b,isB (.bl b) ["str"] false:=λb M=>rfl
   simp[jZ,aY,dF,bU,tOr,bZ,jq,ay,cM,ah,mU,Ev.bind,T.bind,bH,R.ok,ofM,iZ,jh,d8,i1 b M,fP b M,kU b M,oW b M,nb,lH,yw,yK,es,isNon]
  |int i=>
   have i1:isB (.int i) ["list","tuple"] false:=λM=>rfl
   have fP:isB (.int i) ["bool"] false:=λM=>rfl
   have kU:isB (.int i) ["int"] true:=λM=>rfl
   have oW:isB (.int i) ["str"] false:=λM=>rfl
   simp[jZ,aY,dF,bU,tOr,bZ,jq,ay,cM,ah,mU,Ev.bind,T.bind,bH,R.ok,ofM,iZ,jh,d8,i1 M,fP M,kU M,oW M,nb,lH,yw,yK,es,isNon]
  |str z=>
   have i1:isB (.str z) ["list","tuple"] false:=λM=>rfl
   have fP:isB (.str z) ["bool"] false:=λM=>rfl
   have kU:isB (.str z) ["int"] false:=λM=>rfl
   have oW:isB (.str z) ["str"] true:=λM=>rfl
   simp[jZ,aY,dF,bU,tOr,bZ,jq,ay,cM,ah,mU,Ev.bind,T.bind,bH,R.ok,ofM,iZ,jh,d8,i1 M,fP M,kU M,oW M,nb,lH,yw,yK,es,isNon]
  |lst ds=>
   have i1:isB (.lst ds) ["list","tuple"] true:=λM=>rfl
   have fP:isB (.lst ds) ["list"] true:=λM=>rfl
   have kU:isB (.lst ds) ["tuple"] false:=λM=>rfl
   unfold good at h;rw[Bool.and_eq_true,List.all_eq_true,decide_eq_true_eq]at h;have hz:ds.length<=sizeLine:=Nat.le_trans (Nat.le_of_lt h.2) (by decide);have hc:=Q6 (M:=M) (t:=t) (lk:=lk) (c:=.lst ds) (ds:=ds) (λi=>rfl) rfl h.2 λd hd=>hlk d (h.1 d hd)
   simp[jZ,aY,dF,bU,tOr,bZ,jq,ay,cM,bW,aq,aB,ah,mU,Ev.bind,T.bind,bH,R.ok,ofM,iZ,jh,d8,i1 M,fP M,kU M,nb,lH,yw,yK,es,isNon,eH,lenOf,hz,fk,iD];rw[hc];simp[T.bind,bH,R.ok,Ev.bind,pu,qt,lU,ofM,fk,iD,MY,jh]
  |tup ds=>
   have i1:isB (.tup ds) ["list","tuple"] true:=λM=>rfl
   have fP:isB (.tup ds) ["list"] false:=λM=>rfl
   have kU:isB (.tup ds) ["tuple"] true:=λM=>rfl
   unfold good at h;rw[Bool.and_eq_true,List.all_eq_true,decide_eq_true_eq]at h;have hz:ds.length<=sizeLine:=Nat.le_trans (Nat.le_of_lt h.2) (by decide);have hc:=Q6 (M:=M) (t:=t) (lk:=lk) (c:=.tup ds) (ds:=ds) (λi=>rfl) rfl h.2 λd hd=>hlk d (h.1 d hd)
   simp[jZ,aY,dF,bU,tOr,bZ,jq,ay,cM,bW,aq,aB,ah,mU,Ev.bind,T.bind,bH,R.ok,ofM,iZ,jh,d8,i1 M,fP M,kU M,nb,lH,yw,yK,es,isNon,eH,lenOf,hz,fk,iD];rw[hc];simp[T.bind,bH,R.ok,Ev.bind,pu,qt,lU,ofM,fk,iD,MY,jh]
  |_=>cases h
 unfold aX;rw[if_pos (show[af.dat d,af.dat d].length=2 from rfl)];show(jZ lk t [.dat d,.dat d,.un] M).bind _=_
 rw[key];show clean false _ (.dat (.bl true)) _=_
 unfold clean
 dsimp only
 rw[fN rfl]
end
structure xS (k:Int)(rows:List (Int×Str))(w:Nat):Prop where
 h1:1<=rows.length
 h2:rows.length<=4
 aC:1<=w
 bN:w<=4
 k1:1<=k
 k2:k<=6
 nd:(rows.map (·.1)).Nodup
 lo:∀r∈rows,0<=r.1/\r.1<k
 akp:∀r∈rows,r.2.length=w/\R1 r.2
def zZ (r:Int×Str):Str:=Str.ofString (toString r.1)++" "++r.2
def afZ (k:Int)(rows:List (Int×Str)):Str:=Str.ofString (toString k)++": "++Txt.join " / " (rows.map zZ)
def aar (d x:D):List D:=match d,x with
 | .tup [.int i,_],.tup [.int c,.str s]=>if s="." then[]else[.tup [.int i,.int c]]
 |_,_=>[]
def aav (i:Nat)(z:Str):List D:=(i9 0 (fc z)).flatMap (aar (.tup [.int (i:Nat),.str z]))
def Qt:Nat->List (Int×Str)->List D
 |_,[]=>[]
 |i,r::rows=>aav i r.2++Qt (i+1) rows
def M4 (k:Int)(rows:List (Int×Str)):List (Str×D):=[("own_ticks",.int k),("own_places",.lst (rows.map λr=>.int r.1)),("own_signs",.lst (rows.map λr=>.str r.2)),("own_text",.str (afZ k rows)),("own_keys",.lst (Qt 0 rows))]
def Wk (k:Int)(rows:List (Int×Str)):D:=.ins 0 (M4 k rows)
section
variable{M:List ak}{t:cH}{vq:af}{k:Int}{rows:List (Int×Str)}{w:Nat}
def Hh (h:Int×Str->D):D->List D
 | .tup [.int p,.str z]=>[h (p,z)]
 |_=>[]
end
theorem TN {a b:Str}(h:a.cps.toList=b.cps.toList):a=b:=by
 obtain⟨⟨a⟩⟩:=a;obtain⟨⟨b⟩⟩:=b;have h:a=b:=h;rw[h]
section
variable{M:List ak}
theorem Cl.app {m:ak}(h:Cl M)(hm:pS (M.length+1) m=true)(ZE:∀x∈M,pS M.length x=true->pS (M.length+1) x=true):Cl (M++[m]):=by
 unfold Cl closed at *;rw[List.take_length]at h;rw[List.length_append,List.length_singleton,List.take_of_length_le (by simp),List.all_append,Bool.and_eq_true];refine⟨?_,by simpa using hm⟩;rw[List.all_eq_true]at h⊢;exactλx hx=>ZE x hx (h x hx)
theorem Bm {n:Nat}{s:af}(h:iJ n s=true):iJ (n+1) s=true:=by
 cases s<;>simp_all [iJ]
 omega
theorem W3 {n:Nat}{m:ak}(h:pS n m=true):pS (n+1) m=true:=by
 cases m<;>simp_all [pS]
 ·exactλx hx=>Bm (h x hx)
 ·exactλa b hx=>Bm (h a b hx)
 ·exactλa b hx=>Bm (h a b hx)
 ·exactλa b hx=>Bm (h a b hx)
theorem Cl.lst {ds:List D}(h:Cl M):Cl (M++[.lst (ds.map .dat)]):=h.app (by simp[pS,iJ]) λ_ _=>W3
theorem Cl.set {j:Nat}{m:ak}(h:Cl M)(hm:pS M.length m=true):Cl (M.set j m):=by
 unfold Cl closed at *;rw[List.take_length]at h;rw[List.take_length,List.length_set,List.all_eq_true];rw[List.all_eq_true]at h;intro x hx;rcases List.mem_or_eq_of_mem_set hx with e|e
 ·exact h x e
 ·rw[e];exact hm
end
section
variable{α β:Type}{M M1:List ak}{ρ aT:List af}{s s1:af}{i j k:Nat}{Q:Re ck->Prop}
@[simp]theorem akK {a:α}{r:List α}:(a::r)[0]?=some a:=id rfl
@[simp]theorem rq {m:Ev α}{f:α->Ev β}:Ev.bind m f M=(m M).bind (bH f):=by rw[Ev.bind]
@[simp]theorem gA {a:α}{f:α->T β}:(T.ret a).bind f=f a:=by rw[T.bind]
@[simp]theorem lA {f:α->Ev β}{a:α}:bH f (.ok a M)=f a M:=by rw[bH]
@[simp]theorem agY {f:α->Ev β}{c:Nat}{fs:List (Str×D)}:bH f (.ex c fs M)=.ret (.ex c fs M):=by rw[bH]
@[simp]theorem alf {a:α}:R.ok a M=.ret (.ok a M):=by rw[R.ok]
def nN:Option (α×List ak)->T (Re α)
 |some (a,M)=>.ret (.ok a M)
 |none=>.bad
@[simp]theorem ake {a:α}:nN (some (a,M))=.ret (.ok a M):=by rw[nN]
@[simp]theorem AA {f:List ak->Option (α×List ak)}:ofM f M=nN (f M):=by
 unfold ofM nN;cases f M with
 |none=>rfl
 |some p=>rfl
def yJ:Option af->List ak->T (Re af)
 |some .un,_=>.bad
 |some s,M=>.ret (.ok (gJ M s) M)
 |none,_=>.bad
def Jr:Option ak->Nat->af
 |some (.fz (some d)),_=>.dat d
 |_,j=>.mu j
@[simp]theorem UD:gJ M (.mu j)=Jr M[j]? j:=by
 show(match M[j]? with
  |some (.fz (some d))=>af.dat d
  |_=>.mu j)=_
 cases M[j]? with
 |none=>rfl
 |some m=>
  cases m with
  |fz o=>cases o<;>rfl
  |_=>rfl
@[simp]theorem acg {d:D}:Jr (some (.fz (some d))) j=.dat d:=id rfl
@[simp]theorem aka {c:Nat}{xs:List (Str×af)}:Jr (some (.ins c xs)) j=.mu j:=id rfl
@[simp]theorem Uv:ah i ρ M=yJ ρ[i]? M:=by
 unfold ah yJ;cases ρ[i]? with
 |none=>rfl
 |some s=>cases s<;>rfl
@[simp]theorem aio {d:D}:yJ (some (.dat d)) M=.ret (.ok (.dat d) M):=id rfl
@[simp]theorem Xx:yJ (some (.mu j)) M=.ret (.ok (gJ M (.mu j)) M):=id rfl
@[simp]theorem akZ:aB ρ M=.ret (.ok [] M):=id rfl
def Ip (s:af):List af->Ev (List af):=λss=>ok (s::ss)
def PV (g:aH)(ρ:List af):af->Ev (List af):=λs=>(g ρ).bind (Ip s)
@[simp]theorem aj5 {ss:List af}:Ip s ss M=.ret (.ok (s::ss) M):=id rfl
@[simp]theorem aj4 {g:aH}:PV g ρ s M=(g ρ M).bind (bH (Ip s)):=id rfl
@[simp]theorem akT {f:CE}{g:aH}:aq f g ρ M=(f ρ M).bind (bH (PV g ρ)):=id rfl
def IA (g:List ak->af->Option (af×List ak)):af->Ev af:=λx=>ofM λM=>g M x
@[simp]theorem aji {g:List ak->af->Option (af×List ak)}:IA g s M=nN (g M s):=by unfold IA;rw[AA]
@[simp]theorem al0 {g:List ak->af->Option (af×List ak)}{aJ:CE}:cM g aJ ρ M=(aJ ρ M).bind (bH (IA g)):=id rfl
def zB (g:List ak->af->af->Option (af×List ak))(x:af):af->Ev af:=λy=>ofM λM=>g M x y
def Qe (g:List ak->af->af->Option (af×List ak))(bS:CE)(ρ:List af):af->Ev af:=λx=>(bS ρ).bind (zB g x)
@[simp]theorem ajk {g:List ak->af->af->Option (af×List ak)}:zB g s s1 M=nN (g M s s1):=by unfold zB;rw[AA]
@[simp]theorem ajj {g:List ak->af->af->Option (af×List ak)}{bS:CE}:Qe g bS ρ s M=(bS ρ M).bind (bH (zB g s)):=id rfl
@[simp]theorem al1 {g:List ak->af->af->Option (af×List ak)}{aJ bS:CE}:ay g aJ bS ρ M=(aJ ρ M).bind (bH (Qe g bS ρ)):=id rfl
def Qg (g:List af->Ev af):List af->Ev af:=λss=>fk (g ss)
@[simp]theorem ajl {g:List af->Ev af}{ss:List af}:Qg g ss M=(g ss M).bind iD:=id rfl
@[simp]theorem al2 {g:List af->Ev af}{fs:aH}:bW g fs ρ M=(fs ρ M).bind (bH (Qg g)):=id rfl
@[simp]theorem ale {a:α}:iD (.ok a M)=.ret (.ok a M):=id rfl
@[simp]theorem akJ {b:Bool}:iZ (.dat (.bl b)) M=.ret (.ok b M):=id rfl
@[simp]theorem alA {f:CE}:bZ f ρ M=(f ρ M).bind (bH iZ):=id rfl
theorem Im {c:Prop}[Decidable c]{f g:Ev α}:(if c then f else g) M=if c then f M else g M:=by split<;>rfl
def Qa:Bool->Ev Bool:=λb=>ok (!b)
@[simp]theorem ajh {b:Bool}:Qa b M=.ret (.ok (!b) M):=id rfl
@[simp]theorem aly {f:dB}:tNot f ρ M=(f ρ M).bind (bH Qa):=id rfl
def ID (g:dB)(ρ:List af):Bool->Ev Bool:=λb=>if b then ok true else g ρ
@[simp]theorem ajo {g:dB}{b:Bool}:ID g ρ b M=if b=true then .ret (.ok true M)else g ρ M:=by unfold ID;rw[Im];rfl
@[simp]theorem alz {f g:dB}:tOr f g ρ M=(f ρ M).bind (bH (ID g ρ)):=id rfl
def NU (g:CE)(ρ:List af):af->Ev af:=λs=>match s with
 | .dat (.bl true)=>g ρ
 | .dat (.bl false)=>ok (.dat (.bl false))
 |_=>bad
@[simp]theorem akO {f g:CE}:jq f g ρ M=(f ρ M).bind (bH (NU g ρ)):=id rfl
@[simp]theorem aim {g:CE}:NU g ρ (.dat (.bl true)) M=g ρ M:=id rfl
def Bl (fE:CmpOp)(fh:CE)(ρ:List af)(y:af):Option Bool->Ev af
 |some true=>(fh ρ).bind λz=>ofM λM=>cmp fE M y z
 |some false=>ok (.dat (.bl false))
 |none=>bad
def CF (op fE:CmpOp)(fh:CE)(ρ:List af)(x:af):af->Ev af:=λy M=>Bl fE fh ρ y (fH op M x y) M
def Iu (op fE:CmpOp)(bS fh:CE)(ρ:List af):af->Ev af:=λx=>(bS ρ).bind (CF op fE fh ρ x)
@[simp]theorem aj8 {op fE:CmpOp}{fh:CE}:CF op fE fh ρ s s1 M=Bl fE fh ρ s1 (fH op M s s1) M:=id rfl
@[simp]theorem aj9 {op fE:CmpOp}{bS fh:CE}:Iu op fE bS fh ρ s M=(bS ρ M).bind (bH (CF op fE fh ρ s)):=id rfl
@[simp]theorem akL {op fE:CmpOp}{aJ bS fh:CE}:tW op fE aJ bS fh ρ M=(aJ ρ M).bind (bH (Iu op fE bS fh ρ)):=by
 unfold tW Iu CF Ev.bind
 congr 1;congr 1;funext x M2;congr 1;congr 1;funext y bB
 cases fH op bB x y with
 |none=>rfl
 |some b=>cases b<;>rfl
@[simp]theorem ahP {fE:CmpOp}{fh:CE}{y:af}:Bl fE fh ρ y (some true) M=(fh ρ M).bind (bH (zB (cmp fE) y)):=id rfl
@[simp]theorem ahO {fE:CmpOp}{fh:CE}{y:af}:Bl fE fh ρ y (some false) M=.ret (.ok (.dat (.bl false)) M):=id rfl
@[simp]theorem alp:d8 ρ M=.ret (.ok (.nx ρ) M):=id rfl
@[simp]theorem als {f g:aQ}:aY f g ρ M=(f ρ M).bind (bH (jh g)):=id rfl
@[simp]theorem alx {g:aQ}:jh g (.nx ρ) M=g ρ M:=id rfl
def Qi (i:Nat)(ρ:List af):af->Ev ck:=λs=>ok (.nx (ρ.set i s))
@[simp]theorem ajt:Qi i ρ s M=.ret (.ok (.nx (ρ.set i s)) M):=id rfl
@[simp]theorem alu {f:CE}:c_ i f ρ M=(f ρ M).bind (bH (Qi i ρ)):=id rfl
def TZ (M:List ak):Option (List af)->T (Re ck)
 |some ρ=>.ret (.ok (.nx ρ) M)
 |none=>.bad
@[simp]theorem akB:TZ M (some ρ)=.ret (.ok (.nx ρ) M):=id rfl
def IJ (g:dz)(ρ:List af):af->Ev ck:=λs=>wY ((g s ρ).map .nx)
@[simp]theorem aju {g:dz}:IJ g ρ s M=TZ M (g s ρ):=by
 unfold IJ;cases g s ρ<;>rfl
@[simp]theorem alv {g:dz}{f:CE}:q6 g f ρ M=(f ρ M).bind (bH (IJ g ρ)):=id rfl
def Qh:af->Ev ck:=λs=>ok (.rt s)
@[simp]theorem ajq:Qh s M=.ret (.ok (.rt s) M):=id rfl
@[simp]theorem alr {f:CE}:bU f ρ M=(f ρ M).bind (bH Qh):=id rfl
def P0 (ρ:List af):af->Ev ck:=λ_=>ok (.nx ρ)
@[simp]theorem aja:P0 ρ s M=.ret (.ok (.nx ρ) M):=id rfl
@[simp]theorem alj {f:CE}:l5 f ρ M=(f ρ M).bind (bH (P0 ρ)):=id rfl
def Iw (f g:aQ)(ρ:List af):Bool->Ev ck:=λb=>if b then f ρ else g ρ
@[simp]theorem ajf {f g:aQ}{b:Bool}:Iw f g ρ b M=if b=true then f ρ M else g ρ M:=by unfold Iw;rw[Im]
@[simp]theorem alo {c:dB}{f g:aQ}:dF c f g ρ M=(c ρ M).bind (bH (Iw f g ρ)):=id rfl
def P4 (vs:List Nat):ck->Ev ck:=λr=>ok (B6 vs r)
@[simp]theorem ajb {vs:List Nat}{r:ck}:P4 vs r M=.ret (.ok (B6 vs r) M):=id rfl
@[simp]theorem alk {vs:List Nat}{f:aQ}:pA vs f ρ M=(f ρ M).bind (bH (P4 vs)):=id rfl
@[simp]theorem al6 {vs:List Nat}:B6 vs (.nx ρ)=.nx (gk ρ vs):=id rfl
@[simp]theorem alD:gk ρ []=ρ:=id rfl
@[simp]theorem alC {v:Nat}{vs:List Nat}:gk ρ (v::vs)=(gk ρ vs).set v .un:=id rfl
@[simp]theorem ali {b:aQ}:xh b ρ M=(b ρ M).bind (BD M.length):=id rfl
@[simp]theorem akN {n:Nat}:BD n (.ok (.nx ρ) M)=.ret (.ok (.nx ρ) (rW n ρ M)):=id rfl
@[simp]theorem agV {k:List af->Ev ck}:pV k (.nx ρ) M=k ρ M:=id rfl
@[simp]theorem agU {k:List af->Ev ck}:pV k (.ct ρ) M=k ρ M:=id rfl
@[simp]theorem agT {k:List af->Ev ck}:pV k (.bk ρ) M=.ret (.ok (.nx ρ) M):=id rfl
@[simp]theorem agW {k:List af->Ev ck}:pV k (.rt s) M=.ret (.ok (.rt s) M):=id rfl
def Om (g:dz)(b:aQ)(ρ:List af):Its->Ev ck
 | .data ds=>kL g b ds ρ
 | .live n item fin=>forL item fin g b n 0 ρ
@[simp]theorem aln {fi:iy}{g:dz}{b:aQ}:l6 fi g b ρ M=(fi ρ M).bind (bH (Om g b ρ)):=by
 unfold l6 Ev.bind;rfl
@[simp]theorem al7 {g:dz}{b:aQ}{ds:List D}:Om g b ρ (.data ds) M=kL g b ds ρ M:=id rfl
theorem agS {g:dz}{b:aQ}:kL g b [] ρ M=.ret (.ok (.nx ρ) M):=id rfl
theorem agR {g:dz}{b:aQ}{d:D}{ds:List D}(h:g (.dat d) ρ=some aT):kL g b (d::ds) ρ M=(b aT M).bind (bH (pV (kL g b ds))):=by
 rw[kL,h];rfl
def ags (I:List af->List ak->Prop)(Q:Re ck->Prop):Re ck->Prop
 | .ok (.nx ρ) M=>I ρ M
 | .ok (.ct ρ) M=>I ρ M
 | .ok (.bk ρ) M=>Q (.ok (.nx ρ) M)
 | .ok (.rt s) M=>Q (.ok (.rt s) M)
 | .ex c fs M=>Q (.ex c fs M)
theorem EJ {g:dz}{b:aQ}(I:List D->List af->List ak->Prop)
    (hs:∀d r ρ M,I (d::r) ρ M->∃aT,g (.dat d) ρ=some aT/\W (b aT M) (ags (I r) Q))
    (he:∀ρ M,I [] ρ M->Q (.ok (.nx ρ) M)):∀(ds:List D) (ρ:List af) (M:List ak),I ds ρ M->W (kL g b ds ρ M) Q
  |[],ρ,M,h=>by rw[agS,qq];exact he ρ M h
  |d::r,ρ,M,h=>by
    obtain⟨aT,e,w⟩:=hs d r ρ M h;rw[agR e,MG];refine VW (λx hx=>?_) w
    match x,hx with
    | .ok (.nx cC) ao,hx=>rw[lA,agV];exact EJ I hs he r cC ao hx
    | .ok (.ct cC) ao,hx=>rw[lA,agU];exact EJ I hs he r cC ao hx
    | .ok (.bk cC) ao,hx=>rw[lA,agT,qq];exact hx
    | .ok (.rt s) ao,hx=>rw[lA,agW,qq];exact hx
    | .ex c fs ao,hx=>rw[agY,qq];exact hx
@[simp]theorem al9 {i:Nat}:b7 i s ρ=some (ρ.set i s):=id rfl
def Ih:af->Ev Its
 | .dat (.int n)=>if -(2^62)<=n/\n<2^62 then ok (.data (rng 0 n.toNat))else bad
 |_=>bad
@[simp]theorem Uy {f:CE}:f_ f ρ M=(f ρ M).bind (bH Ih):=by
 unfold f_ Ev.bind;rfl
@[simp]theorem Ii {n:Int}(h0:-1000000<=n)(h1:n<=1000000):Ih (.dat (.int n)) M=.ret (.ok (.data (rng 0 n.toNat)) M):=by
 unfold Ih
 dsimp only
 rw[if_pos ⟨by omega,by omega⟩];rfl
def Ij (M:List ak):Option Its->T (Re Its)
 |some its=>.ret (.ok its M)
 |none=>.bad
def P9:af->Ev Its:=λs M=>Ij M (uy M s)
@[simp]theorem aje:P9 s M=Ij M (uy M s):=id rfl
@[simp]theorem alc {f:CE}:fQ f ρ M=(f ρ M).bind (bH P9):=by
 unfold fQ Ev.bind
 congr 1
@[simp]theorem aiX {its:Its}:Ij M (some its)=.ret (.ok its M):=id rfl
@[simp]theorem aj1 {ds:List D}:uy M (.dat (.lst ds))=some (.data ds):=id rfl
@[simp]theorem akP {F:aK}{fs:aH}:bR F fs ρ M=(fs ρ M).bind (bH F):=id rfl
end
@[simp]theorem xr:sizeLine=16777216:=by decide
section
variable{α β:Type}{M M1:List ak}{ρ aT:List af}{s s1:af}{i j k:Nat}{x y:Int}{u z:Str}{b c:Bool}{d e:D}{ds es:List D}{t:cH}
@[simp]theorem ahw {a:α}{Q:α->Prop}:W (.ret a) Q=Q a:=qq
def Qj (f:α->T β)(Q:β->Prop):α->Prop:=λa=>W (f a) Q
@[simp]theorem ajw {f:α->T β}{Q:β->Prop}{a:α}:Qj f Q a=W (f a) Q:=id rfl
@[simp]theorem ahv {t:T α}{f:α->T β}{Q:β->Prop}:W (t.bind f) Q=W t (Qj f Q):=propext MG
@[simp]theorem ahy:bin .Add M (.dat (.int x)) (.dat (.int y))=some (.dat (.int (x+y)),M):=id rfl
@[simp]theorem ahz:bin .Sub M (.dat (.int x)) (.dat (.int y))=some (.dat (.int (x-y)),M):=id rfl
@[simp]theorem MW (h:0<y):bin .Mod M (.dat (.int x)) (.dat (.int y))=some (.dat (.int (x%y)),M):=by
 show(if 0<y then some (af.dat (D.int (x%y)),M)else none)=_
 rw[if_pos h]
@[simp]theorem We (h:ds.length+es.length<=16777216):bin .Add M (.dat (.lst ds)) (.dat (.lst es))=some (.dat (.lst (ds++es)),M):=by
 show(if ds.length+es.length<=sizeLine then some (af.dat (D.lst (ds++es)),M)else none)=_
 rw[if_pos (by rw[xr];exact h)]
def Gr (M:List ak):Option Bool->Option (af×List ak)
 |some b=>some (.dat (.bl b),M)
 |none=>none
@[simp]theorem akM {op:CmpOp}{s s1:af}:cmp op M s s1=Gr M (fH op M s s1):=by
 unfold cmp Gr;cases fH op M s s1<;>rfl
@[simp]theorem ai6:Gr M (some b)=some (.dat (.bl b),M):=id rfl
@[simp]theorem aib:fH .LtE M (.dat (.int x)) (.dat (.int y))=some (decide (x<=y)):=id rfl
@[simp]theorem ai8:fH .Eq M (.dat (.int x)) (.dat (.int y))=some (decide (x=y)):=id rfl
@[simp]theorem ai9:fH .Eq M (.dat (.str u)) (.dat (.str z))=some (decide (u=z)):=id rfl
@[simp]theorem ai7:fH .Eq M (.dat (.bl b)) (.dat (.bl c))=some (b==c):=by cases b<;>cases c<;>rfl
@[simp]theorem aic:fH .NotEq M (.dat (.bl b)) (.dat (.bl c))=some (!(b==c)):=by cases b<;>cases c<;>rfl
@[simp]theorem aia:fH .Is M (.dat d) (.dat .non)=some (isNon d):=by cases d<;>rfl
@[simp]theorem aiZ:isNon (.int x)=false:=id rfl
@[simp]theorem aj0:isNon (.str u)=false:=id rfl
@[simp]theorem aiY:isNon (.bl b)=false:=id rfl
def wN (m:Bool)(ss:List af)(M:List ak):T (Re af):=if ss.length<=16777216 then(if m then .ret (.ok (.mu M.length) (M++[.lst ss]))else match iA M ss with
 |some (ds,ao)=>.ret (.ok (.dat (.lst ds)) ao)
 |none=>.bad)else .bad
@[simp]theorem akX {m:Bool}{f:aH}:fC m f ρ M=(f ρ M).bind (bH (wN m)):=by
 unfold fC Ev.bind
 congr 1;congr 1;funext ss M2
 unfold ofM wN
 dsimp only
 all_goals (
  rw[xr];by_cases h:ss.length<=16777216
  ·rw[if_pos h,if_pos h]
   cases m with
   |true=>rfl
   |false=>
    simp only[Bool.false_eq_true,if_false];cases iA M2 ss with
    |none=>rfl
    |some p=>rfl
  ·rw[if_neg h,if_neg h])
@[simp]theorem ajU {ss:List af}(h:ss.length<=16777216):wN true ss M=.ret (.ok (.mu M.length) (M++[.lst ss])):=by
 unfold wN;rw[if_pos h];rfl
def Rb:Option (List D×List ak)->T (Re af)
 |some (ds,ao)=>.ret (.ok (.dat (.lst ds)) ao)
 |none=>.bad
@[simp]theorem ajV:Rb (some (ds,M))=.ret (.ok (.dat (.lst ds)) M):=id rfl
@[simp]theorem ajT {ss:List af}(h:ss.length<=16777216):wN false ss M=Rb (iA M ss):=by
 unfold wN;rw[if_pos h];rfl
def Aq (M:List ak):Option (List D×List ak)->T (Re af)
 |some (ds,ao)=>if ds.length<=16777216 then .ret (.ok (.dat (.tup ds)) ao)else .bad
 |none=>.bad
def kTup:List af->Ev af:=λss M=>Aq M (iA M ss)
@[simp]theorem ajv {ss:List af}:kTup ss M=Aq M (iA M ss):=id rfl
@[simp]theorem al4 {f:aH}:dN f ρ M=(f ρ M).bind (bH kTup):=by
 unfold dN kTup Ev.bind
 congr 1;congr 1;funext ss M2
 unfold ofM Aq
 dsimp only
 all_goals (
  rw[xr];cases iA M2 ss with
  |none=>rfl
  |some p=>
   obtain⟨ds,ao⟩:=p
   dsimp only
   by_cases h:ds.length<=16777216
   ·rw[if_pos h,if_pos h]
   ·rw[if_neg h,if_neg h])
@[simp]theorem akH (h:ds.length<=16777216):Aq M (some (ds,M1))=.ret (.ok (.dat (.tup ds)) M1):=by
 unfold Aq;dsimp only;rw[if_pos h]
@[simp]theorem aiG:iA M []=some ([],M):=id rfl
def Ou (r:List af):Option (D×List ak)->Option (List D×List ak)
  |some (d,M1)=>match iA M1 r with
      |some (ds,M2)=>some (d::ds,M2)
      |none=>none
  |none=>none
@[simp]theorem aiF {r:List af}:iA M (s::r)=Ou r (jL M s):=by
 rw[iA];rfl
def Ov (d:D):Option (List D×List ak)->Option (List D×List ak)
 |some (ds,M2)=>some (d::ds,M2)
 |none=>none
@[simp]theorem aiE {r:List af}:Ou r (some (d,M))=Ov d (iA M r):=id rfl
@[simp]theorem aiD:Ov d (some (ds,M))=some (d::ds,M):=id rfl
@[simp]theorem Yk:jL M (.dat d)=some (d,M):=id rfl
def Ca (M:List ak)(j:Nat):Option ak->Option (D×List ak)
  |some m=>match oN M m with
      |some d=>some (d,M.set j (.fz (some d)))
      |none=>none
  |none=>none
@[simp]theorem aiC:jL M (.mu j)=Ca M j M[j]?:=by
 unfold jL Ca
 dsimp only
 all_goals (
  cases M[j]?<;>rfl)
def Hg (M:List ak)(j:Nat):Option D->Option (D×List ak)
 |some d=>some (d,M.set j (.fz (some d)))
 |none=>none
@[simp]theorem aiA {m:ak}:Ca M j (some m)=Hg M j (oN M m):=by
 unfold Ca Hg
 dsimp only
@[simp]theorem aiB:Hg M j (some d)=some (d,M.set j (.fz (some d))):=id rfl
@[simp]theorem aiI {xs:List af}:oN M (.lst xs)=(rZ M xs).map .lst:=id rfl
@[simp]theorem aiH {c:Nat}{xs:List (Str×af)}:oN M (.ins c xs)=(kI M xs).map (.ins c):=id rfl
@[simp]theorem Xm:yG M (.dat d)=some d:=id rfl
@[simp]theorem ajE:lenOf M (.dat (.lst ds))=some ds.length:=id rfl
def CU (t:cH)(s:af)(M:List ak):Option Nat->T (Re af)
  |some n=>if n<=16777216 then .ret (.ok (.dat (.int (n:Nat))) M)else .bad
  |none=>match clsAt M s with
      |some c=>match t.lookup c with
        |some F=>(F [s] M).bind Gf
        |none=>.bad
      |none=>.bad
@[simp]theorem ald:eH t [s] M=CU t s M (lenOf M s):=by
 unfold eH CU
 dsimp only
 all_goals (
  rw[xr]
  all_goals (cases lenOf M s<;>rfl))
@[simp]theorem ajD {n:Nat}(h:n<=16777216):CU t s M (some n)=.ret (.ok (.dat (.int (n:Nat))) M):=by
 unfold CU;dsimp only;rw[if_pos h]
@[simp]theorem alh {g:List ak->List af->Option (af×List ak)}{ss:List af}:pu g ss M=nN (g M ss):=by
 rw[pu,AA]
@[simp]theorem ajZ:eX false M ds=(.dat (.lst ds),M):=id rfl
def G3 (f:Str)(cs:List Nat)(M:List ak)(s:af):Option Nat->Option (af×List ak)
 |some c=>if cs.contains c then v7 f M s else none
 |none=>none
def P5 (f:Str)(cs:List Nat):af->Ev af:=λs M=>nN (G3 f cs M s (clsAt M s))
@[simp]theorem ajd {f:Str}{cs:List Nat}:P5 f cs s M=nN (G3 f cs M s (clsAt M s)):=id rfl
@[simp]theorem aiv {f:Str}{cs:List Nat}{c:Nat}:G3 f cs M s (some c)=if cs.contains c=true then v7 f M s else none:=id rfl
@[simp]theorem akU {f:Str}{cs:List Nat}{aJ:CE}:iK f cs aJ ρ M=(aJ ρ M).bind (bH (P5 f cs)):=by
 rw[iK,rq];rfl
def JI (t:cH)(o:af)(M:List ak):Option Nat->T (Re af)
 |some c=>match t.lookup c with
  |some F=>(F [o] M).bind iD
  |none=>.bad
 |none=>.bad
def IE (t:cH):af->Ev af:=λo M=>JI t o M (clsAt M o)
@[simp]theorem ajp:IE t s M=JI t s M (clsAt M s):=id rfl
@[simp]theorem al3 {aJ:CE}:oG t aJ ρ M=(aJ ρ M).bind (bH (IE t)):=by
 unfold oG IE Ev.bind
 congr 1
@[simp]theorem ai2 {c:Nat}{fs:List (Str×D)}:clsAt M (.dat (.ins c fs))=some c:=id rfl
def uA (fz:Bool)(c:Nat)(F:aK):List af->Ev af:=λss M=>(F (.mu M.length::ss) (M++[.ins c []])).bind (sy fz M.length)
@[simp]theorem kMak_r {fz:Bool}{c:Nat}{F:aK}{ss:List af}:uA fz c F ss M=(F (.mu M.length::ss) (M++[.ins c []])).bind (sy fz M.length):=id rfl
@[simp]theorem akY {fz:Bool}{c:Nat}{F:aK}{fs:aH}:t6 fz c F fs ρ M=(fs ρ M).bind (bH (uA fz c F)):=by rw[t6,rq];rfl
end
section
variable{α β:Type}{M M1 M2:List ak}{ρ aT:List af}{s s1:af}{i j k n:Nat}{x y:Int}{u z:Str}{b c:Bool}{d e:D}{ds es:List D}{t:cH}
def CQ (m:Bool)(g:dz)(t:dB)(e:CE)(ρ:List af)(its:Its):Ev af:=if its.n<16777216 then Ev.bind (gH its (jv g t e ρ) 0) λds=>ofM λM=>some (eX m M ds)else bad
@[simp]theorem Lg {m:Bool}{own:List Nat}{fi:iy}{g:dz}{t:dB}{e:CE}:fO m own fi g t e ρ M=(fi ρ M).bind (bH (CQ m g t e (gk ρ own))):=by
 unfold fO CQ;rw[rq,xr]
def P_ (m:Bool):List D->Ev af:=λds M=>nN (some (eX m M ds))
@[simp]theorem ajg {m:Bool}:P_ m ds M=nN (some (eX m M ds)):=id rfl
@[simp]theorem IY {m:Bool}{g:dz}{t:dB}{e:CE}(h:ds.length<16777216):CQ m g t e ρ (.data ds) M=(oA (jv g t e ρ) ds M).bind (bH (P_ m)):=by
 unfold CQ;rw[if_pos (show(Its.data ds).n<16777216 from h),rq];rfl
theorem Gq {turn:af->Ev (List D)}{f h:α->D}:∀{xs:List α},(∀x∈xs,turn (.dat (f x)) M=.ret (.ok [h x] M))->oA turn (xs.map f) M=.ret (.ok (xs.map h) M)
 |[],_=>rfl
 |x::r,q=>by
  rw[List.map_cons,oA,rq,q x List.mem_cons_self,gA,lA,rq,Gq λy hy=>q y (List.mem_cons_of_mem _ hy)];rfl
theorem Gp {turn:af->Ev (List D)}{f h:α->D}{p:α->Bool}:∀{xs:List α},(∀x∈xs,turn (.dat (f x)) M=.ret (.ok (if p x then[h x]else[]) M))->oA turn (xs.map f) M=.ret (.ok ((xs.filter p).map h) M)
 |[],_=>rfl
 |x::r,q=>by
  rw[List.map_cons,oA,rq,q x List.mem_cons_self,gA,lA,rq,Gp λy hy=>q y (List.mem_cons_of_mem _ hy)];cases e:p x with
  |true=>rw[List.filter_cons_of_pos e];rfl
  |false=>rw[List.filter_cons_of_neg (by rw[e];decide)];rfl
def Jw (t:dB)(e:CE):Option (List af)->Ev (List D)
 |some aT=>Ev.bind (fk (t aT)) λk=>if k then Ev.bind (fk (Ev.bind (e aT) frz)) λd=>ok [d]else ok []
 |none=>bad
@[simp]theorem alg {g:dz}{t:dB}{e:CE}:jv g t e ρ s M=Jw t e (g s ρ) M:=by
 unfold jv Jw;cases g s ρ<;>rfl
def IC:D->Ev (List D):=λd=>ok [d]
def IB (e:CE)(ρ:List af):Bool->Ev (List D):=λk=>if k then Ev.bind (fk (Ev.bind (e ρ) frz)) IC else ok []
@[simp]theorem ajm:IC d M=.ret (.ok [d] M):=id rfl
@[simp]theorem ajn {e:CE}:IB e ρ b M=if b=true then(((e ρ M).bind (bH frz)).bind iD).bind (bH IC)else .ret (.ok [] M):=by unfold IB;rw[Im];rfl
@[simp]theorem akg {t:dB}{e:CE}:Jw t e (some ρ) M=((t ρ M).bind iD).bind (bH (IB e ρ)):=by
 show(Ev.bind (fk (t ρ)) _) M=_
 rw[rq];rfl
@[simp]theorem alB:fW ρ M=.ret (.ok true M):=id rfl
@[simp]theorem al8:frz s M=nN (jL M s):=by rw[frz,AA]
@[simp]theorem aiJ {n:Nat}{f:List D->List af->Option (List af)}(h:ds.length=n):lK n f (.dat (.tup ds)) ρ=f ds ρ:=by
 show(if ds.length=n then f ds ρ else none)=_
 rw[if_pos h]
@[simp]theorem alb:mJ [] ρ=some ρ:=id rfl
def Ht (g:List D->List af->Option (List af))(ds:List D):Option (List af)->Option (List af)
 |some aT=>g ds aT
 |none=>none
@[simp]theorem ala {f:dz}{g:List D->List af->Option (List af)}:gx f g (d::ds) ρ=Ht g ds (f (.dat d) ρ):=by
 unfold gx Ht
 dsimp only
 all_goals (cases f (.dat d) ρ<;>rfl)
@[simp]theorem aiO {g:List D->List af->Option (List af)}:Ht g ds (some ρ)=g ds ρ:=id rfl
theorem lI {m:Bool}{np n:Nat}{b:aQ}{ss:List af}(h:ss.length=np):aX m np n b ss M=(b (ss++List.replicate (n-np) .un) M).bind (o_ m M.length):=by
 unfold aX;rw[if_pos h]
@[simp]theorem uT {m:Bool}:o_ m n (.ok (.rt (.dat d)) M)=.ret (.ok (.dat d) (cut n M)):=id rfl
@[simp]theorem adg {m:Bool}:o_ m n (.ok (.nx ρ) M)=.ret (.ok (.dat .non) (cut n M)):=id rfl
@[simp]theorem zX {m:Bool}{c:Nat}{fs:List (Str×D)}:o_ m n (.ex c fs M)=.ret (.ex c fs (cut n M)):=id rfl
def I9 (n:Nat):Option (D×List ak)->T (Re af)
 |some (d,M2)=>.ret (.ok (.dat d) (cut n M2))
 |none=>.bad
@[simp]theorem ajY:I9 n (some (d,M))=.ret (.ok (.dat d) (cut n M)):=id rfl
@[simp]theorem ajX:sy true n (.ok (.dat .non) M)=I9 n (jL M (.mu n)):=by
 unfold sy I9;simp only[if_true]
 all_goals (cases jL M (.mu n)<;>rfl)
@[simp]theorem ajW {fz:Bool}{c:Nat}{fs:List (Str×D)}:sy fz n (.ex c fs M)=.ret (.ex c fs (cut n M)):=id rfl
@[simp]theorem aie:rW n ρ M=if ρ.all (iJ n)=true then cut n M else M:=by unfold rW;rfl
@[simp]theorem ahQ:iJ n (.dat d)=true:=id rfl
@[simp]theorem ahS:iJ n .un=true:=id rfl
@[simp]theorem ahR:iJ n (.mu j)=decide (j<n):=id rfl
@[simp]theorem Xd {xs:List ak}(h:Cl M):cut M.length (M++xs)=M:=Xe h
end
section
variable{M:List ak}{ρ:List af}
@[simp]theorem insAt_board {m:Str}{k:Int}{rows:List (Int×Str)}:qM M m (.dat (Wk k rows))=if((M4 k rows).lookup m).isNone then some 0 else none:=id rfl
end
def sf (p:Int×Int):D:=.tup [.int p.1,.int p.2]
def zE (i:Nat)(z:Str):List (Int×Int):=((List.range z.length).filter λc=>decide (z.cps.toList[c]?≠some 46)).map λc:Nat=>((i:Int),(c:Int))
def dZ:Nat->List (Int×Str)->List (Int×Int)
 |_,[]=>[]
 |i,r::rows=>zE i r.2++dZ (i+1) rows
section
variable{M:List ak}{t:cH}{lk:aK}
theorem abj {d:D}(h:good 0 d=true):aX false 2 3 (jZ lk t) [.dat d,.dat d] M=.ret (.ok (.dat (.bl true)) M):=by
 have key:jZ lk t [.dat d,.dat d,.un] M=.ret (.ok (.rt (.dat (.bl true))) M):=by
  cases d with
  |non=>rfl
  |bl b=>
   have i1:∀b,isB (.bl b) ["list","tuple"] false:=λb M=>rfl
   have fP:∀b,isB (.bl b) ["bool"] true:=λb M=>rfl
   have kU:∀b,isB (.bl b) ["int"] true:=λb M=>rfl
   have oW:∀b,isB (.bl b) ["str"] false:=λb M=>rfl
   simp[jZ,i1 b M,fP b M,kU b M,oW b M]
  |int i=>
   have i1:isB (.int i) ["list","tuple"] false:=λM=>rfl
   have fP:isB (.int i) ["bool"] false:=λM=>rfl
   have kU:isB (.int i) ["int"] true:=λM=>rfl
   have oW:isB (.int i) ["str"] false:=λM=>rfl
   simp[jZ,i1 M,fP M,kU M,oW M]
  |str z=>
   have i1:isB (.str z) ["list","tuple"] false:=λM=>rfl
   have fP:isB (.str z) ["bool"] false:=λM=>rfl
   have kU:isB (.str z) ["int"] false:=λM=>rfl
   have oW:isB (.str z) ["str"] true:=λM=>rfl
   simp[jZ,i1 M,fP M,kU M,oW M]
  |_=>cases h
 rw[lI (by rfl)];show(jZ lk t [.dat d,.dat d,.un] M).bind _=_
 rw[key,gA,uT,fN rfl]
theorem Q5 {L:Nat->aK}{tt:Nat->cH}(hL:∀n,L (n+1)=aX false 2 3 (jZ (L n) (tt n))):∀(k n:Nat) (d:D),k<=n->good k d=true->L (n+1) [.dat d,.dat d] M=.ret (.ok (.dat (.bl true)) M)
 |0,n,d,_,h=>by rw[hL];exact abj h
 |k+1,0,d,hk,h=>by omega
 |k+1,n+1,d,hk,h=>by
  rw[hL];exact abl (k:=k) (λd hd=>Q5 hL k n d (by omega) hd) h
end
theorem VU {m:Bool}{np n:Nat}{b:aQ}{ss:List af}{M:List ak}{Q:Re af->Prop}(e:ss.length=np)(h:W (b (ss++List.replicate (n-np) .un) M) λr=>W (o_ m M.length r) Q):W (aX m np n b ss M) Q:=VT e h
section
variable{α β:Type}{M M1:List ak}{ρ:List af}{s:af}{i j n c:Nat}{d:D}{ds ws:List D}{fs:List (Str×D)}{F:aK}{cR:nZ}{code fld f:Str}{x y:Int}
@[simp]theorem alq {qz:CE}:uU c code fld qz ρ M=(aq qz aB ρ M).bind (bH (BW c code fld)):=id rfl
@[simp]theorem ais:BW c code fld [.dat d] M=.ret (.ex c [(fld,d),("code",.str code)] M):=id rfl
@[simp]theorem alw {bS fs:aQ}{cat:Nat->Option Bool}:DA bS n i cat fs ρ M=(bS ρ M).bind (yt n i cat fs):=id rfl
def F_ (n i:Nat)(fs:aQ)(c:Nat)(es:List (Str×D))(M:List ak):Option Bool->T (Re ck)
 |some true=>(fs ((List.replicate n .un).set i (.dat (.exc c es))) M).bind (Dg i)
 |some false=>.ret (.ex c es M)
 |none=>.bad
@[simp]theorem ahK {cat:Nat->Option Bool}{es:aQ}:yt n i cat es (.ex c fs M)=F_ n i es c fs M (cat c):=by
 unfold yt F_
 dsimp only
 all_goals (
  cases cat c with
  |none=>rfl
  |some b=>cases b<;>rfl)
@[simp]theorem ahJ {es:aQ}:F_ n i es c fs M (some true)=(es ((List.replicate n .un).set i (.dat (.exc c fs))) M).bind (Dg i):=id rfl
@[simp]theorem ahL {l:List (Nat×Bool)}:yu l c=l.lookup c:=id rfl
@[simp]theorem akf:Dg i (.ok (.rt s) M)=if(gW s&&M.all fR)=true then .ret (.ok (.rt s) M)else .bad:=id rfl
def F7:Option gD->List D->List ak->T (Re af)
 |some F,ws,M=>F ws M
 |none,_,_=>.bad
@[simp]theorem akS {tb:qo}{aJ:CE}:BK tb aJ ρ M=(aJ ρ M).bind (bH (yr tb)):=id rfl
@[simp]theorem ahC {tb:qo}:yr tb (.dat (.cL i ws)) M=F7 (tb i) ws M:=by
 unfold yr F7
 dsimp only
 all_goals (cases tb i<;>rfl)
def QU (C:Nat->aK)(j:Nat):gD:=λws=>C j (ws.map .dat)
@[simp]theorem aaF {C:Nat->aK}{m:Nat}(h:i<m):wG C n m i=some (QU C (n+i)):=by unfold wG QU;rw[if_pos h]
@[simp]theorem ahB {F:gD}:F7 (some F) ws M=F ws M:=id rfl
@[simp]theorem ajB {t:eo}{b:CE}{ss:List af}:j9 t b ss M=uI t b (rY ss) M:=id rfl
@[simp]theorem ail:rY []=[]:=id rfl
@[simp]theorem aik {r:List af}:rY (.dat d::r)=d::rY r:=id rfl
@[simp]theorem ak0 {t:eo}{b:CE}:uI t b ws M=if(iR ws&&M.all fR)=true then(b (oZ t ws) M).bind (CN M.length)else .bad:=id rfl
@[simp]theorem ajC:CN n (.ex c fs M)=.ret (.ex c fs (cut n M)):=id rfl
@[simp]theorem ak3:fj (.int x)=true:=id rfl
@[simp]theorem ak5 {z:Str}:fj (.str z)=true:=id rfl
@[simp]theorem ak4:fj (.lst ds)=iR ds:=id rfl
@[simp]theorem ak6:fj (.tup ds)=iR ds:=id rfl
@[simp]theorem ak8:iR []=true:=id rfl
@[simp]theorem ak7:iR (d::ds)=(fj d&&iR ds):=id rfl
@[simp]theorem ak9:gW (.dat d)=fj d:=id rfl
def BL (di i:Nat)(M:List ak):Option ak->T (Re af)
 |some (.tab j)=>if j=di then .ret (.ok (.dat (.lam i)) M)else .bad
 |_=>.bad
@[simp]theorem akW {di:Nat}:jr di i ρ M=BL di i M M[di]?:=by
 unfold jr BL;cases M[di]? with
 |none=>rfl
 |some m=>cases m<;>rfl
@[simp]theorem ain {di:Nat}:BL di i M (some (.tab di))=.ret (.ok (.dat (.lam i)) M):=by unfold BL;dsimp only;rw[if_pos rfl]
def Gm (F:aK):Option (D×List ak)->T (Re af)
 |some (d,M)=>(F [.dat d] M).bind vP
 |none=>.bad
@[simp]theorem akQ {aJ:CE}:BJ cR F aJ ρ M=(aJ ρ M).bind (bH (yx cR ρ F)):=id rfl
@[simp]theorem ai5:yx cR ρ F (.dat d) M=Gm F (clo cR ρ M d):=by
 unfold yx Gm;rw[Yk]
 all_goals (try dsimp only)
 all_goals (cases clo cR ρ M d<;>rfl)
@[simp]theorem ai4:Gm F (some (d,M))=(F [.dat d] M).bind vP:=id rfl
@[simp]theorem ai0:clo cR ρ M (.lst ds)=(j4 cR ρ ds M).map λp=>(.lst p.1,p.2):=id rfl
@[simp]theorem ahZ:j4 cR ρ [] M=some ([],M):=by rw[j4]
def Gk (cR:nZ)(ρ:List af)(r:List D):Option (D×List ak)->Option (List D×List ak)
 |some (d,M1)=>(j4 cR ρ r M1).map λp=>(d::p.1,p.2)
 |none=>none
@[simp]theorem ahY:j4 cR ρ (.lam i::ds) M=Gk cR ρ ds (rT cR ρ i M):=by
 rw[j4];unfold Gk;cases rT cR ρ i M<;>rfl
@[simp]theorem ahX:Gk cR ρ ds (some (d,M))=(j4 cR ρ ds M).map λp=>(d::p.1,p.2):=id rfl
def Bs (i:Nat):Option (List D×List ak)->Option (D×List ak)
 |some (ds,M1)=>if iR ds then some (.cL i ds,M1)else none
 |none=>none
def Bt (i:Nat)(M:List ak):Option (List af)->Option (D×List ak)
 |some ss=>Bs i (iA M ss)
 |none=>none
def Gj (ρ:List af)(i:Nat)(M:List ak):Option (List Nat)->Option (D×List ak)
 |some dH=>Bt i M (nC ρ dH)
 |none=>none
@[simp]theorem ahT:rT cR ρ i M=Gj ρ i M (cR i):=by
 unfold rT Gj Bt Bs;cases cR i with
 |none=>rfl
 |some dH=>
  dsimp only
  all_goals (
   cases nC ρ dH with
   |none=>rfl
   |some ss=>
    all_goals (try dsimp only)
    all_goals (cases iA M ss<;>rfl))
@[simp]theorem ahU {dH:List Nat}:Gj ρ i M (some dH)=Bt i M (nC ρ dH):=id rfl
@[simp]theorem ahW {ss:List af}:Bt i M (some ss)=Bs i (iA M ss):=id rfl
@[simp]theorem ahV:Bs i (some (ds,M))=if iR ds=true then some (.cL i ds,M)else none:=id rfl
def Ho (o:Option (List af)):Option af->Option (List af)
 |some .un=>none
 |some s=>o.map (s::·)
 |none=>none
@[simp]theorem aiN:nC ρ []=some []:=id rfl
@[simp]theorem aiM {dH:List Nat}:nC ρ (j::dH)=Ho (nC ρ dH) ρ[j]?:=by
 rw[nC];unfold Ho;cases ρ[j]? with
 |none=>rfl
 |some s=>cases s<;>rfl
@[simp]theorem aiL {o:Option (List af)}:Ho o (some (.dat d))=o.map (.dat d::·):=id rfl
@[simp]theorem ahN:vP (.ok s M)=if(gW s&&M.all fR)=true then .ret (.ok s M)else .bad:=id rfl
def G4 (M:List ak):Option af->T (Re af)
 |some s=>.ret (.ok s M)
 |none=>.bad
def Iv (f:Str)(cs:List Nat):af->Ev af:=λs M=>G4 M (v8 f cs s)
@[simp]theorem ajc {cs:List Nat}:Iv f cs s M=G4 M (v8 f cs s):=id rfl
@[simp]theorem akV {cs:List Nat}{aJ:CE}:kJ f cs aJ ρ M=(aJ ρ M).bind (bH (Iv f cs)):=by
 unfold kJ Iv Ev.bind
 congr 1;congr 1;funext s M2
 cases v8 f cs s<;>rfl
@[simp]theorem aiw:G4 M (some s)=.ret (.ok s M):=id rfl
@[simp]theorem aix {cs:List Nat}:v8 f cs (.dat (.exc c fs))=if cs.contains c=true then(fs.lookup f).map .dat else none:=id rfl
def Iq (F:aK)(pm:List Nat)(ss:List af):List af->Ev af:=λzs M=>if zs.length=pm.length then F (ss++gh pm zs) M else .bad
@[simp]theorem aj6 {pm:List Nat}{ss zs:List af}:Iq F pm ss zs M=if zs.length=pm.length then F (ss++gh pm zs) M else .bad:=id rfl
def PY (F:aK)(pm:List Nat)(b_:aH)(ρ:List af):List af->Ev af:=λss=>(b_ ρ).bind (Iq F pm ss)
@[simp]theorem aj7 {pm:List Nat}{ss:List af}{b_:aH}:PY F pm b_ ρ ss M=(b_ ρ M).bind (bH (Iq F pm ss)):=id rfl
@[simp]theorem akR {pm:List Nat}{fs b_:aH}:vU F pm fs b_ ρ M=(fs ρ M).bind (bH (PY F pm b_ ρ)):=id rfl
def Bb (tb:qo)(cat:List (Nat×Bool))(cs:List Nat)(s_:aK):aQ:=DA (bU (dN (aq (λ_=>ok (.dat (.str ""))) (aq (BK tb (ah 0)) aB)))) 2 1 (yu cat) (bU (ay (bin .Add) (dN (aq (kJ "code" cs (ah 1)) aB)) (bR s_ (aq (ah 1) aB))))
theorem ag6 {tb:qo}{cat:List (Nat×Bool)}{cs:List Nat}{s_:aK}{es:List D}{F:gD}(ht:tb i=some F)(h:F ws M=.ret (.ex c fs M))(hc:cat.lookup c=some true)(hs:cs.contains c=true)(hl:fs.lookup ("code":Str)=some (.str code))(hf:s_ [.dat (.exc c fs)] M=.ret (.ok (.dat (.tup es)) M))
    (h1:iR es=true) (h2:M.all fR=true) (h3:es.length<=1000):aX false 1 2 (Bb tb cat cs s_) [.dat (.cL i ws)] M=.ret (.ok (.dat (.tup (.str code::es))) M):=by
  rw[lI (by rfl)];have key:Bb tb cat cs s_ [.dat (.cL i ws),.un] M=.ret (.ok (.rt (.dat (.tup (.str code::es)))) M):=by
    unfold Bb;have pZ:c∈cs:=by simpa using hs
    have hb:bin .Add M (.dat (.tup [R.D.str code])) (.dat (.tup es))=some (af.dat (R.D.tup (R.D.str code::es)),M):=by
      show(if _ then some (af.dat (R.D.tup ([R.D.str code]++es)),M)else none)=_
      rw[if_pos (by rw[xr];simp only[List.length_cons,List.length_nil];omega)];rfl
    simp[ht,h,hc,pZ,hl,hf,h1,h2,hb]
  show(Bb tb cat cs s_ [.dat (.cL i ws),.un] M).bind _=_
  rw[key,gA,uT,fN rfl]
def jY (c:Nat):aQ:=dF (tNot (bZ (tW .LtE .LtE (ah 1) (ah 0) (ah 2)))) (uU c "BadNumber" "given" (ah 0)) d8
def ir (x:Int):List (Str×D):=[("given",.int x),("code",.str "BadNumber")]
theorem rS {lo hi:Int}:aX false 3 3 (jY c) [.dat (.int x),.dat (.int lo),.dat (.int hi)] M=if lo<=x/\x<=hi then .ret (.ok (.dat .non) M)else .ret (.ex c (ir x) M):=by
 rw[lI (by rfl)];have key:jY c [.dat (.int x),.dat (.int lo),.dat (.int hi)] M=if lo<=x/\x<=hi then .ret (.ok (.nx [.dat (.int x),.dat (.int lo),.dat (.int hi)]) M)else .ret (.ex c (ir x) M):=by
  unfold jY ir;by_cases h1:lo<=x
  ·by_cases h2:x<=hi
   ·simp[h1,h2]
   ·simp[h1,h2]
  ·simp[h1]
 show(jY c [.dat (.int x),.dat (.int lo),.dat (.int hi)] M).bind _=_
 rw[key];split
 ·rw[gA,adg,fN rfl]
 ·rw[gA,zX,fN rfl]
end
section
variable{α β:Type}{M M1:List ak}{ρ:List af}{s v:af}{i j n c:Nat}{d:D}{ds ws:List D}{fs:List (Str×af)}{F:aK}{code fld f g:Str}{x y a b:Int}{cs:List Nat}
def stK (ρ:List af):Option (List ak)->T (Re ck)
 |some M=>.ret (.ok (.nx ρ) M)
 |none=>.bad
@[simp]theorem akw:stK ρ (some M)=.ret (.ok (.nx ρ) M):=id rfl
def CI (f:Str)(cs:List Nat)(ρ:List af)(v:af):af->Ev ck:=λo M=>stK ρ (sQ f cs M v o)
def IG (f:Str)(cs:List Nat)(lJ:CE)(ρ:List af):af->Ev ck:=λv=>(lJ ρ).bind (CI f cs ρ v)
@[simp]theorem ajs {o:af}:CI f cs ρ v o M=stK ρ (sQ f cs M v o):=id rfl
@[simp]theorem ajr {lJ:CE}:IG f cs lJ ρ v M=(lJ ρ M).bind (bH (CI f cs ρ v)):=id rfl
@[simp]theorem alm {kO lJ:CE}:sFld f cs kO lJ ρ M=(kO ρ M).bind (bH (IG f cs lJ ρ)):=by
 unfold sFld IG CI Ev.bind
 congr 1;congr 1;funext v M2;congr 1;congr 1;funext o bB
 unfold ofM
 dsimp only
 cases sQ f cs bB v o<;>rfl
def KN (f:Str)(cs:List Nat)(M:List ak)(v:af)(j:Nat):Option ak->Option (List ak)
 |some (.ins c fs)=>if(cs.contains c&&decide (fs.length<1000))=true then some (M.set j (.ins c (putS f v fs)))else none
 |_=>none
@[simp]theorem akv:sQ f cs M v (.mu j)=KN f cs M v j M[j]?:=by
 unfold sQ KN
 dsimp only
 all_goals (
  cases M[j]? with
  |none=>rfl
  |some m=>cases m<;>rfl)
@[simp]theorem aku:KN f cs M v j (some (.ins c fs))=if(cs.contains c&&decide (fs.length<1000))=true then some (M.set j (.ins c (putS f v fs)))else none:=id rfl
@[simp]theorem akm:putS f v []=[(f,v)]:=id rfl
theorem putS_ne (h:g≠f):putS f v ((g,s)::fs)=(g,s)::putS f v fs:=by rw[putS,if_neg h]
@[simp]theorem aif {m:ak}:cut (M.length+1) (M++[m])=M++[m]:=fN (by simp)
@[simp]theorem aij:kI M ([]:List (Str×af))=some []:=id rfl
@[simp]theorem aii:kI M ((f,.dat d)::fs)=(kI M fs).map ((f,d)::·):=by
 rw[kI];rw[Xm];cases kI M fs<;>rfl
def Fo (F:aK):aQ:=(aY (l5 (bR F (aq (ah 1) (aq (λ_=>ok (.dat (.int 0))) (aq (λ_=>ok (.dat (.int 6))) aB)))))
  (aY (l5 (bR F (aq (ah 2) (aq (ay (bin .Add) (ah 1) (λ_=>ok (.dat (.int 1)))) (aq (λ_=>ok (.dat (.int 12))) aB)))))
  (aY (sFld "own_bounce" [1] (ah 1) (ah 0))
  (aY (sFld "own_hold" [1] (ah 2) (ah 0))
  (sFld "own_pair" [1] (dN (aq (ah 1) (aq (ah 2) aB))) (ah 0))))))
def Wm (a b:Int):List (Str×D):=[("own_bounce",.int a),("own_hold",.int b),("own_pair",.tup [.int a,.int b])]
def FU (a b:Int):D:=.ins 1 (Wm a b)
theorem abI (h:Cl M):uA true 1 (aX false 3 3 (Fo (aX false 3 3 (jY c)))) [.dat (.int a),.dat (.int b)] M=if 0<=a/\a<=6 then if a+1<=b/\b<=12 then .ret (.ok (.dat (FU a b)) M)else .ret (.ex c (ir b) M)else .ret (.ex c (ir a) M):=by
 have e1:("own_bounce":Str)≠"own_hold":=by decide
 have e2:("own_bounce":Str)≠"own_pair":=by decide
 have e3:("own_hold":Str)≠"own_pair":=by decide
 rw[kMak_r,lI (by rfl)];have Gh:∀m,cut M.length (M++[m])=M:=λm=>Xd h
 unfold Fo;by_cases h1:0<=a/\a<=6
 ·by_cases h2:a+1<=b/\b<=12
  ·simp[rS,h1,h2,putS_ne e1,putS_ne e2,putS_ne e3,Gh]
   rfl
  ·simp[rS,h1,h2,Gh]
 ·simp[rS,h1,Gh]
@[simp]theorem ai1:clsAt M (.dat (FU a b))=some 1:=rfl
theorem X7 {d:D}{c:Nat}{fs:List (Str×D)}(e:fs.lookup f=some d)(hc:cs.contains c=true):aX false 1 1 (bU (iK f cs (ah 0))) [.dat (.ins c fs)] M=.ret (.ok (.dat d) M):=by
 rw[lI (by rfl)];have key:bU (iK f cs (ah 0)) [.dat (.ins c fs)] M=.ret (.ok (.rt (.dat d)) M):=by
  have e1:v7 f M (.dat (.ins c fs))=some (.dat d,M):=by
   show(fs.lookup f).map _=_
   rw[e];rfl
  have i_:c∈cs:=by simpa using hc
  simp[e1,i_]
 show(bU (iK f cs (ah 0)) [.dat (.ins c fs)] M).bind _=_
 rw[key,gA,uT,fN rfl]
end
def ji (d e:D):Bool:=PyData.eqv (py d) (py e)
def nS (d e:List D):Bool:=PyData.eqvAll (eu d) (eu e)
section
variable{M:List ak}{a b:Int}{u z:Str}{p q:Bool}{d e:D}{ds es:List D}{n:Nat}
@[simp]theorem akq:ji (.int a) (.int b)=decide (a=b):=by unfold ji;rfl
@[simp]theorem akr:ji (.str u) (.str z)=decide (u=z):=by
 unfold ji;show(u==z)=_
 by_cases h:u=z
 ·subst h;simp
 ·simp[h]
@[simp]theorem aks:ji (.tup ds) (.tup es)=nS ds es:=by unfold ji nS;rfl
@[simp]theorem afi:ji (.lst ds) (.lst es)=nS ds es:=by unfold ji nS;rfl
@[simp]theorem akt:nS [] []=true:=by unfold nS;rfl
@[simp]theorem Tr:nS (d::ds) (e::es)=(ji d e&&nS ds es):=by unfold nS ji;rfl
@[simp]theorem akj:plain n (.int a)=true:=by unfold plain;rfl
@[simp]theorem akk:plain n (.str u)=PyData.strOk u:=by unfold plain;rfl
@[simp]theorem akl:plain (n+1) (.tup ds)=e_ n ds:=by rw[plain]
@[simp]theorem Sh:plain (n+1) (.lst ds)=e_ n ds:=by rw[plain]
@[simp]theorem acY:e_ n []=true:=by rw[e_]
@[simp]theorem acX:e_ n (d::ds)=(plain n d&&e_ n ds):=by rw[e_]
def ua (d e:D):Option Bool:=if(plain 58 d&&plain 58 e)=true then some (ji d e)else none
theorem XH (h1:plain 58 d=true)(h2:plain 58 e=true):ua d e=some (ji d e):=by unfold ua;rw[h1,h2];rfl
@[simp]theorem W8:fH .Eq M (.dat (.lst ds)) (.dat (.lst es))=ua (.lst ds) (.lst es):=by unfold ua ji;rfl
@[simp]theorem W_:fH .NotEq M (.dat (.lst ds)) (.dat (.lst es))=(ua (.lst ds) (.lst es)).map (!·):=by
 show(if _ then some (!_)else none)=_
 unfold ua ji;split<;>rfl
@[simp]theorem N6 (h1:e_ 57 ds=true)(h2:e_ 57 es=true):ua (.lst ds) (.lst es)=some (nS ds es):=by
 rw[XH (by rw[Sh];exact h1) (by rw[Sh];exact h2),afi]
end
section
variable{M:List ak}{j:Nat}{n:Int}
theorem BH {Q:Re af->Prop}(hj:M[j]?=some .hand)(h1:0<n)(h2:n<1073741824)(h:∀d,0<=d->d<n->Q (.ok (.dat (.int d)) M)):W (mV [.mu j,.dat (.int n)] M) Q:=by
 unfold mV;simp only[hj];rw[if_pos ⟨h1,h2⟩,VS];intro d a b;rw[qq];exact h d a b
theorem abk {tt:Nat->cH}{L:Nat->aK}(hL:∀n,L (n+1)=aX false 2 3 (jZ (L n) (tt n))){k n:Nat}{d:D}(hk:k<=n)(g:good k d=true):L (n+1) [.dat d,.dat d] M=.ret (.ok (.dat (.bl true)) M):=Q5 hL k n d hk g
def Ba (F:aK):aQ:=bU (fO false [1] (fQ (ah 0)) (b7 1) fW (bR F (aq (ah 1) aB)))
theorem ag5 {α:Type}{F:aK}{xs:List α}{f g:α->D}(hl:xs.length<1000)(h:∀x∈xs,F [.dat (f x)] M=.ret (.ok (.dat (g x)) M)):aX false 1 2 (Ba F) [.dat (.lst (xs.map f))] M=.ret (.ok (.dat (.lst (xs.map g))) M):=by
 rw[lI (by rfl)];have key:Ba F [.dat (.lst (xs.map f)),.un] M=.ret (.ok (.rt (.dat (.lst (xs.map g)))) M):=by
  unfold Ba;simp(disch:=simp only[List.length_map];omega);rw[Gq (h:=g) (by
   intro x hx;simp[h x hx])]
  simp
 show(Ba F [.dat (.lst (xs.map f)),.un] M).bind _=_
 rw[key,gA,uT,fN rfl]
end
end R
namespace R
open PySem PySem.Spec PyProof.Rows L2
end R
namespace R
open PySem PySem.Spec PyProof.Rows L2
variable[aI]
end R
namespace R
open PySem PySem.Spec PyProof.Rows L2
theorem aaP [aI](cW:aI){K:Frag}{F:aK}{ns:List Int}{H:Hp}{a:Addr}(hT:H (cW.tab 0)=some (.tbl #[]))(hS:SqL K H a (ns.map V.int))(h:W (F [.dat (.d9 ns)] [.tab 0]) λr=>∃M,r=.ok (.dat (.bl true)) M):xw cW K 1 F [.ref a] H (λv _=>v=.bl true) λ_ _ _=>False:=
 aaO cW hT hS (EI.mp h)
end R
namespace R
open PySem PySem.Spec PyProof.Rows L2
variable[aI]
end R
namespace eN
open PySem PySem.Spec PyProof.Rows L2 R
variable[aI]
section
variable{k:Int}{rows:List (Int×Str)}{w a:Nat}{x:Int×Str}
variable(rQ:xS k rows w)(ha:a<rows.length)
include rQ
end
end eN
namespace R
open PySem PySem.Spec PyProof.Rows L2
variable[aI]
section
variable{M:List ak}{ρ:List af}{s t:af}{y z u v:Str}{ds es:List D}{x:Int}
def X6 (y z:Str):Bool:=(y.cps.toList.zip z.cps.toList).all λp=>p.1==63||p.1==p.2
end
section
variable{M:List ak}{p v:Str}{d:Int}
def words:List Str:=["down","up","keep"]
def aad (p:Str):Bool:=p.cps.toList.all λc=>decide (c∈([48,49,50,63]:List Nat))
def adn (d:Int)(p v:Str):Bool:=decide (v∈words)&&(decide ((p.length:Int)=d)&&aad p)
end
section
variable{M:List ak}{z:Str}{d:Int}{self:af}{s_:aK}
def ads (r:Str×Str):D:=.tup [.str r.1,.str r.2]
def agn (rows:List (Str×Str))(z:Str):Option Str:=(rows.find? λr=>X6 r.1 z).map (·.2)
end
section
variable{M:List ak}
def abw:List Str:=["0","1","2"]
def abx:List Str:=["00","01","02","10","11","12","20","21","22"]
end
def aby (d:Int):List Str:=if d=1 then abw else abx
def afO (d:Int)(rows:List (Str×Str)):List D:=(aby d).map λz=>.str ((agn rows z).getD "keep")
def adt (d:Int)(rows:List (Str×Str)):List (Str×D):=[("own_depth",.int d),("own_rows",.lst (rows.map ads)),("own_table",.lst (afO d rows))]
def S4 (d:Int)(rows:List (Str×Str)):D:=.ins 3 (adt d rows)
section
variable{M:List ak}{d:Int}{xs:List D}{s:af}{vq:af}{LC Fa ahi:aK}{g:D->Bool}{rows:List (Str×Str)}
structure My (d:Int)(rows:List (Str×Str)):Prop where
 n:rows.length<=12
 r:∀r∈rows,adn d r.1 r.2=true
end
section
variable{M:List ak}{j:Nat}{d:Int}{t:cH}
local macro_rules|`(tactic|walk_at"sx")=>`(tactic|simp(maxSteps:=5000000) (disch:=first|omega|(simp;done)|((simp only[Str.length_append,List.length_cons,List.length_nil,List.length_map,List.length_append,List.length_take,List.length_drop])<;>omega)) [-kMak_r])
local macro_rules|`(tactic|walk_at"sx*")=>`(tactic|simp(maxSteps:=5000000) (disch:=first|omega|(simp[*];done)|((simp only[Str.length_append,List.length_cons,List.length_nil,List.length_map,List.length_append])<;>omega)) [*,-kMak_r])
abbrev N0:List ak:=[.tab 0,.hand]
end
section
variable{M:List ak}{d gu:Int}{rows r1 r2:List (Str×Str)}{z:Str}
@[simp]theorem ai3:clsAt M (.dat (S4 d rows))=some 3:=rfl
variable{F:aK}{akA:cH}
end
end R
namespace R
abbrev bf:Type:=Int×Int
section
variable(gS bw:bf->Bool)(K:List bf)
def stC (here:Int)(cols:List Int)(k:bf):List Int:=if k.1=here/\gS k=true/\k.2∉cols then cols++[k.2]else cols
def q9 (cols:List Int)(rs:List Int)(k:bf):List Int:=if k.2∈cols/\bw k=true/\k.1∉rs then rs++[k.1]else rs
end
section
variable{gS bw:bf->Bool}{K:List bf}{here x:Int}{cols rs:List Int}{k:bf}
theorem G5:∀{K:List bf} {cols:List Int},x∈K.foldl (stC gS here) cols↔x∈cols\/∃k∈K,k.1=here/\gS k=true/\k.2=x
 |[],cols=>by simp
 |k::K,cols=>by
  rw[List.foldl_cons,G5];unfold stC;split
  ·rename_i h
   simp only[List.mem_append,List.mem_cons,List.not_mem_nil,or_false];constructor
   ·rintro((h1|h1)|⟨q,h1,h2⟩)
    ·exact .inl h1
    ·exact .inr ⟨k,.inl rfl,h.1,h.2.1,h1.symm⟩
    ·exact .inr ⟨q,.inr h1,h2⟩
   ·rintro(h1|⟨q,rfl|h1,h2,h3,h4⟩)
    ·exact .inl (.inl h1)
    ·exact .inl (.inr h4.symm)
    ·exact .inr ⟨q,h1,h2,h3,h4⟩
  ·rename_i h
   constructor
   ·rintro(h1|⟨q,h1,h2⟩)
    ·exact .inl h1
    ·exact .inr ⟨q,List.mem_cons_of_mem _ h1,h2⟩
   ·rintro(h1|⟨q,h1,h2,h3,h4⟩)
    ·exact .inl h1
    ·rcases List.mem_cons.mp h1 with rfl|h1
     ·refine .inl ?_
      rw[<-h4];exact Decidable.byContradiction λz=>h ⟨h2,h3,z⟩
     ·exact .inr ⟨q,h1,h2,h3,h4⟩
theorem Oi:∀{K:List bf} {cols:List Int},cols.Nodup->(K.foldl (stC gS here) cols).Nodup
 |[],_,h=>h
 |k::K,cols,h=>by
  rw[List.foldl_cons];refine Oi ?_;unfold stC;split
  ·rename_i q
   rw[List.nodup_append];exact⟨h,by simp,λa ha b hb=>by simp at hb;subst hb;exactλe=>q.2.2 (e▸ha)⟩
  ·exact h
theorem B7:∀{K:List bf} {rs:List Int},∃more,K.foldl (q9 bw cols) rs=rs++more/\∀x∈more,∃k∈K,k.1=x/\bw k=true/\k.2∈cols
 |[],rs=>⟨[],by simp,by simp⟩
 |k::K,rs=>by
  rw[List.foldl_cons];unfold q9;split
  ·rename_i h
   obtain⟨more,e,hm⟩:=B7 (K:=K) (rs:=rs++[k.1]);refine⟨k.1::more,?_,λx hx=>?_⟩
   ·show K.foldl (q9 bw cols) _=_
    rw[e,List.append_assoc];rfl
   ·rcases List.mem_cons.mp hx with rfl|hx
    ·exact⟨k,List.mem_cons_self,rfl,h.2.1,h.1⟩
    ·obtain⟨q,h1,h2⟩:=hm x hx
     exact⟨q,List.mem_cons_of_mem _ h1,h2⟩
  ·obtain⟨more,e,hm⟩:=B7 (K:=K) (rs:=rs)
   exact⟨more,e,λx hx=>by obtain⟨q,h1,h2⟩:=hm x hx;exact⟨q,List.mem_cons_of_mem _ h1,h2⟩⟩
theorem Oj:∀{K:List bf} {rs:List Int},∀k∈K,k.2∈cols->bw k=true->k.1∈K.foldl (q9 bw cols) rs
 |[],_,k,h,_,_=>by cases h
 |dJ::K,rs,k,h,h1,h2=>by
  rw[List.foldl_cons];rcases List.mem_cons.mp h with rfl|h
  ·obtain⟨more,e,_⟩:=B7 (bw:=bw) (cols:=cols) (K:=K) (rs:=q9 bw cols rs k)
   rw[e];refine List.mem_append_left _ ?_;unfold q9;split
   ·simp
   ·rename_i q
    exact Decidable.byContradiction λz=>q ⟨h1,h2,z⟩
  ·exact Oj k h h1 h2
theorem Ol:∀{K:List bf} {rs:List Int},rs.Nodup->(K.foldl (q9 bw cols) rs).Nodup
 |[],_,h=>h
 |k::K,rs,h=>by
  rw[List.foldl_cons];refine Ol ?_;unfold q9;split
  ·rename_i q
   rw[List.nodup_append];exact⟨h,by simp,λa ha b hb=>by simp at hb;subst hb;exactλe=>q.2.2 (e▸ha)⟩
  ·exact h
theorem RB {α:Type}[DecidableEq α]:∀{a b:List α},a.Nodup->(∀x∈a,x∈b)->a.length<=b.length
 |[],_,_,_=>Nat.zero_le _
 |x::a,b,h,hs=>by
  obtain⟨h1,h2⟩:=List.nodup_cons.mp h;have hx:=hs x List.mem_cons_self;have:=RB (a:=a) (b:=b.erase x) h2 λy hy=>(List.mem_erase_of_ne (λe:y=x=>h1 (by rw[<-e];exact hy))).mpr (hs y (List.mem_cons_of_mem _ hy))
  rw[List.length_erase_of_mem hx]at this;have hp:0<b.length:=List.length_pos_of_mem hx;rw[List.length_cons];omega
structure tD (gS bw:bf->Bool)(K:List bf)(r0:Int)(n:Nat)(rs cols:List Int):Prop where
 hd:rs[0]?=some r0
 nd:rs.Nodup
 sub:∀r∈rs,r=r0\/∃k∈K,k.1=r
 col:∀c∈cols,∃j r,j<n/\rs[j]?=some r/\∃k∈K,k.1=r/\gS k=true/\k.2=c
 row:∀i r,0<i->rs[i]?=some r->∃k∈K,k.1=r/\bw k=true/\∃j fU,j<i/\rs[j]?=some fU/\∃dJ∈K,dJ.1=fU/\gS dJ=true/\dJ.2=k.2
 all:∀j r,j<n->rs[j]?=some r->∀k∈K,k.1=r->gS k=true->k.2∈cols
 Wd:∀k∈K,k.2∈cols->bw k=true->k.1∈rs
 Nv:cols.Nodup
theorem tD.len {r0:Int}{n:Nat}(h:tD gS bw K r0 n rs cols):rs.length<=K.length+1:=by
 have:=RB (a:=rs) (b:=r0::K.map (·.1)) h.nd λr hr=>by
  rcases h.sub r hr with rfl|⟨k,hk,rfl⟩
  ·exact List.mem_cons_self
  ·exact List.mem_cons_of_mem _ (List.mem_map.mpr ⟨k,hk,rfl⟩)
 rwa[List.length_cons,List.length_map]at this
theorem tD.start (r0:Int):tD gS bw K r0 0 [r0] [] where
 hd:=rfl
 nd:=by simp
 sub:=λr hr=>by simp at hr;exact .inl hr
 col:=λc hc=>by cases hc
 row:=λi r hi hr=>by
  cases i with
  |zero=>omega
  |succ i=>simp at hr
 all:=λj r hj=>by omega
 Wd:=λk _ hc=>by cases hc
 Nv:=by simp
theorem tD.step {r0:Int}{n:Nat}(h:tD gS bw K r0 n rs cols)(hn:n<rs.length):tD gS bw K r0 (n+1) (K.foldl (q9 bw (K.foldl (stC gS (rs.getD n 0)) cols)) rs) (K.foldl (stC gS (rs.getD n 0)) cols):=by
 have e0:rs[n]?=some (rs.getD n 0):=by rw[List.getD_eq_getElem?_getD,List.getElem?_eq_getElem hn];rfl
 generalize rs.getD n 0=here at e0;obtain⟨more,em,hm⟩:=B7 (bw:=bw) (cols:=K.foldl (stC gS here) cols) (K:=K) (rs:=rs);have old:∀{j r},rs[j]?=some r->(rs++more)[j]?=some r:=λ{j r} e=>by
  rw[List.getElem?_append_left (List.getElem?_eq_some_iff.mp e).1];exact e
 have src:∀c∈K.foldl (stC gS here) cols,∃j r,j<n+1/\rs[j]?=some r/\∃k∈K,k.1=r/\gS k=true/\k.2=c:=λc hc=>by
  rcases G5.mp hc with hc|⟨k,hk,h1,h2,h3⟩
  ·obtain⟨j,r,hj,jJ,q⟩:=h.col c hc
   exact⟨j,r,by omega,jJ,q⟩
  ·exact⟨n,here,by omega,e0,k,hk,h1,h2,h3⟩
 have nd:=Ol (bw:=bw) (cols:=K.foldl (stC gS here) cols) (K:=K) h.nd;have bk:=Oj (bw:=bw) (cols:=K.foldl (stC gS here) cols) (K:=K) (rs:=rs);rw[em]at nd⊢;refine⟨old h.hd,nd,λr hr=>?_,λc hc=>?_,λi r hi jJ=>?_,λj r hj jJ k hk h1 h2=>?_,λk hk hc hb=>em▸bk k hk hc hb,Oi h.Nv⟩
 ·rcases List.mem_append.mp hr with hr|hr
  ·exact h.sub r hr
  ·obtain⟨k,hk,e,_⟩:=hm r hr
   exact .inr ⟨k,hk,e⟩
 ·obtain⟨j,r,hj,jJ,q⟩:=src c hc
  exact⟨j,r,hj,old jJ,q⟩
 ·by_cases hl:i<rs.length
  ·rw[List.getElem?_append_left hl]at jJ
   obtain⟨k,hk,a,b,j,fU,hj,eT,q⟩:=h.row i r hi jJ;exact⟨k,hk,a,b,j,fU,hj,old eT,q⟩
  ·rw[List.getElem?_append_right (by omega)]at jJ
   obtain⟨k,hk,a,b,hc⟩:=hm r (List.mem_of_getElem? jJ);obtain⟨j,fU,hj,eT,q⟩:=src _ hc;exact⟨k,hk,a,b,j,fU,by omega,old eT,q⟩
 ·have r_:j<rs.length:=by omega
  rw[List.getElem?_append_left r_]at jJ;rw[G5];by_cases e:j=n
  ·subst e
   rw[e0]at jJ;cases jJ
   exact .inr ⟨k,hk,h1,h2,rfl⟩
  ·exact .inl (h.all j r (by omega) jJ k hk h1 h2)
variable[aI]
variable{r0:Int}
end
end R
namespace R
open PySem PySem.Spec PyProof.Rows L2
variable[aI]
def Tp (rows:List (Int×Str))(k:bf):Nat:=((rows[k.1.toNat]?).map λr=>r.2.cps.toList.getD k.2.toNat 46).getD 46
theorem Qn {i:Nat}{z:Str}{p:bf}:p∈zE i z↔∃c ch:Nat,p=((i:Int),(c:Int))/\z.cps.toList[c]?=some ch/\ch≠46:=by
 unfold zE;rw[List.mem_map];constructor
 ·rintro⟨c,hc,rfl⟩
  rw[List.mem_filter,List.mem_range,decide_eq_true_eq]at hc;obtain⟨h1,h2⟩:=hc;have e:z.cps.toList[c]?=some (z.cps.toList[c]'h1):=List.getElem?_eq_getElem h1;exact⟨c,_,rfl,e,λq=>h2 (by rw[e,q])⟩
 ·rintro⟨c,ch,rfl,h1,h2⟩
  refine⟨c,?_,rfl⟩;rw[List.mem_filter,List.mem_range,decide_eq_true_eq];exact⟨(List.getElem?_eq_some_iff.mp h1).1,λq=>h2 (by rw[h1]at q;exact Option.some.inj q)⟩
theorem Qv {p:bf}:∀{rows:List (Int×Str)} {i:Nat},p∈dZ i rows↔∃a c ch:Nat,∃r,rows[a]?=some r/\p=(((i+a:Nat):Int),(c:Int))/\r.2.cps.toList[c]?=some ch/\ch≠46
 |[],i=>by simp[dZ]
 |r::rows,i=>by
  rw[dZ,List.mem_append,Qn,Qv];constructor
  ·rintro(⟨c,ch,rfl,h1,h2⟩|⟨a,c,ch,fU,e,rfl,h1,h2⟩)
   ·exact⟨0,c,ch,r,rfl,rfl,h1,h2⟩
   ·exact⟨a+1,c,ch,fU,by simpa using e,by rw[show i+1+a=i+(a+1) by omega],h1,h2⟩
  ·rintro⟨a,c,ch,fU,e,rfl,h1,h2⟩
   cases a with
   |zero=>
    simp at e;subst e;exact .inl ⟨c,ch,rfl,h1,h2⟩
   |succ a=>exact .inr ⟨a,c,ch,fU,by simpa using e,by rw[show i+1+a=i+(a+1) by omega],h1,h2⟩
section
variable{M:List ak}{k:Int}{rows:List (Int×Str)}{F:aK}{akz:cH}{v:Bool}{x:D}{K:List bf}
def Qq (x:D):List (Str×D):=[("given",x),("code",.str "BadKey")]
inductive MA:D->List D->Prop
 |lst (ds:List D):MA (.lst ds) ds
 |tup (ds:List D):MA (.tup ds) ds
end
def Yj (c:Nat):Bool:=decide (c∈([111,62]:List Nat))
def Wo (c:Nat):Bool:=decide (c∈([111,60]:List Nat))
def Yi (rows:List (Int×Str))(k:bf):Bool:=Yj (Tp rows k)
def Wn (rows:List (Int×Str))(k:bf):Bool:=Wo (Tp rows k)
def aau (a:bf):aL:=.t [.i a.1,.i a.2]
def W0 (p:List bf):aL:=.t (p.map aau)
end R
namespace R
section
variable(gS bw:bf->Bool)
def acz (C:List Int)(h:Int)(k:bf):Bool:=decide (k.1=h)&&(!decide (k.2∈C)&&gS k)
def Wi (Rs:List Int)(c:Int)(k:bf):Bool:=decide (k.2=c)&&(!decide (k.1∈Rs)&&bw k)
def R3 (Z:List bf)(g:Int):Nat->List Int->Int->List Int->List bf->List (List bf)
  |0,_,_,_,_=>[]
  |f+1,Rs,h,C,way=>(Z.filter (acz gS C h)).flatMap λk=>if k.2=g then[way++[k]]else
      (Z.filter (Wi bw (Rs++[h]) k.2)).flatMap λk2=>R3 Z g f (Rs++[h]) k2.1 (C++[k.2]) (way++[k]++[k2])
end
end R
namespace R
open PySem PySem.Spec PyProof.Rows L2
variable[aI]
section
variable{M N:List ak}{k g h:Int}{rows:List (Int×Str)}{w:Nat}{ps:List (List bf)}{t:cH}{a:bf}
def abu (p:List bf):aL:=.t [.i (p.length:Int),W0 p]
def agg:aL->bf
 | .t [.i a,.i b]=>(a,b)
 |_=>(0,0)
def agh:aL->List bf
 | .t [_,.t ks]=>ks.map agg
 |_=>[]
def Wq (ps:List (List bf)):List (List bf):=(qh (ps.map abu)).map agh
def Ds (rows:List (Int×Str))(h g:Int):List (List bf):=Wq (R3 (Yi rows) (Wn rows) (dZ 0 rows) g 4 [] h [] [])
end
section
variable{M:List ak}{ρ:List af}{s:af}{d:D}{ds:List D}{aJ bS:CE}{t:cH}{m:Str}{c:Nat}{F:aK}
def P7:D->Ev af:=λd=>ok (.dat d)
def P6:af->Ev af:=λs=>(frz s).bind P7
@[simp]theorem agQ:vW aJ ρ M=(aJ ρ M).bind (bH P6):=id rfl
@[simp]theorem aap:P6 s M=(frz s M).bind (bH P7):=id rfl
end
section
variable{M:List ak}{k g h:Int}{rows:List (Int×Str)}{w:Nat}{Rs C:List Int}{way K:List bf}{gS bw:bf->Bool}{t:cH}
def pP:Nat->Nat
 |0=>4
 |m+1=>4*((m+1)*pP m)
end
section
variable{M:List ak}{t:cH}{lk:aK}{s s0 s1:af}{ds:List D}{d e:D}{j:Nat}{op:CmpOp}
inductive MB (M:List ak):af->List D->Prop
 |dat (ds:List D):MB M (.dat (.lst ds)) ds
 |mu {j:Nat} {ds:List D} (h:M[j]?=some (.lst (ds.map .dat))):MB M (.mu j) ds
end
abbrev o9 (d:D)(M:List ak):T (Re af):=.ret (.ok (.dat d) M)
abbrev bk (x:D):D:=.tup [.str "BadKey",x]
abbrev T9:D:=.tup [.str "TooWide",.int 8]
theorem W5:Cl N0:=rfl
section
variable{M:List ak}{A:List D}{i:Nat}{y:af}{n:Nat}{L:List bf}
theorem ne_self {M:List ak}{A:List D}(p:e_ 57 A=true)(h:nS A A=true):fH .NotEq M (.dat (.lst A)) (.dat (.lst A))=some false:=by
 rw[W_,N6 p p,h];rfl
end
theorem Qs:∀ks:List Key,CK (ks.map NK)=some ks
 |[]=>rfl
 |k::ks=>by
  rw[List.map_cons];cases k<;>(unfold CK;rw[Qs ks];rfl)
theorem Qp (ks:List Key):Qo (.dat (q_ ks))=some ks:=Qs ks
def tX (kvs:List (List Key×D)):List (List Key×af):=kvs.map λp=>(p.1,af.dat p.2)
theorem Xh (kvs:List (List Key×D))(k:List Key):nv (tX kvs) k=(nv kvs k).map .dat:=by
 unfold nv tX;rw[List.find?_map];cases h:kvs.find? ((λp:List Key×af=>decide (p.1=k))∘λp=>(p.1,af.dat p.2))with
 |none=>
  have h':kvs.find? (λp=>decide (p.1=k))=none:=h;rw[h'];rfl
 |some p=>
  have h':kvs.find? (λp=>decide (p.1=k))=some p:=h;rw[h'];rfl
section
variable{M:List ak}{ρ:List af}{s s1:af}{kvs:List (List Key×D)}{k:List Key}{d:D}{ds:List D}{i:Int}{j:Nat}{z:Str}{f aJ bS fh b_ kO:CE}{t:dB}{g:dz}{fi:iy}{own:List Nat}
theorem aai:zA M (.dat (.dT kvs)) (.dat (q_ k))=(nv kvs k).map λd=>(.dat d,M):=by
 unfold zA;rw[Qp];show(match some ((nv kvs k).map af.dat)with
  |some (some s)=>some (s,M)
  |_=>none)=_
 cases nv kvs k<;>rfl
@[simp]theorem abo {m:Bool}:CV m M [.dat (.dT kvs)]=some (eX m M (kvs.map λp=>q_ p.1)):=by
 show some (eX m M ((kvs.map (·.1)).map q_))=_
 rw[List.map_map];rfl
end
abbrev Sg:Type:=Bool×Nat
def Z4 (s:Bool):Int:=if s then 1 else 0
def af0 (s:Sg):List Key:=[.inl (Z4 s.1),.inl (s.2:Int)]
def WZ (c:Bool):Nat:=if c then 49 else 48
def xO (w:List Bool):Str:=⟨(w.map WZ).toArray⟩
def Ff (b:Nat)(s:Sg)(c:Bool):Bool:=decide (s.2<b)||(c==s.1)
def QY (h:Nat)(s:Sg):List Sg:=if s.2+1<h then[(s.1,s.2+1)]else[(s.1,s.2),(!s.1,0)]
def afv (h:Nat):List Sg:=(List.range h).reverse.flatMap λa=>[(false,a),(true,a)]
def cD (b h:Nat):D:=FU (b:Int) (h:Int)
section
variable{M:List ak}{b h:Nat}{s:Sg}{c:Bool}{w:List Bool}{t:cH}
def aab (z:Str)(m:Nat):Bool:=decide (1<=z.length/\z.length<=m)&&z.cps.toList.all λc=>decide (c∈([48,49]:List Nat))
end
abbrev n7:Type:=List (Sg×Option Sg)
def YR (l:n7)(s:Sg):Bool:=l.any λp=>decide (p.1=s)
def V5 (b:Nat)(c:Bool)(st:Sg)(acc:n7)(s:Sg):n7:=if Ff b s c&&!YR acc s then acc++[(s,some st)]else acc
def ac6 (b h:Nat)(c:Bool)(prev:n7):n7:=prev.foldl (λacc p=>(QY h p.1).foldl (V5 b c p.1) acc) []
def X5 (b h:Nat)(c:Bool):n7:=((afv h).filter λs=>Ff b s c).map λs=>(s,none)
section
variable{M N:List ak}{b h j f:Nat}{w iU:af}{st:Sg}{c:Bool}{acc:n7}{UP UQ ahh:aK}{t:cH}
def U9 (h:Nat)(l:n7):Prop:=(l.map (·.1)).Nodup/\∀p∈l,p.1.2<h
theorem abv {l:n7}(hl:U9 h l):l.length<=2*h:=by
 have hn:(l.map λp=>2*p.1.2+(if p.1.1 then 1 else 0)).Nodup:=by
  have e:(l.map λp=>2*p.1.2+(if p.1.1 then 1 else 0))=(l.map (·.1)).map λs:Sg=>2*s.2+(if s.1 then 1 else 0):=by rw[List.map_map];rfl
  rw[e,List.Nodup,List.pairwise_map];refine hl.1.imp λ{s t} hne z=>hne ?_
  obtain⟨s1,s2⟩:=s;obtain⟨t1,t2⟩:=t;cases s1<;>cases t1<;>simp at z⊢<;>omega
 have:=nat_nodup_len _ (List.range (2*h)) hn λx hx=>by
  obtain⟨p,hp,rfl⟩:=List.mem_map.mp hx;have:=hl.2 p hp;rw[List.mem_range];split<;>omega
 simpa using this
end
section
variable{b h:Nat}{c:Bool}
def QX (b h:Nat):n7->List Bool->n7
 |prev,[]=>prev
 |prev,c::w=>QX b h (ac6 b h c prev) w
def Fg (b h:Nat):List Bool->Bool
 |[]=>false
 |c::w=>!(QX b h (X5 b h c) w).isEmpty
end
def Ur (x:D):List (Str×D):=[("given",x),("code",.str "BadWord")]
def IK (a b:bf):Prop:=a.1<b.1\/(a.1=b.1/\a.2<b.2)
theorem aat (i:Nat)(z:Str):(zE i z).Pairwise IK:=by
 unfold zE;rw[List.pairwise_map];refine(List.Pairwise.filter _ List.pairwise_lt_range).imp λ{a b} h=>.inr ⟨rfl,?_⟩
 show((a:Nat):Int)<(b:Int)
 omega
theorem Qu:∀(rows:List (Int×Str)) (i:Nat),(dZ i rows).Pairwise IK
 |[],_=>.nil
 |r::rows,i=>by
  rw[dZ,List.pairwise_append];refine⟨aat _ _,Qu rows (i+1),λa ha b hb=>.inl ?_⟩;obtain⟨c,ch,rfl,_,_⟩:=Qn.mp ha;obtain⟨a2,c2,_,_,_,rfl,_,_⟩:=Qv.mp hb;show(i:Int)<((i+1+a2:Nat):Int)
  omega
abbrev dD:Type:=List (bf×List Bool)
def nV (a:bf):List Key:=[.inl a.1,.inl a.2]
theorem Ut (a:bf):q_ (nV a)=sf a:=rfl
theorem agL {a b:bf}(h:nV a=nV b):a=b:=by
 unfold nV at h;have h1:=List.cons.inj h;have h2:=List.cons.inj h1.2;exact Prod.ext (Sum.inl.inj h1.1) (Sum.inl.inj h2.1)
def t9 (ws:dD):List (List Key×D):=ws.map λp=>(nV p.1,.str (xO p.2))
def Cj (ws:dD)(a:bf):Bool:=ws.any λp=>decide (p.1=a)
def iG (ws:dD)(a:bf):List Bool:=((ws.find? λp=>decide (p.1=a)).map (·.2)).getD []
theorem OX {ws:dD}{a:bf}:Cj ws a=true↔a∈ws.map (·.1):=by
 unfold Cj;rw[List.any_eq_true,List.mem_map];constructor
 ·rintro⟨p,hp,e⟩;exact⟨p,hp,by simpa using e⟩
 ·rintro⟨p,hp,e⟩;exact⟨p,hp,by simpa using e⟩
theorem NY {ws:dD}{a:bf}(h:a∈ws.map (·.1)):nv (t9 ws) (nV a)=some (.str (xO (iG ws a))):=by
 unfold nv t9 iG;rw[List.find?_map];have e:((λp:List Key×D=>decide (p.1=nV a))∘λp:bf×List Bool=>(nV p.1,D.str (xO p.2)))=λp=>decide (p.1=a):=by
  funext p
  show decide (nV p.1=nV a)=decide (p.1=a)
  by_cases e:p.1=a
  ·simp[e]
  ·have:¬nV p.1=nV a:=λz=>e (agL z)
   simp[e,this]
 rw[e];have hh:=OX.mpr h;unfold Cj at hh;cases hf:ws.find? λp=>decide (p.1=a)with
 |none=>
  rw[List.find?_eq_none]at hf;rw[List.any_eq_true]at hh;obtain⟨p,hp,q⟩:=hh;exact absurd q (hf p hp)
 |some p=>rfl
theorem NZ (ws:dD):((t9 ws).map λp=>q_ p.1)=(ws.map (·.1)).map sf:=by
 unfold t9;rw[List.map_map,List.map_map];rfl
def UJ (ws:dD)(gZ:List bf):Prop:=(ws.map (·.1)).Perm gZ/\gZ.Pairwise IK
def acZ (rows:List (Int×Str))(i:Nat):Int:=((rows[i]?).map (·.1)).getD 0
section
variable{M N:List ak}{k n:Int}{rows:List (Int×Str)}{ws:dD}{gZ:List bf}{w:Nat}{tt tp:cH}{a:bf}{t i:Nat}
structure EK (ws:dD)(gZ:List bf)(m:Nat):Prop where
 asc:UJ ws gZ
 len:∀p∈ws,p.2.length=m
 few:ws.length<=16
theorem EK.iG {m:Nat}(h:EK ws gZ m)(ha:a∈gZ):(iG ws a).length=m:=by
 have hm:a∈ws.map (·.1):=h.asc.1.mem_iff.mpr ha;unfold R.iG;have hh:=OX.mpr hm;unfold Cj at hh;cases hf:ws.find? λp=>decide (p.1=a)with
 |none=>
  rw[List.find?_eq_none]at hf;rw[List.any_eq_true]at hh;obtain⟨p,hp,q⟩:=hh;exact absurd q (hf p hp)
 |some p=>exact h.len p (List.mem_of_find?_eq_some hf)
end
def KQ (k:Int)(rows:List (Int×Str))(i s:Nat):Nat:=((s:Int)*k+acZ rows i).toNat
section
variable{M N:List ak}{k n:Int}{rows:List (Int×Str)}{ws:dD}{gZ L K:List bf}{w:Nat}{a:bf}{t i s m j:Nat}{X:af}{tl:cH}{kvs:List (List Key×D)}{kk:List Key}
theorem abp {b:Bool}(h:M[j]?=some (.dT (tX kvs))):CV b M [.mu j]=some (eX b M (kvs.map λp=>q_ p.1)):=by
 unfold CV;have e:Gz M (.mu j)=some (kvs.map (·.1)):=by
  simp only[Gz,h];unfold tX;rw[List.map_map];rfl
 simp only[List.head?_cons,Option.bind_some,e,List.length_singleton,if_true];rw[List.map_map];rfl
theorem aaj (h:M[j]?=some (.dT (tX kvs))):zA M (.mu j) (.dat (q_ kk))=(nv kvs kk).map λd=>(.dat d,M):=by
 unfold zA;rw[Qp];simp only[NJ,h,Xh];cases nv kvs kk<;>rfl
structure u_ (M:List ak)(X:af)(ws:dD):Prop where
 ls:CV false M [X]=some (.dat (.lst ((ws.map (·.1)).map sf)),M)
 ix:∀a∈ws.map (·.1),zA M X (.dat (sf a))=some (.dat (.str (xO (iG ws a))),M)
 qb:gJ M X=X
 Js:X≠.un
theorem u_.ev (h:u_ M X ws):yJ (some X) M=.ret (.ok X M):=by
 have q:ah 0 [X] M=.ret (.ok X M):=K6 rfl h.Js h.qb;rw[Uv]at q;exact q
theorem u_.mu (h:M[j]?=some (.dT (tX (t9 ws)))):u_ M (.mu j) ws where
 ls:=by rw[abp h,NZ];rfl
 ix:=λa ha=>by rw[<-Ut,aaj h,NY ha];rfl
 qb:=by simp only[gJ,h]
 Js:=by simp
theorem u_.dat:u_ M (.dat (.dT (t9 ws))) ws where
 ls:=by rw[abo,NZ];rfl
 ix:=λa ha=>by rw[<-Ut,aai,NY ha];rfl
 qb:=rfl
 Js:=by simp
end
section
variable{α:Type}{M N:List ak}{k n:Int}{rows:List (Int×Str)}{ws:dD}{gZ L K:List bf}{w:Nat}{a:bf}{t i s m j:Nat}{X v:af}{ρ:List af}{gt:dz}{b:aQ}{KU KY qi T3 akE akF:cH}{Fc Eb:aK}
def NH (Z:List bf)(a o:bf):Bool:=decide (o.1≠a.1)&&(decide (o.2≠a.2)&&(decide ((a.1,o.2)∈Z)&&(decide ((o.1,a.2)∈Z)&&decide (o∈Z))))
def vQ (Z:List bf)(h w:Nat)(a:bf):List bf:=(List.range h).flatMap λi:Nat=>(List.range w).flatMap λc:Nat=>if NH Z a ((i:Int),(c:Int))then[((i:Int),(c:Int))]else[]
end
section
variable{M N:List ak}{k n:Int}{rows:List (Int×Str)}{ws:dD}{gZ L K:List bf}{w:Nat}{a:bf}{t i s m j:Nat}{X v:af}{ds:List D}
theorem Us:∀{ws:dD},(ws.map (·.1)).Nodup->∀p∈ws,iG ws p.1=p.2
 |[],_,p,hp=>by cases hp
 |q::ws,h,p,hp=>by
  rw[List.map_cons,List.nodup_cons]at h;unfold iG;rw[List.find?_cons];rcases List.mem_cons.mp hp with rfl|hp
  ·simp
  ·have ne:¬q.1=p.1:=λe=>h.1 (by rw[e];exact List.mem_map.mpr ⟨p,hp,rfl⟩)
   rw[decide_eq_false ne];exact Us h.2 p hp
structure Ey (k:Int)(rows:List (Int×Str))(w:Nat)(n:Int)(ws:dD)(gZ:List bf)(m:Nat):Prop where
 rQ:xS k rows w
 hw:EK ws gZ m
 hm:m<=12
 Pb:(m:Int)=n*k
 hK:∀a∈gZ,a∈dZ 0 rows
 n1:1<=n
 n3:n<=3
theorem Ey.m1 (h:Ey k rows w n ws gZ m):1<=m:=by
 have k1:=h.rQ.k1;have:=Int.mul_pos (show 0<n by have:=h.n1;omega) (show 0<k by omega);have:=h.Pb;omega
end
def acv:List D:=[.non,.bl true,.int 3,.str "",.str "a",.tup [],.tup [.int 0],.tup [.int 0,.int 0,.int 0],.lst [.int 0,.int 0],.tup [.int 0,.str "0"],.tup [.non,.int 0],.tup [.int 9,.int 0],.tup [.int 0,.int (-1)],.tup [.tup [.int 0,.int 0],.int 0],.tup [.bl true,.int 0]]
section
variable{M N:List ak}{k n:Int}{rows:List (Int×Str)}{ws:dD}{gZ:List bf}{w c m:Nat}{KU tk KY tp T6 TX T7 TY:cH}{Eb LG Fc ck:aK}{a:bf}{x:D}{fs:List (Str×D)}{ρ:List af}{fd b_ aiz:CE}{kvs:List (List Key×D)}{kk:List Key}{z:af}
inductive AG (rows:List (Int×Str))(ps:dD)(m:Nat):D->D->Nat->List (Str×D)->Prop
 |key {x y:D} (h:x∈acv):AG rows ps m x y 14 (Qq x)
 |two {a:bf} {y:D} (h1:a∈dZ 0 rows) (h:a∈ps.map (·.1)):AG rows ps m (sf a) y 14 (Qq (sf a))
 |word {a:bf} {y:D} (h1:a∈dZ 0 rows) (h2:a∉ps.map (·.1)) (h:∀M,e7 ["str"] M (.dat y)=some (.dat (.bl false),M)):AG rows ps m (sf a) y 15 (Ur y)
 |str {a:bf} {z:Str} (h1:a∈dZ 0 rows) (h2:a∉ps.map (·.1)) (h3:z.length<=1000) (h:aab z 12=false\/z.length≠m):AG rows ps m (sf a) (.str z) 15 (Ur (.str z))
end
section
variable{M N:List ak}{k n k2 n2:Int}{rows SJ:List (Int×Str)}{ws Lf:dD}{gZ LR:List bf}{w c m:Nat}{KU tk KY tp T6 TX T7 TY xC T9 qi T3 akG:cH}{Eb LG Fc ck LH LC:aK}{a:bf}{x:D}{fs:List (Str×D)}{ρ:List af}{u v:List Bool}{s:Nat}
def o4 (u v:List Bool):Bool:=(u.zip v).all λp=>!p.1||p.2
def Fi (ws:dD)(gZ:List bf):List bf:=gZ.filter λa=>(iG ws a).any id
end
section
variable{M N:List ak}{k n k2 n2:Int}{rows SJ:List (Int×Str)}{ws Lf:dD}{gZ LR L:List bf}{w c m:Nat}{xC tx T9 KY KU T6 TX T7 TY:cH}{LG Eb ck:aK}{a:bf}{x:D}{fs:List (Str×D)}{ρ:List af}{u v:List Bool}{s:Nat}
abbrev nc (M:List ak)(L:List D):List ak:=M++[.lst (L.map .dat)]
theorem U8 {L:List D}:(nc M L)[M.length]?=some (.lst (L.map .dat)):=by simp
end
section
variable{M:List ak}{k n:Int}{rows:List (Int×Str)}{ws Lf:dD}{gZ Z L ahl K K':List bf}{w m:Nat}{a b:bf}{t i s:Nat}{u v:List Bool}
theorem aaU (u:List Bool):o4 u u=true:=by
 unfold o4;induction u with
 |nil=>rfl
 |cons c u ih=>rw[List.zip_cons_cons,List.all_cons,ih];cases c<;>rfl
theorem map_fst {f:bf->List Bool}:(Z.map λb=>(b,f b)).map (·.1)=Z:=by
 induction Z with
 |nil=>rfl
 |cons z Z ih=>rw[List.map_cons,List.map_cons,ih]
end
section
variable{M:List ak}{b h m n j t:Nat}{k:Int}{rows:List (Int×Str)}{w:Nat}{ws:dD}{gZ:List bf}{a:bf}{v:List Bool}
def DP (ws:dD)(a:bf)(v:List Bool):dD:=ws.map λp=>if p.1=a then(p.1,v)else p
theorem agj:(DP ws a v).map (·.1)=ws.map (·.1):=by
 unfold DP;rw[List.map_map];refine List.map_congr_left λp _=>?_
 show(if p.1=a then(p.1,v)else p).1=p.1
 split<;>rfl
abbrev cu:Type:=List (bf×Nat)
end
section
variable{M:List ak}{b h j k:Nat}{c s:Bool}{w:List Bool}{d:D}
abbrev aha:Type:=Int×Bool
end
section
variable{M:List ak}{k n k2 n2:Int}{rows SJ:List (Int×Str)}{ws Lf:dD}{gZ LR L Z:List bf}{a:bf}{w bN m:Nat}
theorem X4 {α:Type}{S:List α}{Z:List α}{p:α->Bool}(h:S.Sublist Z)(hn:Z.Nodup)(hp:∀a∈Z,p a=true->a∈S):S.filter p=Z.filter p:=by
 induction h with
 |slnil=>rfl
 | @cons abB abC z hs ih=>
  rw[List.nodup_cons]at hn;have:p z=false:=by
   cases e:p z with
   |false=>rfl
   |true=>exact absurd (hs.subset (hp z List.mem_cons_self e)) hn.1
  rw[ih hn.2 λa ha HX=>hp a (List.mem_cons_of_mem _ ha) HX,List.filter_cons_of_neg (by rw[this];simp)]
 | @cons_cons abB abC z hs ih=>
  rw[List.nodup_cons]at hn;have ih:=ih hn.2 λa ha HX=>by
   rcases List.mem_cons.mp (hp a (List.mem_cons_of_mem _ ha) HX)with rfl|h
   ·exact absurd ha hn.1
   ·exact h
  rw[List.filter_cons,List.filter_cons,ih]
structure Handed (ws hw:dD)(Z S:List bf)(m:Nat):Prop where
 sub:S.Sublist Z
 abV:∀a∈Z,(iG ws a).any id=true->a∈S
 perm:hw.Perm (S.map λa=>(a,iG ws a))
section
variable{hw:dD}{S:List bf}
theorem Handed.keys (H:Handed ws hw Z S m):(hw.map (·.1)).Perm S:=by
 have:=H.perm.map (·.1);rw[map_fst (f:=λa=>iG ws a)]at this;exact this
theorem Handed.nd (H:Handed ws hw Z S m)(hn:Z.Nodup):(hw.map (·.1)).Nodup:=H.keys.nodup_iff.mpr (hn.sublist H.sub)
theorem Handed.iG (H:Handed ws hw Z S m)(hn:Z.Nodup)(ha:a∈S):R.iG hw a=R.iG ws a:=by
 have hm:(a,R.iG ws a)∈hw:=H.perm.mem_iff.mpr (List.mem_map.mpr ⟨a,ha,rfl⟩);exact Us (H.nd hn) _ hm
theorem Handed.any (H:Handed ws hw Z S m)(hn:Z.Nodup):Fi hw S=Fi ws Z:=by
 unfold Fi;rw[<-X4 H.sub hn H.abV];exact List.filter_congr λa ha=>by rw[H.iG hn ha]
end
end
abbrev gF:Type:=List Bool
def Xa (w:gF):Nat:=w.countP id
section
variable{b h n:Nat}{u v w:gF}
theorem Q0 {c d:Bool}:o4 (c::u) (d::v)=((!c||d)&&o4 u v):=rfl
theorem Q2 {c d:Bool}:∀{u v:gF},u.length=v.length->o4 (u++[c]) (v++[d])=(o4 u v&&(!c||d))
 |[],[],_=>by simp[o4]
 |[],_::_,h=>by simp at h
 |_::_,[],h=>by simp at h
 |x::u,y::v,h=>by
  rw[List.cons_append,List.cons_append,Q0,Q0,Q2 (by simpa using h),Bool.and_assoc]
def Vc (P:gF->Prop)(w:gF):Prop:=P w/\∀v,P v->o4 v w=true->v=w
structure vf (L:List gF)(P:gF->Prop):Prop where
 mem:∀w,w∈L↔Vc P w
 nd:L.Nodup
theorem vf.congr {L:List gF}{P Q:gF->Prop}(H:vf L P)(e:∀w,P w↔Q w):vf L Q:=by
 have:P=Q:=funext λw=>propext (e w)
 rw[<-this];exact H
variable{T:Nat->Prop}{s t:Sg}
def g7 (b h:Nat)(R:Sg->List gF)(ok:Bool->Prop)(t:Sg)(w:gF):Prop:=∃u c s,w=u++[c]/\u∈R s/\Ff b s c=true/\t∈QY h s/\ok c
end
end R
namespace R
open PySem PySem.Spec PyProof.Rows L2
variable[aI]
section
open StrLaws Builtin.Str
end
end R
namespace R
open PySem PySem.Spec PyProof.Rows L2
variable[aI]
def afw (w:gF):D:=.str (xO w)
def JL (w:gF):D:=.tup [.int (Xa w),.str (xO w)]
abbrev vv:Type:=List (Sg×List gF)
def GV (r:vv):List (List Key×D):=r.map λp=>(af0 p.1,.lst (p.2.map afw))
def Yx (r:vv)(s:Sg):List gF:=((r.find? λp=>decide (p.1=s)).map (·.2)).getD []
section
variable{r:vv}{s t:Sg}{L:List gF}{b h n:Nat}
structure yd (h:Nat)(r:vv)(P:Sg->gF->Prop):Prop where
 abL:∀s,vf (Yx r s) (P s)
 nd:(r.map (·.1)).Nodup
 lt:∀s∈r.map (·.1),s.2<h
theorem yd.len {P:Sg->gF->Prop}(H:yd h r P):r.length<=2*h:=by
 have q:=abv (h:=h) (l:=r.map λp=>(p.1,none)) ⟨by rw[List.map_map];exact H.nd,λp hp=>by
  obtain⟨x,hx,rfl⟩:=List.mem_map.mp hp;exact H.lt x.1 (List.mem_map.mpr ⟨x,hx,rfl⟩)⟩
 rwa[List.length_map]at q
theorem yd.congr {P Q:Sg->gF->Prop}(H:yd h r P)(e:∀s w,P s w↔Q s w):yd h r Q:=⟨λs=>(H.abL s).congr (e s),H.nd,H.lt⟩
theorem IZ:∀(n:Nat) (L:List gF),L.Nodup->(∀w∈L,w.length=n)->L.length<=2^n
 |0,L,nd,hl=>by
  cases L with
  |nil=>simp
  |cons a L=>
   cases L with
   |nil=>simp
   |cons c L=>
    have h1:=List.length_eq_zero_iff.mp (hl a (by simp));have h2:=List.length_eq_zero_iff.mp (hl c (by simp));rw[h1,h2]at nd;simp at nd
 |n+1,L,nd,hl=>by
  have part:∀c:Bool,(L.filter λw=>w.head?==some c).length<=2^n:=λc=>by
   have hh:∀w∈L.filter (λw=>w.head?==some c),w=c::w.tail/\w.tail.length=n:=λw hw=>by
    obtain⟨q1,q2⟩:=List.mem_filter.mp hw;have hl1:=hl w q1;cases w with
    |nil=>simp at hl1
    |cons x w=>
     have:x=c:=by simpa using q2
     subst this;exact⟨rfl,by simpa using hl1⟩
   have Jo:((L.filter λw=>w.head?==some c).map List.tail).Nodup:=by
    rw[List.Nodup,List.pairwise_map];refine List.Pairwise.imp_of_mem (λ{a b} ha hb hab=>?_) (nd.filter _);intro e;exact hab (by rw[(hh a ha).1,(hh b hb).1,e])
   have:=IZ n _ Jo λw hw=>by
    obtain⟨v,hv,rfl⟩:=List.mem_map.mp hw;exact(hh v hv).2
   rwa[List.length_map]at this
  have sp:∀K:List gF,(∀w∈K,w.length=n+1)->K.length=(K.filter λw=>w.head?==some true).length+(K.filter λw=>w.head?==some false).length:=by
   intro K;induction K with
   |nil=>intro _;rfl
   |cons w K ih=>
    intro hK;have ih:=ih λv hv=>hK v (List.mem_cons_of_mem _ hv)
    have hw:=hK w List.mem_cons_self;cases w with
    |nil=>simp at hw
    |cons x w=>
     rw[List.filter_cons,List.filter_cons,List.length_cons,ih];cases x<;>simp<;>omega
  have h1:=part true;have h2:=part false;rw[sp L hl,Nat.pow_succ];omega
theorem vf.len {P:gF->Prop}{L:List gF}(H:vf L P)(hP:∀w,P w->w.length=n)(hn:n<=12):L.length<=2048:=by
 have hl:∀w∈L,w.length=n:=λw hw=>hP w ((H.mem w).mp hw).1
 cases n with
 |zero=>have:=IZ 0 L H.nd hl;omega
 |succ n=>
  have hs:∀w∈L,∃c,w=w.dropLast++[c]:=λw hw=>by
   have:w≠[]:=λe=>by have:=hl w hw;rw[e]at this;simp at this
   exact⟨w.getLast this,(List.dropLast_concat_getLast this).symm⟩
  have Jo:(L.map List.dropLast).Nodup:=by
   rw[List.Nodup,List.pairwise_map];refine List.Pairwise.imp_of_mem (λ{a b} ha hb hab=>?_) H.nd;intro e;obtain⟨c,BP⟩:=hs a ha;obtain⟨d,ed⟩:=hs b hb;have ma:=(H.mem a).mp ha;have uH:=(H.mem b).mp hb;have l1:∀c d:Bool,o4 (b.dropLast++[c]) (b.dropLast++[d])=(!c||d):=λc d=>by rw[Q2 rfl,aaU,Bool.true_and]
   have qs:o4 a b=(!c||d):=by
    conv=>lhs;rw[BP,ed,e]
    exact l1 c d
   have ba:o4 b a=(!d||c):=by
    conv=>lhs;rw[BP,ed,e]
    exact l1 d c
   cases c with
   |false=>
    have:=uH.2 a ma.1 (by rw[qs];rfl);exact hab this
   |true=>
    have:=ma.2 b uH.1 (by rw[ba];cases d<;>rfl);exact hab this.symm
  have q:=IZ n _ Jo λw hw=>by
   obtain⟨v,hv,rfl⟩:=List.mem_map.mp hw;rw[List.length_dropLast,hl v hv];rfl
  rw[List.length_map]at q;have:2^n<=2^11:=Nat.pow_le_pow_right (by omega) (by omega);omega
end
section
variable{M N:List ak}{UP UQ ahf:aK}{b h n:Nat}{TD:D}{MJ s3 s5:af}{VM:Str}{S:List gF}{r jP:vv}{P:Sg->gF->Prop}{len:Int}
def Mx (M:List ak)(X:af)(r:vv):Prop:=X=.dat (.dT (GV r))\/∃i,X=.mu i/\M[i]?=some (.fz (some (.dT (GV r))))
theorem Mx.ev (h:Mx M MJ r){ρ:List af}(e:ρ[4]?=some MJ)(m:ak):ah 4 ρ (M++[m])=.ret (.ok (.dat (.dT (GV r))) (M++[m])):=by
 rcases h with rfl|⟨i,rfl,hi⟩
 ·exact K6 e (by simp) rfl
 ·rw[Uv,e,Xx,UD,List.getElem?_append_left (List.getElem?_eq_some_iff.mp hi).1,hi,acg]
end
end R
namespace R
open PySem PySem.Spec PyProof.Rows L2
variable[aI]
section
open Builtin Builtin.Str
end
end R
namespace R
open PySem PySem.Spec PyProof.Rows L2
variable[aI]
end R
namespace R
open PySem PySem.Spec PyProof.Rows L2
variable[aI]
section
open Builtin Builtin.Str
end
end R
namespace R
open PySem PySem.Spec PyProof.Rows L2
variable[aI]
end R
namespace R
open PySem PySem.Spec PyProof.Rows L2
variable[aI]
section
open Builtin Builtin.Str
end
end R
namespace R
open PySem PySem.Spec PyProof.Rows L2
variable[aI]
section
variable{M:List ak}{t:cH}{z s:Str}{W:List Str}{tP tK:List D}{m:Nat}
abbrev nP (s:Str)(tP tK:List D):List af:=[.dat (.str s),.dat (.lst tP),.dat (.lst tK),.un,.un,.un,.un,.un,.un,.un]
abbrev Dk (s:Str)(tP tK x_:List D):List af:=[.dat (.str s),.dat (.lst tP),.dat (.lst tK),.un,.dat (.lst x_),.un,.un,.un,.un,.un]
end
section
variable{M:List ak}{t:cH}{z s:Str}{W:List Str}{tP tK x_:List D}{m:Nat}
abbrev Sy (s:Str)(tP tK x_ VN:List D):List af:=[.dat (.str s),.dat (.lst tP),.dat (.lst tK),.un,.dat (.lst x_),.un,.un,.dat (.lst VN),.un,.un]
end
end R
namespace R
open PySem PySem.Spec PyProof.Rows L2
abbrev vn:Type:=bf×Nat
def sA (q:vn):aL:=.t [.t [.i q.1.1,.i q.1.2],.i (q.2:Int)]
def zH (L:cu):aL:=.t (L.map sA)
def Sk (L:cu):aL:=.t [.i (L.length:Int),zH L]
def sX:aL->vn
 | .t [.t [.i a,.i b],.i c]=>((a,b),c.toNat)
 |_=>((0,0),0)
def As:aL->cu
 | .t ts=>ts.map sX
 |_=>[]
def Ub:aL->cu
 | .t [_,x]=>As x
 |_=>[]
theorem K1 (q:vn):sX (sA q)=q:=by
 obtain⟨⟨a,b⟩,c⟩:=q;show((a,b),((c:Nat):Int).toNat)=_
 rw[Int.toNat_natCast]
theorem Ua (L:cu):As (zH L)=L:=by
 show(L.map sA).map sX=L
 rw[List.map_map,show sX∘sA=id from funext K1,List.map_id]
theorem agi (L:cu):Ub (Sk L)=L:=Ua L
section
variable[aI]
theorem afp {α:Type}{f:α->aL}{l:List α}:∀t∈qh (pT (l.map f)),∃a∈l,t=f a:=λt ht=>by
 have:=I7.mp ((uX _).mem_iff.mp ht);obtain⟨a,h1,h2⟩:=List.mem_map.mp this;exact⟨a,h1,h2.symm⟩
theorem Rg {α:Type}{f:α->aL}{g:aL->α}(hg:∀a,g (f a)=a){l:List α}{a:α}:a∈(qh (pT (l.map f))).map g↔a∈l:=by
 rw[List.mem_map];constructor
 ·rintro⟨t,h1,h2⟩
  obtain⟨b,hb,rfl⟩:=afp t h1;rw[hg]at h2;rw[<-h2];exact hb
 ·exactλh=>⟨f a,(uX _).mem_iff.mpr (I7.mpr (List.mem_map.mpr ⟨a,h,rfl⟩)),hg a⟩
theorem BG:∀ts:List aL,(pT ts).length<=ts.length
 |[]=>Nat.le_refl _
 |t::ts=>by
  unfold pT;split
  ·exact Nat.le_succ_of_le (BG ts)
  ·exact Nat.succ_le_succ (BG ts)
def z5 (L:cu):cu:=(qh (pT (L.map sA))).map sX
theorem abG {q:vn}{L:cu}:q∈z5 L↔q∈L:=Rg K1
theorem adO (L:cu):(z5 L).length<=L.length:=by
 unfold z5;rw[List.length_map,(uX _).length_eq];exact Nat.le_trans (BG _) (by rw[List.length_map];exact Nat.le_refl _)
def z6 (fZ:List cu):List cu:=(qh (pT (fZ.map Sk))).map Ub
theorem abH {L:cu}{fZ:List cu}:L∈z6 fZ↔L∈fZ:=Rg agi
theorem adP (fZ:List cu):(z6 fZ).length<=fZ.length:=by
 unfold z6;rw[List.length_map,(uX _).length_eq];exact Nat.le_trans (BG _) (by rw[List.length_map];exact Nat.le_refl _)
def eE (fZ:List cu):List cu:=(qh (fZ.map zH)).map As
theorem S9 (fZ:List cu):(eE fZ).Perm fZ:=by
 have h:=(uX (fZ.map zH)).map As;rw[List.map_map,show As∘zH=id from funext Ua,List.map_id]at h;exact h
def J2 (L:cu):cu:=(qh (L.map sA)).map sX
theorem Td (L:cu):(J2 L).Perm L:=by
 have h:=(uX (L.map sA)).map sX;rw[List.map_map,show sX∘sA=id from funext K1,List.map_id]at h;exact h
end
def PN (r l:cu):Bool:=r.all λq=>decide (q∈l)
def zJ:List cu->List cu->List cu
 |[],acc=>acc
 |l::ls,acc=>zJ ls (if acc.any (λr=>PN r l)then acc else acc++[l])
theorem Ra:∀(ls acc:List cu),∀r∈zJ ls acc,r∈acc\/r∈ls
 |[],_,_,h=>.inl h
 |l::ls,acc,r,h=>by
  rcases Ra ls _ r h with z|z
  ·split at z
   ·exact .inl z
   ·rcases List.mem_append.mp z with y|y
    ·exact .inl y
    ·exact .inr (by rw[List.mem_singleton.mp y];exact List.mem_cons_self)
  ·exact .inr (List.mem_cons_of_mem _ z)
theorem Q_:∀(ls acc:List cu),(zJ ls acc).length<=acc.length+ls.length
 |[],acc=>Nat.le_refl _
 |l::ls,acc=>by
  have:=Q_ ls (if acc.any (λr=>PN r l)then acc else acc++[l]);show(zJ ls _).length<=_
  rw[List.length_cons];split at this
  ·rename_i c;rw[if_pos c];omega
  ·rename_i c;rw[if_neg c];simp at this;omega
section
variable[aI]
def p_ (fZ:List cu):List cu:=eE (zJ (z6 fZ) [])
theorem CT {fZ:List cu}{l:cu}(h:l∈p_ fZ):l∈fZ:=by
 rcases Ra _ _ _ ((S9 _).mem_iff.mp h)with z|z
 ·cases z
 ·exact abH.mp z
theorem aaV (fZ:List cu):(p_ fZ).length<=fZ.length:=by
 unfold p_;rw[(S9 _).length_eq];have:=Q_ (z6 fZ) [];have:=adP fZ;simp only[List.length_nil]at *;omega
def oX (A B:List cu):List cu:=A.flatMap λa=>B.map λb=>z5 (a++b)
theorem Rc {A B:List cu}{l:cu}:l∈oX A B↔∃a∈A,∃b∈B,l=z5 (a++b):=by
 unfold oX;rw[List.mem_flatMap];constructor
 ·rintro⟨a,ha,h⟩
  obtain⟨b,hb,e⟩:=List.mem_map.mp h;exact⟨a,ha,b,hb,e.symm⟩
 ·rintro⟨a,ha,b,hb,e⟩
  exact⟨a,ha,List.mem_map.mpr ⟨b,hb,e.symm⟩⟩
theorem aao (A B:List cu):(oX A B).length=A.length*B.length:=by
 unfold oX;induction A with
 |nil=>simp
 |cons a A ih=>rw[List.flatMap_cons,List.length_append,ih,List.length_map,List.length_cons,Nat.succ_mul];omega
def prodF (lists:List (List cu)):List cu:=lists.foldl (λf s=>p_ (oX f s)) [[]]
theorem So:∀(lists:List (List cu)) (A:List cu),(lists.foldl (λf s=>p_ (oX f s)) A).length<=lists.foldl (λn s=>n*s.length) A.length
 |[],A=>Nat.le_refl _
 |s::lists,A=>by
  rw[List.foldl_cons,List.foldl_cons];refine Nat.le_trans (So lists _) ?_;have mono:∀(ls:List (List cu)) (x y:Nat),x<=y->ls.foldl (λn s=>n*s.length) x<=ls.foldl (λn s=>n*s.length) y:=by
   intro ls;induction ls with
   |nil=>exactλ_ _ h=>h
   |cons l ls ih=>exactλx y h=>ih _ _ (Nat.mul_le_mul_right _ h)
  exact mono _ _ _ (Nat.le_trans (aaV _) (by rw[aao];exact Nat.le_refl _))
end
end R
namespace R
open PySem PySem.Spec PyProof.Rows L2
variable[aI]
section
variable{M N:List ak}{ρ:List af}{A B:List cu}{k:Int}{rows:List (Int×Str)}{w:Nat}{a:bf}
def JU (t:Nat)(r:List bf):cu:=J2 (r.map λx=>(x,t))
theorem SE {t:Nat}{r:List bf}:(JU t r).length=r.length:=by
 unfold JU;rw[(Td _).length_eq,List.length_map]
def Jx (rows:List (Int×Str))(a:bf)(t:Nat):List cu:=(Ds rows a.1 a.2).map (JU t)
def iW (n:Nat)(fZ:List cu):Prop:=∀L∈fZ,L.length<=n
theorem iW.aan {m n:Nat}(h1:iW m A)(h2:iW n B):iW (m+n) (oX A B):=λL hL=>by
 obtain⟨x,hx,y,hy,rfl⟩:=Rc.mp hL;have:=adO (x++y);have:=h1 x hx;have:=h2 y hy;rw[List.length_append]at *;omega
theorem iW.least {n:Nat}(h:iW n A):iW n (p_ A):=λL hL=>h L (CT hL)
theorem iW.mono {m n:Nat}(h:iW m A)(l:m<=n):iW n A:=λL hL=>Nat.le_trans (h L hL) l
end
section
variable{M N:List ak}{ρ:List af}{A B:List cu}{k:Int}{rows:List (Int×Str)}{w s:Nat}{a o:bf}{F:CE}{c:Nat}
def lY (k:Int)(rows:List (Int×Str))(s:Nat)(o:bf):List cu:=Jx rows o (KQ k rows o.1.toNat s)
def yF (k:Int)(rows:List (Int×Str))(s:Nat)(a o:bf):List cu:=prodF [lY k rows s a,lY k rows s (a.1,o.2),lY k rows s (o.1,a.2),lY k rows s o]
def A7 (k:Int)(rows:List (Int×Str))(w s:Nat)(a:bf):List cu:=(vQ (dZ 0 rows) rows.length w a).flatMap (yF k rows s a)
structure rE (rows:List (Int×Str))(w:Nat):Prop where
 r2:∀o∈dZ 0 rows,(Ds rows o.1 o.2).length<=2
 nQ:∀o∈dZ 0 rows,∀r∈Ds rows o.1 o.2,r≠[]/\r.length<=5
 c3:∀o∈dZ 0 rows,(vQ (dZ 0 rows) rows.length w o).length<=3
theorem rE.own (h:rE rows w)(ho:o∈dZ 0 rows):iW 5 (lY k rows s o)/\[]∉lY k rows s o/\(lY k rows s o).length<=2:=by
 unfold lY Jx;refine⟨λL hL=>?_,λz=>?_,by rw[List.length_map];exact h.r2 o ho⟩
 ·obtain⟨r,hr,rfl⟩:=List.mem_map.mp hL
  rw[SE];exact(h.nQ o ho r hr).2
 ·obtain⟨r,hr,e⟩:=List.mem_map.mp z
  have:=SE (t:=KQ k rows o.1.toNat s) (r:=r);rw[e]at this;exact(h.nQ o ho r hr).1 (List.length_eq_zero_iff.mp this.symm)
theorem iW.prod {n:Nat}:∀(lists:List (List cu)) (A:List cu) (m:Nat),iW m A->(∀B∈lists,iW n B)->iW (m+lists.length*n) (lists.foldl (λf s=>p_ (oX f s)) A)
 |[],A,m,h,_=>by simpa using h
 |B::lists,A,m,h,hB=>by
  have:=iW.prod lists (p_ (oX A B)) (m+n) (h.aan (hB B List.mem_cons_self)).least λC hC=>hB C (List.mem_cons_of_mem _ hC)
  rw[List.length_cons,Nat.succ_mul,show m+(lists.length*n+n)=m+n+lists.length*n by omega];exact this
theorem RK {A B:List cu}(h:[]∉A\/[]∉B):[]∉oX A B:=λz=>by
 obtain⟨x,hx,y,hy,e⟩:=Rc.mp z;have sub:∀q,q∈x++y->False:=λq hq=>by
  have:=abG.mpr hq;rw[<-e]at this;cases this
 have xe:x=[]:=List.eq_nil_iff_forall_not_mem.mpr λq hq=>sub q (List.mem_append_left _ hq)
 have ah4:y=[]:=List.eq_nil_iff_forall_not_mem.mpr λq hq=>sub q (List.mem_append_right _ hq)
 rcases h with h|h
 ·exact h (xe▸hx)
 ·exact h (ah4▸hy)
theorem RJ:∀(lists:List (List cu)) (A:List cu),[]∉A->[]∉lists.foldl (λf s=>p_ (oX f s)) A
 |[],_,h=>h
 |B::lists,A,h=>RJ lists _ λz=>RK (.inl h) (CT z)
theorem Xb (h:o∈vQ (dZ 0 rows) rows.length w a):(a.1,o.2)∈dZ 0 rows/\(o.1,a.2)∈dZ 0 rows/\o∈dZ 0 rows:=by
 unfold vQ at h;obtain⟨i,_,h⟩:=List.mem_flatMap.mp h;obtain⟨c,_,h⟩:=List.mem_flatMap.mp h;split at h
 ·rename_i e
  rw[List.mem_singleton]at h;subst h;unfold NH at e;simp only[Bool.and_eq_true,decide_eq_true_eq]at e;exact e.2.2
 ·cases h
theorem rE.BB (h:rE rows w)(ha:a∈dZ 0 rows)(ho:o∈vQ (dZ 0 rows) rows.length w a):iW 20 (yF k rows s a o)/\[]∉yF k rows s a o/\(yF k rows s a o).length<=16:=by
 obtain⟨h1,h2,h3⟩:=Xb ho;have a1:=h.own (k:=k) (s:=s) ha;have a2:=h.own (k:=k) (s:=s) h1;have a3:=h.own (k:=k) (s:=s) h2;have a4:=h.own (k:=k) (s:=s) h3;unfold yF;generalize lY k rows s a=dX at *;generalize lY k rows s (a.1,o.2)=L2 at *;generalize lY k rows s (o.1,a.2)=En at *;generalize lY k rows s o=Eo at *;refine⟨?_,?_,?_⟩
 ·refine(iW.prod (n:=5) [dX,L2,En,Eo] [[]] 0 (λL hL=>by rw[List.mem_singleton.mp hL];exact Nat.le_refl _) λB hB=>?_)
  simp only[List.mem_cons,List.not_mem_nil,or_false]at hB;rcases hB with rfl|rfl|rfl|rfl
  ·exact a1.1
  ·exact a2.1
  ·exact a3.1
  ·exact a4.1
 ·unfold prodF
  rw[List.foldl_cons];exact RJ _ _ λz=>RK (.inr a1.2.1) (CT z)
 ·have:=So [dX,L2,En,Eo] [[]]
  unfold prodF;simp only[List.foldl_cons,List.foldl_nil,List.length_cons,List.length_nil]at this⊢;have IL:(0+1)*dX.length*L2.length<=4:=Nat.le_trans (Nat.mul_le_mul (show(0+1)*dX.length<=2 by have:=a1.2.2;omega) a2.2.2) (by omega);have ajy:(0+1)*dX.length*L2.length*En.length*Eo.length<=16:=Nat.le_trans (Nat.mul_le_mul (Nat.mul_le_mul IL a3.2.2) a4.2.2) (by omega);omega
theorem Oh {α β:Type}{f:α->List β}{n:Nat}:∀{l:List α},(∀x∈l,(f x).length<=n)->(l.flatMap f).length<=l.length*n
 |[],_=>by simp
 |x::l,h=>by
  have:=Oh (l:=l) λy hy=>h y (List.mem_cons_of_mem _ hy)
  have:=h x List.mem_cons_self;rw[List.flatMap_cons,List.length_append,List.length_cons,Nat.succ_mul];omega
theorem rE.all (h:rE rows w)(ha:a∈dZ 0 rows):iW 20 (A7 k rows w s a)/\[]∉A7 k rows w s a/\(A7 k rows w s a).length<=48:=by
 unfold A7;refine⟨λL hL=>?_,λz=>?_,?_⟩
 ·obtain⟨o,ho,hL⟩:=List.mem_flatMap.mp hL
  exact(h.BB ha ho).1 L hL
 ·obtain⟨o,ho,hL⟩:=List.mem_flatMap.mp z
  exact(h.BB ha ho).2.1 hL
 ·exact Nat.le_trans (Oh λo ho=>(h.BB ha ho).2.2) (by have:=h.c3 a ha;omega)
end
section
variable{A B:List cu}{k:Int}{rows:List (Int×Str)}{w s n:Nat}{a o:bf}{ls:List Nat}{ws:dD}{P:vn->Prop}
def xR (P:vn->Prop)(fZ:List cu):Prop:=∀L∈fZ,∀q∈L,P q
theorem xR.least (h:xR P A):xR P (p_ A):=λL hL=>h L (CT hL)
theorem xR.nil:xR P [[]]:=λL hL q hq=>by rw[List.mem_singleton.mp hL]at hq;cases hq
end
abbrev UK:Type:=List (bf×List Nat)
section
variable{S:List (List Nat)->List ak}{dH aj3 n l p:Nat}{fs:List (Str×af)}{V:List Nat->D}{M N:List ak}{ρ:List af}{A:UK}{C:List (List Nat)}{k:Int}{rows:List (Int×Str)}{o:Str}{a0:bf}{L:cu}{ls:List Nat}{t tk:cH}{LH UR:aK}{good:List Nat->Prop}
theorem sd {f:Str}(h1:N[dH]?=some (.ins 4 fs))(hf:fs.lookup f=none):qM N f (.mu dH)=some 4:=by
 unfold qM
 dsimp only
 rw[h1]
 dsimp only
 rw[hf];rfl
end
section
variable{M N:List ak}{ρ:List af}{dH:Nat}{fs:List (Str×af)}{k:Int}{rows:List (Int×Str)}{o:Str}{a0:bf}{looks now:List Nat}{ws:dD}{t:cH}{LC ck UR:aK}{f:dD->List Nat}{pl:dD->D}
def TG (good:dD->Prop):List (bf×List (List Bool))->dD->Prop
 |[],ws=>good ws
 |(a,wl)::rest,ws=>good ws/\wl.length<=100000/\∀w∈wl,TG good rest (ws++[(a,w)])
end
end R
namespace R
open PySem PySem.Spec PyProof.Rows L2
end R
namespace R
open PySem PySem.Spec PyProof.Rows L2
variable[aI]
def n8 (b h l:Nat)(rows:List (Int×Str))(U:dD):Prop:=U.map (·.1)=dZ 0 rows/\∀q∈U,q.2.length=l/\Fg b h q.2=true
section
variable{b h l p m:Nat}{k:Int}{rows:List (Int×Str)}{w:Nat}{o:Str}{a a0:bf}{looks:List Nat}{L:cu}{v ws U:dD}{f:dD->List Nat}
theorem agK (hn:a∈ws.map (·.1)):(a,iG ws a)∈ws:=by
 unfold iG;obtain⟨q,hq,e⟩:=List.mem_map.mp hn;cases hf:ws.find? (λp=>decide (p.1=a))with
 |none=>
  rw[List.find?_eq_none]at hf;exact absurd (by simpa using e) (hf q hq)
 |some p=>
  have h1:=List.mem_of_find?_eq_some hf;have h2:=List.find?_some hf;have h3:p.1=a:=by simpa using h2
  show(a,p.2)∈ws
  rw[<-h3];exact h1
end
section
variable{b h l p:Nat}{k:Int}{rows:List (Int×Str)}{w:Nat}{a a0:bf}{o:Str}{U:dD}{v:List Bool}{M:List ak}{ls:List Nat}
theorem n8.upd (hU:n8 b h l rows U)(hv:v.length=l)(ha:Fg b h v=true):n8 b h l rows (DP U a v):=⟨by rw[agj];exact hU.1,λq hq=>by
 unfold DP at hq;obtain⟨p,hp,rfl⟩:=List.mem_map.mp hq;split
 ·exact⟨hv,ha⟩
 ·exact hU.2 p hp⟩
theorem n8.aa0 (hU:n8 b h l rows U)(ha:a∈dZ 0 rows):a∈U.map (·.1):=by rw[hU.1];exact ha
theorem n8.len (hU:n8 b h l rows U)(ha:a∈dZ 0 rows):(iG U a).length=l/\Fg b h (iG U a)=true:=hU.2 _ (agK (hU.aa0 ha))
theorem n8.few (hU:n8 b h l rows U)(hz:(dZ 0 rows).length<=16):U.length<=16:=by
 have:=congrArg List.length hU.1;rw[List.length_map]at this;omega
theorem n8.hh (hU:n8 b h l rows U)(rQ:xS k rows w)(hz:(dZ 0 rows).length<=16)(hm:l<=12)(hl:(l:Int)=(p:Int)*k)(dI:1<=p)(fS:p<=3):Ey k rows w (p:Int) U (dZ 0 rows) l where
 rQ:=rQ
 hw:=⟨⟨by rw[hU.1],Qu rows 0⟩,λq hq=>(hU.2 q hq).1,hU.few hz⟩
 hm:=hm
 Pb:=hl
 hK:=λa ha=>ha
 n1:=by omega
 n3:=by omega
end
end R
namespace R
class LT where
 T3:R.cH
 agc:R.cH
 tl:R.cH
 tr:R.cH
end R
namespace VL
open PySem PySem.Spec PyProof.Rows L2 R
variable[aI][iL:LT]
end VL
namespace R
open PySem PySem.Spec PyProof.Rows L2
variable[aI]
structure Flat (rows:List (Int×Str))(w:Nat):Prop where
 road:∀a∈dZ 0 rows,Ds rows a.1 a.2=[[a]]
 BB:∀a∈dZ 0 rows,vQ (dZ 0 rows) rows.length w a=[]
 line:∀a∈dZ 0 rows,∀c∈dZ 0 rows,a.1=c.1\/a.2=c.2
section
variable{b h l p m:Nat}{k:Int}{rows:List (Int×Str)}{w:Nat}{a:bf}{U:dD}{ls:List Nat}
theorem Flat.own (F:Flat rows w)(ha:a∈dZ 0 rows)(s:Nat):lY k rows s a=[[(a,KQ k rows a.1.toNat s)]]:=by
 unfold lY Jx;rw[F.road a ha,List.map_singleton];show[J2 ([a].map λx=>(x,_))]=_
 rw[List.map_singleton,List.perm_singleton.mp (Td _)]
end
section
variable{M:List ak}{Fk LH ahg ahe:aK}{x_ ahr:D}{b h l p:Nat}{k:Int}{rows:List (Int×Str)}{v:dD}{tl:cH}{w:Nat}
abbrev Xl (M:List ak)(us:dD):List ak:=M++[.dT (tX (t9 us))]
end
section
variable{M:List ak}{ρ aT:List af}{m:Bool}{f:CE}
@[simp]theorem al5:t7 m f ρ M=(f ρ M).bind (bH (AB m)):=id rfl
@[simp]theorem alE {L:List D}:AB false (.dat (.lst L)) M=.ret (.ok (.dat (.lst L)) M):=id rfl
end
abbrev pL:List (Str×List Str):=[("drop",["down","up"]),("feint",["up","down"])]
structure u9 (B:List ak):Prop where
 cl:Cl B
 hd:B[1]?=some .hand
section
variable{B:List ak}{U:dD}{v:List Bool}{a:bf}{b h l p:Nat}{k:Int}{rows:List (Int×Str)}{w:Nat}
theorem u9.two (hB:u9 B):1<B.length:=(List.getElem?_eq_some_iff.mp hB.hd).1
theorem u9.g1 (hB:u9 B)(U:dD):(Xl B U)[1]?=some .hand:=by
 show(B++_)[1]?=_
 rw[List.getElem?_append_left hB.two];exact hB.hd
theorem u9.n1 (hB:u9 B):gJ B (.mu 1)=.mu 1:=by rw[UD,hB.hd];rfl
end
structure LD (b h l:Nat)(k:Int)(rows:List (Int×Str))(w p:Nat)(d:Int)(r1:List (Str×Str)):Prop where
 rQ:xS k rows w
 few:rE rows w
 k6:(dZ 0 rows).length<=6
 V8:b<=6
 hb:b<h
 hh:h<=12
 hd:1<=d/\d<=2
 hp:(p:Int)=d
 hl:(l:Int)=(p:Int)*k
 l1:1<=l
 IL:l<=12
 r1:My d r1
section
variable{b h l p:Nat}{k:Int}{rows:List (Int×Str)}{w:Nat}{d:Int}{a:bf}{r1:List (Str×Str)}{f:Str}{v U:dD}
theorem LD.fS (F:LD b h l k rows w p d r1):p=1\/p=2\/p=3:=by have:=F.hd;have:=F.hp;omega
end
abbrev ahs:Type:=List Nat×cu
structure LF (b h l:Nat)(k:Int)(rows:List (Int×Str))(w p n:Nat)(d:Int)(r1:List (Str×Str)):Prop where
 rQ:xS k rows w
 few:rE rows w
 k6:(dZ 0 rows).length<=6
 V8:b<=6
 hb:b<h
 hh:h<=12
 hd:1<=d/\d<=2
 hn:(n:Int)=d
 np:n<=p
 q3:p<=3
 hl:(l:Int)=(p:Int)*k
 l1:1<=l
 IL:l<=12
 r1:My d r1
section
variable{b h l p n:Nat}{k:Int}{rows:List (Int×Str)}{w:Nat}{d:Int}{a:bf}{r1:List (Str×Str)}{v U:dD}
theorem LF.fS (F:LF b h l k rows w p n d r1):p=1\/p=2\/p=3:=by have:=F.hd;have:=F.hn;have:=F.np;have:=F.q3;omega
end
section
variable{M:List ak}
theorem Hi {α:Type}{g:dz}{b:dP}{F:α->D}{es:α->List D}{P:List af->Prop}:∀{xs:List α} {ρ:List af} {c:Nat} {L:List D},P ρ->
    (∀x∈xs,∀ρ c L,P ρ->c+(es x).length<4000->L.length+(es x).length<4000->∃aT gU,g (.dat (F x)) ρ=some aT/\b aT c L M=.ret (.ok (.nx gU (c+(es x).length) (L++es x)) M)/\P gU)->c+(xs.map es).flatten.length<4000->L.length+(xs.map es).flatten.length<4000->
    ∃cC,nB g b (xs.map F) ρ c L M=.ret (.ok (.nx cC (c+(xs.map es).flatten.length) (L++(xs.map es).flatten)) M)/\P cC
  |[],ρ,c,L,p,_,_,_=>⟨ρ,by simp[nB,R.ok],p⟩
  |x::xs,ρ,c,L,p,h,hc,hl=>by
    rw[List.map_cons,List.flatten_cons,List.length_append]at hc hl;obtain⟨aT,gU,e1,e2,cI⟩:=h x List.mem_cons_self ρ c L p (by omega) (by omega);obtain⟨cC,e3,fS⟩:=Hi (xs:=xs) (ρ:=gU) (c:=c+(es x).length) (L:=L++es x) cI (λy hy=>h y (List.mem_cons_of_mem _ hy)) (by omega) (by rw[List.length_append];omega);refine⟨cC,?_,fS⟩;rw[List.map_cons,nB,e1];show(b aT c L M).bind (bH (Hj (nB g b (xs.map F))))=_
    rw[e2];show nB g b (xs.map F) gU (c+(es x).length) (L++es x) M=_
    rw[e3,List.map_cons,List.flatten_cons,List.append_assoc,List.length_append,Nat.add_assoc]
end
theorem JV {n:Nat}:rng 0 n=(List.range n).map λi:Nat=>D.int (i:Int):=by
 unfold rng;simp
theorem Uw {ns:Nat->Bool}{np n:Nat}{b:Flt->dP}{f:aQ}{ss:List af}{M:List ak}:uh ns np n b f (.dat .non::ss) M=jR ns np n (b jK) ss M:=rfl
theorem agX {ns:Nat->Bool}{np n:Nat}{b:Flt->dP}{f:aQ}{ss:List af}{M:List ak}:uh ns np n b f (.dat (.bl true)::ss) M=lV ns np n f ss M:=rfl
def fL (t p ph b:Nat):List Nat:=(List.range b).filter λi=>decide ((ph+i)%t=p)
theorem Dq {t p ph b:Nat}:(fL t p ph b).length<=b:=by
 have:=List.length_filter_le (λi=>decide ((ph+i)%t=p)) (List.range b);rw[List.length_range]at this;exact this
def i6:Nat->List Str
 |0=>[Str.ofString ""]
 |n+1=>(i6 n).flatMap λb=>[b++Str.ofString "0",b++Str.ofString "1"]
theorem MX:∀n,(i6 n).length=2^n
 |0=>rfl
 |n+1=>by
  have ih:=MX n;unfold i6;rw[List.length_flatMap];simp only[List.length_cons,List.length_nil,List.map_const',List.sum_replicate_nat];rw[ih,Nat.pow_succ]
theorem Bj {n:Nat}(h:n<=6):(i6 n).length<=64:=by
 rw[MX];have:(2:Nat)^n<=2^6:=Nat.pow_le_pow_right (by omega) h;omega
def gY (ph:Nat)(z:Str):D:=.tup [.int (ph:Int),.str z]
abbrev kc (t p b ph:Nat):List D:=(i6 (fL t p ph b).length).map (gY ph)
def je (t p b:Nat):List D:=((List.range t).map λph=>kc t p b ph).flatten
theorem acO {t p b ph:Nat}(hb:b<=6):(kc t p b ph).length<=64:=by
 rw[List.length_map];exact Bj (Nat.le_trans Dq hb)
theorem Oe {f:Nat->List D}{m:Nat}(h:∀i,(f i).length<=m):∀{l:List Nat},(l.map f).flatten.length<=l.length*m
 |[]=>by simp
 |i::l=>by
  have:=Oe h (l:=l);have:=h i;rw[List.map_cons,List.flatten_cons,List.length_append,List.length_cons,Nat.succ_mul];omega
theorem JC {t p b:Nat}(hb:b<=6)(ht:t<=6):(je t p b).length<=384:=by
 have:=Oe (f:=λph=>kc t p b ph) (m:=64) (λi=>acO hb) (l:=List.range t);rw[List.length_range]at this;unfold je;have:t*64<=6*64:=Nat.mul_le_mul_right 64 ht;omega
def yo:aQ:=
 (bU (fO false [4] (f_ (ah 3)) (b7 4) (bZ (ay (cmp .Eq) (ay (bin .Mod) (ay (bin .Add) (ah 2) (ah 4)) (ah 0)) (ah 1))) (ah 4)))
def A_:aQ:=
  (aY (c_ 1 (fC false (aq (λ_=>ok (.dat (.str ""))) aB)))
  (aY (l6 (f_ (ah 0)) (b7 2) (pA [2] (c_ 1 (BN false [3,4] (fQ (ah 1)) (b7 3) fW (fQ (λ_=>ok (.dat (.str "01")))) [4] (b7 4) fW (ay (bin .Add) (ah 3) (ah 4))))))
  (bU (ah 1))))
def mF (Fc:aK):aQ:=
  (aY (l5 (bR Fc (aq (ah 0) (aq (λ_=>ok (.dat (.int 1))) (aq (λ_=>ok (.dat (.int 6))) aB)))))
  (l5 (bR Fc (aq (ah 1) (aq (λ_=>ok (.dat (.int 0))) (aq (ay (bin .Sub) (ah 0) (λ_=>ok (.dat (.int 1)))) aB))))))
def JB (ct:Flt):dP:=(Cb ct (dN (aq (ah 3) (aq (ah 4) aB))))
def JD (Fa Fr jl:aK)(ct:Flt):dP:=(yR (fQ (bR Fa (aq (bW (eH []) (aq (bR Fr (aq (ah 1) (aq (ah 2) (aq (ah 3) (aq (oG [(1,jl)] (ah 0)) aB))))) aB)) aB))) (b7 4) (JB ct))
def Dh (Fa Fr jl:aK)(ct:Flt):dP:=(yR (f_ (ah 1)) (b7 3) (JD Fa Fr jl ct))
def kZ (Fc:aK):aQ:=(l5 (bR Fc (aq (ah 1) (aq (ah 2) aB))))
def tS (Fc Fa Fr jl:aK)(ct:Flt):dP:=(r5 (r4 (kZ Fc)) (Dh Fa Fr jl ct))
section
variable{M:List ak}{t p b h ph n:Nat}{Fc Fa Fr jl:aK}{ns:Nat->Bool}{bh:D}{x y:Int}
theorem ada (ht:1<=t)(hb:b<=6):aX false 4 5 yo [.dat (.int (t:Int)),.dat (.int (p:Int)),.dat (.int (ph:Int)),.dat (.int (b:Int))] M=.ret (.ok (.dat (.lst ((fL t p ph b).map λi:Nat=>D.int (i:Int)))) M):=by
 have key:yo [.dat (.int (t:Int)),.dat (.int (p:Int)),.dat (.int (ph:Int)),.dat (.int (b:Int)),.un] M=.ret (.ok (.rt (.dat (.lst ((fL t p ph b).map λi:Nat=>D.int (i:Int))))) M):=by
  unfold yo;have e:fO false [4] (f_ (ah 3)) (b7 4) (bZ (ay (cmp .Eq) (ay (bin .Mod) (ay (bin .Add) (ah 2) (ah 4)) (ah 0)) (ah 1))) (ah 4) [.dat (.int (t:Int)),.dat (.int (p:Int)),.dat (.int (ph:Int)),.dat (.int (b:Int)),.un] M=.ret (.ok (.dat (.lst ((fL t p ph b).map λi:Nat=>D.int (i:Int)))) M):=by
   have it:f_ (ah 3) [.dat (.int (t:Int)),.dat (.int (p:Int)),.dat (.int (ph:Int)),.dat (.int (b:Int)),.un] M=.ret (.ok (.data ((List.range b).map λi:Nat=>D.int (i:Int))) M):=by
    have se:=Ii (M:=M) (n:=(b:Int)) (by omega) (by omega);rw[Int.toNat_natCast,JV]at se;rw[Uy,show ah 3 [.dat (.int (t:Int)),.dat (.int (p:Int)),.dat (.int (ph:Int)),.dat (.int (b:Int)),.un] M=.ret (.ok (.dat (.int (b:Int))) M)from by simp,gA,lA,se]
   rw[Lg,it,gA,lA,IY (by rw[List.length_map,List.length_range];omega)];rw[Gp (p:=λi=>decide ((ph+i)%t=p)) (h:=λi:Nat=>D.int (i:Int)) (by
    intro i _;have t0:(0:Int)<(t:Int):=by omega
    have q:(((ph:Int)+(i:Int))%(t:Int)=(p:Int))↔((ph+i)%t=p):=by
     have:((ph:Int)+(i:Int))%(t:Int)=(((ph+i)%t:Nat):Int):=by
      rw[Int.natCast_emod,Int.natCast_add]
     rw[this];omega
    have bm:bin .Mod M (.dat (.int ((ph:Int)+(i:Int)))) (.dat (.int (t:Int)))=some (.dat (.int (((ph:Int)+(i:Int))%(t:Int))),M):=MW t0;by_cases c:(ph+i)%t=p
    ·have c2:=q.mpr c
     simp[bm,c,c2]
    ·have c2:¬((ph:Int)+(i:Int))%(t:Int)=(p:Int):=λz=>c (q.mp z)
     simp[bm,c,c2])]
   rfl
  generalize fO false [4] (f_ (ah 3)) (b7 4) (bZ (ay (cmp .Eq) (ay (bin .Mod) (ay (bin .Add) (ah 2) (ah 4)) (ah 0)) (ah 1))) (ah 4)=ahd at *;simp[e]
 rw[lI (by rfl)];show(yo [.dat (.int (t:Int)),.dat (.int (p:Int)),.dat (.int (ph:Int)),.dat (.int (b:Int)),.un] M).bind _=_
 rw[key,gA,uT,fN rfl]
theorem Wg (hn:n<=6):A_ [.dat (.int (n:Int)),.un,.un,.un,.un] M=.ret (.ok (.rt (.dat (.lst ((i6 n).map .str)))) M):=by
 rcases(show n=0\/n=1\/n=2\/n=3\/n=4\/n=5\/n=6 by omega)with rfl|rfl|rfl|rfl|rfl|rfl|rfl<;>kernel_rfl
theorem Wh (hn:n<=6):aX false 1 5 A_ [.dat (.int (n:Int))] M=.ret (.ok (.dat (.lst ((i6 n).map .str))) M):=by
 rw[lI (by rfl)];show(A_ [.dat (.int (n:Int)),.un,.un,.un,.un] M).bind _=_
 rw[Wg hn,gA,uT,fN rfl]
theorem W2 (h1:1<=x/\x<=6)(h2:0<=y/\y<=x-1):aX false 2 2 (mF (aX false 3 3 (jY 12))) [.dat (.int x),.dat (.int y)] M=.ret (.ok (.dat .non) M):=by
 have c1:=rS (M:=M) (x:=x) (lo:=1) (hi:=6) (c:=12);have c2:=rS (M:=M) (x:=y) (lo:=0) (hi:=x-1) (c:=12);rw[if_pos h1]at c1;rw[if_pos h2]at c2;have key:mF (aX false 3 3 (jY 12)) [.dat (.int x),.dat (.int y)] M=.ret (.ok (.nx [.dat (.int x),.dat (.int y)]) M):=by
  unfold mF;generalize aX false 3 3 (jY 12)=LB at *;simp[c1,c2]
 rw[lI (by rfl)];show(mF _ [.dat (.int x),.dat (.int y)] M).bind _=_
 rw[key,gA];show T.ret (Re.ok _ (cut M.length M))=_
 rw[fN rfl]
theorem Nj (h1:¬(1<=x/\x<=6)):aX false 2 2 (mF (aX false 3 3 (jY 12))) [.dat (.int x),.dat (.int y)] M=.ret (.ex 12 (ir x) M):=by
 have c1:=rS (M:=M) (x:=x) (lo:=1) (hi:=6) (c:=12);rw[if_neg h1]at c1;have key:mF (aX false 3 3 (jY 12)) [.dat (.int x),.dat (.int y)] M=.ret (.ex 12 (ir x) M):=by
  unfold mF;generalize aX false 3 3 (jY 12)=LB at *;simp[c1]
 rw[lI (by rfl)];show(mF _ [.dat (.int x),.dat (.int y)] M).bind _=_
 rw[key,gA,zX,fN rfl]
theorem Nk (h1:1<=x/\x<=6)(h2:¬(0<=y/\y<=x-1)):aX false 2 2 (mF (aX false 3 3 (jY 12))) [.dat (.int x),.dat (.int y)] M=.ret (.ex 12 (ir y) M):=by
 have c1:=rS (M:=M) (x:=x) (lo:=1) (hi:=6) (c:=12);have c2:=rS (M:=M) (x:=y) (lo:=0) (hi:=x-1) (c:=12);rw[if_pos h1]at c1;rw[if_neg h2]at c2;have key:mF (aX false 3 3 (jY 12)) [.dat (.int x),.dat (.int y)] M=.ret (.ex 12 (ir y) M):=by
  unfold mF;generalize aX false 3 3 (jY 12)=LB at *;simp[c1,c2]
 rw[lI (by rfl)];show(mF _ [.dat (.int x),.dat (.int y)] M).bind _=_
 rw[key,gA,zX,fN rfl]
theorem Yr {f g:dP}{ρ aT:List af}{c c1:Nat}{L dX:List D}{M1:List ak}(e:f ρ c L M=.ret (.ok (.nx aT c1 dX) M1)):r5 f g ρ c L M=g aT c1 dX M1:=by
 unfold r5;show(f ρ c L M).bind _=_
 rw[e];rfl
theorem ad3 (hb:b<=6)(h1:1<=t)(cN:t<=6)(hcl:clsAt M (.dat bh)=some 1)(hc:Fc [.dat (.int (t:Int)),.dat (.int (p:Int))] M=.ret (.ok (.dat .non) M))(Y3:jl [.dat bh] M=.ret (.ok (.dat (.int (b:Int))) M))
    (hr:∀ph:Nat,Fr [.dat (.int (t:Int)),.dat (.int (p:Int)),.dat (.int (ph:Int)),.dat (.int (b:Int))] M=.ret (.ok (.dat (.lst ((fL t p ph b).map λi:Nat=>D.int (i:Int)))) M))
    (ha:∀n:Nat,n<=6->Fa [.dat (.int (n:Int))] M=.ret (.ok (.dat (.lst ((i6 n).map .str))) M)) {fs:aQ}:
    uh ns 3 5 (tS Fc Fa Fr jl) fs [.dat .non,.dat bh,.dat (.int (t:Int)),.dat (.int (p:Int))] M=.ret (.ok (.dat (.lst (je t p b))) M):=by
  have mid:∀ph:Nat,∀ρ c (L:List D),(∃s,ρ=[af.dat bh,.dat (.int (t:Int)),.dat (.int (p:Int)),.dat (.int (ph:Int)),s])->c+(kc t p b ph).length<4000->L.length+(kc t p b ph).length<4000->
      ∃cC,JD Fa Fr jl jK ρ c L M=.ret (.ok (.nx cC (c+(kc t p b ph).length) (L++kc t p b ph)) M)/\∃s,cC=[af.dat bh,.dat (.int (t:Int)),.dat (.int (p:Int)),.dat (.int (ph:Int)),s]:=by
    intro ph ρ c L Z3 hc1 hl1;obtain⟨s,rfl⟩:=Z3;have NW:∀l:List Str,(l.map λz=>[gY ph z]).flatten=l.map (gY ph):=λl=>by
      induction l with
      |nil=>rfl
      |cons a l ih=>rw[List.map_cons,List.flatten_cons,ih,List.map_cons];rfl
    have ef:((i6 (fL t p ph b).length).map λz=>[gY ph z]).flatten=kc t p b ph:=NW _;have go:=Hi (M:=M) (g:=b7 4) (b:=JB jK) (F:=D.str) (es:=λz=>[gY ph z]) (P:=λρ=>∃s,ρ=[af.dat bh,.dat (.int (t:Int)),.dat (.int (p:Int)),.dat (.int (ph:Int)),s]) (xs:=i6 (fL t p ph b).length) (ρ:=[af.dat bh,.dat (.int (t:Int)),.dat (.int (p:Int)),.dat (.int (ph:Int)),s]) (c:=c) (L:=L) ⟨s,rfl⟩
      (λz hz ρ c L ⟨s,e⟩ hc2 hl2=>by
        subst e;refine⟨[.dat bh,.dat (.int (t:Int)),.dat (.int (p:Int)),.dat (.int (ph:Int)),.dat (.str z)],[.dat bh,.dat (.int (t:Int)),.dat (.int (p:Int)),.dat (.int (ph:Int)),.dat (.str z)],rfl,?_,_,rfl⟩;have XJ:Ev.bind (dN (aq (ah 3) (aq (ah 4) aB)) [.dat bh,.dat (.int (t:Int)),.dat (.int (p:Int)),.dat (.int (ph:Int)),.dat (.str z)]) frz M=.ret (.ok (gY ph z) M):=by simp[gY]
        unfold JB Cb;show(Ev.bind (dN _ _) frz M).bind _=_
        rw[XJ,gA];show AD jK _ c L (gY ph z) M=_
        unfold AD;rw[show jK (gY ph z)=some [gY ph z]from rfl]
        dsimp only
        rw[if_pos ⟨by simp at hc2;omega,by simp at hl2;omega⟩];rfl) (by rw[ef];exact hc1) (by rw[ef];exact hl1)
    rw[ef]at go;obtain⟨cC,e,q⟩:=go;refine⟨cC,?_,q⟩;have it:fQ (bR Fa (aq (bW (eH []) (aq (bR Fr (aq (ah 1) (aq (ah 2) (aq (ah 3) (aq (oG [(1,jl)] (ah 0)) aB))))) aB)) aB)) [.dat bh,.dat (.int (t:Int)),.dat (.int (p:Int)),.dat (.int (ph:Int)),s] M=.ret (.ok (.data ((i6 (fL t p ph b).length).map .str)) M):=by
      have r1:=hr ph;have adl:=Dq (t:=t) (p:=p) (ph:=ph) (b:=b);have a1:=ha (fL t p ph b).length (by omega);have zG:((i6 (fL t p ph b).length).map D.str).length<16777216:=by
        rw[List.length_map];have:=Bj (n:=(fL t p ph b).length) (by omega);omega
      have l2:((fL t p ph b).map λi:Nat=>D.int (i:Int)).length=(fL t p ph b).length:=List.length_map _;have qO:(fL t p ph b).length<=16777216:=by omega
      have acS:∀(s:af) (M:List ak),JI [(1,jl)] s M (some 1)=(jl [s] M).bind iD:=λ_ _=>rfl
      clear e ef NW;generalize(i6 (fL t p ph b).length).map D.str=U6 at *;generalize(fL t p ph b).map (λi:Nat=>D.int (i:Int))=Ep at *;generalize(fL t p ph b).length=m at *;simp[hcl,acS,Y3,r1,l2,qO,a1,zG]
    show(Ev.bind (fQ _ _) (Ox _ _ _ c L)) M=_
    show(fQ _ _ M).bind _=_
    rw[it];exact e
  have zG:=JC (p:=p) hb cN;have go:=Hi (M:=M) (g:=b7 3) (b:=JD Fa Fr jl jK) (F:=λi:Nat=>D.int (i:Int)) (es:=λph=>kc t p b ph) (P:=λρ=>∃s1 s2,ρ=[af.dat bh,.dat (.int (t:Int)),.dat (.int (p:Int)),s1,s2]) (xs:=List.range t) (ρ:=[.dat bh,.dat (.int (t:Int)),.dat (.int (p:Int)),.un,.un]) (c:=0) (L:=[]) ⟨_,_,rfl⟩
    (λm _ ρ c L ⟨s,u,e⟩ hc2 hl2=>by
      subst e;obtain⟨cC,e1,s1,rfl⟩:=mid m [.dat bh,.dat (.int (t:Int)),.dat (.int (p:Int)),.dat (.int (m:Int)),u] c L ⟨u,rfl⟩ hc2 hl2;exact⟨_,_,rfl,e1,_,_,rfl⟩) (by show 0+(je t p b).length<4000;omega) (by show 0+(je t p b).length<4000;omega)
  obtain⟨cC,e,_⟩:=go;have it:f_ (ah 1) [.dat bh,.dat (.int (t:Int)),.dat (.int (p:Int)),.un,.un] M=.ret (.ok (.data ((List.range t).map λi:Nat=>D.int (i:Int))) M):=by
    have se:=Ii (M:=M) (n:=(t:Int)) (by omega) (by omega);rw[Int.toNat_natCast,JV]at se;rw[Uy,show ah 1 [.dat bh,.dat (.int (t:Int)),.dat (.int (p:Int)),.un,.un] M=.ret (.ok (.dat (.int (t:Int))) M)from by simp,gA,lA,se]
  have pl:r4 (kZ Fc) [.dat bh,.dat (.int (t:Int)),.dat (.int (p:Int)),.un,.un] 0 [] M=.ret (.ok (.nx [.dat bh,.dat (.int (t:Int)),.dat (.int (p:Int)),.un,.un] 0 []) M):=by
    have q:kZ Fc [.dat bh,.dat (.int (t:Int)),.dat (.int (p:Int)),.un,.un] M=.ret (.ok (.nx [.dat bh,.dat (.int (t:Int)),.dat (.int (p:Int)),.un,.un]) M):=by
      unfold kZ;simp[hc]
    unfold r4;show(kZ _ _ M).bind _=_
    rw[q];rfl
  rw[Uw];unfold jR;rw[if_pos (show([af.dat bh,.dat (.int (t:Int)),.dat (.int (p:Int))]:List af).length=3 from rfl)];show(tS Fc Fa Fr jl jK [.dat bh,.dat (.int (t:Int)),.dat (.int (p:Int)),.un,.un] 0 [] M).bind _=_
  unfold tS;rw[show r5 (r4 (kZ Fc)) (Dh Fa Fr jl jK) [.dat bh,.dat (.int (t:Int)),.dat (.int (p:Int)),.un,.un] 0 [] M=.ret (.ok (.nx cC (0+(je t p b).length) ([]++je t p b)) M)from by
    rw[Yr pl];unfold Dh;show(f_ _ _ M).bind _=_
    rw[it];exact e]
  show T.ret (Re.ok _ (cut M.length M))=_
  rw[fN rfl,List.nil_append]
theorem Sm {xs:List (Str×D)}{d1 d2:D}{fs:aQ}(hc:Fc [.dat d1,.dat d2] M=.ret (.ex 12 xs M))(hn:ns 12=true):uh ns 3 5 (tS Fc Fa Fr jl) fs [.dat .non,.dat bh,.dat d1,.dat d2] M=.ret (.ex 12 xs M):=by
 have q:kZ Fc [.dat bh,.dat d1,.dat d2,.un,.un] M=.ret (.ex 12 xs M):=by
  unfold kZ;simp[hc]
 rw[Uw];unfold jR;rw[if_pos (show([af.dat bh,.dat d1,.dat d2]:List af).length=3 from rfl)];show(tS Fc Fa Fr jl jK [.dat bh,.dat d1,.dat d2,.un,.un] 0 [] M).bind _=_
 unfold tS;rw[show r5 (r4 (kZ Fc)) (Dh Fa Fr jl jK) [.dat bh,.dat d1,.dat d2,.un,.un] 0 [] M=.ret (.ex 12 xs M)from by
  unfold r5 r4;show((kZ _ _ M).bind _).bind _=_
  rw[q];rfl]
 show(if ns 12=true then(R.T.ret (.ex 12 xs (cut M.length M)):T (Re af))else .bad)=_
 rw[if_pos hn,fN rfl]
theorem Sl {xs:List (Str×D)}{d1 d2:D}{Wc:Flt->dP}(hc:Fc [.dat d1,.dat d2] M=.ret (.ex 12 xs M))(hn:ns 12=true):uh ns 3 5 Wc (kZ Fc) [.dat (.bl true),.dat bh,.dat d1,.dat d2] M=.ret (.ex 12 xs M):=by
 have q:kZ Fc [.dat bh,.dat d1,.dat d2,.un,.un] M=.ret (.ex 12 xs M):=by
  unfold kZ;simp[hc]
 rw[agX];unfold lV;rw[if_pos (show([af.dat bh,.dat d1,.dat d2]:List af).length=3 from rfl)];show(kZ Fc [.dat bh,.dat d1,.dat d2,.un,.un] M).bind _=_
 rw[q];show(if ns 12=true then(R.T.ret (.ex 12 xs (cut M.length M)):T (Re af))else .bad)=_
 rw[if_pos hn,fN rfl]
end
end R
namespace g8
open PySem PySem.Spec PyProof.Rows L2 R
local macro_rules|`(tactic|walk_at"sz")=>`(tactic|simp(maxSteps:=5000000) (disch:=first|omega|(simp[*];done)|((simp only[Str.length_append,List.length_cons,List.length_nil,List.length_map,List.length_append,List.length_take,List.length_drop,List.length_replicate])<;>omega)) [*,-kMak_r,-List.map_take,-List.map_drop,-insAt_board])
section
variable{n:Nat}{k r:Int}{rows:List (Int×Str)}{w:Nat}{K dX:List bf}{a:bf}{ah9:D}{M:List ak}{x y:D}{T:List D}
abbrev VP (n:Nat):cH:=[]
abbrev TE (n:Nat):cH:=[(1,aR aS (n) 24),(3,aR aS (n) 25)]
theorem afM:aR aS (n+2) 15=aX false 2 2 (ym mV (VP (n+1))):=rfl
theorem abi {d:D}(g:good 6 d=true):aR aS (n+7) 19 [.dat d,.dat d] M=o9 (.bl true) M:=abk (L:=λn=>aR aS n 19) (λn=>WD) (show 6<=n+6 by omega) g
theorem X3 (C:Nat->aK)(x:Int)(M:List ak):vE C [.dat (.exc 12 (ir x))] M=.ret (.ok (.rt (.dat (.tup [.int x]))) M):=by kernel_rfl
theorem xF {i:Nat}{j:Int}(hm:M.all fR=true)(hi:i<6){ws:List D}(e:aR aS (n+1) (29+i) (ws.map .dat) M=.ret (.ex 12 (ir j) M)):aR aS (n+2) 17 [.dat (.cL i ws)] M=o9 (.tup [.str "BadNumber",.int j]) M:=by
 rw[WB];refine ag6 (aaF hi) e rfl rfl rfl ?_ rfl hm (by simp);rw[WC,lI (by rfl)];show(vE _ [.dat (.exc 12 (ir j))] M).bind _=_
 rw[X3,gA,uT,fN rfl]
theorem C1 {b h:Nat}(hM:Cl M)(h1:b<=6)(h2:b<h)(h3:h<=12):uA true 1 (aR aS (n+2) 14) [.dat (.int (b:Int)),.dat (.int (h:Int))] M=o9 (cD b h) M:=by
 rw[show aR aS (n+2) 14=aX false 3 3 (Fo (aX false 3 3 (jY 12)))from rfl,abI hM,if_pos ⟨by omega,by omega⟩,if_pos ⟨by omega,by omega⟩];rfl
end
end g8
namespace g8
open PySem PySem.Spec PyProof.Rows L2 R
abbrev bB (L:List D):List ak:=[.tab 0,.hand,.fz (some (.lst L))]
abbrev eB (x:Int):D:=.tup [.str "BadNumber",.int x]
abbrev fF:D:=S4 1 []
def zZ:aQ:=(xh (pA [11] (c_ 10 (ay (bin .Add) (fO false [12] (fQ (ah 10)) (b7 12) fW (ay (bin .Add) (ah 12) (λ_=>ok (.dat (.str "0"))))) (fO false [12] (fQ (ah 10)) (b7 12) fW (ay (bin .Add) (ah 12) (λ_=>ok (.dat (.str "1")))))))))
def Dl:CE:=(fO false [9] (zw (ah 7) (ay (bin .Add) (ah 7) (ah 2))) (b7 9) (bZ (ay (cmp .Eq) (ay (bin .Mod) (bW (pu gb) (aq (ah 9) aB)) (ah 3)) (ah 4))) (ah 9))
def zS:CE:=(fO false [12] (fQ (bW (pu (xu false)) (aq (ah 10) aB))) (b7 12) fW (dN (aq (ah 7) (aq (ah 12) aB))))
def vS:aQ:=(xh (pA [7,8,10,11] (aY (c_ 8 (bW (eH []) (aq Dl aB)))
  (aY (c_ 10 (fC false (aq (λ_=>ok (.dat (.str ""))) aB)))
  (aY (l6 (f_ (ah 8)) (b7 11) zZ)
  (c_ 6 (ay (bin .Add) (ah 6) zS)))))))
def IX (C:Nat->aK):CE:=(BO (bR (λss=>C 2 (.dat .non::ss)) (aq (ah 5) (aq (ah 3) (aq (ah 4) aB)))))
def CP (C:Nat->aK):aQ:=(aY (c_ 13 (fC true aB))
  (aY (xj 13 14 (IX C))
  (aY (dF (tOr (tNot (bZ (bR (C 19) (aq (vW (ah 13)) (aq (ah 6) aB))))) (bZ (ay (cmp .NotEq) (t7 false (vU (λss=>C 2 (.dat .non::ss)) [0,1,2] aB (aq (ah 5) (aq (ah 3) (aq (ah 4) aB))))) (ah 6)))) (bU (λ_=>ok (.dat (.bl false)))) d8)
  (aY (q6 (lK 2 (gx (b7 15) (gx (b7 16) mJ))) (dN (aq (bR (C 15) (aq (ah 1) (aq (fC false (aq (λ_=>ok (.dat (.int 0))) (aq (λ_=>ok (.dat (.int 7))) (aq (cM sC (λ_=>ok (.dat (.int 1)))) (aq (ay (bin .Pow) (λ_=>ok (.dat (.int 10))) (λ_=>ok (.dat (.int 9)))) aB))))) aB))) (aq (bR (C 15) (aq (ah 1) (aq (fC false (aq (cM sC (λ_=>ok (.dat (.int 1)))) (aq (ah 3) (aq (ay (bin .Pow) (λ_=>ok (.dat (.int 10))) (λ_=>ok (.dat (.int 9)))) aB)))) aB))) aB))))
  (aY (c_ 17 (t6 true 3 (C 8) (aq (λ_=>ok (.dat (.int 1))) (aq (fC false aB) aB))))
  (aY (c_ 18 (fC false (aq (jr 0 0) (aq (jr 0 1) (aq (jr 0 2) aB)))))
  (aY (c_ 18 (ay (bin .Add) (ah 18) (fC false (aq (jr 0 3) (aq (jr 0 4) (aq (jr 0 5) aB))))))
  (bU (ay (cmp .Eq) (BJ (pQ rR) (C 16) (ah 18)) (ay (bin .Add) (fC false (aq (dN (aq (λ_=>ok (.dat (.str "BadNumber"))) (aq (ah 15) aB))) (aq (dN (aq (λ_=>ok (.dat (.str "BadNumber"))) (aq (ah 16) aB))) aB))) (ay (bin .Mult) (fC false (aq (dN (aq (λ_=>ok (.dat (.str "BadNumber"))) (aq (ah 15) aB))) (aq (dN (aq (λ_=>ok (.dat (.str "BadNumber"))) (aq (ah 16) aB))) aB))) (λ_=>ok (.dat (.int 2))))))))))))))
def QZ (C:Nat->aK):aQ:=(aY (c_ 1 (bR (C 0) (aq (ah 0) aB)))
  (aY (q6 (lK 2 (gx (b7 2) (gx (b7 3) mJ))) (dN (aq (bR (C 1) (aq (ah 1) (aq (λ_=>ok (.dat (.int 7))) aB))) (aq (ay (bin .Add) (λ_=>ok (.dat (.int 1))) (bR (C 1) (aq (ah 1) (aq (λ_=>ok (.dat (.int 6))) aB)))) aB))))
  (aY (q6 (lK 2 (gx (b7 4) (gx (b7 5) mJ))) (dN (aq (bR (C 1) (aq (ah 1) (aq (ah 3) aB))) (aq (t6 true 1 (C 14) (aq (ah 2) (aq (ay (bin .Add) (ay (bin .Add) (ah 2) (λ_=>ok (.dat (.int 1)))) (bR (C 1) (aq (ah 1) (aq (λ_=>ok (.dat (.int 3))) aB)))) aB))) aB))))
  (aY (c_ 6 (fC false aB))
  (aY (l6 (f_ (ah 3)) (b7 7) vS)
  (CP C))))))
theorem aaM (C:Nat->aK):Bf C=QZ C:=rfl
def qd:Nat->List Str
 |0=>[Str.ofString ""]
 |n+1=>(qd n).map (λb=>b++Str.ofString "0")++(qd n).map (λb=>b++Str.ofString "1")
abbrev gI (s0:D)(b t p:Nat)(bh A:D)(qe adL adD adE:af):List af:=[.dat s0,.mu 1,.dat (.int (b:Int)),.dat (.int (t:Int)),.dat (.int (p:Int)),.dat bh,.dat A,qe,adL,.un,adD,adE,.un,.un,.un,.un,.un,.un,.un]
section
variable{s0 bh:D}{b t p ph r:Nat}{A:List D}
theorem ado (hr:r<=6):l6 (f_ (ah 8)) (b7 11) zZ (gI s0 b t p bh (.lst A) (.dat (.int (ph:Int))) (.dat (.int (r:Int))) (.dat (.lst [.str ""])) .un) N0=.ret (.ok (.nx (gI s0 b t p bh (.lst A) (.dat (.int (ph:Int))) (.dat (.int (r:Int))) (.dat (.lst ((qd r).map .str))) .un)) N0):=by
 rcases(show r=0\/r=1\/r=2\/r=3\/r=4\/r=5\/r=6 by omega)with rfl|rfl|rfl|rfl|rfl|rfl|rfl<;>kernel_rfl
theorem afl (hr:r<=6):xu false N0 [.dat (.lst ((qd r).map .str))]=some (.dat (.lst ((i6 r).map .str)),N0):=by
 rcases(show r=0\/r=1\/r=2\/r=3\/r=4\/r=5\/r=6 by omega)with rfl|rfl|rfl|rfl|rfl|rfl|rfl<;>kernel_rfl
theorem ad9 (ht:1<=t)(cN:t<=6)(hb:b<=6)(Pj:ph<=6):Dl (gI s0 b t p bh (.lst A) (.dat (.int (ph:Int))) .un .un .un) N0=.ret (.ok (.dat (.lst ((fL t p ph b).map λi:Nat=>D.int ((ph:Int)+(i:Int))))) N0):=by
 have it:zw (ah 7) (ay (bin .Add) (ah 7) (ah 2)) (gI s0 b t p bh (.lst A) (.dat (.int (ph:Int))) .un .un .un) N0=.ret (.ok (.data ((List.range b).map λi:Nat=>D.int ((ph:Int)+(i:Int)))) N0):=by
  have e1:ah 7 (gI s0 b t p bh (.lst A) (.dat (.int (ph:Int))) .un .un .un) N0=.ret (.ok (.dat (.int (ph:Int))) N0):=by simp[gI]
  have e2:ay (bin .Add) (ah 7) (ah 2) (gI s0 b t p bh (.lst A) (.dat (.int (ph:Int))) .un .un .un) N0=.ret (.ok (.dat (.int ((ph:Int)+(b:Int)))) N0):=by simp[gI]
  have e3:zY (.dat (.int (ph:Int))) (.dat (.int ((ph:Int)+(b:Int))))=some (.data ((List.range b).map λi:Nat=>D.int ((ph:Int)+(i:Int)))):=by
   unfold zY
   dsimp only
   rw[if_pos ⟨by omega,by omega,by omega,by omega⟩,show((ph:Int)+(b:Int)-(ph:Int)).toNat=b by omega];rfl
  unfold zw;show(ah 7 _ N0).bind _=_
  rw[e1,gA,lA];show(ay _ _ _ _ N0).bind _=_
  rw[e2,gA,lA];show wY (zY _ _) N0=_
  rw[e3];rfl
 unfold Dl;rw[Lg,it,gA,lA,IY (by rw[List.length_map,List.length_range];omega)];rw[Gp (p:=λi=>decide ((ph+i)%t=p)) (h:=λi:Nat=>D.int ((ph:Int)+(i:Int))) (by
  intro i _;have t0:(0:Int)<(t:Int):=by omega
  have q:(((ph:Int)+(i:Int))%(t:Int)=(p:Int))↔((ph+i)%t=p):=by
   have:((ph:Int)+(i:Int))%(t:Int)=(((ph+i)%t:Nat):Int):=by
    rw[Int.natCast_emod,Int.natCast_add]
   rw[this];omega
  have bm:bin .Mod N0 (.dat (.int ((ph:Int)+(i:Int)))) (.dat (.int (t:Int)))=some (.dat (.int (((ph:Int)+(i:Int))%(t:Int))),N0):=MW t0;have PB:gb N0 [.dat (.int ((ph:Int)+(i:Int)))]=some (.dat (.int ((ph:Int)+(i:Int))),N0):=rfl;by_cases c:(ph+i)%t=p
  ·have c2:=q.mpr c
   simp[gI,PB,bm,c,c2]
  ·have c2:¬((ph:Int)+(i:Int))%(t:Int)=(p:Int):=λz=>c (q.mp z)
   simp[gI,PB,bm,c,c2])]
 rfl
theorem acM (hr:r<=6):zS (gI s0 b t p bh (.lst A) (.dat (.int (ph:Int))) (.dat (.int (r:Int))) (.dat (.lst ((qd r).map .str))) .un) N0=.ret (.ok (.dat (.lst ((i6 r).map (gY ph)))) N0):=by
 have so:=afl hr;have zG:((i6 r).map D.str).length<16777216:=by
  rw[List.length_map];have:=Bj hr;omega
 have it:fQ (bW (pu (xu false)) (aq (ah 10) aB)) (gI s0 b t p bh (.lst A) (.dat (.int (ph:Int))) (.dat (.int (r:Int))) (.dat (.lst ((qd r).map .str))) .un) N0=.ret (.ok (.data ((i6 r).map .str)) N0):=by
  generalize(i6 r).map D.str=U6 at *;generalize(qd r).map D.str=Ep at *;simp[gI,so,zG]
 unfold zS;rw[Lg,it,gA,lA,IY zG];rw[Gq (h:=gY ph) (by
  intro z _;generalize(qd r).map D.str=Ep at *;simp[gI,gY])]
 rfl
theorem Xs (ht:1<=t)(cN:t<=6)(hb:b<=6)(Pj:ph<=6)(hA:A.length<=1000):vS (gI s0 b t p bh (.lst A) (.dat (.int (ph:Int))) .un .un .un) N0=.ret (.ok (.nx (gI s0 b t p bh (.lst (A++kc t p b ph)) .un .un .un .un)) N0):=by
 have e1:=ad9 (s0:=s0) (bh:=bh) (p:=p) (A:=A) ht cN hb Pj;have adl:=Dq (t:=t) (p:=p) (ph:=ph) (b:=b);have hr:(fL t p ph b).length<=6:=by omega
 have e2:=ado (s0:=s0) (bh:=bh) (b:=b) (t:=t) (p:=p) (ph:=ph) (A:=A) hr;have e3:zS (gI s0 b t p bh (.lst A) (.dat (.int (ph:Int))) (.dat (.int ((fL t p ph b).length:Int))) (.dat (.lst ((qd (fL t p ph b).length).map .str))) .un) N0=.ret (.ok (.dat (.lst (kc t p b ph))) N0):=acM hr;have ahx:=Bj hr;have ad:bin .Add N0 (.dat (.lst A)) (.dat (.lst (kc t p b ph)))=some (.dat (.lst (A++kc t p b ph)),N0):=We (by rw[List.length_map];omega);have l2:((fL t p ph b).map λi:Nat=>D.int ((ph:Int)+(i:Int))).length=(fL t p ph b).length:=List.length_map _;have qO:(fL t p ph b).length<=16777216:=by omega
 have ct:cut 2 N0=N0:=rfl;unfold vS;unfold gI at *;generalize Dl=aht at *;generalize zS=PC at *;generalize aiQ:l6 (f_ (ah 8)) (b7 11) zZ=ahu at *;generalize(fL t p ph b).map (λi:Nat=>D.int ((ph:Int)+(i:Int)))=Ep at *;generalize kc t p b ph=U7 at *;generalize(fL t p ph b).length=m at *;generalize(qd m).map D.str=ahm at *;simp[e1,l2,qO,e2,e3,ad,ct]
theorem Xu {Q:Re ck->Prop}(ht:1<=t)(cN:t<=6)(hb:b<=6)
    (hq:Q (.ok (.nx (gI s0 b t p bh (.lst (je t p b)) .un .un .un .un)) N0)):
    W (kL (b7 7) vS ((List.range t).map λi:Nat=>D.int (i:Int)) (gI s0 b t p bh (.lst []) .un .un .un .un) N0) Q:=by
  have pl:=JC (p:=p) hb cN;refine EJ (λds ρ M=>∃Z A,ds=Z.map (λi:Nat=>D.int (i:Int))/\(∀i∈Z,i<=6)/\A++(Z.map λph=>kc t p b ph).flatten=je t p b/\ρ=gI s0 b t p bh (.lst A) .un .un .un .un/\M=N0) ?_ ?_ _ _ _ ⟨List.range t,[],rfl,λi hi=>by have:=List.mem_range.mp hi;omega,rfl,rfl,rfl⟩
  · rintro e r2 _ _ ⟨Z,A,Cn,hZ,hA,rfl,rfl⟩
    cases Z with
    |nil=>cases Cn
    |cons a Z=>
      obtain⟨rfl,rfl⟩:=List.cons.inj Cn;refine⟨_,rfl,?_⟩;have al:A.length<=1000:=by
        have:=congrArg List.length hA;rw[List.length_append]at this;omega
      have e:=Xs (s0:=s0) (bh:=bh) (p:=p) (A:=A) ht cN hb (hZ a List.mem_cons_self) al;show W (vS (gI s0 b t p bh (.lst A) (.dat (.int (a:Int))) .un .un .un) N0) _
      rw[e,qq];refine⟨Z,A++kc t p b a,rfl,λx hx=>hZ x (List.mem_cons_of_mem _ hx),?_,rfl,rfl⟩;rw[List.append_assoc,<-hA];rfl
  · rintro _ _ ⟨Z,A,Cn,hZ,hA,rfl,rfl⟩
    have:Z=[]:=List.map_eq_nil_iff.mp Cn.symm;subst this;have:A=je t p b:=by rw[<-hA];exact(List.append_nil A).symm
    rw[this];exact hq
end
structure ED (C:Nat->aK):Prop where
 h_:C 0=uQ
 c1:C 1=mV
 M5:∃t:cH,C 15=aX false 2 2 (ym mV t)
 C1:∀{b h:Nat},b<=6->b<h->h<=12->uA true 1 (C 14) [.dat (.int (b:Int)),.dat (.int (h:Int))] N0=o9 (cD b h) N0
 lV:∀{L:List D},uA true 3 (C 8) [.dat (.int 1),.dat (.lst [])] (bB L)=o9 fF (bB L)
 gen:∀{b h t p:Nat} {M},b<=6->1<=t->t<=6->p<t->C 2 [.dat .non,.dat (cD b h),.dat (.int (t:Int)),.dat (.int (p:Int))] M=o9 (.lst (je t p b)) M
 Q4:∀{d M},good 6 d=true->C 19 [.dat d,.dat d] M=o9 (.bl true) M
 tr:∀{b h t:Nat} {x y:Int} {L:List D},iR L=true->1<=t->t<=6->¬(1<=x/\x<=6)->¬(0<=y/\y<=(t:Int)-1)->
  C 16 [.dat (.lst [.cL 0 [cD b h,.int x,.int y],.cL 1 [cD b h,.int (t:Int),.int y],.cL 2 [fF,cD b h,.int x,.int y],.cL 3 [fF,cD b h,.int (t:Int),.int y],.cL 4 [fF,cD b h,.int x,.int y],.cL 5 [fF,cD b h,.int (t:Int),.int y]])] (bB L)=o9 (.lst [eB x,eB y,eB x,eB y,eB x,eB y]) (bB L)
section
variable{C:Nat->aK}{s0:D}{b h t p:Nat}
abbrev jC (s0:D)(b t p:Nat)(bh:D)(L:List D)(adF adG adH adI adJ:af):List af:=[.dat s0,.mu 1,.dat (.int (b:Int)),.dat (.int (t:Int)),.dat (.int (p:Int)),.dat bh,.dat (.lst L),.un,.un,.un,.un,.un,.un,adF,.un,adG,adH,adI,adJ]
theorem Yu {f:CE}{bh:D}{A L:List D}(e:f (jC s0 b t p bh A .un .un .un .un .un) N0=.ret (.ok (.dat (.lst L)) N0)):
    xj 13 14 f (jC s0 b t p bh A (.mu 2) .un .un .un .un) (nc N0 [])=.ret (.ok (.nx (jC s0 b t p bh A (.mu 2) .un .un .un .un)) (nc N0 L)):=by
  have g:xm 13 14 2 f (jC s0 b t p bh A (.mu 2) .un .un .un .un) (nc N0 [])=(f (jC s0 b t p bh A .un .un .un .un .un) N0).bind (Cc 13 14 2 (jC s0 b t p bh A (.mu 2) .un .un .un .un)):=by
    unfold xm;rw[if_pos ⟨rfl,rfl,rfl,rfl,show 13<19 by decide⟩];rfl
  show xm 13 14 2 f _ _=_
  rw[g,e];rfl
theorem acN {x:D}(hx:x∈je t p b)(hb:b<=6):∃ph z,x=gY ph z/\PyData.strOk z=true:=by
 unfold je at hx;obtain⟨l,hl,hm⟩:=List.mem_flatten.mp hx;obtain⟨ph,_,rfl⟩:=List.mem_map.mp hl;obtain⟨z,hz,rfl⟩:=List.mem_map.mp hm;refine⟨ph,z,rfl,?_⟩;have hr:(fL t p ph b).length<=6:=Nat.le_trans Dq hb;generalize(fL t p ph b).length=r at *;have key:∀r:Nat,r<=6->(i6 r).all PyData.strOk=true:=by
  intro r hr;rcases(show r=0\/r=1\/r=2\/r=3\/r=4\/r=5\/r=6 by omega)with rfl|rfl|rfl|rfl|rfl|rfl|rfl<;>decide+kernel
 exact List.all_eq_true.mp (key r hr) z hz
theorem Yy {L:List D}(hl:L.length<=384)(hp:∀x∈L,∃ph z,x=gY ph z/\PyData.strOk z=true):good 6 (.lst L)=true:=by
 unfold good;rw[Bool.and_eq_true];refine⟨List.all_eq_true.mpr λx hx=>?_,decide_eq_true (by omega)⟩;obtain⟨c,g,rfl,_⟩:=hp x hx;rfl
theorem Tt:∀{L:List D},(∀x∈L,∃ph z,x=gY ph z/\PyData.strOk z=true)->nS L L=true
 |[],_=>rfl
 |x::L,h=>by
  obtain⟨c,g,rfl,_⟩:=h x List.mem_cons_self;rw[Tr,Tt λy hy=>h y (List.mem_cons_of_mem _ hy)];simp[gY]
theorem RH:∀{L:List D},(∀x∈L,∃ph z,x=gY ph z/\PyData.strOk z=true)->iR L=true
 |[],_=>rfl
 |x::L,h=>by
  obtain⟨c,g,rfl,_⟩:=h x List.mem_cons_self;have:=RH λy hy=>h y (List.mem_cons_of_mem _ hy)
  show(fj (gY c g)&&iR L)=true
  rw[this];rfl
theorem Sf:∀{L:List D},(∀x∈L,∃ph z,x=gY ph z/\PyData.strOk z=true)->e_ 57 L=true
 |[],_=>acY
 |x::L,h=>by
  obtain⟨c,g,rfl,hg⟩:=h x List.mem_cons_self;have q:plain 57 (gY c g)=true:=by
   unfold gY;simp[hg]
  rw[acX,q,Sf λy hy=>h y (List.mem_cons_of_mem _ hy)];rfl
theorem aaL (T:ED C)(hb:b<=6)(h1:1<=t)(cN:t<=6)(hp:p<t):W (CP C (jC s0 b t p (cD b h) (je t p b) .un .un .un .un .un) N0) λr=>W (o_ false 1 r) λr=>∃M,r=.ok (.dat (.bl true)) M:=by
 obtain⟨aky,YD⟩:=T.M5;have sl:=JC (p:=p) hb cN;have zo:∀x∈je t p b,∃ph z,x=gY ph z/\PyData.strOk z=true:=λx hx=>acN hx hb
 have gd:=Yy sl zo;have o8:=RH zo;have pl:=Sf zo;have ji:=Tt zo;have f1:=T.gen (M:=N0) (h:=h) hb h1 cN hp;have f2:=T.gen (M:=bB (je t p b)) (h:=h) hb h1 cN hp;generalize je t p b=L at *;have lk:=T.Q4 (M:=bB L) gd;have ne:=ne_self (M:=bB L) pl ji;have abN:=T.lV (L:=L);have tr:=λ{x y:Int} hx hy=>T.tr (b:=b) (h:=h) (t:=t) (x:=x) (y:=y) (L:=L) o8 h1 cN hx hy
 have F1:IX C (jC s0 b t p (cD b h) L .un .un .un .un .un) N0=.ret (.ok (.dat (.lst L)) N0):=by
  have e:bR (λss=>C 2 (.dat .non::ss)) (aq (ah 5) (aq (ah 3) (aq (ah 4) aB))) (jC s0 b t p (cD b h) L .un .un .un .un .un) N0=.ret (.ok (.dat (.lst L)) N0):=by
   unfold jC;generalize cD b h=bh at *;simp[f1]
  unfold IX BO;rw[e];rfl
 have F2:vU (λss=>C 2 (.dat .non::ss)) [0,1,2] aB (aq (ah 5) (aq (ah 3) (aq (ah 4) aB))) (jC s0 b t p (cD b h) L (.mu 2) .un .un .un .un) (bB L)=.ret (.ok (.dat (.lst L)) (bB L)):=by
  have pp:∀x y z:af,gh [0,1,2] [x,y,z]=[x,y,z]:=λ_ _ _=>rfl
  unfold jC;generalize cD b h=bh at *;generalize bB L=tG at *;simp[f2,pp]
 have ga:=Yu F1;have s1:c_ 13 (fC true aB) (jC s0 b t p (cD b h) L .un .un .un .un .un) N0=.ret (.ok (.nx (jC s0 b t p (cD b h) L (.mu 2) .un .un .un .un)) (nc N0 [])):=by
  unfold jC;generalize cD b h=bh at *;simp[nc]
 have fz:frz (.mu 2) (nc N0 L)=.ret (.ok (.lst L) (bB L)):=by
  unfold frz;rw[AA];simp[nc]
 have g1:ah 13 (jC s0 b t p (cD b h) L (.mu 2) .un .un .un .un) (nc N0 L)=.ret (.ok (.mu 2) (nc N0 L)):=K6 rfl (by simp) (aci U8);have ef:vW (ah 13) (jC s0 b t p (cD b h) L (.mu 2) .un .un .un .un) (nc N0 L)=.ret (.ok (.dat (.lst L)) (bB L)):=by
  rw[agQ,g1,gA,lA,aap,fz,gA,lA];rfl
 have n1:gJ (bB L) (.mu 1)=.mu 1:=rfl;have hh:(bB L)[1]?=some .hand:=rfl;have aaC:(bB L)[0]?=some (.tab 0):=rfl;have an:(bB L).all fR=true:=by simp[fR,fj,o8]
 have V6:∀y:ak,y∈bB L->fR y=true:=List.all_eq_true.mp an;have qb:fj fF=true:=by rfl
 have nb:fj (cD b h)=true:=rfl;have JL:bin .Pow (bB L) (.dat (.int 10)) (.dat (.int 9))=some (.dat (.int 1000000000),bB L):=rfl;have RI:sC (bB L) (.dat (.int 1))=some (.dat (.int (-1)),bB L):=rfl;have so:PyData.strOk (Str.ofString "BadNumber")=true:=by decide+kernel
 have eqT:∀x y:Int,fH .Eq (bB L) (.dat (.lst [eB x,eB y,eB x,eB y,eB x,eB y])) (.dat (.lst [eB x,eB y,eB x,eB y,eB x,eB y]))=some true:=λx y=>by
  rw[W8,N6 (by simp[so]) (by simp[so])];simp[Tr]
 have V4:∀x y:Int,bin .Mult (bB L) (.dat (.lst [eB x,eB y])) (.dat (.int 2))=some (.dat (.lst [eB x,eB y,eB x,eB y]),bB L):=λx y=>rfl
 unfold CP;refine MI ?_;rw[s1,qq];refine MH (MI ?_);rw[ga,qq];clear ga s1 g1 fz F1 f1 gd ji pl T sl zo;generalize nc N0 L=ahp at *;generalize vW (ah 13)=ahb at *;generalize vU (λss=>C 2 (.dat .non::ss)) [0,1,2] aB (aq (ah 5) (aq (ah 3) (aq (ah 4) aB)))=ahc at *;refine MH ?_;unfold jC at *;generalize bB L=tG at *;generalize cD b h=bh at *;generalize fF=vq at *;simp[-kMak_r,ef,lk,F2,ne,YD,n1,JL,RI];refine Sb hh (by simp) (by simp) λw hw=>?_
 obtain⟨x,rfl,hx⟩:∃x:Int,w=.int x/\¬(1<=x/\x<=6):=by
  simp only[List.mem_cons,List.not_mem_nil,or_false]at hw;rcases hw with rfl|rfl|rfl|rfl<;>exact⟨_,rfl,by omega⟩
 clear hw;simp[-kMak_r,n1,JL,RI];refine Sb hh (by simp) (by simp) λw hw=>?_
 obtain⟨y,rfl,hy⟩:∃y:Int,w=.int y/\¬(0<=y/\y<=(t:Int)-1):=by
  simp only[List.mem_cons,List.not_mem_nil,or_false]at hw;rcases hw with rfl|rfl|rfl<;>exact⟨_,rfl,by omega⟩
 clear hw;have afJ:=tr hx hy;clear tr hx hy;simp[-kMak_r,abN,aaC,nb,qb,afJ];rw[if_pos V6];simp[eqT,V4]
end
theorem aaN (C:Nat->aK)(T:ED C)(ns:List Int):W (Bf C (.dat (.d9 ns)::List.replicate 18 .un) [.tab 0]) λr=>W (o_ false 1 r) λr=>∃M,r=.ok (.dat (.bl true)) M:=by
 have h1:=T.c1;rw[aaM];unfold QZ;rw[T.h_];have n1:gJ N0 (.mu 1)=.mu 1:=rfl;have hh:N0[1]?=some .hand:=rfl;have QT:=λ{s0:D} {b h t p:Nat} hb q1 JO hp=>aaL (C:=C) (s0:=s0) (b:=b) (h:=h) (t:=t) (p:=p) T hb q1 JO hp
 generalize CP C=ahn at *;simp[uQ,h1,n1];refine BH hh (by omega) (by omega) λe1 dI q1=>?_
 obtain⟨b,rfl⟩:=Int.eq_ofNat_of_zero_le dI;simp[h1,n1];refine BH hh (by omega) (by omega) λe2 cI q2=>?_
 obtain⟨t,ht⟩:∃t:Nat,1+e2=(t:Int):=⟨(1+e2).toNat,by omega⟩;simp[h1,n1,ht];refine BH hh (by omega) (by omega) λe3 fS q3=>?_
 obtain⟨p,rfl⟩:=Int.eq_ofNat_of_zero_le fS;simp[h1,n1,ht];refine BH hh (by omega) (by omega) λe4 qV lZ=>?_
 obtain⟨h,Zm⟩:∃h:Nat,(b:Int)+1+e4=(h:Int):=⟨((b:Int)+1+e4).toNat,by omega⟩;have uH:=T.C1 (b:=b) (h:=h) (by omega) (by omega) (by omega);have abA:=QT (s0:=.d9 ns) (b:=b) (h:=h) (t:=t) (p:=p) (by omega) (by omega) (by omega) (by omega);have se:=Ii (M:=N0) (n:=(t:Int)) (by omega) (by omega);rw[Int.toNat_natCast,JV]at se;clear QT;have NQ:=λ{Q} hq=>Xu (s0:=.d9 ns) (b:=b) (t:=t) (p:=p) (bh:=cD b h) (Q:=Q) (by omega) (by omega) (by omega) hq
 unfold gI at NQ;generalize cD b h=bh at *;generalize vS=DT at *;generalize je t p b=U7 at *;simp[-kMak_r,Zm,uH,se,n1];refine NQ ?_;simpa using abA
section
variable{n:Nat}{M:List ak}{b h t:Nat}{x y:Int}{L:List D}
theorem Ak:aR aS (n+1) 2=uh sD 3 5 (tS (aR aS n 3) (aR aS n 5) (aR aS n 6) (aR aS n 7)) (kZ (aR aS n 3)):=rfl
theorem Aj:aR aS (n+2) 3=aX false 2 2 (mF (aX false 3 3 (jY 12))):=rfl
theorem afL:aR aS (n+1) 5=aX false 1 5 A_:=rfl
theorem afN:aR aS (n+1) 6=aX false 4 5 yo:=rfl
theorem Wj:aR aS (n+1) 7 [.dat (cD b h)] M=.ret (.ok (.dat (.int (b:Int))) M):=by
 rw[show aR aS (n+1) 7=aX false 1 1 (bU (iK "own_bounce" [1] (ah 0)))from rfl];exact X7 rfl rfl
theorem Yw {p:Nat}(hb:b<=6)(h1:1<=t)(cN:t<=6)(hp:p<t):aR aS (n+3) 2 [.dat .non,.dat (cD b h),.dat (.int (t:Int)),.dat (.int (p:Int))] M=o9 (.lst (je t p b)) M:=by
 rw[Ak];refine ad3 hb h1 cN rfl ?_ Wj (λph=>?_) λm hm=>?_
 ·rw[Aj];exact W2 ⟨by omega,by omega⟩ ⟨by omega,by omega⟩
 ·rw[afN];exact ada h1 hb
 ·rw[afL];exact Wh hm
theorem XR (hx:¬(1<=x/\x<=6)){bh:D}:aR aS (n+3) 2 [.dat .non,.dat bh,.dat (.int x),.dat (.int y)] M=.ret (.ex 12 (ir x) M):=by
 rw[Ak];exact Sm (by rw[Aj];exact Nj hx) rfl
theorem XS (h1:1<=t)(cN:t<=6)(hy:¬(0<=y/\y<=(t:Int)-1)){bh:D}:aR aS (n+3) 2 [.dat .non,.dat bh,.dat (.int (t:Int)),.dat (.int y)] M=.ret (.ex 12 (ir y) M):=by
 rw[Ak];exact Sm (by rw[Aj];exact Nk ⟨by omega,by omega⟩ hy) rfl
theorem N9 (hx:¬(1<=x/\x<=6)){bh:D}:aR aS (n+3) 2 [.dat (.bl true),.dat bh,.dat (.int x),.dat (.int y)] M=.ret (.ex 12 (ir x) M):=by
 rw[Ak];exact Sl (by rw[Aj];exact Nj hx) rfl
theorem N_ (h1:1<=t)(cN:t<=6)(hy:¬(0<=y/\y<=(t:Int)-1)){bh:D}:aR aS (n+3) 2 [.dat (.bl true),.dat bh,.dat (.int (t:Int)),.dat (.int y)] M=.ret (.ex 12 (ir y) M):=by
 rw[Ak];exact Sl (by rw[Aj];exact Nk ⟨by omega,by omega⟩ hy) rfl
theorem NL {d1 d2:D}{xs:List (Str×D)}{kq bh:D}(e:aR aS n 2 [.dat (.bl true),.dat bh,.dat d1,.dat d2] M=.ret (.ex 12 xs M)):aR aS (n+1) 20 [.dat kq,.dat bh,.dat d1,.dat d2] M=.ret (.ex 12 xs M):=by
 have q:qZ (bR (λss=>aR aS n 2 (.dat (.bl true)::ss)) (aq (ah 1) (aq (ah 2) (aq (ah 3) aB)))) [.dat kq,.dat bh,.dat d1,.dat d2,.dat (.int 0),.un,.un,.un,.un] M=.ret (.ex 12 xs M):=by
  have z:bR (λss=>aR aS n 2 (.dat (.bl true)::ss)) (aq (ah 1) (aq (ah 2) (aq (ah 3) aB))) [.dat kq,.dat bh,.dat d1,.dat d2,.dat (.int 0),.un,.un,.un,.un] M=.ret (.ex 12 xs M):=by simp[e]
  unfold qZ;rw[z];rfl
 have key:tT (aR aS n) [.dat kq,.dat bh,.dat d1,.dat d2,.un,.un,.un,.un,.un] M=.ret (.ex 12 xs M):=by
  unfold tT;generalize qZ (bR (λss=>aR aS n 2 (.dat (.bl true)::ss)) (aq (ah 1) (aq (ah 2) (aq (ah 3) aB))))=VO at *;simp[q]
 rw[WG,lI (by rfl)];show(tT (aR aS n) [.dat kq,.dat bh,.dat d1,.dat d2,.un,.un,.un,.un,.un] M).bind _=_
 rw[key,gA,zX,fN rfl]
theorem Of {d1 d2:D}{xs:List (Str×D)}{kq bh:D}(e:aR aS n 2 [.dat (.bl true),.dat bh,.dat d1,.dat d2] M=.ret (.ex 12 xs M)):aR aS (n+1) 23 [.dat kq,.dat bh,.dat d1,.dat d2] M=.ret (.ex 12 xs M):=by
 have q:qZ (bR (λss=>aR aS n 2 (.dat (.bl true)::ss)) (aq (ah 1) (aq (ah 2) (aq (ah 3) aB)))) [.dat kq,.dat bh,.dat d1,.dat d2,.un,.un,.un,.un] M=.ret (.ex 12 xs M):=by
  have z:bR (λss=>aR aS n 2 (.dat (.bl true)::ss)) (aq (ah 1) (aq (ah 2) (aq (ah 3) aB))) [.dat kq,.dat bh,.dat d1,.dat d2,.un,.un,.un,.un] M=.ret (.ex 12 xs M):=by simp[e]
  unfold qZ;rw[z];rfl
 have key:tU (aR aS n) [.dat kq,.dat bh,.dat d1,.dat d2,.un,.un,.un,.un] M=.ret (.ex 12 xs M):=by
  unfold tU;generalize qZ (bR (λss=>aR aS n 2 (.dat (.bl true)::ss)) (aq (ah 1) (aq (ah 2) (aq (ah 3) aB))))=VO at *;simp[q]
 rw[WH,lI (by rfl)];show(tU (aR aS n) [.dat kq,.dat bh,.dat d1,.dat d2,.un,.un,.un,.un] M).bind _=_
 rw[key,gA,zX,fN rfl]
theorem ajA {d1 d2:D}{xs:List (Str×D)}{b h:Nat}{i:Nat}{e:CE}{ρ:List af}(hm:M.all fR=true)(he:e ρ M=.ret (.ex 12 xs M)):(e ρ M).bind (CN M.length)=.ret (.ex 12 xs M):=by
 rw[he];show T.ret (Re.ex 12 xs (cut M.length M))=_
 rw[fN rfl]
theorem ag3 (o8:iR L=true)(h1:1<=t)(cN:t<=6)(hx:¬(1<=x/\x<=6))(hy:¬(0<=y/\y<=(t:Int)-1)):
    aR aS (n+8) 16 [.dat (.lst [.cL 0 [cD b h,.int x,.int y],.cL 1 [cD b h,.int (t:Int),.int y],.cL 2 [fF,cD b h,.int x,.int y],.cL 3 [fF,cD b h,.int (t:Int),.int y],.cL 4 [fF,cD b h,.int x,.int y],.cL 5 [fF,cD b h,.int (t:Int),.int y]])] (bB L)=o9 (.lst [eB x,eB y,eB x,eB y,eB x,eB y]) (bB L):=by
  have hm:(bB L).all fR=true:=by simp[fR,fj,o8]
  have hm2:∀z:ak,z∈bB L->fR z=true:=List.all_eq_true.mp hm;have qb:fj fF=true:=by rfl
  have nb:fj (cD b h)=true:=rfl;have g1:=XR (n:=n+2) (M:=bB L) (y:=y) (bh:=cD b h) hx;have g2:=XS (n:=n+2) (M:=bB L) (bh:=cD b h) h1 cN hy;have d1:=NL (kq:=fF) (N9 (n:=n+1) (M:=bB L) (y:=y) (bh:=cD b h) hx);have d2:=NL (kq:=fF) (N_ (n:=n+1) (M:=bB L) (bh:=cD b h) h1 cN hy);have f1:=Of (kq:=fF) (N9 (n:=n+1) (M:=bB L) (y:=y) (bh:=cD b h) hx);have f2:=Of (kq:=fF) (N_ (n:=n+1) (M:=bB L) (bh:=cD b h) h1 cN hy);have l0:aR aS (n+6) (29+0) ([cD b h,.int x,.int y].map .dat) (bB L)=.ret (.ex 12 (ir x) (bB L)):=by
    rw[show(29+0:Nat)=29 from rfl,WI];unfold vG;generalize cD b h=bh at *;generalize bB L=tG at *;simp[nb,g1];rw[if_pos hm2,fN rfl]
  have l1:aR aS (n+6) (29+1) ([cD b h,.int (t:Int),.int y].map .dat) (bB L)=.ret (.ex 12 (ir y) (bB L)):=by
    rw[show(29+1:Nat)=30 from rfl,WJ];unfold vH;generalize cD b h=bh at *;generalize bB L=tG at *;simp[nb,g2];rw[if_pos hm2,fN rfl]
  have l2:aR aS (n+6) (29+2) ([fF,cD b h,.int x,.int y].map .dat) (bB L)=.ret (.ex 12 (ir x) (bB L)):=by
    rw[show(29+2:Nat)=31 from rfl,WK];unfold vI;generalize cD b h=bh at *;generalize fF=vq at *;generalize bB L=tG at *;simp[nb,qb,d1];rw[if_pos hm2,fN rfl]
  have qO:aR aS (n+6) (29+3) ([fF,cD b h,.int (t:Int),.int y].map .dat) (bB L)=.ret (.ex 12 (ir y) (bB L)):=by
    rw[show(29+3:Nat)=32 from rfl,WL];unfold vJ;generalize cD b h=bh at *;generalize fF=vq at *;generalize bB L=tG at *;simp[nb,qb,d2];rw[if_pos hm2,fN rfl]
  have IM:aR aS (n+6) (29+4) ([fF,cD b h,.int x,.int y].map .dat) (bB L)=.ret (.ex 12 (ir x) (bB L)):=by
    rw[show(29+4:Nat)=33 from rfl,WM];unfold vK;generalize cD b h=bh at *;generalize fF=vq at *;generalize bB L=tG at *;simp[nb,qb,f1];rw[if_pos hm2,fN rfl]
  have wC:aR aS (n+6) (29+5) ([fF,cD b h,.int (t:Int),.int y].map .dat) (bB L)=.ret (.ex 12 (ir y) (bB L)):=by
    rw[show(29+5:Nat)=34 from rfl,WN];unfold vL;generalize cD b h=bh at *;generalize fF=vq at *;generalize bB L=tG at *;simp[nb,qb,f2];rw[if_pos hm2,fN rfl]
  have JN:=xF (n:=n+5) hm (by omega) l0;have q1:=xF (n:=n+5) hm (by omega) l1;have q2:=xF (n:=n+5) hm (by omega) l2;have q3:=xF (n:=n+5) hm (by omega) qO;have lZ:=xF (n:=n+5) hm (by omega) IM;have uR:=xF (n:=n+5) hm (by omega) wC;have tr:=ag5 (M:=bB L) (F:=aR aS (n+7) 17) (xs:=[((.cL 0 [cD b h,.int x,.int y]:D),eB x),(.cL 1 [cD b h,.int (t:Int),.int y],eB y),(.cL 2 [fF,cD b h,.int x,.int y],eB x),(.cL 3 [fF,cD b h,.int (t:Int),.int y],eB y),(.cL 4 [fF,cD b h,.int x,.int y],eB x),(.cL 5 [fF,cD b h,.int (t:Int),.int y],eB y)]) (f:=λq=>q.1) (g:=λq=>q.2) (by simp) (by
    intro q hq;simp only[List.mem_cons,List.not_mem_nil,or_false]at hq;rcases hq with rfl|rfl|rfl|rfl|rfl|rfl
    · exact JN
    · exact q1
    · exact q2
    · exact q3
    · exact lZ
    · exact uR)
  rw[WA];exact tr
theorem lV:uA true 3 (aR aS (n+8) 8) [.dat (.int 1),.dat (.lst [])] (bB L)=o9 fF (bB L):=by kernel_rfl
end
theorem tb (n:Nat):ED (aR aS (n+8)) where
 h_:=rfl
 c1:=rfl
 M5:=⟨_,afM⟩
 C1:=λh1 h2 h3=>C1 W5 h1 h2 h3
 lV:=lV
 gen:=λhb h1 cN hp=>Yw (n:=n+5) hb h1 cN hp
 Q4:=λg=>abi g
 tr:=λo8 h1 cN hx hy=>ag3 o8 h1 cN hx hy
theorem acV (ns:List Int)(hl:ns.length<=63):W (CO [.dat (.d9 ns)] [.tab 0]) λr=>∃M,r=.ok (.dat (.bl true)) M:=
 VU rfl (aaN _ (tb 6) ns)
end g8
namespace g8
open PySem PySem.Spec PyProof.Rows L2 R
theorem afn {K:Frag}{ns:List Int}{H:Hp}{a:Addr}(hT:H ((oY K).tab 0)=some (.tbl #[]))(hS:SqL K H a (ns.map V.int))(hl:ns.length<=63):xw (oY K) K 1 CO [.ref a] H (λv _=>v=.bl true) λ_ _ _=>False:=
 aaP (oY K) hT hS (acV ns hl)
end g8
open PySem PySem.W PySem.Calls PyProof.Rows
theorem PySem.Challenge.cw_feintkeys_k47_lone_presses_holds : PySem.Challenge.rw_feintkeys_k47_lone_presses.Holds := by
 w_on;o_law
 refine HandSHeadRun.head_any (r:=OpenLaw.row PySem.Challenge.rw_feintkeys_k47_lone_presses) (q:=view (OpenLaw.row PySem.Challenge.rw_feintkeys_k47_lone_presses).prog [42]) (H:=g8.hk) (ob:=g8.ob) (M:=12000) (loose:=g8.loose) (d:=HandSHeadRun.topDef (OpenLaw.row PySem.Challenge.rw_feintkeys_k47_lone_presses).prog 42) (kwd:=[]) g8.acq
  (by kernel_rfl) (λs=>by kernel_rfl) g8.run (by kernel_rfl) (by kernel_rfl) (by kernel_rfl) (by rfl) (by first|assumption|decide+kernel) (by decide+kernel) ⟨rfl,rfl,rfl,rfl,rfl,by decide+kernel⟩ ?hw ?hc
 case hw=>w_witness2
 case hc=>
  refine R.agt (l:=PySem.Challenge.rw_feintkeys_k47_lone_presses) (n:=63) (k:=32) (x:="_law_script") rfl (by decide) (by kernel_rfl) ⟨rfl,by decide,by decide⟩ (by kernel_rfl) ?F;intro w mg aJ h Y G ZC;obtain⟨K,KX,c⟩:=Y;have hmg:mg ("law":PySem.Str)=some (.ref aJ):=by
   have e:(HandSHeadRun.topDef (OpenLaw.row PySem.Challenge.rw_feintkeys_k47_lone_presses).prog 42).name=("law":PySem.Str):=by kernel_rfl
   rw[<-e];exact ZC
  obtain⟨fd,c1,oc,od,fq,cZ,cd,vs,cs,q1,q2,q3,lZ,uR,hb,hF⟩:=g8.facts (P:=(PySem.Challenge.rw_feintkeys_k47_lone_presses).prog) (w:=w) rfl rfl KX G hmg c;exact⟨K,fd,c1,_,oc,od,fq,cZ,cd,vs,cs,R.xw (g8.oY K) K 1 g8.CO,KX,q1,q2,q3,lZ,uR,hb,λH a ns hl hT hS=>g8.afn hT hS hl,hF⟩
