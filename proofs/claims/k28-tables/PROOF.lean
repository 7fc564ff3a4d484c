import PyProof.Rows.All
import Wide.All
import OpenK.AllK
import Wide.FinOn
import HandS.ForMost
import HandS.Defaults
import HandS.MakeKw
import HandS.MakeKwOnly
import HandS.Exc
import HandS.IsInst
import HandS.Lambda
import HandS.Dict
import KE.KeyNested
import HandS.TupAny
import HandS.TupMul
import HandS.TupLe
import HandS.Style
import HandS.Deep
import HandS.Star
import HandS.Text
import HandS.Zip
import HandS.ExcCtx
import HandS.ExcOwn
import HandS.EndBits
import HandS.Head0
import HandS.Head1
import HandS.Head2
import HandS.HeadEnd
import HandS.HeadHook1
import HandS.HeadHook2
import HandS.ExcInit
import HandS.ExcInitHot
import HandS.Nested
import KE.KExcSuper
import KE.KSuper
import KE.KExcInit
import HandS.ExcField
import HandS.HotCalls
import KE.KTryMore
import HandS.HeadWalk
import HandS.HeadHook3
import KE.KUnpackStar
import HandS.ClsMeth
import KE.SortData
import HandS.Replace
import HandS.FStr
import HandS.OwnEq
import HandS.TupSets
import HandS.NamedTupSort
import HandS.Conv
import KE.KDictDisplayH
import HandS.SortKw
import KE.SortKeyHeap
import KE.KWithOwn
import HandS.Property
import HandS.MethStar
import HandS.DictComp
import KE.KDictCopyH
import KE.GoesEnum
import KE.GoesNew
import KE.GoesZip
import KE.GoesMore
import HandS.Finally
import HandS.ListEq
import OpenK.KOps
import HandS.RaiseFrom
import HandS.SuiteRaise
import HandS.NestedHot
import PyProof.DictMoreH
import HandS.More
import KE.DataFind
import KE.KStateDown
import PySem.Challenge.RW_latedrops_k28_whole_tables_of_stands_jud
set_option maxRecDepth 100000
set_option Elab.async false
set_option linter.all false
set_option maxHeartbeats 0
namespace Lp
open PySem PySem.Spec PyProof.Rows L2
inductive PV where
 | non | bl (b:Bool) | int (i:Int) | str (x:Str)
 | tup (xs:List PV) | lst (xs:List PV) | scr (xs:List PV) | own (xs:List PV)
 | dic (ks:List (PV × PV)) | don (ks:List (PV × PV))
 | ins (c:Nat) (fs:List PV) | cel (n:Nat) | exn (c:Nat) (fs:List PV)
 | ty (n:String) | cls (c:Nat)
inductive BT where
 | non | bl | int | str | tup | lst | dic
 deriving DecidableEq
def BT.nm:BT→String
 | .non => "NoneType" | .bl => "bool" | .int => "int" | .str => "str" | .tup => "tuple" | .lst => "list" | .dic => "dict"
def mkS (cs:List Nat):Str:=⟨cs.toArray⟩
end Lp
namespace Lp
open PySem PySem.Spec PyProof.Rows L2 LamX NdefX
def jSU:Obj→Bool
 | ⟨.none,none,.fields vs,sl⟩=>decide (vs.size=0)&&decide (sl.size=0)
 | _=>false
def yPK (g:Addr→Option Obj) (as:List Addr):List Addr:=as.filter fun a=>match g a with
 | some o=>jSU o
 | none=>false
def yPX (g:Addr→Option Obj) (as:List Addr):List Addr:=as.filter fun a=>match g a with
 | some o=>!jSU o
 | none=>true
abbrev FactL:Type:=PySem.W.Frag→List Addr→Bool
abbrev FnL:Type:=Option (Str × Str × Arguments × FuncBody × Scope × Addr × List Str × Addr)
def fnL (K:PySem.W.Frag) (a:Addr):FnL:=match K.lookup a with
 | some ⟨_,_,.func fd,_⟩=>some (fd.name,fd.qualname,fd.params,fd.body,fd.scope,fd.globals,fd.closure.map (·.1),fd.builtins)
 | _=>none
structure DefL where
 at_:PySem.W.Frag→Addr
 name:Str
 qual:Str
 params:Arguments
 body:List Stmt
 scope:Scope
 cl:List Str:=[]
 dfl:List He.Dv:=[]
 kwd:List (Str × He.Dv):=[]
def DefL.val (d:DefL):FnL:=some (d.name,d.qual,d.params,.stmts d.body,d.scope,mainGlobals,d.cl,builtinsNs)
def DefL.ok (K:PySem.W.Frag) (d:DefL):Bool:=PySem.W.keepIn K (.ref (d.at_ K))&&(match K.lookup (d.at_ K) with
 | some ⟨_,_,.func fd,_⟩=>PySem.W.codeIn K fd.code d.qual&&(He.dflB K fd.defaults (d.dfl.map (He.Dv.v K))&&He.kwdB K fd.kwdefaults (d.kwd.map fun q=>(q.1,q.2.v K)))
 | _=>false)
def jNK (P:Program) (K:PySem.W.Frag) (a D:Addr):Bool:=match K.lookup a with
 | some ⟨_,_,.func fd,_⟩=>(match fd.code,fd.closure with
  | .ref c,[(_,cc)]=>(match K.lookup c with
   | some ⟨_,_,.fields vs,_⟩=>(match (vs[2]?:Option Value) with
    | some (.str file _)=>((P.main.file:Str) == file)
    | _=>false)
   | _=>false)&&(match K.lookup cc with
   | some ⟨_,_,.cell (some (.ref D')),_⟩=>decide (D'=D)
   | _=>false)
  | _,_=>false)&&((PySem.W.clsIn K D).isSome&&decide (PySem.W.nsIn K cStatics "thirdparty.any" = some none))
 | _=>false
def jPX (K:PySem.W.Frag) (B i newId:String) (bmB:List Value) (D:Addr):Bool:=PySem.W.excInitIn K D bmB newId&&(decide (PySem.W.ks_superIn K D D "__init__" = some (some (.builtin i)))&&(decide (PySem.W.subIn K (.ref D) (.type B)=some true)&&(decide (PySem.W.mroIn K D (.ref D)=some true)&&(PySem.W.excOver K D bmB &&
 ((match PySem.W.clsIn K D with
  | some cd=>cd.hasDict
  | none=>false)&&(decide (PySem.W.findIn K (.ref D) "__setattr__" = some (some (.builtin "object.__setattr__")))&&(decide (PySem.W.subIn K (.ref D) (.type "BaseException")=some true)&&(decide (PySem.W.typeIn K (.ref D)=some (.type "type"))&&PySem.W.keepIn K (.ref D)))))))))
def jLP (K:PySem.W.Frag) (C:Addr) (fs:List Str):Bool:=xfB K C&&fs.all fun f=>decide (PySem.W.findIn K (.ref C) f=some none)
def jRY:Stmt→List Stmt
 | .ClassDef _ _ _ b _ _ _ _ _ _ _=>b
 | _=>[]
def jLU (K:PySem.W.Frag) (D f:Addr):Bool:=decide (PySem.W.findIn K (.ref D) "__init__" = some (some (.ref f)))&&decide (PySem.W.typeIn K (.ref f)=some (.type "function"))
def yQO (K:PySem.W.Frag) (a:Addr) (kv:List (Str × Str)):Bool:=He.valsB K a (kv.map fun q=>(q.1,He.Dv.str q.2))
def yAB (K:PySem.W.Frag) (C:Addr) (f:Str) (vs:List He.Dv):Bool:=PySem.W.readsIn K C (.type "type")&&(decide (PySem.W.specialIn K (.ref C) "__getattribute__" = some (some (.builtin "type.__getattribute__")))&&(match PySem.W.findCls K (.ref C) (.type "type") f with
 | some (.val (.ref T))=>(match K.lookup T with
  | some ⟨.type c,_,.seq its _,_⟩=>decide (c = "tuple")&&(decide (its.size≤sizeLine)&&He.relAll (vs.map (He.Dv.v K)) its.toList)
  | _=>false)
 | _=>false))
def BT.all:List BT:=[.non,.bl,.int,.str,.tup,.lst,.dic]
def yAD (K:PySem.W.Frag) (C:Addr):Bool:=BT.all.all (fun t=>decide (PySem.W.kitOne K (.type t.nm) (.ref C)=some false))&&(decide (PySem.W.findIn K (.ref C) "__class__" = some (some (.builtin "object.__class__"))) &&
 (decide (PySem.W.specialIn K (.builtin "object.__class__") "__get__" = some (some (.builtin "getset_descriptor.__get__")))&&(decide (PySem.W.takesIn K (.builtin "object.__class__")=some true)&&decide (PySem.W.mroIn K C (.type "object")=some true))))
end Lp
namespace Lp
open PySem PySem.Spec PyProof.Rows L2
structure SpecW where
 d:List Nat
 n:List Nat
 s:Bool
 h:Bool
 l:Str
def SpecW.fs (p:SpecW):List PV:=[.str (mkS p.d),.str (mkS p.n),.bl p.s,.bl p.h,.str p.l]
def SpecW.v (p:SpecW):PV:=.tup p.fs
def jSP (K:PySem.W.Frag) (T:Addr) (vs:List He.Dv):Bool:=match K.lookup T with
 | some ⟨.type c,_,.seq its _,_⟩=>decide (c = "tuple")&&(decide (its.size≤sizeLine)&&He.relAll (vs.map (He.Dv.v K)) its.toList)
 | _=>false
end Lp
namespace Lp
open PySem PySem.Spec PyProof.Rows L2 LamX NdefX
def yDY (K:PySem.W.Frag) (a:Addr) (kv:List (Str × Int)):Bool:=He.valsB K a (kv.map fun q=>(q.1,He.Dv.int q.2))
end Lp
namespace Lp
open PySem PySem.Spec PyProof.Rows L2
def frA (as:List Addr) (s:PySem.W.SharedT):PySem.W.Frag:=He.frG (HandSHeadRun.getT s) (yPX (HandSHeadRun.getT s) as)
def tbA (as:List Addr) (s:PySem.W.SharedT):List Addr:=yPK (HandSHeadRun.getT s) as
open HandSHeadRun in
abbrev RunP {α:Type} (r:PySem.W.OpenRow) (f:PySem.W.SharedT→α) (v:α) (M:Nat) (w:World):Prop:=∀ os:OsState,
 (endF (stepQ (denQ tabQ) r.prog w) M r.prog w os).map f=some v
abbrev RunC3 (r:PySem.W.OpenRow) (as:List Addr) (fn:List DefL) (ts:List He.Tab) (M:Nat) (w:World):Prop:=RunP r (fun s=>((fn.all fun d=>d.ok (frA as s),fn.map fun d=>fnL (frA as s) (d.at_ (frA as s))),ts.map fun t=>He.dicW (frA as s) (t.1 (frA as s)))) ((true,fn.map DefL.val),ts.map fun t=>some (He.keysIn w.params t.2)) M w
end Lp
namespace Lp
open PySem PySem.Spec PyProof.Rows L2 LamX NdefX ClX
def jZU (K:PySem.W.Frag) (D fB:Addr):Bool:=decide (PySem.W.ks_superIn K D D "__init__" = some (some (.ref fB)))&&(decide (PySem.W.typeIn K (.ref fB)=some (.type "function"))&&(PySem.W.fnIn K fB&&decide (PySem.W.mroIn K D (.ref D)=some true)))
def yDS (K:PySem.W.Frag) (C:Addr):Bool:=decide (PySem.W.kitOne K (.ref C) (.type "list")=some false)&&decide (PySem.W.kitOne K (.ref C) (.type "tuple")=some false)
end Lp
namespace LW
open PySem PySem.Spec PyProof.Rows L2 Lp LamX NdefX
abbrev Rw:PySem.W.OpenRow:=PySem.W.OpenLaw.row PySem.Challenge.rw_latedrops_k28_whole_tables_of_stands_jud
abbrev Pg:Program:=PySem.Challenge.pw_latedrops_k28_whole_tables_of_stands_jud
def top (i:Nat):Stmt:=PySem.Challenge.pw_latedrops_k28_whole_tables_of_stands_jud.main.body.getD i (.Pass ⟨0,0,0,0⟩)
def jGA:List (Str × Str):=[("t", "taken"),("r", "refused"),("m", "made")]
def jJD:List (Str × Int):=[("lands", 4),("heard", 4),("stays", 5),("still", 3),("returns", 4),("numbered", 2)]
abbrev jAO:Stmt:=(top 10)
abbrev zY:Stmt:=(top 11)
abbrev zF:Stmt:=(top 15)
abbrev qT:Stmt:=(top 16)
abbrev vN:Stmt:=((jRY (top 25)).getD 3 (.Pass ⟨0,0,0,0⟩))
abbrev zX:Stmt:=(top 17)
abbrev vG:Stmt:=((jRY (top 25)).getD 4 (.Pass ⟨0,0,0,0⟩))
abbrev uK:Stmt:=(top 18)
abbrev uL:Stmt:=(top 19)
abbrev uJ:Stmt:=(top 20)
abbrev zW:Stmt:=(top 21)
abbrev qR:Stmt:=(top 24)
abbrev uN:Stmt:=((jRY (top 25)).getD 2 (.Pass ⟨0,0,0,0⟩))
abbrev wU:Stmt:=(top 27)
abbrev jBM:Stmt:=(top 28)
abbrev vZ:Stmt:=((jRY (top 29)).getD 1 (.Pass ⟨0,0,0,0⟩))
abbrev yH:Stmt:=((jRY (top 30)).getD 1 (.Pass ⟨0,0,0,0⟩))
abbrev wC:Stmt:=((jRY (top 30)).getD 4 (.Pass ⟨0,0,0,0⟩))
abbrev wX:Stmt:=(top 32)
abbrev wY:Stmt:=(top 33)
abbrev jAP:Stmt:=(top 34)
abbrev uR:Stmt:=(top 35)
abbrev vY:Stmt:=(top 36)
abbrev qU:Stmt:=(top 37)
abbrev zG:Stmt:=(top 38)
abbrev qW:Stmt:=(top 39)
abbrev vB:Stmt:=(top 40)
abbrev vM:Stmt:=(top 41)
abbrev vC:Stmt:=(top 42)
abbrev vD:Stmt:=(top 43)
abbrev vA:Stmt:=(top 44)
abbrev wA:Stmt:=(top 45)
abbrev wB:Stmt:=(top 46)
abbrev uM:Stmt:=(top 47)
abbrev vL:Stmt:=(top 48)
abbrev vX:Stmt:=(top 49)
abbrev jGT:Stmt:=(top 50)
end LW
namespace Lp
open PySem PySem.Spec PyProof.Rows L2
open HandSHeadRun PySem.W PySem.Calls in
abbrev RunAB2 (r:PySem.W.OpenRow) (q:Program) (as:List Addr) (fa:List FactL) (loose:List PySem.Str) (M:Nat) (w:World):Prop:=RunP r (fun s=>((looksF r.prog (boot_heap w.params) s.abs,HandSHeadRun.seenQ q loose (importedModules r.prog.main.body) (fun s=>xlAt q [] s&&recOk r.toRowW.records s) s.abs),fa.all fun f=>f (frA as s) (tbA as s))) ((true,openGood q loose),true) M w
theorem pair_ofR {σ α β:Type} {o:Option σ} {f:σ→α} {g:σ→β} {a:α} {b:β} (h:o.map f=some a) (k:o.map g=some b):o.map (fun s=>(f s,g s))=some (a,b):=by
 cases o with
 |none=>cases h
 |some s=>
  injection h with h
  injection k with k
  subst h k
  rfl
open HandSHeadRun PySem.W PySem.Calls in
abbrev RunAB0 (r:PySem.W.OpenRow) (q:Program) (as:List Addr) (fa:List FactL) (loose:List PySem.Str) (M:Nat) (w:World):Prop:=RunP r (fun s=>(looksF r.prog (boot_heap w.params) s.abs,HandSHeadRun.seenQ q loose (importedModules r.prog.main.body) (fun s=>xlAt q [] s&&recOk r.toRowW.records s) s.abs)) (true,openGood q loose) M w
open HandSHeadRun PySem.W PySem.Calls in
abbrev RunF0 (r:PySem.W.OpenRow) (as:List Addr) (fa:List FactL) (M:Nat) (w:World):Prop:=RunP r (fun s=>fa.all fun f=>f (frA as s) (tbA as s)) true M w
end Lp
namespace LW
open PySem PySem.Spec PyProof.Rows L2 Lp LamX NdefX
def jKG:DefL:=⟨fun K=>He.ga K "is_wish", "is_wish", "is_wish", defArgs jAO,defBody jAO,defScope jAO,[],[],[]⟩
def jFO:DefL:=⟨fun K=>He.ga K "check_wish", "check_wish", "check_wish", defArgs zY,defBody zY,defScope zY,[],[],[]⟩
def jEQ:DefL:=⟨fun K=>He.ga K "first_stand", "first_stand", "first_stand", defArgs zF,defBody zF,defScope zF,[],[],[]⟩
def jHX:DefL:=⟨fun K=>He.ga K "is_stand", "is_stand", "is_stand", defArgs qT,defBody qT,defScope qT,[],[],[]⟩
def jBX:DefL:=⟨fun K=>He.ma K (He.ga K "Way") "drop_answer", "drop_answer", "Way.drop_answer", defArgs vN,defBody vN,defScope vN,[],[],[]⟩
def jFN:DefL:=⟨fun K=>He.ga K "drop_steps", "drop_steps", "drop_steps", defArgs zX,defBody zX,defScope zX,[],[],[]⟩
def jAX:DefL:=⟨fun K=>He.ma K (He.ga K "Way") "number_answer", "number_answer", "Way.number_answer", defArgs vG,defBody vG,defScope vG,[],[],[]⟩
def jDX:DefL:=⟨fun K=>He.ga K "number_steps", "number_steps", "number_steps", defArgs uK,defBody uK,defScope uK,[],[],[]⟩
def jDY:DefL:=⟨fun K=>He.ga K "landed_steps", "landed_steps", "landed_steps", defArgs uL,defBody uL,defScope uL,[],[],[]⟩
def jDW:DefL:=⟨fun K=>He.ga K "return_steps", "return_steps", "return_steps", defArgs uJ,defBody uJ,defScope uJ,[],[],[]⟩
def jFM:DefL:=⟨fun K=>He.ga K "steps_from", "steps_from", "steps_from", defArgs zW,defBody zW,defScope zW,[],[],[]⟩
def jHW:DefL:=⟨fun K=>He.ga K "is_table", "is_table", "is_table", defArgs qR,defBody qR,defScope qR,[],[],[]⟩
def jAC:DefL:=⟨fun K=>He.ma K (He.ga K "Way") "__init__", "__init__", "Way.__init__", defArgs uN,defBody uN,defScope uN,[],[He.Dv.str "tttttttt", He.Dv.str "tttt"],[("stretches", He.Dv.bl false),("hidden", He.Dv.bl false),("lock", He.Dv.str "none")]⟩
def jKF:DefL:=⟨fun K=>He.ga K "renewed", "renewed", "renewed", defArgs wU,defBody wU,defScope wU,[],[],[]⟩
def jMN:DefL:=⟨fun K=>He.ga K "copied", "copied", "copied", defArgs jBM,defBody jBM,defScope jBM,[],[],[]⟩
def jCS:DefL:=⟨fun K=>He.ma K (He.ga K "Paper") "__init__", "__init__", "Paper.__init__", defArgs vZ,defBody vZ,defScope vZ,[],[],[]⟩
def jDC:DefL:=⟨fun K=>He.ma K (He.ga K "Kept") "__init__", "__init__", "Kept.__init__", defArgs yH,defBody yH,defScope yH,["__class__"],[],[]⟩
def jFR:DefL:=⟨fun K=>He.ma K (He.ga K "Kept") "holds", "holds", "Kept.holds", defArgs wC,defBody wC,defScope wC,[],[],[]⟩
def jGL:DefL:=⟨fun K=>He.ga K "_law_open", "_law_open", "_law_open", defArgs wX,defBody wX,defScope wX,[],[],[]⟩
def jGN:DefL:=⟨fun K=>He.ga K "_law_draw", "_law_draw", "_law_draw", defArgs wY,defBody wY,defScope wY,[],[],[]⟩
def jKH:DefL:=⟨fun K=>He.ga K "_law_of", "_law_of", "_law_of", defArgs jAP,defBody jAP,defScope jAP,[],[],[]⟩
def jGM:DefL:=⟨fun K=>He.ga K "_law_like", "_law_like", "_law_like", defArgs uR,defBody uR,defScope uR,[],[],[]⟩
def jCR:DefL:=⟨fun K=>He.ga K "_law_some_spec", "_law_some_spec", "_law_some_spec", defArgs vY,defBody vY,defScope vY,[],[],[]⟩
def jHY:DefL:=⟨fun K=>He.ga K "_law_way", "_law_way", "_law_way", defArgs qU,defBody qU,defScope qU,[],[],[]⟩
def jER:DefL:=⟨fun K=>He.ga K "_law_wishes", "_law_wishes", "_law_wishes", defArgs zG,defBody zG,defScope zG,[],[],[]⟩
def jHZ:DefL:=⟨fun K=>He.ga K "_law_put", "_law_put", "_law_put", defArgs qW,defBody qW,defScope qW,[],[],[]⟩
def jAU:DefL:=⟨fun K=>He.ga K "_law_number_taken", "_law_number_taken", "_law_number_taken", defArgs vB,defBody vB,defScope vB,[],[],[]⟩
def jBW:DefL:=⟨fun K=>He.ga K "_law_drop_steps", "_law_drop_steps", "_law_drop_steps", defArgs vM,defBody vM,defScope vM,[],[],[]⟩
def jAV:DefL:=⟨fun K=>He.ga K "_law_number_steps", "_law_number_steps", "_law_number_steps", defArgs vC,defBody vC,defScope vC,[],[],[]⟩
def jAW:DefL:=⟨fun K=>He.ga K "_law_landed_steps", "_law_landed_steps", "_law_landed_steps", defArgs vD,defBody vD,defScope vD,[],[],[]⟩
def jAT:DefL:=⟨fun K=>He.ga K "_law_return_steps", "_law_return_steps", "_law_return_steps", defArgs vA,defBody vA,defScope vA,[],[],[]⟩
def jFP:DefL:=⟨fun K=>He.ga K "_law_steps", "_law_steps", "_law_steps", defArgs wA,defBody wA,defScope wA,[],[],[]⟩
def jFQ:DefL:=⟨fun K=>He.ga K "_law_first", "_law_first", "_law_first", defArgs wB,defBody wB,defScope wB,[],[],[]⟩
def jDZ:DefL:=⟨fun K=>He.ga K "_law_reached", "_law_reached", "_law_reached", defArgs uM,defBody uM,defScope uM,[],[],[]⟩
def jBV:DefL:=⟨fun K=>He.ga K "_law_some_stand", "_law_some_stand", "_law_some_stand", defArgs vL,defBody vL,defScope vL,[],[],[]⟩
def jCQ:DefL:=⟨fun K=>He.ga K "_law_table_due", "_law_table_due", "_law_table_due", defArgs vX,defBody vX,defScope vX,[],[],[]⟩
def yAA:DefL:=⟨fun K=>He.ga K "law", "law", "law", defArgs jGT,defBody jGT,defScope jGT,[],[],[]⟩
abbrev jAE:Stmt:=(jRY (top 3)).getD 0 (.Pass ⟨0,0,0,0⟩)
def jIP:DefL:=⟨fun K=>He.ma K (He.ga K "InvalidTable") "__init__", "__init__", "InvalidTable.__init__", defArgs jAE,defBody jAE,defScope jAE,["__class__"],[],[]⟩
abbrev qZ:Stmt:=(jRY (top 4)).getD 0 (.Pass ⟨0,0,0,0⟩)
def jHL:DefL:=⟨fun K=>He.ma K (He.ga K "InvalidOption") "__init__", "__init__", "InvalidOption.__init__", defArgs qZ,defBody qZ,defScope qZ,["__class__"],[],[]⟩
abbrev jBB:Stmt:=(jRY (top 5)).getD 0 (.Pass ⟨0,0,0,0⟩)
def jJN:DefL:=⟨fun K=>He.ma K (He.ga K "InvalidWish") "__init__", "__init__", "InvalidWish.__init__", defArgs jBB,defBody jBB,defScope jBB,["__class__"],[],[]⟩
abbrev jAF:Stmt:=(jRY (top 6)).getD 0 (.Pass ⟨0,0,0,0⟩)
def jIQ:DefL:=⟨fun K=>He.ma K (He.ga K "InvalidStand") "__init__", "__init__", "InvalidStand.__init__", defArgs jAF,defBody jAF,defScope jAF,["__class__"],[],[]⟩
def fnT:List DefL:=[jKG,jFO,jEQ,jHX,jBX,jFN,jAX,jDX,jDY,jDW,jFM,jHW,jAC,jKF,jMN,jCS,jDC,jFR,jGL,jGN,jKH,jGM,jCR,jHY,jER,jHZ,jAU,jBW,jAV,jAW,jAT,jFP,jFQ,jDZ,jBV,jCQ,yAA,jIP,jHL,jJN,jIQ]
def tsT:List He.Tab:=[(fun K=>He.ga K "WORDS", jGA.map (·.1)),(fun K=>He.ga K "SIZES", jJD.map (·.1))]
def faT:List FactL:=[(fun K _=>(He.Fa.glo "is_wish").ok K),
 (fun K _=>(He.Fa.glo "check_wish").ok K),
 (fun K _=>(He.Fa.glo "first_stand").ok K),
 (fun K _=>(He.Fa.glo "is_stand").ok K),
 (fun K _=>(He.Fa.glo "drop_steps").ok K),
 (fun K _=>(He.Fa.glo "number_steps").ok K),
 (fun K _=>(He.Fa.glo "landed_steps").ok K),
 (fun K _=>(He.Fa.glo "return_steps").ok K),
 (fun K _=>(He.Fa.glo "steps_from").ok K),
 (fun K _=>(He.Fa.glo "is_table").ok K),
 (fun K _=>(He.Fa.glo "renewed").ok K),
 (fun K _=>(He.Fa.glo "copied").ok K),
 (fun K _=>(He.Fa.glo "_law_open").ok K),
 (fun K _=>(He.Fa.glo "_law_draw").ok K),
 (fun K _=>(He.Fa.glo "_law_of").ok K),
 (fun K _=>(He.Fa.glo "_law_like").ok K),
 (fun K _=>(He.Fa.glo "_law_some_spec").ok K),
 (fun K _=>(He.Fa.glo "_law_way").ok K),
 (fun K _=>(He.Fa.glo "_law_wishes").ok K),
 (fun K _=>(He.Fa.glo "_law_put").ok K),
 (fun K _=>(He.Fa.glo "_law_number_taken").ok K),
 (fun K _=>(He.Fa.glo "_law_drop_steps").ok K),
 (fun K _=>(He.Fa.glo "_law_number_steps").ok K),
 (fun K _=>(He.Fa.glo "_law_landed_steps").ok K),
 (fun K _=>(He.Fa.glo "_law_return_steps").ok K),
 (fun K _=>(He.Fa.glo "_law_steps").ok K),
 (fun K _=>(He.Fa.glo "_law_first").ok K),
 (fun K _=>(He.Fa.glo "_law_reached").ok K),
 (fun K _=>(He.Fa.glo "_law_some_stand").ok K),
 (fun K _=>(He.Fa.glo "_law_table_due").ok K),
 (fun K _=>(He.Fa.glo "law").ok K),
 (fun K _=>(He.Fa.free "all").ok K),
 (fun K _=>(He.Fa.free "bool").ok K),
 (fun K _=>(He.Fa.free "int").ok K),
 (fun K _=>(He.Fa.free "isinstance").ok K),
 (fun K _=>(He.Fa.free "len").ok K),
 (fun K _=>(He.Fa.free "list").ok K),
 (fun K _=>(He.Fa.free "range").ok K),
 (fun K _=>(He.Fa.free "str").ok K),
 (fun K _=>(He.Fa.free "super").ok K),
 (fun K _=>(He.Fa.free "tuple").ok K),
 (fun K _=>(He.Fa.free "zip").ok K),
 (fun K _=>(He.Fa.glo "InvalidTable").ok K),
 (fun K _=>jPX K "ValueError" "ValueError.__init__" "ValueError.__new__" [.type "ValueError", .type "Exception", .type "BaseException", .type "object"] (He.ga K "InvalidTable")),
 (fun K _=>jLP K (He.ga K "InvalidTable") ["code", "given"]),
 (fun K _=>jLU K (He.ga K "InvalidTable") (He.ma K (He.ga K "InvalidTable") "__init__")),
 (fun K _=>jNK Pg K (He.ma K (He.ga K "InvalidTable") "__init__") (He.ga K "InvalidTable")),
 (fun K _=>(He.Fa.glo "InvalidOption").ok K),
 (fun K _=>jPX K "ValueError" "ValueError.__init__" "ValueError.__new__" [.type "ValueError", .type "Exception", .type "BaseException", .type "object"] (He.ga K "InvalidOption")),
 (fun K _=>jLP K (He.ga K "InvalidOption") ["code", "word"]),
 (fun K _=>jLU K (He.ga K "InvalidOption") (He.ma K (He.ga K "InvalidOption") "__init__")),
 (fun K _=>jNK Pg K (He.ma K (He.ga K "InvalidOption") "__init__") (He.ga K "InvalidOption")),
 (fun K _=>(He.Fa.glo "InvalidWish").ok K),
 (fun K _=>jPX K "ValueError" "ValueError.__init__" "ValueError.__new__" [.type "ValueError", .type "Exception", .type "BaseException", .type "object"] (He.ga K "InvalidWish")),
 (fun K _=>jLP K (He.ga K "InvalidWish") ["code", "given"]),
 (fun K _=>jLU K (He.ga K "InvalidWish") (He.ma K (He.ga K "InvalidWish") "__init__")),
 (fun K _=>jNK Pg K (He.ma K (He.ga K "InvalidWish") "__init__") (He.ga K "InvalidWish")),
 (fun K _=>(He.Fa.glo "InvalidStand").ok K),
 (fun K _=>jPX K "ValueError" "ValueError.__init__" "ValueError.__new__" [.type "ValueError", .type "Exception", .type "BaseException", .type "object"] (He.ga K "InvalidStand")),
 (fun K _=>jLP K (He.ga K "InvalidStand") ["code", "given"]),
 (fun K _=>jLU K (He.ga K "InvalidStand") (He.ma K (He.ga K "InvalidStand") "__init__")),
 (fun K _=>jNK Pg K (He.ma K (He.ga K "InvalidStand") "__init__") (He.ga K "InvalidStand")),
 (fun K _=>yAD K (He.ga K "Way")),
 (fun K _=>yDS K (He.ga K "Way")),
 (fun K _=>(He.Fa.glo "Way").ok K),
 (fun K _=>(He.Fa.cls "Way").ok K),
 (fun K _=>(He.Fa.noat "Way" "drops").ok K),
 (fun K _=>(He.Fa.noat "Way" "numbers").ok K),
 (fun K _=>(He.Fa.noat "Way" "stretches").ok K),
 (fun K _=>(He.Fa.noat "Way" "hidden").ok K),
 (fun K _=>(He.Fa.noat "Way" "lock").ok K),
 (fun K _=>(He.Fa.glo "Paper").ok K),
 (fun K _=>(He.Fa.cls "Paper").ok K),
 (fun K _=>(He.Fa.noat "Paper" "way").ok K),
 (fun K _=>(He.Fa.noat "Paper" "wish").ok K),
 (fun K _=>(He.Fa.glo "Kept").ok K),
 (fun K _=>(He.Fa.cls "Kept").ok K),
 (fun K _=>(He.Fa.noat "Kept" "way").ok K),
 (fun K _=>(He.Fa.noat "Kept" "wish").ok K),
 (fun K _=>(He.Fa.noat "Kept" "own_stands").ok K),
 (fun K _=>(He.Fa.meth "Way" "drop_answer").ok K),
 (fun K _=>(He.Fa.meth "Way" "number_answer").ok K),
 (fun K _=>(He.Fa.mkr "Way").ok K),
 (fun K _=>(He.Fa.mkr "Paper").ok K),
 (fun K _=>(He.Fa.mkr "Kept").ok K),
 (fun K _=>(He.Fa.meth "Kept" "holds").ok K),
 (fun K _=>(He.Fa.glo "BROKEN").ok K),
 (fun K _=>jSP K (He.ga K "BROKEN") [.str "broken"]),
 (fun K _=>(He.Fa.glo "WISHES").ok K),
 (fun K _=>jSP K (He.ga K "WISHES") [.str "lands", .str "stays", .str "still", .str "returns", .str "heard", .str "numbered"]),
 (fun K _=>yAB K (He.ga K "Way") "LOCKS" [.str "none", .str "one", .str "all"]),
 (fun K _=>(He.Fa.glo "WORDS").ok K),
 (fun K _=>yQO K (He.ga K "WORDS") jGA),
 (fun K _=>(He.Fa.glo "SIZES").ok K),
 (fun K _=>yDY K (He.ga K "SIZES") jJD),
 (fun K _=>jNK Pg K (He.ma K (He.ga K "Kept") "__init__") (He.ga K "Kept")),
 (fun K _=>jZU K (He.ga K "Kept") (He.ma K (He.ga K "Paper") "__init__"))]
def names0:List PySem.Str:=["_wall", "DropError", "InvalidTable", "InvalidOption", "InvalidWish", "InvalidStand", "InvalidText", "WISHES", "is_wish", "check_wish", "BROKEN", "SIZES", "first_stand", "is_stand", "drop_steps", "number_steps", "landed_steps", "return_steps", "steps_from", "WORDS", "is_table", "Way", "renewed", "copied", "Paper", "Kept", "_law_open", "_law_draw", "_law_of", "_law_like"]
def names1:List PySem.Str:=["_law_some_spec", "_law_way", "_law_wishes", "_law_put", "_law_number_taken", "_law_drop_steps", "_law_number_steps", "_law_landed_steps", "_law_return_steps", "_law_steps", "_law_first", "_law_reached", "_law_some_stand", "_law_table_due"]
def jNM:List PySem.Str:=names0++names1
abbrev qv:Program:=PySem.W.view Rw.prog [50]
def ad0:List Addr:=[3,2,155,74,116,53,95,386,336,156,140,200,277,402,454,487,468,414,461,447,409,395,440,492,475,419,497,480,502,426,433,0,154,291,175,163,168,205,147,187,507,180,286,194,199,73,31,115,52,94,385,335,276,401,453,486,467,413,460,446,408,394,439,491,474,418,496,479,501,425,432,153,290,174,162,167,204,146,186,506,179,285,193,198,71,72,30,113,114,50,51,92,93,356,363,371,376,383,384,305]
def ad1:List Addr:=[312,319,326,333,334,337,338,213,214,223,230,237,245,250,259,267,274,275,278,279,396,397,398,399,400,448,449,450,451,452,481,482,483,484,485,462,463,464,465,466,410,411,412,455,456,457,458,459,441,442,443,444,445,403,404,405,406,407,389,390,391,392,393,434,435,436,437,438,488,489,490,469,470,471,472,473,415,416,417,493,494,495,476,477,478,498,499,500,420,421,422,423,424,427,428,429,430,431,148,149]
def ad2:List Addr:=[150,151,152,287,288,289,169,170,171,172,173,157,158,159,160,161,164,165,166,201,202,203,141,142,143,144,145,181,182,183,184,185,503,504,505,176,177,178,282,283,284,188,189,190,191,192,195,196,197,70,59,29,32,112,101,49,38,91,80,355,344,362,370,375,382,304,311,318,325,332,222,215,216,229,236,244,238,249,257,258,266,273,65,66,67,68,69,107,108,109,110,111,44,45,46,47,48,86,87,88]
def ad3:List Addr:=[89,90,350,351,352,353,354,357,358,359,360,361,365,366,367,368,369,372,373,374,377,378,379,380,381,299,300,301,302,303,306,307,308,309,310,313,314,315,316,317,320,321,322,323,324,327,328,329,330,331,217,218,219,220,221,224,225,226,227,228,231,232,233,234,235,239,240,241,242,243,246,247,248,256,260,261,262,263,264,265,268,269,270,271,272,251,252,253,254,255]
def adT:List Addr:=ad0++ad1++ad2++ad3
theorem yVPa (w:World):RunAB0 Rw qv adT faT jNM 8000 (w.withFollow "special-get-raises" false):=by
 intro os
 kernel_rfl
theorem yVPb (w:World):RunF0 Rw adT faT 8000 (w.withFollow "special-get-raises" false):=by
 intro os
 kernel_rfl
theorem yVP (w:World):RunAB2 Rw qv adT faT jNM 8000 (w.withFollow "special-get-raises" false):=fun os=>pair_ofR (yVPa w os) (yVPb w os)
theorem yVQ (w:World):RunC3 Rw adT fnT tsT 8000 (w.withFollow "special-get-raises" false):=by
 intro os
 kernel_rfl
theorem yVNa (w:World):RunAB0 Rw qv adT faT jNM 8000 (w.withFollow "special-get-raises" true):=by
 intro os
 kernel_rfl
theorem yVNb (w:World):RunF0 Rw adT faT 8000 (w.withFollow "special-get-raises" true):=by
 intro os
 kernel_rfl
theorem yVN (w:World):RunAB2 Rw qv adT faT jNM 8000 (w.withFollow "special-get-raises" true):=fun os=>pair_ofR (yVNa w os) (yVNb w os)
theorem yVO (w:World):RunC3 Rw adT fnT tsT 8000 (w.withFollow "special-get-raises" true):=by
 intro os
 kernel_rfl
end LW
set_option Elab.async false
set_option linter.all false
set_option maxRecDepth 100000
set_option maxHeartbeats 4000000
namespace Lp
open PySem PySem.Spec PyProof.Rows L2
mutual
def peq:PV→PV→Bool
 | .non,y=>match y with | .non=>true | _=>false
 | .bl a,y=>match y with | .bl b=>a == b | _=>false
 | .int a,y=>match y with | .int b=>decide (a=b) | _=>false
 | .str a,y=>match y with | .str b=>decide (a=b) | _=>false
 | .tup a,y=>match y with | .tup b=>peqs a b | _=>false
 | .lst a,y=>match y with | .lst b=>peqs a b | _=>false
 | .scr a,y=>match y with | .scr b=>peqs a b | _=>false
 | .own a,y=>match y with | .own b=>peqs a b | _=>false
 | .dic a,y=>match y with | .dic b=>peqp a b | _=>false
 | .don a,y=>match y with | .don b=>peqp a b | _=>false
 | .ins c a,y=>match y with | .ins d b=>decide (c=d)&&peqs a b | _=>false
 | .cel a,y=>match y with | .cel b=>decide (a=b) | _=>false
 | .exn c a,y=>match y with | .exn d b=>decide (c=d)&&peqs a b | _=>false
 | .ty a,y=>match y with | .ty b=>decide (a=b) | _=>false
 | .cls a,y=>match y with | .cls b=>decide (a=b) | _=>false
def peqs:List PV→List PV→Bool
 | [],y=>match y with | []=>true | _=>false
 | a :: r,y=>match y with | b :: t=>peq a b&&peqs r t | _=>false
def peqp:List (PV × PV)→List (PV × PV)→Bool
 | [],y=>match y with | []=>true | _=>false
 | a :: r,y=>match y with | b :: t=>peqq a b&&peqp r t | _=>false
def peqq:PV × PV→PV × PV→Bool
 | (a,b),y=>peq a y.1&&peq b y.2
end
mutual
theorem jUD:∀ (x y:PV),peq x y=true→x=y
 | .non,y,h=>by
  unfold peq at h
  split at h
  ·rfl
  ·cases h
 | .bl a,y,h=>by
  unfold peq at h
  split at h
  ·exact congrArg PV.bl (eq_of_beq h)
  ·cases h
 | .int a,y,h=>by
  unfold peq at h
  split at h
  ·exact congrArg PV.int (of_decide_eq_true h)
  ·cases h
 | .str a,y,h=>by
  unfold peq at h
  split at h
  ·exact congrArg PV.str (of_decide_eq_true h)
  ·cases h
 | .cel a,y,h=>by
  unfold peq at h
  split at h
  ·exact congrArg PV.cel (of_decide_eq_true h)
  ·cases h
 | .ty a,y,h=>by
  unfold peq at h
  split at h
  ·exact congrArg PV.ty (of_decide_eq_true h)
  ·cases h
 | .cls a,y,h=>by
  unfold peq at h
  split at h
  ·exact congrArg PV.cls (of_decide_eq_true h)
  ·cases h
 | .tup a,y,h=>by
  unfold peq at h
  split at h
  ·exact congrArg PV.tup (peqs_of _ _ h)
  ·cases h
 | .lst a,y,h=>by
  unfold peq at h
  split at h
  ·exact congrArg PV.lst (peqs_of _ _ h)
  ·cases h
 | .scr a,y,h=>by
  unfold peq at h
  split at h
  ·exact congrArg PV.scr (peqs_of _ _ h)
  ·cases h
 | .own a,y,h=>by
  unfold peq at h
  split at h
  ·exact congrArg PV.own (peqs_of _ _ h)
  ·cases h
 | .dic a,y,h=>by
  unfold peq at h
  split at h
  ·exact congrArg PV.dic (peqp_of _ _ h)
  ·cases h
 | .don a,y,h=>by
  unfold peq at h
  split at h
  ·exact congrArg PV.don (peqp_of _ _ h)
  ·cases h
 | .ins c a,y,h=>by
  unfold peq at h
  split at h
  ·have h:=Bool.and_eq_true_iff.mp h; rw [of_decide_eq_true h.1,peqs_of _ _ h.2]
  ·cases h
 | .exn c a,y,h=>by
  unfold peq at h
  split at h
  ·have h:=Bool.and_eq_true_iff.mp h; rw [of_decide_eq_true h.1,peqs_of _ _ h.2]
  ·cases h
theorem peqs_of:∀ (x y:List PV),peqs x y=true→x=y
 | [],y,h=>by
  unfold peqs at h
  split at h
  ·rfl
  ·cases h
 | a :: r,y,h=>by
  unfold peqs at h
  split at h
  ·have h:=Bool.and_eq_true_iff.mp h; rw [jUD _ _ h.1,peqs_of _ _ h.2]
  ·cases h
theorem peqp_of:∀ (x y:List (PV × PV)),peqp x y=true→x=y
 | [],y,h=>by
  unfold peqp at h
  split at h
  ·rfl
  ·cases h
 | a :: r,y,h=>by
  unfold peqp at h
  split at h
  ·have h:=Bool.and_eq_true_iff.mp h; rw [peqq_of _ _ h.1,peqp_of _ _ h.2]
  ·cases h
theorem peqq_of:∀ (x y:PV × PV),peqq x y=true→x=y
 | (a,b),y,h=>by
  unfold peqq at h
  have h:=Bool.and_eq_true_iff.mp h
  have h1:=jUD _ _ h.1
  have h2:=jUD _ _ h.2
  rw [h1,h2]
end
mutual
theorem jMM:∀ x:PV,peq x x=true
 | .non=>by unfold peq; rfl
 | .bl a=>by unfold peq; simp
 | .int a=>by unfold peq; exact decide_eq_true rfl
 | .str a=>by unfold peq; exact decide_eq_true rfl
 | .cel a=>by unfold peq; exact decide_eq_true rfl
 | .ty a=>by unfold peq; exact decide_eq_true rfl
 | .cls a=>by unfold peq; exact decide_eq_true rfl
 | .tup a=>by unfold peq; exact peqs_self a
 | .lst a=>by unfold peq; exact peqs_self a
 | .scr a=>by unfold peq; exact peqs_self a
 | .own a=>by unfold peq; exact peqs_self a
 | .dic a=>by unfold peq; exact peqp_self a
 | .don a=>by unfold peq; exact peqp_self a
 | .ins c a=>by unfold peq; exact Bool.and_eq_true_iff.mpr ⟨decide_eq_true rfl,peqs_self a⟩
 | .exn c a=>by unfold peq; exact Bool.and_eq_true_iff.mpr ⟨decide_eq_true rfl,peqs_self a⟩
theorem peqs_self:∀ x:List PV,peqs x x=true
 | []=>by unfold peqs; rfl
 | a :: r=>by unfold peqs; exact Bool.and_eq_true_iff.mpr ⟨jMM a,peqs_self r⟩
theorem peqp_self:∀ x:List (PV × PV),peqp x x=true
 | []=>by unfold peqp; rfl
 | a :: r=>by unfold peqp; exact Bool.and_eq_true_iff.mpr ⟨peqq_self a,peqp_self r⟩
theorem peqq_self:∀ x:PV × PV,peqq x x=true
 | (a,b)=>by unfold peqq; exact Bool.and_eq_true_iff.mpr ⟨jMM a,jMM b⟩
end
instance:DecidableEq PV:=fun a b=>match h:peq a b with
 | true=>.isTrue (jUD _ _ h)
 | false=>.isFalse fun e=>by rw [e,jMM] at h; cases h
inductive Cell where
 | lst (xs:List PV) | dic (ks:List (PV × PV)) | ins (c:Nat) (fs:List PV)
 | dik (ks:List (L2.Key × PV))
def ceq:Cell→Cell→Bool
 | .lst x,.lst y=>peqs x y
 | .dic x,.dic y=>peqp x y
 | .ins c x,.ins d y=>decide (c=d)&&peqs x y
 | .dik x,.dik y=>decide (x=y)
 | _,_=>false
theorem yXQ:∀ (a b:Cell),ceq a b=true→a=b
 | .lst x,.lst y,h=>congrArg Cell.lst (peqs_of x y h)
 | .dic x,.dic y,h=>congrArg Cell.dic (peqp_of x y h)
 | .ins c x,.ins d y,h=>by
  have h:=Bool.and_eq_true_iff.mp h
  rw [of_decide_eq_true h.1,peqs_of _ _ h.2]
 | .dik x,.dik y,h=>congrArg Cell.dik (of_decide_eq_true h)
 | .lst _,.dic _,h=>by cases h
 | .lst _,.ins _ _,h=>by cases h
 | .lst _,.dik _,h=>by cases h
 | .dic _,.lst _,h=>by cases h
 | .dic _,.ins _ _,h=>by cases h
 | .dic _,.dik _,h=>by cases h
 | .ins _ _,.lst _,h=>by cases h
 | .ins _ _,.dic _,h=>by cases h
 | .ins _ _,.dik _,h=>by cases h
 | .dik _,.lst _,h=>by cases h
 | .dik _,.dic _,h=>by cases h
 | .dik _,.ins _ _,h=>by cases h
theorem yHP:∀ a:Cell,ceq a a=true
 | .lst x=>peqs_self x
 | .dic x=>peqp_self x
 | .ins c x=>Bool.and_eq_true_iff.mpr ⟨decide_eq_true rfl,peqs_self x⟩
 | .dik x=>decide_eq_true rfl
instance:DecidableEq Cell:=fun a b=>match h:ceq a b with
 | true=>.isTrue (yXQ _ _ h)
 | false=>.isFalse fun e=>by rw [e,yHP] at h; cases h
abbrev AH:=List (Option Cell)
structure S where
 e:List (Option PV)
 h:AH
inductive R (τ:Type) (α:Type) where
 | ok (a:α) (s:τ) | exc (x:PV) (s:τ) | bad
def R.bind {τ α β:Type} (r:R τ α) (f:α→τ→R τ β):R τ β:=match r with
 | .ok a s=>f a s
 | .exc x s=>.exc x s
 | .bad=>.bad
@[simp] theorem R.bind_ok {τ α β:Type} (a:α) (s:τ) (f:α→τ→R τ β):(R.ok a s).bind f=f a s:=rfl
@[simp] theorem R.bind_exc {τ α β:Type} (x:PV) (s:τ) (f:α→τ→R τ β):(R.exc x s:R τ α).bind f=.exc x s:=rfl
@[simp] theorem R.bind_bad {τ α β:Type} (f:α→τ→R τ β):(R.bad:R τ α).bind f=.bad:=rfl
def R.post {τ α:Type} (r:R τ α) (P:α→τ→Prop) (E:PV→τ→Prop):Prop:=match r with
 | .ok a s=>P a s
 | .exc x s=>E x s
 | .bad=>False
theorem R.post_bind {τ α β:Type} {r:R τ α} {f:α→τ→R τ β} {P:β→τ→Prop} {E:PV→τ→Prop} (h:(r.bind f).post P E):r.post (fun a s=>(f a s).post P E) E:=by
 cases r with
 | ok a s=>exact h
 | exc x s=>exact h
 | bad=>exact h
theorem R.post_mono {τ α:Type} {r:R τ α} {P P':α→τ→Prop} {E E':PV→τ→Prop} (h:r.post P E) (hp:∀ a s,P a s→P' a s) (he:∀ x s,E x s→E' x s):r.post P' E':=by
 cases r with
 | ok a s=>exact hp _ _ h
 | exc x s=>exact he _ _ h
 | bad=>exact h
structure Bs where
 K:PySem.W.Frag
 cad:Nat→Addr
 fld:Nat→List Str
 T:List (Addr × Str)
 w:World
 xn:Option (Addr × Nat × Addr):=none
structure Wd where
 F:Hp
 m:List Addr
def TupAt (B:Bs) (W:Wd) (a:Addr) (vs:List V):Prop:=W.F a=some (.tup vs) ∨
 ∃ (o:Obj) (its:Array Value) (n:Nat),B.K.lookup a=some o∧o.cls=.type "tuple" ∧ o.data=.seq its n∧its.size≤sizeLine∧Vals vs its.toList
def ScrAt (B:Bs) (W:Wd) (a:Addr) (vs:List V):Prop:=((W.F a=some (.lst vs)∨∃ o,W.F a=some (.frz o (.lst vs)))∧vs.length≤sizeLine) ∨
 ∃ (o:Obj) (its:Array Value) (n:Nat),B.K.lookup a=some o∧o.cls=.type "list" ∧ o.dict=none∧o.data=.seq its n∧its.size≤sizeLine∧Vals vs its.toList
def SOk (x:Str):Prop:=PyData.strOk x=true∧x.length≤sizeLine
mutual
inductive Rep (B:Bs) (W:Wd):PV→V→Prop where
 | non:Rep B W .non .non
 | bl (b:Bool):Rep B W (.bl b) (.bl b)
 | int (i:Int):Rep B W (.int i) (.int i)
 | str (x:Str) (h:SOk x):Rep B W (.str x) (.str x)
 | ty (n:String):Rep B W (.ty n) (.ty n)
 | cls (c:Nat):Rep B W (.cls c) (.ref (B.cad c))
 | cel {n:Nat} {a:Addr} (h:W.m[n]?=some a):Rep B W (.cel n) (.ref a)
 | tup {xs:List PV} {a:Addr} {vs:List V} (h:TupAt B W a vs) (r:Reps B W xs vs):Rep B W (.tup xs) (.ref a)
 | lst {xs:List PV} {a:Addr} {vs:List V} (h:W.F a=some (.lst vs)) (r:Reps B W xs vs):Rep B W (.lst xs) (.ref a)
 | scr {xs:List PV} {a:Addr} {vs:List V} (h:ScrAt B W a vs) (r:Reps B W xs vs):Rep B W (.scr xs) (.ref a)
 | ins {c:Nat} {fs:List PV} {a dx:Addr} {vs:List V} (h:W.F a=some (.ins (B.cad c) dx ((B.fld c).zip vs))) (hl:vs.length≤(B.fld c).length) (r:Reps B W fs vs):Rep B W (.ins c fs) (.ref a)
 | exn {c:Nat} {fs:List PV} {a dd:Addr} {vs:List V} (hx:B.xn=some (a,c,dd)) (h:W.F dd=some (.xd ((B.fld c).zip vs))) (hl:vs.length=(B.fld c).length) (r:Reps B W fs vs):Rep B W (.exn c fs) (.ref a)
inductive Reps (B:Bs) (W:Wd):List PV→List V→Prop where
 | nil:Reps B W [] []
 | cons {x:PV} {v:V} {xs:List PV} {vs:List V} (h:Rep B W x v) (t:Reps B W xs vs):Reps B W (x :: xs) (v :: vs)
end
structure Wd.Le (W W':Wd):Prop where
 F:∀ a o,W.F a=some o→W'.F a=some o
 m:W.m <+: W'.m
theorem Wd.Le.refl (W:Wd):W.Le W:=⟨fun _ _ h=>h,List.prefix_refl _⟩
theorem Wd.Le.trans {W W1 W2:Wd} (a:W.Le W1) (b:W1.Le W2):W.Le W2:=⟨fun c o h=>b.F c o (a.F c o h),a.m.trans b.m⟩
theorem Wd.Le.at {W W':Wd} (l:W.Le W') {n:Nat} {a:Addr} (h:W.m[n]?=some a):W'.m[n]?=some a:=by
 obtain ⟨t,e⟩:=l.m
 rw [← e,List.getElem?_append_left (List.getElem?_eq_some_iff.mp h).1]
 exact h
mutual
theorem Rep.mono {B:Bs} {W W':Wd} (l:W.Le W'):∀ {x:PV} {v:V},Rep B W x v→Rep B W' x v
 | _,_,.non=>.non
 | _,_,.bl b=>.bl b
 | _,_,.int i=>.int i
 | _,_,.str x h=>.str x h
 | _,_,.ty n=>.ty n
 | _,_,.cls c=>.cls c
 | _,_,.cel h=>.cel (l.at h)
 | _,_,.tup h r=>.tup (h.imp (l.F _ _) fun z=>z) (Reps.mono l r)
 | _,_,.lst h r=>.lst (l.F _ _ h) (Reps.mono l r)
 | _,_,.scr h r=>.scr (h.imp (fun ⟨e,z⟩=>⟨e.imp (l.F _ _) fun ⟨o,e⟩=>⟨o,l.F _ _ e⟩,z⟩) fun z=>z) (Reps.mono l r)
 | _,_,.ins h hl r=>.ins (l.F _ _ h) hl (Reps.mono l r)
 | _,_,.exn hx h hl r=>.exn hx (l.F _ _ h) hl (Reps.mono l r)
theorem Reps.mono {B:Bs} {W W':Wd} (l:W.Le W'):∀ {xs:List PV} {vs:List V},Reps B W xs vs→Reps B W' xs vs
 | _,_,.nil=>.nil
 | _,_,.cons h t=>.cons (Rep.mono l h) (Reps.mono l t)
end
section
variable {B:Bs} {W:Wd}
theorem Reps.length:∀ {xs:List PV} {vs:List V},Reps B W xs vs→xs.length=vs.length
 | _,_,.nil=>rfl
 | _,_,.cons _ t=>congrArg Nat.succ (Reps.length t)
theorem Reps.append:∀ {xs ys:List PV} {vs ws:List V},Reps B W xs vs→Reps B W ys ws→Reps B W (xs++ys) (vs++ws)
 | _,_,_,_,.nil,s=>s
 | _,_,_,_,.cons r t,s=>.cons r (Reps.append t s)
theorem Reps.get:∀ {xs:List PV} {vs:List V} {i:Nat} {x:PV},Reps B W xs vs→xs[i]?=some x→∃ v,vs[i]?=some v∧Rep B W x v
 | _,_,_,_,.nil,e=>by simp at e
 | _,_,0,_,.cons r _,e=>by simp at e; subst e; exact ⟨_,rfl,r⟩
 | _,_,i+1,x,.cons _ t,e=>by
  obtain ⟨u,h1,h2⟩:=Reps.get (i:=i) (x:=x) t (by simpa using e)
  exact ⟨u,by simpa using h1,h2⟩
theorem Reps.set {x:PV} {v:V} (r:Rep B W x v):∀ {xs:List PV} {vs:List V} (i:Nat),Reps B W xs vs→Reps B W (xs.set i x) (vs.set i v)
 | _,_,_,.nil=>.nil
 | _,_,0,.cons _ t=>.cons r t
 | _,_,i+1,.cons q t=>.cons q (Reps.set r i t)
theorem Reps.take:∀ {xs:List PV} {vs:List V} (n:Nat),Reps B W xs vs→Reps B W (xs.take n) (vs.take n)
 | _,_,0,_=>.nil
 | _,_,_+1,.nil=>.nil
 | _,_,n+1,.cons r t=>.cons r (Reps.take n t)
theorem Reps.drop:∀ {xs:List PV} {vs:List V} (n:Nat),Reps B W xs vs→Reps B W (xs.drop n) (vs.drop n)
 | _,_,0,r=>r
 | _,_,_+1,.nil=>.nil
 | _,_,n+1,.cons _ t=>Reps.drop n t
theorem Reps.one {x:PV} {v:V} (r:Rep B W x v):Reps B W [x] [v]:=.cons r .nil
theorem Reps.rep {xs:List PV} {vs:List V} (h:Reps B W xs vs):∀ k:Nat,Reps B W (List.replicate k xs).flatten (List.replicate k vs).flatten
 | 0=>.nil
 | k+1=>by
  rw [List.replicate_succ,List.replicate_succ,List.flatten_cons,List.flatten_cons]
  exact h.append (Reps.rep h k)
theorem Reps.reverse:∀ {xs:List PV} {vs:List V},Reps B W xs vs→Reps B W xs.reverse vs.reverse
 | _,_,.nil=>.nil
 | _,_,.cons r t=>by rw [List.reverse_cons,List.reverse_cons]; exact (Reps.reverse t).append (.one r)
end
mutual
def nk:PV→Option NestedKey
 | .non=>some .none
 | .bl b=>some (.num (if b=true then 1 else 0))
 | .int i=>some (.num i)
 | .str x=>some (.text x)
 | .tup xs=>(nks xs).map .tup
 | .lst _=>none
 | .scr _=>none
 | .own _=>none
 | .dic _=>none
 | .don _=>none
 | .ins _ _=>none
 | .cel _=>none
 | .exn _ _=>none
 | .ty _=>none
 | .cls _=>none
def nks:List PV→Option (List NestedKey)
 | []=>some []
 | x :: xs=>match nk x,nks xs with
  | some k,some ks=>some (k :: ks)
  | _,_=>none
end
def DicO (w:World) (a:Addr) (L:List (NestedKey × Addr × Value)):HO:=.ext fun h=>(a == sysModules)=false∧∃ (o:Obj) (es:Array DictEntry) (ep:Nat),h.get? a=some o∧o.ExactDict∧o.data=.dict es ep∧es.toList=L.map (fun x=>⟨x.1.hash w,.ref x.2.1,x.2.2⟩)∧(L.map (·.1)).Nodup
inductive DRel (B:Bs) (W:Wd):List (PV × PV)→List (NestedKey × Addr × Value)→Prop where
 | nil:DRel B W [] []
 | cons {k v:PV} {κ:NestedKey} {b:Addr} {u:Value} {y:V} {ks:List (PV × PV)} {L:List (NestedKey × Addr × Value)} (h1:nk k=some κ) (h2:κ.depth≤8) (h3:Rep B W k (.ref b)) (h4:Rep B W v y) (h5:RelV y u) (t:DRel B W ks L):DRel B W ((k,v) :: ks) ((κ,b,u) :: L)
theorem DRel.mono {B:Bs} {W W':Wd} (l:W.Le W') {ks:List (PV × PV)} {L:List (NestedKey × Addr × Value)} (r:DRel B W ks L):DRel B W' ks L:=by
 induction r with
 | nil=>exact .nil
 | cons h1 h2 h3 h4 h5 _ ih=>exact .cons h1 h2 (h3.mono l) (h4.mono l) h5 ih
theorem jYP {w:World} {a:Addr} {L:List (NestedKey × Addr × Value)}:∀ c q,DicO w a L≠LamX.CodeO c q:=fun c q z=>by
  unfold DicO LamX.CodeO at z
  injection z with z
  have e:=congrFun z ⟨Array.replicate (c+1) { cls:=.none,data:=.fields #[.none,.str q 0] },{}⟩
  have r:∃ (oc:Obj) (vs:Array Value) (t:Tok),Heap.get? ⟨Array.replicate (c+1) { cls:=.none,data:=.fields #[.none,.str q 0] },{}⟩ c=some oc∧oc.data=.fields vs∧vs[1]?=some (.str q t):=by
    refine ⟨{ cls:=.none,data:=.fields #[.none,.str q 0] },_,0,?_,rfl,rfl⟩
    unfold Heap.get?
    simp
  rw [← e] at r
  obtain ⟨_,o,es,ep,h1,_,h3,_⟩:=r
  unfold Heap.get? at h1
  rw [Array.getElem?_replicate] at h1
  by_cases ha:a < c+1
  · rw [if_pos ha] at h1
    cases h1
    cases h3
  · rw [if_neg ha] at h1
    cases h1
def DicR (B:Bs) (W:Wd) (H:Hp) (a:Addr) (ks:List (PV × PV)):Prop:=∃ L,H a=some (DicO B.w a L)∧L.length≤sizeLine∧DRel B W ks L
def DikR (B:Bs) (W:Wd) (H:Hp) (a:Addr) (ks:List (L2.Key × PV)):Prop:=∃ kvs:List (L2.Key × V),H a=some (.dK kvs)∧(ks.map (·.1)=kvs.map (·.1)∧kvs.length≤sizeLine)∧Reps B W (ks.map (·.2)) (kvs.map (·.2))
def Live (W:Wd) (h:AH) (a:Addr):Prop:=∃ (n:Nat) (c:Cell),h[n]?=some (some c)∧W.m[n]?=some a
def CellR (B:Bs) (W:Wd) (H:Hp) (a:Addr):Cell→Prop
 | .lst xs=>∃ vs,H a=some (.lst vs)∧Reps B W xs vs
 | .dic ks=>DicR B W H a ks
 | .dik ks=>DikR B W H a ks
 | .ins c fs=>∃ dx vs,H a=some (.ins (B.cad c) dx ((B.fld c).zip vs))∧vs.length≤(B.fld c).length∧Reps B W fs vs
def SzO:HO→Prop
 | .lst vs=>vs.length≤sizeLine
 | .tup vs=>vs.length≤sizeLine
 | .tbl _=>False
 | _=>True
def NT (o:HO):Prop:=∀ ps,o≠.tbl ps
theorem SzO.nt {o:HO} (h:SzO o):NT o:=fun ps e=>by rw [e] at h; exact h
theorem jBG {vs:List V}:NT (.lst vs):=fun _ z=>nomatch z
theorem yWW {vs:List V}:NT (.tup vs):=fun _ z=>nomatch z
theorem yER {a b:Addr} {fs:List (Str × V)}:NT (.ins a b fs):=fun _ z=>nomatch z
def FG (o:Option HO):Prop:=∃ u,o=some u∧NT u∧∀ c q,u≠LamX.CodeO c q
theorem FG.ne {o:Option HO} (f:FG o):o≠none:=let ⟨_,e,_⟩:=f; by rw [e]; exact fun z=>nomatch z
theorem FG.lst {o:Option HO} {vs:List V} (e:o=some (.lst vs)):FG o:=⟨_,e,jBG,fun _ _ z=>by unfold LamX.CodeO at z; cases z⟩
structure HRel (B:Bs) (W:Wd) (h:AH) (H:Hp):Prop where
 agree:∀ a o,W.F a=some o→H a=some o
 len:W.m.length=h.length
 nd:W.m.Nodup
 mt:∀ a∈W.m,H a≠none
 hz:∀ a o,H a=some o→NT o→SzO o
 fz:∀ a o,W.F a=some o→NT o
 tb:LamX.Tabs B.T H
 cell:∀ (n:Nat) (c:Cell) (a:Addr),h[n]?=some (some c)→W.m[n]?=some a→W.F a=none∧CellR B W H a c
structure Step (W:Wd) (h:AH) (H:Hp) (W':Wd) (h':AH) (H':Hp):Prop where
 le:W.Le W'
 hl:h.length≤h'.length
 dead:∀ (n:Nat) (c:Cell),n < h.length→h'[n]?=some (some c)→∃ c0,h[n]?=some (some c0)
 keep:∀ a o,H a=some o→NT o→¬ Live W h a→H' a=some o
 tr:∀ a,H' a=none→H a=none
 fgrow:∀ a,W.F a=none→FG (H a)→¬ Live W h a→W'.F a=none
 hm:W'.m.length=h'.length
 mnew:∀ (n:Nat) (a:Addr),h.length≤n→W'.m[n]?=some a→H a=none
section
variable {B:Bs} {W W' W1:Wd} {h h' h1:AH} {H H' H1:Hp}
theorem Step.refl (r:HRel B W h H):Step W h H W h H:=⟨.refl W,Nat.le_refl _,fun n c _ e=>⟨c,e⟩,fun _ _ e _ _=>e,fun _ e=>e,fun _ e _ _=>e,r.len,fun n a hn e=>by
 have:=(List.getElem?_eq_some_iff.mp e).1
 rw [r.len] at this; omega⟩
theorem Live.back (s:Step W h H W1 h1 H1) (r:W.m.length=h.length) {a:Addr} (l:Live W1 h1 a) (e:H a≠none):Live W h a:=by
 obtain ⟨n,c,e1,e2⟩:=l
 by_cases hn:n < h.length
 ·obtain ⟨c0,e0⟩:=s.dead n c hn e1
  have hm:n < W.m.length:=by omega
  have q:=s.le.at (List.getElem?_eq_getElem hm)
  rw [e2] at q
  cases q
  exact ⟨n,c0,e0,List.getElem?_eq_getElem hm⟩
 ·exact absurd (s.mnew n a (by omega) e2) e
theorem Step.trans (r:W.m.length=h.length) (a:Step W h H W1 h1 H1) (b:Step W1 h1 H1 W' h' H'):Step W h H W' h' H' where
 le:=a.le.trans b.le
 hl:=Nat.le_trans a.hl b.hl
 dead:=fun n c hn e=>by
  obtain ⟨c1,e1⟩:=b.dead n c (Nat.lt_of_lt_of_le hn a.hl) e
  exact a.dead n c1 hn e1
 keep:=fun x o e nt nl=>b.keep x o (a.keep x o e nt nl) nt fun l=>nl (l.back a r (by rw [e]; exact fun z=>nomatch z))
 tr:=fun x e=>a.tr x (b.tr x e)
 fgrow:=fun x e ne nl=>b.fgrow x (a.fgrow x e ne nl) (let ⟨u,e1,nt,nx⟩:=ne; ⟨u,a.keep x u e1 nt nl,nt,nx⟩) fun l=>nl (l.back a r ne.ne)
 hm:=b.hm
 mnew:=fun n x hn e=>by
  by_cases h1':h1.length≤n
  ·exact a.tr x (b.mnew n x h1' e)
  ·have hm:n < W1.m.length:=by rw [a.hm]; omega
   have q:=b.le.at (List.getElem?_eq_getElem hm)
   rw [e] at q
   cases q
   exact a.mnew n _ hn (List.getElem?_eq_getElem hm)
end
end Lp
set_option maxHeartbeats 4000000
namespace Lp
open PySem PySem.Spec PyProof.Rows L2
def isOwn:PV→Bool
 | .own _=>true
 | .don _=>true
 | _=>false
def DonR (B:Bs) (W:Wd) (ks:List (PV × PV)) (v:V):Prop:=∃ (a:Addr) (vs:List V) (o:Obj),v=.ref a∧W.F a=some (.frz o (.tup vs))∧o.dict=none∧vs.length≤sizeLine∧Reps B W (ks.map (·.1)) vs
theorem DonR.mono {B:Bs} {W W':Wd} {ks:List (PV × PV)} {v:V} (l:W.Le W') (r:DonR B W ks v):DonR B W' ks v :=
 let ⟨a,vs,o,e1,e2,e3,e4,e5⟩:=r
 ⟨a,vs,o,e1,l.F _ _ e2,e3,e4,e5.mono l⟩
def SlotR (B:Bs) (W:Wd) (H H0:Hp) (x:PV) (v:V):Prop:=match x with
 | .own xs=>∃ a vs,v=.ref a∧H a=some (.lst vs)∧Reps B W xs vs∧W.F a=none∧a∉W.m∧H0 a=none
 | .don ks=>DonR B W ks v
 | x=>Rep B W x v
def RepT (B:Bs) (W:Wd) (H:Hp) (x:PV) (v:V):Prop:=match x with
 | .own xs=>∃ a vs,v=.ref a∧H a=some (.lst vs)∧Reps B W xs vs∧a∉W.m
 | .don ks=>DonR B W ks v
 | x=>Rep B W x v
def RepTs (B:Bs) (W:Wd) (H:Hp):List PV→List V→Prop
 | [],[]=>True
 | x :: xs,v :: vs=>RepT B W H x v∧RepTs B W H xs vs
 | _,_=>False
structure Ent where
 W:Wd
 h:AH
 H:Hp
 len:W.m.length=h.length
 P:Wd
structure Rel (B:Bs) (N:Ent) (W:Wd) (s:S) (σ:L2.St) (H:Hp):Prop where
 hr:HRel B W s.h H
 st:Step N.W N.h N.H W s.h H
 len:σ.length=s.e.length
 env:∀ (i:Nat) (x:PV),s.e[i]?=some (some x)→∃ v,σ[i]?=some (some v)∧SlotR B W H N.H x v
 dis:∀ (i j:Nat) (x y:PV) (a:Addr),i≠j→s.e[i]?=some (some x)→s.e[j]?=some (some y)→isOwn x=true→isOwn y=true→σ[i]?=some (some (.ref a))→σ[j]?=some (some (.ref a))→False
 pin:N.P.Le W
theorem Rep.slot {B:Bs} {W:Wd} {H H0:Hp} {x:PV} {v:V} (r:Rep B W x v):SlotR B W H H0 x v:=by
 cases r <;> (first | exact .non | exact .bl _ | exact .int _ | (rename_i h; exact .str _ h) | exact .ty _ | exact .cls _ | (rename_i h; exact .cel h) | skip)
 ·rename_i h r; exact Rep.tup h r
 ·rename_i h r; exact Rep.lst h r
 ·rename_i h r; exact Rep.scr h r
 ·rename_i h hl r; exact Rep.ins h hl r
 ·rename_i hx h hl r; exact Rep.exn hx h hl r
theorem Rep.hand {B:Bs} {W:Wd} {H:Hp} {x:PV} {v:V} (r:Rep B W x v):RepT B W H x v:=by
 cases r <;> (first | exact .non | exact .bl _ | exact .int _ | (rename_i h; exact .str _ h) | exact .ty _ | exact .cls _ | (rename_i h; exact .cel h) | skip)
 ·rename_i h r; exact Rep.tup h r
 ·rename_i h r; exact Rep.lst h r
 ·rename_i h r; exact Rep.scr h r
 ·rename_i h hl r; exact Rep.ins h hl r
 ·rename_i hx h hl r; exact Rep.exn hx h hl r
theorem SlotR.hand {B:Bs} {W:Wd} {H H0:Hp} {x:PV} {v:V} (r:SlotR B W H H0 x v):RepT B W H x v:=by
 cases x with
 | own xs =>
  obtain ⟨a,vs,e,h,r,_,nm,_⟩:=r
  exact ⟨a,vs,e,h,r,nm⟩
 | don ks=>exact r
 | _=>exact r
theorem RepT.rep {B:Bs} {W:Wd} {H:Hp} {x:PV} {v:V} (r:RepT B W H x v) (o:isOwn x=false):Rep B W x v:=by
 cases x with
 | own xs=>cases o
 | don ks=>cases o
 | _=>exact r
section
variable {B:Bs} {N:Ent} {W W':Wd} {s s':S} {σ:L2.St} {H H':Hp}
theorem Rel.slen (r:Rel B N W s σ H):W.m.length=s.h.length:=r.hr.len
theorem Live.mem {W:Wd} {h:AH} {a:Addr} (l:Live W h a):a∈W.m:=let ⟨_,_,_,e⟩:=l; List.mem_of_getElem? e
theorem Step.notm {W W':Wd} {h h':AH} {H H':Hp} {a:Addr} (st:Step W h H W' h' H') (hl:W.m.length=h.length) (n:a∉W.m) (e:H a≠none):a∉W'.m:=fun z=>by
 obtain ⟨k,e1⟩:=List.mem_iff_getElem?.mp z
 by_cases hk:h.length≤k
 ·exact e (st.mnew k a hk e1)
 ·have hm:k < W.m.length:=by omega
  have q:=st.le.at (List.getElem?_eq_getElem hm)
  rw [e1] at q
  cases q
  exact n (List.getElem_mem hm)
theorem RepT.on {x:PV} {v:V} (hl:W.m.length=s.h.length) (st:Step W s.h H W' s'.h H') (r:RepT B W H x v):RepT B W' H' x v:=by
 cases x with
 | own xs =>
  obtain ⟨a,vs,e,h,r,n⟩:=r
  exact ⟨a,vs,e,st.keep _ _ h jBG fun l=>n l.mem,r.mono st.le,st.notm hl n (by rw [h]; exact fun z=>nomatch z)⟩
 | don ks=>exact DonR.mono st.le r
 | _=>exact Rep.mono st.le r
theorem RepTs.on (hl:W.m.length=s.h.length) (st:Step W s.h H W' s'.h H'):∀ {xs:List PV} {vs:List V},RepTs B W H xs vs→RepTs B W' H' xs vs
 | [],[],_=>trivial
 | x :: xs,v :: vs,⟨h,t⟩=>⟨h.on hl st,RepTs.on hl st t⟩
 | [],_ :: _,h=>h.elim
 | _ :: _,[],h=>h.elim
end
def ExcR (B:Bs) (H0:Hp) (W:Wd) (H:Hp) (x:PV) (cls:Value) (d:Option Addr):Prop :=
 ∃ (c:Nat) (fs:List PV) (dd:Addr) (vs:List V),x=.ins c fs∧cls=.ref (B.cad c)∧d=some dd∧H dd=some (.xd ((B.fld c).zip vs))∧vs.length=(B.fld c).length∧Reps B W fs vs∧(H0 dd=none∧W.F dd=none∧dd∉W.m)
theorem ExcR.old {B:Bs} {H0 H1:Hp} {W:Wd} {H:Hp} {x:PV} {cls:Value} {d:Option Addr} (e:ExcR B H0 W H x cls d) (h:∀ a,H0 a=none→H1 a=none):ExcR B H1 W H x cls d :=
 let ⟨c,fs,dd,vs,a1,a2,a3,a4,a5,a6,a7,a8⟩:=e
 ⟨c,fs,dd,vs,a1,a2,a3,a4,a5,a6,h _ a7,a8⟩
def Nw (H:Hp) (d:Option Addr):Prop:=∀ dd,d=some dd→H dd=none
theorem ExcR.nw {B:Bs} {H0:Hp} {W:Wd} {H:Hp} {x:PV} {cls:Value} {d:Option Addr} (e:ExcR B H0 W H x cls d):Nw H0 d:=fun dd ed=>by
 obtain ⟨c,fs,dd',vs,a1,a2,a3,a4,a5,a6,a7,a8⟩:=e
 rw [a3] at ed
 cases ed
 exact a7
abbrev ME:=S→R S PV
structure StepE (W:Wd) (s:S) (H:Hp) (W':Wd) (s':S) (H':Hp):Prop where
 st:Step W s.h H W' s'.h H'
 eo:∀ (i:Nat) (x:PV),s'.e[i]?=some (some x)→isOwn x=true→s.e[i]?=some (some x)
theorem StepE.refl {B:Bs} {W:Wd} {s:S} {H:Hp} (r:HRel B W s.h H):StepE W s H W s H:=⟨Step.refl r,fun _ _ e _=>e⟩
theorem StepE.trans {W W1 W2:Wd} {s s1 s2:S} {H H1 H2:Hp} (hl:W.m.length=s.h.length) (a:StepE W s H W1 s1 H1) (b:StepE W1 s1 H1 W2 s2 H2):StepE W s H W2 s2 H2:=⟨a.st.trans hl b.st,fun i x e o=>a.eo i x (b.eo i x e o) o⟩
def Post (B:Bs) (N:Ent) (WX:WX) {α:Type} (W:Wd) (s:S) (H:Hp) (σ:L2.St) (r:R S α) (P:α→Wd→S→Hp→Prop):Prop:=r.post
 (fun v s'=>∀ W' H',Rel B N W' s' σ H'→StepE W s H W' s' H'→P v W' s' H')
 (fun x s'=>∀ W' H' cls d,Rel B N W' s' σ H'→StepE W s H W' s' H'→ExcR B N.H W' H' x cls d→Nw H d→WX cls d σ H')
section
variable {B:Bs} {N:Ent} {WX:WX} {α β:Type} {W W1:Wd} {s s1:S} {H H1:Hp} {σ:L2.St}
theorem Post.from {r:R S α} {P:α→Wd→S→Hp→Prop} (hl:W.m.length=s.h.length) (st:StepE W s H W1 s1 H1) (q:Post B N WX W s H σ r P):Post B N WX W1 s1 H1 σ r P :=
 R.post_mono q (fun _ _ q W' H' r' st'=>q W' H' r' (st.trans hl st')) fun _ _ q W' H' cls d r' st' e nw=>q W' H' cls d r' (st.trans hl st') e fun dd ed=>st.st.tr _ (nw dd ed)
theorem Post.mono {r:R S α} {P P':α→Wd→S→Hp→Prop} (q:Post B N WX W s H σ r P) (k:∀ v W' s' H',Rel B N W' s' σ H'→StepE W s H W' s' H'→P v W' s' H'→P' v W' s' H'):Post B N WX W s H σ r P' :=
 R.post_mono q (fun _ _ q W' H' r' st'=>k _ _ _ _ r' st' (q W' H' r' st')) fun _ _ q=>q
theorem Post.bind {r:R S α} {f:α→S→R S β} {P:β→Wd→S→Hp→Prop} (hl:W.m.length=s.h.length) (q:Post B N WX W s H σ (r.bind f) P):Post B N WX W s H σ r fun v W' s' H'=>Post B N WX W' s' H' σ (f v s') P :=
 R.post_mono (R.post_bind q) (fun _ _ q W' H' r' st'=>Post.from hl st' q) fun _ _ q=>q
theorem Post.ok {v:α} {P:α→Wd→S→Hp→Prop} (r:Rel B N W s σ H) (q:Post B N WX W s H σ (.ok v s) P):P v W s H:=q W H r (StepE.refl r.hr)
end
def tE (B:Bs) (N:Ent) (WX:WX) (m:ME):TE:=fun σ H Q=>∃ W s,Rel B N W s σ H∧Post B N WX W s H σ (m s) fun v W' _ H'=>∀ v',RepT B W' H' v v'→Q v' H'
def tT (B:Bs) (N:Ent) (WX:WX) (m:S→R S Bool):TT:=fun σ H Q=>∃ W s,Rel B N W s σ H∧Post B N WX W s H σ (m s) fun v _ _ H'=>Q v H'
def tA (B:Bs) (N:Ent) (WX:WX) (m:S→R S (List PV)):TA:=fun σ H Q=>∃ W s,Rel B N W s σ H∧Post B N WX W s H σ (m s) fun v W' _ H'=>∀ v',RepTs B W' H' v v'→Q v' H'
abbrev SimE (X:Cx) (B:Bs) (N:Ent) (WX:WX) (e:Expr) (m:ME):Prop:=PE X e (tE B N WX m)
abbrev SimT (X:Cx) (B:Bs) (N:Ent) (WX:WX) (e:Expr) (m:S→R S Bool):Prop:=PT X e (tT B N WX m)
abbrev SimW (X:Cx) (B:Bs) (N:Ent) (WX:WX) (e:Expr) (m:S→R S Bool):Prop:=PW X e (tT B N WX m)
abbrev SimA (X:Cx) (B:Bs) (N:Ent) (WX:WX) (es:List Expr) (m:S→R S (List PV)):Prop:=PA X es (tA B N WX m)
theorem _root_.L2.PE.imp {X:Cx} {e:Expr} {t t':TE} (h:PE X e t) (w:∀ σ H Q,t' σ H Q→t σ H Q):PE X e t':=⟨fun pins s σ H Q I q=>h.run pins s σ H Q I (w _ _ _ q)⟩
theorem _root_.L2.PT.imp {X:Cx} {e:Expr} {t t':TT} (h:PT X e t) (w:∀ σ H Q,t' σ H Q→t σ H Q):PT X e t':=⟨fun pins s σ H Q I q=>h.run pins s σ H Q I (w _ _ _ q)⟩
theorem _root_.L2.PW.imp {X:Cx} {e:Expr} {t t':TT} (h:PW X e t) (w:∀ σ H Q,t' σ H Q→t σ H Q):PW X e t':=⟨fun wh pins s σ H Q I q=>h.run wh pins s σ H Q I (w _ _ _ q)⟩
theorem _root_.L2.PA.imp {X:Cx} {e:List Expr} {t t':TA} (h:PA X e t) (w:∀ σ H Q,t' σ H Q→t σ H Q):PA X e t':=⟨fun p pins s σ H Q I q=>h.run p pins s σ H Q I (w _ _ _ q)⟩
theorem _root_.L2.PS.imp {X:Cx} {e:Stmt} {t t':TS} (h:PS X e t) (w:∀ D σ H,t' D σ H→t D σ H):PS X e t':=⟨fun pins s σ H D I q=>h.run pins s σ H D I (w _ _ _ q)⟩
theorem _root_.L2.PSs.imp {X:Cx} {e:List Stmt} {t t':TS} (h:PSs X e t) (w:∀ D σ H,t' D σ H→t D σ H):PSs X e t':=⟨fun pins s σ H D I q=>h.run pins s σ H D I (w _ _ _ q)⟩
def jF (i:Nat):ME:=fun s=>match s.e[i]? with
 | some (some v)=>.ok v s
 | _=>.bad
def eC (v:PV):ME:=fun s=>.ok v s
section
variable {X:Cx} {B:Bs} {N:Ent} {WX:WX}
theorem jB {i:Nat} {x:Str} {pos:Pos} (hN:X.N[i]?=some x) (hv:Vis X.env.scope x) (hd:(x == ("__debug__" : Str))=false) (hcd:(x == ("__classdict__" : Str))=false):SimE X B N WX (.Name x pos) (jF i) :=
 (pe_var hN hv hd hcd).imp fun σ H Q ⟨W,s,r,h⟩=>by
  unfold jF at h
  split at h
  ·rename_i v e
   obtain ⟨v',e',sl⟩:=r.env i v e
   exact ⟨v',e',h.ok r v' sl.hand⟩
  ·exact h.elim
theorem jOK {e:Expr} {x:PV} {v:V} (h:PE X e (tC v)) (rx:∀ W,Rep B W x v):SimE X B N WX e (eC x) :=
 h.imp fun σ H Q ⟨W,s,r,h⟩=>h.ok r v (rx W).hand
theorem jH {i:Int} {j pos}:SimE X B N WX (.Constant (.int i) j pos) (eC (.int i)):=jOK pe_int fun _=>.int i
theorem yF {b:Bool} {j pos}:SimE X B N WX (.Constant (.bool b) j pos) (eC (.bl b)):=jOK pe_bl fun _=>.bl b
theorem jJZ {j pos}:SimE X B N WX (.Constant .none j pos) (eC .non):=jOK pe_non fun _=>.non
theorem jN {x:Str} {j pos} (h:SOk x):SimE X B N WX (.Constant (.str x) j pos) (eC (.str x)):=jOK pe_str fun _=>.str x h
end
def jO (f:AH→PV→PV→Option PV) (a b:ME):ME:=fun s=>(a s).bind fun x s1=>(b s1).bind fun y s2=>match f s2.h x y with
 | some z=>.ok z s2
 | none=>.bad
section
variable {X:Cx} {B:Bs} {N:Ent} {WX:WX} {a b:Expr} {ma mb:ME} {pos:Pos}
theorem two {f:PV→PV→S→R S PV} {σ:L2.St} {H:Hp} {Q:VK} (h:tE B N WX (fun s=>(ma s).bind fun x s1=>(mb s1).bind fun y s2=>f x y s2) σ H Q) {k:V→V→Hp→Prop}
  (hk:∀ W2 s2 H2 x y x' y',Rel B N W2 s2 σ H2→RepT B W2 H2 x x'→RepT B W2 H2 y y'→Post B N WX W2 s2 H2 σ (f x y s2) (fun u W' _ H'=>∀ u',RepT B W' H' u u'→Q u' H')→k x' y' H2) :
  tE B N WX ma σ H fun x' H1=>tE B N WX mb σ H1 fun y' H2=>k x' y' H2:=by
 obtain ⟨W,s,r,h⟩:=h
 refine ⟨W,s,r,(h.bind r.slen).mono fun x W1 s1 H1 r1 _ q x' rx=>⟨W1,s1,r1,(q.bind r1.slen).mono fun y W2 s2 H2 r2 st2 q y' ry=>?_⟩⟩
 exact hk W2 s2 H2 x y x' y' r2 (rx.on r1.slen st2.st) ry q
end
def asL (h:AH):PV→Option (List PV)
 | .lst xs=>some xs
 | .own xs=>some xs
 | .scr xs=>some xs
 | .cel n=>match h[n]? with
  | some (some (.lst xs))=>some xs
  | _=>none
 | _=>none
def tru (h:AH):PV→Option Bool
 | .non=>some false
 | .bl b=>some b
 | .int i=>some (i != 0)
 | .str x=>some ((x.length:Int) != 0)
 | .tup xs=>some (!xs.isEmpty)
 | x=>(asL h x).map fun xs=>!xs.isEmpty
section
variable {X:Cx} {B:Bs} {N:Ent} {WX:WX} {W:Wd} {h:AH} {H:Hp}
theorem jLA (hr:HRel B W h H) {x:PV} {x':V} {xs:List PV} (rx:RepT B W H x x') (e:asL h x=some xs):∃ a vs,x'=.ref a∧SqL B.K H a vs∧Reps B W xs vs:=by
 cases x with
 | lst ys =>
  cases e
  cases (show Rep B W (.lst _) x' from rx) with
  | lst h r=>exact ⟨_,_,rfl,.inl (.inl (hr.agree _ _ h)),r⟩
 | scr ys =>
  cases e
  cases (show Rep B W (.scr _) x' from rx) with
  | scr h r=>exact ⟨_,_,rfl,h.imp (fun ⟨e,_⟩=>e.imp (hr.agree _ _) fun ⟨o,e⟩=>⟨o,hr.agree _ _ e⟩) fun z=>z,r⟩
 | own ys =>
  cases e
  obtain ⟨a,vs,rfl,h,r,_⟩:=rx
  exact ⟨a,vs,rfl,.inl (.inl h),r⟩
 | cel n =>
  cases (show Rep B W (.cel n) x' from rx) with
  | cel h1 =>
   unfold asL at e
   dsimp only at e
   split at e
   ·rename_i ys q
    cases e
    obtain ⟨_,vs,h2,r⟩:=hr.cell n _ _ q h1
    exact ⟨_,vs,rfl,.inl (.inl h2),r⟩
   ·cases e
 | _=>cases e
theorem jQL (hr:HRel B W h H) {x:PV} {x':V} {xs:List PV} (rx:RepT B W H x x') (e:asL h x=some xs):xs.length≤sizeLine:=by
 cases x with
 | lst ys =>
  cases e
  cases (show Rep B W (.lst _) x' from rx) with
  | lst h r=>rw [r.length]; exact hr.hz _ _ (hr.agree _ _ h) jBG
 | scr ys =>
  cases e
  cases (show Rep B W (.scr _) x' from rx) with
  | scr h r =>
   rw [r.length]
   rcases h with ⟨_,z⟩ | ⟨o,its,n,_,_,_,_,z,q⟩
   ·exact z
   ·rw [q.length,Array.length_toList]; exact z
 | own ys =>
  cases e
  obtain ⟨a,vs,rfl,h,r,_⟩:=rx
  rw [r.length]; exact hr.hz _ _ h jBG
 | cel n =>
  cases (show Rep B W (.cel n) x' from rx) with
  | cel h1 =>
   unfold asL at e
   dsimp only at e
   split at e
   ·rename_i ys q
    cases e
    obtain ⟨_,vs,h2,r⟩:=hr.cell n _ _ q h1
    rw [r.length]; exact hr.hz _ _ h2 jBG
   ·cases e
 | _=>cases e
theorem jNL (hK:X.K=B.K) {a:Addr} {vs:List V} (h:SqL B.K H a vs):SqL X.K H a vs:=hK ▸ h
theorem jFX (hK:X.K=B.K) (hr:HRel B W h H) {x':V} {xs:List PV} (rx:Rep B W (.tup xs) x'):∃ a vs,x'=.ref a∧SqT X.K H a vs∧Reps B W xs vs:=by
 cases rx with
 | tup h r =>
  refine ⟨_,_,rfl,?_,r⟩
  rcases h with h | ⟨o,its,n,h1,h2,h3,h4,h5⟩
  ·exact .inl (.inl (hr.agree _ _ h))
  ·exact .inr ⟨o,its,n,hK ▸ h1,h2,h3,h4,h5⟩
theorem jWM {xs:List PV} {vs:List V} (r:Reps B W xs vs):(!xs.isEmpty)=!vs.isEmpty:=by
 cases r <;> rfl
theorem yIL (hK:X.K=B.K) (hr:HRel B W h H) {x:PV} {x':V} {b:Bool} (rx:RepT B W H x x') (e:tru h x=some b):TruV X.K x' H b:=by
 have fin:∀ xs,asL h x=some xs→b=!xs.isEmpty→TruV X.K x' H b:=fun xs e1 e2=>by
  obtain ⟨a,vs,rfl,h1,r⟩:=jLA hr rx e1
  exact .inl ⟨vs,jNL hK h1,by rw [e2,jWM r]⟩
 cases x with
 | non=>cases (show Rep B W .non x' from rx); cases e; exact rfl
 | bl c=>cases (show Rep B W (.bl c) x' from rx); cases e; exact rfl
 | int i=>cases (show Rep B W (.int i) x' from rx); cases e; exact rfl
 | str y =>
  cases (show Rep B W (.str y) x' from rx) with
  | str _ hy =>
   cases e
   exact ⟨hy.2,rfl⟩
 | tup xs =>
  obtain ⟨a,vs,rfl,h1,r⟩:=jFX hK hr (show Rep B W (.tup xs) x' from rx)
  cases e
  exact .inr (.inl ⟨vs,h1,jWM r⟩)
 | lst ys=>cases e; exact fin ys rfl rfl
 | scr ys=>cases e; exact fin ys rfl rfl
 | own ys=>cases e; exact fin ys rfl rfl
 | cel n =>
  have e':(asL h (.cel n)).map (fun xs=>!xs.isEmpty)=some b:=e
  cases q:asL h (.cel n) with
  | none=>rw [q] at e'; cases e'
  | some xs =>
   rw [q] at e'
   cases e'
   exact fin xs q rfl
 | _=>cases e
end
def tM (m:ME):S→R S Bool:=fun s=>(m s).bind fun v s1=>match tru s1.h v with
 | some b=>.ok b s1
 | none=>.bad
def andM (a b:S→R S Bool):S→R S Bool:=fun s=>(a s).bind fun c s1=>if c=true then b s1 else .ok false s1
def orM (a b:S→R S Bool):S→R S Bool:=fun s=>(a s).bind fun c s1=>if c=true then .ok true s1 else b s1
def jFT (a:S→R S Bool):S→R S Bool:=fun s=>(a s).bind fun c s1=>.ok (!c) s1
def ifM (c:S→R S Bool) (a b:ME):ME:=fun s=>(c s).bind fun k s1=>if k=true then a s1 else b s1
def bM (m:ME):S→R S Bool:=fun s=>(m s).bind fun v s1=>match v with
 | .bl b=>.ok b s1
 | _=>.bad
section
variable {X:Cx} {B:Bs} {N:Ent} {WX:WX} {a b c:Expr} {rest:List Expr} {ma mb:ME} {ta tb:S→R S Bool} {pos:Pos}
theorem yJ (hK:X.K=B.K) (ha:SimE X B N WX a ma) (he:∀ whole,isTrue a X.env whole=(do let v ← whole; standAt a.pos; holding [v] (truthy v))):SimT X B N WX a (tM ma) :=
 (pt_truth ha he).imp fun σ H Q ⟨W,s,r,h⟩=>⟨W,s,r,(h.bind r.slen).mono fun v W1 s1 H1 r1 _ q v' rv=>by
  split at q
  ·rename_i k e
   exact ⟨k,yIL hK r1.hr rv e,q.ok r1⟩
  ·exact q.elim⟩
theorem yYN {ma:ME} {σ:L2.St} {H:Hp} {Q:Bool→Hp→Prop} (h:tT B N WX (bM ma) σ H Q):tE B N WX ma σ H fun x H1=>∃ c,x=.bl c∧Q c H1:=by
 obtain ⟨W,s,r,h⟩:=h
 refine ⟨W,s,r,(h.bind r.slen).mono fun v W1 s1 H1 r1 _ q v' rv=>?_⟩
 cases v with
 | bl c =>
  cases (show Rep B W1 (.bl c) v' from rv)
  exact ⟨c,rfl,q.ok r1⟩
 | _=>exact q.elim
theorem yIN {σ:L2.St} {H:Hp} {Q:Bool→Hp→Prop} (h:tT B N WX (andM ta tb) σ H Q):tAnd (tT B N WX ta) (tT B N WX tb) σ H Q:=by
 obtain ⟨W,s,r,h⟩:=h
 refine ⟨W,s,r,(h.bind r.slen).mono fun c W1 s1 H1 r1 _ q=>?_⟩
 cases c with
 | true=>exact iteT ⟨W1,s1,r1,q⟩
 | false=>exact iteF (q.ok r1)
theorem yQS {σ:L2.St} {H:Hp} {Q:Bool→Hp→Prop} (h:tT B N WX (orM ta tb) σ H Q):tOr (tT B N WX ta) (tT B N WX tb) σ H Q:=by
 obtain ⟨W,s,r,h⟩:=h
 refine ⟨W,s,r,(h.bind r.slen).mono fun c W1 s1 H1 r1 _ q=>?_⟩
 cases c with
 | true=>exact iteT (q.ok r1)
 | false=>exact iteF ⟨W1,s1,r1,q⟩
theorem jCL (ha:SimT X B N WX a ta):SimW X B N WX (.BoolOp .And [a] pos) ta:=pw_and1 ha
theorem jCZ (ha:SimT X B N WX a ta):SimW X B N WX (.BoolOp .Or [a] pos) ta:=pw_or1 ha
theorem jAK (ha:SimT X B N WX a ta) (hb:SimW X B N WX (.BoolOp .And (b :: rest) pos) tb):SimW X B N WX (.BoolOp .And (a :: b :: rest) pos) (andM ta tb):=(pw_and ha hb).imp fun _ _ _ h=>yIN h
theorem jDB (ha:SimT X B N WX a ta) (hb:SimW X B N WX (.BoolOp .Or (b :: rest) pos) tb):SimW X B N WX (.BoolOp .Or (a :: b :: rest) pos) (orM ta tb):=(pw_or ha hb).imp fun _ _ _ h=>yQS h
theorem uP {op:BoolOp} {es:List Expr} (h:SimW X B N WX (.BoolOp op es pos) ta):SimT X B N WX (.BoolOp op es pos) ta:=h.pt
theorem zL (ha:SimT X B N WX a ta):SimT X B N WX (.UnaryOp .Not a pos) (jFT ta):=(pt_not ha).imp fun σ H Q ⟨W,s,r,h⟩=>⟨W,s,r,(h.bind r.slen).mono fun c W1 s1 H1 r1 _ q=>q.ok r1⟩
theorem jBA (hc:SimT X B N WX c ta) (ha:SimE X B N WX a ma) (hb:SimE X B N WX b mb):SimE X B N WX (.IfExp c a b pos) (ifM ta ma mb) :=
 (pe_ifExp hc ha hb).imp fun σ H Q ⟨W,s,r,h⟩=>⟨W,s,r,(h.bind r.slen).mono fun k W1 s1 H1 r1 _ q=>by
  cases k with
  | true=>exact iteT ⟨W1,s1,r1,q⟩
  | false=>exact iteF ⟨W1,s1,r1,q⟩⟩
def jGH (a b:ME):ME:=fun s=>(a s).bind fun v s1=>match v with
 | .bl true=>b s1
 | .bl false=>.ok (.bl false) s1
 | _=>.bad
def orV (a b:ME):ME:=fun s=>(a s).bind fun v s1=>match v with
 | .bl true=>.ok (.bl true) s1
 | .bl false=>b s1
 | _=>.bad
def jVO (a:ME):ME:=fun s=>(a s).bind fun v s1=>match v with
 | .bl k=>.ok (.bl (!k)) s1
 | _=>.bad
theorem qC {op:BoolOp} (ha:SimE X B N WX a ma):SimE X B N WX (.BoolOp op [a] pos) ma:=pe_one ha
theorem jAS (ha:SimE X B N WX a ma) (hb:SimE X B N WX (.BoolOp .And (b :: rest) pos) mb):SimE X B N WX (.BoolOp .And (a :: b :: rest) pos) (jGH ma mb) :=
 (pe_and ha hb).imp fun σ H Q ⟨W,s,r,h⟩=>⟨W,s,r,(h.bind r.slen).mono fun v W1 s1 H1 r1 _ q v' rv=>by
  cases v with
  | bl k =>
   cases (show Rep B W1 (.bl k) v' from rv)
   cases k with
   | true=>exact ⟨true,rfl,iteT ⟨W1,s1,r1,q⟩⟩
   | false=>exact ⟨false,rfl,iteF (q.ok r1 _ (Rep.bl false).hand)⟩
  | _=>exact q.elim⟩
theorem jIZ (ha:SimE X B N WX a ma) (hb:SimE X B N WX (.BoolOp .Or (b :: rest) pos) mb):SimE X B N WX (.BoolOp .Or (a :: b :: rest) pos) (orV ma mb) :=
 (pe_or ha hb).imp fun σ H Q ⟨W,s,r,h⟩=>⟨W,s,r,(h.bind r.slen).mono fun v W1 s1 H1 r1 _ q v' rv=>by
  cases v with
  | bl k =>
   cases (show Rep B W1 (.bl k) v' from rv)
   cases k with
   | true=>exact ⟨true,rfl,iteT (q.ok r1 _ (Rep.bl true).hand)⟩
   | false=>exact ⟨false,rfl,iteF ⟨W1,s1,r1,q⟩⟩
  | _=>exact q.elim⟩
theorem jMA (ha:SimE X B N WX a ma):SimE X B N WX (.UnaryOp .Not a pos) (jVO ma) :=
 (pe_not ha).imp fun σ H Q ⟨W,s,r,h⟩=>⟨W,s,r,(h.bind r.slen).mono fun v W1 s1 H1 r1 _ q v' rv=>by
  cases v with
  | bl k =>
   cases (show Rep B W1 (.bl k) v' from rv)
   exact ⟨k,rfl,q.ok r1 _ (Rep.bl (!k)).hand⟩
  | _=>exact q.elim⟩
end
end Lp
set_option maxHeartbeats 4000000
namespace Lp
open PySem PySem.Spec PyProof.Rows L2
inductive Grow:Wd→Hp→Wd→Hp→Prop where
 | refl (W:Wd) (H:Hp):Grow W H W H
 | new {W:Wd} {H:Hp} {p:Addr} {o:HO} (hp:H p=none) (ho:SzO o):Grow W H ⟨upd W.F p o,W.m⟩ (upd H p o)
section
variable {B:Bs} {N:Ent} {W W':Wd} {h:AH} {s:S} {σ:L2.St} {H H':Hp} {p:Addr} {o:HO}
theorem HRel.fnone (r:HRel B W h H) (hp:H p=none):W.F p=none:=by
 cases e:W.F p with
 | none=>rfl
 | some o=>rw [r.agree _ _ e] at hp; cases hp
theorem jDR (hF:W.F p=none):W.Le ⟨upd W.F p o,W.m⟩:=⟨fun a u e=>by
 show upd W.F p o a=some u
 rw [upd_ne (ne_of_none e hF)]; exact e,List.prefix_refl _⟩
theorem CellR.mono {c:Cell} {a:Addr} (l:W.Le W') (hH:∀ u,H a=some u→H' a=some u) (r:CellR B W H a c):CellR B W' H' a c:=by
 cases c with
 | lst xs=>obtain ⟨vs,h1,h2⟩:=r; exact ⟨vs,hH _ h1,h2.mono l⟩
 | dic ks=>obtain ⟨L,h1,h2,h3⟩:=r; exact ⟨L,hH _ h1,h2,h3.mono l⟩
 | dik ks=>obtain ⟨L,h1,h2,h3⟩:=r; exact ⟨L,hH _ h1,h2,h3.mono l⟩
 | ins c fs=>obtain ⟨dx,vs,h1,h2,h3⟩:=r; exact ⟨dx,vs,hH _ h1,h2,h3.mono l⟩
theorem jQP {T:List (Addr × Str)} (t:LamX.Tabs T H) (hp:H p=none):LamX.Tabs T (upd H p o):=t.ext fun b u e=>by rw [upd_ne (ne_of_none e hp)]; exact e
theorem jLY {T:List (Addr × Str)} {a:Addr} {o0:HO} (t:LamX.Tabs T H) (ha:H a=some o0) (nt:NT o0) (nc:∀ c q,o0≠LamX.CodeO c q):LamX.Tabs T (upd H a o):=fun p hp=>by
 obtain ⟨ps,h1,h2,h3⟩:=t p hp
 refine ⟨ps,by rw [upd_ne fun z=>nt ps (by rw [z,ha] at h1; exact Option.some.inj h1)]; exact h1,h2,fun pos cv hc=>?_⟩
 obtain ⟨c,e1,e2⟩:=h3 pos cv hc
 exact ⟨c,e1,by rw [upd_ne fun z=>nc c p.2 (by rw [z,ha] at e2; rw [z]; exact Option.some.inj e2)]; exact e2⟩
theorem jUG {vs:List V}:∀ c q,HO.lst vs≠LamX.CodeO c q:=fun c q z=>by unfold LamX.CodeO at z; cases z
theorem yZH {ks:List (L2.Key × V)}:∀ c q,HO.dK ks≠LamX.CodeO c q:=fun c q z=>by unfold LamX.CodeO at z; cases z
theorem yZG {ks:List (L2.Key × V)}:NT (.dK ks):=fun _ z=>nomatch z
theorem jYN {w:World} {a:Addr} {L:List (NestedKey × Addr × Value)}:NT (DicO w a L):=fun _ z=>by unfold DicO at z; cases z
theorem yWY {a b:Addr} {fs:List (Str × V)}:∀ c q,HO.ins a b fs≠LamX.CodeO c q:=fun c q z=>by unfold LamX.CodeO at z; cases z
theorem yHD (r:HRel B W h H) (hp:H p=none) (ho:SzO o):HRel B ⟨upd W.F p o,W.m⟩ h (upd H p o):=by
 have hF:=r.fnone hp
 refine ⟨fun a u e=>?_,r.len,r.nd,fun a hm=>?_,fun a u e nt=>?_,fun a u e=>?_,jQP r.tb hp,fun n c a e1 e2=>?_⟩
 ·by_cases ha:a=p
  ·subst ha
   have e:upd W.F a o a=some u:=e
   rw [upd_same] at e
   rw [upd_same]; exact e
  ·have e:upd W.F p o a=some u:=e
   rw [upd_ne ha] at e
   rw [upd_ne ha]; exact r.agree _ _ e
 ·have ha:a≠p:=fun z=>r.mt a hm (by rw [z]; exact hp)
  rw [upd_ne ha]; exact r.mt a hm
 ·by_cases ha:a=p
  ·rw [ha,upd_same] at e
   cases e
   exact ho
  ·rw [upd_ne ha] at e
   exact r.hz a u e nt
 ·by_cases ha:a=p
  ·have e:upd W.F p o a=some u:=e
   rw [ha,upd_same] at e
   cases e
   exact ho.nt
  ·have e:upd W.F p o a=some u:=e
   rw [upd_ne ha] at e
   exact r.fz a u e
 ·obtain ⟨h1,h2⟩:=r.cell n c a e1 e2
  have ha:a≠p:=by
   cases c with
   | lst xs=>obtain ⟨vs,h,_⟩:=h2; exact ne_of_none h hp
   | dic ks=>obtain ⟨L,h,_⟩:=h2; exact ne_of_none h hp
   | dik ks=>obtain ⟨L,h,_⟩:=h2; exact ne_of_none h hp
   | ins c fs=>obtain ⟨dx,vs,h,_⟩:=h2; exact ne_of_none h hp
  exact ⟨by show upd W.F p o a=none; rw [upd_ne ha]; exact h1,h2.mono (jDR hF) fun u e=>by rw [upd_ne ha]; exact e⟩
theorem jJC (r:HRel B W h H) (hp:H p=none):Step W h H ⟨upd W.F p o,W.m⟩ h (upd H p o):=by
 have hF:=r.fnone hp
 refine ⟨jDR hF,Nat.le_refl _,fun n c _ e=>⟨c,e⟩,fun a u e _ _=>by rw [upd_ne (ne_of_none e hp)]; exact e,fun a e=>?_,fun a e ne _=>?_,r.len,fun n a hn e=>?_⟩
 ·by_cases ha:a=p
  ·subst ha; exact hp
  ·rw [upd_ne ha] at e; exact e
 ·have ha:a≠p:=fun z=>ne.ne (z ▸ hp)
  show upd W.F p o a=none
  rw [upd_ne ha]; exact e
 ·have e:W.m[n]?=some a:=e
  have:=(List.getElem?_eq_some_iff.mp e).1
  rw [r.len] at this
  omega
theorem SlotR.mono {x:PV} {v:V} {H0:Hp} (l:W.Le W') (hm:W'.m=W.m) (hH:∀ a u,H a=some u→H' a=some u) (hF:∀ a,W.F a=none→H a≠none→W'.F a=none) (r:SlotR B W H H0 x v):SlotR B W' H' H0 x v:=by
 cases x with
 | own xs =>
  obtain ⟨a,vs,e,h,r,f,nm,h0⟩:=r
  exact ⟨a,vs,e,hH _ _ h,r.mono l,hF a f (by rw [h]; exact fun z=>nomatch z),by rw [hm]; exact nm,h0⟩
 | don ks=>exact DonR.mono l r
 | _=>exact Rep.mono l r
theorem jPR (r:Rel B N W s σ H) (hp:H p=none) (ho:SzO o):Rel B N ⟨upd W.F p o,W.m⟩ s σ (upd H p o) :=
 ⟨yHD r.hr hp ho,r.st.trans N.len (jJC r.hr hp),r.len,fun i x e=>by
  obtain ⟨v,e',sl⟩:=r.env i x e
  refine ⟨v,e',sl.mono (jDR (r.hr.fnone hp)) rfl (fun a u q=>by rw [upd_ne (ne_of_none q hp)]; exact q) fun a q ne=>?_⟩
  show upd W.F p o a=none
  have ha:a≠p:=fun z=>ne (by rw [z]; exact hp)
  rw [upd_ne ha]; exact q,r.dis,r.pin.trans (jDR (r.hr.fnone hp))⟩
theorem Grow.rel (g:Grow W H W' H') (r:Rel B N W s σ H):Rel B N W' s σ H':=by
 cases g with
 | refl=>exact r
 | new hp ho=>exact jPR r hp ho
theorem Grow.step (g:Grow W H W' H') (r:HRel B W h H):Step W h H W' h H':=by
 cases g with
 | refl=>exact Step.refl r
 | new hp _=>exact jJC r hp
theorem Grow.stepE (g:Grow W H W' H') (r:HRel B W s.h H):StepE W s H W' s H':=⟨g.step r,fun _ _ e _=>e⟩
theorem jDL {xs:List PV} {vs:List V} (hF:W.F p=none) (r:Reps B W xs vs):Rep B ⟨upd W.F p (.tup vs),W.m⟩ (.tup xs) (.ref p):=.tup (.inl upd_same) (r.mono (jDR hF))
theorem jDM {xs:List PV} {vs:List V} (hF:W.F p=none) (r:Reps B W xs vs):Rep B ⟨upd W.F p (.lst vs),W.m⟩ (.lst xs) (.ref p):=.lst upd_same (r.mono (jDR hF))
end
def OpSem (X:Cx) (B:Bs) (f:AH→PV→PV→Option PV) (r:R2):Prop:=∀ (W:Wd) (h:AH) (H:Hp) (x y z:PV) (x' y':V) (Q:VK),HRel B W h H→RepT B W H x x'→RepT B W H y y'→f h x y=some z →
 (∀ W' H' z',Grow W H W' H'→RepT B W' H' z z'→Q z' H')→r x' y' H Q
theorem OpSem.or {X:Cx} {B:Bs} {f g:AH→PV→PV→Option PV} {r r':R2} (a:OpSem X B f r) (b:OpSem X B g r'):OpSem X B (fun h x y=>(f h x y).or (g h x y)) (fun x y H Q=>r x y H Q∨r' x y H Q):=by
 intro W h H x y z x' y' Q hr rx ry e q
 have e:(f h x y).or (g h x y)=some z:=e
 cases ef:f h x y with
 | some z' =>
  rw [ef] at e
  cases e
  exact .inl (a W h H x y z x' y' Q hr rx ry ef q)
 | none =>
  rw [ef] at e
  exact .inr (b W h H x y z x' y' Q hr rx ry e q)
section
variable {X:Cx} {B:Bs} {N:Ent} {WX:WX} {a b:Expr} {ma mb:ME} {pos:Pos}
theorem jQH {f:AH→PV→PV→Option PV} {r:R2} (hf:OpSem X B f r) {W2:Wd} {s2:S} {σ:L2.St} {H2:Hp} {x y:PV} {x' y':V} {Q:VK} (r2:Rel B N W2 s2 σ H2) (rx:RepT B W2 H2 x x') (ry:RepT B W2 H2 y y')
  (q:Post B N WX W2 s2 H2 σ (match f s2.h x y with | some z=>R.ok z s2 | none=>.bad) fun u W' _ H'=>∀ u',RepT B W' H' u u'→Q u' H'):r x' y' H2 Q:=by
 split at q
 ·rename_i z e
  exact hf W2 s2.h H2 x y z x' y' Q r2.hr rx ry e fun W' H' z' g rz=>q W' H' (g.rel r2) (g.stepE r2.hr) z' rz
 ·exact q.elim
theorem jQF {op:Operator} {r:R2} {f:AH→PV→PV→Option PV} (ho:OpR X (binaryOp op) r) (hf:OpSem X B f r) (ha:SimE X B N WX a ma) (hb:SimE X B N WX b mb):SimE X B N WX (.BinOp a op b pos) (jO f ma mb) :=
 (pe_op ho ha hb).imp fun σ H Q h=>two h fun W2 s2 H2 x y x' y' r2 rx ry q=>jQH hf r2 rx ry q
theorem yFP {op:CmpOp} {r:R2} {f:AH→PV→PV→Option PV} (ho:OpR X (compareOp op) r) (hf:OpSem X B f r) (ha:SimE X B N WX a ma) (hb:SimE X B N WX b mb) (hm:behindInMarks op b=false):SimE X B N WX (.Compare a [op] [b] pos) (jO f ma mb) :=
 (pe_cmpR ho ha hb hm).imp fun σ H Q h=>two h fun W2 s2 H2 x y x' y' r2 rx ry q=>jQH hf r2 rx ry q
theorem yBZ {op:CmpOp} {r:R2} {f:AH→PV→PV→Option PV} (ho:OpR X (compareOp op) r) (hf:OpSem X B f r) (ha:SimE X B N WX a ma) (hb:SimE X B N WX b mb) (hm:behindInMarks op b=false):SimT X B N WX (.Compare a [op] [b] pos) (bM (jO f ma mb)) :=
 (pt_cmpR ho ha hb hm).imp fun σ H Q h=>two (yYN h) fun W2 s2 H2 x y x' y' r2 rx ry q=>jQH hf r2 rx ry q
end
def fI (g:Int→Int→Option Int):AH→PV→PV→Option PV:=fun _ x y=>match x,y with
 | .int i,.int j=>(g i j).map .int
 | _,_=>none
def fIB (g:Int→Int→Bool):AH→PV→PV→Option PV:=fun _ x y=>match x,y with
 | .int i,.int j=>some (.bl (g i j))
 | _,_=>none
section
variable {X:Cx} {B:Bs} {W:Wd} {H:Hp}
theorem jAJ {i:Int} {v:V} (r:RepT B W H (.int i) v):v=.int i:=by cases (show Rep B W (.int i) v from r); rfl
theorem jYG {b:Bool} {v:V} (r:RepT B W H (.bl b) v):v=.bl b:=by cases (show Rep B W (.bl b) v from r); rfl
theorem yAT {v:V} (r:RepT B W H .non v):v=.non:=by cases (show Rep B W .non v from r); rfl
theorem jDT {x:Str} {v:V} (r:RepT B W H (.str x) v):v=.str x∧SOk x:=by
 cases (show Rep B W (.str x) v from r) with
 | str _ h=>exact ⟨rfl,h⟩
theorem jZV {g:Int→Int→Option Int} {C:Int→Int→Prop} {f:Int→Int→Int} (hg:∀ i j k,g i j=some k→C i j∧f i j=k):OpSem X B (fI g) (rI C fun i j=>.int (f i j)):=by
 intro W h H x y z x' y' Q hr rx ry e q
 unfold fI at e
 split at e
 ·rename_i i j
  cases eg:g i j with
  | none=>rw [eg] at e; cases e
  | some k =>
   rw [eg] at e
   cases e
   obtain ⟨c,ek⟩:=hg i j k eg
   exact ⟨i,j,jAJ rx,jAJ ry,c,q W H _ (.refl W H) (by show RepT B W H (.int k) (.int (f i j)); rw [ek]; exact (Rep.int k).hand)⟩
 ·cases e
theorem yVJ {f:Int→Int→Int}:OpSem X B (fI fun i j=>some (f i j)) (rI0 fun i j=>.int (f i j)):=by
 intro W h H x y z x' y' Q hr rx ry e q
 unfold fI at e
 split at e
 ·rename_i i j
  cases e
  exact ⟨i,j,jAJ rx,jAJ ry,q W H _ (.refl W H) (Rep.int _).hand⟩
 ·cases e
theorem jUC {g:Int→Int→Bool}:OpSem X B (fIB g) (rI0 fun i j=>.bl (g i j)):=by
 intro W h H x y z x' y' Q hr rx ry e q
 unfold fIB at e
 split at e
 ·rename_i i j
  cases e
  exact ⟨i,j,jAJ rx,jAJ ry,q W H _ (.refl W H) (Rep.bl _).hand⟩
 ·cases e
end
def jXZ (i j:Int):Option Int:=if (i.natAbs < 18446744073709551616)∨(j.natAbs < 18446744073709551616) then some (i * j) else none
def jWA (i j:Int):Option Int:=if j≠0∧j.natAbs < 1073741824 then some (i.fdiv j) else none
def yDD (i j:Int):Option Int:=if j≠0 then some (i.fmod j) else none
def yQH (i j:Int):Option Int:=if 0≤j∧j≤1000∧i.natAbs < 18446744073709551616 then some (i ^ j.toNat) else none
theorem yOJ:∀ i j k,jXZ i j=some k→CMul i j∧i * j=k:=fun i j k e=>by
 unfold jXZ at e
 split at e
 ·rename_i h
  refine ⟨?_,Option.some.inj e⟩
  unfold CMul
  rcases h with h | h
  ·exact .inl (by omega)
  ·exact .inr (by omega)
 ·cases e
theorem yHF:∀ i j k,jWA i j=some k→CDivN i j∧i.fdiv j=k:=fun i j k e=>by
 unfold jWA at e
 split at e
 ·rename_i h
  exact ⟨h,Option.some.inj e⟩
 ·cases e
theorem yOK:∀ i j k,yDD i j=some k→j≠0∧i.fmod j=k:=fun i j k e=>by
 unfold yDD at e
 split at e
 ·rename_i h
  exact ⟨h,Option.some.inj e⟩
 ·cases e
theorem yNP:∀ i j k,yQH i j=some k→CPow i j∧i ^ j.toNat=k:=fun i j k e=>by
 unfold yQH at e
 split at e
 ·rename_i h
  exact ⟨⟨h.1,by omega,by have:=h.2.2; omega⟩,Option.some.inj e⟩
 ·cases e
def yDX:AH→PV→PV→Option PV:=fun _ x y=>match x,y with
 | .str i,.str j=>if i.length+j.length≤sizeLine then some (.str (i++j)) else none
 | _,_=>none
def asM (h:AH):PV→Option (List PV)
 | .lst xs=>some xs
 | .own xs=>some xs
 | .cel n=>match h[n]? with
  | some (some (.lst xs))=>some xs
  | _=>none
 | _=>none
def jIJ:AH→PV→PV→Option PV:=fun h x y=>match asM h x,asM h y with
 | some xs,some ys=>if xs.length+ys.length≤sizeLine then some (.lst (xs++ys)) else none
 | _,_=>none
def yDW:AH→PV→PV→Option PV:=fun _ x y=>match x,y with
 | .tup xs,.tup ys=>if xs.length+ys.length≤sizeLine then some (.tup (xs++ys)) else none
 | _,_=>none
def yDV:AH→PV→PV→Option PV:=fun h x y=>match asM h x,y with
 | some xs,.int k=>if k.natAbs < 1000000∧xs.length * k.toNat≤sizeLine then some (.lst (List.replicate k.toNat xs).flatten) else none
 | _,_=>none
section
variable {X:Cx} {B:Bs} {W:Wd} {h:AH} {H:Hp}
theorem jNP (hr:HRel B W h H) {x:PV} {x':V} {xs:List PV} (rx:RepT B W H x x') (e:asM h x=some xs):∃ a vs,x'=.ref a∧H a=some (.lst vs)∧Reps B W xs vs:=by
 cases x with
 | lst ys =>
  cases e
  cases (show Rep B W (.lst _) x' from rx) with
  | lst h r=>exact ⟨_,_,rfl,hr.agree _ _ h,r⟩
 | own ys =>
  cases e
  obtain ⟨a,vs,rfl,h,r,_⟩:=rx
  exact ⟨a,vs,rfl,h,r⟩
 | cel n =>
  cases (show Rep B W (.cel n) x' from rx) with
  | cel h1 =>
   unfold asM at e
   dsimp only at e
   split at e
   ·rename_i ys q
    cases e
    obtain ⟨_,vs,h2,r⟩:=hr.cell n _ _ q h1
    exact ⟨_,vs,rfl,h2,r⟩
   ·cases e
 | _=>cases e
theorem jYX {i j:Str} (a:SOk i) (b:SOk j) (h:i.length+j.length≤sizeLine):SOk (i++j):=by
 have e:(i++j).cps=i.cps++j.cps:=rfl
 refine ⟨?_,?_⟩
 ·show (i++j).cps.all (· < 0x110000)=true
  rw [e,Array.all_append]
  rw [show i.cps.all (· < 0x110000)=true from a.1,show j.cps.all (· < 0x110000)=true from b.1]
  rfl
 ·show (i++j).cps.size≤sizeLine
  rw [e,Array.size_append]
  exact h
theorem yFY:OpSem X B yDX (fun x y H Q=>∃ i j,x=.str i∧y=.str j∧i.length+j.length≤sizeLine∧Q (.str (i++j)) H):=by
 intro W h H x y z x' y' Q hr rx ry e q
 unfold yDX at e
 split at e
 ·rename_i i j
  split at e
  ·rename_i hz
   cases e
   obtain ⟨e1,k1⟩:=jDT rx
   obtain ⟨e2,k2⟩:=jDT ry
   exact ⟨i,j,e1,e2,hz,q W H _ (.refl W H) (Rep.str _ (jYX k1 k2 hz)).hand⟩
  ·cases e
 ·cases e
theorem yFZ:OpSem X B jIJ rCat:=by
 intro W h H x y z x' y' Q hr rx ry e q
 unfold jIJ at e
 split at e
 ·rename_i xs ys ex ey
  split at e
  ·rename_i hz
   cases e
   obtain ⟨a,vs,rfl,ha,ra⟩:=jNP hr rx ex
   obtain ⟨b,ws,rfl,hb,rb⟩:=jNP hr ry ey
   refine ⟨a,b,vs,ws,rfl,rfl,ha,hb,by rw [← ra.length,← rb.length]; exact hz,fun p hp=>q _ _ _ (.new hp (by show (vs++ws).length≤sizeLine; rw [List.length_append,← ra.length,← rb.length]; exact hz)) ?_⟩
   exact (jDM (hr.fnone hp) (ra.append rb)).hand
  ·cases e
 ·cases e
theorem yFX (hK:X.K=B.K):OpSem X B yDW (rCatA X.K):=by
 intro W h H x y z x' y' Q hr rx ry e q
 unfold yDW at e
 split at e
 ·rename_i xs ys
  split at e
  ·rename_i hz
   cases e
   obtain ⟨a,vs,rfl,ha,ra⟩:=jFX hK hr (show Rep B W (.tup xs) x' from rx)
   obtain ⟨b,ws,rfl,hb,rb⟩:=jFX hK hr (show Rep B W (.tup ys) y' from ry)
   refine ⟨a,b,vs,ws,rfl,rfl,ha,hb,by rw [← ra.length,← rb.length]; exact hz,fun z=>?_,fun _ z=>?_,fun _ _ p hp=>q _ _ _ (.new hp (by show (vs++ws).length≤sizeLine; rw [List.length_append,← ra.length,← rb.length]; exact hz)) ?_⟩
   ·subst z
    have e0:xs=[]:=List.length_eq_zero_iff.mp ra.length
    subst e0
    exact q W H _ (.refl W H) ry
   ·subst z
    have e0:ys=[]:=List.length_eq_zero_iff.mp rb.length
    subst e0
    rw [List.append_nil] at q
    exact q W H _ (.refl W H) rx
   ·exact (jDL (hr.fnone hp) (ra.append rb)).hand
  ·cases e
 ·cases e
theorem jJE {α:Type} (xs:List α) (k:Nat):(List.replicate k xs).flatten.length=xs.length * k:=by
 rw [List.length_flatten,List.map_replicate,List.sum_replicate_nat,Nat.mul_comm]
theorem yFT:OpSem X B yDV rRep:=by
 intro W h H x y z x' y' Q hr rx ry e q
 unfold yDV at e
 split at e
 ·rename_i xs k ex
  split at e
  ·rename_i hz
   cases e
   obtain ⟨a,vs,rfl,ha,ra⟩:=jNP hr rx ex
   refine ⟨a,k,vs,rfl,jAJ ry,ha,by omega,by omega,by rw [← ra.length]; exact hz.2,fun p hp=>q _ _ _ (.new hp (by show (List.replicate k.toNat vs).flatten.length≤sizeLine; rw [jJE,← ra.length]; exact hz.2)) ?_⟩
   exact (jDM (hr.fnone hp) (ra.rep _)).hand
  ·cases e
 ·cases e
end
mutual
def toD:PV→Option PyData
 | .non=>some .none
 | .bl b=>some (.bool b)
 | .int i=>some (.int i)
 | .str x=>some (.str x)
 | .tup xs=>(toDs xs).map .tuple
 | .lst xs=>(toDs xs).map .list
 | _=>none
def toDs:List PV→Option (List PyData)
 | []=>some []
 | x :: xs=>match toD x,toDs xs with
  | some d,some ds=>some (d :: ds)
  | _,_=>none
end
def jHM (h:AH) (x:PV):Option PyData:=match x with
 | .own xs=>(toDs xs).map .list
 | .cel n=>match h[n]? with
  | some (some (.lst xs))=>(toDs xs).map .list
  | _=>none
 | x=>toD x
def dOk (d:PyData):Bool:=decide (d.depth≤64)
def fEq:AH→PV→PV→Option PV:=fun h x y=>match jHM h x,jHM h y with
 | some d,some e=>if dOk d&&dOk e then some (.bl (PyData.eqv d e)) else none
 | _,_=>none
def fNe:AH→PV→PV→Option PV:=fun h x y=>match jHM h x,jHM h y with
 | some d,some e=>if dOk d&&dOk e then some (.bl (!PyData.eqv d e)) else none
 | _,_=>none
section
variable {X:Cx} {B:Bs} {W:Wd} {h:AH} {H:Hp}
mutual
theorem jTZ (hK:X.K=B.K) (hr:HRel B W h H):∀ {x:PV} {v:V} {d:PyData},Rep B W x v→toD x=some d→Dp X.K H v d∧d.canLay0=true
 | _,_,_,.non,e=>by cases e; exact ⟨.non,rfl⟩
 | _,_,_,.bl b,e=>by cases e; exact ⟨.bl b,rfl⟩
 | _,_,_,.int i,e=>by cases e; exact ⟨.int i,rfl⟩
 | _,_,_,.str x k,e=>by cases e; exact ⟨.str x,by simpa [PyData.canLay0] using k.1⟩
 | _,_,_,.ty n,e=>by simp [toD] at e
 | _,_,_,.cls c,e=>by simp [toD] at e
 | _,_,_,.cel h,e=>by simp [toD] at e
 | _,_,_,.ins h1 h2 h3,e=>by simp [toD] at e
 | .tup xs,_,_,.tup h1 r,e=>by
  rw [toD] at e
  cases q:toDs xs with
  | none=>rw [q] at e; cases e
  | some ds =>
   rw [q] at e
   cases e
   obtain ⟨h2,h3⟩:=toDs_dp hK hr r q
   refine ⟨.tup ?_ h2,by simpa [PyData.canLay0] using h3⟩
   rcases h1 with h1 | ⟨o,its,n,k1,k2,k3,k4,k5⟩
   ·exact .inl (.inl (hr.agree _ _ h1))
   ·exact .inr ⟨o,its,n,hK ▸ k1,k2,k3,k4,k5⟩
 | .lst xs,_,_,.lst h1 r,e=>by
  rw [toD] at e
  cases q:toDs xs with
  | none=>rw [q] at e; cases e
  | some ds =>
   rw [q] at e
   cases e
   obtain ⟨h2,h3⟩:=toDs_dp hK hr r q
   exact ⟨.lst (.inl (.inl (hr.agree _ _ h1))) h2,by simpa [PyData.canLay0] using h3⟩
 | .scr xs,_,_,.scr h1 r,e=>by simp [toD] at e
theorem toDs_dp (hK:X.K=B.K) (hr:HRel B W h H):∀ {xs:List PV} {vs:List V} {ds:List PyData},Reps B W xs vs→toDs xs=some ds→DpAll X.K H vs ds∧PyData.canLayAll0 ds=true
 | _,_,_,.nil,e=>by cases e; exact ⟨.nil,rfl⟩
 | x :: xs,_,_,.cons r t,e=>by
  rw [toDs] at e
  cases q1:toD x with
  | none=>rw [q1] at e; cases e
  | some d =>
   cases q2:toDs xs with
   | none=>rw [q1,q2] at e; cases e
   | some ds =>
    rw [q1,q2] at e
    cases e
    obtain ⟨a1,a2⟩:=jTZ hK hr r q1
    obtain ⟨b1,b2⟩:=toDs_dp hK hr t q2
    exact ⟨.cons a1 b1,by simp [PyData.canLayAll0,a2,b2]⟩
end
theorem jDA (hK:X.K=B.K) (hr:HRel B W h H) {x:PV} {v:V} {d:PyData} (r:RepT B W H x v) (e:jHM h x=some d):Dp X.K H v d∧d.canLay0=true:=by
 have fin:∀ (xs:List PV) (a:Addr) (vs:List V),v=.ref a→H a=some (.lst vs)→Reps B W xs vs→(toDs xs).map PyData.list=some d→Dp X.K H v d∧d.canLay0=true:=fun xs a vs ev ha ra e=>by
  cases q:toDs xs with
  | none=>rw [q] at e; cases e
  | some ds =>
   rw [q] at e
   cases e
   obtain ⟨h2,h3⟩:=toDs_dp hK hr ra q
   rw [ev]
   exact ⟨.lst (.inl (.inl ha)) h2,by simpa [PyData.canLay0] using h3⟩
 cases x with
 | own xs =>
  obtain ⟨a,vs,ev,ha,ra,_⟩:=r
  exact fin xs a vs ev ha ra e
 | cel n =>
  unfold jHM at e
  dsimp only at e
  split at e
  ·rename_i xs q
   obtain ⟨a,vs,ev,ha,ra⟩:=jNP (x:=.cel n) (xs:=xs) hr r (by unfold asM; dsimp only; rw [q])
   exact fin xs a vs ev ha ra e
  ·cases e
 | don ks=>simp [jHM,toD] at e
 | _=>exact jTZ hK hr r e
theorem qD {d:PyData} (a:d.canLay0=true) (b:dOk d=true):SeqAt.shaped d=true:=by
 unfold SeqAt.shaped
 rw [a]
 exact b
theorem yVI (hK:X.K=B.K):OpSem X B fEq (rEqD X.K):=by
 intro W h H x y z x' y' Q hr rx ry e q
 unfold fEq at e
 split at e
 ·rename_i d f ed ef
  split at e
  ·rename_i hz
   cases e
   obtain ⟨z1,z2⟩:=Bool.and_eq_true_iff.mp hz
   obtain ⟨a1,a2⟩:=jDA hK hr rx ed
   obtain ⟨b1,b2⟩:=jDA hK hr ry ef
   exact ⟨d,f,a1,b1,qD a2 z1,qD b2 z2,q W H _ (.refl W H) (Rep.bl _).hand⟩
  ·cases e
 ·cases e
theorem yVG (hK:X.K=B.K):OpSem X B fNe (rNeD X.K):=by
 intro W h H x y z x' y' Q hr rx ry e q
 unfold fNe at e
 split at e
 ·rename_i d f ed ef
  split at e
  ·rename_i hz
   cases e
   obtain ⟨z1,z2⟩:=Bool.and_eq_true_iff.mp hz
   obtain ⟨a1,a2⟩:=jDA hK hr rx ed
   obtain ⟨b1,b2⟩:=jDA hK hr ry ef
   exact ⟨d,f,a1,b1,qD a2 z1,qD b2 z2,q W H _ (.refl W H) (Rep.bl _).hand⟩
  ·cases e
 ·cases e
end
def isNon:PV→Bool
 | .non=>true
 | _=>false
def jKW:AH→PV→PV→Option PV:=fun _ x y=>match y with
 | .non=>some (.bl (isNon x))
 | _=>none
section
variable {X:Cx} {B:Bs} {W:Wd} {h:AH} {H:Hp}
theorem yCI {x:PV} {v:V} (r:RepT B W H x v):decide (v=.non)=isNon x:=by
 cases x with
 | own xs=>obtain ⟨a,vs,rfl,_⟩:=r; rfl
 | don ks=>obtain ⟨a,vs,o,rfl,_⟩:=r; rfl
 | _=>cases r <;> rfl
theorem yNG:OpSem X B jKW (fun x y H Q=>y=.non∧Q (.bl (decide (x=.non))) H):=by
 intro W h H x y z x' y' Q hr rx ry e q
 unfold jKW at e
 split at e
 ·cases e
  refine ⟨yAT ry,?_⟩
  rw [yCI rx]
  exact q W H _ (.refl W H) (Rep.bl _).hand
 ·cases e
end
end Lp
set_option maxHeartbeats 4000000
namespace Lp
open PySem PySem.Spec PyProof.Rows L2
abbrev MA:=S→R S (List PV)
def jL:MA:=fun s=>.ok [] s
def jC (m:ME) (r:MA):MA:=fun s=>(m s).bind fun v s1=>(r s1).bind fun vs s2=>.ok (v :: vs) s2
def asS (h:AH) (x:PV):Option (List PV):=match x with
 | .tup xs=>some xs
 | x=>asL h x
def jWB (m:ME) (r:MA):MA:=fun s=>(m s).bind fun v s1=>match asS s1.h v with
 | some xs=>(r s1).bind fun vs s2=>.ok (xs++vs) s2
 | none=>.bad
section
variable {X:Cx} {B:Bs} {N:Ent} {WX:WX} {W:Wd} {h:AH} {H:Hp} {e:Expr} {es:List Expr} {m:ME} {ma:MA}
theorem RepTs.append:∀ {xs ys:List PV} {vs ws:List V},RepTs B W H xs vs→RepTs B W H ys ws→RepTs B W H (xs++ys) (vs++ws)
 | [],_,[],_,_,s=>s
 | _ :: _,_,_ :: _,_,⟨r,t⟩,s=>⟨r,RepTs.append t s⟩
 | [],_,_ :: _,_,h,_=>h.elim
 | _ :: _,_,[],_,h,_=>h.elim
theorem Reps.hand:∀ {xs:List PV} {vs:List V},Reps B W xs vs→RepTs B W H xs vs
 | _,_,.nil=>trivial
 | _,_,.cons r t=>⟨r.hand,Reps.hand t⟩
theorem RepTs.length:∀ {xs:List PV} {vs:List V},RepTs B W H xs vs→xs.length=vs.length
 | [],[],_=>rfl
 | _ :: _,_ :: _,⟨_,t⟩=>congrArg Nat.succ (RepTs.length t)
 | [],_ :: _,h=>h.elim
 | _ :: _,[],h=>h.elim
def yW (xs:List PV):Bool:=xs.all fun x=>!isOwn x
theorem RepTs.reps:∀ {xs:List PV} {vs:List V},RepTs B W H xs vs→yW xs=true→Reps B W xs vs
 | [],[],_,_=>.nil
 | x :: xs,_ :: _,⟨r,t⟩,o=>by
  unfold yW at o
  rw [List.all_cons] at o
  obtain ⟨o1,o2⟩:=Bool.and_eq_true_iff.mp o
  exact .cons (r.rep (by simpa using o1)) (RepTs.reps t o2)
 | [],_ :: _,h,_=>h.elim
 | _ :: _,[],h,_=>h.elim
theorem jD:SimA X B N WX [] jL:=pa_nil.imp fun σ H Q ⟨W,s,r,h⟩=>h.ok r [] trivial
theorem jA (he:SimE X B N WX e m) (hr:SimA X B N WX es ma) (hs:starEach (e :: es) X.env=(false,eval e X.env) :: starEach es X.env):SimA X B N WX (e :: es) (jC m ma) :=
 (pa_cons he hr hs).imp fun σ H Q ⟨W,s,r,h⟩=>⟨W,s,r,(h.bind r.slen).mono fun v W1 s1 H1 r1 _ q v' rv=>⟨W1,s1,r1,(q.bind r1.slen).mono fun vs W2 s2 H2 r2 st2 q vs' rvs =>
  q.ok r2 (v' :: vs') ⟨rv.on r1.slen st2.st,rvs⟩⟩⟩
theorem jQK (hK:X.K=B.K) (hr:HRel B W h H) {x:PV} {x':V} {xs:List PV} (rx:RepT B W H x x') (e:asS h x=some xs):∃ a vs,x'=.ref a∧(SqT X.K H a vs∨SqL X.K H a vs)∧Reps B W xs vs:=by
 have fin:asL h x=some xs→∃ a vs,x'=.ref a∧(SqT X.K H a vs∨SqL X.K H a vs)∧Reps B W xs vs:=fun e=>by
  obtain ⟨a,vs,e1,h1,r1⟩:=jLA hr rx e
  exact ⟨a,vs,e1,.inr (jNL hK h1),r1⟩
 cases x with
 | tup ys =>
  cases e
  obtain ⟨a,vs,e1,h1,r1⟩:=jFX hK hr (show Rep B W (.tup _) x' from rx)
  exact ⟨a,vs,e1,.inl h1,r1⟩
 | _=>exact fin e
theorem jKC {p:Pos} (hK:X.K=B.K) (he:SimE X B N WX e m) (hr:SimA X B N WX es ma) (hs:starEach (.Starred e p :: es) X.env=(true,eval e X.env) :: starEach es X.env):SimA X B N WX (.Starred e p :: es) (jWB m ma) :=
 (StX.pa_star he hr hs).imp fun σ H Q ⟨W,s,r,h⟩=>⟨W,s,r,(h.bind r.slen).mono fun v W1 s1 H1 r1 _ q v' rv=>by
  split at q
  ·rename_i xs ex
   obtain ⟨a,vs,rfl,h1,r2⟩:=jQK hK r1.hr rv ex
   exact ⟨a,vs,rfl,h1,W1,s1,r1,(q.bind r1.slen).mono fun us W2 s2 H2 r3 st2 q us' rus=>q.ok r3 (vs++us') ((r2.mono st2.st.le).hand.append rus)⟩
  ·exact q.elim⟩
def vH (ma:MA):ME:=fun s=>(ma s).bind fun vs s1=>if yW vs&&decide (vs.length≤16777216) then .ok (.tup vs) s1 else .bad
def jDO (ma:MA):ME:=fun s=>(ma s).bind fun vs s1=>if yW vs&&decide (vs.length≤16777216) then .ok (.lst vs) s1 else .bad
theorem jT {x1 pos} (ha:SimA X B N WX es ma):SimE X B N WX (.Tuple es x1 pos) (vH ma) :=
 (pe_tup ha).imp fun σ H Q ⟨W,s,r,h⟩=>⟨W,s,r,(h.bind r.slen).mono fun vs W1 s1 H1 r1 _ q vs' rvs=>by
  split at q
  ·rename_i c
   obtain ⟨c1,c2⟩:=Bool.and_eq_true_iff.mp c
   have rr:=rvs.reps c1
   refine ⟨by rw [← rr.length,sizeLine_eq]; exact of_decide_eq_true c2,fun p hp=>?_⟩
   have hsz:vs'.length≤sizeLine:=by rw [← rr.length,sizeLine_eq]; exact of_decide_eq_true c2
   exact q _ _ (jPR (o:=.tup vs') r1 hp hsz) ⟨jJC r1.hr hp,fun _ _ e _=>e⟩ _ (jDL (r1.hr.fnone hp) rr).hand
  ·exact q.elim⟩
theorem uX {pos} (ha:SimA X B N WX es ma):SimE X B N WX (.List es pos) (jDO ma) :=
 (pe_lst ha).imp fun σ H Q ⟨W,s,r,h⟩=>⟨W,s,r,(h.bind r.slen).mono fun vs W1 s1 H1 r1 _ q vs' rvs=>by
  split at q
  ·rename_i c
   obtain ⟨c1,c2⟩:=Bool.and_eq_true_iff.mp c
   have rr:=rvs.reps c1
   refine ⟨by rw [← rr.length,sizeLine_eq]; exact of_decide_eq_true c2,fun p hp=>?_⟩
   have hsz:vs'.length≤sizeLine:=by rw [← rr.length,sizeLine_eq]; exact of_decide_eq_true c2
   exact q _ _ (jPR (o:=.lst vs') r1 hp hsz) ⟨jJC r1.hr hp,fun _ _ e _=>e⟩ _ (jDM (r1.hr.fnone hp) rr).hand
  ·exact q.elim⟩
end
def fIx:AH→PV→PV→Option PV:=fun h x y=>match x,y with
 | .str z,.int i=>(atI z.cps.toList i).map fun c=>.str ⟨#[c]⟩
 | x,.int i=>match asS h x with
  | some xs=>atI xs i
  | none=>none
 | _,_=>none
section
variable {X:Cx} {B:Bs} {N:Ent} {WX:WX} {W:Wd} {h:AH} {H:Hp} {a b c:Expr} {ma mb mc:ME} {pos:Pos}
theorem yPD {xs:List PV} {vs:List V} {i:Int} {x:PV} (r:Reps B W xs vs) (e:atI xs i=some x):∃ v,atI vs i=some v∧Rep B W x v:=by
 unfold atI at e ⊢
 rw [← r.length]
 cases q:ixN xs.length i with
 | none=>rw [q] at e; cases e
 | some j =>
  rw [q] at e
  obtain ⟨v,e1,r1⟩:=r.get (show xs[j]?=some x from e)
  exact ⟨v,e1,r1⟩
theorem jUS {z w:Str} (k:SOk z) (hl:w.length≤z.length) (hm:∀ c∈w.cps.toList,c∈z.cps.toList):SOk w:=by
 refine ⟨?_,Nat.le_trans hl k.2⟩
 have k1:z.cps.all (· < 0x110000)=true:=k.1
 show w.cps.all (· < 0x110000)=true
 rw [← Array.all_toList,List.all_eq_true] at k1 ⊢
 exact fun c hc=>k1 c (hm c hc)
theorem yPE {α:Type} {xs:List α} {i:Int} {x:α} (e:atI xs i=some x):x∈xs:=by
 unfold atI at e
 cases q:ixN xs.length i with
 | none=>rw [q] at e; cases e
 | some j =>
  rw [q] at e
  exact List.mem_of_getElem? (show xs[j]?=some x from e)
theorem yVH (hK:X.K=B.K):OpSem X B fIx (rIx X.K):=by
 intro W h H x y z x' y' Q hr rx ry e q
 have go:∀ (i:Int) (xs:List PV),asS h x=some xs→y=.int i→atI xs i=some z→rIx X.K x' y' H Q:=fun i xs ex ey ea=>by
  obtain ⟨a,vs,rfl,h1,r1⟩:=jQK hK hr rx ex
  obtain ⟨v,e1,rv⟩:=yPD r1 ea
  subst ey
  rcases h1 with h1 | h1
  ·exact .inr (.inl ⟨a,vs,i,v,rfl,jAJ ry,h1,e1,q W H v (.refl W H) rv.hand⟩)
  ·exact .inl ⟨a,vs,i,v,rfl,jAJ ry,h1,e1,q W H v (.refl W H) rv.hand⟩
 unfold fIx at e
 split at e
 ·rename_i z0 i
  cases ea:atI z0.cps.toList i with
  | none=>rw [ea] at e; cases e
  | some c =>
   rw [ea] at e
   cases e
   obtain ⟨e1,k⟩:=jDT rx
   refine .inr (.inr ⟨z0,i,c,e1,jAJ ry,k.2,ea,q W H _ (.refl W H) (Rep.str _ ?_).hand⟩)
   have hm:=yPE ea
   refine jUS k ?_ fun d hd=>by
    have:d=c:=by simpa using hd
    rw [this]; exact hm
   show (#[c]:Array Nat).size≤z0.cps.size
   have:=List.length_pos_of_mem hm
   simp only [Array.length_toList] at this
   show 1≤z0.cps.size
   omega
 ·rename_i i _
  split at e
  ·rename_i xs ex
   exact go i xs ex rfl e
  ·cases e
 ·cases e
theorem yD (hK:X.K=B.K) (ha:SimE X B N WX a ma) (hb:SimE X B N WX b mb) (hs:PlainIx b):SimE X B N WX (.Subscript a b pos) (jO fIx ma mb) :=
 (pe_ix ix_seq ha hb hs).imp fun σ H Q h=>two h fun W2 s2 H2 x y x' y' r2 rx ry q=>jQH (yVH hK) r2 rx ry q
def jGS {α:Type} (xs:List α) (lo hi:Option Int):List α:=(xs.drop (HT.sIx xs.length 0 lo)).take (HT.sIx xs.length xs.length hi - HT.sIx xs.length 0 lo)
def jUK (z:Str) (lo hi:Option Int):Str:=⟨(jGS z.cps.toList lo hi).toArray⟩
def fSl (h:AH) (x:PV) (lo hi:Option Int):Option PV:=match x with
 | .str z=>some (.str (jUK z lo hi))
 | .tup xs=>some (.tup (jGS xs lo hi))
 | x=>(asL h x).map fun xs=>.lst (jGS xs lo hi)
def jEI:S→R S (Option Int):=fun s=>.ok none s
def jEH (m:ME):S→R S (Option Int):=fun s=>(m s).bind fun v s1=>match v with
 | .int i=>.ok (some i) s1
 | _=>.bad
def eSl (m:ME) (lo hi:S→R S (Option Int)):ME:=fun s=>(m s).bind fun v s1=>(lo s1).bind fun l s2=>(hi s2).bind fun u s3=>match fSl s3.h v l u with
 | some z=>.ok z s3
 | none=>.bad
def tO (B:Bs) (N:Ent) (WX:L2.WX) (m:S→R S (Option Int)):TO:=fun σ H Q=>∃ W s,Rel B N W s σ H∧Post B N WX W s H σ (m s) fun v _ _ H'=>Q v H'
abbrev SimO (X:Cx) (B:Bs) (N:Ent) (WX:L2.WX) (e:Option Expr) (m:S→R S (Option Int)):Prop:=PO X e (tO B N WX m)
theorem yFG {e:Option Expr} {t t':TO} (h:PO X e t) (w:∀ σ H Q,t' σ H Q→t σ H Q):PO X e t':=by
 constructor
 intro pins s σ H Q I q
 exact h.run pins s σ H Q I (w _ _ _ q)
theorem wR:SimO X B N WX none jEI:=yFG po_none fun σ H Q ⟨W,s,r,h⟩=>h.ok r
theorem wQ (ha:SimE X B N WX a ma):SimO X B N WX (some a) (jEH ma):=yFG (po_some ha) fun σ H Q ⟨W,s,r,h⟩=>⟨W,s,r,(h.bind r.slen).mono fun v W1 s1 H1 r1 _ q v' rv=>by
 cases v with
 | int i=>exact ⟨i,jAJ rv,q.ok r1⟩
 | _=>exact q.elim⟩
theorem jTY (hr:HRel B W h H) {x':V} {xs:List PV} (rx:Rep B W (.tup xs) x'):xs.length≤sizeLine:=by
 cases rx with
 | tup h r =>
  rw [r.length]
  rcases h with h | ⟨o,its,n,_,_,_,z,q⟩
  ·exact hr.hz _ _ (hr.agree _ _ h) yWW
  ·rw [q.length,Array.length_toList]; exact z
theorem yXS (hr:HRel B W h H) {x:PV} {x':V} {xs:List PV} (rx:RepT B W H x x') (e:asS h x=some xs):xs.length≤sizeLine:=by
 cases x with
 | tup ys=>cases e; exact jTY hr (show Rep B W (.tup _) x' from rx)
 | _=>exact jQL hr rx e
theorem jTM {xs:List PV} {vs:List V} (r:Reps B W xs vs) (lo hi:Option Int):Reps B W (jGS xs lo hi) (cutV vs lo hi):=by
 unfold jGS cutV
 rw [r.length]
 exact (r.drop _).take _
theorem yHL {α:Type} {xs:List α} {lo hi:Option Int} (h:HT.sIx xs.length 0 lo=0∧HT.sIx xs.length xs.length hi=xs.length):jGS xs lo hi=xs:=by
 unfold jGS
 rw [h.1,h.2]
 simp
theorem yPA (z:Str) (lo hi:Option Int):cutS z lo hi=jUK z lo hi:=by
 unfold cutS jUK jGS
 first | rfl | simp
theorem ySZ (hK:X.K=B.K) {x z:PV} {x':V} {lo hi:Option Int} {Q:VK} (hr:HRel B W h H) (rx:RepT B W H x x') (e:fSl h x lo hi=some z) (q:∀ W' H' z',Grow W H W' H'→RepT B W' H' z z'→Q z' H') :
  rSlL X.K x' lo hi H Q∨rSlA X.K x' lo hi H Q∨rSlS x' lo hi H Q:=by
 have go:∀ xs,asL h x=some xs→z=.lst (jGS xs lo hi)→rSlL X.K x' lo hi H Q:=fun xs ex ez=>by
  obtain ⟨a,vs,rfl,h1,r1⟩:=jLA hr rx ex
  subst ez
  exact ⟨a,vs,rfl,jNL hK h1,fun p hp=>q _ _ _ (.new hp (Nat.le_trans (cutV_length _ _ _) (by rw [← r1.length]; exact jQL hr rx ex))) (jDM (hr.fnone hp) (jTM r1 lo hi)).hand⟩
 unfold fSl at e
 split at e
 ·rename_i y
  cases e
  obtain ⟨e1,k⟩:=jDT rx
  refine .inr (.inr ⟨y,e1,k.2,?_⟩)
  rw [yPA]
  refine q W H _ (.refl W H) (Rep.str _ (jUS k ?_ fun c hc=>?_)).hand
  ·show (jGS y.cps.toList lo hi).toArray.size≤y.cps.size
   unfold jGS
   simp only [List.size_toArray,List.length_take,List.length_drop,Array.length_toList]
   omega
  ·have hc:c∈jGS y.cps.toList lo hi:=by simpa [jUK] using hc
   unfold jGS at hc
   exact List.mem_of_mem_drop (List.mem_of_mem_take hc)
 ·rename_i xs
  cases e
  obtain ⟨a,vs,rfl,h1,r1⟩:=jFX hK hr (show Rep B W (.tup xs) x' from rx)
  refine .inr (.inl ⟨a,vs,rfl,h1,fun z=>?_,fun _ p hp=>q _ _ _ (.new hp (Nat.le_trans (cutV_length _ _ _) (by rw [← r1.length]; exact jTY hr (show Rep B W (.tup xs) _ from rx)))) (jDL (hr.fnone hp) (jTM r1 lo hi)).hand⟩)
  rw [yHL (by rw [r1.length]; exact z)] at q
  exact q W H _ (.refl W H) rx
 ·cases ex:asL h x with
  | none=>rw [ex] at e; cases e
  | some xs =>
   rw [ex] at e
   exact .inl (go xs ex (Option.some.inj e).symm)
theorem jDD {lo hi:Option Expr} {ml mh:S→R S (Option Int)} {p2:Pos} (hK:X.K=B.K) (ha:SimE X B N WX a ma) (hl:SimO X B N WX lo ml) (hh:SimO X B N WX hi mh):SimE X B N WX (.Subscript a (.Slice lo hi none p2) pos) (eSl ma ml mh) :=
 (pe_slice (sl_list.or (sl_tupA.or sl_str)) ha hl hh).imp fun σ H Q ⟨W,s,r,h⟩=>⟨W,s,r,(h.bind r.slen).mono fun v W1 s1 H1 r1 _ q v' rv=>⟨W1,s1,r1,(q.bind r1.slen).mono fun l W2 s2 H2 r2 st2 q =>
  ⟨W2,s2,r2,(q.bind r2.slen).mono fun u W3 s3 H3 r3 st3 q=>by
   split at q
   ·rename_i z ez
    exact ySZ hK r3.hr ((rv.on r1.slen st2.st).on r2.slen st3.st) ez fun W' H' z' g rz=>q W' H' (g.rel r3) (g.stepE r3.hr) z' rz
   ·exact q.elim⟩⟩⟩
def jNO (f g:AH→PV→PV→Option PV) (a b c:ME):ME:=fun s=>(a s).bind fun x s1=>(b s1).bind fun y s2=>match f s2.h x y with
 | some (.bl true)=>(c s2).bind fun w s3=>match g s3.h y w with
  | some z=>.ok z s3
  | none=>.bad
 | some (.bl false)=>.ok (.bl false) s2
 | _=>.bad
theorem yHO {f g:AH→PV→PV→Option PV} {r r':R2} (hf:OpSem X B f r) (hg:OpSem X B g r') {σ:L2.St} {H:Hp} {Q:VK} (h:tE B N WX (jNO f g ma mb mc) σ H Q) :
  tChain r r' (tE B N WX ma) (tE B N WX mb) (tE B N WX mc) σ H Q:=by
 obtain ⟨W,s,r,h⟩:=h
 refine ⟨W,s,r,(h.bind r.slen).mono fun x W1 s1 H1 r1 _ q x' rx=>⟨W1,s1,r1,(q.bind r1.slen).mono fun y W2 s2 H2 r2 st2 q y' ry=>?_⟩⟩
 have rx2:=rx.on r1.slen st2.st
 have h0:∃ b,f s2.h x y=some (.bl b):=by
  split at q
  ·rename_i e; exact ⟨true,e⟩
  ·rename_i e; exact ⟨false,e⟩
  ·exact q.elim
 obtain ⟨b,eb⟩:=h0
 refine hf W2 s2.h H2 x y _ x' y' _ r2.hr rx2 ry eb fun W3 H3 z' g3 rz=>?_
 refine ⟨b,jYG rz,?_⟩
 have r3:=g3.rel r2
 have st3:=g3.stepE (s:=s2) r2.hr
 cases b with
 | false =>
  rw [eb] at q
  exact iteF ((Post.from r2.slen st3 q).ok r3 _ (Rep.bl false).hand)
 | true =>
  rw [eb] at q
  refine iteT ⟨W3,s2,r3,((Post.from r2.slen st3 q).bind r3.slen).mono fun w W4 s4 H4 r4 st4 q w' rw'=>?_⟩
  exact jQH hg r4 ((ry.on r2.slen st3.st).on r3.slen st4.st) rw' q
theorem yCA {op op':CmpOp} {r r':R2} {f g:AH→PV→PV→Option PV} (ho:OpR X (compareOp op) r) (ho':OpR X (compareOp op') r') (hf:OpSem X B f r) (hg:OpSem X B g r') (ha:SimE X B N WX a ma) (hb:SimE X B N WX b mb) (hc:SimE X B N WX c mc)
  (hm:lastMarks [op,op'] [b,c]=false):SimE X B N WX (.Compare a [op,op'] [b,c] pos) (jNO f g ma mb mc) :=
 (pe_chain ho ho' ha hb hc hm).imp fun σ H Q h=>yHO hf hg h
end
end Lp
set_option maxHeartbeats 4000000
namespace Lp
open PySem PySem.Spec PyProof.Rows L2
def jKX (neg:Bool):AH→PV→PV→Option PV:=fun h x y=>match jHM h x,jHM h y with
 | some d,some (.list ds)=>if dOk d&&dOk (.list ds) then some (.bl (neg ^^ ds.any fun z=>PyData.eqv z d)) else none
 | some d,some (.tuple ds)=>if dOk d&&dOk (.tuple ds) then some (.bl (neg ^^ ds.any fun z=>PyData.eqv z d)) else none
 | _,_=>none
def jVN (K:PySem.W.Frag) (neg:Bool):R2:=fun x y H Q=>∃ d ds,Dp K H x d∧Dp K H y (.tuple ds)∧SeqAt.shaped d=true∧SeqAt.shaped (.tuple ds)=true∧Q (.bl (neg ^^ ds.any fun z=>PyData.eqv z d)) H
section
variable {X:Cx} {B:Bs}
theorem jWK {A:Around} {ds:List PyData} {d:PyData} (h:SeqAt.shaped (.tuple ds)=true) (hu:A.units+66 < cLine):A.units+1+min (PyData.depthAll ds) d.depth < cLine:=by
 have h1:=SeqAt.depth_of_shaped h
 simp only [PyData.depth] at h1
 have h2:min (PyData.depthAll ds) d.depth≤PyData.depthAll ds:=Nat.min_le_left _ _
 omega
theorem yWS (hu:X.A.units+66 < cLine):OpR X (compareOp .In) (jVN X.K false):=by
 intro pins s σ H x y v u Q I rx ry h
 obtain ⟨d,ds,hd,he,sd,se,q⟩:=h
 obtain ⟨as,r1⟩:=Dp.reads I d x v hd rx
 obtain ⟨bs,r2⟩:=Dp.reads I (.tuple ds) y u he ry
 exact SeqAt.in_tuple_reads r2 r1 (SeqAt.canLay_of_shaped se) (SeqAt.canLay_of_shaped sd) (jWK se hu) ⟨.bl _,H,I,by simp; rfl,q⟩
theorem yOD (hu:X.A.units+66 < cLine):OpR X (compareOp .NotIn) (jVN X.K true):=by
 intro pins s σ H x y v u Q I rx ry h
 obtain ⟨d,ds,hd,he,sd,se,q⟩:=h
 obtain ⟨as,r1⟩:=Dp.reads I d x v hd rx
 obtain ⟨bs,r2⟩:=Dp.reads I (.tuple ds) y u he ry
 exact SeqAt.notIn_tuple_reads r2 r1 (SeqAt.canLay_of_shaped se) (SeqAt.canLay_of_shaped sd) (jWK se hu) ⟨.bl _,H,I,by simp; rfl,q⟩
def jOV (neg:Bool):AH→PV→PV→Option PV:=fun _ x y=>match x,y with
 | .str i,.str j=>match i.cps.toList with
  | [c]=>some (.bl (neg ^^ decide (c∈j.cps.toList)))
  | _=>some (.bl (neg ^^ !(Builtin.Str.occurrences j i 0 j.length 1).isEmpty))
 | _,_=>none
theorem yNI (hK:X.K=B.K):OpSem X B (jKX false) (fun x y H Q=>rInD X.K x y H Q∨jVN X.K false x y H Q):=by
 intro W h H x y z x' y' Q hr rx ry e q
 unfold jKX at e
 split at e
 ·rename_i d ds ed ef
  split at e
  ·rename_i hz
   cases e
   obtain ⟨z1,z2⟩:=Bool.and_eq_true_iff.mp hz
   obtain ⟨a1,a2⟩:=jDA hK hr rx ed
   obtain ⟨b1,b2⟩:=jDA hK hr ry ef
   exact .inl ⟨d,ds,a1,b1,qD a2 z1,qD b2 z2,q W H _ (.refl W H) (by simp only [Bool.false_xor]; exact (Rep.bl _).hand)⟩
  ·cases e
 ·rename_i d ds ed ef
  split at e
  ·rename_i hz
   cases e
   obtain ⟨z1,z2⟩:=Bool.and_eq_true_iff.mp hz
   obtain ⟨a1,a2⟩:=jDA hK hr rx ed
   obtain ⟨b1,b2⟩:=jDA hK hr ry ef
   exact .inr ⟨d,ds,a1,b1,qD a2 z1,qD b2 z2,q W H _ (.refl W H) (Rep.bl _).hand⟩
  ·cases e
 ·cases e
theorem yFU (hK:X.K=B.K):OpSem X B (jKX true) (fun x y H Q=>rNotInD X.K x y H Q∨jVN X.K true x y H Q):=by
 intro W h H x y z x' y' Q hr rx ry e q
 unfold jKX at e
 split at e
 ·rename_i d ds ed ef
  split at e
  ·rename_i hz
   cases e
   obtain ⟨z1,z2⟩:=Bool.and_eq_true_iff.mp hz
   obtain ⟨a1,a2⟩:=jDA hK hr rx ed
   obtain ⟨b1,b2⟩:=jDA hK hr ry ef
   exact .inl ⟨d,ds,a1,b1,qD a2 z1,qD b2 z2,q W H _ (.refl W H) (by simp only [Bool.true_xor]; exact (Rep.bl _).hand)⟩
  ·cases e
 ·rename_i d ds ed ef
  split at e
  ·rename_i hz
   cases e
   obtain ⟨z1,z2⟩:=Bool.and_eq_true_iff.mp hz
   obtain ⟨a1,a2⟩:=jDA hK hr rx ed
   obtain ⟨b1,b2⟩:=jDA hK hr ry ef
   exact .inr ⟨d,ds,a1,b1,qD a2 z1,qD b2 z2,q W H _ (.refl W H) (Rep.bl _).hand⟩
  ·cases e
 ·cases e
def rInS (neg:Bool):R2:=fun x y H Q=>∃ i j:Str,x=.str i∧y=.str j∧Q (.bl (neg ^^ !(Builtin.Str.occurrences j i 0 j.length 1).isEmpty)) H
theorem op_inS:OpR X (compareOp .In) (rInS false):=by
 intro pins s σ H x y v u Q I rx ry h
 obtain ⟨i,j,e1,e2,q⟩:=h
 exact op_in_str pins s σ H x y v u Q I rx ry ⟨i,j,e1,e2,by simpa using q⟩
theorem yZQ:OpR X (compareOp .NotIn) (rInS true):=by
 intro pins s σ H x y v u Q I rx ry h
 obtain ⟨i,j,e1,e2,q⟩:=h
 exact L2.op_notin_str pins s σ H x y v u Q I rx ry ⟨i,j,e1,e2,by simpa using q⟩
theorem yZP {neg:Bool}:OpSem X B (jOV neg) (rInS neg):=by
 intro W h H x y z x' y' Q hr rx ry e q
 unfold jOV at e
 split at e
 ·rename_i i j
  refine ⟨i,j,(jDT rx).1,(jDT ry).1,?_⟩
  split at e
  ·rename_i c ec
   cases e
   have ei:i=⟨#[c]⟩:=by
    obtain ⟨a⟩:=i
    congr 1
    exact Array.toList_inj.mp ec
   subst ei
   have:=PySem.StrLaws.found_one j c
   rw [this]
   exact q W H _ (.refl W H) (Rep.bl _).hand
  ·cases e
   exact q W H _ (.refl W H) (Rep.bl _).hand
 ·cases e
end
def fIn:AH→PV→PV→Option PV:=fun h x y=>(jOV false h x y).or (jKX false h x y)
def jKV:AH→PV→PV→Option PV:=fun h x y=>(jOV true h x y).or (jKX true h x y)
section
variable {X:Cx} {B:Bs}
theorem yPR (hu:X.A.units+66 < cLine):OpR X (compareOp .In) (fun x y H Q=>rInS false x y H Q∨(rInD X.K x y H Q∨jVN X.K false x y H Q)):=op_inS.or ((op_inD (by omega)).or (yWS hu))
theorem yEP (hu:X.A.units+66 < cLine):OpR X (compareOp .NotIn) (fun x y H Q=>rInS true x y H Q∨(rNotInD X.K x y H Q∨jVN X.K true x y H Q)):=yZQ.or ((op_notInD (by omega)).or (yOD hu))
theorem yEK (hK:X.K=B.K):OpSem X B fIn (fun x y H Q=>rInS false x y H Q∨(rInD X.K x y H Q∨jVN X.K false x y H Q)):=yZP.or (yNI hK)
theorem yAP (hK:X.K=B.K):OpSem X B jKV (fun x y H Q=>rInS true x y H Q∨(rNotInD X.K x y H Q∨jVN X.K true x y H Q)):=yZP.or (yFU hK)
end
def CallSem (X:Cx) (B:Bs) (f:AH→List PV→Option PV) (r:List V→Hp→VK→Prop):Prop:=∀ (W:Wd) (h:AH) (H:Hp) (xs:List PV) (z:PV) (xs':List V) (Q:VK),HRel B W h H→RepTs B W H xs xs'→f h xs=some z →
 (∀ W' H' z',Grow W H W' H'→RepT B W' H' z z'→Q z' H')→r xs' H Q
def eCB (f:AH→List PV→Option PV) (ma:MA):ME:=fun s=>(ma s).bind fun vs s1=>match f s1.h vs with
 | some z=>.ok z s1
 | none=>.bad
section
variable {X:Cx} {B:Bs} {N:Ent} {WX:L2.WX} {x:Str} {p pos:Pos} {e:Expr} {es:List Expr} {ma:MA} {id T:String} {f:AH→List PV→Option PV} {r:List V→Hp→VK→Prop}
theorem yFB (hf:CallSem X B f r) {σ:L2.St} {H:Hp} {Q:VK} (h:tE B N WX (eCB f ma) σ H Q):tCB r (tA B N WX ma) σ H Q:=by
 obtain ⟨W,s,r0,h⟩:=h
 refine ⟨W,s,r0,(h.bind r0.slen).mono fun vs W1 s1 H1 r1 _ q vs' rvs=>?_⟩
 split at q
 ·rename_i z ez
  exact hf W1 s1.h H1 vs z vs' Q r1.hr rvs ez fun W' H' z' g rz=>q W' H' (g.rel r1) (g.stepE r1.hr) z' rz
 ·exact q.elim
theorem yCB (hc:CallR X (.builtin id) r) (hf:CallSem X B f r) (hg:Gl X x) (hm:X.mg x=none) (hv:bootBuiltins x=some (.builtin id)) (ha:SimA X B N WX (e :: es) ma) (hn:x ≠ "__name__") (hdb:(x == ("__debug__" : Str))=false)
  (he:starEach (e :: es) X.env=(false,eval e X.env) :: starEach es X.env) (hpl:(backTo pos (starEach es X.env)).any (·.1)=false):SimE X B N WX (.Call (.Name x p) (e :: es) [] pos) (eCB f ma) :=
 (pe_callB hc hg hm hv ha hn hdb he hpl).imp fun σ H Q h=>yFB hf h
theorem jZB (hc:CallR X (.type T) r) (hf:CallSem X B f r) (hg:Gl X x) (hm:X.mg x=none) (hv:bootBuiltins x=some (.type T)) (ha:SimA X B N WX (e :: es) ma) (hn:x ≠ "__name__") (hdb:(x == ("__debug__" : Str))=false)
  (he:starEach (e :: es) X.env=(false,eval e X.env) :: starEach es X.env) (hpl:(backTo pos (starEach es X.env)).any (·.1)=false):SimE X B N WX (.Call (.Name x p) (e :: es) [] pos) (eCB f ma) :=
 (pe_callTy hc hg hm hv ha hn hdb he hpl).imp fun σ H Q h=>yFB hf h
end
def jEG:AH→List PV→Option PV:=fun h xs=>match xs with
 | [.str x]=>some (.int x.length)
 | [x]=>(asS h x).map fun ys=>.int ys.length
 | _=>none
def jDN:AH→List PV→Option PV:=fun _ xs=>match xs with
 | [.int i]=>some (.int i)
 | [.bl k]=>some (.int (if k then 1 else 0))
 | _=>none
def yBR:PV→Option Bool
 | .bl b=>some b
 | _=>none
def jHO:AH→List PV→Option PV:=fun h xs=>match xs with
 | [x]=>match asL h x with
  | some ys=>(ys.mapM yBR).map fun bs=>.bl (bs.all fun b=>b)
  | none=>none
 | _=>none
def jKP:AH→List PV→Option PV:=fun h xs=>match xs with
 | [x]=>(asS h x).map .lst
 | _=>none
def jHR:AH→List PV→Option PV:=fun h xs=>match xs with
 | [x]=>(asS h x).map .tup
 | _=>none
section
variable {X:Cx} {B:Bs} {W:Wd} {h:AH} {H:Hp}
theorem repts1 {x:PV} {vs:List V} (r:RepTs B W H [x] vs):∃ v,vs=[v]∧RepT B W H x v:=by
 cases vs with
 | nil=>exact r.elim
 | cons v t =>
  obtain ⟨r1,r2⟩:=r
  cases t with
  | nil=>exact ⟨v,rfl,r1⟩
  | cons _ _=>exact r2.elim
theorem repts2 {x y:PV} {vs:List V} (r:RepTs B W H [x,y] vs):∃ v w,vs=[v,w]∧RepT B W H x v∧RepT B W H y w:=by
 cases vs with
 | nil=>exact r.elim
 | cons v t =>
  obtain ⟨r1,r2⟩:=r
  obtain ⟨w,rfl,r3⟩:=repts1 r2
  exact ⟨v,w,rfl,r1,r3⟩
theorem yNE (hK:X.K=B.K):CallSem X B jEG (fun xs H Q=>∃ x n,xs=[x]∧LenV X.K x H n∧Q (.int n) H):=by
 intro W h H xs z xs' Q hr rx e q
 unfold jEG at e
 split at e
 ·rename_i x
  cases e
  obtain ⟨v,rfl,r1⟩:=repts1 rx
  obtain ⟨rfl,k⟩:=jDT r1
  exact ⟨_,x.length,rfl,⟨k.2,rfl⟩,q W H _ (.refl W H) (Rep.int _).hand⟩
 ·rename_i x _
  obtain ⟨v,rfl,r1⟩:=repts1 rx
  cases ex:asS h x with
  | none=>rw [ex] at e; cases e
  | some ys =>
   rw [ex] at e
   cases e
   obtain ⟨a,vs,rfl,h1,r2⟩:=jQK hK hr r1 ex
   refine ⟨_,ys.length,rfl,?_,q W H _ (.refl W H) (Rep.int _).hand⟩
   rcases h1 with h1 | h1
   ·exact .inr ⟨vs,h1,r2.length⟩
   ·exact .inl ⟨vs,h1,r2.length⟩
 ·cases e
theorem yFW:CallSem X B jDN (fun xs H Q=>(∃ i,xs=[.int i]∧Q (.int i) H)∨∃ k,xs=[.bl k]∧Q (.int (if k then 1 else 0)) H):=by
 intro W h H xs z xs' Q hr rx e q
 unfold jDN at e
 split at e
 ·rename_i i
  cases e
  obtain ⟨v,rfl,r1⟩:=repts1 rx
  exact .inl ⟨i,by rw [jAJ r1],q W H _ (.refl W H) (Rep.int _).hand⟩
 ·rename_i k
  cases e
  obtain ⟨v,rfl,r1⟩:=repts1 rx
  exact .inr ⟨k,by rw [jYG r1],q W H _ (.refl W H) (Rep.int _).hand⟩
 ·cases e
theorem jWN:∀ {ys:List PV} {vs:List V} {bs:List Bool},Reps B W ys vs→ys.mapM yBR=some bs→vs=bs.map V.bl
 | [],_,_,.nil,e=>by cases e; rfl
 | y :: ys,_,bs,.cons r t,e=>by
  rw [List.mapM_cons] at e
  cases y with
  | bl b =>
   cases eq:ys.mapM yBR with
   | none=>rw [eq] at e; cases e
   | some cs =>
    rw [eq] at e
    cases e
    cases r
    rw [jWN t eq]
    rfl
  | _=>cases e
theorem yNJ (hK:X.K=B.K):CallSem X B jHO (rAll X.K):=by
 intro W h H xs z xs' Q hr rx e q
 unfold jHO at e
 split at e
 ·rename_i x
  obtain ⟨v,rfl,r1⟩:=repts1 rx
  split at e
  ·rename_i ys ex
   obtain ⟨a,vs,rfl,h1,r2⟩:=jLA hr r1 ex
   cases eb:ys.mapM yBR with
   | none=>rw [eb] at e; cases e
   | some bs =>
    rw [eb] at e
    cases e
    refine ⟨a,bs,rfl,by rw [← jWN r2 eb]; exact jNL hK h1,?_⟩
    have:(bs.all id)=(bs.all fun b=>b):=rfl
    rw [this]
    exact q W H _ (.refl W H) (Rep.bl _).hand
  ·cases e
 ·cases e
theorem yFV (hK:X.K=B.K):CallSem X B jKP (fun xs H Q=>∃ p ys,xs=[.ref p]∧(SqL X.K H p ys∨SqT X.K H p ys)∧∀ l,H l=none→Q (.ref l) (upd H l (.lst ys))):=by
 intro W h H xs z xs' Q hr rx e q
 unfold jKP at e
 split at e
 ·rename_i x
  obtain ⟨v,rfl,r1⟩:=repts1 rx
  cases ex:asS h x with
  | none=>rw [ex] at e; cases e
  | some ys =>
   rw [ex] at e
   cases e
   obtain ⟨a,vs,rfl,h1,r2⟩:=jQK hK hr r1 ex
   exact ⟨a,vs,rfl,h1.symm,fun p hp=>q _ _ _ (.new hp (show vs.length≤sizeLine from by rw [← r2.length]; exact yXS hr r1 ex)) (jDM (hr.fnone hp) r2).hand⟩
 ·cases e
theorem yCC (hK:X.K=B.K):CallSem X B jHR (fun xs H Q=>∃ p ys,xs=[.ref p]∧((SqL X.K H p ys∧∀ l,H l=none→Q (.ref l) (upd H l (.tup ys)))∨(SqT X.K H p ys∧Q (.ref p) H))):=by
 intro W h H xs z xs' Q hr rx e q
 unfold jHR at e
 split at e
 ·rename_i x
  obtain ⟨v,rfl,r1⟩:=repts1 rx
  cases ex:asS h x with
  | none=>rw [ex] at e; cases e
  | some ys =>
   rw [ex] at e
   cases e
   have go:asL h x=some ys→∃ p zs,[v]=[.ref p]∧((SqL X.K H p zs∧∀ l,H l=none→Q (.ref l) (upd H l (.tup zs)))∨(SqT X.K H p zs∧Q (.ref p) H)):=fun ex=>by
    obtain ⟨a,vs,rfl,h1,r2⟩:=jLA hr r1 ex
    exact ⟨a,vs,rfl,.inl ⟨jNL hK h1,fun p hp=>q _ _ _ (.new hp (show SzO (.tup vs) from by show vs.length≤sizeLine; rw [← r2.length]; exact jQL hr r1 ex)) (jDL (hr.fnone hp) r2).hand⟩⟩
   cases x with
   | tup xs =>
    cases ex
    obtain ⟨a,vs,rfl,h1,r2⟩:=jFX hK hr (show Rep B W (.tup _) v from r1)
    exact ⟨a,vs,rfl,.inr ⟨h1,q W H _ (.refl W H) r1⟩⟩
   | _=>exact go ex
 ·cases e
end
end Lp
set_option maxHeartbeats 4000000
namespace Lp
open PySem PySem.Spec PyProof.Rows L2
structure Loose (N:Ent) (W:Wd) (s:S) (σ:L2.St) (p:Addr):Prop where
 F:W.F p=none
 m:p∉W.m
 o:∀ (i:Nat) (x:PV),s.e[i]?=some (some x)→isOwn x=true→σ[i]?≠some (some (.ref p))
 e:N.H p=none
section
variable {B:Bs} {N:Ent} {W W':Wd} {s s':S} {σ:L2.St} {H H':Hp} {p:Addr} {o:HO}
theorem CellR.off {c:Cell} {a:Addr} (r:CellR B W H a c) (ne:a≠p):CellR B W (upd H p o) a c:=r.mono (.refl W) (fun u e=>by rw [upd_ne ne]; exact e)
def Wr (H:Hp) (p:Addr):Prop:=H p=none∨∃ o0,H p=some o0∧NT o0∧∀ c q,o0≠LamX.CodeO c q
theorem yEE {vs:List V} (h:H p=some (.lst vs)):Wr H p:=.inr ⟨_,h,jBG,jUG⟩
theorem yFJ {T:List (Addr × Str)} (t:LamX.Tabs T H) (h:Wr H p):LamX.Tabs T (upd H p o):=by
 rcases h with h | ⟨o0,h,nt,nc⟩
 ·exact jQP t h
 ·exact jLY t h nt nc
theorem jEO (r:Rel B N W s σ H) (l:Loose N W s σ p) (ho:SzO o) (wr:Wr H p):Rel B N W s σ (upd H p o):=by
 refine ⟨⟨fun a u e=>?_,r.hr.len,r.hr.nd,fun a hm=>?_,fun a u e nt=>?_,r.hr.fz,yFJ r.hr.tb wr,fun n c a e1 e2=>?_⟩,?_,r.len,fun i x e=>?_,r.dis,r.pin⟩
 ·have ne:a≠p:=fun z=>by rw [z,l.F] at e; cases e
  rw [upd_ne ne]; exact r.hr.agree _ _ e
 ·have ne:a≠p:=fun z=>l.m (z ▸ hm)
  rw [upd_ne ne]; exact r.hr.mt a hm
 ·by_cases ha:a=p
  ·rw [ha,upd_same] at e
   cases e
   exact ho
  ·rw [upd_ne ha] at e
   exact r.hr.hz a u e nt
 ·obtain ⟨h1,h2⟩:=r.hr.cell n c a e1 e2
  exact ⟨h1,h2.off fun z=>l.m (z ▸ List.mem_of_getElem? e2)⟩
 ·have st:=r.st
  refine ⟨st.le,st.hl,st.dead,fun a u e nt nl=>?_,fun a e=>?_,fun a e ne nl=>?_,st.hm,st.mnew⟩
  ·have ne:a≠p:=fun z=>by rw [z,l.e] at e; cases e
   rw [upd_ne ne]; exact st.keep a u e nt nl
  ·by_cases ha:a=p
   ·rw [ha,upd_same] at e; cases e
   ·rw [upd_ne ha] at e; exact st.tr a e
  ·exact st.fgrow a e ne nl
 ·obtain ⟨v,e1,sl⟩:=r.env i x e
  refine ⟨v,e1,?_⟩
  cases x with
  | own xs =>
   obtain ⟨a,vs,rfl,h1,h2,h3,h4,h5⟩:=sl
   have ne:a≠p:=fun z=>l.o i _ e rfl (by rw [e1,z])
   exact ⟨a,vs,rfl,by rw [upd_ne ne]; exact h1,h2,h3,h4,h5⟩
  | don ks=>exact sl
  | _=>exact sl
theorem jWR (r:Rel B N W s σ H) (l:Loose N W s σ p) (hp:H p=some o) (nt:NT o):Rel B N ⟨upd W.F p o,W.m⟩ s σ H:=by
 have le:W.Le ⟨upd W.F p o,W.m⟩:=jDR l.F
 refine ⟨⟨fun a u e=>?_,r.hr.len,r.hr.nd,r.hr.mt,r.hr.hz,fun a u e=>?_,r.hr.tb,fun n c a e1 e2=>?_⟩,?_,r.len,fun i x e=>?_,r.dis,r.pin.trans le⟩
 ·by_cases ha:a=p
  ·have e:upd W.F p o a=some u:=e
   rw [ha,upd_same] at e
   rw [ha,hp]; exact e
  ·have e:upd W.F p o a=some u:=e
   rw [upd_ne ha] at e
   exact r.hr.agree _ _ e
 ·by_cases ha:a=p
  ·have e:upd W.F p o a=some u:=e
   rw [ha,upd_same] at e
   cases e
   exact nt
  ·have e:upd W.F p o a=some u:=e
   rw [upd_ne ha] at e
   exact r.hr.fz a u e
 ·obtain ⟨h1,h2⟩:=r.hr.cell n c a e1 e2
  have ne:a≠p:=fun z=>l.m (z ▸ List.mem_of_getElem? e2)
  exact ⟨by show upd W.F p o a=none; rw [upd_ne ne]; exact h1,h2.mono le fun _ z=>z⟩
 ·have st:=r.st
  refine ⟨st.le.trans le,st.hl,st.dead,st.keep,st.tr,fun a e ne nl=>?_,st.hm,st.mnew⟩
  have ha:a≠p:=fun z=>ne.ne (z ▸ l.e)
  show upd W.F p o a=none
  rw [upd_ne ha]; exact st.fgrow a e ne nl
 ·obtain ⟨v,e1,sl⟩:=r.env i x e
  refine ⟨v,e1,?_⟩
  cases x with
  | own xs =>
   obtain ⟨a,vs,rfl,h1,h2,h3,h4,h5⟩:=sl
   have ne:a≠p:=fun z=>l.o i _ e rfl (by rw [e1,z])
   exact ⟨a,vs,rfl,h1,h2.mono le,by show upd W.F p o a=none; rw [upd_ne ne]; exact h3,h4,h5⟩
  | don ks=>exact DonR.mono le sl
  | _=>exact Rep.mono le sl
theorem Rel.loose (r:Rel B N W s σ H) (hp:H p=none):Loose N W s σ p:=by
 refine ⟨r.hr.fnone hp,fun z=>r.hr.mt p z hp,fun i x e o q=>?_,r.st.tr _ hp⟩
 ·obtain ⟨v,e1,sl⟩:=r.env i x e
  rw [q] at e1
  cases e1
  cases x with
  | own xs =>
   obtain ⟨a,vs,e2,h1,_⟩:=sl
   cases e2
   rw [hp] at h1
   cases h1
  | don ks =>
   obtain ⟨a,vs,o',e2,h1,_⟩:=sl
   cases e2
   rw [r.hr.fnone hp] at h1
   cases h1
  | _=>cases o
theorem Loose.on (l:Loose N W s σ p) (hl:W.m.length=s.h.length) (st:StepE W s H W' s' H') (hp:FG (H p)):Loose N W' s' σ p :=
 ⟨st.st.fgrow p l.F hp fun z=>l.m z.mem,st.st.notm hl l.m hp.ne,fun i x e o=>l.o i x (st.eo i x e o) o,l.e⟩
theorem Loose.held (l:Loose N W s σ p) (st:StepE W s H W' s' H') (hp:H p=some o) (nt:NT o):H' p=some o:=st.st.keep p o hp nt fun z=>l.m z.mem
theorem StepE.put (st:StepE W s H W' s' H') (hp:H p=none) (hm:p∉W'.m):StepE W s H W' s' (upd H' p o):=by
 refine ⟨⟨st.st.le,st.st.hl,st.st.dead,fun a u e nt nl=>?_,fun a e=>?_,st.st.fgrow,st.st.hm,st.st.mnew⟩,st.eo⟩
 ·rw [upd_ne (ne_of_none e hp)]; exact st.st.keep a u e nt nl
 ·by_cases ha:a=p
  ·rw [ha,upd_same] at e; cases e
  ·rw [upd_ne ha] at e; exact st.st.tr a e
theorem StepE.keepNew (st:StepE W s H W' s' H') (hp:H p=none) (hF:W'.F p=none):StepE W s H ⟨upd W'.F p o,W'.m⟩ s' H':=by
 refine ⟨⟨st.st.le.trans (jDR hF),st.st.hl,st.st.dead,st.st.keep,st.st.tr,fun a e ne nl=>?_,st.st.hm,st.st.mnew⟩,st.eo⟩
 have ha:a≠p:=fun z=>ne.ne (z ▸ hp)
 show upd W'.F p o a=none
 rw [upd_ne ha]; exact st.st.fgrow a e ne nl
end
def jM (e:List (Option PV)):List Nat→List (Option PV)
 | []=>e
 | v :: vs=>(jM e vs).set v none
section
variable {B:Bs} {N:Ent} {W W':Wd} {s s':S} {σ:L2.St} {H H':Hp} {p:Addr} {o:HO}
theorem jDV (e:List (Option PV)):∀ vs:List Nat,(jM e vs).length=e.length
 | []=>rfl
 | v :: vs=>by unfold jM; rw [List.length_set,jDV e vs]
theorem jAZ {e:List (Option PV)} {i:Nat} {x:PV}:∀ {vs:List Nat},(jM e vs)[i]?=some (some x)→e[i]?=some (some x)∧i∉vs
 | [],h=>⟨h,by simp⟩
 | v :: vs,h=>by
  unfold jM at h
  by_cases hi:v=i
  ·subst hi
   by_cases hv:v < (jM e vs).length
   ·rw [List.getElem?_set_self hv] at h; cases h
   ·rw [List.getElem?_eq_none (by simpa using hv)] at h; cases h
  ·rw [List.getElem?_set_ne hi] at h
   obtain ⟨h1,h2⟩:=jAZ h
   exact ⟨h1,by simp only [List.mem_cons,not_or]; exact ⟨fun e=>hi e.symm,h2⟩⟩
theorem jEM {σ:L2.St} {i:Nat}:∀ {vs:List Nat},i∉vs→(wipe σ vs)[i]?=σ[i]?
 | [],_=>rfl
 | v :: vs,h=>by
  simp only [List.mem_cons,not_or] at h
  unfold wipe
  rw [List.getElem?_set_ne (fun e=>h.1 e.symm)]
  exact jEM h.2
theorem jQN {σ:L2.St} {i:Nat} {x:Option V}:∀ {vs:List Nat},i∈vs→wipe (σ.set i x) vs=wipe σ vs
 | [],h=>by cases h
 | v :: vs,h=>by
  unfold wipe
  by_cases hm:i∈vs
  ·rw [jQN hm]
  ·have hv:i=v:=by
    rcases List.mem_cons.mp h with z | z
    ·exact z
    ·exact absurd z hm
   subst hv
   have go:∀ ws:List Nat,i∉ws→wipe (σ.set i x) ws=(wipe σ ws).set i x:=by
    intro ws
    induction ws with
    | nil=>intro _; rfl
    | cons w ws ih =>
     intro hw
     simp only [List.mem_cons,not_or] at hw
     unfold wipe
     rw [ih hw.2,List.set_comm _ _ hw.1]
   rw [go vs hm,List.set_set]
theorem jME {i:Nat} {x:PV} {v:V} (r:Rel B N W s σ H) (rx:Rep B W x v):Rel B N W ⟨s.e.set i (some x),s.h⟩ (σ.set i (some v)) H:=by
 have nx:isOwn x=false:=by cases rx <;> rfl
 refine ⟨r.hr,r.st,by simp only [List.length_set]; exact r.len,fun j y e=>?_,fun j k y z a hjk e1 e2 o1 o2 s1 s2=>?_,r.pin⟩
 ·by_cases hj:i=j
  ·subst hj
   by_cases hi:i < s.e.length
   ·have e:(s.e.set i (some x))[i]?=some (some y):=e
    rw [List.getElem?_set_self hi] at e
    cases e
    exact ⟨v,List.getElem?_set_self (by rw [r.len]; exact hi),rx.slot⟩
   ·have e:(s.e.set i (some x))[i]?=some (some y):=e
    rw [List.getElem?_eq_none (by rw [List.length_set]; omega)] at e
    cases e
  ·have e:(s.e.set i (some x))[j]?=some (some y):=e
   rw [List.getElem?_set_ne hj] at e
   rw [List.getElem?_set_ne hj]
   exact r.env j y e
 ·have g:∀ (j:Nat) (y:PV),(s.e.set i (some x))[j]?=some (some y)→isOwn y=true→j≠i:=fun j y e o z=>by
   subst z
   by_cases hi:j < s.e.length
   ·rw [List.getElem?_set_self hi] at e
    cases e
    rw [nx] at o
    cases o
   ·rw [List.getElem?_eq_none (by rw [List.length_set]; omega)] at e
    cases e
  have hj:=g j y e1 o1
  have hk:=g k z e2 o2
  have e1:(s.e.set i (some x))[j]?=some (some y):=e1
  have e2:(s.e.set i (some x))[k]?=some (some z):=e2
  rw [List.getElem?_set_ne (Ne.symm hj)] at e1 s1
  rw [List.getElem?_set_ne (Ne.symm hk)] at e2 s2
  exact r.dis j k y z a hjk e1 e2 o1 o2 s1 s2
theorem jWP {vs:List Nat} (r:Rel B N W s σ H):Rel B N W ⟨jM s.e vs,s.h⟩ (wipe σ vs) H:=by
 refine ⟨r.hr,r.st,by simp only [jDV,wipe_length]; exact r.len,fun j y e=>?_,fun j k y z a hjk e1 e2 o1 o2 s1 s2=>?_,r.pin⟩
 ·obtain ⟨e1,hj⟩:=jAZ e
  rw [jEM hj]
  exact r.env j y e1
 ·obtain ⟨f1,hj⟩:=jAZ e1
  obtain ⟨f2,hk⟩:=jAZ e2
  rw [jEM hj] at s1
  rw [jEM hk] at s2
  exact r.dis j k y z a hjk f1 f2 o1 o2 s1 s2
theorem jHF {σ2:L2.St} {vs:List Nat} (r:Rel B N W s σ2 H) (e:wipe σ2 vs=wipe σ vs):Rel B N W ⟨jM s.e vs,s.h⟩ σ H:=by
 have hlen:σ2.length=σ.length:=by
  have:=congrArg List.length e
  rw [wipe_length,wipe_length] at this
  exact this
 have g:∀ j,j∉vs→σ2[j]?=σ[j]?:=fun j hj=>by rw [← jEM (σ:=σ2) hj,e,jEM hj]
 refine ⟨r.hr,r.st,by simp only [jDV]; rw [← hlen]; exact r.len,fun j y e=>?_,fun j k y z a hjk e1 e2 o1 o2 s1 s2=>?_,r.pin⟩
 ·obtain ⟨e1,hj⟩:=jAZ e
  rw [← g j hj]
  exact r.env j y e1
 ·obtain ⟨f1,hj⟩:=jAZ e1
  obtain ⟨f2,hk⟩:=jAZ e2
  rw [← g j hj] at s1
  rw [← g k hk] at s2
  exact r.dis j k y z a hjk f1 f2 o1 o2 s1 s2
end
inductive Tg where
 | n (i:Nat) | t (ts:List Tg)
mutual
def gT (K:PySem.W.Frag):Tg→TG
 | .n i=>gName i
 | .t ts=>gTup K ts.length (gTs K ts)
def gTs (K:PySem.W.Frag):List Tg→TGs
 | []=>gNil
 | t :: ts=>gCons (gT K t) (gTs K ts)
end
mutual
def uW:Tg→PV→List (Option PV)→Option (List (Option PV))
 | .n i,v,e=>if isOwn v then none else some (e.set i (some v))
 | .t ts,.tup xs,e=>bindTs ts xs e
 | .t _,_,_=>none
def bindTs:List Tg→List PV→List (Option PV)→Option (List (Option PV))
 | [],[],e=>some e
 | t :: ts,x :: xs,e=>match uW t x e with
  | some e1=>bindTs ts xs e1
  | none=>none
 | _,_,_=>none
end
mutual
def Tg.sl:Tg→List Nat
 | .n i=>[i]
 | .t ts=>Tg.sls ts
def Tg.sls:List Tg→List Nat
 | []=>[]
 | g :: gs=>g.sl++Tg.sls gs
end
section
variable {X:Cx} {B:Bs} {N:Ent} {W W':Wd} {s s':S} {σ:L2.St} {H H':Hp} {vs:List Nat}
theorem Reps.len_of {xs:List PV} {us:List V} (r:Reps B W xs us) {n:Nat} (h:xs.length=n):us.length=n:=by rw [← r.length]; exact h
mutual
theorem jRK:∀ {ts:List Tg} {xs:List PV} {e e':List (Option PV)},bindTs ts xs e=some e'→xs.length=ts.length
 | [],[],_,_,_=>rfl
 | [],_ :: _,_,_,h=>by simp [bindTs] at h
 | _ :: _,[],_,_,h=>by simp [bindTs] at h
 | t :: ts,x :: xs,e,e',h=>by
  rw [bindTs] at h
  cases q:uW t x e with
  | none=>rw [q] at h; cases h
  | some e1 =>
   rw [q] at h
   exact congrArg Nat.succ (jRK h)
end
mutual
theorem jVZ (hK:X.K=B.K):∀ {t:Tg} {x:PV} {v:V} {s:S} {σ:L2.St} {e':List (Option PV)} {Q:L2.St→Hp→Prop},(∀ i∈t.sl,i∈vs)→Rel B N W s σ H→Rep B W x v→uW t x s.e=some e' →
  (∀ σ',Rel B N W ⟨e',s.h⟩ σ' H→wipe σ' vs=wipe σ vs→Q σ' H)→gT X.K t v σ H Q
 | .n i,x,v,s,σ,e',Q,hv,r,rx,hb,k=>by
  rw [uW] at hb
  split at hb
  ·cases hb
  ·cases hb
   exact k _ (jME r rx) (jQN (hv i (by simp [Tg.sl])))
 | .t ts,x,v,s,σ,e',Q,hv,r,rx,hb,k=>by
  cases x with
  | tup xs =>
   rw [uW] at hb
   obtain ⟨a,us,rfl,h1,ru⟩:=jFX hK r.hr rx
   exact ⟨a,us,rfl,h1,ru.len_of (jRK hb),gTs_ok hK (by rw [Tg.sl] at hv; exact hv) r ru hb k⟩
  | _=>simp [uW] at hb
theorem gTs_ok (hK:X.K=B.K):∀ {ts:List Tg} {xs:List PV} {us:List V} {s:S} {σ:L2.St} {e':List (Option PV)} {Q:L2.St→Hp→Prop},(∀ i∈Tg.sls ts,i∈vs)→Rel B N W s σ H→Reps B W xs us→bindTs ts xs s.e=some e' →
  (∀ σ',Rel B N W ⟨e',s.h⟩ σ' H→wipe σ' vs=wipe σ vs→Q σ' H)→gTs X.K ts us σ H Q
 | [],[],_,s,σ,e',Q,_,r,.nil,hb,k=>by
  rw [bindTs] at hb
  cases hb
  exact ⟨rfl,k σ r rfl⟩
 | [],_ :: _,_,_,_,_,_,_,_,_,hb,_=>by simp [bindTs] at hb
 | _ :: _,[],_,_,_,_,_,_,_,_,hb,_=>by simp [bindTs] at hb
 | t :: ts,x :: xs,_,s,σ,e',Q,hv,r,.cons rx rt,hb,k=>by
  rw [bindTs] at hb
  cases q:uW t x s.e with
  | none=>rw [q] at hb; cases hb
  | some e1 =>
   rw [q] at hb
   refine ⟨_,_,rfl,jVZ hK (fun i hi=>hv i (by rw [Tg.sls]; exact List.mem_append_left _ hi)) r rx q fun σ1 r1 w1=>?_⟩
   exact gTs_ok hK (s:=⟨e1,s.h⟩) (fun i hi=>hv i (by rw [Tg.sls]; exact List.mem_append_right _ hi)) r1 rt hb fun σ2 r2 w2=>k σ2 r2 (w2.trans w1)
end
end
end Lp
set_option maxHeartbeats 4000000
namespace Lp
open PySem PySem.Spec PyProof.Rows L2
structure Sr where
 xs:List PV
 w:List (Nat × List PV)
 o:Bool
def uO (h:AH) (r:Sr):Prop:=∀ p∈r.w,h[p.1]?=some (some (.lst p.2))
instance {h:AH} {r:Sr}:Decidable (uO h r):=inferInstanceAs (Decidable (∀ p∈r.w,h[p.1]?=some (some (.lst p.2))))
structure Walks (B:Bs) (J:It) (r:Sr) (W:Wd) (s:S) (H:Hp):Prop where
 go:∀ (W':Wd) (s':S) (H':Hp),HRel B W' s'.h H'→W.Le W'→uO s'.h r→(r.o=true→Step W s.h H W' s'.h H')→∀ (i:Nat) (x:PV),r.xs[i]?=some x→J.go i H'∧∀ v H'',J.yld i H' v H''→∃ W'',Grow W' H' W'' H''∧Rep B W'' x v
 stop:∀ (W':Wd) (s':S) (H':Hp),HRel B W' s'.h H'→W.Le W'→uO s'.h r→(r.o=true→Step W s.h H W' s'.h H')→∀ i:Nat,r.xs.length≤i→J.stop i H'
def tI (B:Bs) (N:Ent) (WX:L2.WX) (m:S→R S Sr):TI:=fun σ H R=>∃ W s,Rel B N W s σ H∧Post B N WX W s H σ (m s) fun r W' s' H'=>uO s'.h r→r.xs.length≤sizeLine→∀ J,Walks B J r W' s' H'→R J H'
abbrev SimI (X:Cx) (B:Bs) (N:Ent) (WX:L2.WX) (tg:Expr) (e:Expr) (m:S→R S Sr):Prop:=PI X tg e (tI B N WX m)
theorem yFH {X:Cx} {tg e:Expr} {t t':TI} (h:PI X tg e t) (w:∀ σ H Q,t' σ H Q→t σ H Q):PI X tg e t':=⟨fun pins s σ H Q I q=>h.run pins s σ H Q I (w _ _ _ q)⟩
def srcOf (h:AH):PV→Option Sr
 | .str x=>some ⟨x.cps.toList.map fun c=>.str ⟨#[c]⟩,[],false⟩
 | .tup xs=>some ⟨xs,[],false⟩
 | .lst xs=>some ⟨xs,[],false⟩
 | .own xs=>some ⟨xs,[],true⟩
 | .cel n=>match h[n]? with
  | some (some (.lst xs))=>some ⟨xs,[(n,xs)],false⟩
  | _=>none
 | _=>none
def jES (m:ME):S→R S Sr:=fun s=>(m s).bind fun v s1=>match srcOf s1.h v with
 | some r=>.ok r s1
 | none=>.bad
def jSS (m:MA):S→R S Sr:=fun s=>(m s).bind fun v s1=>match v with
 | [.int j]=>if j.natAbs≤16777216 then .ok ⟨(List.range j.toNat).map fun (k:Nat)=>.int k,[],false⟩ s1 else .bad
 | _=>.bad
def jIT (xs ys:List PV):List PV:=List.zipWith (fun x y=>.tup [x,y]) xs ys
def lsrc (h:AH):PV→Option Sr
 | .tup _=>none
 | .str _=>none
 | x=>srcOf h x
def yDM:PV→Option (List PV)
 | .tup xs=>some xs
 | _=>none
def yHZ (m:MA):S→R S Sr:=fun s=>(m s).bind fun v s1=>match v with
 | [x,y]=>match yDM x,yDM y with
  | some xs,some ys=>.ok ⟨jIT xs ys,[],false⟩ s1
  | _,_=>match lsrc s1.h x,lsrc s1.h y with
   | some a,some b=>.ok ⟨jIT a.xs b.xs,a.w++b.w,a.o||b.o⟩ s1
   | _,_=>.bad
 | _=>.bad
theorem yAY {h:AH} {x:PV} {r:Sr} (e:lsrc h x=some r):srcOf h x=some r∧(∀ xs,x≠.tup xs)∧∀ y,x≠.str y:=by
 cases x with
 | tup xs=>cases e
 | str x=>cases e
 | _=>exact ⟨e,(fun _ z=>nomatch z),(fun _ z=>nomatch z)⟩
theorem jWF {x:PV} {xs:List PV} (e:yDM x=some xs):x=.tup xs:=by
 cases x with
 | tup ys=>cases e; rfl
 | _=>cases e
section
variable {X:Cx} {B:Bs} {N:Ent} {WX:L2.WX} {W W':Wd} {s s':S} {σ:L2.St} {H H':Hp} {tg e:Expr} {m:ME} {ma:MA}
theorem jDK {h:AH} {v:PV} {r:Sr} (e:srcOf h v=some r):uO h r:=by
 intro p hp
 cases v with
 | cel n =>
  unfold srcOf at e
  dsimp only at e
  split at e
  ·rename_i xs q
   cases e
   simp only [List.mem_singleton] at hp
   rw [hp]; exact q
  ·cases e
 | str x=>cases e; cases hp
 | tup x=>cases e; cases hp
 | lst x=>cases e; cases hp
 | own x=>cases e; cases hp
 | _=>cases e
theorem yEH {x:PV} {x':V} {r:Sr} {Wq:Wd} {hq:AH} {Hq:Hp} (hr:HRel B Wq hq Hq) (rx:RepT B Wq Hq x x') (e:srcOf hq x=some r) (nt:∀ xs,x≠.tup xs) (ns:∀ y,x≠.str y):r.xs.length≤sizeLine:=by
 refine jQL hr rx (xs:=r.xs) ?_
 cases x with
 | tup xs=>exact absurd rfl (nt xs)
 | str y=>exact absurd rfl (ns y)
 | lst xs=>cases e; rfl
 | own xs=>cases e; rfl
 | cel n =>
  unfold srcOf at e
  unfold asL
  dsimp only at e ⊢
  split at e
  ·cases e; rename_i q; first | rw [q] | rfl
  ·cases e
 | _=>cases e
theorem yQF {v:PV} {v':V} {r:Sr} (rx:RepT B W H v v') (e:srcOf s.h v=some r) (nt:∀ xs,v≠.tup xs) (ns:∀ x,v≠.str x) (hr0:HRel B W s.h H) :
  ∃ a,v'=.ref a∧∀ (W':Wd) (s':S) (H':Hp),HRel B W' s'.h H'→W.Le W'→uO s'.h r→(r.o=true→Step W s.h H W' s'.h H')→∃ vs,SqL X.K H' a vs∧Reps B W' r.xs vs:=by
 cases v with
 | tup xs=>exact absurd rfl (nt xs)
 | str x=>exact absurd rfl (ns x)
 | lst xs =>
  cases e
  cases (show Rep B W (.lst xs) v' from rx) with
  | lst h r=>exact ⟨_,rfl,fun W' s' H' hr le _ _=>⟨_,.inl (.inl (hr.agree _ _ (le.F _ _ h))),r.mono le⟩⟩
 | own xs =>
  cases e
  obtain ⟨a,vs,rfl,h,r,nm⟩:=rx
  exact ⟨a,rfl,fun W' s' H' hr le _ st=>⟨vs,.inl (.inl ((st rfl).keep _ _ h jBG fun z=>nm z.mem)),r.mono le⟩⟩
 | cel n =>
  cases (show Rep B W (.cel n) v' from rx) with
  | @cel _ a h =>
   unfold srcOf at e
   dsimp only at e
   split at e
   ·rename_i xs q
    cases e
    refine ⟨a,rfl,fun W' s' H' hr le st _=>?_⟩
    obtain ⟨_,vs,h2,r2⟩:=hr.cell n _ a (st (n,xs) (by simp)) (le.at h)
    exact ⟨vs,.inl (.inl h2),r2⟩
   ·cases e
 | _=>cases e
theorem jTD {xs:List PV} {vs:List V} (r:Reps B W xs vs) {i:Nat} (h:xs.length≤i):vs.length≤i:=by rw [← r.length]; exact h
theorem wG (hK:X.K=B.K) (he:SimE X B N WX e m):SimI X B N WX tg e (jES m):=by
 refine ⟨fun pins sp σ H RR I h=>?_⟩
 obtain ⟨W,s,r,h⟩:=h
 have q:=h.bind r.slen
 cases em:m s with
 | bad=>rw [em] at q; exact q.elim
 | exc x s' =>
  refine (pi_list he).run pins sp σ H RR I ⟨W,s,r,?_⟩
  rw [em] at q ⊢
  exact q
 | ok v s1 =>
  rw [em] at q
  have done:∀ (P:V→Hp→Prop),(∀ W1 H1,Rel B N W1 s1 σ H1→StepE W s H W1 s1 H1→Post B N WX W1 s1 H1 σ (match srcOf s1.h v with | some r=>R.ok r s1 | none=>.bad) (fun r W' s' H'=>uO s'.h r→r.xs.length≤sizeLine→∀ J,Walks B J r W' s' H'→RR J H')→∀ v',RepT B W1 H1 v v'→P v' H1)→tE B N WX m σ H P:=fun P k=>by
   refine ⟨W,s,r,?_⟩
   rw [em]
   exact fun W1 H1 r1 st v' rv=>k W1 H1 r1 st (q W1 H1 r1 st) v' rv
  have lst:(∀ xs,v≠.tup xs)→(∀ x,v≠.str x)→iList X.K (tE B N WX m) σ H RR:=fun nt ns=>done _ fun W1 H1 r1 st q v' rv=>by
   split at q
   ·rename_i rr er
    obtain ⟨a,rfl,hl⟩:=yQF (X:=X) rv er nt ns r1.hr
    obtain ⟨vs,h1,hrv⟩:=hl W1 s1 H1 r1.hr (.refl _) (jDK er) fun _=>Step.refl r1.hr
    have k:=q.ok r1 (jDK er) (yEH r1.hr rv er nt ns)
    refine ⟨a,rfl,⟨vs,h1⟩,k _ ⟨fun W' s' H' hr le st2 so i x ex=>?_,fun W' s' H' hr le st2 so i hi=>?_⟩⟩
    ·obtain ⟨vs,h1,h2⟩:=hl W' s' H' hr le st2 so
     obtain ⟨u,e1,ru⟩:=h2.get ex
     refine ⟨⟨vs,u,h1,e1⟩,fun w H'' y=>?_⟩
     obtain ⟨rfl,y⟩:=y
     have:=y vs h1
     rw [e1] at this
     cases this
     exact ⟨W',.refl _ _,ru⟩
    ·obtain ⟨vs,h1,h2⟩:=hl W' s' H' hr le st2 so
     exact ⟨vs,h1,jTD h2 hi⟩
   ·exact q.elim
  cases v with
  | tup xs =>
   refine (pi_tup he).run pins sp σ H RR I (done _ fun W1 H1 r1 st q v' rv=>?_)
   have k0:=(show Post B N WX W1 s1 H1 σ (R.ok (Sr.mk xs [] false) s1) (fun r W' s' H'=>uO s'.h r→r.xs.length≤sizeLine→∀ J,Walks B J r W' s' H'→RR J H') from q).ok r1 (fun _ hp=>nomatch hp)
   cases (show Rep B W1 (.tup xs) v' from rv) with
   | @tup _ a vs h1 h2 =>
    have hl:∀ W' s' H',HRel B W' s' H'→W1.Le W'→SqT X.K H' a vs:=fun W' s' H' hr le=>by
     rcases h1 with h1 | ⟨o,its,n,k1,k2,k3,k4,k5⟩
     ·exact .inl (.inl (hr.agree _ _ (le.F _ _ h1)))
     ·exact .inr ⟨o,its,n,hK ▸ k1,k2,k3,k4,k5⟩
    have k:=k0 (by show xs.length≤sizeLine; exact jTY r1.hr (.tup h1 h2))
    refine ⟨a,rfl,⟨vs,hl W1 s1.h H1 r1.hr (.refl _)⟩,k _ ⟨fun W' s' H' hr le st2 so i x ex=>?_,fun W' s' H' hr le st2 so i hi=>?_⟩⟩
    ·obtain ⟨u,e1,ru⟩:=(h2.mono le).get ex
     refine ⟨⟨vs,u,hl W' s'.h H' hr le,e1⟩,fun w H'' y=>?_⟩
     obtain ⟨rfl,y⟩:=y
     have:=y vs (hl W' s'.h _ hr le)
     rw [e1] at this
     cases this
     exact ⟨W',.refl _ _,ru⟩
    ·exact ⟨vs,hl W' s'.h H' hr le,jTD h2 hi⟩
  | str x =>
   refine (pi_str he).run pins sp σ H RR I (done _ fun W1 H1 r1 st q v' rv=>?_)
   have k0:=(show Post B N WX W1 s1 H1 σ (R.ok (Sr.mk (x.cps.toList.map fun c=>.str ⟨#[c]⟩) [] false) s1) (fun r W' s' H'=>uO s'.h r→r.xs.length≤sizeLine→∀ J,Walks B J r W' s' H'→RR J H') from q).ok r1 (fun _ hp=>nomatch hp)
   obtain ⟨e1,kx⟩:=jDT rv
   have k:=k0 (by show (x.cps.toList.map fun c=>PV.str ⟨#[c]⟩).length≤sizeLine; rw [List.length_map,Array.length_toList]; exact kx.2)
   refine ⟨x,e1,k _ ⟨fun W' s' H' hr le st2 so i y ey=>?_,fun W' s' H' hr le st2 so i hi=>?_⟩⟩
   ·have ey:(x.cps.toList.map fun c=>PV.str ⟨#[c]⟩)[i]?=some y:=ey
    rw [List.getElem?_map] at ey
    cases ec:x.cps.toList[i]? with
    | none=>rw [ec] at ey; cases ey
    | some c =>
     rw [ec] at ey
     cases ey
     have hi:i < x.cps.size:=by simpa using (List.getElem?_eq_some_iff.mp ec).1
     refine ⟨hi,fun w H'' y=>?_⟩
     obtain ⟨rfl,d,e2,rfl⟩:=y
     have ed:d=c:=by
      have e3:x.cps.toList[i]?=x.cps[i]?:=by simp
      rw [e3,e2] at ec
      exact Option.some.inj ec
     subst ed
     refine ⟨W',.refl _ _,.str _ (jUS kx ?_ fun z hz=>?_)⟩
     ·show 1≤x.cps.size
      omega
     ·have:z=d:=by simpa using hz
      rw [this]; exact List.mem_of_getElem? ec
   ·have hi:(x.cps.toList.map fun c=>PV.str ⟨#[c]⟩).length≤i:=hi
    rw [List.length_map,Array.length_toList] at hi
    exact hi
  | lst xs=>exact (pi_list he).run pins sp σ H RR I (lst (by intro _ z; cases z) (by intro _ z; cases z))
  | scr xs=>exact (pi_list he).run pins sp σ H RR I (lst (by intro _ z; cases z) (by intro _ z; cases z))
  | own xs=>exact (pi_list he).run pins sp σ H RR I (lst (by intro _ z; cases z) (by intro _ z; cases z))
  | cel xs=>exact (pi_list he).run pins sp σ H RR I (lst (by intro _ z; cases z) (by intro _ z; cases z))
  | _=>exact (pi_list he).run pins sp σ H RR I (lst (by intro _ z; cases z) (by intro _ z; cases z))
theorem jML {a:Expr} {p pos:Pos} (hg:Gl X "range") (hm:X.mg "range" = none) (ha:SimA X B N WX [a] ma) (hs:starEach [a] X.env=[(false,eval a X.env)]):SimI X B N WX tg (.Call (.Name "range" p) [a] [] pos) (jSS ma) :=
 yFH (pi_range1 hg hm ha hs) fun σ H Q ⟨W,s,r,h⟩=>⟨W,s,r,(h.bind r.slen).mono fun v W1 s1 H1 r1 _ q v' rv=>by
  split at q
  ·rename_i j
   split at q
   ·rename_i hj
    obtain ⟨u,rfl,ru⟩:=repts1 rv
    have k:=q.ok r1 (fun _ hp=>nomatch hp) (by show ((List.range j.toNat).map fun (k:Nat)=>PV.int k).length≤sizeLine; rw [List.length_map,List.length_range,sizeLine_eq]; omega)
    refine ⟨j,by rw [jAJ ru],by omega,by omega,k _ ⟨fun W' s' H' hr le st2 so i x ex=>?_,fun W' s' H' hr le st2 so i hi=>?_⟩⟩
    ·have ex:((List.range j.toNat).map fun (k:Nat)=>PV.int k)[i]?=some x:=ex
     rw [List.getElem?_map] at ex
     cases ei:(List.range j.toNat)[i]? with
     | none=>rw [ei] at ex; cases ex
     | some k =>
      rw [ei] at ex
      cases ex
      obtain ⟨h1,h2⟩:=List.getElem?_eq_some_iff.mp ei
      simp only [List.getElem_range] at h2
      simp only [List.length_range] at h1
      refine ⟨h1,fun w H'' y=>?_⟩
      obtain ⟨rfl,rfl⟩:=y
      exact ⟨W',.refl _ _,by rw [← h2]; simpa using Rep.int (i:Int)⟩
    ·have hi:((List.range j.toNat).map fun (k:Nat)=>PV.int k).length≤i:=hi
     rw [List.length_map,List.length_range] at hi
     exact hi
   ·exact q.elim
  ·exact q.elim⟩
theorem jTJ {T:Addr} {x y:PV} {u v:V} {Wq:Wd} {Hq:Hp} {hq:AH} (hr:HRel B Wq hq Hq) (hT:Hq T=none) (rx:Rep B Wq x u) (ry:Rep B Wq y v):∃ W'',Grow Wq Hq W'' (upd Hq T (.tup [u,v]))∧Rep B W'' (.tup [x,y]) (.ref T) :=
 ⟨_,.new hT (by show 2≤sizeLine; decide),jDL (hr.fnone hT) (.cons rx (.cons ry .nil))⟩
theorem yAK {h:AH} {a b:Sr} {zs:List PV} {o:Bool} (st:uO h ⟨zs,a.w++b.w,o⟩):uO h a:=fun p hp=>st p (List.mem_append_left _ hp)
theorem yAJ {h:AH} {a b:Sr} {zs:List PV} {o:Bool} (st:uO h ⟨zs,a.w++b.w,o⟩):uO h b:=fun p hp=>st p (List.mem_append_right _ hp)
theorem yEA {xs ys:List PV} {vs ws:List V} {Wq:Wd} {Hq:Hp} {hq:AH} {i:Nat} {z:PV} (hr:HRel B Wq hq Hq) (h2:Reps B Wq xs vs) (h4:Reps B Wq ys ws) (ez:(jIT xs ys)[i]?=some z) :
  ∃ x y u v,xs[i]?=some x∧ys[i]?=some y∧vs[i]?=some u∧ws[i]?=some v∧Rep B Wq x u∧Rep B Wq y v∧z=.tup [x,y]:=by
 unfold jIT at ez
 rw [List.getElem?_zipWith] at ez
 cases ex:xs[i]? with
 | none=>rw [ex] at ez; cases ez
 | some x =>
  cases ey:ys[i]? with
  | none=>rw [ex,ey] at ez; cases ez
  | some y =>
   rw [ex,ey] at ez
   cases ez
   obtain ⟨u,e1,ru⟩:=h2.get ex
   obtain ⟨v,e2,rv⟩:=h4.get ey
   exact ⟨x,y,u,v,rfl,rfl,e1,e2,ru,rv,rfl⟩
theorem yMR {a b:Expr} {p pos tpos:Pos} {elts:List Expr} {kk:Nat} (hK:X.K=B.K) (hg:Gl X "zip") (hm:X.mg "zip" = none) (ha:SimA X B N WX [a,b] ma) (hs:starEach [a,b] X.env=[(false,eval a X.env),(false,eval b X.env)]) (hs2:starEach [b] X.env=[(false,eval b X.env)]) (hpl:(backTo pos (starEach [b] X.env)).any (·.1)=false):SimI X B N WX (.Tuple elts kk tpos) (.Call (.Name "zip" p) [a,b] [] pos) (yHZ ma) :=
 yFH (RZ.pi_zipA hg hm ha (by rw [hs,hs2]) hpl) fun σ H Q ⟨W,s,r,h⟩=>⟨W,s,r,(h.bind r.slen).mono fun v W1 s1 H1 r1 _ q v' rv=>by
  split at q
  ·rename_i x y
   obtain ⟨u,u2,rfl,ru,ru2⟩:=repts2 rv
   split at q
   ·rename_i xs ys ex ey
    have ex:=jWF ex
    have ey:=jWF ey
    subst ex ey
    have k0:=q.ok r1 (fun _ hp=>nomatch hp)
    cases (show Rep B W1 (.tup xs) u from ru) with
    | @tup _ a vs h1 h2 =>
     cases (show Rep B W1 (.tup ys) u2 from ru2) with
     | @tup _ b ws h3 h4 =>
      have hl:∀ {a:Addr} {vs:List V},TupAt B W1 a vs→∀ W' s' H',HRel B W' s' H'→W1.Le W'→SqT X.K H' a vs:=fun h1 W' s' H' hr le=>by
       rcases h1 with h1 | ⟨o,its,n,k1,k2,k3,k4,k5⟩
       ·exact .inl (.inl (hr.agree _ _ (le.F _ _ h1)))
       ·exact .inr ⟨o,its,n,hK ▸ k1,k2,k3,k4,k5⟩
      have k:=k0 (by
       have:=jTY r1.hr (.tup h1 h2)
       show (jIT xs ys).length≤sizeLine
       unfold jIT
       rw [List.length_zipWith]
       omega)
      refine ⟨a,b,vs,ws,rfl,.inr ⟨hl h1 _ _ _ r1.hr (.refl _),hl h3 _ _ _ r1.hr (.refl _),k _ ⟨fun W' s' H' hr le st2 so i z ez=>?_,fun W' s' H' hr le st2 so i hi=>?_⟩⟩⟩
      ·obtain ⟨x,y,u,v,e1,e2,e3,e4,rx,ry,rfl⟩:=yEA hr (h2.mono le) (h4.mono le) ez
       refine ⟨⟨vs,ws,u,v,hl h1 _ _ _ hr le,hl h3 _ _ _ hr le,e3,e4⟩,fun w H'' yl=>?_⟩
       obtain ⟨T,w1,w2,rfl,hT,rfl,y3,y4⟩:=yl
       have t1:=y3 vs (hl h1 _ _ _ hr le)
       have t2:=y4 ws (hl h3 _ _ _ hr le)
       rw [e3] at t1
       rw [e4] at t2
       cases t1
       cases t2
       exact jTJ hr hT rx ry
      ·refine ⟨vs,ws,hl h1 _ _ _ hr le,hl h3 _ _ _ hr le,?_⟩
       have hi:(jIT xs ys).length≤i:=hi
       unfold jIT at hi
       rw [List.length_zipWith,h2.length,h4.length] at hi
       omega
   ·split at q
    ·rename_i ra rb ea eb
     obtain ⟨ea,nt,ns⟩:=yAY ea
     obtain ⟨eb,nt2,ns2⟩:=yAY eb
     obtain ⟨a,rfl,hl⟩:=yQF (X:=X) ru ea nt ns r1.hr
     obtain ⟨b,rfl,hl2⟩:=yQF (X:=X) ru2 eb nt2 ns2 r1.hr
     have oa:∀ {Z:Prop},((ra.o||rb.o)=true→Z)→ra.o=true→Z:=fun f e=>f (by rw [e]; rfl)
     have ob:∀ {Z:Prop},((ra.o||rb.o)=true→Z)→rb.o=true→Z:=fun f e=>f (by rw [e,Bool.or_true])
     obtain ⟨vs0,h10,hr10⟩:=hl W1 s1 H1 r1.hr (.refl _) (jDK ea) fun _=>Step.refl r1.hr
     obtain ⟨ws0,h30,_⟩:=hl2 W1 s1 H1 r1.hr (.refl _) (jDK eb) fun _=>Step.refl r1.hr
     have k:=q.ok r1 (fun p hp=>(List.mem_append.mp hp).elim (jDK ea p) (jDK eb p)) (by
      have:=yEH r1.hr ru ea nt ns
      show (jIT ra.xs rb.xs).length≤sizeLine
      unfold jIT
      rw [List.length_zipWith]
      omega)
     refine ⟨a,b,vs0,ws0,rfl,.inl ⟨h10,h30,k _ ⟨fun W' s' H' hr le st2 so i z ez=>?_,fun W' s' H' hr le st2 so i hi=>?_⟩⟩⟩
     ·obtain ⟨vs,h1,h2⟩:=hl W' s' H' hr le (yAK st2) (oa so)
      obtain ⟨ws,h3,h4⟩:=hl2 W' s' H' hr le (yAJ st2) (ob so)
      obtain ⟨x,y,u,v,e1,e2,e3,e4,rx,ry,rfl⟩:=yEA hr h2 h4 ez
      refine ⟨⟨vs,ws,u,v,h1,h3,e3,e4⟩,fun w H'' yl=>?_⟩
      obtain ⟨T,w1,w2,rfl,hT,rfl,y3,y4⟩:=yl
      have t1:=y3 vs h1
      have t2:=y4 ws h3
      rw [e3] at t1
      rw [e4] at t2
      cases t1
      cases t2
      exact jTJ hr hT rx ry
     ·obtain ⟨vs,h1,h2⟩:=hl W' s' H' hr le (yAK st2) (oa so)
      obtain ⟨ws,h3,h4⟩:=hl2 W' s' H' hr le (yAJ st2) (ob so)
      refine ⟨vs,ws,h1,h3,?_⟩
      have hi:(jIT ra.xs rb.xs).length≤i:=hi
      unfold jIT at hi
      rw [List.length_zipWith,h2.length,h4.length] at hi
      omega
    ·exact q.elim
  ·exact q.elim⟩
end
def wN:S→R S Bool:=fun s=>.ok true s
section
variable {X:Cx} {B:Bs} {N:Ent} {WX:L2.WX}
def SimTs (X:Cx) (B:Bs) (N:Ent) (WX:L2.WX) (ifs:List Expr) (m:S→R S Bool):Prop:=PTs X ifs (tT B N WX m)
theorem yPG {ifs:List Expr} {t t':TT} (h:PTs X ifs t) (w:∀ σ H Q,t' σ H Q→t σ H Q):PTs X ifs t':=⟨fun pins s σ H Q I q=>h.run pins s σ H Q I (w _ _ _ q)⟩
theorem zM:SimTs X B N WX [] wN:=yPG pts_nil fun σ H Q ⟨W,s,r,h⟩=>h.ok r
theorem jKB {c:Expr} {m:S→R S Bool} (h:SimT X B N WX c m):SimTs X B N WX [c] m:=pts_one h
end
def R.nx {τ α:Type} (r:R τ α):R τ α:=match r with
 | .ok a s=>.ok a s
 | _=>.bad
@[simp] theorem R.nx_ok {τ α:Type} (a:α) (s:τ):(R.ok a s).nx=.ok a s:=rfl
@[simp] theorem R.nx_bad {τ α:Type}:(R.bad:R τ α).nx=.bad:=rfl
theorem R.post_nx {τ α:Type} {r:R τ α} {P:α→τ→Prop} {E E':PV→τ→Prop} (h:r.nx.post P E):r.post P E':=by
 cases r with
 | ok a s=>exact h
 | exc x s=>exact h.elim
 | bad=>exact h
def jSQ (t:Tg) (tt:S→R S Bool) (te:ME) (vs:List Nat) (x:PV) (acc:List PV):S→R S (List PV):=fun s=>match uW t x (jM s.e vs) with
 | some e1=>(tt ⟨e1,s.h⟩).nx.bind fun b s2=>if b=true then (te s2).nx.bind fun y s3=>if isOwn y=true then .bad else .ok (acc++[y]) ⟨jM s3.e vs,s3.h⟩ else .ok acc ⟨jM s2.e vs,s2.h⟩
 | none=>.bad
noncomputable def jII (r:Sr) (t:Tg) (tt:S→R S Bool) (te:ME) (vs:List Nat):List PV→List PV→S→R S (List PV)
 | [],acc,s=>.ok acc s
 | x :: xs,acc,s=>(jSQ t tt te vs x acc s).bind fun acc' s'=>if uO s'.h r then jII r t tt te vs xs acc' s' else .bad
noncomputable def qP (src:S→R S Sr) (t:Tg) (tt:S→R S Bool) (te:ME) (vs:List Nat):S→R S (List PV):=fun s=>(src s).bind fun r s1=>jII r t tt te vs r.xs [] ⟨jM s1.e vs,s1.h⟩
def R.Nx {τ α:Type}:R τ α→Prop
 | .exc _ _=>False
 | _=>True
theorem R.Nx.bind {τ α β:Type} {r:R τ α} {f:α→τ→R τ β} (h:r.Nx) (k:∀ a s,(f a s).Nx):(r.bind f).Nx:=by
 cases r with
 | ok a s=>exact k a s
 | exc x s=>exact h
 | bad=>exact trivial
theorem R.nx_Nx {τ α:Type} (r:R τ α):r.nx.Nx:=by cases r <;> exact trivial
theorem R.post_of_nx {τ α:Type} {r:R τ α} {P:α→τ→Prop} {E E':PV→τ→Prop} (n:r.Nx) (h:r.post P E):r.post P E':=by
 cases r with
 | ok a s=>exact h
 | exc x s=>exact n.elim
 | bad=>exact h
theorem yFN (t:Tg) (tt:S→R S Bool) (te:ME) (vs:List Nat) (x:PV) (acc:List PV) (s:S):(jSQ t tt te vs x acc s).Nx:=by
 unfold jSQ
 split
 ·refine (R.nx_Nx _).bind fun b s2=>?_
  split
  ·refine (R.nx_Nx _).bind fun y s3=>?_
   split <;> exact trivial
  ·exact trivial
 ·exact trivial
theorem jWX (r:Sr) (t:Tg) (tt:S→R S Bool) (te:ME) (vs:List Nat):∀ (xs acc:List PV) (s:S),(jII r t tt te vs xs acc s).Nx
 | [],_,_=>trivial
 | x :: xs,acc,s=>by
  unfold jII
  refine (yFN t tt te vs x acc s).bind fun acc' s'=>?_
  split
  ·exact jWX r t tt te vs xs acc' s'
  ·exact trivial
section
variable {X:Cx} {B:Bs} {N:Ent} {WX:L2.WX} {W W':Wd} {s s':S} {σ:L2.St} {H H':Hp}
def tN (B:Bs) (N:Ent) (WX:L2.WX) (m:S→R S (List PV)):TE:=fun σ H Q=>∃ W s,Rel B N W s σ H∧Post B N WX W s H σ (m s) fun xs W' s' H'=>∀ p vs,H p=none→Loose N W' s' σ p→H' p=some (.lst vs)→Reps B W' xs vs→Q (.ref p) H'
abbrev SimN (X:Cx) (B:Bs) (N:Ent) (WX:L2.WX) (e:Expr) (m:S→R S (List PV)):Prop:=PE X e (tN B N WX m)
def shN (m:S→R S (List PV)):ME:=fun s=>(m s).bind fun xs s1=>.ok (.lst xs) s1
theorem yDO {m:S→R S (List PV)} {Q:VK} (h:tE B N WX (shN m) σ H Q):tN B N WX m σ H Q:=by
 obtain ⟨W,s,r,h⟩:=h
 refine ⟨W,s,r,R.post_mono (R.post_bind h) (fun xs s1 q W1 H1 r1 st p vs hp l hH rv=>?_) fun x s1 q=>q⟩
 exact q _ H1 (jWR r1 l hH jBG) (st.keepNew hp l.F) _ (Rep.lst upd_same (rv.mono (jDR l.F))).hand
theorem SimN.sh {e:Expr} {m:S→R S (List PV)} (h:SimN X B N WX e m):SimE X B N WX e (shN m):=h.imp fun _ _ _ h=>yDO h
theorem jXC {σ:L2.St}:∀ vs:List Nat,wipe (wipe σ vs) vs=wipe σ vs:=fun vs=>by
 have key:∀ (us:List Nat),(∀ u∈us,u∈vs)→wipe (wipe σ us) vs=wipe σ vs:=by
  intro us
  induction us with
  | nil=>intro _; rfl
  | cons u us ih =>
   intro h
   show wipe ((wipe σ us).set u none) vs=wipe σ vs
   rw [jQN (h u (by simp))]
   exact ih fun w hw=>h w (List.mem_cons_of_mem _ hw)
 exact key vs fun _ h=>h
mutual
theorem jNZ:∀ {t:Tg} {x:PV} {e e':List (Option PV)},uW t x e=some e'→∀ (i:Nat) (y:PV),e'[i]?=some (some y)→isOwn y=true→e[i]?=some (some y)
 | .n j,x,e,e',h,i,y,e1,o=>by
  rw [uW] at h
  split at h
  ·cases h
  ·rename_i hx
   cases h
   by_cases hj:j=i
   ·subst hj
    by_cases hl:j < e.length
    ·rw [List.getElem?_set_self hl] at e1
     cases e1
     exact absurd o hx
    ·rw [List.getElem?_eq_none (by rw [List.length_set]; omega)] at e1
     cases e1
   ·rw [List.getElem?_set_ne hj] at e1
    exact e1
 | .t ts,x,e,e',h,i,y,e1,o=>by
  cases x with
  | tup xs=>rw [uW] at h; exact bindTs_own h i y e1 o
  | _=>simp [uW] at h
theorem bindTs_own:∀ {ts:List Tg} {xs:List PV} {e e':List (Option PV)},bindTs ts xs e=some e'→∀ (i:Nat) (y:PV),e'[i]?=some (some y)→isOwn y=true→e[i]?=some (some y)
 | [],[],e,e',h,i,y,e1,o=>by rw [bindTs] at h; cases h; exact e1
 | [],_ :: _,_,_,h,_,_,_,_=>by simp [bindTs] at h
 | _ :: _,[],_,_,h,_,_,_,_=>by simp [bindTs] at h
 | t :: ts,x :: xs,e,e',h,i,y,e1,o=>by
  rw [bindTs] at h
  cases q:uW t x e with
  | none=>rw [q] at h; cases h
  | some e2 =>
   rw [q] at h
   exact jNZ q i y (bindTs_own h i y e1 o) o
end
theorem jEL {vs:List Nat} (st:StepE W s H W' s' H'):StepE W s H W' ⟨jM s'.e vs,s'.h⟩ H':=⟨st.st,fun i x e o=>st.eo i x (jAZ e).1 o⟩
theorem jRC {t:Tg} {x:PV} {vs:List Nat} {e1:List (Option PV)} (st:StepE W s H W' s' H') (hb:uW t x (jM s'.e vs)=some e1):StepE W s H W' ⟨e1,s'.h⟩ H':=⟨st.st,fun i x e o=>st.eo i x (jAZ (jNZ hb i x e o)).1 o⟩
theorem jRG {t:Tg} {x:PV} {vs:List Nat} {e1:List (Option PV)} {p:Addr} {σ2:L2.St} (l:Loose N W s σ p) (hb:uW t x (jM s.e vs)=some e1) (hw:wipe σ2 vs=wipe σ vs):Loose N W ⟨e1,s.h⟩ σ2 p :=
 ⟨l.F,l.m,fun i x e o z=>by
  obtain ⟨e2,hi⟩:=jAZ (jNZ hb i x e o)
  have:σ2[i]?=σ[i]?:=by rw [← jEM (σ:=σ2) hi,hw,jEM hi]
  rw [this] at z
  exact l.o i x e2 o z,l.e⟩
theorem jLG {vs:List Nat} {p:Addr} {σ2:L2.St} (l:Loose N W s σ2 p) (hw:wipe σ2 vs=wipe σ vs):Loose N W ⟨jM s.e vs,s.h⟩ σ p :=
 ⟨l.F,l.m,fun i x e o z=>by
  obtain ⟨e2,hi⟩:=jAZ e
  have:σ2[i]?=σ[i]?:=by rw [← jEM (σ:=σ2) hi,hw,jEM hi]
  rw [← this] at z
  exact l.o i x e2 o z,l.e⟩
abbrev WF:L2.WX:=fun _ _ _ _=>False
theorem yCX {r:Sr} {t:Tg} {tt:S→R S Bool} {te:ME} {vs:List Nat} {J:It} {W1:Wd} {s0 s1:S} {H1:Hp} {D:Addr} {Q:VK} {Pf:List PV→Wd→S→Hp→Prop} (hK:X.K=B.K) (hv:∀ i∈t.sl,i∈vs)
  (r1:Rel B N W1 s1 σ H1) (wk:Walks B J r W1 s0 H1) (e0:s0.h=s1.h) (st0:uO s1.h r) (hD:H1 D=none) (hline:r.xs.length≤sizeLine)
  (q:Post B N WF W1 s1 H1 σ (jII r t tt te vs r.xs [] s1) Pf) (fin:∀ xs av W' s' H',Rel B N W' s' σ H'→StepE W1 s1 H1 W' s' H'→Pf xs W' s' H'→Loose N W' s' σ D→H' D=some (.lst av)→Reps B W' xs av→Q (.ref D) H') :
  ∃ Wm:Nat→Nat→Hp→Prop,(∃ m,Wm 0 m (upd H1 D (.lst [])))∧∀ i m H,Wm i m H →
   (J.stop i H∧Q (.ref D) H)∨(J.go i H∧∃ Nx:Hp→Prop,(∀ H',Nx H'→∃ m',m' < m∧Wm (i+1) m' H')∧∀ x H',J.yld i H x H'→gT X.K t x (wipe σ vs) H' fun σ2 H2=>wipe σ2 vs=wipe σ vs∧tT B N WF tt σ2 H2 fun b H3 =>
    if b=true then tE B N WF te σ2 H3 fun y H4=>∃ acc,H4 D=some (.lst acc)∧acc.length < sizeLine∧Nx (upd H4 D (.lst (acc++[y]))) else Nx H3):=by
 -- what holds ahead of turn i
 let Iv:Nat→Hp→Prop:=fun i H=>∃ W' s' acc av,Rel B N W' s' σ H∧StepE W1 s1 H1 W' s' H∧Loose N W' s' σ D∧H D=some (.lst av)∧Reps B W' acc av∧acc.length≤i∧i≤r.xs.length∧uO s'.h r ∧
  Post B N WF W1 s1 H1 σ (jII r t tt te vs (r.xs.drop i) acc s') Pf
 refine ⟨fun i m H=>m=r.xs.length - i∧Iv i H,⟨r.xs.length,rfl,W1,s1,[],[],jEO r1 (r1.loose hD) (Nat.zero_le _) (.inl hD),(StepE.refl r1.hr).put hD (r1.loose hD).m,r1.loose hD,upd_same,.nil,Nat.le_refl _,Nat.zero_le _,st0,by simpa using q⟩,?_⟩
 rintro i m H ⟨rfl,W',s',acc,av,r',st',l',hDv,ra,hacc,hi,sl',q'⟩
 have own_st:r.o=true→Step W1 s0.h H1 W' s'.h H:=fun _=>by rw [e0]; exact st'.st
 by_cases hlt:i < r.xs.length
 ·refine .inr ?_
  have ex:=List.getElem?_eq_getElem hlt
  obtain ⟨g1,g2⟩:=wk.go W' s' H r'.hr st'.st.le sl' own_st i _ ex
  refine ⟨g1,fun H'=>Iv (i+1) H',fun H' hv'=>⟨r.xs.length - (i+1),by omega,rfl,hv'⟩,fun v H2 y=>?_⟩
  obtain ⟨W2,gr,rx⟩:=g2 v H2 y
  rw [List.drop_eq_getElem_cons hlt] at q'
  have q2:=R.post_bind (show ((jSQ t tt te vs r.xs[i] acc s').bind fun acc' s'=>if uO s'.h r then jII r t tt te vs (r.xs.drop (i+1)) acc' s' else .bad).post _ _ from q')
  have r2:=gr.rel r'
  have st2:=st'.trans r1.slen (gr.stepE r'.hr)
  have l2:=l'.on r'.slen (gr.stepE r'.hr) (.lst hDv)
  have d2:=l'.held (gr.stepE r'.hr) hDv jBG
  unfold jSQ at q2
  cases eb:uW t r.xs[i] (jM s'.e vs) with
  | none=>rw [eb] at q2; exact q2.elim
  | some e1 =>
   rw [eb] at q2
   refine jVZ hK (vs:=vs) (s:=⟨jM s'.e vs,s'.h⟩) hv (jWP r2) rx eb fun σ2 r3 w3=>?_
   have w3:wipe σ2 vs=wipe σ vs:=w3.trans (jXC vs)
   have st3:StepE W1 s1 H1 W2 ⟨e1,s'.h⟩ H2:=jRC st2 eb
   have l3:Loose N W2 ⟨e1,s'.h⟩ σ2 D:=jRG l2 eb w3
   refine ⟨w3,W2,⟨e1,s'.h⟩,r3,R.post_mono (R.post_nx (E':=fun _ _=>False) (R.post_bind q2)) (fun b s4 q4 W4 H4 r4 st4=>?_) fun x s4 q4=>q4.elim⟩
   have l4:=l3.on r3.slen st4 (.lst d2)
   have d4:=l3.held st4 d2 jBG
   have st14:=st3.trans r1.slen st4
   have go:∀ {acc':List PV} {av':List V} {W5:Wd} {s5:S} {H5:Hp},Rel B N W5 s5 σ2 H5→StepE W1 s1 H1 W5 s5 H5→Loose N W5 s5 σ2 D→H5 D=some (.lst av')→Reps B W5 acc' av'→acc'.length≤i+1 →
     (if uO s5.h r then jII r t tt te vs (r.xs.drop (i+1)) acc' ⟨jM s5.e vs,s5.h⟩ else R.bad).post (fun v s'=>∀ W' H',Rel B N W' s' σ H'→StepE W1 s1 H1 W' s' H'→Pf v W' s' H') (fun x s'=>∀ W' H' cls d,Rel B N W' s' σ H'→StepE W1 s1 H1 W' s' H'→ExcR B N.H W' H' x cls d→Nw H1 d→WF cls d σ H') →
     Iv (i+1) H5:=fun {acc' av' W5 s5 H5} r5 st5 l5 d5 ra5 h5 q5=>by
    split at q5
    ·rename_i hst
     exact ⟨W5,⟨jM s5.e vs,s5.h⟩,acc',av',jHF r5 w3,jEL st5,jLG l5 w3,d5,ra5,h5,hlt,hst,q5⟩
    ·exact q5.elim
   cases b with
   | false =>
    refine iteF (go r4 st14 l4 d4 (ra.mono (gr.stepE r'.hr).st.le |>.mono st4.st.le) (by omega) ?_)
    exact q4
   | true =>
    refine iteT ⟨W4,s4,r4,R.post_mono (R.post_nx (E':=fun _ _=>False) (R.post_bind (show ((te s4).nx.bind fun y s3=>if isOwn y=true then R.bad else R.ok (acc++[y]) ⟨jM s3.e vs,s3.h⟩).post _ _ from q4))) (fun y s5 q5 W5 H5 r5 st5 y' ry=>?_) fun x s5 q5=>q5.elim⟩
    ·split at q5
     ·exact q5.elim
     ·rename_i oy
      have l5:=l4.on r4.slen st5 (.lst d4)
      have d5:=l4.held st5 d4 jBG
      have ra5:Reps B W5 acc av:=((ra.mono (gr.stepE r'.hr).st.le).mono st4.st.le).mono st5.st.le
      refine ⟨av,d5,by rw [← ra5.length]; omega,?_⟩
      have st15:=st14.trans r1.slen st5
      exact go (jEO r5 l5 (by show (av++[y']).length≤sizeLine; rw [List.length_append,List.length_singleton,← ra5.length]; omega) (yEE d5)) (st15.put hD l5.m) l5 upd_same (ra5.append (.one (ry.rep (by simpa using oy)))) (by rw [List.length_append,List.length_singleton]; omega) q5
 ·refine .inl ⟨wk.stop W' s' H r'.hr st'.st.le sl' own_st i (by omega),?_⟩
  have hn:r.xs.drop i=[]:=List.drop_eq_nil_of_le (by omega)
  rw [hn] at q'
  exact fin acc av W' s' H r' st' (q' W' H r' st') l' hDv ra
theorem yBB {src:S→R S Sr} {t:Tg} {tt:S→R S Bool} {te:ME} {vs:List Nat} {Q:VK} (hK:X.K=B.K) (hv:∀ i∈t.sl,i∈vs) (h:tN B N WX (qP src t tt te vs) σ H Q) :
  tLc (tI B N WX src) (gT X.K t) (tT B N WF tt) (tE B N WF te) vs σ H Q:=by
 obtain ⟨W,s,r0,h⟩:=h
 refine ⟨W,s,r0,R.post_mono (R.post_bind h) (fun r s1 q W1 H1 r1 st1 still hline J wk D hD=>?_) fun x s1 q=>q⟩
 have rw1:Rel B N W1 ⟨jM s1.e vs,s1.h⟩ σ H1:=jHF r1 rfl
 have q':Post B N WF W1 ⟨jM s1.e vs,s1.h⟩ H1 σ (jII r t tt te vs r.xs [] ⟨jM s1.e vs,s1.h⟩) fun xs W' s' H'=>∀ p us,H p=none→Loose N W' s' σ p→H' p=some (.lst us)→Reps B W' xs us→Q (.ref p) H':=by
  have nx:=jWX r t tt te vs r.xs [] ⟨jM s1.e vs,s1.h⟩
  refine R.post_of_nx nx (R.post_mono q (fun xs s2 q W2 H2 r2 st2=>q W2 H2 r2 ((jEL st1).trans r0.slen st2)) fun x s2 q=>trivial)
 exact yCX hK hv rw1 wk rfl still hD hline q' fun xs av W' s' H' r' st' k l hH rv=>k D av (st1.st.tr _ hD) l hH rv
theorem jCB {elt tg iter:Expr} {ifs:List Expr} {scope:Scope} {own:List (Str × Nat)} {pos:Pos} {src:S→R S Sr} {t:Tg} {tt:S→R S Bool} {te:ME} (hK:X.K=B.K) (hc:X.calm=true) (hN:X.N.Nodup) (hi:SimI X B N WX tg iter src) (ok:BlkOk X.N X.env.scope scope own)
  (hv:∀ i∈t.sl,i∈own.map (·.2))
  (hg:∀ (s:Shared) (H:Hp) (C:Addr) (cl:List (Str × Addr)) (fp:List Addr),PG (X.blk s H scope (compEnvC scope cl C X.env) fp) tg (gT X.K t)) (ht:∀ (s:Shared) (H:Hp) (C:Addr) (cl:List (Str × Addr)) (fp:List Addr),SimTs (X.blk s H scope (compEnvC scope cl C X.env) fp) B N WF ifs tt)
  (he:∀ (s:Shared) (H:Hp) (C:Addr) (cl:List (Str × Addr)) (fp:List Addr),SimE (X.blk s H scope (compEnvC scope cl C X.env) fp) B N WF elt te) (hs:∀ x,foldedSetIterable iter X.env x=pure x) :
  SimN X B N WX (.ListComp elt [⟨tg,iter,ifs,0⟩] scope pos) (qP src t tt te (own.map (·.2))) :=
 (pe_lc hc hN hi ok hg ht he hs).imp fun σ H Q h=>yBB hK hv h
theorem vR {K:PySem.W.Frag} {e:Expr} {i:Nat} (h:PG X e (gName i)):PG X e (gT K (.n i)):=by
 rw [gT]; exact h
theorem jFW {es:List Expr} {k:Nat} {ts:List Tg} {pos:Pos} (hc:X.calm=true) (h:PGs X es (gTs X.K ts)) (hn:(assignEach es X.env).length=ts.length) (hst:(assignEach es X.env).findIdx? (·.1)=none):PG X (.Tuple es k pos) (gT X.K (.t ts)):=by
 rw [gT]; exact pg_tup hc h hn hst
theorem jAB {K:PySem.W.Frag}:PGs X [] (gTs K []):=by
 rw [gTs]; exact pgs_nil
theorem yK {K:PySem.W.Frag} {e:Expr} {es:List Expr} {t:Tg} {ts:List Tg} (h1:PG X e (gT K t)) (h2:PGs X es (gTs K ts)) (hs:(assignEach (e :: es) X.env).map (·.2)=assign e X.env :: (assignEach es X.env).map (·.2)):PGs X (e :: es) (gTs K (t :: ts)):=by
 rw [gTs]; exact pgs_cons h1 h2 hs
end
end Lp
set_option maxHeartbeats 4000000
namespace Lp
open PySem PySem.Spec PyProof.Rows L2
inductive Fl where
 | nx | rt (v:PV) | bk | ct
abbrev MS:=S→R S Fl
def PostS (B:Bs) (N:Ent) (WX:L2.WX) (D:Ends) (r:R S Fl):Prop:=r.post
 (fun f s'=>match f with
  | .nx=>∀ W' σ' H',Rel B N W' s' σ' H'→D.nx σ' H'
  | .rt v=>∀ W' σ' H' v',Rel B N W' s' σ' H'→Rep B W' v v'→D.rt v' H'
  | .bk=>∀ W' σ' H',Rel B N W' s' σ' H'→D.bk σ' H'
  | .ct=>∀ W' σ' H',Rel B N W' s' σ' H'→D.ct σ' H')
 (fun x s'=>∀ W' σ' H' cls d,Rel B N W' s' σ' H'→ExcR B N.H W' H' x cls d→WX cls d σ' H')
def tS (B:Bs) (N:Ent) (WX:L2.WX) (m:MS):TS:=fun D σ H=>∃ W s,Rel B N W s σ H∧PostS B N WX D (m s)
abbrev SimS (X:Cx) (B:Bs) (N:Ent) (WX:L2.WX) (st:Stmt) (m:MS):Prop:=PS X st (tS B N WX m)
abbrev SimSs (X:Cx) (B:Bs) (N:Ent) (WX:L2.WX) (st:List Stmt) (m:MS):Prop:=PSs X st (tS B N WX m)
section
variable {X:Cx} {B:Bs} {N:Ent} {WX:L2.WX} {W W':Wd} {s s':S} {σ:L2.St} {H H':Hp} {D:Ends} {α:Type}
theorem PostS.bindE {r:R S α} {f:α→S→R S Fl} (h:PostS B N WX D (r.bind f)):Post B N WX W s H σ r fun v W' s' H'=>PostS B N WX D (f v s') :=
 R.post_mono (R.post_bind h) (fun _ _ q W' H' _ _=>q) fun _ _ q W' H' cls d r' _ e _=>q W' σ H' cls d r' e
end
def uZ:MS:=fun s=>.ok .nx s
def yI (a b:MS):MS:=fun s=>(a s).bind fun f s1=>match f with
 | .nx=>b s1
 | f=>.ok f s1
def jVW (m:ME):MS:=fun s=>(m s).bind fun _ s1=>.ok .nx s1
def wD (m:ME):MS:=fun s=>(m s).bind fun v s1=>if isOwn v=true then .bad else .ok (.rt v) s1
def yPN:MS:=fun s=>.ok (.rt .non) s
def sIf (c:S→R S Bool) (a b:MS):MS:=fun s=>(c s).bind fun k s1=>if k=true then a s1 else b s1
def kY (i:Nat) (m:ME):MS:=fun s=>(m s).bind fun v s1=>if isOwn v=true then .bad else .ok .nx ⟨s1.e.set i (some v),s1.h⟩
def jIH (i:Nat) (m:S→R S (List PV)):MS:=fun s=>(m s).bind fun xs s1=>.ok .nx ⟨s1.e.set i (some (.own xs)),s1.h⟩
def jOL (t:Tg) (m:ME):MS:=fun s=>(m s).bind fun v s1=>match uW t v s1.e with
 | some e1=>if isOwn v=true then .bad else .ok .nx ⟨e1,s1.h⟩
 | none=>.bad
section
variable {X:Cx} {B:Bs} {N:Ent} {WX:L2.WX} {W W':Wd} {s s':S} {σ:L2.St} {H H':Hp} {st:Stmt} {rest:List Stmt} {ma mb:MS} {e c:Expr} {m:ME} {mc:S→R S Bool} {pos:Pos}
theorem jW:SimSs X B N WX [] uZ:=pss_nil.imp fun D σ H ⟨W,s,r,h⟩=>h W σ H r
theorem jJ (h:SimS X B N WX st ma):SimSs X B N WX [st] ma:=pss_one h
theorem jG (h1:SimS X B N WX st ma) (h2:SimSs X B N WX rest mb):SimSs X B N WX (st :: rest) (yI ma mb) :=
 (pss_cons h1 h2).imp fun D σ H ⟨W,s,r,h⟩=>⟨W,s,r,R.post_mono (R.post_bind h) (fun f s1 q=>by
  cases f with
  | nx=>exact fun W' σ' H' r'=>⟨W',s1,r',q⟩
  | rt v=>exact q
  | bk=>exact q
  | ct=>exact q) fun x s1 q=>q⟩
theorem jTB (he:SimE X B N WX e m) (hs:swapsWith e none pos.line X.env=pure false):SimS X B N WX (.Expr e pos) (jVW m) :=
 (ps_expr he hs).imp fun D σ H ⟨W,s,r,h⟩=>⟨W,s,r,h.bindE.mono fun v W1 s1 H1 r1 _ q v' rv=>q W1 σ H1 r1⟩
theorem yG (he:SimE X B N WX e m):SimS X B N WX (.Return (some e) pos) (wD m) :=
 (ps_ret he).imp fun D σ H ⟨W,s,r,h⟩=>⟨W,s,r,h.bindE.mono fun v W1 s1 H1 r1 _ q v' rv=>by
  split at q
  ·exact q.elim
  ·rename_i o
   exact q W1 σ H1 v' r1 (rv.rep (by simpa using o))⟩
theorem yC {a b:List Stmt} (hc:SimT X B N WX c mc) (ha:SimSs X B N WX a ma) (hb:SimSs X B N WX b mb):SimS X B N WX (.If c a b pos) (sIf mc ma mb) :=
 (ps_if hc ha hb).imp fun D σ H ⟨W,s,r,h⟩=>⟨W,s,r,h.bindE.mono fun k W1 s1 H1 r1 _ q=>by
  cases k with
  | true=>exact iteT ⟨W1,s1,r1,q⟩
  | false=>exact iteF ⟨W1,s1,r1,q⟩⟩
theorem yBJ {i:Nat} {D:Ends} {v:PV} {v':V} {W1:Wd} {s1:S} {H1:Hp} (r1:Rel B N W1 s1 σ H1) (rv:RepT B W1 H1 v v') (q:PostS B N WX D (if isOwn v=true then R.bad else R.ok Fl.nx ⟨s1.e.set i (some v),s1.h⟩)):D.nx (σ.set i (some v')) H1:=by
 split at q
 ·exact q.elim
 ·rename_i o
  exact q W1 _ H1 (jME r1 (rv.rep (by simpa using o)))
theorem yM {i:Nat} {x:Str} {pos':Pos} (hN:X.N.Nodup) (hi:X.N[i]?=some x) (hx:Loc X.env.scope x) (he:SimE X B N WX e m) (hs:swapsWith e (some (.Name x pos')) pos.line X.env=pure false) (hf:X.fn x=true∨X.env.scope.names.lookup x=some .local) :
  SimS X B N WX (.Assign [.Name x pos'] e pos) (kY i m) :=
 (ps_set hN hi hx he hs hf).imp fun D σ H ⟨W,s,r,h⟩=>⟨W,s,r,h.bindE.mono fun v W1 s1 H1 r1 _ q v' rv=>yBJ r1 rv q⟩
theorem jPQ {i:Nat} {p:Addr} {xs:List PV} {vs:List V} {σ':L2.St} (r:Rel B N W s σ H) (hl:σ'.length=σ.length) (hj:∀ j,j≠i→σ'[j]?=σ[j]?) (hi:σ'[i]?=some (some (.ref p))∨s.e.length≤i)
  (l:W.F p=none∧p∉W.m∧(∀ (j:Nat) (x:PV),j≠i→s.e[j]?=some (some x)→isOwn x=true→σ[j]?≠some (some (.ref p)))∧N.H p=none) (hp:H p=some (.lst vs)) (rv:Reps B W xs vs):Rel B N W ⟨s.e.set i (some (.own xs)),s.h⟩ σ' H:=by
 obtain ⟨l1,l2,l3,l4⟩:=l
 have at_:∀ (j:Nat) (y:PV),(s.e.set i (some (.own xs)))[j]?=some (some y)→(j=i∧y=.own xs∧i < s.e.length)∨(j≠i∧s.e[j]?=some (some y)):=fun j y e=>by
  by_cases hji:i=j
  ·subst hji
   by_cases hb:i < s.e.length
   ·rw [List.getElem?_set_self hb] at e
    cases e
    exact .inl ⟨rfl,rfl,hb⟩
   ·rw [List.getElem?_eq_none (by rw [List.length_set]; omega)] at e
    cases e
  ·rw [List.getElem?_set_ne hji] at e
   exact .inr ⟨fun z=>hji z.symm,e⟩
 refine ⟨r.hr,r.st,by rw [hl,r.len]; simp,fun j y e=>?_,fun j k y z a hjk e1 e2 o1 o2 s1 s2=>?_,r.pin⟩
 ·rcases at_ j y e with ⟨rfl,rfl,hb⟩ | ⟨ne,e⟩
  ·rcases hi with hi | hi
   ·exact ⟨_,hi,p,vs,rfl,hp,rv,l1,l2,l4⟩
   ·omega
  ·rw [hj j ne]
   exact r.env j y e
 ·rcases at_ j y e1 with ⟨rfl,rfl,hb⟩ | ⟨ne,f1⟩
  ·rcases at_ k z e2 with ⟨rfl,_,_⟩ | ⟨ne2,f2⟩
   ·exact hjk rfl
   ·rcases hi with hi | hi
    ·rw [hi] at s1
     cases s1
     rw [hj k ne2] at s2
     exact l3 k z ne2 f2 o2 s2
    ·omega
  ·rcases at_ k z e2 with ⟨rfl,rfl,hb⟩ | ⟨ne2,f2⟩
   ·rcases hi with hi | hi
    ·rw [hi] at s2
     cases s2
     rw [hj j ne] at s1
     exact l3 j y ne f1 o1 s1
    ·omega
   ·rw [hj j ne] at s1
    rw [hj k ne2] at s2
    exact r.dis j k y z a hjk f1 f2 o1 o2 s1 s2
theorem yDC {i:Nat} {mn:S→R S (List PV)} {D:Ends} (h:tS B N WX (jIH i mn) D σ H):tN B N WX mn σ H fun x H1=>D.nx (σ.set i (some x)) H1:=by
 obtain ⟨W,s,r,h⟩:=h
 refine ⟨W,s,r,h.bindE.mono fun xs W1 s1 H1 r1 _ q p vs hp l hH rv=>q W1 _ H1 (jPQ r1 (by simp) (fun j hj=>by rw [List.getElem?_set_ne (Ne.symm hj)]) ?_ ⟨l.F,l.m,fun j x _ e o=>l.o j x e o,l.e⟩ hH rv)⟩
 by_cases hb:i < s1.e.length
 ·exact .inl (List.getElem?_set_self (by rw [r1.len]; exact hb))
 ·exact .inr (by omega)
theorem jBN {i:Nat} {x:Str} {pos':Pos} {mn:S→R S (List PV)} (hN:X.N.Nodup) (hi:X.N[i]?=some x) (hx:Loc X.env.scope x) (he:SimN X B N WX e mn) (hs:swapsWith e (some (.Name x pos')) pos.line X.env=pure false) (hf:X.fn x=true∨X.env.scope.names.lookup x=some .local) :
  SimS X B N WX (.Assign [.Name x pos'] e pos) (jIH i mn) :=
 (ps_set hN hi hx he hs hf).imp fun D σ H h=>yDC h
theorem yFF {i:Nat} {mn:S→R S (List PV)} {D:Ends} (h:tS B N WX (kY i (shN mn)) D σ H):tE B N WX (shN mn) σ H fun x H1=>D.nx (σ.set i (some x)) H1:=by
 obtain ⟨W,s,r,h⟩:=h
 exact ⟨W,s,r,h.bindE.mono fun v W1 s1 H1 r1 _ q v' rv=>yBJ r1 rv q⟩
theorem jZA {i:Nat} {y:Str} {py:Pos} {elt tg iter:Expr} {ifs:List Expr} {scope:Scope} {own:List (Str × Nat)} {spos:Pos} {src:S→R S Sr} {t:Tg} {tt:S→R S Bool} {te:ME} (hK:X.K=B.K) (hc:X.calm=true) (hN:X.N.Nodup) (hy:X.N[i]?=some y) (hyl:X.env.scope.names.lookup y=some .local)
  (hsw:swapsWith (.ListComp elt [⟨tg,iter,ifs,0⟩] scope pos) (some (.Name y py)) spos.line X.env=pure true) (hi:SimI X B N WX tg iter src) (ok:BlkOk X.N X.env.scope scope own) (hv:∀ i∈t.sl,i∈own.map (·.2))
  (hg:∀ (s:Shared) (H:Hp) (C:Addr) (cl:List (Str × Addr)) (fp:List Addr),PG (X.blk s H scope (compEnvC scope cl C X.env) fp) tg (gT X.K t)) (ht:∀ (s:Shared) (H:Hp) (C:Addr) (cl:List (Str × Addr)) (fp:List Addr),SimTs (X.blk s H scope (compEnvC scope cl C X.env) fp) B N WF ifs tt)
  (he:∀ (s:Shared) (H:Hp) (C:Addr) (cl:List (Str × Addr)) (fp:List Addr),SimE (X.blk s H scope (compEnvC scope cl C X.env) fp) B N WF elt te) (hs:∀ x,foldedSetIterable iter X.env x=pure x) :
  SimS X B N WX (.Assign [.Name y py] (.ListComp elt [⟨tg,iter,ifs,0⟩] scope pos) spos) (kY i (shN (qP src t tt te (own.map (·.2))))) :=
 (ps_setLc hc hN hy hyl hsw hi ok hg ht he hs).imp fun D σ H h=>yBB hK hv (yDO (yFF h))
theorem jHH {tg:Expr} {t:Tg} (hK:X.K=B.K) (he:SimE X B N WX e m) (hg:PG X tg (gT X.K t)) (hs:swapsWithSole [tg] e pos.line X.env=pure false) (hw:swappedStores [tg] e X.env=pure none) (h1:(assignEach [tg] X.env).map (·.2)=[assign tg X.env]) :
  SimS X B N WX (.Assign [tg] e pos) (jOL t m) :=
 (ps_asg he hg hs hw h1).imp fun D σ H ⟨W,s,r,h⟩=>⟨W,s,r,h.bindE.mono fun v W1 s1 H1 r1 _ q v' rv=>by
  split at q
  ·rename_i e1 eb
   split at q
   ·exact q.elim
   ·rename_i o
    exact jVZ hK (vs:=t.sl) (fun i hi=>hi) r1 (rv.rep (by simpa using o)) eb fun σ' r' _=>q W1 σ' H1 r'
  ·exact q.elim⟩
def yXY (i j:Nat) (ma:MA):MS:=fun s=>(ma s).bind fun vs s1=>match vs with
 | [v,w]=>if isOwn v=true∨isOwn w=true then .bad else .ok .nx ⟨(s1.e.set i (some v)).set j (some w),s1.h⟩
 | _=>.bad
theorem yNM {i:Nat} {xs:List PV} (r:Rel B N W s σ H) (e:s.e[i]?=some (some (.own xs))):∃ p vs,σ[i]?=some (some (.ref p))∧H p=some (.lst vs)∧Reps B W xs vs∧W.F p=none∧p∉W.m∧N.H p=none ∧
  Rel B N ⟨upd W.F p (.lst vs),W.m⟩ ⟨s.e.set i (some (.lst xs)),s.h⟩ σ H:=by
 obtain ⟨v,e1,p,vs,rfl,hH,rv,hF,hm,h0⟩:=r.env i _ e
 have hi:i < s.e.length:=(List.getElem?_eq_some_iff.mp e).1
 refine ⟨p,vs,e1,hH,rv,hF,hm,h0,?_⟩
 -- first the slot is cleared
 have rc:Rel B N W ⟨s.e.set i none,s.h⟩ σ H:=by
  refine ⟨r.hr,r.st,by rw [r.len]; simp,fun j y ej=>?_,fun j k y z a hjk f1 f2 o1 o2 s1 s2=>?_,r.pin⟩
  ·by_cases hj:i=j
   ·subst hj
    rw [List.getElem?_set_self hi] at ej
    cases ej
   ·rw [List.getElem?_set_ne hj] at ej
    exact r.env j y ej
  ·have g:∀ (j:Nat) (y:PV),(s.e.set i none)[j]?=some (some y)→s.e[j]?=some (some y):=fun j y f=>by
    by_cases hj:i=j
    ·subst hj
     rw [List.getElem?_set_self hi] at f
     cases f
    ·rw [List.getElem?_set_ne hj] at f
     exact f
   exact r.dis j k y z a hjk (g j y f1) (g k z f2) o1 o2 s1 s2
 have lc:Loose N W ⟨s.e.set i none,s.h⟩ σ p:=⟨hF,hm,fun j y f o z=>by
  by_cases hj:i=j
  ·subst hj
   have f:(s.e.set i none)[i]?=some (some y):=f
   rw [List.getElem?_set_self hi] at f
   cases f
  ·have f:(s.e.set i none)[j]?=some (some y):=f
   rw [List.getElem?_set_ne hj] at f
   exact r.dis i j _ y p hj e f rfl o e1 z,h0⟩
 have rk:=jWR rc lc hH jBG
 have rs:=jME (i:=i) rk (Rep.lst (xs:=xs) (vs:=vs) upd_same (rv.mono (jDR hF)))
 have es:σ.set i (some (.ref p))=σ:=by
  apply List.ext_getElem?
  intro j
  by_cases hj:i=j
  ·subst hj
   rw [List.getElem?_set_self (by rw [r.len]; exact hi),e1]
  ·rw [List.getElem?_set_ne hj]
 rw [es] at rs
 simpa using rs
end
end Lp
set_option maxHeartbeats 4000000
namespace Lp
open PySem PySem.Spec PyProof.Rows L2
section
variable {B:Bs} {N:Ent} {W W':Wd} {s s':S} {σ:L2.St} {H H':Hp} {h':AH}
theorem jEV (r:Rel B N W s σ H) (hr':HRel B W' h' H') (st:Step W s.h H W' h' H'):Rel B N W' ⟨s.e,h'⟩ σ H':=by
 refine ⟨hr',r.st.trans N.len st,r.len,fun i x e=>?_,r.dis,r.pin.trans st.le⟩
 obtain ⟨v,e1,sl⟩:=r.env i x e
 refine ⟨v,e1,?_⟩
 cases x with
 | own xs =>
  obtain ⟨a,vs,rfl,hH,rv,hF,hm,h0⟩:=sl
  have nl:¬ Live W s.h a:=fun l=>hm l.mem
  have ne:H a≠none:=by rw [hH]; exact fun z=>nomatch z
  exact ⟨a,vs,rfl,st.keep _ _ hH jBG nl,rv.mono st.le,st.fgrow a hF (.lst hH) nl,st.notm r.slen hm ne,h0⟩
 | don ks=>exact DonR.mono st.le sl
 | _=>exact Rep.mono st.le sl
theorem jEU {s:S} (st:Step W s.h H W' h' H'):StepE W s H W' ⟨s.e,h'⟩ H':=⟨st,fun _ _ e _=>e⟩
end
abbrev MF:=List PV→AH→R AH PV
def spF (B:Bs) (n:Nat) (m:MF):Sp:=fun vs H Q E=>∃ W h xs,HRel B W h H∧Reps B W xs vs∧xs.length=n∧(m xs h).post
 (fun v h'=>∀ W' H' v',HRel B W' h' H'→Step W h H W' h' H'→Rep B W' v v'→Q v' H')
 (fun x h'=>∀ W' H' cls d,HRel B W' h' H'→Step W h H W' h' H'→ExcR B H W' H' x cls d→E cls d H')
def mkF (k:Nat) (mb:MS):MF:=fun xs h=>match mb ⟨xs.map some++List.replicate k none,h⟩ with
 | .ok (.rt v) s=>.ok v s.h
 | .ok .nx s=>.ok .non s.h
 | .ok _ _=>.bad
 | .exc x s=>.exc x s.h
 | .bad=>.bad
theorem Rep.no {B:Bs} {W:Wd} {x:PV} {v:V} (r:Rep B W x v):isOwn x=false:=by cases r <;> rfl
theorem Reps.no {B:Bs} {W:Wd}:∀ {xs:List PV} {vs:List V},Reps B W xs vs→∀ x∈xs,isOwn x=false
 | _,_,.nil,_,h=>by cases h
 | _,_,.cons r t,x,h=>by
  rcases List.mem_cons.mp h with rfl | h
  ·exact r.no
  ·exact Reps.no t x h
theorem yCJ {B:Bs} {W:Wd} {h:AH} {H:Hp} {xs:List PV} {vs:List V} {k:Nat} (hr:HRel B W h H) (r:Reps B W xs vs) :
  Rel B ⟨W,h,H,hr.len,W⟩ W ⟨xs.map some++List.replicate k none,h⟩ (vs.map some++List.replicate k none) H:=by
 have at_:∀ (i:Nat) (x:PV),(xs.map some++List.replicate k none)[i]?=some (some x)→xs[i]?=some x:=fun i x e=>by
  by_cases hi:i < (xs.map some).length
  ·rw [List.getElem?_append_left hi,List.getElem?_map] at e
   cases q:xs[i]? with
   | none=>rw [q] at e; cases e
   | some y=>rw [q] at e; cases e; rfl
  ·rw [List.getElem?_append_right (by omega)] at e
   rw [List.getElem?_replicate] at e
   split at e <;> cases e
 refine ⟨hr,Step.refl hr,by simp [r.length],fun i x e=>?_,fun i j x y a hij e1 e2 o1 o2 s1 s2=>?_,.refl W⟩
 ·obtain ⟨v,ev,rv⟩:=r.get (at_ i x e)
  refine ⟨v,?_,rv.slot⟩
  rw [List.getElem?_append_left (by rw [List.length_map]; exact (List.getElem?_eq_some_iff.mp ev).1),List.getElem?_map,ev]
  rfl
 ·rw [r.no x (List.mem_of_getElem? (at_ i x e1))] at o1
  cases o1
structure Bdy (X:Cx) (E:XK) (k:Nat):Prop where
 tk:L2N.Takes X fun c d _ H=>E c d H
 pa:PassesOwn (model X.prog X.w) X.A X.env X.xe
 rm:Room k X.A
theorem fn_ok {P:Program} {w:World} {K:PySem.W.Frag} {mg:Str→Option Value} {base:Heap} {x qual:Str} {params:Arguments} {body:List Stmt} {scope:Scope} {dvs:List V} {kws:List (Str × V)} {f:Addr} {fd:FuncData} {names ps:List Str} {k n kk:Nat} {B:Bs} {mb:MS}
  (F:FunD K x qual params body scope dvs kws f fd) (S:FnScope names ps scope) (hn:ps.length=n) (hk:names.length - n=kk)
  (hb:∀ (cdv:Value) (A:Around) (outer:List Env) (s:Shared) (H:Hp) (E:XK) (N:Ent),Bdy (cxOf (L2N.CX P w) P w K mg base names qual scope f cdv A outer s H E) E k →
   SimSs (cxOf (L2N.CX P w) P w K mg base names qual scope f cdv A outer s H E) B N (fun c d _ H=>E c d H) body mb):FnOk P w K mg base (L2N.CX P w) (k+1) f fd ps (spF B n (mkF kk mb)):=by
 refine F.ok S (fun vs H Q E ⟨W,h,xs,hr,r,e,_⟩=>by rw [hn,← e,r.length]) fun cdv A outer s H vs Q E hr ⟨W,h,xs,hrel,r,e,q⟩=>?_
 have bd:Bdy (cxOf (L2N.CX P w) P w K mg base names qual scope f cdv A outer s H E) E k:=⟨L2N.takes_of rfl rfl rfl rfl,passes_of rfl,hr⟩
 refine ⟨_,hb cdv A outer s H E ⟨W,h,H,hrel.len,W⟩ bd,W,⟨xs.map some++List.replicate kk none,h⟩,?_,?_⟩
 ·have:=yCJ (k:=kk) hrel r
  unfold L2.start
  rw [show names.length - vs.length=kk by rw [← r.length,e,hk]]
  exact this
 ·unfold PostS
  unfold mkF at q
  split at q
  ·rename_i v s1 e1
   rw [e1]
   exact fun W' σ' H' v' r' rv=>q W' H' v' r'.hr r'.st rv
  ·rename_i s1 e1
   rw [e1]
   exact fun W' σ' H' r'=>q W' H' .non r'.hr r'.st .non
  ·exact q.elim
  ·rename_i x1 s1 e1
   rw [e1]
   exact fun W' σ' H' cls d r' ex=>q W' H' cls d r'.hr r'.st ex
  ·exact q.elim
def lift (r:R AH PV) (e:List (Option PV)):R S PV:=match r with
 | .ok v h=>.ok v ⟨e,h⟩
 | .exc x h=>.exc x ⟨e,h⟩
 | .bad=>.bad
def jGI (n:Nat) (m:MF) (vs:List PV):ME:=fun s=>if vs.length=n∧yW vs=true then lift (m vs s.h) s.e else .bad
def yP (n:Nat) (m:MF) (ma:MA):ME:=fun s=>(ma s).bind fun vs s1=>jGI n m vs s1
def pick {α:Type} (ix:List Nat) (l:List α):List α:=ix.filterMap (l[·]?)
structure Fn (P:Program) (w:World) (K:PySem.W.Frag) (mg:Str→Option Value) (base:Heap) (B:Bs) (k:Nat) (x:Str) (n:Nat) (m:MF):Prop where
 ex:∃ f fd ps,FnOk P w K mg base (L2N.CX P w) k f fd ps (spF B n m)∧mg x=some (.ref f)∧PySem.W.keepIn K (.ref f)=true∧Binds K fd ps []
structure FnK (P:Program) (w:World) (K:PySem.W.Frag) (mg:Str→Option Value) (base:Heap) (B:Bs) (k:Nat) (x:Str) (n0:Nat) (ks:List Str) (ix:List Nat) (n:Nat) (m:MF):Prop where
 ex:∃ f fd ps,FnOk P w K mg base (L2N.CX P w) k f fd ps (spF B n m)∧mg x=some (.ref f)∧PySem.W.keepIn K (.ref f)=true∧KBn K fd ps n0 ks (fun us ws=>pick ix (us++ws)) fun vs zs=>pick ix (vs++zs)
section
variable {P:Program} {w:World} {K:PySem.W.Frag} {mg:Str→Option Value} {base:Heap} {B:Bs} {j k n n0:Nat} {x:Str} {m:MF} {ks:List Str} {ix:List Nat}
theorem Fn.mono (F:Fn P w K mg base B j x n m) (h:j≤k):Fn P w K mg base B k x n m :=
 let ⟨f,fd,ps,a,b⟩:=F.ex
 ⟨f,fd,ps,a.mono h,b⟩
theorem FnK.mono (F:FnK P w K mg base B j x n0 ks ix n m) (h:j≤k):FnK P w K mg base B k x n0 ks ix n m :=
 let ⟨f,fd,ps,a,b⟩:=F.ex
 ⟨f,fd,ps,a.mono h,b⟩
theorem jWD:∀ {vs:List V} {us:List Value} {i:Nat},Vals vs us→(∃ v u,vs[i]?=some v∧us[i]?=some u∧RelV v u)∨(vs[i]?=none∧us[i]?=none)
 | _,_,_,.nil=>.inr ⟨rfl,rfl⟩
 | _,_,0,.cons r _=>.inl ⟨_,_,rfl,rfl,r⟩
 | _,_,i+1,.cons _ t=>by simpa using jWD (i:=i) t
theorem jHG {vs:List V} {us:List Value} (r:Vals vs us):∀ ix:List Nat,Vals (pick ix vs) (pick ix us)
 | []=>.nil
 | i :: ix=>by
  unfold pick
  rcases jWD (i:=i) r with ⟨v,u,e1,e2,q⟩ | ⟨e1,e2⟩
  ·rw [List.filterMap_cons_some e1,List.filterMap_cons_some e2]
   exact .cons q (jHG r ix)
  ·rw [List.filterMap_cons_none e1,List.filterMap_cons_none e2]
   exact jHG r ix
theorem jHI {W:Wd} {xs:List PV} {vs:List V} (r:Reps B W xs vs):∀ ix:List Nat,Reps B W (pick ix xs) (pick ix vs)
 | []=>.nil
 | i :: ix=>by
  unfold pick
  cases e1:xs[i]? with
  | some x =>
   obtain ⟨v,e2,q⟩:=r.get e1
   rw [List.filterMap_cons_some e1,List.filterMap_cons_some e2]
   exact .cons q (jHI r ix)
  | none =>
   have e2:vs[i]?=none:=by
    rw [List.getElem?_eq_none_iff] at e1 ⊢
    rw [← r.length]; exact e1
   rw [List.filterMap_cons_none e1,List.filterMap_cons_none e2]
   exact jHI r ix
theorem yXD {qual:Str} {params:Arguments} {body:List Stmt} {scope:Scope} {kws:List (Str × V)} {f:Addr} {fd:FuncData} {ps:List Str} (F:FunD K x qual params body scope [] kws f fd)
  (h:∀ (kV doc pm:Value) (an:Option Addr) (cdv ct:Value) (us ws:List Value),us.length=n0→ws.length=ks.length→bindArgs (PySem.W.fnOf x qual params body scope .none kV doc pm an cdv ct) ⟨us,ks.zip ws⟩=pure (ps.zip (pick ix (us++ws)))) :
  KBn K fd ps n0 ks (fun us ws=>pick ix (us++ws)) fun vs zs=>pick ix (vs++zs):=by
 obtain ⟨oc,od,dV,kV,doc,pm,an,cdv,ct,osl,rfl,lk,hcd,hD,hK⟩:=F.ex
 rcases hD with ⟨_,rfl⟩ | ⟨e,_⟩
 ·exact ⟨fun s us ws _ l1 l2=>.of_eq (h kV doc pm an cdv ct us ws l1 l2),fun r1 r2=>jHG (r1.append r2) ix⟩
 ·exact absurd rfl e
end
section
variable {X:Cx} {B:Bs} {N:Ent} {WX:L2.WX} {W W':Wd} {s s':S} {σ:L2.St} {H H':Hp} {e:Expr} {es:List Expr} {ma mk:MA} {me:ME} {p pos kpos:Pos} {x:Str} {k n n0:Nat} {m:MF} {kws:List Keyword} {nm:Option Str} {ks:List Str} {ix:List Nat} {E:XK}
theorem jMP {vs:List PV} {vs':List V} {Q:VK} (r:Rel B N W s σ H) (rv:Reps B W vs vs') (q:Post B N WX W s H σ (jGI n m vs s) fun u W' _ H'=>∀ u',RepT B W' H' u u'→Q u' H') :
  spF B n m vs' H Q fun c d H=>WX c d σ H:=by
 unfold jGI at q
 split at q
 ·rename_i hc
  refine ⟨W,s.h,vs,r.hr,rv,hc.1,?_⟩
  unfold lift at q
  split at q
  ·rename_i v h e
   rw [e]
   exact fun W' H' v' hr' st ru=>q W' H' (jEV r hr' st) (jEU st) v' ru.hand
  ·rename_i y h e
   rw [e]
   exact fun W' H' cls d hr' st ex=>q W' H' cls d (jEV r hr' st) (jEU st) (ex.old r.st.tr) ex.nw
  ·exact q.elim
 ·exact q.elim
theorem yHT {vs:List PV} {P:PV→Wd→S→Hp→Prop} (q:Post B N WX W s H σ (jGI n m vs s) P):yW vs=true:=by
 unfold jGI at q
 split at q
 ·rename_i hc; exact hc.2
 ·exact q.elim
theorem jV (F:Fn X.prog X.w X.K X.mg X.base B k x n m) (tk:L2N.Takes X WX) (hr:Room k X.A) (hg:Gl X x) (ha:SimA X B N WX (e :: es) ma) (hdb:(x == ("__debug__" : Str))=false)
  (he:starEach (e :: es) X.env=(false,eval e X.env) :: starEach es X.env) (hpl:(backTo pos (starEach es X.env)).any (·.1)=false):SimE X B N WX (.Call (.Name x p) (e :: es) [] pos) (yP n m ma):=by
 obtain ⟨f,fd,ps,F1,hm,hk,hb⟩:=F.ex
 exact (pe_callS (E:=WE WX) F1 hr hg hm hk hb (fun σ=>L2N.passAt tk σ) ha hdb he hpl).imp fun σ H Q ⟨W,s,r,h⟩=>⟨W,s,r,(h.bind r.slen).mono fun vs W1 s1 H1 r1 _ q vs' rv=>jMP r1 (rv.reps (yHT q)) q⟩
theorem jTC (F:Fn X.prog X.w X.K X.mg X.base B k x n m) (tk:L2N.Takes X fun c d _ H=>E c d H) (hr:Room k X.A) (hg:Gl X x) (hdb:(x == ("__debug__" : Str))=false):SimE X B N (fun c d _ H=>E c d H) (.Call (.Name x p) [] [] pos) (jGI n m []):=by
 obtain ⟨f,fd,ps,F1,hm,hk,hb⟩:=F.ex
 exact (pe_call0 (E:=E) F1 hr hg hm hk hb .nil (L2N.passes_call tk fun _ _ _ _ h=>h) hdb).imp fun σ H Q ⟨W,s,r,h⟩=>jMP (vs:=[]) r .nil h
abbrev SimK (X:Cx) (B:Bs) (N:Ent) (WX:L2.WX) (kws:List Keyword) (m:MA):Prop:=PK X kws (tA B N WX m)
theorem _root_.L2.PK.imp {X:Cx} {e:List Keyword} {t t':TA} (h:PK X e t) (w:∀ σ H Q,t' σ H Q→t σ H Q):PK X e t':=⟨fun p pins s σ H Q I q=>h.run p pins s σ H Q I (w _ _ _ q)⟩
theorem jBK:SimK X B N WX [] jL:=pk_nil.imp fun σ H Q ⟨W,s,r,h⟩=>h.ok r [] trivial
theorem jNS (he:SimE X B N WX e me) (hr:SimK X B N WX kws mk):SimK X B N WX (⟨nm,e,kpos⟩ :: kws) (jC me mk) :=
 (pk_cons he hr).imp fun σ H Q ⟨W,s,r,h⟩=>⟨W,s,r,(h.bind r.slen).mono fun v W1 s1 H1 r1 _ q v' rv=>⟨W1,s1,r1,(q.bind r1.slen).mono fun vs W2 s2 H2 r2 st2 q2 vs' rvs=>q2.ok r2 (v' :: vs') ⟨rv.on r1.slen st2.st,rvs⟩⟩⟩
def yEV (n0 nk:Nat) (ix:List Nat) (n:Nat) (m:MF) (ma mk:MA):ME:=fun s=>(ma s).bind fun vs s1=>(mk s1).bind fun zs s2=>if (vs.length=n0∧zs.length=nk)∧yW vs=true∧yW zs=true then jGI n m (pick ix (vs++zs)) s2 else .bad
end
end Lp
set_option maxHeartbeats 4000000
namespace Lp
open PySem PySem.Spec PyProof.Rows L2
def Ent.at (N:Ent) (W:Wd):Ent:=⟨N.W,N.h,N.H,N.len,W⟩
section
variable {B:Bs} {N:Ent} {W W':Wd} {s s':S} {σ:L2.St} {H H':Hp}
theorem Rel.pinAt (r:Rel B N W s σ H):Rel B (N.at W) W s σ H:=⟨r.hr,r.st,r.len,r.env,r.dis,.refl W⟩
theorem Rel.unpin (r:Rel B (N.at W) W' s σ H) (l:N.P.Le W):Rel B N W' s σ H:=⟨r.hr,r.st,r.len,r.env,r.dis,l.trans r.pin⟩
end
noncomputable def jDJ (r:Sr) (t:Tg) (body:MS):List PV→MS
 | [],s=>if uO s.h r then .ok .nx s else .bad
 | x :: xs,s=>if uO s.h r then match uW t x s.e with
   | some e1=>(body ⟨e1,s.h⟩).bind fun f s'=>match f with
    | .nx=>jDJ r t body xs s'
    | .ct=>jDJ r t body xs s'
    | .bk=>.ok .nx s'
    | .rt v=>.ok (.rt v) s'
   | none=>.bad
  else .bad
noncomputable def jRW (src:S→R S Sr) (t:Tg) (body:MS):MS:=fun s=>(src s).bind fun r s1=>if r.o=true∨sizeLine < r.xs.length then .bad else jDJ r t body r.xs s1
section
variable {X:Cx} {B:Bs} {N:Ent} {WX:L2.WX} {W W':Wd} {s s':S} {σ:L2.St} {H H':Hp} {tg iter:Expr} {body:List Stmt} {mb:MS} {src:S→R S Sr} {t:Tg} {pos:Pos}
theorem yNO {st:List Stmt} (h:∀ N,SimSs X B N WX st mb):PSs X st (fun D σ H=>∃ N,tS B N WX mb D σ H):=⟨fun pins s σ H D I ⟨N,q⟩=>(h N).run pins s σ H D I q⟩
theorem PostS.unpin {D:Ends} {r:R S Fl} (l:N.P.Le W) (q:PostS B N WX D r):PostS B (N.at W) WX D r:=R.post_mono q (fun f s' q=>by
  cases f with
  | nx=>exact fun W' σ' H' r'=>q W' σ' H' (r'.unpin l)
  | rt v=>exact fun W' σ' H' v' r'=>q W' σ' H' v' (r'.unpin l)
  | bk=>exact fun W' σ' H' r'=>q W' σ' H' (r'.unpin l)
  | ct=>exact fun W' σ' H' r'=>q W' σ' H' (r'.unpin l)) fun x s' q W' σ' H' cls d r'=>q W' σ' H' cls d (r'.unpin l)
theorem jFZ (hp:PassesOwn (model X.prog X.w) X.A X.env X.xe) (hK:X.K=B.K) (hc:X.calm=true) (hi:SimI X B N WX tg iter src) (hg:PG X tg (gT X.K t)) (hb:∀ N,SimSs X B N WX body mb) (hs:∀ x,foldedSetIterable iter X.env x=pure x) :
  SimS X B N WX (.For tg iter body [] pos) (jRW src t mb) :=
 (ps_for hp hc hi hg (yNO hb) hs).imp fun D σ H ⟨W,s,r,h⟩=>by
  refine ⟨W,s,r,h.bindE.mono fun rr W1 s1 H1 r1 _ q st hz J wk=>?_⟩
  split at q
  ·exact q.elim
  ·rename_i ho
   simp only [not_or] at ho
   have no:rr.o=true→∀ {P:Prop},P:=fun z=>absurd z ho.1
   refine ⟨fun i m σ' H'=>m=rr.xs.length - i∧i≤rr.xs.length∧∃ W' s',Rel B (N.at W1) W' s' σ' H'∧PostS B (N.at W1) WX D (jDJ rr t mb (rr.xs.drop i) s'),⟨_,rfl,Nat.zero_le _,W1,s1,r1.pinAt,q.unpin r1.pin⟩,?_⟩
   rintro i m σ' H' ⟨rfl,hi,W',s',r',q'⟩
   by_cases hl:i < rr.xs.length
   ·right
    rw [List.drop_eq_getElem_cons hl] at q'
    unfold jDJ at q'
    split at q'
    ·rename_i st'
     obtain ⟨g1,g2⟩:=wk.go W' s' H' r'.hr r'.pin st' (fun z=>no z) i rr.xs[i] (List.getElem?_eq_getElem hl)
     refine ⟨g1,fun σ2 H2=>(rr.xs.length - (i+1)=rr.xs.length - (i+1))∧i+1≤rr.xs.length∧∃ W' s',Rel B (N.at W1) W' s' σ2 H2∧PostS B (N.at W1) WX D (jDJ rr t mb (rr.xs.drop (i+1)) s'),fun σ2 H2 z=>⟨_,by omega,z⟩,fun x H2 y=>?_⟩
     obtain ⟨W2,gr,rx⟩:=g2 x H2 y
     split at q'
     ·rename_i e1 eb
      refine jVZ hK (vs:=t.sl) (fun i hi=>hi) (gr.rel r') rx eb fun σ3 r3 _=>⟨N.at W1,W2,⟨e1,s'.h⟩,r3,R.post_mono (R.post_bind q') (fun f s4 q4=>?_) fun x s4 q4=>q4⟩
      cases f with
      | nx=>exact fun W5 σ5 H5 r5=>⟨rfl,hl,W5,s4,r5,q4⟩
      | ct=>exact fun W5 σ5 H5 r5=>⟨rfl,hl,W5,s4,r5,q4⟩
      | bk=>exact q4
      | rt v=>exact q4
     ·exact q'.elim
    ·exact q'.elim
   ·left
    rw [List.drop_eq_nil_of_le (by omega)] at q'
    unfold jDJ at q'
    split at q'
    ·rename_i st'
     exact ⟨wk.stop W' s' H' r'.hr r'.pin st' (fun z=>no z) i (by omega),q' W' σ' H' r'⟩
    ·exact q'.elim
end
section
variable {B:Bs} {N:Ent} {W W':Wd} {s s':S} {σ:L2.St} {h h':AH} {H H':Hp} {n:Nat} {c c':Cell} {a p:Addr} {o:HO}
theorem yEJ {α:Type} {l:List (Option α)} {n m:Nat} {c:α} {x:α} (e:(l.set n (some c))[m]?=some (some x)):(m=n∧x=c)∨(m≠n∧l[m]?=some (some x)):=by
 by_cases hm:n=m
 ·subst hm
  by_cases hl:n < l.length
  ·rw [List.getElem?_set_self hl] at e
   cases e
   exact .inl ⟨rfl,rfl⟩
  ·rw [List.getElem?_eq_none (by rw [List.length_set]; omega)] at e
   cases e
 ·rw [List.getElem?_set_ne hm] at e
  exact .inr ⟨fun z=>hm z.symm,e⟩
theorem jTI (hr:HRel B W h H) (e:h[n]?=some (some c)) (em:W.m[n]?=some a) (ho:SzO o) (hc:CellR B W (upd H a o) a c'):HRel B W (h.set n (some c')) (upd H a o):=by
 have hF:=(hr.cell n c a e em).1
 refine ⟨fun b u e1=>?_,by rw [List.length_set]; exact hr.len,hr.nd,fun b hb=>?_,fun b u e1 nt=>?_,hr.fz,?_,fun m c1 b e1 e2=>?_⟩
 ·have ne:b≠a:=fun z=>by rw [z,hF] at e1; cases e1
  rw [upd_ne ne]; exact hr.agree _ _ e1
 ·by_cases hba:b=a
  ·rw [hba,upd_same]; exact fun z=>nomatch z
  ·rw [upd_ne hba]; exact hr.mt b hb
 ·by_cases hba:b=a
  ·rw [hba,upd_same] at e1; cases e1; exact ho
  ·rw [upd_ne hba] at e1; exact hr.hz b u e1 nt
 ·have q:=(hr.cell n c a e em).2
  cases c with
  | lst xs=>obtain ⟨vs,q,_⟩:=q; exact jLY hr.tb q jBG jUG
  | dic ks=>obtain ⟨L,q,_⟩:=q; exact jLY hr.tb q jYN jYP
  | dik ks=>obtain ⟨L,q,_⟩:=q; exact jLY hr.tb q yZG yZH
  | ins c fs=>obtain ⟨dx,vs,q,_⟩:=q; exact jLY hr.tb q yER yWY
 ·rcases yEJ e1 with ⟨rfl,rfl⟩ | ⟨hm,e3⟩
  ·rw [em] at e2; cases e2
   exact ⟨hF,hc⟩
  ·have ne:b≠a:=fun z=>by
    subst z
    have i1:=(List.getElem?_eq_some_iff.mp e2).1
    have i2:=(List.getElem?_eq_some_iff.mp em).1
    exact hm ((List.getElem?_inj i1 hr.nd).mp (e2.trans em.symm))
   obtain ⟨h1,h2⟩:=hr.cell m c1 b e3 e2
   exact ⟨h1,h2.off ne⟩
theorem jSY (hr:HRel B W h H) (e:h[n]?=some (some c)) (em:W.m[n]?=some a):Step W h H W (h.set n (some c')) (upd H a o):=by
 refine ⟨.refl W,by rw [List.length_set]; exact Nat.le_refl _,fun m c1 hm e1=>?_,fun b u e1 _ nl=>?_,fun b e1=>?_,fun b e1 _ _=>e1,by rw [List.length_set]; exact hr.len,fun m b hm e1=>?_⟩
 ·rcases yEJ e1 with ⟨rfl,rfl⟩ | ⟨_,e3⟩
  ·exact ⟨_,e⟩
  ·exact ⟨_,e3⟩
 ·have ne:b≠a:=fun z=>nl (z ▸ ⟨n,c,e,em⟩)
  rw [upd_ne ne]; exact e1
 ·by_cases hba:b=a
  ·rw [hba,upd_same] at e1; cases e1
  ·rw [upd_ne hba] at e1; exact e1
 ·have:=(List.getElem?_eq_some_iff.mp e1).1
  rw [hr.len] at this; omega
theorem jFL:W.Le ⟨W.F,W.m++[p]⟩:=⟨fun _ _ e=>e,List.prefix_append _ _⟩
theorem jLZ {α:Type} {l:List α} {x y:α} {n:Nat} (e:(l++[x])[n]?=some y):(n < l.length∧l[n]?=some y)∨(n=l.length∧y=x):=by
 by_cases hn:n < l.length
 ·rw [List.getElem?_append_left hn] at e
  exact .inl ⟨hn,e⟩
 ·rw [List.getElem?_append_right (by omega)] at e
  by_cases h0:n - l.length=0
  ·rw [h0] at e
   cases e
   exact .inr ⟨by omega,rfl⟩
  ·obtain ⟨m,hm⟩:=Nat.exists_eq_succ_of_ne_zero h0
   rw [hm] at e
   simp at e
theorem jTH (hr:HRel B W h H) (hF:W.F p=none) (hm:p∉W.m) (hp:H p≠none) (hc:CellR B W H p c):HRel B ⟨W.F,W.m++[p]⟩ (h++[some c]) H:=by
 refine ⟨hr.agree,by simp [hr.len],?_,fun b hb=>?_,hr.hz,hr.fz,hr.tb,fun m c1 b e1 e2=>?_⟩
 ·rw [List.nodup_append]
  exact ⟨hr.nd,by simp,fun x hx y hy e=>hm (by simp at hy; rw [← hy,← e]; exact hx)⟩
 ·rcases List.mem_append.mp hb with hb | hb
  ·exact hr.mt b hb
  ·simp at hb; rw [hb]; exact hp
 ·have e2:(W.m++[p])[m]?=some b:=e2
  rcases jLZ e1 with ⟨hn,e3⟩ | ⟨rfl,e3⟩
  ·rcases jLZ e2 with ⟨_,e4⟩ | ⟨e4,_⟩
   ·obtain ⟨h1,h2⟩:=hr.cell m c1 b e3 e4
    exact ⟨h1,h2.mono jFL fun _ z=>z⟩
   ·rw [hr.len] at e4; omega
  ·cases e3
   rcases jLZ e2 with ⟨hn,_⟩ | ⟨_,rfl⟩
   ·rw [hr.len] at hn; omega
   ·exact ⟨hF,hc.mono jFL fun _ z=>z⟩
theorem Step.snoc {H0:Hp} {W0:Wd} {h0:AH} (st:Step W0 h0 H0 W h H) (hp:H0 p=none):Step W0 h0 H0 ⟨W.F,W.m++[p]⟩ (h++[some c]) H:=by
 refine ⟨st.le.trans jFL,by rw [List.length_append]; exact Nat.le_trans st.hl (Nat.le_add_right _ _),fun m c1 hm e=>?_,st.keep,st.tr,st.fgrow,by simp [st.hm],fun m b hm e=>?_⟩
 ·rw [List.getElem?_append_left (Nat.lt_of_lt_of_le hm st.hl)] at e
  exact st.dead m c1 hm e
 ·rcases jLZ e with ⟨_,e4⟩ | ⟨_,rfl⟩
  ·exact st.mnew m b hm e4
  ·exact hp
theorem jWQ (r:Rel B N W s σ H) (l:Loose N W s σ p) (hp:H p≠none) (hc:CellR B W H p c):Rel B N ⟨W.F,W.m++[p]⟩ ⟨s.e,s.h++[some c]⟩ σ H:=by
 refine ⟨jTH r.hr l.F l.m hp hc,r.st.snoc l.e,r.len,fun i x e=>?_,r.dis,r.pin.trans jFL⟩
 obtain ⟨v,e1,sl⟩:=r.env i x e
 refine ⟨v,e1,?_⟩
 cases x with
 | own xs =>
  obtain ⟨b,vs,rfl,h1,h2,h3,h4,h5⟩:=sl
  refine ⟨b,vs,rfl,h1,h2.mono jFL,h3,fun z=>?_,h5⟩
  rcases List.mem_append.mp z with z | z
  ·exact h4 z
  ·simp at z
   subst z
   exact l.o i _ e rfl e1
 | don ks=>exact DonR.mono jFL sl
 | _=>exact Rep.mono jFL sl
end
def yIG (mn:S→R S (List PV)):ME:=fun s=>(mn s).bind fun xs s1=>.ok (.cel s1.h.length) ⟨s1.e,s1.h++[some (.lst xs)]⟩
section
variable {X:Cx} {B:Bs} {N:Ent} {WX:L2.WX} {W W':Wd} {s s':S} {σ:L2.St} {H H':Hp} {e o i:Expr} {es:List Expr} {mn:S→R S (List PV)} {ma:MA} {m mo mi:ME} {pos:Pos}
theorem yNB (h:SimN X B N WX e mn):SimE X B N WX e (yIG mn):=h.imp fun σ H Q ⟨W,s,r,h⟩=>⟨W,s,r,R.post_mono (R.post_bind h) (fun xs s1 q W1 H1 r1 st p vs hp l hH rv=>by
 have ne:H1 p≠none:=by rw [hH]; exact fun z=>nomatch z
 have r2:=jWQ (c:=.lst xs) r1 l ne ⟨vs,hH,rv⟩
 exact q _ H1 r2 ⟨st.st.snoc hp,st.eo⟩ _ (Rep.cel (by show (W1.m++[p])[s1.h.length]?=some p; rw [← r1.hr.len]; simp)).hand) fun x s1 q=>q⟩
def jIW (ma:MA):S→R S (List PV):=fun s=>(ma s).bind fun vs s1=>if yW vs=true∧vs.length≤sizeLine then .ok vs s1 else .bad
theorem jAL (ha:SimA X B N WX es ma):SimN X B N WX (.List es pos) (jIW ma) :=
 (pe_lst ha).imp fun σ H Q ⟨W,s,r,h⟩=>⟨W,s,r,R.post_mono (R.post_bind h) (fun vs s1 q W1 H1 r1 st vs' rv=>by
  split at q
  ·rename_i hc
   have rv':=rv.reps hc.1
   have hz:vs'.length≤sizeLine:=by rw [← rv'.length]; exact hc.2
   refine ⟨hz,fun p hp=>?_⟩
   have l:=r1.loose hp
   have hp0:H p=none:=st.st.tr _ hp
   exact q W1 _ (jEO r1 l (o:=.lst vs') hz (.inl hp)) (st.put hp0 l.m) p vs' hp0 l upd_same rv'
  ·exact q.elim) fun x s1 q=>q⟩
end
end Lp
set_option maxHeartbeats 4000000
namespace Lp
open PySem PySem.Spec PyProof.Rows L2
section
variable {B:Bs} {N:Ent} {W W':Wd} {s s':S} {σ:L2.St} {H H':Hp} {i:Nat} {xs:List PV}
theorem yCK (r:Rel B N W s σ H) (e:s.e[i]?=some (some (.own xs))):∃ p vs,σ[i]?=some (some (.ref p))∧H p=some (.lst vs)∧Reps B W xs vs∧Rel B N W ⟨s.e.set i none,s.h⟩ σ H∧Loose N W ⟨s.e.set i none,s.h⟩ σ p:=by
 obtain ⟨v,e1,p,vs,rfl,hH,rv,hF,hm,h0⟩:=r.env i _ e
 have g:∀ (j:Nat) (y:PV),(s.e.set i none)[j]?=some (some y)→j≠i∧s.e[j]?=some (some y):=fun j y f=>by
  by_cases hj:i=j
  ·subst hj
   by_cases hl:i < s.e.length
   ·rw [List.getElem?_set_self hl] at f; cases f
   ·rw [List.getElem?_eq_none (by rw [List.length_set]; omega)] at f; cases f
  ·rw [List.getElem?_set_ne hj] at f
   exact ⟨fun z=>hj z.symm,f⟩
 refine ⟨p,vs,e1,hH,rv,⟨r.hr,r.st,by rw [r.len]; simp,fun j y ej=>r.env j y (g j y ej).2,fun j k y z a hjk f1 f2 o1 o2 s1 s2=>r.dis j k y z a hjk (g j y f1).2 (g k z f2).2 o1 o2 s1 s2,r.pin⟩,hF,hm,fun j y f o z=>?_,h0⟩
 obtain ⟨ne,f'⟩:=g j y f
 exact r.dis i j _ y p (Ne.symm ne) e f' rfl o e1 z
theorem jZF (r:Rel B N W s σ H) (e:s.e[i]?=some (some (.own xs))):∃ p vs,σ[i]?=some (some (.ref p))∧H p=some (.lst vs)∧Reps B W xs vs ∧
  ∀ ys us,Reps B W ys us→us.length≤sizeLine→Rel B N W ⟨s.e.set i (some (.own ys)),s.h⟩ σ (upd H p (.lst us)):=by
 obtain ⟨p,vs,e1,hH,rv,rc,lc⟩:=yCK r e
 refine ⟨p,vs,e1,hH,rv,fun ys us ru hz=>?_⟩
 have r2:=jEO rc lc (o:=.lst us) hz (yEE hH)
 have:=jPQ (i:=i) (p:=p) (xs:=ys) (vs:=us) (σ':=σ) r2 rfl (fun _ _=>rfl) (.inl e1) ⟨lc.F,lc.m,fun j x _ f o=>lc.o j x f o,lc.e⟩ upd_same ru
 simpa using this
end
def yBM (xs:List PV) (k:PV) (v:PV):Option (List PV):=match k with
 | .int j=>if isOwn v=true then none else (ixN xs.length j).map fun q=>xs.set q v
 | _=>none
def jLW (h:AH) (n:Nat):Option (List PV):=match h[n]? with
 | some (some (.lst xs))=>some xs
 | _=>none
def yBQ:PV→Option Nat
 | .cel n=>some n
 | _=>none
def jFV (mv mo mi:ME):MS:=fun s=>(mv s).bind fun v s1=>(mo s1).bind fun o s2=>(mi s2).bind fun k s3=>match yBQ o with
 | some n=>match jLW s3.h n with
  | some xs=>match yBM xs k v with
   | some ys=>.ok .nx ⟨s3.e,s3.h.set n (some (.lst ys))⟩
   | none=>.bad
  | none=>.bad
 | none=>.bad
def ownAt (e:List (Option PV)) (i:Nat):Option (List PV):=match e[i]? with
 | some (some (.own xs))=>some xs
 | _=>none
def yDG (xs:List PV) (v:PV):Option (List PV):=if isOwn v=true∨sizeLine≤xs.length then none else some (xs++[v])
def kZ (i:Nat) (me:ME):MS:=fun s=>match ownAt s.e i with
 | some _=>(me s).bind fun v s1=>match ownAt s1.e i with
  | some xs=>match yDG xs v with
   | some ys=>.ok .nx ⟨s1.e.set i (some (.own ys)),s1.h⟩
   | none=>.bad
  | none=>.bad
 | none=>.bad
theorem jMO {h:AH} {n:Nat} {xs:List PV} (e:jLW h n=some xs):h[n]?=some (some (.lst xs)):=by
 unfold jLW at e
 split at e
 ·rename_i ys q; cases e; exact q
 ·cases e
theorem yBG {x:PV} {n:Nat} (e:yBQ x=some n):x=.cel n:=by
 unfold yBQ at e
 split at e
 ·cases e; rfl
 ·cases e
theorem jWV {e:List (Option PV)} {i:Nat} {xs:List PV} (h:ownAt e i=some xs):e[i]?=some (some (.own xs)):=by
 unfold ownAt at h
 split at h
 ·rename_i ys q; cases h; exact q
 ·cases h
theorem yNC {xs ys:List PV} {k v:PV} (e:yBM xs k v=some ys):∃ j q,k=.int j∧isOwn v=false∧ixN xs.length j=some q∧ys=xs.set q v:=by
 unfold yBM at e
 split at e
 ·rename_i j
  split at e
  ·cases e
  ·rename_i o
   cases q:ixN xs.length j with
   | none=>rw [q] at e; cases e
   | some m=>rw [q] at e; cases e; exact ⟨j,m,rfl,by simpa using o,q,rfl⟩
 ·cases e
theorem yPF {xs ys:List PV} {v:PV} (e:yDG xs v=some ys):isOwn v=false∧xs.length < sizeLine∧ys=xs++[v]:=by
 unfold yDG at e
 split at e
 ·cases e
 ·rename_i o
  cases e
  simp only [not_or] at o
  exact ⟨by simpa using o.1,by omega,rfl⟩
section
variable {X:Cx} {B:Bs} {N:Ent} {WX:L2.WX} {W W':Wd} {s s':S} {σ:L2.St} {H H':Hp} {e o ie:Expr} {mv mo mi me:ME} {pos tpos apos cpos npos:Pos} {x:Str} {i:Nat}
theorem jMD {n:Nat} {v:V} (r:RepT B W H (.cel n) v):∃ a,v=.ref a∧W.m[n]?=some a:=by
 cases (show Rep B W (.cel n) v from r) with
 | cel h=>exact ⟨_,rfl,h⟩
theorem yHQ {n:Nat} {a:Addr} {xs ys:List PV} {us:List V} (r:Rel B N W s σ H) (e:jLW s.h n=some xs) (em:W.m[n]?=some a) (ru:Reps B W ys us) (hz:us.length≤sizeLine):Rel B N W ⟨s.e,s.h.set n (some (.lst ys))⟩ σ (upd H a (.lst us))∧StepE W s H W ⟨s.e,s.h.set n (some (.lst ys))⟩ (upd H a (.lst us)):=by
 have hr2:=jTI (c':=.lst ys) r.hr (jMO e) em (o:=.lst us) hz ⟨us,upd_same,ru⟩
 have st:=jSY (c':=.lst ys) (o:=.lst us) r.hr (jMO e) em
 exact ⟨jEV r hr2 st,jEU st⟩
theorem jFS (hv:SimE X B N WX e mv) (ho:SimE X B N WX o mo) (hi:SimE X B N WX ie mi)
  (ha:∀ v,assign (.Subscript o ie tpos) X.env v=(do
   let ov ← holding [v] (eval o X.env)
   let iv ← holding [v,ov] (eval ie X.env)
   standAt tpos
   holding [v,ov,iv] (setItem ov iv v)
   release [v,ov,iv] []))
  (hs:swapsWithSole [.Subscript o ie tpos] e pos.line X.env=pure false) (hw:swappedStores [.Subscript o ie tpos] e X.env=pure none) (h1:(assignEach [.Subscript o ie tpos] X.env).map (·.2)=[assign (.Subscript o ie tpos) X.env]) :
  SimS X B N WX (.Assign [.Subscript o ie tpos] e pos) (jFV mv mo mi) :=
 (ps_asg hv (pg_sub ho hi set_list ha) hs hw h1).imp fun D σ H ⟨W,s,r,h⟩=>⟨W,s,r,h.bindE.mono fun v W1 s1 H1 r1 _ q v' rv=>⟨W1,s1,r1,q.bindE.mono fun ov W2 s2 H2 r2 st2 q o' ro=>⟨W2,s2,r2,q.bindE.mono fun k W3 s3 H3 r3 st3 q3 k' rk=>by
  split at q3
  ·rename_i n en
   split at q3
   ·rename_i xs ex
    split at q3
    ·rename_i ys ey
     obtain ⟨j,m,rfl,ov1,e3,rfl⟩:=yNC ey
     obtain rfl:=yBG en
     obtain ⟨a,rfl,em⟩:=jMD (ro.on r2.slen st3.st)
     obtain ⟨_,vs,hH,rvs⟩:=r3.hr.cell n _ a (jMO ex) em
     have rv3:=((rv.on r1.slen st2.st).on r2.slen st3.st).rep ov1
     have hz:(vs.set m v').length≤sizeLine:=by rw [List.length_set]; exact r3.hr.hz a _ hH jBG
     refine ⟨a,vs,j,m,rfl,jAJ rk,hH,by rw [← rvs.length]; exact e3,?_⟩
     exact q3 W3 σ _ (yHQ r3 ex em (rvs.set rv3 m) hz).1
    ·exact q3.elim
   ·exact q3.elim
  ·exact q3.elim⟩⟩⟩
theorem yV (hN:X.N[i]?=some x) (hx:Vis X.env.scope x) (hd:(x == ("__debug__" : Str))=false) (hcd:(x == ("__classdict__" : Str))=false) (he:SimE X B N WX e me) (hbase:attributeBase (.Name x npos) "append" X.env (eval (.Name x npos) X.env)=eval (.Name x npos) X.env)
  (hfew:((backTo cpos (starEach [e] X.env)).all (fun x=>!x.1)&&(backToKw cpos (keywordEach [] X.env)).all (fun x=>x.1.isSome)&&decide (([e]:List Expr).length+([]:List Keyword).length+(if ([]:List Keyword).isEmpty then 0 else 1) < 30))=true)
  (hline:(apos.endLine == cpos.line)=true) (hs:starEach [e] X.env=(false,eval e X.env) :: starEach [] X.env) (hplain:(backTo cpos (starEach [] X.env)).any (·.1)=false)
  (hsw:swapsWith (.Call (.Attribute (.Name x npos) "append" apos) [e] [] cpos) none pos.line X.env=pure false) :
  SimS X B N WX (.Expr (.Call (.Attribute (.Name x npos) "append" apos) [e] [] cpos) pos) (kZ i me) :=
 (ps_expr (pe_bm PySem.F.plainAttrs_list PySem.F.slot_list_append PySem.F.type_list_append mt_append (pe_var hN hx hd hcd) (pa_cons he pa_nil hs) hbase hfew hline hs hplain) hsw).imp fun D σ H ⟨W,s,r,h⟩=>by
  unfold kZ at h
  split at h
  ·rename_i xs0 e0
   obtain ⟨ov,eo,p0,vs0,rfl,hH0,_⟩:=r.env i _ (jWV e0)
   refine ⟨_,eo,.inl ⟨rfl,vs0,.inl (.inl hH0)⟩,W,s,r,h.bindE.mono fun v W2 s2 H2 r2 st2 q v' rv=>?_⟩
   split at q
   ·rename_i xs ex
    split at q
    ·rename_i ys ey
     obtain ⟨ov1,hz,rfl⟩:=yPF ey
     obtain ⟨p,vs,e1,hH,rvs,fin⟩:=jZF r2 (jWV ex)
     rw [e1] at eo
     cases eo
     have hz':vs.length < sizeLine:=by rw [← rvs.length]; exact hz
     exact ⟨_,vs,v',rfl,rfl,hH,hz',q W2 σ _ (fin _ _ (rvs.append (.one (rv.rep ov1))) (by rw [List.length_append]; exact hz'))⟩
    ·exact q.elim
   ·exact q.elim
  ·exact h.elim
end
def MethS (X:Cx) (B:Bs) (f:AH→Str→List PV→Option PV) (r:V→List V→Hp→VK→Prop):Prop:=∀ (W:Wd) (h:AH) (H:Hp) (x:Str) (xs:List PV) (z:PV) (xs':List V) (Q:VK),HRel B W h H→SOk x→RepTs B W H xs xs'→f h x xs=some z →
 (∀ W' H' z',Grow W H W' H'→RepT B W' H' z z'→Q z' H')→r (.str x) xs' H Q
def strN:PV→Option Str
 | .str x=>some x
 | _=>none
def eMS (f:AH→Str→List PV→Option PV) (mo:ME) (ma:MA):ME:=fun s=>(mo s).bind fun o s1=>match strN o with
 | some x=>(ma s1).bind fun vs s2=>match f s2.h x vs with
  | some z=>.ok z s2
  | none=>.bad
 | none=>.bad
section
variable {X:Cx} {B:Bs} {N:Ent} {WX:L2.WX} {W W':Wd} {s s':S} {σ:L2.St} {H H':Hp} {o e:Expr} {es:List Expr} {mo:ME} {ma:MA} {name:Str} {apos cpos:Pos} {id:String} {r:V→List V→Hp→VK→Prop} {f:AH→Str→List PV→Option PV}
theorem yAI {x:PV} {y:Str} (e:strN x=some y):x=.str y:=by
 unfold strN at e
 split at e
 ·cases e; rfl
 ·cases e
theorem yEI (slot:Slot "str" name id) (hty:typeOf (.builtin id)=pure (.type "method_descriptor")) (hm:MtR X id r) (hf:MethS X B f r) (ho:SimE X B N WX o mo) (ha:SimA X B N WX (e :: es) ma) (hbase:attributeBase o name X.env (eval o X.env)=eval o X.env)
  (hfew:((backTo cpos (starEach (e :: es) X.env)).all (fun x=>!x.1)&&(backToKw cpos (keywordEach [] X.env)).all (fun x=>x.1.isSome)
   && decide ((e :: es).length+([]:List Keyword).length+(if ([]:List Keyword).isEmpty then 0 else 1) < 30))=true)
  (hline:(apos.endLine == cpos.line)=true) (hs:starEach (e :: es) X.env=(false,eval e X.env) :: starEach es X.env) (hplain:(backTo cpos (starEach es X.env)).any (·.1)=false) :
  SimE X B N WX (.Call (.Attribute o name apos) (e :: es) [] cpos) (eMS f mo ma) :=
 (pe_bm PySem.F.plainAttrs_str slot hty hm ho ha hbase hfew hline hs hplain).imp fun σ H Q ⟨W,s,r0,h⟩=>⟨W,s,r0,(h.bind r0.slen).mono fun o1 W1 s1 H1 r1 _ q o' ro=>by
  split at q
  ·rename_i x ex
   obtain rfl:=yAI ex
   obtain ⟨rfl,hx⟩:=jDT ro
   refine ⟨rfl,W1,s1,r1,(q.bind r1.slen).mono fun vs W2 s2 H2 r2 st2 q vs' rvs=>?_⟩
   split at q
   ·rename_i z ez
    exact hf W2 s2.h H2 x vs z vs' Q r2.hr hx rvs ez fun W' H' z' g rz=>q W' H' (g.rel r2) (g.stepE r2.hr) z' rz
   ·exact q.elim
  ·exact q.elim⟩
end
def strsOf (xs:List PV):Option (List Str):=xs.mapM strN
def jON:AH→Str→List PV→Option PV:=fun h x xs=>match xs with
 | [y]=>(asS h y).bind fun zs=>(strsOf zs).bind fun ys=>if (ys.map (·.length)).sum+ys.length * x.length≤16777216∧PyData.strOk (Txt.join x ys)=true∧(Txt.join x ys).length≤sizeLine then some (.str (Txt.join x ys)) else none
 | _=>none
theorem jSX {B:Bs} {W:Wd}:∀ {ys:List PV} {vs:List V} {bs:List Str},Reps B W ys vs→strsOf ys=some bs→vs=bs.map V.str
 | _,_,bs,.nil,e=>by
  simp [strsOf] at e; subst e; rfl
 | x :: xs,_,bs,.cons (v:=v) r t,e=>by
  unfold strsOf at e
  rw [List.mapM_cons] at e
  cases q:strN x with
  | none=>rw [q] at e; cases e
  | some y =>
   rw [q] at e
   cases q2:xs.mapM strN with
   | none=>rw [q2] at e; cases e
   | some zs =>
    rw [q2] at e
    cases e
    obtain rfl:=yAI q
    rw [jSX t (show strsOf xs=some zs from q2)]
    cases r
    rfl
theorem jWJ {X:Cx} {B:Bs} (hK:X.K=B.K):MethS X B jON (fun x xs H Q=>∃ a p,∃ ys:List Str,x=.str a∧xs=[.ref p]∧(SqL X.K H p (ys.map V.str)∨SqT X.K H p (ys.map V.str))∧(ys.map (·.length)).sum+ys.length * a.length≤16777216∧Q (.str (Txt.join a ys)) H):=by
 intro W h H x xs z xs' Q hr hx rxs e q
 unfold jON at e
 split at e
 ·rename_i y
  obtain ⟨v,rfl,rv⟩:=repts1 rxs
  cases q1:asS h y with
  | none=>rw [q1] at e; cases e
  | some zs =>
   rw [q1] at e
   cases q2:strsOf zs with
   | none =>
    have e:(strsOf zs).bind _=some z:=e
    rw [q2] at e; cases e
   | some ys =>
    have e:(strsOf zs).bind _=some z:=e
    rw [q2] at e
    have e:(if _ then _ else _)=some z:=e
    split at e
    ·rename_i hz
     cases e
     obtain ⟨a,vs,rfl,hs,rvs⟩:=jQK hK hr rv q1
     have:=jSX rvs q2
     subst this
     exact ⟨x,a,ys,rfl,rfl,hs.symm,hz.1,q W H _ (.refl W H) (Rep.str _ ⟨hz.2.1,hz.2.2⟩).hand⟩
    ·cases e
 ·cases e
def BT.of (n:String):Option BT:=if n = "bool" then some .bl else if n = "int" then some .int else if n = "str" then some .str else if n = "tuple" then some .tup else if n = "list" then some .lst else if n = "dict" then some .dic else none
@[simp] theorem BT.of_bool:BT.of "bool" = some .bl:=rfl
@[simp] theorem BT.of_int:BT.of "int" = some .int:=rfl
@[simp] theorem BT.of_str:BT.of "str" = some .str:=rfl
@[simp] theorem BT.of_tuple:BT.of "tuple" = some .tup:=rfl
@[simp] theorem BT.of_list:BT.of "list" = some .lst:=rfl
@[simp] theorem BT.of_dict:BT.of "dict" = some .dic:=rfl
def subT:BT→BT→Bool
 | .bl,.int=>true
 | .non,.non=>true
 | .bl,.bl=>true
 | .int,.int=>true
 | .str,.str=>true
 | .tup,.tup=>true
 | .lst,.lst=>true
 | .dic,.dic=>true
 | _,_=>false
theorem BT.of_nm {n:String} {t:BT} (e:BT.of n=some t):n=t.nm:=by
 unfold BT.of at e
 repeat (split at e; · (rename_i h; cases e; exact h))
 cases e
theorem yBC:∀ {a b:BT},b≠.non→kitB a.nm b.nm=some (subT a b):=fun {a b} h=>by
 cases b <;> (first | exact absurd rfl h | skip) <;> cases a <;> decide +kernel
theorem BT.of_ne {n:String} {t:BT} (e:BT.of n=some t):t≠.non:=by
 unfold BT.of at e
 repeat (split at e; · (cases e; exact fun z=>nomatch z))
 cases e
def tyN (h:AH):PV→Option BT
 | .non=>some .non
 | .bl _=>some .bl
 | .int _=>some .int
 | .str _=>some .str
 | .tup _=>some .tup
 | x=>(asL h x).map fun _=>.lst
def jLS:List PV→Option (List BT)
 | []=>some []
 | .ty n :: xs=>(BT.of n).bind fun t=>(jLS xs).map fun ts=>t :: ts
 | _=>none
def wO:AH→List PV→Option PV:=fun h xs=>match xs with
 | [x,.ty n]=>(tyN h x).bind fun t=>(BT.of n).map fun u=>.bl (subT t u)
 | [x,.tup cs]=>(tyN h x).bind fun t=>(jLS cs).map fun us=>.bl (us.any (subT t))
 | _=>none
section
variable {X:Cx} {B:Bs} {W:Wd} {h:AH} {H:Hp}
theorem jTW (hK:X.K=B.K) (hr:HRel B W h H) {x:PV} {x':V} {t:BT} (rx:RepT B W H x x') (e:tyN h x=some t):TyX X.K H x' (.type t.nm):=by
 have fin:(asL h x).map (fun _=>BT.lst)=some t→TyX X.K H x' (.type t.nm):=fun e=>by
  cases q:asL h x with
  | none=>rw [q] at e; cases e
  | some xs =>
   rw [q] at e; cases e
   obtain ⟨a,vs,rfl,h1,_⟩:=jLA hr rx q
   rcases h1 with (h1 | ⟨o,h1⟩) | ⟨o,its,n,h1,h2,_⟩
   ·exact .base (.lst h1)
   ·exact .base (.frz h1)
   ·exact .kList (hK ▸ h1) h2
 cases x with
 | non=>cases e; rw [yAT rx]; exact .base .non
 | bl b=>cases e; rw [jYG rx]; exact .base (.bl b)
 | int i=>cases e; rw [jAJ rx]; exact .base (.int i)
 | str y=>cases e; rw [(jDT rx).1]; exact .base (.str y)
 | tup xs =>
  cases e
  cases (show Rep B W (.tup xs) x' from rx) with
  | tup h1 r =>
   rcases h1 with h1 | ⟨o,its,n,h1,h2,_⟩
   ·exact .base (.tup (hr.agree _ _ h1))
   ·exact .kTuple (hK ▸ h1) h2
 | _=>exact fin e
theorem jWE:∀ {cs:List PV} {vs:List V} {us:List BT},Reps B W cs vs→jLS cs=some us→(∀ u∈us,u≠.non)∧Paired ClsV vs (us.map fun u=>.type u.nm)
 | _,_,us,.nil,e=>by cases e; exact ⟨fun _ h=>(by cases h),.nil⟩
 | .ty n :: cs,_,us,.cons r t,e=>by
  rw [jLS] at e
  cases q:BT.of n with
  | none=>rw [q] at e; cases e
  | some b =>
   rw [q] at e
   cases q2:jLS cs with
   | none=>have e:(jLS cs).map _=some us:=e; rw [q2] at e; cases e
   | some bs =>
    have e:(jLS cs).map _=some us:=e
    rw [q2] at e
    cases e
    obtain ⟨h1,h2⟩:=jWE t q2
    cases r
    refine ⟨fun u hu=>?_,?_⟩
    ·rcases List.mem_cons.mp hu with rfl | hu
     ·exact BT.of_ne q
     ·exact h1 u hu
    ·rw [BT.of_nm q]
     exact .cons (.ty _) h2
 | .non :: _,_,_,.cons _ _,e=>by cases e
 | .bl _ :: _,_,_,.cons _ _,e=>by cases e
 | .int _ :: _,_,_,.cons _ _,e=>by cases e
 | .str _ :: _,_,_,.cons _ _,e=>by cases e
 | .tup _ :: _,_,_,.cons _ _,e=>by cases e
 | .lst _ :: _,_,_,.cons _ _,e=>by cases e
 | .scr _ :: _,_,_,.cons _ _,e=>by cases e
 | .own _ :: _,_,_,.cons _ _,e=>by cases e
 | .dic _ :: _,_,_,.cons _ _,e=>by cases e
 | .don _ :: _,_,_,.cons _ _,e=>by cases e
 | .ins _ _ :: _,_,_,.cons _ _,e=>by cases e
 | .cel _ :: _,_,_,.cons _ _,e=>by cases e
 | .cls _ :: _,_,_,.cons _ _,e=>by cases e
theorem jNV {K:PySem.W.Frag} {t:BT}:∀ {us:List BT},(∀ u∈us,u≠.non)→PySem.W.kitAny K (.type t.nm) (us.map fun u=>.type u.nm)=some (us.any (subT t))
 | [],_=>rfl
 | u :: us,h=>by
  have h1:PySem.W.kitOne K (.type t.nm) (.type u.nm)=some (subT t u):=kit_ty (yBC (h u (by simp)))
  have h2:=jNV (K:=K) (t:=t) (us:=us) fun v hv=>h v (List.mem_cons_of_mem _ hv)
  rw [List.map_cons,List.any_cons]
  exact kitAny_cons h1 (fun e=>by rw [e,Bool.false_or]; exact h2) (fun e=>by rw [e,Bool.true_or])
theorem yIK {us:List BT}:∀ {vs:List V} {ws:List Value},Paired ClsV vs (us.map fun u=>.type u.nm)→Vals vs ws→ws=us.map fun u=>.type u.nm:=fun a b=>ClsV.all a b
abbrev jZW (K:PySem.W.Frag):List V→Hp→VK→Prop:=fun xs H Q=>rIsi K xs H Q∨rIsiT K xs H Q∨rIsiK K xs H Q
theorem jTO:CallR X (.builtin "isinstance") (jZW X.K):=fun pins s σ H xs us Q I r h=>h.elim (call_isi pins s σ H xs us Q I r) fun h=>h.elim (call_isiT pins s σ H xs us Q I r) (call_isiK pins s σ H xs us Q I r)
theorem yAQ (hK:X.K=B.K):CallSem X B wO (jZW X.K):=by
 intro W h H xs z xs' Q hr rxs e q
 unfold wO at e
 split at e
 ·rename_i x n
  obtain ⟨v,w,rfl,rv,rw'⟩:=repts2 rxs
  cases q1:tyN h x with
  | none=>rw [q1] at e; cases e
  | some t =>
   rw [q1] at e
   have e:(BT.of n).map _=some z:=e
   cases q2:BT.of n with
   | none=>rw [q2] at e; cases e
   | some u =>
    rw [q2] at e
    cases e
    cases (show Rep B W (.ty n) w from rw')
    refine .inl ⟨v,.ty n,_,.type n,subT t u,rfl,.ty n,jTW hK hr rv q1,?_,q W H _ (.refl W H) (Rep.bl _).hand⟩
    rw [BT.of_nm q2]
    exact kit_ty (yBC (BT.of_ne q2))
 ·rename_i x cs
  obtain ⟨v,w,rfl,rv,rw'⟩:=repts2 rxs
  cases q1:tyN h x with
  | none=>rw [q1] at e; cases e
  | some t =>
   rw [q1] at e
   have e:(jLS cs).map _=some z:=e
   cases q2:jLS cs with
   | none=>rw [q2] at e; cases e
   | some us =>
    rw [q2] at e
    cases e
    cases (show Rep B W (.tup cs) w from rw') with
    | tup h1 r =>
     obtain ⟨k1,k2⟩:=jWE r q2
     rcases h1 with h1 | ⟨o,its,m,h1,h2,h3,h4,h5⟩
     ·exact .inr (.inl ⟨v,_,_,_,us.map fun u=>.type u.nm,_,rfl,hr.agree _ _ h1,k2,jTW hK hr rv q1,jNV k1,q W H _ (.refl W H) (Rep.bl _).hand⟩)
     ·have e5:=yIK k2 h5
      obtain ⟨oc,od,dt,sl⟩:=o
      simp only at h2 h3
      subst h2 h3
      refine .inr (.inr ⟨v,_,od,us.map fun u=>.type u.nm,m,sl,_,_,rfl,?_,jTW hK hr rv q1,jNV k1,q W H _ (.refl W H) (Rep.bl _).hand⟩)
      rw [hK,h1,← e5]
 ·cases e
theorem kJ {N:Ent} {WX:L2.WX} {x:Str} {T:String} {pos:Pos} (hg:Gl X x) (hm:X.mg x=none) (hv:bootBuiltins x=some (.type T)) (hn:x ≠ "__name__") (hdb:(x == ("__debug__" : Str))=false):SimE X B N WX (.Name x pos) (eC (.ty T)) :=
 jOK (pe_bltn (v:=.ty T) hg hm hv rfl hn hdb) fun _=>.ty T
end
end Lp
set_option maxHeartbeats 4000000
namespace Lp
open PySem PySem.Spec PyProof.Rows L2
def intsOf (xs:List PV):Option (List Int):=xs.mapM fun x=>match x with
 | .int i=>some i
 | _=>none
theorem jNW {B:Bs} {W:Wd}:∀ {ys:List PV} {vs:List V} {bs:List Int},Reps B W ys vs→intsOf ys=some bs→vs=bs.map V.int
 | _,_,bs,.nil,e=>by
  simp [intsOf] at e; subst e; rfl
 | x :: xs,_,bs,.cons (v:=v) r t,e=>by
  unfold intsOf at e
  rw [List.mapM_cons] at e
  cases x with
  | int i =>
   cases q2:xs.mapM (fun x=>match x with | PV.int i=>some i | _=>none) with
   | none=>rw [q2] at e; cases e
   | some zs =>
    rw [q2] at e
    cases e
    rw [jNW t (show intsOf xs=some zs from q2)]
    cases r
    rfl
  | _=>cases e
def yDT (g:List Int→List Int→Bool):AH→PV→PV→Option PV:=fun _ x y=>match x,y with
 | .tup xs,.tup ys=>match intsOf xs,intsOf ys with
  | some ns,some ms=>some (.bl (g ns ms))
  | _,_=>none
 | _,_=>none
def yDU:AH→PV→PV→Option PV:=fun _ x y=>match x,y with
 | .tup xs,.int k=>if xs≠[]∧2≤k∧k≤1000∧xs.length≤1000 then some (.tup (List.replicate k.toNat xs).flatten) else none
 | _,_=>none
section
variable {X:Cx} {B:Bs}
theorem yCD (hK:X.K=B.K):OpSem X B (yDT HT.lexLt) (rLtT X.K):=by
 intro W h H x y z x' y' Q hr rx ry e q
 unfold yDT at e
 split at e
 ·rename_i xs ys
  split at e
  ·rename_i ns ms e1 e2
   cases e
   obtain ⟨a,vs,rfl,h1,r1⟩:=jFX hK hr (show Rep B W (.tup xs) x' from rx)
   obtain ⟨b,us,rfl,h2,r2⟩:=jFX hK hr (show Rep B W (.tup ys) y' from ry)
   rw [jNW r1 e1] at h1
   rw [jNW r2 e2] at h2
   exact ⟨a,b,ns,ms,rfl,rfl,h1,h2,q W H _ (.refl W H) (Rep.bl _).hand⟩
  ·cases e
 ·cases e
theorem yFS (hK:X.K=B.K):OpSem X B yDU (rRepT X.K):=by
 intro W h H x y z x' y' Q hr rx ry e q
 unfold yDU at e
 split at e
 ·rename_i xs k
  split at e
  ·rename_i hz
   cases e
   obtain ⟨a,vs,rfl,h1,r1⟩:=jFX hK hr (show Rep B W (.tup xs) x' from rx)
   have hl:=r1.length
   have l2:vs.length≤1000:=by omega
   refine ⟨a,k,vs,rfl,jAJ ry,h1,fun z=>hz.1 (by rw [z] at hl; exact List.length_eq_zero_iff.mp hl),hz.2.1,hz.2.2.1,l2,fun p hp=>?_⟩
   refine q _ _ _ (.new hp ?_) (jDL (hr.fnone hp) (r1.rep k.toNat)).hand
   show (List.replicate k.toNat vs).flatten.length≤sizeLine
   rw [jJE]
   have h3:k.toNat≤1000:=by have:=hz.2.2.1; omega
   have h4:vs.length * k.toNat≤1000 * 1000:=Nat.mul_le_mul l2 h3
   have h5:1000 * 1000≤sizeLine:=by decide
   omega
  ·cases e
 ·cases e
def uB:AH→PV→PV→Option PV:=fun h x y=>match x,y with
 | .int i,.int j=>some (.int (i+j))
 | .str _,_=>yDX h x y
 | .tup _,_=>yDW h x y
 | _,_=>jIJ h x y
def rAdd (K:PySem.W.Frag):R2:=fun x y H Q=>rI0 (fun i j=>.int (i+j)) x y H Q∨(∃ i j,x=.str i∧y=.str j∧i.length+j.length≤sizeLine∧Q (.str (i++j)) H)∨rCatA K x y H Q∨rCat x y H Q
theorem yZF:OpR X (binaryOp .Add) (rAdd X.K):=op_add.or (op_add_str.or (op_catA.or op_cat))
theorem yVL (hK:X.K=B.K):OpSem X B uB (rAdd X.K):=by
 intro W h H x y z x' y' Q hr rx ry e q
 unfold uB at e
 split at e
 ·exact .inl (yVJ (X:=X) (f:=fun i j=>i+j) W h H _ _ z x' y' Q hr rx ry e q)
 ·exact .inr (.inl (yFY (X:=X) (B:=B) W h H _ _ z x' y' Q hr rx ry e q))
 ·exact .inr (.inr (.inl (yFX hK W h H _ _ z x' y' Q hr rx ry e q)))
 ·exact .inr (.inr (.inr (yFZ (X:=X) W h H _ _ z x' y' Q hr rx ry e q)))
def jBZ:AH→PV→PV→Option PV:=fun h x y=>match x,y with
 | .int _,_=>fI jXZ h x y
 | .tup _,_=>yDU h x y
 | _,_=>yDV h x y
def yYA (K:PySem.W.Frag):R2:=fun x y H Q=>rI CMul (fun i j=>.int (i * j)) x y H Q∨rRepT K x y H Q∨rRep x y H Q
theorem yZE:OpR X (binaryOp .Mult) (yYA X.K):=op_mul.or (op_repT.or op_rep)
theorem yVK (hK:X.K=B.K):OpSem X B jBZ (yYA X.K):=by
 intro W h H x y z x' y' Q hr rx ry e q
 unfold jBZ at e
 split at e
 ·exact .inl (jZV (X:=X) yOJ W h H _ _ z x' y' Q hr rx ry e q)
 ·exact .inr (.inl (yFS hK W h H _ _ z x' y' Q hr rx ry e q))
 ·exact .inr (.inr (yFT (X:=X) W h H _ _ z x' y' Q hr rx ry e q))
def jVP:AH→PV→PV→Option PV:=fI jWA
def jIX:AH→PV→PV→Option PV:=fI yDD
def yIC:AH→PV→PV→Option PV:=fI yQH
def fLt:AH→PV→PV→Option PV:=fun h x y=>match x,y with
 | .int i,.int j=>some (.bl (decide (i < j)))
 | _,_=>yDT HT.lexLt h x y
def rLt (K:PySem.W.Frag):R2:=fun x y H Q=>rI0 (fun i j=>.bl (decide (i < j))) x y H Q∨rLtT K x y H Q
theorem yZX (hu:X.A.units < cLine):OpR X (compareOp .Lt) (rLt X.K):=op_lt.or (op_ltT hu)
theorem yYQ (hK:X.K=B.K):OpSem X B fLt (rLt X.K):=by
 intro W h H x y z x' y' Q hr rx ry e q
 unfold fLt at e
 split at e
 ·exact .inl (jUC (X:=X) (g:=fun i j=>decide (i < j)) W h H _ _ z x' y' Q hr rx ry e q)
 ·exact .inr (yCD hK W h H _ _ z x' y' Q hr rx ry e q)
def fLe:AH→PV→PV→Option PV:=fIB fun i j=>decide (i≤j)
def fGt:AH→PV→PV→Option PV:=fIB fun i j=>decide (j < i)
def fGe:AH→PV→PV→Option PV:=fIB fun i j=>decide (j≤i)
end
section
variable {X:Cx} {B:Bs} {N:Ent} {WX:L2.WX} {a b:Expr} {ma mb:ME} {pos:Pos} {k:Nat}
theorem vO (hK:X.K=B.K) (ha:SimE X B N WX a ma) (hb:SimE X B N WX b mb):SimE X B N WX (.BinOp a .Add b pos) (jO uB ma mb):=jQF yZF (yVL hK) ha hb
theorem jAR (hK:X.K=B.K) (ha:SimE X B N WX a ma) (hb:SimE X B N WX b mb):SimE X B N WX (.BinOp a .Mult b pos) (jO jBZ ma mb):=jQF yZE (yVK hK) ha hb
theorem yAO (ha:SimE X B N WX a ma) (hb:SimE X B N WX b mb):SimE X B N WX (.BinOp a .FloorDiv b pos) (jO jVP ma mb):=jQF op_fdivN (jZV yHF) ha hb
theorem jMB (ha:SimE X B N WX a ma) (hb:SimE X B N WX b mb):SimE X B N WX (.BinOp a .Mod b pos) (jO jIX ma mb):=jQF op_modN (jZV (f:=fun i j=>i.fmod j) yOK) ha hb
theorem yMT (ha:SimE X B N WX a ma) (hb:SimE X B N WX b mb):SimE X B N WX (.BinOp a .Pow b pos) (jO yIC ma mb):=jQF op_pow (jZV yNP) ha hb
structure CmpOk (X:Cx) (B:Bs) (op:CmpOp) (f:AH→PV→PV→Option PV):Prop where
 ex:∃ r:R2,OpR X (compareOp op) r∧OpSem X B f r
abbrev U9 (A:Around):Prop:=A.units+200 < cLine
theorem _root_.L2.Room.u9 {k:Nat} {A:Around} (r:Room k A):U9 A:=by have:=r.un; show A.units+200 < cLine; omega
theorem uH (hK:X.K=B.K) (hr:U9 X.A):CmpOk X B .Eq fEq:=⟨_,op_eqD (Nat.lt_of_le_of_lt (by omega) hr),yVI hK⟩
theorem jAQ (hK:X.K=B.K) (hr:U9 X.A):CmpOk X B .NotEq fNe:=⟨_,op_neD (Nat.lt_of_le_of_lt (by omega) hr),yVG hK⟩
theorem yQA (hK:X.K=B.K) (hr:U9 X.A):CmpOk X B .Lt fLt:=⟨_,yZX (Nat.lt_of_le_of_lt (by omega) hr),yYQ hK⟩
theorem yQB:CmpOk X B .LtE fLe:=⟨_,op_le,jUC⟩
theorem yQC:CmpOk X B .Gt fGt:=⟨_,op_gt,jUC⟩
theorem yZM:CmpOk X B .GtE fGe:=⟨_,op_ge,jUC⟩
theorem jUM:CmpOk X B .Is jKW:=⟨_,op_isN,yNG⟩
theorem yAC (hK:X.K=B.K) (hr:U9 X.A):CmpOk X B .In fIn:=⟨_,yPR (by have hr:X.A.units+200 < cLine:=hr; omega),yEK hK⟩
theorem jUL (hK:X.K=B.K) (hr:U9 X.A):CmpOk X B .NotIn jKV:=⟨_,yEP (by have hr:X.A.units+200 < cLine:=hr; omega),yAP hK⟩
variable {op op':CmpOp} {f g:AH→PV→PV→Option PV} {c:Expr} {mc:ME}
theorem qJ (o:CmpOk X B op f) (ha:SimE X B N WX a ma) (hb:SimE X B N WX b mb) (hm:behindInMarks op b=false):SimE X B N WX (.Compare a [op] [b] pos) (jO f ma mb):=by
 obtain ⟨r,h1,h2⟩:=o.ex
 exact yFP h1 h2 ha hb hm
theorem jX (o:CmpOk X B op f) (ha:SimE X B N WX a ma) (hb:SimE X B N WX b mb) (hm:behindInMarks op b=false):SimT X B N WX (.Compare a [op] [b] pos) (bM (jO f ma mb)):=by
 obtain ⟨r,h1,h2⟩:=o.ex
 exact yBZ h1 h2 ha hb hm
theorem yVF (o:CmpOk X B op f) (o':CmpOk X B op' g) (ha:SimE X B N WX a ma) (hb:SimE X B N WX b mb) (hc:SimE X B N WX c mc) (hm:lastMarks [op,op'] [b,c]=false):SimE X B N WX (.Compare a [op,op'] [b,c] pos) (jNO f g ma mb mc):=by
 obtain ⟨r,h1,h2⟩:=o.ex
 obtain ⟨r',h3,h4⟩:=o'.ex
 exact yCA h1 h3 h2 h4 ha hb hc hm
structure BiOk (X:Cx) (B:Bs) (x:Str) (f:AH→List PV→Option PV):Prop where
 ex:∃ (v:Value) (r:List V→Hp→VK→Prop),bootBuiltins x=some v∧CallR X v r∧CallSem X B f r∧((∃ id,v=.builtin id)∨∃ T,v=.type T)
variable {x:Str} {p:Pos} {e:Expr} {es:List Expr} {ma:MA} {fb:AH→List PV→Option PV}
theorem yL (o:BiOk X B x fb) (hg:Gl X x) (hm:X.mg x=none) (ha:SimA X B N WX (e :: es) ma) (hn:x ≠ "__name__") (hdb:(x == ("__debug__" : Str))=false)
  (he:starEach (e :: es) X.env=(false,eval e X.env) :: starEach es X.env) (hpl:(backTo pos (starEach es X.env)).any (·.1)=false):SimE X B N WX (.Call (.Name x p) (e :: es) [] pos) (eCB fb ma):=by
 obtain ⟨v,r,h1,h2,h3,h4⟩:=o.ex
 rcases h4 with ⟨id,rfl⟩ | ⟨T,rfl⟩
 ·exact yCB h2 h3 hg hm h1 ha hn hdb he hpl
 ·exact jZB h2 h3 hg hm h1 ha hn hdb he hpl
theorem boot_all:bootBuiltins "all" = some (.builtin "all"):=by decide +kernel
theorem jAD (hK:X.K=B.K):BiOk X B "isinstance" wO:=⟨_,_,PyProof.Rows.boot_isinstance,jTO,yAQ hK,.inl ⟨_,rfl⟩⟩
theorem bi_len (hK:X.K=B.K):BiOk X B "len" jEG:=⟨_,_,PySem.boot_len,call_len,yNE hK,.inl ⟨_,rfl⟩⟩
theorem jQJ (hK:X.K=B.K) (hc:X.calm=true):BiOk X B "all" jHO:=⟨_,_,boot_all,cr_all hc,yNJ hK,.inl ⟨_,rfl⟩⟩
theorem jCC:BiOk X B "int" jDN:=⟨_,_,PyProof.Rows.boot_int,call_int1,yFW,.inr ⟨_,rfl⟩⟩
theorem jUZ (hK:X.K=B.K):BiOk X B "list" jKP:=⟨_,_,PyProof.Rows.boot_list,call_list_of,yFV hK,.inr ⟨_,rfl⟩⟩
theorem jQZ (hK:X.K=B.K):BiOk X B "tuple" jHR:=⟨_,_,PyProof.Rows.boot_tuple,call_tuple_of,yCC hK,.inr ⟨_,rfl⟩⟩
end
end Lp
set_option maxHeartbeats 4000000
namespace Lp
open PySem PySem.Spec PyProof.Rows L2
def yXX (x:Str):Bool:=PyData.strOk x&&decide (x.length≤sizeLine)
theorem jQ {x:Str} (h:yXX x=true):SOk x:=by
 obtain ⟨a,b⟩:=Bool.and_eq_true_iff.mp h
 exact ⟨a,of_decide_eq_true b⟩
theorem jEN (X:Cx) (u:Value) (s:Shared) (x:L2N.XE X WF u s):X.xe u s:=by
 obtain ⟨a,B,sI,pins,σ,H,cls,d,e,I,nb,up,sky,na,os,ag,w⟩:=x
 exact w.elim
section
variable {X:Cx} {B:Bs} {N:Ent} {WX:L2.WX} {x:Str} {pos:Pos} {v:V} {y:PV}
theorem yVE (hg:Gl X x) (h:∃ u,X.mg x=some u∧RelV v u) (rx:∀ W,Rep B W y v) (hd:(x == ("__debug__" : Str))=false:=by rfl):SimE X B N WX (.Name x pos) (eC y):=by
 obtain ⟨u,hm,r⟩:=h
 exact jOK (pe_glob hg hm r hd) rx
end
def yYI (N:List Str) (sc scope:Scope) (own:List (Str × Nat)):Bool:=(match scope.kind with | .function=>true | _=>false)&&(scope.names.all (fun y=>decide (scope.names.lookup y.1=some y.2))&&(own.all (fun p=>decide (N[p.2]?=some p.1)) &&
 (scope.names.all (fun y=>!decide (y.2=.free)||(decide (sc.names.lookup y.1=some .cell)||decide (sc.names.lookup y.1=some .free)))&&scope.names.all fun y=>!(decide (y.2=.local)||decide (y.2=.cell))||(decide (y.1∈own.map (·.1))||!decide (y.1∈N)))))
theorem jAY {N:List Str} {sc scope:Scope} {own:List (Str × Nat)} (h:yYI N sc scope own=true):BlkOk N sc scope own:=by
 unfold yYI at h
 simp only [Bool.and_eq_true,List.all_eq_true,Bool.or_eq_true,Bool.not_eq_true',decide_eq_true_eq,decide_eq_false_iff_not] at h
 obtain ⟨h1,h2,h3,h4,h5⟩:=h
 refine ⟨?_,h2,h3,fun y hy e=>?_,fun y hy e=>?_⟩
 ·split at h1
  ·assumption
  ·cases h1
 ·exact (h4 y hy).resolve_left fun z=>z e
 ·exact (h5 y hy).resolve_left fun z=>by rcases e with e | e <;> rw [e] at z <;> simp at z
end Lp
set_option maxHeartbeats 4000000
namespace Lp
open PySem PySem.Spec PyProof.Rows L2
theorem jTE {B:Bs} {W:Wd}:∀ ns:List Int,Reps B W (ns.map PV.int) (ns.map V.int)
 | []=>.nil
 | n :: ns=>.cons (.int n) (jTE ns)
def HzO (H:Hp):Prop:=∀ b o,H b=some o→NT o→SzO o
theorem yES {B:Bs} {W:Wd} {m:MF} {ns:List Int} {H:Hp} {a:Addr} (hz:HzO H) (hT:LamX.Tabs B.T H) (hm:W.m=[]) (ag:∀ b o,W.F b=some o→H b=some o) (nt:∀ b o,W.F b=some o→NT o) (sc:ScrAt B W a (ns.map V.int))
  (h:∃ h',m [.scr (ns.map .int)] []=.ok (.bl true) h'):spF B 1 m [.ref a] H (fun v _=>v=.bl true) fun _ _ _=>False:=by
 refine ⟨W,[],[.scr (ns.map .int)],⟨ag,by rw [hm]; rfl,by rw [hm]; exact List.nodup_nil,fun _ z=>(by rw [hm] at z; cases z),hz,nt,hT,fun n c b e=>(by cases e)⟩,.cons (.scr sc (jTE ns)) .nil,rfl,?_⟩
 obtain ⟨h',e⟩:=h
 rw [e]
 intro W' H' v' _ _ rv
 cases rv
 rfl
theorem yXC {B:Bs} {m:MF} {ns:List Int} {H:Hp} {a:Addr} (hz:HzO H) (hT:LamX.Tabs B.T H) (hl:ns.length≤sizeLine) (hS:SqL B.K H a (ns.map V.int)) (h:∃ h',m [.scr (ns.map .int)] []=.ok (.bl true) h') :
  spF B 1 m [.ref a] H (fun v _=>v=.bl true) fun _ _ _=>False:=by
 have hl':(ns.map V.int).length≤sizeLine:=by rw [List.length_map]; exact hl
 have one:∀ o,H a=some o→NT o→ScrAt B ⟨fun b=>if b=a then some o else none,[]⟩ a (ns.map V.int)→spF B 1 m [.ref a] H (fun v _=>v=.bl true) fun _ _ _=>False:=fun o e nt sc=>by
  have at_:∀ b u,(if b=a then some o else none)=some u→b=a∧u=o:=fun b u z=>by
   split at z
   ·rename_i hb; cases z; exact ⟨hb,rfl⟩
   ·cases z
  exact yES hz hT rfl (fun b u z=>by obtain ⟨rfl,rfl⟩:=at_ b u z; exact e) (fun b u z=>by obtain ⟨rfl,rfl⟩:=at_ b u z; exact nt) sc h
 rcases hS with (q | ⟨o,q⟩) | q
 ·exact one _ q jBG (.inl ⟨.inl (if_pos rfl),hl'⟩)
 ·exact one _ q (fun _ z=>nomatch z) (.inl ⟨.inr ⟨o,if_pos rfl⟩,hl'⟩)
 ·exact yES (W:=⟨fun _=>none,[]⟩) hz hT rfl (fun _ _ z=>nomatch z) (fun _ _ z=>nomatch z) (.inr q) h
def spZ (n:Nat) (sp:Sp):Sp:=fun vs H Q E=>vs.length=n∧(HzO H→sp vs H Q E)
theorem yET {P:Program} {w:World} {K:PySem.W.Frag} {mg:Str→Option Value} {base:Heap} {x qual:Str} {params:Arguments} {body:List Stmt} {scope:Scope} {dvs:List V} {kws:List (Str × V)} {f:Addr} {fd:FuncData} {names ps:List Str} {k n:Nat} {B:Bs}
  (F:FunD K x qual params body scope dvs kws f fd) (S:FnScope names ps scope):FnOk P w K mg base (L2N.CX P w) (k+1) f fd ps (spF B n fun _ _=>.bad) :=
 F.ok S (fun vs H Q E ⟨_,_,_,_,_,_,z⟩=>z.elim) fun _ _ _ _ _ _ _ _ _ ⟨_,_,_,_,_,_,z⟩=>z.elim
theorem yXG {P:Program} {w:World} {H:Hp} {h:Heap} (x:HOk P w H h):HzO H:=fun b o e nt=>by
 have q:=x b o e
 cases o with
 | lst vs=>exact q.1
 | tup vs=>exact q.1
 | tbl ps=>exact absurd rfl (nt ps)
 | _=>trivial
theorem yQU {P:Program} {w:World} {K:PySem.W.Frag} {mg:Str→Option Value} {base:Heap} {CX:CXT} {k n:Nat} {f:Addr} {fd:FuncData} {ps:List Str} {sp:Sp} (F:FnOk P w K mg base CX k f fd ps sp) (hn:ps.length=n):FnOk P w K mg base CX k f fd ps (spZ n sp) :=
 ⟨fun vs H Q E q=>by rw [q.1,hn],fun A outer s H args us vs Q E hr e0 hb hv q=>F.run A outer s H args us vs Q E hr e0 hb hv (q.2 (yXG e0.hok))⟩
end Lp
set_option maxHeartbeats 4000000
namespace Lp
open PySem PySem.Spec PyProof.Rows L2
section
variable {τ α β:Type} {P:α→τ→Prop} {E:PV→τ→Prop}
theorem jTR {a:α} {s:τ} (h:P a s):(R.ok a s).post P E:=h
theorem jY {r:R τ α} {f:α→τ→R τ β} {Q:β→τ→Prop} (h:r.post (fun a s=>(f a s).post Q E) E):(r.bind f).post Q E:=by
 cases r with
 | ok a s=>exact h
 | exc x s=>exact h
 | bad=>exact h
theorem jLQ {r:R τ α} {a:α} {s:τ} (e:r=.ok a s) (h:P a s):r.post P E:=by rw [e]; exact h
theorem p_mono {r:R τ α} {P':α→τ→Prop} {E':PV→τ→Prop} (h:r.post P' E') (k:∀ a s,P' a s→P a s) (k':∀ x s,E' x s→E x s):r.post P E:=R.post_mono h k k'
def NE {τ:Type}:PV→τ→Prop:=fun _ _=>False
theorem uF {r:R τ α} {P':α→τ→Prop} (h:r.post P' NE) (k:∀ a s,P' a s→P a s):r.post P E:=R.post_mono h k fun _ _ z=>z.elim
theorem yZV {r:R τ α} (h:r.post P NE):∃ a s,r=.ok a s∧P a s:=by
 cases r with
 | ok a s=>exact ⟨a,s,rfl,h⟩
 | exc x s=>exact h.elim
 | bad=>exact h.elim
end
def br0 (c:Bool) (A C:Prop):Prop:=match c with
 | true=>A
 | false=>C
@[irreducible] def br (c:Bool) (A C:Prop):Prop:=br0 c A C
theorem jGJ:br=br0:=by
 funext c A C
 unfold br
 rfl
theorem yBN {c:Bool} {A C:Prop} (h1:c=true→A) (h2:c=false→C):br c A C:=by
 rw [jGJ]
 cases c
 ·exact h2 rfl
 ·exact h1 rfl
theorem zV {c:Bool} {A C:Prop} (e:c=true) (h:A):br c A C:=by rw [jGJ]; subst e; exact h
theorem zA {c:Bool} {A C:Prop} (e:c=false) (h:C):br c A C:=by rw [jGJ]; subst e; exact h
section
variable {P:PV→S→Prop} {PB:Bool→S→Prop} {PA:List PV→S→Prop} {PO:Option Int→S→Prop} {PF:Fl→S→Prop} {E:PV→S→Prop} {s:S}
variable {a b c m:ME} {ma:MA} {ta tb:S→R S Bool} {f g:AH→PV→PV→Option PV} {v:PV} {i:Nat}
theorem yWC (e:s.e[i]?=some (some v)) (h:P v s):(jF i s).post P E:=by unfold jF; rw [e]; exact h
theorem yZW (h:P v s):(eC v s).post P E:=h
theorem yWP (h:(a s).post (fun x s1=>(b s1).post (fun y s2=>∃ z,f s2.h x y=some z∧P z s2) E) E):(jO f a b s).post P E :=
 jY (p_mono h (fun x s1 q=>jY (p_mono q (fun y s2 ⟨z,e,q⟩=>by simp only [e]; exact q) fun _ _ z=>z)) fun _ _ z=>z)
theorem yWK (h:PA [] s):(jL s).post PA E:=h
theorem yNY (h:(a s).post (fun v s1=>(ma s1).post (fun vs s2=>PA (v :: vs) s2) E) E):(jC a ma s).post PA E :=
 jY (p_mono h (fun x s1 q=>jY q) fun _ _ z=>z)
theorem yWD (h:(ma s).post (fun vs s1=>(yW vs=true∧vs.length≤16777216)∧P (.tup vs) s1) E):(vH ma s).post P E :=
 jY (p_mono h (fun vs s1 ⟨⟨h1,h2⟩,q⟩=>by rw [h1,decide_eq_true h2]; exact q) fun _ _ z=>z)
theorem yWL (h:(ma s).post (fun vs s1=>(yW vs=true∧vs.length≤16777216)∧P (.lst vs) s1) E):(jDO ma s).post P E :=
 jY (p_mono h (fun vs s1 ⟨⟨h1,h2⟩,q⟩=>by rw [h1,decide_eq_true h2]; exact q) fun _ _ z=>z)
theorem yNX (h:(ma s).post (fun vs s1=>(yW vs=true∧vs.length≤sizeLine)∧PA vs s1) E):(jIW ma s).post PA E :=
 jY (p_mono h (fun vs s1 ⟨h1,q⟩=>by simp only [if_pos h1]; exact q) fun _ _ z=>z)
theorem yZA {mn:S→R S (List PV)} (h:(mn s).post (fun xs s1=>P (.lst xs) s1) E):(shN mn s).post P E:=jY h
theorem yWO {mn:S→R S (List PV)} (h:(mn s).post (fun xs s1=>P (.cel s1.h.length) ⟨s1.e,s1.h++[some (.lst xs)]⟩) E):(yIG mn s).post P E:=jY h
theorem yZC {fb:AH→List PV→Option PV} (h:(ma s).post (fun vs s1=>∃ z,fb s1.h vs=some z∧P z s1) E):(eCB fb ma s).post P E :=
 jY (p_mono h (fun vs s1 ⟨z,e,q⟩=>by simp only [e]; exact q) fun _ _ z=>z)
theorem yGL (h:(a s).post (fun x s1=>(b s1).post (fun y s2=>∃ k,f s2.h x y=some (.bl k)∧br0 k ((c s2).post (fun w s3=>∃ z,g s3.h y w=some z∧P z s3) E) (P (.bl false) s2)) E) E):(jNO f g a b c s).post P E :=
 jY (p_mono h (fun x s1 q=>jY (p_mono q (fun y s2 ⟨k,e,q⟩=>by
  simp only [e]
  cases k with
  | true=>exact jY (p_mono q (fun w s3 ⟨z,e,q⟩=>by simp only [e]; exact q) fun _ _ z=>z)
  | false=>exact q) fun _ _ z=>z)) fun _ _ z=>z)
theorem yGJ (h:PO none s):(jEI s).post PO E:=h
theorem yGI (h:(a s).post (fun v s1=>∃ i,v=.int i∧PO (some i) s1) E):(jEH a s).post PO E :=
 jY (p_mono h (fun v s1 ⟨i,e,q⟩=>by subst e; exact q) fun _ _ z=>z)
theorem yYZ {lo hi:S→R S (Option Int)} (h:(a s).post (fun v s1=>(lo s1).post (fun l s2=>(hi s2).post (fun u s3=>∃ z,fSl s3.h v l u=some z∧P z s3) E) E) E):(eSl a lo hi s).post P E :=
 jY (p_mono h (fun x s1 q=>jY (p_mono q (fun y s2 q=>jY (p_mono q (fun u s3 ⟨z,e,q⟩=>by simp only [e]; exact q) fun _ _ z=>z)) fun _ _ z=>z)) fun _ _ z=>z)
theorem jQU {n:Nat} {mf:MF} {vs:List PV} (h:(vs.length=n∧yW vs=true)∧(mf vs s.h).post (fun v h=>P v ⟨s.e,h⟩) (fun x h=>E x ⟨s.e,h⟩)):(jGI n mf vs s).post P E:=by
 unfold jGI
 rw [if_pos h.1]
 unfold lift
 have q:=h.2
 split <;> rename_i e <;> rw [e] at q <;> exact q
theorem yNZ {n:Nat} {mf:MF} (h:(ma s).post (fun vs s1=>(vs.length=n∧yW vs=true)∧(mf vs s1.h).post (fun v h=>P v ⟨s1.e,h⟩) (fun x h=>E x ⟨s1.e,h⟩)) E):(yP n mf ma s).post P E :=
 jY (p_mono h (fun vs s1 q=>jQU q) fun _ _ z=>z)
theorem yGM {n0 nk n:Nat} {ix:List Nat} {mf:MF} {mk:MA} (h:(ma s).post (fun vs s1=>(mk s1).post (fun zs s2=>((vs.length=n0∧zs.length=nk)∧yW vs=true∧yW zs=true)∧((pick ix (vs++zs)).length=n∧yW (pick ix (vs++zs))=true) ∧
  (mf (pick ix (vs++zs)) s2.h).post (fun v h=>P v ⟨s2.e,h⟩) (fun x h=>E x ⟨s2.e,h⟩)) E) E):(yEV n0 nk ix n mf ma mk s).post P E :=
 jY (p_mono h (fun vs s1 q=>jY (p_mono q (fun zs s2 q=>by simp only [if_pos q.1]; exact jQU q.2) fun _ _ z=>z)) fun _ _ z=>z)
theorem yOB (h:(a s).post (fun v s1=>∃ k,v=.bl k∧br0 k ((b s1).post P E) (P (.bl false) s1)) E):(jGH a b s).post P E :=
 jY (p_mono h (fun v s1 ⟨k,e,q⟩=>by subst e; cases k <;> exact q) fun _ _ z=>z)
theorem yWI (h:(a s).post (fun v s1=>∃ k,v=.bl k∧br0 k (P (.bl true) s1) ((b s1).post P E)) E):(orV a b s).post P E :=
 jY (p_mono h (fun v s1 ⟨k,e,q⟩=>by subst e; cases k <;> exact q) fun _ _ z=>z)
theorem yNV (h:(a s).post (fun v s1=>∃ k,v=.bl k∧P (.bl (!k)) s1) E):(jVO a s).post P E :=
 jY (p_mono h (fun v s1 ⟨k,e,q⟩=>by subst e; exact q) fun _ _ z=>z)
theorem yWM (h:(ta s).post (fun k s1=>br0 k ((a s1).post P E) ((b s1).post P E)) E):(ifM ta a b s).post P E :=
 jY (p_mono h (fun k s1 q=>by cases k <;> exact q) fun _ _ z=>z)
theorem yYY (h:(a s).post (fun v s1=>∃ k,tru s1.h v=some k∧PB k s1) E):(tM a s).post PB E :=
 jY (p_mono h (fun v s1 ⟨k,e,q⟩=>by simp only [e]; exact q) fun _ _ z=>z)
theorem yZD (h:(a s).post (fun v s1=>∃ k,v=.bl k∧PB k s1) E):(bM a s).post PB E :=
 jY (p_mono h (fun v s1 ⟨k,e,q⟩=>by subst e; exact q) fun _ _ z=>z)
theorem yOC (h:(ta s).post (fun k s1=>br0 k ((tb s1).post PB E) (PB false s1)) E):(andM ta tb s).post PB E :=
 jY (p_mono h (fun k s1 q=>by cases k <;> exact q) fun _ _ z=>z)
theorem yWJ (h:(ta s).post (fun k s1=>br0 k (PB true s1) ((tb s1).post PB E)) E):(orM ta tb s).post PB E :=
 jY (p_mono h (fun k s1 q=>by cases k <;> exact q) fun _ _ z=>z)
theorem yNW (h:(ta s).post (fun k s1=>PB (!k) s1) E):(jFT ta s).post PB E:=jY h
theorem yZB {fm:AH→Str→List PV→Option PV} (h:(a s).post (fun o s1=>∃ x,o=.str x∧(ma s1).post (fun vs s2=>∃ z,fm s2.h x vs=some z∧P z s2) E) E):(eMS fm a ma s).post P E :=
 jY (p_mono h (fun o s1 ⟨x,e,q⟩=>by subst e; exact jY (p_mono q (fun vs s2 ⟨z,e,q⟩=>by simp only [e]; exact q) fun _ _ z=>z)) fun _ _ z=>z)
variable {x y:MS}
theorem yNS (h:PF .nx s):(uZ s).post PF E:=h
theorem yWF (h:(x s).post (fun fl s1=>match fl with | .nx=>(y s1).post PF E | fl=>PF fl s1) E):(yI x y s).post PF E :=
 jY (p_mono h (fun fl s1 q=>by cases fl <;> exact q) fun _ _ z=>z)
theorem yGH (h:(a s).post (fun _ s1=>PF .nx s1) E):(jVW a s).post PF E:=jY h
theorem yWG (h:(a s).post (fun v s1=>isOwn v=false∧PF (.rt v) s1) E):(wD a s).post PF E :=
 jY (p_mono h (fun v s1 ⟨e,q⟩=>by rw [e]; exact q) fun _ _ z=>z)
theorem yNU (h:PF (.rt .non) s):(yPN s).post PF E:=h
theorem yWE (h:(ta s).post (fun k s1=>br0 k ((x s1).post PF E) ((y s1).post PF E)) E):(sIf ta x y s).post PF E :=
 jY (p_mono h (fun k s1 q=>by cases k <;> exact q) fun _ _ z=>z)
theorem yWQ (h:(a s).post (fun v s1=>isOwn v=false∧PF .nx ⟨s1.e.set i (some v),s1.h⟩) E):(kY i a s).post PF E :=
 jY (p_mono h (fun v s1 ⟨e,q⟩=>by rw [e]; exact q) fun _ _ z=>z)
theorem yOA {t:Tg} (h:(a s).post (fun v s1=>isOwn v=false∧∃ e1,uW t v s1.e=some e1∧PF .nx ⟨e1,s1.h⟩) E):(jOL t a s).post PF E :=
 jY (p_mono h (fun v s1 ⟨e,e1,e2,q⟩=>by simp only [e2,e]; exact q) fun _ _ z=>z)
theorem yWH {j:Nat} (h:(ma s).post (fun vs s1=>∃ v w,vs=[v,w]∧(isOwn v=false∧isOwn w=false)∧PF .nx ⟨(s1.e.set i (some v)).set j (some w),s1.h⟩) E):(yXY i j ma s).post PF E :=
 jY (p_mono h (fun vs s1 ⟨v,w,e,⟨e1,e2⟩,q⟩=>by subst e; simp only [e1,e2]; exact q) fun _ _ z=>z)
theorem yNT (h:(a s).post (fun v s1=>(b s1).post (fun o s2=>(c s2).post (fun k s3=>∃ n xs ys,o=.cel n∧jLW s3.h n=some xs∧yBM xs k v=some ys∧PF .nx ⟨s3.e,s3.h.set n (some (.lst ys))⟩) E) E) E):(jFV a b c s).post PF E :=
 jY (p_mono h (fun v s1 q=>jY (p_mono q (fun o s2 q2=>jY (p_mono q2 (fun k s3 ⟨n,xs,ys,e1,e2,e3,q3⟩=>by subst e1; simp only [yBQ,e2,e3]; exact q3) fun _ _ z=>z)) fun _ _ z=>z)) fun _ _ z=>z)
theorem jCX {k:Nat} {mb:MS} {xs:List PV} {h:AH} (e0:List (Option PV)) (he:xs.map some++List.replicate k none=e0) {Q:PV→AH→Prop} {E:PV→AH→Prop} (q:(mb ⟨e0,h⟩).post (fun fl s=>match fl with
  | .rt v=>Q v s.h
  | .nx=>Q .non s.h
  | _=>False) (fun x s=>E x s.h)):(mkF k mb xs h).post Q E:=by
 subst he
 unfold mkF
 cases e:mb ⟨xs.map some++List.replicate k none,h⟩ with
 | ok fl s =>
  rw [e] at q
  cases fl <;> exact q
 | exc x s=>rw [e] at q; exact q
 | bad=>rw [e] at q; exact q
theorem jPO {h:AH} {r:Sr} (hr:r.w=[]):uO h r:=fun p hp=>by rw [hr] at hp; cases hp
theorem jNQ {h:AH} {xs:List PV} {o:Bool}:uO h ⟨xs,[],o⟩:=fun _ hp=>by cases hp
theorem jQG {xs:List PV} {t:Tg} (I:Nat→S→Prop) (h0:I 0 s) (hs:∀ (j:Nat) (v:PV) (s:S),xs[j]?=some v→I j s→∃ e1,uW t v s.e=some e1∧(x ⟨e1,s.h⟩).post (fun fl s'=>match fl with
  | .nx=>I (j+1) s'
  | .ct=>I (j+1) s'
  | .bk=>PF .nx s'
  | .rt v=>PF (.rt v) s') E) (hn:∀ s,I xs.length s→PF .nx s) {o:Bool}:(jDJ ⟨xs,[],o⟩ t x xs s).post PF E:=by
 have go:∀ (ys:List PV) (r:Sr) (j:Nat) (s:S),r.w=[]→(∀ k,ys[k]?=xs[j+k]?)→j+ys.length=xs.length→I j s→(jDJ r t x ys s).post PF E:=by
  intro ys
  induction ys with
  | nil =>
   intro r j s hr hy hl hI
   unfold jDJ
   rw [if_pos (jPO hr)]
   exact hn s (by rw [← hl]; exact hI)
  | cons y ys ih =>
   intro r j s hr hy hl hI
   unfold jDJ
   rw [if_pos (jPO hr)]
   obtain ⟨e1,eb,q⟩:=hs j y s (by have:=hy 0; simpa using this.symm) hI
   rw [eb]
   refine jY (p_mono q (fun fl s' q=>?_) fun _ _ z=>z)
   have nxt:I (j+1) s'→(jDJ r t x ys s').post PF E:=fun hI=>ih r (j+1) s' hr (fun k=>by have:=hy (k+1); simp only [List.getElem?_cons_succ] at this; rw [this]; congr 1; omega) (by simp only [List.length_cons] at hl; omega) hI
   cases fl with
   | nx=>exact nxt q
   | ct=>exact nxt q
   | bk=>exact q
   | rt v=>exact q
 exact go xs _ 0 s rfl (fun k=>by simp) (by simp) h0
theorem yWN {src:S→R S Sr} {t:Tg} (h:(src s).post (fun r s1=>r.w=[]∧r.o=false∧r.xs.length≤sizeLine∧(jDJ ⟨r.xs,[],false⟩ t x r.xs s1).post PF E) E):(jRW src t x s).post PF E :=
 jY (p_mono h (fun r s1 ⟨e1,e2,e3,q⟩=>by
  obtain ⟨xs,w,o⟩:=r
  simp only at e1 e2 e3 q
  subst e1 e2
  simp only [Bool.false_eq_true,false_or,if_neg (Nat.not_lt.mpr e3)]
  exact q) fun _ _ z=>z)
theorem yWR {m:ME} {PS:Sr→S→Prop} (h:(m s).post (fun v s1=>∃ r,srcOf s1.h v=some r∧PS r s1) E):(jES m s).post PS E :=
 jY (p_mono h (fun v s1 ⟨z,e,q⟩=>by simp only [e]; exact q) fun _ _ z=>z)
theorem yGK {src:S→R S Sr} {t:Tg} {tt:S→R S Bool} {te:ME} {vs:List Nat}
  (h:(src s).post (fun r s1=>r.w=[]∧∃ I:Nat→List PV→AH→Prop,I 0 [] s1.h∧(∀ (j:Nat) (v:PV) (acc:List PV) (h:AH),r.xs[j]?=some v→I j acc h→∃ e1,uW t v (jM s1.e vs)=some e1 ∧
   (tt ⟨e1,h⟩).post (fun k s2=>br0 k ((te s2).post (fun y s3=>isOwn y=false∧jM s3.e vs=jM s1.e vs∧I (j+1) (acc++[y]) s3.h) NE) (jM s2.e vs=jM s1.e vs∧I (j+1) acc s2.h)) NE)∧∀ acc h,I r.xs.length acc h→PA acc ⟨jM s1.e vs,h⟩) E):(qP src t tt te vs s).post PA E:=by
 refine jY (p_mono h (fun r s1 ⟨hw,I,h0,hs,hn⟩=>?_) fun _ _ z=>z)
 have ww:jM (jM s1.e vs) vs=jM s1.e vs:=by
  have key:∀ (us:List Nat) (e:List (Option PV)),(∀ u∈us,u∈vs)→jM (jM e us) vs=jM e vs:=by
   intro us e
   induction us with
   | nil=>intro _; rfl
   | cons u us ih =>
    intro hu
    show jM ((jM e us).set u none) vs=jM e vs
    have:∀ (l:List (Option PV)) (ws:List Nat),u∈ws→jM (l.set u none) ws=jM l ws:=by
     intro l ws
     induction ws with
     | nil=>intro z; cases z
     | cons w ws ih2 =>
      intro z
      show (jM (l.set u none) ws).set w none=(jM l ws).set w none
      by_cases hm:u∈ws
      ·rw [ih2 hm]
      ·have hw:u=w:=by
        rcases List.mem_cons.mp z with z | z
        ·exact z
        ·exact absurd z hm
       subst hw
       have go:∀ zs:List Nat,u∉zs→jM (l.set u none) zs=(jM l zs).set u none:=by
        intro zs
        induction zs with
        | nil=>intro _; rfl
        | cons y zs ih3 =>
         intro hy
         simp only [List.mem_cons,not_or] at hy
         show (jM (l.set u none) zs).set y none=((jM l zs).set y none).set u none
         rw [ih3 hy.2,List.set_comm _ _ hy.1]
       rw [go ws hm,List.set_set]
    rw [this _ _ (hu u (by simp))]
    exact ih fun w hw=>hu w (List.mem_cons_of_mem _ hw)
  exact key vs _ fun _ h=>h
 have go:∀ (ys:List PV) (j:Nat) (acc:List PV) (h:AH) (e:List (Option PV)),jM e vs=jM s1.e vs→(∀ k,ys[k]?=r.xs[j+k]?)→j+ys.length=r.xs.length→I j acc h→(ys=[]→e=jM s1.e vs)→(jII r t tt te vs ys acc ⟨e,h⟩).post PA E:=by
  intro ys
  induction ys with
  | nil =>
   intro j acc h e he hy hl hI hz
   unfold jII
   rw [hz rfl]
   exact hn acc h (by rw [← hl]; exact hI)
  | cons y ys ih =>
   intro j acc h e he hy hl hI hz
   unfold jII
   obtain ⟨e1,eb,q⟩:=hs j y acc h (by have:=hy 0; simpa using this.symm) hI
   unfold jSQ
   simp only [he,eb]
   have nx:∀ {α:Type} {r:R S α} {P:α→S→Prop},r.post P NE→r.nx.post P NE:=fun {α r P} z=>by
    cases r with
    | ok a s=>exact z
    | exc x s=>exact z.elim
    | bad=>exact z.elim
   refine jY (uF (P':=fun acc' s'=>s'.e=jM s1.e vs∧I (j+1) acc' s'.h) (jY (p_mono (nx q) (fun k s2 q=>?_) fun _ _ z=>z)) fun acc' s' ⟨q1,q2⟩=>?_)
   ·cases k with
    | true =>
     rw [if_pos rfl]
     refine jY (p_mono (nx q) (fun v s3 ⟨o,q1,q2⟩=>?_) fun _ _ z=>z)
     rw [o]
     exact ⟨q1,q2⟩
    | false =>
     rw [if_neg (by decide)]
     exact q
   ·rw [if_pos (jPO hw)]
    obtain ⟨e',h'⟩:=s'
    simp only at q1 q2
    subst q1
    exact ih (j+1) acc' h' _ ww (fun k=>by have:=hy (k+1); simp only [List.getElem?_cons_succ] at this; rw [this]; congr 1; omega) (by simp only [List.length_cons] at hl; omega) q2 fun _=>rfl
 exact go r.xs 0 [] s1.h _ ww (fun k=>by simp) (by simp) h0 fun _=>rfl
end
@[irreducible] def jK (i:Nat):ME:=jF i
@[irreducible] def xEC (v:PV):ME:=eC v
@[irreducible] def jZ (f:AH→PV→PV→Option PV) (a b:ME):ME:=jO f a b
@[irreducible] def jR:MA:=jL
@[irreducible] def jE (m:ME) (r:MA):MA:=jC m r
@[irreducible] def jBF (ma:MA):ME:=vH ma
@[irreducible] def jAI (ma:MA):ME:=jDO ma
@[irreducible] def jZR (ma:MA):S→R S (List PV):=jIW ma
@[irreducible] def jIU (m:S→R S (List PV)):ME:=shN m
@[irreducible] def yDK (m:S→R S (List PV)):ME:=yIG m
@[irreducible] def xECB (f:AH→List PV→Option PV) (ma:MA):ME:=eCB f ma
@[irreducible] def yAF (f g:AH→PV→PV→Option PV) (a b c:ME):ME:=jNO f g a b c
@[irreducible] def jBR:S→R S (Option Int):=jEI
@[irreducible] def jBQ (m:ME):S→R S (Option Int):=jEH m
@[irreducible] def jIR (m:ME) (lo hi:S→R S (Option Int)):ME:=eSl m lo hi
@[irreducible] def jQE (n:Nat) (m:MF) (vs:List PV):ME:=jGI n m vs
@[irreducible] def vI (n:Nat) (m:MF) (ma:MA):ME:=yP n m ma
@[irreducible] def yAG (n0 nk:Nat) (ix:List Nat) (n:Nat) (m:MF) (ma mk:MA):ME:=yEV n0 nk ix n m ma mk
@[irreducible] def jVU (a b:ME):ME:=jGH a b
@[irreducible] def yXV (a b:ME):ME:=orV a b
@[irreducible] def yPI (a:ME):ME:=jVO a
@[irreducible] def yBL (c:S→R S Bool) (a b:ME):ME:=ifM c a b
@[irreducible] def xTM (m:ME):S→R S Bool:=tM m
@[irreducible] def xBM (m:ME):S→R S Bool:=bM m
@[irreducible] def yDL (a b:S→R S Bool):S→R S Bool:=Lp.andM a b
@[irreducible] def jNJ (a b:S→R S Bool):S→R S Bool:=Lp.orM a b
@[irreducible] def jIF (a:S→R S Bool):S→R S Bool:=Lp.jFT a
@[irreducible] def yHW (f:AH→Str→List PV→Option PV) (mo:ME) (ma:MA):ME:=eMS f mo ma
@[irreducible] def jCV:MS:=uZ
@[irreducible] def uC (a b:MS):MS:=yI a b
@[irreducible] def yED (m:ME):MS:=jVW m
@[irreducible] def jAH (m:ME):MS:=wD m
@[irreducible] def yEC:MS:=yPN
@[irreducible] def jGR (c:S→R S Bool) (a b:MS):MS:=sIf c a b
@[irreducible] def jCA (i:Nat) (m:ME):MS:=kY i m
@[irreducible] def jYF (t:Tg) (m:ME):MS:=jOL t m
@[irreducible] def yPH (i j:Nat) (ma:MA):MS:=yXY i j ma
@[irreducible] def jHP (mv mo mi:ME):MS:=jFV mv mo mi
@[irreducible] noncomputable def jLR (src:S→R S Sr) (t:Tg) (body:MS):MS:=jRW src t body
@[irreducible] def jCW (m:ME):S→R S Sr:=jES m
@[irreducible] noncomputable def wW (src:S→R S Sr) (t:Tg) (tt:S→R S Bool) (te:ME) (vs:List Nat):S→R S (List PV):=qP src t tt te vs
section
variable {P:PV→S→Prop} {PB:Bool→S→Prop} {PA:List PV→S→Prop} {PO:Option Int→S→Prop} {PF:Fl→S→Prop} {E:PV→S→Prop} {s:S}
variable {a b c m:ME} {ma:MA} {ta tb:S→R S Bool} {f g:AH→PV→PV→Option PV} {v:PV} {i:Nat} {x y:MS}
theorem jU (e:s.e[i]?=some (some v)) (h:P v s):(jK i s).post P E:=by
 unfold jK
 exact yWC e h
theorem p_c (h:P v s):(xEC v s).post P E:=by
 unfold xEC
 exact yZW h
theorem uE (h:(a s).post (fun x s1=>(b s1).post (fun y s2=>∃ z,f s2.h x y=some z∧P z s2) E) E):(jZ f a b s).post P E:=by
 unfold jZ
 exact yWP h
theorem yE (h:PA [] s):(jR s).post PA E:=by
 unfold jR
 exact yWK h
theorem jP (h:(a s).post (fun v s1=>(ma s1).post (fun vs s2=>PA (v :: vs) s2) E) E):(jE a ma s).post PA E:=by
 unfold jE
 exact yNY h
theorem jAA (h:(ma s).post (fun vs s1=>(yW vs=true∧vs.length≤16777216)∧P (.tup vs) s1) E):(jBF ma s).post P E:=by
 unfold jBF
 exact yWD h
theorem zK (h:(ma s).post (fun vs s1=>(yW vs=true∧vs.length≤16777216)∧P (.lst vs) s1) E):(jAI ma s).post P E:=by
 unfold jAI
 exact yWL h
theorem yEN (h:(ma s).post (fun vs s1=>(yW vs=true∧vs.length≤sizeLine)∧PA vs s1) E):(jZR ma s).post PA E:=by
 unfold jZR
 exact yNX h
theorem jCK {mn:S→R S (List PV)} (h:(mn s).post (fun xs s1=>P (.lst xs) s1) E):(jIU mn s).post P E:=by
 unfold jIU
 exact yZA h
theorem yYX {mn:S→R S (List PV)} (h:(mn s).post (fun xs s1=>P (.cel s1.h.length) ⟨s1.e,s1.h++[some (.lst xs)]⟩) E):(yDK mn s).post P E:=by
 unfold yDK
 exact yWO h
theorem jBP {fb:AH→List PV→Option PV} (h:(ma s).post (fun vs s1=>∃ z,fb s1.h vs=some z∧P z s1) E):(xECB fb ma s).post P E:=by
 unfold xECB
 exact yZC h
theorem zR (h:(a s).post (fun x s1=>(b s1).post (fun y s2=>∃ k,f s2.h x y=some (.bl k)∧br k ((c s2).post (fun w s3=>∃ z,g s3.h y w=some z∧P z s3) E) (P (.bl false) s2)) E) E):(yAF f g a b c s).post P E:=by
 unfold yAF
 simp only [jGJ] at h
 exact yGL h
theorem vW (h:PO none s):(jBR s).post PO E:=by
 unfold jBR
 exact yGJ h
theorem vU (h:(a s).post (fun v s1=>∃ i,v=.int i∧PO (some i) s1) E):(jBQ a s).post PO E:=by
 unfold jBQ
 exact yGI h
theorem jCU {lo hi:S→R S (Option Int)} (h:(a s).post (fun v s1=>(lo s1).post (fun l s2=>(hi s2).post (fun u s3=>∃ z,fSl s3.h v l u=some z∧P z s3) E) E) E):(jIR a lo hi s).post P E:=by
 unfold jIR
 exact yYZ h
theorem jUW {n:Nat} {mf:MF} {vs:List PV} (h:(vs.length=n∧yW vs=true)∧(mf vs s.h).post (fun v h=>P v ⟨s.e,h⟩) (fun x h=>E x ⟨s.e,h⟩)):(jQE n mf vs s).post P E:=by
 unfold jQE
 exact jQU h
theorem yX {n:Nat} {mf:MF} (h:(ma s).post (fun vs s1=>(vs.length=n∧yW vs=true)∧(mf vs s1.h).post (fun v h=>P v ⟨s1.e,h⟩) (fun x h=>E x ⟨s1.e,h⟩)) E):(vI n mf ma s).post P E:=by
 unfold vI
 exact yNZ h
theorem zU {n0 nk n:Nat} {ix:List Nat} {mf:MF} {mk:MA} (h:(ma s).post (fun vs s1=>(mk s1).post (fun zs s2=>((vs.length=n0∧zs.length=nk)∧yW vs=true∧yW zs=true)∧((pick ix (vs++zs)).length=n∧yW (pick ix (vs++zs))=true) ∧
  (mf (pick ix (vs++zs)) s2.h).post (fun v h=>P v ⟨s2.e,h⟩) (fun x h=>E x ⟨s2.e,h⟩)) E) E):(yAG n0 nk ix n mf ma mk s).post P E:=by
 unfold yAG
 exact yGM h
theorem qN (h:(a s).post (fun v s1=>∃ k,v=.bl k∧br k ((b s1).post P E) (P (.bl false) s1)) E):(jVU a b s).post P E:=by
 unfold jVU
 simp only [jGJ] at h
 exact yOB h
theorem jBT (h:(a s).post (fun v s1=>∃ k,v=.bl k∧br k (P (.bl true) s1) ((b s1).post P E)) E):(yXV a b s).post P E:=by
 unfold yXV
 simp only [jGJ] at h
 exact yWI h
theorem qM (h:(a s).post (fun v s1=>∃ k,v=.bl k∧P (.bl (!k)) s1) E):(yPI a s).post P E:=by
 unfold yPI
 exact yNV h
theorem jBU (h:(ta s).post (fun k s1=>br k ((a s1).post P E) ((b s1).post P E)) E):(yBL ta a b s).post P E:=by
 unfold yBL
 simp only [jGJ] at h
 exact yWM h
theorem jBY (h:(a s).post (fun v s1=>∃ k,tru s1.h v=some k∧PB k s1) E):(xTM a s).post PB E:=by
 unfold xTM
 exact yYY h
theorem jCT (h:(a s).post (fun v s1=>∃ k,v=.bl k∧PB k s1) E):(xBM a s).post PB E:=by
 unfold xBM
 exact yZD h
theorem qO (h:(ta s).post (fun k s1=>br k ((tb s1).post PB E) (PB false s1)) E):(yDL ta tb s).post PB E:=by
 unfold yDL
 simp only [jGJ] at h
 exact yOC h
theorem qI (h:(ta s).post (fun k s1=>br k (PB true s1) ((tb s1).post PB E)) E):(jNJ ta tb s).post PB E:=by
 unfold jNJ
 simp only [jGJ] at h
 exact yWJ h
theorem uG (h:(ta s).post (fun k s1=>PB (!k) s1) E):(jIF ta s).post PB E:=by
 unfold jIF
 exact yNW h
theorem yYB {fm:AH→Str→List PV→Option PV} (h:(a s).post (fun o s1=>∃ x,o=.str x∧(ma s1).post (fun vs s2=>∃ z,fm s2.h x vs=some z∧P z s2) E) E):(yHW fm a ma s).post P E:=by
 unfold yHW
 exact yZB h
theorem zB (h:PF .nx s):(jCV s).post PF E:=by
 unfold jCV
 exact yNS h
theorem uD (h:(x s).post (fun fl s1=>match fl with | .nx=>(y s1).post PF E | fl=>PF fl s1) E):(uC x y s).post PF E:=by
 unfold uC
 exact yWF h
theorem zQ (h:(a s).post (fun _ s1=>PF .nx s1) E):(yED a s).post PF E:=by
 unfold yED
 exact yGH h
theorem kE (h:(a s).post (fun v s1=>isOwn v=false∧PF (.rt v) s1) E):(jAH a s).post PF E:=by
 unfold jAH
 exact yWG h
theorem qL (h:PF (.rt .non) s):(yEC s).post PF E:=by
 unfold yEC
 exact yNU h
theorem wZ (h:(ta s).post (fun k s1=>br k ((x s1).post PF E) ((y s1).post PF E)) E):(jGR ta x y s).post PF E:=by
 unfold jGR
 simp only [jGJ] at h
 exact yWE h
theorem wV (h:(a s).post (fun v s1=>isOwn v=false∧PF .nx ⟨s1.e.set i (some v),s1.h⟩) E):(jCA i a s).post PF E:=by
 unfold jCA
 exact yWQ h
theorem yWA {t:Tg} (h:(a s).post (fun v s1=>isOwn v=false∧∃ e1,uW t v s1.e=some e1∧PF .nx ⟨e1,s1.h⟩) E):(jYF t a s).post PF E:=by
 unfold jYF
 exact yOA h
theorem jBS {j:Nat} (h:(ma s).post (fun vs s1=>∃ v w,vs=[v,w]∧(isOwn v=false∧isOwn w=false)∧PF .nx ⟨(s1.e.set i (some v)).set j (some w),s1.h⟩) E):(yPH i j ma s).post PF E:=by
 unfold yPH
 exact yWH h
theorem yVX (h:(a s).post (fun v s1=>(b s1).post (fun o s2=>(c s2).post (fun k s3=>∃ n xs ys,o=.cel n∧jLW s3.h n=some xs∧yBM xs k v=some ys∧PF .nx ⟨s3.e,s3.h.set n (some (.lst ys))⟩) E) E) E):(jHP a b c s).post PF E:=by
 unfold jHP
 exact yNT h
theorem jQD {src:S→R S Sr} {t:Tg} (h:(src s).post (fun r s1=>r.w=[]∧r.o=false∧r.xs.length≤sizeLine∧(jDJ ⟨r.xs,[],false⟩ t x r.xs s1).post PF E) E):(jLR src t x s).post PF E:=by
 unfold jLR
 exact yWN h
theorem jCY {m:ME} {PS:Sr→S→Prop} (h:(m s).post (fun v s1=>∃ r,srcOf s1.h v=some r∧PS r s1) E):(jCW m s).post PS E:=by
 unfold jCW
 exact yWR h
theorem jPS {src:S→R S Sr} {t:Tg} {tt:S→R S Bool} {te:ME} {vs:List Nat}
  (h:(src s).post (fun r s1=>r.w=[]∧∃ I:Nat→List PV→AH→Prop,I 0 [] s1.h∧(∀ (j:Nat) (v:PV) (acc:List PV) (h:AH),r.xs[j]?=some v→I j acc h→∃ e1,uW t v (jM s1.e vs)=some e1 ∧
   (tt ⟨e1,h⟩).post (fun k s2=>br k ((te s2).post (fun y s3=>isOwn y=false∧jM s3.e vs=jM s1.e vs∧I (j+1) (acc++[y]) s3.h) NE) (jM s2.e vs=jM s1.e vs∧I (j+1) acc s2.h)) NE)∧∀ acc h,I r.xs.length acc h→PA acc ⟨jM s1.e vs,h⟩) E):(wW src t tt te vs s).post PA E:=by
 unfold wW
 simp only [jGJ] at h
 exact yGK h
end
end Lp
set_option maxHeartbeats 4000000
namespace Lp
open PySem PySem.Spec PyProof.Rows L2
def Bag (l:List PV):Prop:=∃ (ns:List Int) (i c sd t:Int),l=[.lst (ns.map .int),.int i,.int c,.int sd,.int t]∧0≤i∧0≤c∧0≤sd∧sd < 2147483587
theorem jCN {h:AH} {n:Nat} {l:List PV} (hn:n < h.length):jLW (h.set n (some (.lst l))) n=some l:=by
 unfold jLW
 rw [List.getElem?_set_self hn]
theorem jGK {h:AH} {n:Nat} {l:List PV} {i:Int} {z:PV} (e:jLW h n=some l) (e2:atI l i=some z):fIx h (.cel n) (.int i)=some z:=by
 have q:=jMO e
 unfold fIx
 show (match asS h (.cel n) with | some xs=>atI xs i | none=>none)=some z
 have:asS h (.cel n)=some l:=by
  unfold asS asL
  simp only [q]
 rw [this]
 exact e2
theorem qK {PF:Fl→S→Prop} {E:PV→S→Prop} {a b c:ME} {s:S} (q:(a s).post (fun v s1=>(b s1).post (fun o s2=>(c s2).post (fun k s3=>∃ (n:Nat) (h:AH) (l ys:List PV),o=.cel n∧n < h.length∧s3.h=h.set n (some (.lst l))∧yBM l k v=some ys∧PF .nx ⟨s3.e,h.set n (some (.lst ys))⟩) E) E) E) :
  (jHP a b c s).post PF E :=
 yVX (p_mono q (fun v s1 q=>p_mono q (fun o s2 q=>p_mono q (fun k s3 ⟨n,h,l,ys,e1,e2,e3,e4,q⟩=>⟨n,l,ys,e1,by rw [e3]; exact jCN e2,e4,by rw [e3,List.set_set]; exact q⟩) fun _ _ z=>z) fun _ _ z=>z) fun _ _ z=>z)
theorem yHV {ns:List Int} {i:Int} (h0:0≤i) (h1:i < ns.length):∃ k,atI (ns.map PV.int) i=some (.int k):=by
 unfold atI ixN
 rw [if_pos h0,List.length_map,if_pos h1]
 show ∃ k,(ns.map PV.int)[i.toNat]?=some (.int k)
 rw [List.getElem?_map,List.getElem?_eq_getElem (by omega)]
 exact ⟨_,rfl⟩
theorem yWZ {i j:Int} (h:j.natAbs < 18446744073709551616):jXZ i j=some (i * j):=if_pos (.inr h)
theorem yXA {i j:Int} (h:i.natAbs < 18446744073709551616):jXZ i j=some (i * j):=if_pos (.inl h)
theorem jYU {h:AH} {i j:Int} (hj:j.natAbs < 18446744073709551616):jBZ h (.int i) (.int j)=some (.int (i * j)):=by
 show (jXZ i j).map PV.int=_
 rw [yWZ hj]; rfl
theorem yXJ {h:AH} {i j:Int} (hj:i.natAbs < 18446744073709551616):jBZ h (.int i) (.int j)=some (.int (i * j)):=by
 show (jXZ i j).map PV.int=_
 rw [yXA hj]; rfl
theorem jUJ {h:AH} {i j:Int} (hj:j≠0):jIX h (.int i) (.int j)=some (.int (i.fmod j)):=by
 show (yDD i j).map PV.int=_
 unfold yDD
 rw [if_pos hj]; rfl
theorem yEU {h:AH} {i j:Int} (hj:j≠0) (h2:j.natAbs < 1073741824):jVP h (.int i) (.int j)=some (.int (i.fdiv j)):=by
 show (jWA i j).map PV.int=_
 unfold jWA
 rw [if_pos ⟨hj,h2⟩]; rfl
theorem jPU (i j:Int):PyData.eqv (.int i) (.int j)=decide (i=j):=rfl
theorem jHS {a b:Int} (h:0 < b):0≤a.fmod b∧a.fmod b < b:=⟨Int.fmod_nonneg_of_pos a h,Int.fmod_lt_of_pos a h⟩
noncomputable def yEX:MS:=(yI (sIf (andM (bM (jO fEq (jO fIx (jF 0) (eC (.int 2))) (eC (.int 0)))) (bM (jO fLt (jO fIx (jF 0) (eC (.int 1))) (eCB jEG (jC (jO fIx (jF 0) (eC (.int 0))) jL))))) (yI (kY 2 (jO fIx (jO fIx (jF 0) (eC (.int 0))) (jO fIx (jF 0) (eC (.int 1)))))
 (yI (jFV (jO uB (jO fIx (jF 0) (eC (.int 1))) (eC (.int 1))) (jF 0) (eC (.int 1)))
 (yI (jFV (ifM (bM (jO fGe (jF 2) (jO yIC (eC (.int 10)) (eC (.int 18))))) (jF 2) (eC (.int 0))) (jF 0) (eC (.int 2)))
 (jFV (jO jIX (eCB jDN (jC (jO uB (jO uB (jO jBZ (jO fIx (jF 0) (eC (.int 3))) (eC (.int 40031))) (jO jBZ (jO jIX (eCB jDN (jC (jF 2) jL)) (eC (.int 2147483549))) (eC (.int 331)))) (eC (.int 2011))) jL)) (eC (.int 2147483587))) (jF 0) (eC (.int 3)))))) uZ)
 (yI (sIf (bM (jO fGt (jO fIx (jF 0) (eC (.int 2))) (eC (.int 0)))) (yI (kY 3 (jO jIX (eCB jDN (jC (jO fIx (jF 0) (eC (.int 2))) jL)) (jF 1)))
 (yI (jFV (jO jVP (jO fIx (jF 0) (eC (.int 2))) (jF 1)) (jF 0) (eC (.int 2)))
 (wD (jF 3)))) uZ)
 (yI (jFV (jO uB (jO fIx (jF 0) (eC (.int 4))) (eC (.int 1))) (jF 0) (eC (.int 4)))
 (yI (kY 4 (jO fIx (jF 0) (eC (.int 3))))
 (yI (jFV (jO jIX (eCB jDN (jC (jO uB (jO uB (jO uB (jO jBZ (jF 4) (jF 4)) (jO jBZ (eC (.int 65071)) (jF 4))) (jO jBZ (eC (.int 6673)) (jO fIx (jF 0) (eC (.int 4))))) (eC (.int 40013))) jL)) (eC (.int 2147483587))) (jF 0) (eC (.int 3)))
 (wD (jO jIX (eCB jDN (jC (jO uB (jO uB (jO jVP (jO fIx (jF 0) (eC (.int 3))) (eC (.int 61))) (jO jBZ (jF 4) (eC (.int 32009)))) (jO fIx (jF 0) (eC (.int 4)))) jL)) (jF 1))))))))
noncomputable def yEW:MS:=(uC (jGR (yDL (xBM (jZ fEq (jZ fIx (jK 0) (xEC (.int 2))) (xEC (.int 0)))) (xBM (jZ fLt (jZ fIx (jK 0) (xEC (.int 1))) (xECB jEG (jE (jZ fIx (jK 0) (xEC (.int 0))) jR))))) (uC (jCA 2 (jZ fIx (jZ fIx (jK 0) (xEC (.int 0))) (jZ fIx (jK 0) (xEC (.int 1)))))
 (uC (jHP (jZ uB (jZ fIx (jK 0) (xEC (.int 1))) (xEC (.int 1))) (jK 0) (xEC (.int 1)))
 (uC (jHP (yBL (xBM (jZ fGe (jK 2) (jZ yIC (xEC (.int 10)) (xEC (.int 18))))) (jK 2) (xEC (.int 0))) (jK 0) (xEC (.int 2)))
 (jHP (jZ jIX (xECB jDN (jE (jZ uB (jZ uB (jZ jBZ (jZ fIx (jK 0) (xEC (.int 3))) (xEC (.int 40031))) (jZ jBZ (jZ jIX (xECB jDN (jE (jK 2) jR)) (xEC (.int 2147483549))) (xEC (.int 331)))) (xEC (.int 2011))) jR)) (xEC (.int 2147483587))) (jK 0) (xEC (.int 3)))))) jCV)
 (uC (jGR (xBM (jZ fGt (jZ fIx (jK 0) (xEC (.int 2))) (xEC (.int 0)))) (uC (jCA 3 (jZ jIX (xECB jDN (jE (jZ fIx (jK 0) (xEC (.int 2))) jR)) (jK 1)))
 (uC (jHP (jZ jVP (jZ fIx (jK 0) (xEC (.int 2))) (jK 1)) (jK 0) (xEC (.int 2)))
 (jAH (jK 3)))) jCV)
 (uC (jHP (jZ uB (jZ fIx (jK 0) (xEC (.int 4))) (xEC (.int 1))) (jK 0) (xEC (.int 4)))
 (uC (jCA 4 (jZ fIx (jK 0) (xEC (.int 3))))
 (uC (jHP (jZ jIX (xECB jDN (jE (jZ uB (jZ uB (jZ uB (jZ jBZ (jK 4) (jK 4)) (jZ jBZ (xEC (.int 65071)) (jK 4))) (jZ jBZ (xEC (.int 6673)) (jZ fIx (jK 0) (xEC (.int 4))))) (xEC (.int 40013))) jR)) (xEC (.int 2147483587))) (jK 0) (xEC (.int 3)))
 (jAH (jZ jIX (xECB jDN (jE (jZ uB (jZ uB (jZ jVP (jZ fIx (jK 0) (xEC (.int 3))) (xEC (.int 61))) (jZ jBZ (jK 4) (xEC (.int 32009)))) (jZ fIx (jK 0) (xEC (.int 4)))) jR)) (jK 1))))))))
theorem yOX:yEX=yEW:=by kernel_rfl
@[irreducible] noncomputable def jLV:MF:=mkF 3 yEX
section
theorem yCU {h:AH} {n:Nat} {l:List PV} (hn:n < h.length) (b:Bag l) {k:Int} (hk:1≤k) (hk2:k < 1073741824) :
  (jLV [.cel n,.int k] (h.set n (some (.lst l)))).post (fun v h'=>∃ d l',v=.int d∧0≤d∧d < k∧Bag l'∧h'=h.set n (some (.lst l'))) NE:=by
 obtain ⟨ns,i,c,sd,t,rfl,h1,h2,h3,h4⟩:=b
 unfold jLV
 rw [yOX]
 unfold yEW
 refine jCX [some (.cel n),some (.int k),none,none,none] rfl (uD (uF (P':=fun fl s1=>fl=.nx∧∃ l' x,Bag l'∧s1=⟨[some (.cel n),some (.int k),x,none,none],h.set n (some (.lst l'))⟩) ?_ ?_))
 ·(repeat (first | refine jU rfl ?_ | refine p_c ?_ | refine uE ?_ | refine jP ?_ | refine yE ?_ | refine uD ?_ | refine wV ?_ | refine wZ ?_ | refine kE ?_ | refine jCT ?_ | refine jBY ?_ | refine jBP ?_ | refine qO ?_ | refine qI ?_ | refine uG ?_ | refine zR ?_ | refine qN ?_ | refine jBT ?_ | refine qM ?_ | refine jBU ?_ | refine jAA ?_ | refine zK ?_ | refine yX ?_ | refine zU ?_ | refine ⟨⟨⟨rfl,rfl⟩,rfl,rfl⟩,⟨rfl,rfl⟩,?_⟩ | refine qK ?_ | refine jCU ?_ | refine vU ?_ | refine vW ?_ | refine zB ?_ | refine zQ ?_ | refine qL ?_ | refine jBS ?_ | refine jCK ?_ | refine zV rfl ?_ | refine zA rfl ?_ | refine ⟨_,rfl,?_⟩ | refine ⟨⟨rfl,rfl⟩,?_⟩ | refine ⟨⟨rfl,Nat.le_of_ble_eq_true rfl⟩,?_⟩ | refine ⟨_,_,_,_,rfl,hn,rfl,rfl,?_⟩ | (refine ⟨_,_,rfl,⟨rfl,rfl⟩,?_⟩; try dsimp only [jM,List.set_cons_succ,List.set_cons_zero]) | (refine ⟨rfl,?_⟩; try dsimp only [jM,List.set_cons_succ,List.set_cons_zero]) | refine ⟨_,jGK (jCN hn) rfl,?_⟩))
  refine yBN (fun hc=>?_) fun hc=>?_
  ·(repeat (first | refine jU rfl ?_ | refine p_c ?_ | refine uE ?_ | refine jP ?_ | refine yE ?_ | refine uD ?_ | refine wV ?_ | refine wZ ?_ | refine kE ?_ | refine jCT ?_ | refine jBY ?_ | refine jBP ?_ | refine qO ?_ | refine qI ?_ | refine uG ?_ | refine zR ?_ | refine qN ?_ | refine jBT ?_ | refine qM ?_ | refine jBU ?_ | refine jAA ?_ | refine zK ?_ | refine yX ?_ | refine zU ?_ | refine ⟨⟨⟨rfl,rfl⟩,rfl,rfl⟩,⟨rfl,rfl⟩,?_⟩ | refine qK ?_ | refine jCU ?_ | refine vU ?_ | refine vW ?_ | refine zB ?_ | refine zQ ?_ | refine qL ?_ | refine jBS ?_ | refine jCK ?_ | refine zV rfl ?_ | refine zA rfl ?_ | refine ⟨_,rfl,?_⟩ | refine ⟨⟨rfl,rfl⟩,?_⟩ | refine ⟨⟨rfl,Nat.le_of_ble_eq_true rfl⟩,?_⟩ | refine ⟨_,_,_,_,rfl,hn,rfl,rfl,?_⟩ | (refine ⟨_,_,rfl,⟨rfl,rfl⟩,?_⟩; try dsimp only [jM,List.set_cons_succ,List.set_cons_zero]) | (refine ⟨rfl,?_⟩; try dsimp only [jM,List.set_cons_succ,List.set_cons_zero]) | refine ⟨_,jGK (jCN hn) rfl,?_⟩))
   refine yBN (fun hi=>?_) fun hi=>?_
   ·have hi:i < (((ns.map PV.int).length:Nat):Int):=of_decide_eq_true hi
    obtain ⟨q,eq⟩:=yHV h1 (by simpa using hi)
    (repeat (first | refine jU rfl ?_ | refine p_c ?_ | refine uE ?_ | refine jP ?_ | refine yE ?_ | refine uD ?_ | refine wV ?_ | refine wZ ?_ | refine kE ?_ | refine jCT ?_ | refine jBY ?_ | refine jBP ?_ | refine qO ?_ | refine qI ?_ | refine uG ?_ | refine zR ?_ | refine qN ?_ | refine jBT ?_ | refine qM ?_ | refine jBU ?_ | refine jAA ?_ | refine zK ?_ | refine yX ?_ | refine zU ?_ | refine ⟨⟨⟨rfl,rfl⟩,rfl,rfl⟩,⟨rfl,rfl⟩,?_⟩ | refine qK ?_ | refine jCU ?_ | refine vU ?_ | refine vW ?_ | refine zB ?_ | refine zQ ?_ | refine qL ?_ | refine jBS ?_ | refine jCK ?_ | refine zV rfl ?_ | refine zA rfl ?_ | refine ⟨_,rfl,?_⟩ | refine ⟨⟨rfl,rfl⟩,?_⟩ | refine ⟨⟨rfl,Nat.le_of_ble_eq_true rfl⟩,?_⟩ | refine ⟨_,_,_,_,rfl,hn,rfl,rfl,?_⟩ | (refine ⟨_,_,rfl,⟨rfl,rfl⟩,?_⟩; try dsimp only [jM,List.set_cons_succ,List.set_cons_zero]) | (refine ⟨rfl,?_⟩; try dsimp only [jM,List.set_cons_succ,List.set_cons_zero]) | refine ⟨_,jGK (jCN hn) rfl,?_⟩ | refine ⟨_,eq,?_⟩))
    have fin:=@jHS
    refine yBN (fun hq=>?_) fun hq=>?_
    ·have hq:(10:Int) ^ 18≤q:=of_decide_eq_true hq
     (repeat (first | refine jU rfl ?_ | refine p_c ?_ | refine uE ?_ | refine jP ?_ | refine yE ?_ | refine uD ?_ | refine wV ?_ | refine wZ ?_ | refine kE ?_ | refine jCT ?_ | refine jBY ?_ | refine jBP ?_ | refine qO ?_ | refine qI ?_ | refine uG ?_ | refine zR ?_ | refine qN ?_ | refine jBT ?_ | refine qM ?_ | refine jBU ?_ | refine jAA ?_ | refine zK ?_ | refine yX ?_ | refine zU ?_ | refine ⟨⟨⟨rfl,rfl⟩,rfl,rfl⟩,⟨rfl,rfl⟩,?_⟩ | refine qK ?_ | refine jCU ?_ | refine vU ?_ | refine vW ?_ | refine zB ?_ | refine zQ ?_ | refine qL ?_ | refine jBS ?_ | refine jCK ?_ | refine zV rfl ?_ | refine zA rfl ?_ | refine ⟨_,rfl,?_⟩ | refine ⟨⟨rfl,rfl⟩,?_⟩ | refine ⟨⟨rfl,Nat.le_of_ble_eq_true rfl⟩,?_⟩ | refine ⟨_,_,_,_,rfl,hn,rfl,rfl,?_⟩ | (refine ⟨_,_,rfl,⟨rfl,rfl⟩,?_⟩; try dsimp only [jM,List.set_cons_succ,List.set_cons_zero]) | (refine ⟨rfl,?_⟩; try dsimp only [jM,List.set_cons_succ,List.set_cons_zero]) | refine ⟨_,jGK (jCN hn) rfl,?_⟩ | refine ⟨_,eq,?_⟩ | refine ⟨_,jYU (by decide),?_⟩ | refine ⟨_,jUJ (by decide),?_⟩))
     refine ⟨_,some _,⟨ns,i+1,q,_,t,rfl,by omega,by omega,(fin (by decide)).1,(fin (by decide)).2⟩,rfl⟩
    ·(repeat (first | refine jU rfl ?_ | refine p_c ?_ | refine uE ?_ | refine jP ?_ | refine yE ?_ | refine uD ?_ | refine wV ?_ | refine wZ ?_ | refine kE ?_ | refine jCT ?_ | refine jBY ?_ | refine jBP ?_ | refine qO ?_ | refine qI ?_ | refine uG ?_ | refine zR ?_ | refine qN ?_ | refine jBT ?_ | refine qM ?_ | refine jBU ?_ | refine jAA ?_ | refine zK ?_ | refine yX ?_ | refine zU ?_ | refine ⟨⟨⟨rfl,rfl⟩,rfl,rfl⟩,⟨rfl,rfl⟩,?_⟩ | refine qK ?_ | refine jCU ?_ | refine vU ?_ | refine vW ?_ | refine zB ?_ | refine zQ ?_ | refine qL ?_ | refine jBS ?_ | refine jCK ?_ | refine zV rfl ?_ | refine zA rfl ?_ | refine ⟨_,rfl,?_⟩ | refine ⟨⟨rfl,rfl⟩,?_⟩ | refine ⟨⟨rfl,Nat.le_of_ble_eq_true rfl⟩,?_⟩ | refine ⟨_,_,_,_,rfl,hn,rfl,rfl,?_⟩ | (refine ⟨_,_,rfl,⟨rfl,rfl⟩,?_⟩; try dsimp only [jM,List.set_cons_succ,List.set_cons_zero]) | (refine ⟨rfl,?_⟩; try dsimp only [jM,List.set_cons_succ,List.set_cons_zero]) | refine ⟨_,jGK (jCN hn) rfl,?_⟩ | refine ⟨_,eq,?_⟩ | refine ⟨_,jYU (by decide),?_⟩ | refine ⟨_,jUJ (by decide),?_⟩))
     refine ⟨_,some _,⟨ns,i+1,0,_,t,rfl,by omega,by omega,(fin (by decide)).1,(fin (by decide)).2⟩,rfl⟩
   ·(repeat (first | refine jU rfl ?_ | refine p_c ?_ | refine uE ?_ | refine jP ?_ | refine yE ?_ | refine uD ?_ | refine wV ?_ | refine wZ ?_ | refine kE ?_ | refine jCT ?_ | refine jBY ?_ | refine jBP ?_ | refine qO ?_ | refine qI ?_ | refine uG ?_ | refine zR ?_ | refine qN ?_ | refine jBT ?_ | refine qM ?_ | refine jBU ?_ | refine jAA ?_ | refine zK ?_ | refine yX ?_ | refine zU ?_ | refine ⟨⟨⟨rfl,rfl⟩,rfl,rfl⟩,⟨rfl,rfl⟩,?_⟩ | refine qK ?_ | refine jCU ?_ | refine vU ?_ | refine vW ?_ | refine zB ?_ | refine zQ ?_ | refine qL ?_ | refine jBS ?_ | refine jCK ?_ | refine zV rfl ?_ | refine zA rfl ?_ | refine ⟨_,rfl,?_⟩ | refine ⟨⟨rfl,rfl⟩,?_⟩ | refine ⟨⟨rfl,Nat.le_of_ble_eq_true rfl⟩,?_⟩ | refine ⟨_,_,_,_,rfl,hn,rfl,rfl,?_⟩ | (refine ⟨_,_,rfl,⟨rfl,rfl⟩,?_⟩; try dsimp only [jM,List.set_cons_succ,List.set_cons_zero]) | (refine ⟨rfl,?_⟩; try dsimp only [jM,List.set_cons_succ,List.set_cons_zero])))
    exact ⟨_,none,⟨ns,i,c,sd,t,rfl,h1,h2,h3,h4⟩,rfl⟩
  ·(repeat (first | refine jU rfl ?_ | refine p_c ?_ | refine uE ?_ | refine jP ?_ | refine yE ?_ | refine uD ?_ | refine wV ?_ | refine wZ ?_ | refine kE ?_ | refine jCT ?_ | refine jBY ?_ | refine jBP ?_ | refine qO ?_ | refine qI ?_ | refine uG ?_ | refine zR ?_ | refine qN ?_ | refine jBT ?_ | refine qM ?_ | refine jBU ?_ | refine jAA ?_ | refine zK ?_ | refine yX ?_ | refine zU ?_ | refine ⟨⟨⟨rfl,rfl⟩,rfl,rfl⟩,⟨rfl,rfl⟩,?_⟩ | refine qK ?_ | refine jCU ?_ | refine vU ?_ | refine vW ?_ | refine zB ?_ | refine zQ ?_ | refine qL ?_ | refine jBS ?_ | refine jCK ?_ | refine zV rfl ?_ | refine zA rfl ?_ | refine ⟨_,rfl,?_⟩ | refine ⟨⟨rfl,rfl⟩,?_⟩ | refine ⟨⟨rfl,Nat.le_of_ble_eq_true rfl⟩,?_⟩ | refine ⟨_,_,_,_,rfl,hn,rfl,rfl,?_⟩ | (refine ⟨_,_,rfl,⟨rfl,rfl⟩,?_⟩; try dsimp only [jM,List.set_cons_succ,List.set_cons_zero]) | (refine ⟨rfl,?_⟩; try dsimp only [jM,List.set_cons_succ,List.set_cons_zero])))
   exact ⟨_,none,⟨ns,i,c,sd,t,rfl,h1,h2,h3,h4⟩,rfl⟩
 ·rintro fl s1 ⟨rfl,l',x,⟨ns,i,c,sd,t,rfl,h1,h2,h3,h4⟩,rfl⟩
  dsimp only
  (repeat (first | refine jU rfl ?_ | refine p_c ?_ | refine uE ?_ | refine jP ?_ | refine yE ?_ | refine uD ?_ | refine wV ?_ | refine wZ ?_ | refine kE ?_ | refine jCT ?_ | refine jBY ?_ | refine jBP ?_ | refine qO ?_ | refine qI ?_ | refine uG ?_ | refine zR ?_ | refine qN ?_ | refine jBT ?_ | refine qM ?_ | refine jBU ?_ | refine jAA ?_ | refine zK ?_ | refine yX ?_ | refine zU ?_ | refine ⟨⟨⟨rfl,rfl⟩,rfl,rfl⟩,⟨rfl,rfl⟩,?_⟩ | refine qK ?_ | refine jCU ?_ | refine vU ?_ | refine vW ?_ | refine zB ?_ | refine zQ ?_ | refine qL ?_ | refine jBS ?_ | refine jCK ?_ | refine zV rfl ?_ | refine zA rfl ?_ | refine ⟨_,rfl,?_⟩ | refine ⟨⟨rfl,rfl⟩,?_⟩ | refine ⟨⟨rfl,Nat.le_of_ble_eq_true rfl⟩,?_⟩ | refine ⟨_,_,_,_,rfl,hn,rfl,rfl,?_⟩ | (refine ⟨_,_,rfl,⟨rfl,rfl⟩,?_⟩; try dsimp only [jM,List.set_cons_succ,List.set_cons_zero]) | (refine ⟨rfl,?_⟩; try dsimp only [jM,List.set_cons_succ,List.set_cons_zero]) | refine ⟨_,jGK (jCN hn) rfl,?_⟩))
  refine yBN (fun hc=>?_) fun hc=>?_
  ·have hc:(0:Int) < c:=of_decide_eq_true hc
   (repeat (first | refine jU rfl ?_ | refine p_c ?_ | refine uE ?_ | refine jP ?_ | refine yE ?_ | refine uD ?_ | refine wV ?_ | refine wZ ?_ | refine kE ?_ | refine jCT ?_ | refine jBY ?_ | refine jBP ?_ | refine qO ?_ | refine qI ?_ | refine uG ?_ | refine zR ?_ | refine qN ?_ | refine jBT ?_ | refine qM ?_ | refine jBU ?_ | refine jAA ?_ | refine zK ?_ | refine yX ?_ | refine zU ?_ | refine ⟨⟨⟨rfl,rfl⟩,rfl,rfl⟩,⟨rfl,rfl⟩,?_⟩ | refine qK ?_ | refine jCU ?_ | refine vU ?_ | refine vW ?_ | refine zB ?_ | refine zQ ?_ | refine qL ?_ | refine jBS ?_ | refine jCK ?_ | refine zV rfl ?_ | refine zA rfl ?_ | refine ⟨_,rfl,?_⟩ | refine ⟨⟨rfl,rfl⟩,?_⟩ | refine ⟨⟨rfl,Nat.le_of_ble_eq_true rfl⟩,?_⟩ | refine ⟨_,_,_,_,rfl,hn,rfl,rfl,?_⟩ | (refine ⟨_,_,rfl,⟨rfl,rfl⟩,?_⟩; try dsimp only [jM,List.set_cons_succ,List.set_cons_zero]) | (refine ⟨rfl,?_⟩; try dsimp only [jM,List.set_cons_succ,List.set_cons_zero]) | refine ⟨_,jGK (jCN hn) rfl,?_⟩ | refine ⟨_,jUJ (by omega),?_⟩ | refine ⟨_,yEU (by omega) (by omega),?_⟩))
   refine ⟨_,_,rfl,(jHS (by omega)).1,(jHS (by omega)).2,⟨ns,i,_,sd,t,rfl,h1,?_,h3,h4⟩,rfl⟩
   exact Int.fdiv_nonneg (by omega) (by omega)
  ·(repeat (first | refine jU rfl ?_ | refine p_c ?_ | refine uE ?_ | refine jP ?_ | refine yE ?_ | refine uD ?_ | refine wV ?_ | refine wZ ?_ | refine kE ?_ | refine jCT ?_ | refine jBY ?_ | refine jBP ?_ | refine qO ?_ | refine qI ?_ | refine uG ?_ | refine zR ?_ | refine qN ?_ | refine jBT ?_ | refine qM ?_ | refine jBU ?_ | refine jAA ?_ | refine zK ?_ | refine yX ?_ | refine zU ?_ | refine ⟨⟨⟨rfl,rfl⟩,rfl,rfl⟩,⟨rfl,rfl⟩,?_⟩ | refine qK ?_ | refine jCU ?_ | refine vU ?_ | refine vW ?_ | refine zB ?_ | refine zQ ?_ | refine qL ?_ | refine jBS ?_ | refine jCK ?_ | refine zV rfl ?_ | refine zA rfl ?_ | refine ⟨_,rfl,?_⟩ | refine ⟨⟨rfl,rfl⟩,?_⟩ | refine ⟨⟨rfl,Nat.le_of_ble_eq_true rfl⟩,?_⟩ | refine ⟨_,_,_,_,rfl,hn,rfl,rfl,?_⟩ | (refine ⟨_,_,rfl,⟨rfl,rfl⟩,?_⟩; try dsimp only [jM,List.set_cons_succ,List.set_cons_zero]) | (refine ⟨rfl,?_⟩; try dsimp only [jM,List.set_cons_succ,List.set_cons_zero]) | refine ⟨_,jGK (jCN hn) rfl,?_⟩ | refine ⟨_,jUJ (by omega),?_⟩ | refine ⟨_,yEU (by omega) (by omega),?_⟩ | refine ⟨_,yXJ (by omega),?_⟩ | refine ⟨_,jYU (by omega),?_⟩))
   exact ⟨_,_,rfl,(jHS (by omega)).1,(jHS (by omega)).2,⟨ns,i,c,_,_,rfl,h1,h2,(jHS (by decide)).1,(jHS (by decide)).2⟩,rfl⟩
end
end Lp
set_option maxHeartbeats 4000000
namespace Lp
open PySem PySem.Spec PyProof.Rows L2
noncomputable def yYC:MS:=(wD (jO fIx (jF 1) (yP 2 jLV (jC (jF 0) (jC (eCB jEG (jC (jF 1) jL)) jL)))))
noncomputable def yQI:MS:=(jAH (jZ fIx (jK 1) (vI 2 jLV (jE (jK 0) (jE (xECB jEG (jE (jK 1) jR)) jR)))))
theorem yPS:yYC=yQI:=by kernel_rfl
@[irreducible] noncomputable def ofM:MF:=mkF 0 yYC
def BagAt (h:AH) (n:Nat) (h':AH):Prop:=∃ l,Bag l∧h'=h.set n (some (.lst l))
section
theorem jHT {h h1:AH} {n:Nat} (hn:n < h.length) (b:BagAt h n h1) {k:Int} (hk:1≤k) (hk2:k < 1073741824):(jLV [.cel n,.int k] h1).post (fun v h'=>(∃ d,v=.int d∧0≤d∧d < k)∧BagAt h n h') NE:=by
 obtain ⟨l,b,rfl⟩:=b
 exact p_mono (yCU hn b hk hk2) (fun v h' ⟨d,l',e,h1,h2,b,e'⟩=>⟨⟨d,e,h1,h2⟩,l',b,e'⟩) fun _ _ z=>z
theorem yFD {α:Type} {xs:List α} {d:Int} (h0:0≤d) (h1:d < xs.length):∃ x,atI xs d=some x∧x∈xs:=by
 unfold atI ixN
 rw [if_pos h0,if_pos h1]
 have:d.toNat < xs.length:=by omega
 exact ⟨xs[d.toNat],by show xs[d.toNat]?=_; exact List.getElem?_eq_getElem this,List.getElem_mem this⟩
theorem yBE {h:AH} {x:Str} {i:Int}:fIx h (.str x) (.int i)=(atI x.cps.toList i).map fun c=>.str ⟨#[c]⟩:=rfl
theorem jYM {h h1:AH} {n:Nat} (hn:n < h.length) (b:BagAt h n h1) {xs:List PV} (h0:1≤xs.length) (h2:xs.length < 1073741824) (hs:yW xs=true) :
  (ofM [.cel n,.lst xs] h1).post (fun v h'=>v∈xs∧BagAt h n h') NE:=by
 unfold ofM
 rw [yPS]
 unfold yQI
 refine jCX [some (.cel n),some (.lst xs)] rfl ?_
 (repeat (first | refine jU rfl ?_ | refine p_c ?_ | refine uE ?_ | refine jP ?_ | refine yE ?_ | refine uD ?_ | refine wV ?_ | refine wZ ?_ | refine kE ?_ | refine jCT ?_ | refine jBY ?_ | refine jBP ?_ | refine qO ?_ | refine qI ?_ | refine uG ?_ | refine zR ?_ | refine qN ?_ | refine jBT ?_ | refine qM ?_ | refine jBU ?_ | refine jAA ?_ | refine zK ?_ | refine yX ?_ | refine zU ?_ | refine ⟨⟨⟨rfl,rfl⟩,rfl,rfl⟩,⟨rfl,rfl⟩,?_⟩ | refine qK ?_ | refine jCU ?_ | refine vU ?_ | refine vW ?_ | refine zB ?_ | refine zQ ?_ | refine qL ?_ | refine jBS ?_ | refine jCK ?_ | refine zV rfl ?_ | refine zA rfl ?_ | refine ⟨_,rfl,?_⟩ | refine ⟨⟨rfl,rfl⟩,?_⟩ | refine ⟨⟨rfl,Nat.le_of_ble_eq_true rfl⟩,?_⟩ | refine ⟨_,_,_,_,rfl,hn,rfl,rfl,?_⟩ | (refine ⟨_,_,rfl,⟨rfl,rfl⟩,?_⟩; try dsimp only [jM,List.set_cons_succ,List.set_cons_zero]) | (refine ⟨rfl,?_⟩; try dsimp only [jM,List.set_cons_succ,List.set_cons_zero])))
 refine uF (jHT hn b (k:=(xs.length:Int)) (by omega) (by omega)) fun v h' ⟨⟨d,e,d0,d1⟩,b'⟩=>?_
 subst e
 obtain ⟨x,ex,hx⟩:=yFD (xs:=xs) d0 (by simpa using d1)
 refine ⟨x,ex,?_,hx,b'⟩
 unfold yW at hs
 have:=List.all_eq_true.mp hs x hx
 simpa using this
theorem yWT {h h1:AH} {n:Nat} (hn:n < h.length) (b:BagAt h n h1) {x:Str} (h0:1≤x.length) (h2:x.length < 1073741824) :
  (ofM [.cel n,.str x] h1).post (fun v h'=>(∃ c∈x.cps.toList,v=.str ⟨#[c]⟩)∧BagAt h n h') NE:=by
 unfold ofM
 rw [yPS]
 unfold yQI
 refine jCX [some (.cel n),some (.str x)] rfl ?_
 (repeat (first | refine jU rfl ?_ | refine p_c ?_ | refine uE ?_ | refine jP ?_ | refine yE ?_ | refine uD ?_ | refine wV ?_ | refine wZ ?_ | refine kE ?_ | refine jCT ?_ | refine jBY ?_ | refine jBP ?_ | refine qO ?_ | refine qI ?_ | refine uG ?_ | refine zR ?_ | refine qN ?_ | refine jBT ?_ | refine qM ?_ | refine jBU ?_ | refine jAA ?_ | refine zK ?_ | refine yX ?_ | refine zU ?_ | refine ⟨⟨⟨rfl,rfl⟩,rfl,rfl⟩,⟨rfl,rfl⟩,?_⟩ | refine qK ?_ | refine jCU ?_ | refine vU ?_ | refine vW ?_ | refine zB ?_ | refine zQ ?_ | refine qL ?_ | refine jBS ?_ | refine jCK ?_ | refine zV rfl ?_ | refine zA rfl ?_ | refine ⟨_,rfl,?_⟩ | refine ⟨⟨rfl,rfl⟩,?_⟩ | refine ⟨⟨rfl,Nat.le_of_ble_eq_true rfl⟩,?_⟩ | refine ⟨_,_,_,_,rfl,hn,rfl,rfl,?_⟩ | (refine ⟨_,_,rfl,⟨rfl,rfl⟩,?_⟩; try dsimp only [jM,List.set_cons_succ,List.set_cons_zero]) | (refine ⟨rfl,?_⟩; try dsimp only [jM,List.set_cons_succ,List.set_cons_zero])))
 refine uF (jHT hn b (k:=(x.length:Int)) (by omega) (by omega)) fun v h' ⟨⟨d,e,d0,d1⟩,b'⟩=>?_
 subst e
 obtain ⟨c,ec,hc⟩:=yFD (xs:=x.cps.toList) d0 (by simpa [Str.length] using d1)
 refine ⟨.str ⟨#[c]⟩,by rw [yBE,ec]; rfl,rfl,⟨c,hc,rfl⟩,b'⟩
end
end Lp
set_option maxHeartbeats 4000000
namespace Lp
open PySem PySem.Spec PyProof.Rows L2
def Pl:PV→Prop
 | .non=>True
 | .bl _=>True
 | .int _=>True
 | .str _=>True
 | .tup _=>True
 | .lst _=>True
 | _=>False
def tyP:PV→BT
 | .non=>.non
 | .bl _=>.bl
 | .int _=>.int
 | .str _=>.str
 | .tup _=>.tup
 | _=>.lst
theorem yQR {v:PV} (p:Pl v) (h:AH):tyN h v=some (tyP v):=by cases v <;> first | rfl | exact p.elim
theorem yVS {v:PV} (p:Pl v):isOwn v=false:=by cases v <;> first | rfl | exact p.elim
theorem yZK {h:AH} {v:PV} {u:BT} {n:String} (p:Pl v) (e2:BT.of n=some u):wO h [v,.ty n]=some (.bl (subT (tyP v) u)):=by
 show ((tyN h v).bind fun t=>(BT.of n).map fun u=>PV.bl (subT t u))=_
 rw [yQR p,e2]; rfl
theorem jKA {α:Type} {xs:List α} {j:Nat} {x:α} (e:xs[j]?=some x):xs.take (j+1)=xs.take j++[x]:=by
 obtain ⟨h,rfl⟩:=List.getElem?_eq_some_iff.mp e
 rw [List.take_succ,List.getElem?_eq_getElem h]; rfl
theorem yGU (bs:List Bool):(bs.map PV.bl).mapM yBR=some bs:=by
 induction bs with
 | nil=>rfl
 | cons b bs ih=>rw [List.map_cons,List.mapM_cons,ih]; rfl
theorem yBK {h:AH} (bs:List Bool):jHO h [.lst (bs.map PV.bl)]=some (.bl (bs.all fun b=>b)):=by
 show ((bs.map PV.bl).mapM yBR).map _=_
 rw [yGU]; rfl
theorem all_map {h:AH} {xs:List PV} (f:PV→Bool):jHO h [.lst (xs.map fun v=>.bl (f v))]=some (.bl ((xs.map f).all fun b=>b)):=by
 rw [show (xs.map fun v=>PV.bl (f v))=(xs.map f).map PV.bl by rw [List.map_map]; rfl]
 exact yBK _
section
variable {PA:List PV→S→Prop} {E:PV→S→Prop} {s:S}
theorem jEK {src:S→R S Sr} {t:Tg} {te:ME} {vs:List Nat}
  (h:(src s).post (fun r s1=>r.w=[]∧∃ f:PV→PV,(∀ v∈r.xs,∃ e1,uW t v (jM s1.e vs)=some e1∧(te ⟨e1,s1.h⟩).post (fun y s3=>y=f v∧isOwn y=false∧jM s3.e vs=jM s1.e vs∧s3.h=s1.h) NE)∧PA (r.xs.map f) ⟨jM s1.e vs,s1.h⟩) E) :
  (wW src t wN te vs s).post PA E:=by
 refine jPS (p_mono h (fun r s1 ⟨hw,f,hs,hn⟩=>⟨hw,fun j acc h=>acc=(r.xs.take j).map f∧h=s1.h,⟨rfl,rfl⟩,fun j v acc h e ⟨i1,i2⟩=>?_,fun acc h ⟨i1,i2⟩=>?_⟩) fun _ _ z=>z)
 ·obtain ⟨e1,eb,q⟩:=hs v (List.mem_of_getElem? e)
  subst i2
  refine ⟨e1,eb,jTR (zV rfl (p_mono q (fun y s3 ⟨ey,o,w,eh⟩=>⟨o,w,?_,eh⟩) fun _ _ z=>z))⟩
  rw [jKA e,List.map_append,i1,ey]; rfl
 ·rw [i1,i2,List.take_length]; exact hn
end
end Lp
set_option maxHeartbeats 4000000
namespace Lp
open PySem PySem.Spec PyProof.Rows L2
@[irreducible] def jKY (m:MA):S→R S Sr:=jSS m
@[irreducible] def yDH (m:MA):S→R S Sr:=yHZ m
noncomputable def jZX (m:MF):MS:=(yI (sIf (tM (eCB wO (jC (jF 1) (jC (vH (jC (eC (.ty "list")) (jC (eC (.ty "tuple")) jL))) jL)))) (yI (sIf (orM (bM (jO fNe (eCB wO (jC (jF 0) (jC (eC (.ty "list")) jL))) (eCB wO (jC (jF 1) (jC (eC (.ty "list")) jL))))) (bM (jO fNe (eCB wO (jC (jF 0) (jC (eC (.ty "tuple")) jL))) (eCB wO (jC (jF 1) (jC (eC (.ty "tuple")) jL)))))) (wD (eC (.bl false))) uZ)
 (wD (jGH (jO fEq (eCB jEG (jC (jF 0) jL)) (eCB jEG (jC (jF 1) jL))) (eCB jHO (jC (shN (qP (yHZ (jC (jF 0) (jC (jF 1) jL))) (.t [(.n 2),(.n 3)]) wN (yP 2 m (jC (jF 2) (jC (jF 3) jL))) [2,3])) jL))))) uZ)
 (yI (sIf (orM (bM (jO jKW (jF 1) (eC .non))) (bM (jO jKW (jF 0) (eC .non)))) (wD (jGH (jO jKW (jF 1) (eC .non)) (jO jKW (jF 0) (eC .non)))) uZ)
 (yI (sIf (orM (bM (jO fNe (eCB wO (jC (jF 0) (jC (eC (.ty "bool")) jL))) (eCB wO (jC (jF 1) (jC (eC (.ty "bool")) jL))))) (bM (jO fNe (eCB wO (jC (jF 0) (jC (eC (.ty "int")) jL))) (eCB wO (jC (jF 1) (jC (eC (.ty "int")) jL)))))) (wD (eC (.bl false))) uZ)
 (wD (jGH (jO fEq (eCB wO (jC (jF 0) (jC (eC (.ty "str")) jL))) (eCB wO (jC (jF 1) (jC (eC (.ty "str")) jL)))) (jO fEq (jF 0) (jF 1)))))))
noncomputable def yDQ (m:MF):MS:=(uC (jGR (xTM (xECB wO (jE (jK 1) (jE (jBF (jE (xEC (.ty "list")) (jE (xEC (.ty "tuple")) jR))) jR)))) (uC (jGR (jNJ (xBM (jZ fNe (xECB wO (jE (jK 0) (jE (xEC (.ty "list")) jR))) (xECB wO (jE (jK 1) (jE (xEC (.ty "list")) jR))))) (xBM (jZ fNe (xECB wO (jE (jK 0) (jE (xEC (.ty "tuple")) jR))) (xECB wO (jE (jK 1) (jE (xEC (.ty "tuple")) jR)))))) (jAH (xEC (.bl false))) jCV)
 (jAH (jVU (jZ fEq (xECB jEG (jE (jK 0) jR)) (xECB jEG (jE (jK 1) jR))) (xECB jHO (jE (jIU (wW (yDH (jE (jK 0) (jE (jK 1) jR))) (.t [(.n 2),(.n 3)]) wN (vI 2 m (jE (jK 2) (jE (jK 3) jR))) [2,3])) jR))))) jCV)
 (uC (jGR (jNJ (xBM (jZ jKW (jK 1) (xEC .non))) (xBM (jZ jKW (jK 0) (xEC .non)))) (jAH (jVU (jZ jKW (jK 1) (xEC .non)) (jZ jKW (jK 0) (xEC .non)))) jCV)
 (uC (jGR (jNJ (xBM (jZ fNe (xECB wO (jE (jK 0) (jE (xEC (.ty "bool")) jR))) (xECB wO (jE (jK 1) (jE (xEC (.ty "bool")) jR))))) (xBM (jZ fNe (xECB wO (jE (jK 0) (jE (xEC (.ty "int")) jR))) (xECB wO (jE (jK 1) (jE (xEC (.ty "int")) jR)))))) (jAH (xEC (.bl false))) jCV)
 (jAH (jVU (jZ fEq (xECB wO (jE (jK 0) (jE (xEC (.ty "str")) jR))) (xECB wO (jE (jK 1) (jE (xEC (.ty "str")) jR)))) (jZ fEq (jK 0) (jK 1)))))))
theorem yBA (m:MF):jZX m=yDQ m:=by kernel_rfl
noncomputable def jYR:Nat→MF
 | 0=>fun _ _=>.bad
 | n+1=>mkF 2 (jZX (jYR n))
@[irreducible] noncomputable def jVY (n:Nat):MF:=jYR n
def DPl:Nat→PV→Prop
 | _,.non=>True
 | _,.bl _=>True
 | _,.int _=>True
 | _,.str _=>True
 | n+1,.tup xs=>∀ x∈xs,DPl n x
 | n+1,.lst xs=>∀ x∈xs,DPl n x
 | _,_=>False
theorem DPl.pl:∀ {n:Nat} {v:PV},DPl n v→Pl v:=fun {n v} h=>by
 cases n <;> cases v <;> first | trivial | exact h.elim
theorem yOV (x y:Str):PyData.eqv (.str x) (.str y)=decide (x=y):=by
 first | rfl | (simp [PyData.eqv]; done) | (show (x == y)=_; rfl)
theorem yHI (x y:Bool):PyData.eqv (.bool x) (.bool y)=decide (x=y):=by
 cases x <;> cases y <;> rfl
section
variable {P:PV→S→Prop} {PS:Sr→S→Prop} {E:PV→S→Prop} {s:S} {ma:MA}
theorem yPP (h:(ma s).post (fun vs s1=>(∃ xs ys,vs=[.tup xs,.tup ys]∧PS ⟨jIT xs ys,[],false⟩ s1)∨∃ xs ys,vs=[.lst xs,.lst ys]∧PS ⟨jIT xs ys,[],false⟩ s1) E):(yDH ma s).post PS E:=by
 unfold yDH
 exact jY (p_mono h (fun vs s1 q=>by
  rcases q with ⟨xs,ys,rfl,q⟩ | ⟨xs,ys,rfl,q⟩
  ·exact q
  ·exact q) fun _ _ z=>z)
theorem jYK (h:(ma s).post (fun vs s1=>∃ j,vs=[.int j]∧j.natAbs≤16777216∧PS ⟨(List.range j.toNat).map fun (k:Nat)=>.int k,[],false⟩ s1) E):(jKY ma s).post PS E:=by
 unfold jKY
 exact jY (p_mono h (fun vs s1 ⟨j,e,hj,q⟩=>by subst e; simp only [if_pos hj]; exact q) fun _ _ z=>z)
theorem zip_self {xs:List PV} {v:PV} (h:v∈jIT xs xs):∃ x∈xs,v=.tup [x,x]:=by
 unfold jIT at h
 induction xs with
 | nil=>cases h
 | cons y ys ih =>
  rw [List.zipWith_cons_cons] at h
  rcases List.mem_cons.mp h with h | h
  ·exact ⟨y,by simp,h⟩
  ·obtain ⟨x,hx,e⟩:=ih h
   exact ⟨x,List.mem_cons_of_mem _ hx,e⟩
end
section
theorem jMQ {h:AH} (xs:List PV):jHO h [.lst (xs.map fun _=>PV.bl true)]=some (.bl true):=by
 rw [all_map fun _=>true]
 congr 2
 rw [List.all_eq_true]
 intro x hx
 obtain ⟨_,_,rfl⟩:=List.mem_map.mp hx
 rfl
theorem jMG {m:MF} {v:PV} {h:AH} (d:DPl 0 v):(mkF 2 (jZX m) [v,v] h).post (fun r h'=>r=.bl true∧h'=h) NE:=by
 rw [yBA]
 unfold yDQ
 refine jCX [some v,some v,none,none] rfl ?_
 cases v with
 | non=>(repeat (first | refine jU rfl ?_ | refine p_c ?_ | refine uE ?_ | refine jP ?_ | refine yE ?_ | refine uD ?_ | refine wV ?_ | refine wZ ?_ | refine kE ?_ | refine jCT ?_ | refine jBY ?_ | refine jBP ?_ | refine qO ?_ | refine qI ?_ | refine uG ?_ | refine zR ?_ | refine qN ?_ | refine jBT ?_ | refine qM ?_ | refine jBU ?_ | refine jAA ?_ | refine zK ?_ | refine yX ?_ | refine zU ?_ | refine ⟨⟨⟨rfl,rfl⟩,rfl,rfl⟩,⟨rfl,rfl⟩,?_⟩ | refine qK ?_ | refine jCU ?_ | refine vU ?_ | refine vW ?_ | refine zB ?_ | refine zQ ?_ | refine qL ?_ | refine jBS ?_ | refine jCK ?_ | refine zV rfl ?_ | refine zA rfl ?_ | refine ⟨_,rfl,?_⟩ | refine ⟨⟨rfl,rfl⟩,?_⟩ | refine ⟨⟨rfl,Nat.le_of_ble_eq_true rfl⟩,?_⟩ | refine ⟨_,_,_,_,rfl,hn,rfl,rfl,?_⟩ | (refine ⟨_,_,rfl,⟨rfl,rfl⟩,?_⟩; try dsimp only [jM,List.set_cons_succ,List.set_cons_zero]) | (refine ⟨rfl,?_⟩; try dsimp only [jM,List.set_cons_succ,List.set_cons_zero])))
 | bl b =>
  (repeat (first | refine jU rfl ?_ | refine p_c ?_ | refine uE ?_ | refine jP ?_ | refine yE ?_ | refine uD ?_ | refine wV ?_ | refine wZ ?_ | refine kE ?_ | refine jCT ?_ | refine jBY ?_ | refine jBP ?_ | refine qO ?_ | refine qI ?_ | refine uG ?_ | refine zR ?_ | refine qN ?_ | refine jBT ?_ | refine qM ?_ | refine jBU ?_ | refine jAA ?_ | refine zK ?_ | refine yX ?_ | refine zU ?_ | refine ⟨⟨⟨rfl,rfl⟩,rfl,rfl⟩,⟨rfl,rfl⟩,?_⟩ | refine qK ?_ | refine jCU ?_ | refine vU ?_ | refine vW ?_ | refine zB ?_ | refine zQ ?_ | refine qL ?_ | refine jBS ?_ | refine jCK ?_ | refine zV rfl ?_ | refine zA rfl ?_ | refine ⟨_,rfl,?_⟩ | refine ⟨⟨rfl,rfl⟩,?_⟩ | refine ⟨⟨rfl,Nat.le_of_ble_eq_true rfl⟩,?_⟩ | refine ⟨_,_,_,_,rfl,hn,rfl,rfl,?_⟩ | (refine ⟨_,_,rfl,⟨rfl,rfl⟩,?_⟩; try dsimp only [jM,List.set_cons_succ,List.set_cons_zero]) | (refine ⟨rfl,?_⟩; try dsimp only [jM,List.set_cons_succ,List.set_cons_zero])))
  exact ⟨by rw [yHI,decide_eq_true rfl],rfl⟩
 | int i =>
  (repeat (first | refine jU rfl ?_ | refine p_c ?_ | refine uE ?_ | refine jP ?_ | refine yE ?_ | refine uD ?_ | refine wV ?_ | refine wZ ?_ | refine kE ?_ | refine jCT ?_ | refine jBY ?_ | refine jBP ?_ | refine qO ?_ | refine qI ?_ | refine uG ?_ | refine zR ?_ | refine qN ?_ | refine jBT ?_ | refine qM ?_ | refine jBU ?_ | refine jAA ?_ | refine zK ?_ | refine yX ?_ | refine zU ?_ | refine ⟨⟨⟨rfl,rfl⟩,rfl,rfl⟩,⟨rfl,rfl⟩,?_⟩ | refine qK ?_ | refine jCU ?_ | refine vU ?_ | refine vW ?_ | refine zB ?_ | refine zQ ?_ | refine qL ?_ | refine jBS ?_ | refine jCK ?_ | refine zV rfl ?_ | refine zA rfl ?_ | refine ⟨_,rfl,?_⟩ | refine ⟨⟨rfl,rfl⟩,?_⟩ | refine ⟨⟨rfl,Nat.le_of_ble_eq_true rfl⟩,?_⟩ | refine ⟨_,_,_,_,rfl,hn,rfl,rfl,?_⟩ | (refine ⟨_,_,rfl,⟨rfl,rfl⟩,?_⟩; try dsimp only [jM,List.set_cons_succ,List.set_cons_zero]) | (refine ⟨rfl,?_⟩; try dsimp only [jM,List.set_cons_succ,List.set_cons_zero])))
  exact ⟨by rw [jPU,decide_eq_true rfl],rfl⟩
 | str x =>
  (repeat (first | refine jU rfl ?_ | refine p_c ?_ | refine uE ?_ | refine jP ?_ | refine yE ?_ | refine uD ?_ | refine wV ?_ | refine wZ ?_ | refine kE ?_ | refine jCT ?_ | refine jBY ?_ | refine jBP ?_ | refine qO ?_ | refine qI ?_ | refine uG ?_ | refine zR ?_ | refine qN ?_ | refine jBT ?_ | refine qM ?_ | refine jBU ?_ | refine jAA ?_ | refine zK ?_ | refine yX ?_ | refine zU ?_ | refine ⟨⟨⟨rfl,rfl⟩,rfl,rfl⟩,⟨rfl,rfl⟩,?_⟩ | refine qK ?_ | refine jCU ?_ | refine vU ?_ | refine vW ?_ | refine zB ?_ | refine zQ ?_ | refine qL ?_ | refine jBS ?_ | refine jCK ?_ | refine zV rfl ?_ | refine zA rfl ?_ | refine ⟨_,rfl,?_⟩ | refine ⟨⟨rfl,rfl⟩,?_⟩ | refine ⟨⟨rfl,Nat.le_of_ble_eq_true rfl⟩,?_⟩ | refine ⟨_,_,_,_,rfl,hn,rfl,rfl,?_⟩ | (refine ⟨_,_,rfl,⟨rfl,rfl⟩,?_⟩; try dsimp only [jM,List.set_cons_succ,List.set_cons_zero]) | (refine ⟨rfl,?_⟩; try dsimp only [jM,List.set_cons_succ,List.set_cons_zero])))
  exact ⟨by rw [yOV,decide_eq_true rfl],rfl⟩
 | _=>exact d.elim
theorem yAZ {m:MF} {v:PV} {xs:List PV} {h:AH} (hv:v=.tup xs∨v=.lst xs) (hp:∀ x∈xs,Pl x) (ih:∀ x∈xs,(m [x,x] h).post (fun r h'=>r=.bl true∧h'=h) NE) :
  (mkF 2 (jZX m) [v,v] h).post (fun r h'=>r=.bl true∧h'=h) NE:=by
 have item:∀ (w:PV),w∈jIT xs xs→∀ (u:PV),Pl u→∃ e1,uW (.t [(.n 2),(.n 3)]) w (jM [some u,some u,none,none] [2,3])=some e1 ∧
   (vI 2 m (jE (jK 2) (jE (jK 3) jR)) ⟨e1,h⟩).post (fun y s3=>y=(fun _=>PV.bl true) w∧isOwn y=false∧jM s3.e [2,3]=jM [some u,some u,none,none] [2,3]∧s3.h=h) NE:=fun w hw u pu=>by
  obtain ⟨x,hx,rfl⟩:=zip_self hw
  have ox:isOwn x=false:=yVS (hp x hx)
  refine ⟨[some u,some u,some x,some x],by simp [uW,bindTs,jM,ox],?_⟩
  (repeat (first | refine jU rfl ?_ | refine p_c ?_ | refine uE ?_ | refine jP ?_ | refine yE ?_ | refine uD ?_ | refine wV ?_ | refine wZ ?_ | refine kE ?_ | refine jCT ?_ | refine jBY ?_ | refine jBP ?_ | refine qO ?_ | refine qI ?_ | refine uG ?_ | refine zR ?_ | refine qN ?_ | refine jBT ?_ | refine qM ?_ | refine jBU ?_ | refine jAA ?_ | refine zK ?_ | refine yX ?_ | refine zU ?_ | refine ⟨⟨⟨rfl,rfl⟩,rfl,rfl⟩,⟨rfl,rfl⟩,?_⟩ | refine qK ?_ | refine jCU ?_ | refine vU ?_ | refine vW ?_ | refine zB ?_ | refine zQ ?_ | refine qL ?_ | refine jBS ?_ | refine jCK ?_ | refine zV rfl ?_ | refine zA rfl ?_ | refine ⟨_,rfl,?_⟩ | refine ⟨⟨rfl,rfl⟩,?_⟩ | refine ⟨⟨rfl,Nat.le_of_ble_eq_true rfl⟩,?_⟩ | refine ⟨_,_,_,_,rfl,hn,rfl,rfl,?_⟩ | (refine ⟨_,_,rfl,⟨rfl,rfl⟩,?_⟩; try dsimp only [jM,List.set_cons_succ,List.set_cons_zero]) | (refine ⟨rfl,?_⟩; try dsimp only [jM,List.set_cons_succ,List.set_cons_zero]) | refine ⟨⟨rfl,by simp [yW,ox]⟩,uF (ih x hx) fun r h' z=>?_⟩))
  obtain ⟨rfl,rfl⟩:=z
  exact ⟨rfl,rfl,rfl,rfl⟩
 rw [yBA]
 unfold yDQ
 refine jCX [some v,some v,none,none] rfl ?_
 rcases hv with rfl | rfl
 ·(repeat (first | refine jU rfl ?_ | refine p_c ?_ | refine uE ?_ | refine jP ?_ | refine yE ?_ | refine uD ?_ | refine wV ?_ | refine wZ ?_ | refine kE ?_ | refine jCT ?_ | refine jBY ?_ | refine jBP ?_ | refine qO ?_ | refine qI ?_ | refine uG ?_ | refine zR ?_ | refine qN ?_ | refine jBT ?_ | refine qM ?_ | refine jBU ?_ | refine jAA ?_ | refine zK ?_ | refine yX ?_ | refine zU ?_ | refine ⟨⟨⟨rfl,rfl⟩,rfl,rfl⟩,⟨rfl,rfl⟩,?_⟩ | refine qK ?_ | refine jCU ?_ | refine vU ?_ | refine vW ?_ | refine zB ?_ | refine zQ ?_ | refine qL ?_ | refine jBS ?_ | refine jCK ?_ | refine zV rfl ?_ | refine zA rfl ?_ | refine ⟨_,rfl,?_⟩ | refine ⟨⟨rfl,rfl⟩,?_⟩ | refine ⟨⟨rfl,Nat.le_of_ble_eq_true rfl⟩,?_⟩ | refine ⟨_,_,_,_,rfl,hn,rfl,rfl,?_⟩ | (refine ⟨_,_,rfl,⟨rfl,rfl⟩,?_⟩; try dsimp only [jM,List.set_cons_succ,List.set_cons_zero]) | (refine ⟨rfl,?_⟩; try dsimp only [jM,List.set_cons_succ,List.set_cons_zero])))
  refine zV (by show PyData.eqv (.int _) (.int _)=true; rw [jPU,decide_eq_true rfl]) ?_
  (repeat (first | refine jU rfl ?_ | refine p_c ?_ | refine uE ?_ | refine jP ?_ | refine yE ?_ | refine uD ?_ | refine wV ?_ | refine wZ ?_ | refine kE ?_ | refine jCT ?_ | refine jBY ?_ | refine jBP ?_ | refine qO ?_ | refine qI ?_ | refine uG ?_ | refine zR ?_ | refine qN ?_ | refine jBT ?_ | refine qM ?_ | refine jBU ?_ | refine jAA ?_ | refine zK ?_ | refine yX ?_ | refine zU ?_ | refine ⟨⟨⟨rfl,rfl⟩,rfl,rfl⟩,⟨rfl,rfl⟩,?_⟩ | refine qK ?_ | refine jCU ?_ | refine vU ?_ | refine vW ?_ | refine zB ?_ | refine zQ ?_ | refine qL ?_ | refine jBS ?_ | refine jCK ?_ | refine zV rfl ?_ | refine zA rfl ?_ | refine ⟨_,rfl,?_⟩ | refine ⟨⟨rfl,rfl⟩,?_⟩ | refine ⟨⟨rfl,Nat.le_of_ble_eq_true rfl⟩,?_⟩ | refine ⟨_,_,_,_,rfl,hn,rfl,rfl,?_⟩ | (refine ⟨_,_,rfl,⟨rfl,rfl⟩,?_⟩; try dsimp only [jM,List.set_cons_succ,List.set_cons_zero]) | (refine ⟨rfl,?_⟩; try dsimp only [jM,List.set_cons_succ,List.set_cons_zero])))
  refine jEK (yPP (jP (jU rfl (jP (jU rfl (yE (.inl ⟨xs,xs,rfl,rfl,fun _=>.bl true,fun w hw=>item w hw _ trivial,?_⟩)))))))
  (repeat (first | refine jU rfl ?_ | refine p_c ?_ | refine uE ?_ | refine jP ?_ | refine yE ?_ | refine uD ?_ | refine wV ?_ | refine wZ ?_ | refine kE ?_ | refine jCT ?_ | refine jBY ?_ | refine jBP ?_ | refine qO ?_ | refine qI ?_ | refine uG ?_ | refine zR ?_ | refine qN ?_ | refine jBT ?_ | refine qM ?_ | refine jBU ?_ | refine jAA ?_ | refine zK ?_ | refine yX ?_ | refine zU ?_ | refine ⟨⟨⟨rfl,rfl⟩,rfl,rfl⟩,⟨rfl,rfl⟩,?_⟩ | refine qK ?_ | refine jCU ?_ | refine vU ?_ | refine vW ?_ | refine zB ?_ | refine zQ ?_ | refine qL ?_ | refine jBS ?_ | refine jCK ?_ | refine zV rfl ?_ | refine zA rfl ?_ | refine ⟨_,rfl,?_⟩ | refine ⟨⟨rfl,rfl⟩,?_⟩ | refine ⟨⟨rfl,Nat.le_of_ble_eq_true rfl⟩,?_⟩ | refine ⟨_,_,_,_,rfl,hn,rfl,rfl,?_⟩ | (refine ⟨_,_,rfl,⟨rfl,rfl⟩,?_⟩; try dsimp only [jM,List.set_cons_succ,List.set_cons_zero]) | (refine ⟨rfl,?_⟩; try dsimp only [jM,List.set_cons_succ,List.set_cons_zero]) | refine ⟨_,jMQ _,?_⟩))
 ·(repeat (first | refine jU rfl ?_ | refine p_c ?_ | refine uE ?_ | refine jP ?_ | refine yE ?_ | refine uD ?_ | refine wV ?_ | refine wZ ?_ | refine kE ?_ | refine jCT ?_ | refine jBY ?_ | refine jBP ?_ | refine qO ?_ | refine qI ?_ | refine uG ?_ | refine zR ?_ | refine qN ?_ | refine jBT ?_ | refine qM ?_ | refine jBU ?_ | refine jAA ?_ | refine zK ?_ | refine yX ?_ | refine zU ?_ | refine ⟨⟨⟨rfl,rfl⟩,rfl,rfl⟩,⟨rfl,rfl⟩,?_⟩ | refine qK ?_ | refine jCU ?_ | refine vU ?_ | refine vW ?_ | refine zB ?_ | refine zQ ?_ | refine qL ?_ | refine jBS ?_ | refine jCK ?_ | refine zV rfl ?_ | refine zA rfl ?_ | refine ⟨_,rfl,?_⟩ | refine ⟨⟨rfl,rfl⟩,?_⟩ | refine ⟨⟨rfl,Nat.le_of_ble_eq_true rfl⟩,?_⟩ | refine ⟨_,_,_,_,rfl,hn,rfl,rfl,?_⟩ | (refine ⟨_,_,rfl,⟨rfl,rfl⟩,?_⟩; try dsimp only [jM,List.set_cons_succ,List.set_cons_zero]) | (refine ⟨rfl,?_⟩; try dsimp only [jM,List.set_cons_succ,List.set_cons_zero])))
  refine zV (by show PyData.eqv (.int _) (.int _)=true; rw [jPU,decide_eq_true rfl]) ?_
  (repeat (first | refine jU rfl ?_ | refine p_c ?_ | refine uE ?_ | refine jP ?_ | refine yE ?_ | refine uD ?_ | refine wV ?_ | refine wZ ?_ | refine kE ?_ | refine jCT ?_ | refine jBY ?_ | refine jBP ?_ | refine qO ?_ | refine qI ?_ | refine uG ?_ | refine zR ?_ | refine qN ?_ | refine jBT ?_ | refine qM ?_ | refine jBU ?_ | refine jAA ?_ | refine zK ?_ | refine yX ?_ | refine zU ?_ | refine ⟨⟨⟨rfl,rfl⟩,rfl,rfl⟩,⟨rfl,rfl⟩,?_⟩ | refine qK ?_ | refine jCU ?_ | refine vU ?_ | refine vW ?_ | refine zB ?_ | refine zQ ?_ | refine qL ?_ | refine jBS ?_ | refine jCK ?_ | refine zV rfl ?_ | refine zA rfl ?_ | refine ⟨_,rfl,?_⟩ | refine ⟨⟨rfl,rfl⟩,?_⟩ | refine ⟨⟨rfl,Nat.le_of_ble_eq_true rfl⟩,?_⟩ | refine ⟨_,_,_,_,rfl,hn,rfl,rfl,?_⟩ | (refine ⟨_,_,rfl,⟨rfl,rfl⟩,?_⟩; try dsimp only [jM,List.set_cons_succ,List.set_cons_zero]) | (refine ⟨rfl,?_⟩; try dsimp only [jM,List.set_cons_succ,List.set_cons_zero])))
  refine jEK (yPP (jP (jU rfl (jP (jU rfl (yE (.inr ⟨xs,xs,rfl,rfl,fun _=>.bl true,fun w hw=>item w hw _ trivial,?_⟩)))))))
  (repeat (first | refine jU rfl ?_ | refine p_c ?_ | refine uE ?_ | refine jP ?_ | refine yE ?_ | refine uD ?_ | refine wV ?_ | refine wZ ?_ | refine kE ?_ | refine jCT ?_ | refine jBY ?_ | refine jBP ?_ | refine qO ?_ | refine qI ?_ | refine uG ?_ | refine zR ?_ | refine qN ?_ | refine jBT ?_ | refine qM ?_ | refine jBU ?_ | refine jAA ?_ | refine zK ?_ | refine yX ?_ | refine zU ?_ | refine ⟨⟨⟨rfl,rfl⟩,rfl,rfl⟩,⟨rfl,rfl⟩,?_⟩ | refine qK ?_ | refine jCU ?_ | refine vU ?_ | refine vW ?_ | refine zB ?_ | refine zQ ?_ | refine qL ?_ | refine jBS ?_ | refine jCK ?_ | refine zV rfl ?_ | refine zA rfl ?_ | refine ⟨_,rfl,?_⟩ | refine ⟨⟨rfl,rfl⟩,?_⟩ | refine ⟨⟨rfl,Nat.le_of_ble_eq_true rfl⟩,?_⟩ | refine ⟨_,_,_,_,rfl,hn,rfl,rfl,?_⟩ | (refine ⟨_,_,rfl,⟨rfl,rfl⟩,?_⟩; try dsimp only [jM,List.set_cons_succ,List.set_cons_zero]) | (refine ⟨rfl,?_⟩; try dsimp only [jM,List.set_cons_succ,List.set_cons_zero]) | refine ⟨_,jMQ _,?_⟩))
theorem jLH:∀ (n:Nat) {v:PV} {h:AH},DPl n v→(jYR (n+1) [v,v] h).post (fun r h'=>r=.bl true∧h'=h) NE
 | 0,v,h,d=>jMG d
 | n+1,v,h,d=>by
  cases v with
  | tup xs=>exact yAZ (.inl rfl) (fun x hx=>DPl.pl (d x hx)) fun x hx=>jLH n (d x hx)
  | lst xs=>exact yAZ (.inr rfl) (fun x hx=>DPl.pl (d x hx)) fun x hx=>jLH n (d x hx)
  | non=>exact jMG trivial
  | bl b=>exact jMG trivial
  | int i=>exact jMG trivial
  | str x=>exact jMG trivial
  | _=>exact d.elim
theorem yCN {n:Nat} {v:PV} {h:AH} (d:DPl n v):(jVY (n+1) [v,v] h).post (fun r h'=>r=.bl true∧h'=h) NE:=by
 unfold jVY
 exact jLH n d
theorem jWY {n:Nat} {a b:PV} {h:AH} (e:a=b) (d:DPl n b):(jVY (n+1) [a,b] h).post (fun r h'=>r=.bl true∧h'=h) NE:=by
 subst e; exact yCN d
end
end Lp
set_option maxHeartbeats 4000000
namespace Lp
open PySem PySem.Spec PyProof.Rows L2
theorem yOM (cs:List Nat):(mkS cs).cps.toList=cs:=rfl
theorem jMF (cs:List Nat):(mkS cs).length=cs.length:=by show cs.toArray.size=_; simp
theorem jUX (a b:List Nat):mkS a++mkS b=mkS (a++b):=by
 show (⟨a.toArray++b.toArray⟩:Str)=⟨(a++b).toArray⟩
 rw [List.append_toArray]
theorem yOT {h:AH} {a b:List Nat} (z:a.length+b.length≤sizeLine):uB h (.str (mkS a)) (.str (mkS b))=some (.str (mkS (a++b))):=by
 show (if (mkS a).length+(mkS b).length≤sizeLine then some (PV.str (mkS a++mkS b)) else none)=_
 rw [jMF,jMF,if_pos z,jUX]
theorem yBW (cs:List Nat):strsOf (cs.map fun c=>PV.str (mkS [c]))=some (cs.map fun c=>mkS [c]):=by
 unfold strsOf
 induction cs with
 | nil=>rfl
 | cons c cs ih=>rw [List.map_cons,List.mapM_cons,ih]; rfl
theorem join_ones:∀ cs:List Nat,Txt.join (mkS []) (cs.map fun c=>mkS [c])=mkS cs:=fun cs=>by
 rw [TL.join_eq]
 induction cs with
 | nil=>rfl
 | cons c cs ih =>
  cases cs with
  | nil=>rfl
  | cons d ds =>
   show mkS [c]++mkS []++Str.join (mkS []) ((d :: ds).map fun c=>mkS [c])=_
   rw [ih,jUX,jUX]; rfl
theorem ySY {cs:List Nat} (h:∀ c∈cs,c < 1114112):PyData.strOk (mkS cs)=true:=by
 show (cs.toArray.all fun c=>decide (c < 0x110000))=true
 rw [List.all_toArray]
 rw [List.all_eq_true]
 exact fun c hc=>decide_eq_true (h c hc)
theorem jZI {h:AH} {cs:List Nat} (z:cs.length≤16777216) (hc:∀ c∈cs,c < 1114112):jON h (mkS []) [.lst (cs.map fun c=>.str (mkS [c]))]=some (.str (mkS cs)):=by
 show (strsOf (cs.map fun c=>PV.str (mkS [c]))).bind _=_
 rw [yBW]
 show (if _ then _ else _)=_
 rw [join_ones]
 rw [if_pos]
 refine ⟨?_,ySY hc,?_⟩
 ·have e1:((cs.map fun c=>mkS [c]).map (·.length)).sum=cs.length:=by
   clear z hc
   induction cs with
   | nil=>rfl
   | cons c cs ih=>rw [List.map_cons,List.map_cons,List.sum_cons,ih]; show 1+cs.length=cs.length+1; omega
  rw [e1]
  show cs.length+_ * 0≤_
  omega
 ·rw [jMF]
  have:16777216≤sizeLine:=by decide
  omega
theorem yHH {h:AH} {a b:List PV} (z:a.length+b.length≤sizeLine):uB h (.lst a) (.lst b)=some (.lst (a++b)):=by
 show (if a.length+b.length≤sizeLine then some (PV.lst (a++b)) else none)=_
 rw [if_pos z]
end Lp
set_option maxHeartbeats 4000000
namespace Lp
open PySem PySem.Spec PyProof.Rows L2
abbrev FL:=Nat→List Str
structure ClsF (K:PySem.W.Frag) (B:Bs) (fl:FL):Prop where
 fld:∀ c,fl c≠[]→B.fld c=fl c
 cls:∀ c f,f∈fl c→Cls K (B.cad c)∧NoAttr K (B.cad c) f
 few:∀ c,(fl c).length < 1000
 nd:∀ c,(fl c).Nodup
theorem ClsF.at_ {K:PySem.W.Frag} {B:Bs} {fl:FL} (C:ClsF K B fl) {c:Nat} {f:Str} (h:f∈fl c):B.fld c=fl c:=C.fld c fun z=>by rw [z] at h; cases h
def jLT (h:AH):PV→Option (Nat × List PV)
 | .ins c fs=>some (c,fs)
 | .cel n=>match h[n]? with
  | some (some (.ins c fs))=>some (c,fs)
  | _=>none
 | _=>none
def jPY (fl:FL) (f:Str) (h:AH) (o:PV):Option PV:=(jLT h o).bind fun p=>((fl p.1).zip p.2).lookup f
def jDP (fl:FL) (f:Str) (mo:ME):ME:=fun s=>(mo s).bind fun o s1=>match jPY fl f s1.h o with
 | some v=>.ok v s1
 | none=>.bad
def jXY (ns:List Str) (f:Str) (v:PV) (fs:List PV):Option (List PV):=if fs.length < ns.idxOf f then none else if ns.idxOf f < ns.length then some (if ns.idxOf f < fs.length then fs.set (ns.idxOf f) v else fs++[v]) else none
section
variable {X:Cx} {B:Bs} {N:Ent} {WX:L2.WX} {W W':Wd} {s s':S} {h:AH} {σ:L2.St} {H H':Hp} {e o:Expr} {mo mv:ME} {f:Str} {fl:FL} {pos pos':Pos}
theorem jUH (hr:HRel B W h H) {x:PV} {x':V} {c:Nat} {fs:List PV} (rx:RepT B W H x x') (e:jLT h x=some (c,fs)):∃ a dx vs,x'=.ref a∧H a=some (.ins (B.cad c) dx ((B.fld c).zip vs))∧vs.length≤(B.fld c).length∧Reps B W fs vs:=by
 cases x with
 | ins c' fs' =>
  cases e
  cases (show Rep B W (.ins c fs) x' from rx) with
  | ins h hl r=>exact ⟨_,_,_,rfl,hr.agree _ _ h,hl,r⟩
 | cel n =>
  cases (show Rep B W (.cel n) x' from rx) with
  | cel h1 =>
   unfold jLT at e
   dsimp only at e
   split at e
   ·rename_i c' fs' q
    cases e
    obtain ⟨_,dx,vs,h2,hl,r⟩:=hr.cell n _ _ q h1
    exact ⟨_,dx,vs,rfl,h2,hl,r⟩
   ·cases e
 | _=>cases e
theorem jOT:∀ {ns:List Str} {fs:List PV} {vs:List V} {v:PV},Reps B W fs vs→(ns.zip fs).lookup f=some v→∃ v',(ns.zip vs).lookup f=some v'∧Rep B W v v'∧f∈ns
 | [],_,_,_,_,e=>by simp at e
 | n :: ns,_,_,_,.nil,e=>by simp at e
 | n :: ns,x :: xs,u :: us,v,.cons r t,e=>by
  rw [List.zip_cons_cons,List.lookup_cons] at e
  rw [List.zip_cons_cons,List.lookup_cons]
  cases q:f == n with
  | true =>
   rw [q] at e
   cases e
   exact ⟨u,rfl,r,by rw [beq_iff_eq.mp q]; simp⟩
  | false =>
   rw [q] at e
   obtain ⟨v',e1,r1,m⟩:=jOT t e
   exact ⟨v',e1,r1,List.mem_cons_of_mem _ m⟩
theorem uY (C:ClsF X.K B fl) (he:SimE X B N WX o mo) (hb:attributeBase o f X.env (eval o X.env)=eval o X.env):SimE X B N WX (.Attribute o f pos) (jDP fl f mo) :=
 (pe_fld he hb).imp fun σ H Q ⟨W,s,r,h⟩=>⟨W,s,r,(h.bind r.slen).mono fun v W1 s1 H1 r1 _ q v' rv=>by
  split at q
  ·rename_i u eu
   unfold jPY at eu
   cases ei:jLT s1.h v with
   | none=>rw [ei] at eu; cases eu
   | some p =>
    obtain ⟨c,fs⟩:=p
    rw [ei] at eu
    have eu:((fl c).zip fs).lookup f=some u:=eu
    obtain ⟨a,dx,vs,rfl,hH,hl,rs⟩:=jUH r1.hr rv ei
    obtain ⟨u',e1,r2,m⟩:=jOT rs eu
    have cc:=C.cls c f m
    exact ⟨a,_,dx,_,u',rfl,hH,cc.1,cc.2,by rw [C.at_ m]; exact e1,q.ok r1 u' r2.hand⟩
  ·exact q.elim⟩
theorem jWT {v:V}:∀ {ns:List Str} {vs:List V},ns.Nodup→vs.length≤ns.length→ns.idxOf f≤vs.length→ns.idxOf f < ns.length →
  putF f v (ns.zip vs)=ns.zip (if ns.idxOf f < vs.length then vs.set (ns.idxOf f) v else vs++[v])
 | [],_,_,_,_,h=>by simp at h
 | n :: ns,vs,nd,hl,h1,h2=>by
  by_cases hn:n=f
  ·subst hn
   have e0:(n :: ns).idxOf n=0:=by simp [List.idxOf_cons]
   rw [e0]
   cases vs with
   | nil=>simp [putF]
   | cons u us =>
    rw [if_pos (by simp)]
    show (if n=n then (n,v) :: ns.zip us else _)=_
    rw [if_pos rfl]; rfl
  ·have e0:(n :: ns).idxOf f=ns.idxOf f+1:=by rw [List.idxOf_cons,show (n == f)=false from beq_false_of_ne hn]; rfl
   rw [e0] at h1 h2 ⊢
   cases vs with
   | nil=>simp at h1
   | cons u us =>
    have ih:=jWT (v:=v) (ns:=ns) (vs:=us) (List.nodup_cons.mp nd).2 (by simpa using hl) (by simpa using h1) (by simpa using h2)
    show (if n=f then _ else (n,u) :: putF f v (ns.zip us))=_
    rw [if_neg hn,ih]
    by_cases h3:ns.idxOf f < us.length
    ·rw [if_pos h3,if_pos (by simpa using h3)]; rfl
    ·rw [if_neg h3,if_neg (by simpa using h3)]; rfl
end
def jIY (fl:FL) (f:Str) (mv mo:ME):MS:=fun s=>(mv s).bind fun v s1=>(mo s1).bind fun o s2=>match yBQ o with
 | some n=>match s2.h[n]? with
  | some (some (.ins c fs))=>match jXY (fl c) f v fs with
   | some gs=>if isOwn v=true then .bad else .ok .nx ⟨s2.e,s2.h.set n (some (.ins c gs))⟩
   | none=>.bad
  | _=>.bad
 | none=>.bad
section
variable {X:Cx} {B:Bs} {N:Ent} {WX:L2.WX} {W W':Wd} {s s':S} {h:AH} {σ:L2.St} {H H':Hp} {e o:Expr} {mo mv:ME} {f:Str} {fl:FL} {pos pos':Pos}
theorem yND {ns:List Str} {v:PV} {fs gs:List PV} (e:jXY ns f v fs=some gs):ns.idxOf f≤fs.length∧ns.idxOf f < ns.length∧gs=if ns.idxOf f < fs.length then fs.set (ns.idxOf f) v else fs++[v]:=by
 unfold jXY at e
 split at e
 ·cases e
 ·split at e
  ·rename_i h1 h2
   cases e
   exact ⟨by omega,h2,rfl⟩
  ·cases e
theorem yBD (C:ClsF X.K B fl) {n c:Nat} {fs gs:List PV} {v:PV} {v':V} {a:Addr} (r:Rel B N W s σ H) (en:s.h[n]?=some (some (.ins c fs))) (em:W.m[n]?=some a) (rv:Rep B W v v') (eg:jXY (fl c) f v fs=some gs) :
  ∃ dx vs,H a=some (.ins (B.cad c) dx ((fl c).zip vs))∧Cls X.K (B.cad c)∧NoAttr X.K (B.cad c) f∧((fl c).zip vs).length < 1000 ∧
   Rel B N W ⟨s.e,s.h.set n (some (.ins c gs))⟩ σ (upd H a (.ins (B.cad c) dx (putF f v' ((fl c).zip vs))))∧StepE W s H W ⟨s.e,s.h.set n (some (.ins c gs))⟩ (upd H a (.ins (B.cad c) dx (putF f v' ((fl c).zip vs)))):=by
 obtain ⟨hF,dx,vs,hH,hl,rs⟩:=r.hr.cell n _ a en em
 obtain ⟨g1,g2,g3⟩:=yND eg
 have hm:f∈fl c:=by
  have:=List.idxOf_lt_length_iff.mp g2
  exact this
 have Cf:=C.at_ hm
 rw [Cf] at hH hl
 have cc:=C.cls c f hm
 have hlen:=rs.length
 have lz:((fl c).zip vs).length < 1000:=by
  rw [List.length_zip]
  have:=C.few c
  omega
 have ep:=jWT (v:=v') (C.nd c) hl (by rw [← hlen]; exact g1) g2
 refine ⟨dx,vs,hH,cc.1,cc.2,lz,?_⟩
 have hc:CellR B W (upd H a (.ins (B.cad c) dx (putF f v' ((fl c).zip vs)))) a (.ins c gs):=by
  refine ⟨dx,(if (fl c).idxOf f < vs.length then vs.set ((fl c).idxOf f) v' else vs++[v']),by rw [upd_same,Cf,ep],?_,?_⟩
  ·rw [Cf]
   split
   ·rw [List.length_set]; exact hl
   ·rw [List.length_append,List.length_singleton]; omega
  ·rw [g3,hlen]
   split
   ·exact rs.set rv _
   ·exact rs.append (.one rv)
 have hr2:=jTI (c':=.ins c gs) r.hr en em (o:=.ins (B.cad c) dx (putF f v' ((fl c).zip vs))) trivial hc
 have st:=jSY (c':=.ins c gs) (o:=.ins (B.cad c) dx (putF f v' ((fl c).zip vs))) r.hr en em
 exact ⟨jEV r hr2 st,jEU st⟩
theorem jNR (C:ClsF X.K B fl) (hv:SimE X B N WX e mv) (ho:SimE X B N WX o mo) (hs:swapsWith e (some (.Attribute o f pos')) pos.line X.env=pure false):SimS X B N WX (.Assign [.Attribute o f pos'] e pos) (jIY fl f mv mo) :=
 (ps_fld ho hv hs).imp fun D σ H ⟨W,s,r,h⟩=>⟨W,s,r,h.bindE.mono fun v W1 s1 H1 r1 _ q v' rv=>⟨W1,s1,r1,q.bindE.mono fun ov W2 s2 H2 r2 st2 q2 o' ro=>by
  split at q2
  ·rename_i n en
   obtain rfl:=yBG en
   split at q2
   ·rename_i c fs ec
    split at q2
    ·rename_i gs eg
     split at q2
     ·exact q2.elim
     ·rename_i ow
      obtain ⟨a,rfl,em⟩:=jMD ro
      obtain ⟨dx,vs,hH,c1,c2,lz,r3,_⟩:=yBD C r2 ec em ((rv.on r1.slen st2.st).rep (by simpa using ow)) eg
      exact ⟨a,_,dx,_,rfl,hH,c1,c2,lz,q2 W2 σ _ r3⟩
    ·exact q2.elim
   ·exact q2.elim
  ·exact q2.elim⟩⟩
end
end Lp
set_option maxHeartbeats 4000000
namespace Lp
open PySem PySem.Spec PyProof.Rows L2
section
variable {B:Bs} {W W1 W2:Wd} {h h1 h2:AH} {H H1 H2:Hp} {p x dx:Addr} {o:HO} {c:Nat} {C:Cell}
theorem jRH (hr:HRel B W h H) (hp:H p=none) (ho:SzO o):HRel B W h (upd H p o):=by
 refine ⟨fun a u e=>?_,hr.len,hr.nd,fun a hm=>?_,fun a u e nt=>?_,hr.fz,jQP hr.tb hp,fun n c a e1 e2=>?_⟩
 ·have ne:a≠p:=fun z=>by rw [z,hr.fnone hp] at e; cases e
  rw [upd_ne ne]; exact hr.agree _ _ e
 ·by_cases ha:a=p
  ·rw [ha,upd_same]; exact fun z=>nomatch z
  ·rw [upd_ne ha]; exact hr.mt a hm
 ·by_cases ha:a=p
  ·rw [ha,upd_same] at e; cases e; exact ho
  ·rw [upd_ne ha] at e; exact hr.hz a u e nt
 ·obtain ⟨g1,g2⟩:=hr.cell n c a e1 e2
  exact ⟨g1,g2.off fun z=>hr.mt a (List.mem_of_getElem? e2) (by rw [z]; exact hp)⟩
theorem Step.loose (st:Step W h H W1 h1 H1) (hp:H p=none):Step W h H W1 h1 (upd H1 p o):=by
 refine ⟨st.le,st.hl,st.dead,fun a u e nt nl=>?_,fun a e=>?_,st.fgrow,st.hm,st.mnew⟩
 ·rw [upd_ne (ne_of_none e hp)]; exact st.keep a u e nt nl
 ·by_cases ha:a=p
  ·rw [ha,upd_same] at e; cases e
  ·rw [upd_ne ha] at e; exact st.tr a e
theorem yGV (hr:HRel B W h H) (hx:H x=none) (hd:H dx=none) (ne:dx≠x) :
  HRel B ⟨W.F,W.m++[x]⟩ (h++[some (.ins c [])]) (upd (upd H dx (.own x)) x (.ins (B.cad c) dx []))∧Step W h H ⟨W.F,W.m++[x]⟩ (h++[some (.ins c [])]) (upd (upd H dx (.own x)) x (.ins (B.cad c) dx [])):=by
 have a1:=jRH (o:=.own x) hr hd trivial
 have hx1:upd H dx (.own x) x=none:=by rw [upd_ne (Ne.symm ne)]; exact hx
 have a2:=jRH (o:=.ins (B.cad c) dx []) a1 hx1 trivial
 refine ⟨jTH a2 (hr.fnone hx) (fun z=>hr.mt x z hx) (by rw [upd_same]; exact fun z=>nomatch z) ⟨dx,[],by rw [upd_same]; simp,Nat.zero_le _,.nil⟩,?_⟩
 exact (((Step.refl hr).loose hd).loose hx).snoc hx
end
mutual
def jIS (n:Nat):PV→Bool
 | .cel k=>decide (k < n)
 | .tup xs=>celsB n xs
 | .lst xs=>celsB n xs
 | .scr xs=>celsB n xs
 | .ins _ fs=>celsB n fs
 | .exn _ fs=>celsB n fs
 | _=>true
def celsB (n:Nat):List PV→Bool
 | []=>true
 | x :: xs=>jIS n x&&celsB n xs
end
section
variable {B:Bs}
mutual
theorem Rep.cels {W:Wd}:∀ {x:PV} {v:V},Rep B W x v→jIS W.m.length x=true
 | _,_,.non=>rfl
 | _,_,.bl _=>rfl
 | _,_,.int _=>rfl
 | _,_,.str _ _=>rfl
 | _,_,.ty _=>rfl
 | _,_,.cls _=>rfl
 | _,_,.cel h=>decide_eq_true (List.getElem?_eq_some_iff.mp h).1
 | _,_,.tup _ r=>Reps.cels r
 | _,_,.lst _ r=>Reps.cels r
 | _,_,.scr _ r=>Reps.cels r
 | _,_,.ins _ _ r=>Reps.cels r
 | _,_,.exn _ _ _ r=>Reps.cels r
theorem Reps.cels {W:Wd}:∀ {xs:List PV} {vs:List V},Reps B W xs vs→celsB W.m.length xs=true
 | _,_,.nil=>rfl
 | _,_,.cons h t=>by
  show (jIS _ _&&celsB _ _)=true
  rw [Rep.cels h,Reps.cels t]; rfl
end
mutual
theorem Rep.cut {W:Wd} {n:Nat}:∀ {x:PV} {v:V},Rep B W x v→jIS n x=true→Rep B ⟨W.F,W.m.take n⟩ x v
 | _,_,.non,_=>.non
 | _,_,.bl b,_=>.bl b
 | _,_,.int i,_=>.int i
 | _,_,.str x h,_=>.str x h
 | _,_,.ty n,_=>.ty n
 | _,_,.cls c,_=>.cls c
 | _,_,.cel h,e=>.cel (by show (W.m.take n)[_]?=_; rw [List.getElem?_take_of_lt (of_decide_eq_true e)]; exact h)
 | _,_,.tup h r,e=>.tup h (Reps.cut r e)
 | _,_,.lst h r,e=>.lst h (Reps.cut r e)
 | _,_,.scr h r,e=>.scr h (Reps.cut r e)
 | _,_,.ins h hl r,e=>.ins h hl (Reps.cut r e)
 | _,_,.exn hx h hl r,e=>.exn hx h hl (Reps.cut r e)
theorem Reps.cut {W:Wd} {n:Nat}:∀ {xs:List PV} {vs:List V},Reps B W xs vs→celsB n xs=true→Reps B ⟨W.F,W.m.take n⟩ xs vs
 | _,_,.nil,_=>.nil
 | _,_,.cons h t,e=>by
  obtain ⟨e1,e2⟩:=Bool.and_eq_true_iff.mp (show (jIS _ _&&celsB _ _)=true from e)
  exact .cons (Rep.cut h e1) (Reps.cut t e2)
end
theorem DRel.cels {W:Wd} {ks:List (PV × PV)} {L:List (NestedKey × Addr × Value)} (r:DRel B W ks L):(celsB W.m.length (ks.map (·.1))&&celsB W.m.length (ks.map (·.2)))=true:=by
 induction r with
 | nil=>rfl
 | cons h1 h2 h3 h4 h5 _ ih =>
  obtain ⟨i1,i2⟩:=Bool.and_eq_true_iff.mp ih
  refine Bool.and_eq_true_iff.mpr ⟨?_,?_⟩
  ·show (jIS _ _&&celsB _ _)=true
   rw [h3.cels,i1]; rfl
  ·show (jIS _ _&&celsB _ _)=true
   rw [h4.cels,i2]; rfl
theorem DRel.cut {W:Wd} {n:Nat} {ks:List (PV × PV)} {L:List (NestedKey × Addr × Value)} (r:DRel B W ks L):celsB n (ks.map (·.1))=true→celsB n (ks.map (·.2))=true→DRel B ⟨W.F,W.m.take n⟩ ks L:=by
 induction r with
 | nil=>exact fun _ _=>.nil
 | cons h1 h2 h3 h4 h5 _ ih =>
  intro e1 e2
  obtain ⟨a1,a2⟩:=Bool.and_eq_true_iff.mp (show (jIS _ _&&celsB _ _)=true from e1)
  obtain ⟨b1,b2⟩:=Bool.and_eq_true_iff.mp (show (jIS _ _&&celsB _ _)=true from e2)
  exact .cons h1 h2 (h3.cut a1) (h4.cut b1) h5 (ih a2 b2)
def yYH (n:Nat):Cell→Bool
 | .lst xs=>celsB n xs
 | .dic ks=>celsB n (ks.map (·.1))&&celsB n (ks.map (·.2))
 | .ins _ fs=>celsB n fs
 | .dik ks=>celsB n (ks.map (·.2))
variable {W W1 W2:Wd} {h h1 h2:AH} {H H1 H2:Hp} {p x dx:Addr} {o:HO} {c:Nat} {C:Cell}
theorem CellR.cels {a:Addr} (r:CellR B W H a C):yYH W.m.length C=true:=by
 cases C with
 | lst xs=>obtain ⟨vs,_,q⟩:=r; exact q.cels
 | dic ks=>obtain ⟨L,_,_,q⟩:=r; exact q.cels
 | dik ks=>obtain ⟨L,_,_,q⟩:=r; exact q.cels
 | ins c fs=>obtain ⟨_,vs,_,_,q⟩:=r; exact q.cels
theorem CellR.cut {a:Addr} {n:Nat} (r:CellR B W H a C) (e:yYH n C=true):CellR B ⟨W.F,W.m.take n⟩ H a C:=by
 cases C with
 | lst xs=>obtain ⟨vs,q1,q⟩:=r; exact ⟨vs,q1,q.cut e⟩
 | dic ks=>obtain ⟨L,q1,q2,q⟩:=r; obtain ⟨e1,e2⟩:=Bool.and_eq_true_iff.mp e; exact ⟨L,q1,q2,q.cut e1 e2⟩
 | dik ks=>obtain ⟨L,q1,q2,q⟩:=r; exact ⟨L,q1,q2,q.cut e⟩
 | ins c fs=>obtain ⟨d,vs,q1,q2,q⟩:=r; exact ⟨d,vs,q1,q2,q.cut e⟩
theorem jWW (hr:HRel B W h H) (hx:H x=none) (hr2:HRel B W2 (h++[some C]) H2) (st:Step ⟨W.F,W.m++[x]⟩ (h++[some (.ins c [])]) H1 W2 (h++[some C]) H2) (hk:∀ a o,H a=some o→H1 a=some o) (ht:∀ a,H1 a=none→H a=none) :
  W2.m=W.m++[x]∧HRel B ⟨W2.F,W.m⟩ h H2∧Step W h H ⟨W2.F,W.m⟩ h H2:=by
 have em:W2.m=W.m++[x]:=by
  obtain ⟨t,e⟩:=st.le.m
  have hl:=hr2.len
  rw [← e] at hl
  simp only [List.length_append,List.length_singleton,hr.len] at hl
  have:t=[]:=List.length_eq_zero_iff.mp (by omega)
  rw [← e,this,List.append_nil]
 have et:W2.m.take h.length=W.m:=by rw [em,← hr.len,List.take_left']; rfl
 have live:∀ a,H a≠none→Live ⟨W.F,W.m++[x]⟩ (h++[some (.ins c [])]) a→Live W h a:=fun a ne l=>by
  obtain ⟨n,c1,e1,e2⟩:=l
  have e2:(W.m++[x])[n]?=some a:=e2
  rcases jLZ e2 with ⟨hn,e3⟩ | ⟨_,rfl⟩
  ·rw [hr.len] at hn
   rw [List.getElem?_append_left hn] at e1
   exact ⟨n,c1,e1,e3⟩
  ·exact absurd hx ne
 refine ⟨em,⟨hr2.agree,hr.len,hr.nd,fun a hm=>hr2.mt a (by rw [em]; exact List.mem_append_left _ hm),hr2.hz,hr2.fz,hr2.tb,fun m c1 a e1 e2=>?_⟩,⟨⟨st.le.F,List.prefix_refl _⟩,Nat.le_refl _,fun n c1 _ e=>⟨c1,e⟩,fun a u e nt nl=>?_,fun a e=>ht a (st.tr a e),fun a e ne nl=>?_,hr.len,fun n a hn e=>?_⟩⟩
 ·have hm:m < h.length:=(List.getElem?_eq_some_iff.mp e1).1
  have e2:W.m[m]?=some a:=e2
  obtain ⟨g1,g2⟩:=hr2.cell m c1 a (by rw [List.getElem?_append_left hm]; exact e1) (by rw [em,List.getElem?_append_left (by rw [hr.len]; exact hm)]; exact e2)
  have q:=g2.cut (n:=h.length) (by rw [← hr.len]; exact CellR.cels (hr.cell m c1 a e1 e2).2)
  rw [et] at q
  exact ⟨g1,q⟩
 ·exact st.keep a u (hk a u e) nt fun l=>nl (live a (by rw [e]; exact fun z=>nomatch z) l)
 ·exact st.fgrow a e (let ⟨u,e1,nt,nx⟩:=ne; ⟨u,hk a u e1,nt,nx⟩) fun l=>nl (live a ne.ne l)
 ·have:=(List.getElem?_eq_some_iff.mp (show W.m[n]?=some a from e)).1
  rw [hr.len] at this; omega
end
section
variable {B:Bs} {W W1 W2:Wd} {h h1 h2:AH} {H H1 H2:Hp} {p x dx:Addr} {o:HO} {c:Nat} {C:Cell}
theorem yCQ (hr:HRel B W h H) (hF:W.F p=none) (hm:p∉W.m) (hp:H p=some o) (nt:NT o):HRel B ⟨upd W.F p o,W.m⟩ h H:=by
 refine ⟨fun a u e=>?_,hr.len,hr.nd,hr.mt,hr.hz,fun a u e=>?_,hr.tb,fun n c a e1 e2=>?_⟩
 ·by_cases ha:a=p
  ·have e:upd W.F p o a=some u:=e
   rw [ha,upd_same] at e
   rw [ha,hp]; exact e
  ·have e:upd W.F p o a=some u:=e
   rw [upd_ne ha] at e
   exact hr.agree _ _ e
 ·by_cases ha:a=p
  ·have e:upd W.F p o a=some u:=e
   rw [ha,upd_same] at e
   cases e
   exact nt
  ·have e:upd W.F p o a=some u:=e
   rw [upd_ne ha] at e
   exact hr.fz a u e
 ·obtain ⟨g1,g2⟩:=hr.cell n c a e1 e2
  have ne:a≠p:=fun z=>hm (z ▸ List.mem_of_getElem? e2)
  exact ⟨by show upd W.F p o a=none; rw [upd_ne ne]; exact g1,g2.mono (jDR hF) fun _ z=>z⟩
theorem Step.keepNew (st:Step W h H W1 h1 H1) (hp:H p=none) (hF:W1.F p=none):Step W h H ⟨upd W1.F p o,W1.m⟩ h1 H1 :=
 ⟨st.le.trans (jDR hF),st.hl,st.dead,st.keep,st.tr,fun a e ne nl=>by
  have ha:a≠p:=fun z=>ne.ne (z ▸ hp)
  show upd W1.F p o a=none
  rw [upd_ne ha]; exact st.fgrow a e ne nl,st.hm,st.mnew⟩
end
instance decIns {h h2:AH} {c n:Nat}:Decidable (∃ fs,h2=h++[some (.ins c fs)]∧celsB n fs=true) :=
 match e:h2[h.length]? with
 | some (some (.ins c' fs))=>if q:h2=h++[some (.ins c fs)]∧celsB n fs=true then .isTrue ⟨fs,q⟩ else .isFalse fun ⟨fs',q'⟩=>by
   obtain ⟨rfl,q2⟩:=q'
   rw [List.getElem?_append_right (Nat.le_refl _),Nat.sub_self] at e
   cases e
   exact q ⟨rfl,q2⟩
 | some (some (.lst _))=>.isFalse fun ⟨fs',q',_⟩=>by rw [q',List.getElem?_append_right (Nat.le_refl _),Nat.sub_self] at e; cases e
 | some (some (.dic _))=>.isFalse fun ⟨fs',q',_⟩=>by rw [q',List.getElem?_append_right (Nat.le_refl _),Nat.sub_self] at e; cases e
 | some (some (.dik _))=>.isFalse fun ⟨fs',q',_⟩=>by rw [q',List.getElem?_append_right (Nat.le_refl _),Nat.sub_self] at e; cases e
 | some none=>.isFalse fun ⟨fs',q',_⟩=>by rw [q',List.getElem?_append_right (Nat.le_refl _),Nat.sub_self] at e; cases e
 | none=>.isFalse fun ⟨fs',q',_⟩=>by rw [q',List.getElem?_append_right (Nat.le_refl _),Nat.sub_self] at e; cases e
instance decOne {h h2:AH}:Decidable (∃ C,h2=h++[some C]) :=
 match e:h2[h.length]? with
 | some (some C)=>if q:h2=h++[some C] then .isTrue ⟨C,q⟩ else .isFalse fun ⟨C',q'⟩=>by
   subst q'
   rw [List.getElem?_append_right (Nat.le_refl _),Nat.sub_self] at e
   cases e
   exact q rfl
 | some none=>.isFalse fun ⟨fs',q'⟩=>by rw [q',List.getElem?_append_right (Nat.le_refl _),Nat.sub_self] at e; cases e
 | none=>.isFalse fun ⟨fs',q'⟩=>by rw [q',List.getElem?_append_right (Nat.le_refl _),Nat.sub_self] at e; cases e
noncomputable def mkH (fz:Bool) (c n:Nat) (m:MF) (vs:List PV→List PV) (s:S):R S PV :=
 if (vs [.cel s.h.length]).length=n∧yW (vs [.cel s.h.length])=true then match m (vs [.cel s.h.length]) (s.h++[some (.ins c [])]) with
  | .ok .non h2=>if fz=true then (if ∃ fs,h2=s.h++[some (.ins c fs)]∧celsB s.h.length fs=true then match h2[s.h.length]? with
    | some (some (.ins _ fs))=>.ok (.ins c fs) s
    | _=>.bad else .bad) else .ok (.cel s.h.length) ⟨s.e,h2⟩
  | .ok _ _=>.bad
  | .exc y h2=>if (∃ C,h2=s.h++[some C])∧jIS s.h.length y=true then .exc y s else .exc y ⟨s.e,h2⟩
  | .bad=>.bad
 else .bad
structure MkC (P:Program) (w:World) (K:PySem.W.Frag) (mg:Str→Option Value) (base:Heap) (B:Bs) (k:Nat) (x:Str) (c n0:Nat) (ks:List Str) (g:List PV→List PV→List PV) (n:Nat) (m:MF):Prop where
 ex:∃ f fd ps gW gV,Mk K (B.cad c) f∧FnOk P w K mg base (L2N.CX P w) k f fd ps (spF B n m)∧mg x=some (.ref (B.cad c))∧KBn K fd ps (n0+1) ks gW gV ∧
  ∀ (W:Wd) (xs ys:List PV) (vs zs:List V),Reps B W xs vs→Reps B W ys zs→Reps B W (g xs ys) (gV vs zs)
noncomputable def eMk (fz:Bool) (c n0 nk n:Nat) (g:List PV→List PV→List PV) (m:MF) (ma mk:MA):ME:=fun s=>(ma s).bind fun vs s1=>(mk s1).bind fun zs s2=>if (vs.length=n0∧zs.length=nk)∧yW vs=true∧yW zs=true then mkH fz c n m (fun self=>g (self++vs) zs) s2 else .bad
section
variable {X:Cx} {B:Bs} {N:Ent} {W W':Wd} {s s':S} {σ:L2.St} {H H':Hp} {e:Expr} {es:List Expr} {ma mk:MA} {p pos:Pos} {x:Str} {k n n0 c:Nat} {m:MF} {kws:List Keyword} {ks:List Str} {E:XK} {fz:Bool} {g:List PV→List PV→List PV}
theorem yXB {vs zs:List PV} {vs' zs':List V} {gV:List V→List V→List V} {Q:VK} (hg:∀ (W:Wd) (xs ys:List PV) (vs zs:List V),Reps B W xs vs→Reps B W ys zs→Reps B W (g xs ys) (gV vs zs))
  (r:Rel B N W s σ H) (rv:Reps B W vs vs') (rz:Reps B W zs zs') (q:Post B N (fun c d _ H=>E c d H) W s H σ (mkH fz c n m (fun self=>g (self++vs) zs) s) fun u W' _ H'=>∀ u',RepT B W' H' u u'→Q u' H') :
  ∀ x dx,H x=none→H dx=none→dx≠x→spF B n m (gV (.ref x :: vs') zs') (upd (upd H dx (.own x)) x (.ins (B.cad c) dx [])) (fun v H2=>v=.non∧Q (.ref x) H2) E:=by
 intro x dx hx hd ne
 obtain ⟨hr1,st1⟩:=yGV (c:=c) r.hr hx hd ne
 unfold mkH at q
 split at q
 ·rename_i hc
  have hk:∀ a o,H a=some o→upd (upd H dx (.own x)) x (.ins (B.cad c) dx []) a=some o:=fun a o e=>by rw [upd_ne (ne_of_none e hx),upd_ne (ne_of_none e hd)]; exact e
  have ht:∀ a,upd (upd H dx (.own x)) x (.ins (B.cad c) dx []) a=none→H a=none:=fun a e=>st1.tr a e
  have self:Rep B ⟨W.F,W.m++[x]⟩ (.cel s.h.length) (.ref x):=.cel (by show (W.m++[x])[s.h.length]?=some x; rw [← r.hr.len]; simp)
  refine ⟨_,_,g ([PV.cel s.h.length]++vs) zs,hr1,hg _ _ _ _ _ (.cons self (rv.mono jFL)) (rz.mono jFL),hc.1,?_⟩
  cases em:m (g ([PV.cel s.h.length]++vs) zs) (s.h++[some (Cell.ins c [])]) with
  | bad=>simp only [em] at q; exact q.elim
  | exc y h2 =>
   simp only [em] at q
   intro W2 H2 cls d hr2 st2 ex
   split at q
   ·rename_i hy
    obtain ⟨⟨C,rfl⟩,cy⟩:=hy
    obtain ⟨em2,hr3,st3⟩:=jWW r.hr hx hr2 st2 hk ht
    have nw:Nw H d:=fun dd ed=>ht _ (ex.nw dd ed)
    refine q _ H2 cls d (jEV r hr3 st3) (jEU st3) ?_ nw
    obtain ⟨c',fs,dd,us,rfl,rfl,rfl,e1,e2,e3,e4,e5,e6⟩:=ex
    refine ⟨c',fs,dd,us,rfl,rfl,rfl,e1,e2,?_,r.st.tr _ (ht _ e4),e5,fun z=>e6 (by rw [em2]; exact List.mem_append_left _ z)⟩
    have:=e3.cut (n:=s.h.length) cy
    rw [show W2.m.take s.h.length=W.m by rw [em2,← r.hr.len,List.take_left']; rfl] at this
    exact this
   ·have nw:Nw H d:=fun dd ed=>ht _ (ex.nw dd ed)
    have st:=st1.trans r.slen st2
    refine q W2 H2 cls d (jEV r hr2 st) (jEU st) ?_ nw
    obtain ⟨c',fs,dd,us,rfl,rfl,rfl,e1,e2,e3,e4,e5,e6⟩:=ex
    exact ⟨c',fs,dd,us,rfl,rfl,rfl,e1,e2,e3,r.st.tr _ (ht _ e4),e5,e6⟩
  | ok v h2 =>
   cases v with
   | non =>
    simp only [em] at q
    intro W2 H2 v' hr2 st2 rv'
    cases rv'
    refine ⟨rfl,?_⟩
    cases fz with
    | false =>
     have q:Post B N (fun c d _ H=>E c d H) W s H σ (R.ok (PV.cel s.h.length) ⟨s.e,h2⟩) (fun u W' _ H'=>∀ u',RepT B W' H' u u'→Q u' H'):=q
     have st:=st1.trans r.slen st2
     have e1:W2.m[s.h.length]?=some x:=st2.le.at (by show (W.m++[x])[s.h.length]?=some x; rw [← r.hr.len]; simp)
     exact q W2 H2 (jEV r hr2 st) (jEU st) (.ref x) (Rep.hand (x:=PV.cel s.h.length) (.cel e1))
    | true =>
     rw [if_pos rfl] at q
     split at q
     ·rename_i hy
      obtain ⟨fs,rfl,cf⟩:=hy
      have e0:(s.h++[some (Cell.ins c fs)])[s.h.length]?=some (some (.ins c fs)):=by simp
      rw [e0] at q
      obtain ⟨em2,hr3,st3⟩:=jWW r.hr hx hr2 st2 hk ht
      obtain ⟨gF,dx',us,g1,g2,g3⟩:=hr2.cell s.h.length _ x e0 (by rw [em2,← r.hr.len]; simp)
      have g3':=g3.cut (n:=s.h.length) cf
      rw [show W2.m.take s.h.length=W.m by rw [em2,← r.hr.len,List.take_left']; rfl] at g3'
      have nx:x∉W.m:=fun z=>r.hr.mt x z hx
      have hr4:=yCQ hr3 gF nx g1 yER
      have st4:=st3.keepNew (o:=.ins (B.cad c) dx' ((B.fld c).zip us)) hx gF
      have g3n:Reps B ⟨upd W2.F x (.ins (B.cad c) dx' ((B.fld c).zip us)),W.m⟩ fs us:=g3'.mono (W:=⟨W2.F,W.m⟩) (jDR (W:=⟨W2.F,W.m⟩) gF)
      exact q _ H2 (jEV r hr4 st4) (jEU st4) (.ref x) (Rep.hand (x:=PV.ins c fs) (.ins upd_same g2 g3n))
     ·exact q.elim
   | _=>simp only [em] at q; exact q.elim
 ·exact q.elim
theorem yOL {nk:Nat} (hl:ks.length=nk) {gV:List V→List V→List V} (hg:∀ (W:Wd) (xs ys:List PV) (vs zs:List V),Reps B W xs vs→Reps B W ys zs→Reps B W (g xs ys) (gV vs zs)) {Q:VK} (h:tE B N (fun c d _ H=>E c d H) (eMk fz c n0 nk n g m ma mk) σ H Q) :
  tMakeK (B.cad c) n0 ks.length (spF B n m) gV E (tA B N (fun c d _ H=>E c d H) ma) (tA B N (fun c d _ H=>E c d H) mk) σ H Q:=by
 obtain ⟨W,s,r,h⟩:=h
 refine ⟨W,s,r,(h.bind r.slen).mono fun vs W1 s1 H1 r1 _ q vs' rv=>⟨W1,s1,r1,(q.bind r1.slen).mono fun zs W2 s2 H2 r2 st2 q2 zs' rz=>?_⟩⟩
 split at q2
 ·rename_i hc
  have r1':=(rv.reps hc.2.1).mono st2.st.le
  have r2':=rz.reps hc.2.2
  exact ⟨by rw [← r1'.length]; exact hc.1.1,by rw [← r2'.length,hl]; exact hc.1.2,yXB hg r2 r1' r2' q2⟩
 ·exact q2.elim
theorem yVC {nk:Nat} (F:MkC X.prog X.w X.K X.mg X.base B k x c n0 ks g n m) (tk:L2N.Takes X fun c d _ H=>E c d H) (hr:Room (k+1) X.A) (hg:Gl X x) (ha:SimA X B N (fun c d _ H=>E c d H) (e :: es) ma) (hkw:SimK X B N (fun c d _ H=>E c d H) kws mk) (hl:ks.length=nk)
  (hall:(backToKw pos (keywordEach kws X.env)).all (·.1.isSome)=true) (hks:(backToKw pos (keywordEach kws X.env)).filterMap (·.1)=ks) (hdb:(x == ("__debug__" : Str))=false)
  (he:starEach (e :: es) X.env=(false,eval e X.env) :: starEach es X.env) (hpl:((backTo pos (starEach (e :: es) X.env)).any (·.1)||(backToKw pos (keywordEach kws X.env)).any (·.1.isNone))=false) :
  SimE X B N (fun c d _ H=>E c d H) (.Call (.Name x p) (e :: es) kws pos) (eMk fz c n0 nk n g m ma mk):=by
 obtain ⟨f,fd,ps,gW,gV,M,F1,hm,hb,hv⟩:=F.ex
 exact (pe_makeK M F1 hr hg hm hb (L2N.passes_call tk fun _ _ _ _ h=>h) ha hkw hall hks hdb he hpl).imp fun σ H Q h=>yOL hl hv h
end
end Lp
set_option maxHeartbeats 4000000
namespace Lp
open PySem PySem.Spec PyProof.Rows L2
def yQD (C:Addr) (m:Str) (n nk:Nat) (sp:Sp) (gV:List V→List V→List V) (E:XK) (ta:TE) (t tk:TA):TE:=fun σ H Q=>ta σ H fun x H1=>∃ a dx fs,x=.ref a∧H1 a=some (.ins C dx fs)∧fs.lookup m=none ∧
 t σ H1 fun vs H2=>tk σ H2 fun zs H3=>vs.length=n∧zs.length=nk∧sp (gV (x :: vs) zs) H3 Q E
section
variable {X:Cx} {CX:CXT} {k n:Nat} {f C:Addr} {fd:FuncData} {ps ks:List Str} {sp:Sp} {E:XK} {m:Str} {pos apos:Pos} {e o:Expr} {es:List Expr} {kws:List Keyword} {ta:TE} {t tk:TA} {g:List Value→List Value→List Value} {gV:List V→List V→List V}
theorem yVU {pl:Sem Bool} (he:PE X o ta) (c:Cls X.K C) (hm:Meth X.K C m f) (F:FnOk X.prog X.w X.K X.mg X.base CX k f fd ps sp) (hr:Room k X.A) (hb:KBn X.K fd ps (n+1) ks g gV) (hx:Passes CX X E) (ha:PA X (e :: es) t) (hkw:PK X kws tk)
  (hall:(backToKw pos (keywordEach kws X.env)).all (·.1.isSome)=true) (hks:(backToKw pos (keywordEach kws X.env)).filterMap (·.1)=ks) (hst:starEach (e :: es) X.env=(false,eval e X.env) :: starEach es X.env)
  (hpl:((backTo pos (starEach (e :: es) X.env)).any (·.1)||(backToKw pos (keywordEach kws X.env)).any (·.1.isNone))=false)
  (ht:eval (.Call (.Attribute o m apos) (e :: es) kws pos) X.env=(do
   let ov ← eval o X.env
   standAt apos.atName
   let (f,first) ← holding [ov] (getMethod ov m pl)
   callWith pos f first (backTo pos (starEach (e :: es) X.env)) (backToKw pos (keywordEach kws X.env)))):PE X (.Call (.Attribute o m apos) (e :: es) kws pos) (yQD C m n ks.length sp gV E ta t tk):=by
 refine ⟨fun pins s σ H Q I h=>?_⟩
 refine PySem.W.methodCall_KW (pl:=pl) (thn (he.run pins s σ H _ I h) fun u s1 ⟨x,H1,I1,rx,a,dx,fs,ex,ea,l,q⟩=>?_) ht
 subst ex
 obtain rfl:u=Value.ref a:=rx
 refine getmeth_ok I1 ea c hm l ?_
 refine PySem.W.callWith_KW (first:=[.ref a]) (h₀:=X.base) I.ok.mod.kin hm.kp hall (thn (ha.run pos pins s1 σ H1 _ I1 q) fun us s2 ⟨vs,H2,I2,r,q2⟩=>?_) hpl hst
 refine thn (hkw.run pos pins s2 σ H2 _ I2 q2) fun ws s3 ⟨zs,H3,I3,rz,l1,l2,q3⟩=>⟨I3.kIn,?_⟩
 rw [hks]
 exact run_fnN (us:=.ref a :: us) (vs:=.ref a :: vs) F hr hb hx I3 (.cons rfl r) rz (by rw [List.length_cons,l1]) l2 q3
theorem yNR {pl:Sem Bool} (he:PE X o ta) (c:Cls X.K C) (hm:Meth X.K C m f) (F:FnOk X.prog X.w X.K X.mg X.base CX k f fd ps sp) (hr:Room k X.A) (hb:KBn X.K fd ps 1 ks g gV) (hx:Passes CX X E) (hkw:PK X kws tk)
  (hall:(backToKw pos (keywordEach kws X.env)).all (·.1.isSome)=true) (hks:(backToKw pos (keywordEach kws X.env)).filterMap (·.1)=ks)
  (hpl:((backTo pos (starEach [] X.env)).any (·.1)||(backToKw pos (keywordEach kws X.env)).any (·.1.isNone))=false)
  (ht:eval (.Call (.Attribute o m apos) [] kws pos) X.env=(do
   let ov ← eval o X.env
   standAt apos.atName
   let (f,first) ← holding [ov] (getMethod ov m pl)
   callWith pos f first (backTo pos (starEach [] X.env)) (backToKw pos (keywordEach kws X.env)))):PE X (.Call (.Attribute o m apos) [] kws pos) (yQD C m 0 ks.length sp gV E ta tNil tk):=by
 refine ⟨fun pins s σ H Q I h=>?_⟩
 refine PySem.W.methodCall_KW (pl:=pl) (thn (he.run pins s σ H _ I h) fun u s1 ⟨x,H1,I1,rx,a,dx,fs,ex,ea,l,q⟩=>?_) ht
 subst ex
 obtain rfl:u=Value.ref a:=rx
 refine getmeth_ok I1 ea c hm l ?_
 refine PySem.W.callWith_KW0 (first:=[.ref a]) (h₀:=X.base) I.ok.mod.kin hm.kp hall ?_ hpl
 refine thn (hkw.run pos pins s1 σ H1 _ I1 q) fun ws s3 ⟨zs,H3,I3,rz,l1,l2,q3⟩=>⟨I3.kIn,?_⟩
 rw [hks]
 exact run_fnN (us:=[.ref a]) (vs:=[.ref a]) F hr hb hx I3 (.cons rfl .nil) rz rfl l2 q3
end
structure Me (P:Program) (w:World) (K:PySem.W.Frag) (mg:Str→Option Value) (base:Heap) (B:Bs) (k:Nat) (c:Nat) (x:Str) (n0:Nat) (ks:List Str) (g:List PV→List PV→List PV) (n:Nat) (m:MF):Prop where
 ex:∃ f fd ps gW gV,Meth K (B.cad c) x f∧FnOk P w K mg base (L2N.CX P w) k f fd ps (spF B n m)∧KBn K fd ps (n0+1) ks gW gV ∧
  ∀ (W:Wd) (xs ys:List PV) (vs zs:List V),Reps B W xs vs→Reps B W ys zs→Reps B W (g xs ys) (gV vs zs)
theorem Me.mono {P:Program} {w:World} {K:PySem.W.Frag} {mg:Str→Option Value} {base:Heap} {B:Bs} {j k:Nat} {c:Nat} {x:Str} {n0:Nat} {ks:List Str} {g:List PV→List PV→List PV} {n:Nat} {m:MF} (F:Me P w K mg base B j c x n0 ks g n m) (h:j≤k):Me P w K mg base B k c x n0 ks g n m :=
 let ⟨f,fd,ps,gW,gV,a,b,d⟩:=F.ex
 ⟨f,fd,ps,gW,gV,a,b.mono h,d⟩
theorem MkC.mono {P:Program} {w:World} {K:PySem.W.Frag} {mg:Str→Option Value} {base:Heap} {B:Bs} {j k:Nat} {c:Nat} {x:Str} {n0:Nat} {ks:List Str} {g:List PV→List PV→List PV} {n:Nat} {m:MF} (F:MkC P w K mg base B j x c n0 ks g n m) (h:j≤k):MkC P w K mg base B k x c n0 ks g n m :=
 let ⟨f,fd,ps,gW,gV,a,b,d⟩:=F.ex
 ⟨f,fd,ps,gW,gV,a,b.mono h,d⟩
def clsOf (h:AH) (o:PV):Option Nat:=(jLT h o).map (·.1)
def eMe (c n0 nk n:Nat) (g:List PV→List PV→List PV) (m:MF) (mo:ME) (ma mk:MA):ME:=fun s=>(mo s).bind fun o s1=>match clsOf s1.h o with
 | some c'=>if c'=c∧isOwn o=false then (ma s1).bind fun vs s2=>(mk s2).bind fun zs s3=>if (vs.length=n0∧zs.length=nk)∧yW vs=true∧yW zs=true then jGI n m (g (o :: vs) zs) s3 else .bad else .bad
 | none=>.bad
section
variable {X:Cx} {B:Bs} {N:Ent} {W W':Wd} {s s':S} {σ:L2.St} {H H':Hp} {e o:Expr} {es:List Expr} {mo:ME} {ma mk:MA} {pos apos:Pos} {x:Str} {k n n0 nk c:Nat} {m:MF} {kws:List Keyword} {ks:List Str} {E:XK} {g:List PV→List PV→List PV} {fl:FL}
theorem jWC:∀ {ns:List Str} {vs:List V},x∉ns→(ns.zip vs).lookup x=none
 | [],_,_=>rfl
 | n :: ns,[],_=>rfl
 | n :: ns,v :: vs,h=>by
  simp only [List.mem_cons,not_or] at h
  rw [List.zip_cons_cons,List.lookup_cons,show (x == n)=false from beq_false_of_ne h.1]
  exact jWC h.2
theorem yAX {gV:List V→List V→List V} (hx:x∉B.fld c) (hl:ks.length=nk) (hg:∀ (W:Wd) (xs ys:List PV) (vs zs:List V),Reps B W xs vs→Reps B W ys zs→Reps B W (g xs ys) (gV vs zs)) {Q:VK} (h:tE B N (fun c d _ H=>E c d H) (eMe c n0 nk n g m mo ma mk) σ H Q) :
  yQD (B.cad c) x n0 ks.length (spF B n m) gV E (tE B N (fun c d _ H=>E c d H) mo) (tA B N (fun c d _ H=>E c d H) ma) (tA B N (fun c d _ H=>E c d H) mk) σ H Q:=by
 obtain ⟨W,s,r,h⟩:=h
 refine ⟨W,s,r,(h.bind r.slen).mono fun o1 W0 s0 H0 r0 _ q0 o' ro=>?_⟩
 split at q0
 ·rename_i c' ec
  split at q0
  ·rename_i hc0
   obtain ⟨rfl,ow⟩:=hc0
   unfold clsOf at ec
   cases ei:jLT s0.h o1 with
   | none=>rw [ei] at ec; cases ec
   | some p =>
    obtain ⟨c1,fs⟩:=p
    rw [ei] at ec
    cases ec
    obtain ⟨a,dx,vs,rfl,hH,hle,rs⟩:=jUH r0.hr ro ei
    refine ⟨a,dx,_,rfl,hH,jWC hx,W0,s0,r0,(q0.bind r0.slen).mono fun us W1 s1 H1 r1 st1 q us' ru=>⟨W1,s1,r1,(q.bind r1.slen).mono fun zs W2 s2 H2 r2 st2 q2 zs' rz=>?_⟩⟩
    split at q2
    ·rename_i hc
     have r1':=(ru.reps hc.2.1).mono st2.st.le
     have r2':=rz.reps hc.2.2
     have ro':=((ro.on r0.slen st1.st).on r1.slen st2.st).rep ow
     exact ⟨by rw [← r1'.length]; exact hc.1.1,by rw [← r2'.length,hl]; exact hc.1.2,jMP r2 (hg _ _ _ _ _ (.cons ro' r1') r2') q2⟩
    ·exact q2.elim
  ·exact q0.elim
 ·exact q0.elim
theorem yVD {pl:Sem Bool} (F:Me X.prog X.w X.K X.mg X.base B k c x n0 ks g n m) (hc:Cls X.K (B.cad c)) (hx:x∉B.fld c) (tk:L2N.Takes X fun c d _ H=>E c d H) (hr:Room k X.A) (ho:SimE X B N (fun c d _ H=>E c d H) o mo)
  (ha:SimA X B N (fun c d _ H=>E c d H) (e :: es) ma) (hkw:SimK X B N (fun c d _ H=>E c d H) kws mk) (hl:ks.length=nk)
  (hall:(backToKw pos (keywordEach kws X.env)).all (·.1.isSome)=true) (hks:(backToKw pos (keywordEach kws X.env)).filterMap (·.1)=ks) (he:starEach (e :: es) X.env=(false,eval e X.env) :: starEach es X.env)
  (hpl:((backTo pos (starEach (e :: es) X.env)).any (·.1)||(backToKw pos (keywordEach kws X.env)).any (·.1.isNone))=false)
  (ht:eval (.Call (.Attribute o x apos) (e :: es) kws pos) X.env=(do
   let ov ← eval o X.env
   standAt apos.atName
   let (f,first) ← holding [ov] (getMethod ov x pl)
   callWith pos f first (backTo pos (starEach (e :: es) X.env)) (backToKw pos (keywordEach kws X.env)))):SimE X B N (fun c d _ H=>E c d H) (.Call (.Attribute o x apos) (e :: es) kws pos) (eMe c n0 nk n g m mo ma mk):=by
 obtain ⟨f,fd,ps,gW,gV,M,F1,hb,hg⟩:=F.ex
 exact (yVU ho hc M F1 hr hb (L2N.passes_call tk fun _ _ _ _ h=>h) ha hkw hall hks he hpl ht).imp fun σ H Q h=>yAX hx hl hg h
theorem yMV {pl:Sem Bool} (F:Me X.prog X.w X.K X.mg X.base B k c x 0 ks g n m) (hc:Cls X.K (B.cad c)) (hx:x∉B.fld c) (tk:L2N.Takes X fun c d _ H=>E c d H) (hr:Room k X.A) (ho:SimE X B N (fun c d _ H=>E c d H) o mo)
  (hkw:SimK X B N (fun c d _ H=>E c d H) kws mk) (hl:ks.length=nk)
  (hall:(backToKw pos (keywordEach kws X.env)).all (·.1.isSome)=true) (hks:(backToKw pos (keywordEach kws X.env)).filterMap (·.1)=ks)
  (hpl:((backTo pos (starEach [] X.env)).any (·.1)||(backToKw pos (keywordEach kws X.env)).any (·.1.isNone))=false)
  (ht:eval (.Call (.Attribute o x apos) [] kws pos) X.env=(do
   let ov ← eval o X.env
   standAt apos.atName
   let (f,first) ← holding [ov] (getMethod ov x pl)
   callWith pos f first (backTo pos (starEach [] X.env)) (backToKw pos (keywordEach kws X.env)))):SimE X B N (fun c d _ H=>E c d H) (.Call (.Attribute o x apos) [] kws pos) (eMe c 0 nk n g m mo jL mk):=by
 obtain ⟨f,fd,ps,gW,gV,M,F1,hb,hg⟩:=F.ex
 refine (yNR ho hc M F1 hr hb (L2N.passes_call tk fun _ _ _ _ h=>h) hkw hall hks hpl ht).imp fun σ H Q h=>?_
 obtain ⟨W,s,r,q⟩:=yAX (ma:=jL) hx hl hg h
 refine ⟨W,s,r,q.mono fun o1 W1 s1 H1 r1 _ z o' ro=>?_⟩
 obtain ⟨a,dx,fs,e1,e2,e3,z⟩:=z o' ro
 obtain ⟨W2,s2,r2,z⟩:=z
 exact ⟨a,dx,fs,e1,e2,e3,z.ok r2 [] trivial⟩
end
end Lp
set_option maxHeartbeats 4000000
namespace Lp
open PySem PySem.Spec PyProof.Rows L2 LamX
def LamH (H H1:Hp) (P c1:Addr) (q:Str):Prop:=H1=H∨∃ ps ps1,H P=some (.tbl ps)∧H c1=none∧H1=upd (upd H P (.tbl ps1)) c1 (CodeO c1 q)
section
variable {B:Bs} {W:Wd} {h:AH} {H H1:Hp} {P c1:Addr} {q:Str}
theorem LamH.old (l:LamH H H1 P c1 q) {b:Addr} {o:HO} (e:H b=some o) (n:NT o):H1 b=some o:=by
 rcases l with rfl | ⟨ps,ps1,eP,ec,rfl⟩
 ·exact e
 ·rw [upd_ne (ne_of_none e ec),upd_ne fun z=>n ps (by rw [z,eP] at e; exact (Option.some.inj e).symm)]; exact e
theorem LamH.none (l:LamH H H1 P c1 q) {b:Addr} (e:H1 b=none):H b=none:=by
 rcases l with rfl | ⟨ps,ps1,eP,ec,rfl⟩
 ·exact e
 ·by_cases h1:b=c1
  ·rw [h1,upd_same] at e; cases e
  ·rw [upd_ne h1] at e
   by_cases h2:b=P
   ·rw [h2,upd_same] at e; cases e
   ·rw [upd_ne h2] at e; exact e
theorem LamH.new (l:LamH H H1 P c1 q) {b:Addr} {o:HO} (e:H1 b=some o):H b=some o∨(∃ ps,o=.tbl ps)∨o=CodeO c1 q:=by
 rcases l with rfl | ⟨ps,ps1,eP,ec,rfl⟩
 ·exact .inl e
 ·by_cases h1:b=c1
  ·rw [h1,upd_same] at e; cases e; exact .inr (.inr rfl)
  ·rw [upd_ne h1] at e
   by_cases h2:b=P
   ·rw [h2,upd_same] at e; cases e; exact .inr (.inl ⟨_,rfl⟩)
   ·rw [upd_ne h2] at e; exact .inl e
end
end Lp
set_option maxHeartbeats 4000000
namespace Lp
open PySem PySem.Spec PyProof.Rows L2 LamX NdefX
section
open PySem.W
variable {prog:Program} {w:World} {A:Around} {E:Value→Shared→Prop} {s:Shared} {K:Frag} {x C D u:Addr} {ox:Obj} {odx:Option Obj} {B i newId:String} {bmB:List Value}
theorem yIO {so:Addr} {pl:Sem Bool} {cd:ClassData} {Q:Value × List Value→Shared→Prop} (KF:KxsFacts B i) (X:K.In s.heap) (hso:s.heap.get? so=some (ks_superObj D x C)) (I:InstAt s.heap x ox C odx) (ho:nsIn K cStatics "thirdparty.any" = some none)
  (hc:clsIn K C=some cd) (hm:ks_superIn K C D "__init__" = some (some (.builtin i))) (hB:subIn K (.ref C) (.type B)=some true)
  (h:Q (.ref s.heap.objs.size,[]) { s with heap:=s.heap.push (kxs_mw i x),toks:=s.toks+1 }):wpAny (model prog w) A (getMethod (.ref so) "__init__" pl) Q E s:=by
 have hI:Looks (model prog w) s.heap (isInstance (.ref x) (.type B)) true:=I.type.andThen (looks_subIn X hB)
 obtain ⟨hh,g,d,t,os⟩:=s
 unfold ks_superIn at hm
 rw [hc] at hm
 exact kxs_getMethod KF hso (looks_opaque X ho) (l₀:=cd.mro) (fun A Q E s k q=>wpAny_bind ((looks_clsIn X hc) A _ E s k (wpAny_pure q))) rfl X hm hI (ks_ne X I hc) rfl h
theorem yFL {t:Addr} {rest:List Value} {Q:Value→Shared→Prop} (FB:ExcBaseFacts B newId i bmB) (X:K.In s.heap) (q:excInitIn K C bmB newId=true) (hu:s.heap.get? u=some (kxs_mw i x)) (he:s.heap.get? x=some (excObj C t none .none)) (hz:rest.length≤sizeLine)
  (fin:∀ h' t',(∀ b o,b≠x→s.heap.get? b=some o→h'.get? b=some o)→h'.get? x=some (excObj C t' none .none)→Q .none { s with heap:=h' }) :
  wpAny (model prog w) A (call (.ref u) rest) Q E s:=by
 obtain ⟨nm,N',qn,bs,bm,hdct,sn,sub,ab,col,dd,k0,k1,k2,k3,k5,hC,hT⟩:=excInit_of X q
 obtain ⟨hh,g,d,tk,os⟩:=s
 refine wpAny_call (codeAny_of_tree ?_)
 show wpAny _ A.in1 (callAny (.ref u) ⟨rest,[]⟩) _ _ _
 simp only [callAny]
 refine wpAny_bind (wpAny_load hu ?_)
 simp only [kxs_mw,show (Value.type "method-wrapper" == Value.type "method" || Value.type "method-wrapper" == Value.type "builtin_function_or_method" || Value.type "method-wrapper" == Value.type "method-wrapper")=true by decide,if_true]
 refine KFB.if_so (by decide) ?_
 refine wpAny_bind (check_bound_init FB.toExcCallFacts hC he rfl ?_)
 refine wpAny_bind (wpAny_pure (wpAny_pure ?_))
 refine ⟨plainId_quiet FB.init.plain _,codeAny_builtin FB.initEntry ?_⟩
 exact exc_init_tree (cls:=.ref C) (t0:=t) (dv:=none) (c2:=.none) (c3:=.none) (b4:=.bool false) he hz fun h' k e' _=>fin h' _ k e'
end
structure SupF (P:Program) (K:PySem.W.Frag) (D:Addr) (qual:Str) (params:Arguments) (body:List Stmt) (scope:Scope) (f cc cda:Addr) (fd:FuncData):Prop where
 fn:∃ (oc:Value) (od:Option Addr) (dV kV doc pm:Value) (an:Option Addr) (ct:Value) (osl:Array (Option Value)),fd=PySem.W.ksFn "__init__" qual params body scope dV kV doc pm an (.ref cda) ct cc∧K.lookup f=some ⟨oc,od,.func fd,osl⟩
 code:PySem.W.codeIn K (.ref cda) qual=true
 file:∃ (ccl:Value) (cdd:Option Addr) (vs:Array Value) (ccs:Array (Option Value)) (file:Str) (tf:Tok),K.lookup cda=some ⟨ccl,cdd,.fields vs,ccs⟩∧vs[2]?=some (.str file tf)∧((P.main.file:Str) == file)=true
 cell:∃ (cl:Value) (cld:Option Addr) (csl:Array (Option Value)),K.lookup cc=some ⟨cl,cld,.cell (some (.ref D)),csl⟩
 cls:∃ cd,PySem.W.clsIn K D=some cd
 sta:PySem.W.nsIn K cStatics "thirdparty.any" = some none
 self:∃ ar:Arg,(params.posonlyargs++params.args).head?=some ar∧ar.arg=("self" : Str)
 hs:scope.names.lookup ("super" : Str)=some .globalImplicit
 hc:scope.names.lookup ("__class__" : Str)=some .free
 hl:scope.names.lookup ("self" : Str)=some .local
 top:(P.main.scope.names.lookup ("super" : Str)).isSome=false
structure SupC (K:PySem.W.Frag) (B i newId:String) (bmB:List Value) (C D:Addr):Prop where
 ini:PySem.W.excInitIn K C bmB newId=true
 sup:PySem.W.ks_superIn K C D "__init__" = some (some (.builtin i))
 sub:PySem.W.subIn K (.ref C) (.type B)=some true
 mro:PySem.W.mroIn K C (.ref D)=some true
section
variable {P:Program} {w:World} {K:PySem.W.Frag} {mg:Str→Option Value} {base:Heap} {CX:CXT} {D f cc cda C a:Addr} {qual:Str} {params:Arguments} {body:List Stmt} {scope:Scope} {fd:FuncData} {A:Around} {outer:List Env} {s0 s:Shared} {H H0:Hp} {E:XK} {N:List Str} {pins:List (Addr × Obj)} {σ:L2.St}
variable {B i newId:String} {bmB:List Value} {TEXT:Str} {j:Nat} {p0 p1 p2 p3 cp ap:Pos}
abbrev vP (qual:Str) (params:Arguments) (body:List Stmt) (scope:Scope) (cc cda:Addr):NF:=⟨"__init__", qual,params,body,scope,[("__class__", cc)],cda⟩
theorem yFK {pl:Sem Bool} {body':List Stmt} {E':Value→Shared→Prop} {R:Flow→Shared→Prop} (S:SupF P K D qual params body scope f cc cda fd) (T:SupC K B i newId bmB C D) (KF:PySem.W.KxsFacts B i) (FB:ExcBaseFacts B newId i bmB) (hsu:mg "super" = none)
  (I:Inv (ncx CX P w K mg base N (vP qual params body scope cc cda) f A outer s0 H0 E) pins σ H s) (hN:N[0]?=some ("self" : Str)) (h0:σ[0]?=some (some (.ref a))) (ha:H a=some (exo a C none))
  (ht:eval (.Call (.Attribute (.Call (.Name "super" p0) [] [] p1) "__init__" ap) [.Constant (.str TEXT) j cp] [] p2) (envF (vP qual params body scope cc cda) f s0.heap.objs.size)=(do
   let ov ← attributeBase (.Call (.Name "super" p0) [] [] p1) "__init__" (envF (vP qual params body scope cc cda) f s0.heap.objs.size) (eval (.Call (.Name "super" p0) [] [] p1) (envF (vP qual params body scope cc cda) f s0.heap.objs.size))
   standAt ap.atName
   let (f1,first) ← holding [ov] (getMethod ov "__init__" pl)
   callWith p2 f1 first (backTo p2 (starEach [.Constant (.str TEXT) j cp] (envF (vP qual params body scope cc cda) f s0.heap.objs.size))) []))
  (h:∀ s',Inv (ncx CX P w K mg base N (vP qual params body scope cc cda) f A outer s0 H0 E) pins σ H s'→R .next s') :
  _root_.PySem.wpAt (model P w) (A.deeper (envF (vP qual params body scope cc cda) f s0.heap.objs.size)) (.func body' (envF (vP qual params body scope cc cda) f s0.heap.objs.size))
   (exec (.Expr (.Call (.Attribute (.Call (.Name "super" p0) [] [] p1) "__init__" ap) [.Constant (.str TEXT) j cp] [] p2) p3) (envF (vP qual params body scope cc cda) f s0.heap.objs.size)) R E' s:=by
 obtain ⟨oc,od,dV,kV,doc,pm,an,ct,osl,rfl,lk⟩:=S.fn
 obtain ⟨ccl,cdd,vs,ccs,file,tf,lc,hvs,hfile⟩:=S.file
 obtain ⟨cl,cld,csl,lcc⟩:=S.cell
 obtain ⟨cdD,hD⟩:=S.cls
 obtain ⟨ar,hp,har⟩:=S.self
 have X:=I.kIn
 have X:K.In s.heap:=X
 obtain ⟨oD,hD1,hD2⟩:∃ oD,s.heap.get? D=some oD∧oD.data=.cls cdD:=by
  unfold PySem.W.clsIn at hD
  split at hD
  ·rename_i c d cd' sl ho
   cases hD
   exact ⟨_,X _ _ ho,rfl⟩
  ·cases hD
 obtain ⟨t1,hx⟩:=exo_at I.hok ha
 have hcC:∃ cd,PySem.W.clsIn K C=some cd:=by
  have q:=T.mro
  unfold PySem.W.mroIn at q
  cases e:PySem.W.clsIn K C with
  | none=>rw [e] at q; cases q
  | some cd=>exact ⟨cd,rfl⟩
 obtain ⟨cdC,hcC⟩:=hcC
 have Ins:∀ {h':Heap},h'.get? a=some (PySem.W.excObj C t1 none .none)→PySem.W.InstAt h' a (PySem.W.excObj C t1 none .none) C none:=fun e=>⟨e,rfl,rfl,trivial⟩
 have hint:interactive (envF (vP qual params body scope cc cda) f s0.heap.objs.size)=false:=by
  have hk:scope.kind=.function:=I.ok.kind
  unfold interactive
  simp [hk]
 refine PySem.ks_wpAt_Expr_any ?_ hint
 refine PySem.ks_wpAt_MethodCall (pl:=pl) ?_ ht
 refine PySem.ks_wpAt_super_base (env:=envF (vP qual params body scope cc cda) f s0.heap.objs.size) S.hs S.hc rfl rfl (X _ _ lk) rfl hp rfl (X _ _ lc) rfl hvs hfile S.top ?_
 obtain ⟨mb,b1,b2⟩:=I.mod.blt
 have b1:base.Ns builtinsNs mb:=b1
 refine PySem.W.ks_loadName_global I.ok.kind S.hs (Calls.loadGlobal_builtin (env:=envF (vP qual params body scope cc cda) f s0.heap.objs.size) (I.mod.glob.keeps I.bk) hsu (b1.keeps I.bk) ((b2 _ (by decide)).trans (show bootBuiltins "super" = some (.type "super") by decide +kernel)) ⟨rfl,?_⟩)
 refine wpAny_loadName_free I.ok.kind S.hc rfl ⟨_,X _ _ lcc,rfl⟩ ?_
 obtain ⟨m,hns,hl⟩:=I.loc
 obtain ⟨u,ru,lu⟩:=hl 0 "self" _ hN h0 (.inl S.hl)
 obtain rfl:u=Value.ref a:=ru
 have hm:m ("self" : Str)=some (.ref a):=by
  rcases lu with ⟨_,z⟩ | ⟨z,_⟩
  ·exact z
  ·have z:scope.names.lookup ("self" : Str)=some .cell∨scope.names.lookup ("self" : Str)=some .free:=z
   rw [S.hl] at z
   rcases z with z | z <;> cases z
 rw [har]
 refine wpAny_loadName_local I.ok.kind S.hl hns hm ?_
 have I0:=I
 obtain ⟨hh,g,d,t,os⟩:=s
 refine PySem.ks_wpAny_isType_cls hD1 hD2 ⟨rfl,?_⟩
 refine PySem.ks_wpAny_call_super hD1 hD2 hx rfl (fun c z=>nomatch z) (PySem.W.looks_mroIn X T.mro) (fun h1 e1 k1=>?_)
 have I1:=I.kept (h':=h1) (t':=t) k1
 refine yIO (s:=⟨h1,g,d,t,os⟩) (pl:=_) KF I1.kIn e1 (Ins (k1 _ _ hx)) S.sta hcC T.sup T.sub ?_
 have k2:∀ b o,h1.get? b=some o→(h1.push (PySem.W.kxs_mw i a)).get? b=some o:=fun b o e=>Heap.get?_push_of_some _ e
 have I2:=I1.kept (h':=h1.push (PySem.W.kxs_mw i a)) (t':=t+1) k2
 have hu:(h1.push (PySem.W.kxs_mw i a)).get? h1.objs.size=some (PySem.W.kxs_mw i a):=Heap.get?_push_at rfl rfl
 refine PySem.W.kxs_callWith (i:=i) (x:=a) rfl ?_
 refine Calls.evalArgs_plain ?_
 refine Calls.spliced_cons (Calls.Constant_str (pos:=cp) (k:=j) ?_)
 refine Calls.spliced_nil ⟨hu,?_⟩
 refine yFL (s:=⟨h1.push (PySem.W.kxs_mw i a),g,d,t+1+1,os⟩) FB I2.kIn T.ini hu (k2 _ _ (k1 _ _ hx)) (by rw [sizeLine_eq]; exact Nat.le_of_ble_eq_true rfl) fun h' t' k' e'=>?_
 have J:=(I2.tok (t+1+1)).write (h':=h') (t':=t+1+1) (x:=a) (e:=a) (o:=exo a C none) (by rw [ha]; exact True.intro) (.inl rfl) k' ⟨_,e'⟩ (exo_ok e')
 have eu:upd H a (exo a C none)=H:=by
  funext b
  by_cases hb:b=a
  ·rw [hb,upd_same,ha]
  ·rw [upd_ne hb]
 rw [eu] at J
 exact h _ J
theorem yQT {st0:Stmt} {rest:List Stmt} {sp:Sp} {k:Nat} {ps N:List Str} (S:SupF P K D qual params (st0 :: rest) scope f cc cda fd) (KF:PySem.W.KxsFacts B i) (FB:ExcBaseFacts B newId i bmB) (hsu:mg "super" = none) (sc:NScope N ps ["__class__"] scope)
    (hps:ps[0]?=some ("self" : Str)) (e0:st0=.Expr (.Call (.Attribute (.Call (.Name "super" p0) [] [] p1) "__init__" ap) [.Constant (.str TEXT) j cp] [] p2) p3)
    (ht:∀ L:Addr,∃ pl:Sem Bool,eval (.Call (.Attribute (.Call (.Name "super" p0) [] [] p1) "__init__" ap) [.Constant (.str TEXT) j cp] [] p2) (envF (vP qual params (st0 :: rest) scope cc cda) f L)=(do
      let ov ← attributeBase (.Call (.Name "super" p0) [] [] p1) "__init__" (envF (vP qual params (st0 :: rest) scope cc cda) f L) (eval (.Call (.Name "super" p0) [] [] p1) (envF (vP qual params (st0 :: rest) scope cc cda) f L))
      standAt ap.atName
      let (f1,first) ← holding [ov] (getMethod ov "__init__" pl)
      callWith p2 f1 first (backTo p2 (starEach [.Constant (.str TEXT) j cp] (envF (vP qual params (st0 :: rest) scope cc cda) f L))) []))
    (hsp:∀ vs H Q E,sp vs H Q E→vs.length=ps.length∧∃ (a C:Addr) (us:List V),vs=.ref a :: us∧H a=some (exo a C none)∧SupC K B i newId bmB C D)
    (hbody:∀ (A:Around) (outer:List Env) (s:Shared) (H:Hp) (vs:List V) (Q:VK) (E:XK),Room k (A.deeper (envF (vP qual params (st0 :: rest) scope cc cda) f s.heap.objs.size))→sp vs H Q E →
      ∃ t,PSs (ncx CX P w K mg base N (vP qual params (st0 :: rest) scope cc cda) f A outer s H E) rest t∧t { nx:=fun _ H'=>Q .non H',rt:=Q } (startF N vs [some (.ref D)]) H) :
    FnOk P w K mg base CX (k+1) f fd ps sp:=by
  refine ⟨fun vs H Q E q=>(hsp vs H Q E q).1,fun A outer s H args us vs Q E hr e1 hb r q=>?_⟩
  obtain ⟨hl,a,C,us',rfl,ha,T⟩:=hsp _ _ _ _ q
  have S0:=S
  obtain ⟨oc,od,dV,kV,doc,pm,an,ct,osl,rfl,lk⟩:=S.fn
  obtain ⟨cl,cld,csl,lcc⟩:=S.cell
  have KX:K.In s.heap:=e1.mod.kin.keeps fun b o e=>(e1.bs b o e).1
  have lim:s.heap.NoLimit:=e1.mod.nolimit.keeps fun b o e=>(e1.bs b o e).1
  have hcc0:H cc=none:=(e1.bs cc _ (e1.mod.kin _ _ lcc)).2
  have CA:CellsAt [(("__class__" : Str),cc)] ["__class__"] [some (.ref D)] s.heap H:=by
    have one:∀ (y:Str) (c:Addr),([(("__class__" : Str),cc)]:List (Str × Addr)).lookup y=some c→y = "__class__" ∧ c=cc:=fun y c e=>by
      rw [List.lookup_cons] at e
      split at e
      · rename_i z; cases e; exact ⟨beq_iff_eq.mp z,rfl⟩
      · cases e
    refine ⟨rfl,fun y c e=>?_,fun x y c e1 e2=>?_,fun i y e=>?_⟩
    · obtain ⟨_,rfl⟩:=one y c e
      exact ⟨hcc0,_,_,KX _ _ lcc,rfl⟩
    · rw [(one x c e1).1,(one y c e2).1]
    · cases i with
      | zero =>
        cases e
        refine ⟨cc,rfl,fun v ev=>?_⟩
        cases ev
        exact ⟨.ref D,rfl,_,KX _ _ lcc,rfl⟩
      | succ i=>simp at e
  have hk:scope.kind=.function:=sc.kind
  refine PySem.ks_codeAny_call_defAt (fd:=PySem.W.ksFn "__init__" qual params (st0 :: rest) scope dV kV doc pm an (.ref cda) ct cc) (body:=st0 :: rest) (binds:=ps.zip us) hr.depth (KX _ _ lk) rfl lim (PySem.W.codeRec_of KX S.code) rfl hb sc.nocell (fun ⟨n,_⟩ hy=>sc.par n (List.of_mem_zip hy).1) (fun h₁ hns kp=>?_) sc.co sc.gen hk
  have I:Inv (ncx CX P w K mg base N (vP qual params (st0 :: rest) scope cc cda) f A outer s H E) [] (startF N (.ref a :: us') [some (.ref D)]) H { s with heap:=h₁,toks:=s.toks+(ps.zip us).length }:=inv_startN sc hr.hd e1 hl r CA hns kp
  obtain ⟨pl,ht⟩:=ht s.heap.objs.size
  show _root_.PySem.wpAt (model P w) (A.deeper (envF (vP qual params (st0 :: rest) scope cc cda) f s.heap.objs.size)) (.func (st0 :: rest) (envF (vP qual params (st0 :: rest) scope cc cda) f s.heap.objs.size)) (execs (st0 :: rest) (envF (vP qual params (st0 :: rest) scope cc cda) f s.heap.objs.size)) _ _ _
  refine PySem.ks_wpAt_execs_cons ?_
  have hN:N[0]?=some ("self" : Str):=by
    have q:=sc.pre
    have:(N.take (ps.length+(["__class__"]:List Str).length))[0]?=(ps++(["__class__"]:List Str))[0]?:=by rw [q]
    rw [List.getElem?_take_of_lt (by simp)] at this
    rw [this,List.getElem?_append_left (by rw [← hl]; simp)]
    exact hps
  subst e0
  refine yFK (R:=_) S0 T KF FB hsu I hN rfl ha ht fun s' J=>?_
  obtain ⟨t,hp,hq⟩:=hbody A outer s H _ Q E (hr.deeper _) q
  refine wpAt_of_wpAny (wpAny_mono (hp.run [] s' _ H _ J hq) (fun fl s2 hs=>?_) fun _ _ z=>z)
  cases fl with
  | ret u =>
    obtain ⟨v,σ',H',J,rv,q⟩:=hs
    exact ⟨v,H',J.os,J.bare,J.base,J.hok,rv,q⟩
  | next =>
    obtain ⟨σ',H',J,q⟩:=hs
    exact ⟨V.non,H',J.os,J.bare,J.base,J.hok,rfl,q⟩
  | brk =>
    obtain ⟨_,_,_,q⟩:=hs
    exact False.elim q
  | cont =>
    obtain ⟨_,_,_,q⟩:=hs
    exact False.elim q
end
end Lp
set_option maxHeartbeats 4000000
namespace Lp
open PySem PySem.Spec PyProof.Rows L2 LamX NdefX
structure OexB (K:PySem.W.Frag) (bmB:List Value) (C:Addr):Prop where
 over:PySem.W.excOver K C bmB=true
 hd:∃ cd,PySem.W.clsIn K C=some cd∧cd.hasDict=true
 sa:PySem.W.findIn K (.ref C) "__setattr__" = some (some (.builtin "object.__setattr__"))
section
open PySem.W Builtin Builtin.ObjectAttr
variable {prog:Program} {w:World} {A:Around} {R:Result→Shared→Prop} {hp:Heap} {g:Array GenState} {d:Drawn} {t:Nat} {os:OsState} {K:Frag} {bmB:List Value} {B:String} {C x dx:Addr} {name:Str} {tk:Tok} {v:Value}
theorem jWI (ha:findIn K (.ref C) name=some none):takerIn K C name=some none:=by
 unfold takerIn
 rw [ha]; rfl
theorem yGQ {t1:Addr} (SF:StoreFacts B bmB "object.__setattr__" "object") (O:OexB K bmB C) (X:K.In hp) (hx:hp.get? x=some (excObj C t1 none .none)) (ha:findIn K (.ref C) name=some none)
    (hq:∀ h' tk' dx,(∀ b o,b≠x→hp.get? b=some o→h'.get? b=some o)→hp.objs.size≤dx→dx≠x→h'.get? x=some (excObj C t1 (some dx) .none)→h'.Ns1 dx (fun y=>if y=name then some v else none)→R (.ok (.ret .none)) ⟨h',g,d,tk',os⟩) :
    codeAny (model prog w) A (.call (.builtin "object.__setattr__") ⟨[.ref x,.str name tk,v],[]⟩) R ⟨hp,g,d,t,os⟩:=by
  obtain ⟨cd,hcd,hh⟩:=O.hd
  have xs:x≠hp.objs.size:=Nat.ne_of_lt (Heap.lt_size hx)
  have hcls:Looks (model prog w) hp (classData C) cd:=looks_clsIn X hcd
  refine osa_openX (ox:=excObj C t1 none .none) (od:=none) SF X ⟨hx,rfl,rfl,trivial⟩ O.over (jWI ha) fun b=>?_
  obtain ⟨nm,bs,mro,ns,qn,hd,sn,sb,ab,col,del⟩:=cd
  dsimp only at hh
  subst hh
  dsimp only
  unfold storeInOwnDict ownDictForStores
  repeat (first | with_reducible refine HandSPX.store_in_new ?_ ?_ | with_reducible refine wpAny_loadPart_at hx ?_ | with_reducible refine hcls.at ?_ | wp_step)
  · have e0:=(Heap.get?_update_ne _ _ _ (fun o=>{ o with dict:=some hp.objs.size }) xs.symm).trans (Heap.get?_push_at (h:=hp) (o:={ cls:=.type "dict", data:=.dict #[] }) rfl rfl)
    exact ⟨_,#[],_,e0,rfl,fun e he=>absurd he (by simp),fun _=>rfl⟩
  · intro h' tk' hn' hs
    have hx1:(hp.push { cls:=.type "dict", data:=.dict #[] }).get? x=some (excObj C t1 none .none):=Heap.get?_push_of_some _ hx
    refine hq h' tk' hp.objs.size (fun b o hb ho=>?_) (Nat.le_refl _) xs.symm ((hs.2 x xs).trans (Heap.get?_update_self _ hx1 rfl)) hn'
    refine (hs.2 b (Nat.ne_of_lt (Heap.lt_size ho))).trans ?_
    exact (Heap.get?_update_ne _ _ _ _ hb).trans (Heap.get?_push_of_some _ ho)
theorem yGP {t1:Addr} {m0:Str→Option Value} {nl:List Str} (SF:StoreFacts B bmB "object.__setattr__" "object") (O:OexB K bmB C) (X:K.In hp) (hx:hp.get? x=some (excObj C t1 (some dx) .none)) (hns:hp.Ns1 dx m0) (hw:Within m0 nl) (hz:nl.length≤1000) (ha:findIn K (.ref C) name=some none)
  (hq:∀ h' tk',(∀ b o,b≠dx→hp.get? b=some o→h'.get? b=some o)→h'.Ns1 dx (fun y=>if y=name then some v else m0 y)→R (.ok (.ret .none)) ⟨h',g,d,tk',os⟩) :
  codeAny (model prog w) A (.call (.builtin "object.__setattr__") ⟨[.ref x,.str name tk,v],[]⟩) R ⟨hp,g,d,t,os⟩:=by
 obtain ⟨cd,hcd,hh⟩:=O.hd
 obtain ⟨oD,esD,epD,hoD,hdD,_⟩:=hns.count hw
 have hcls:Looks (model prog w) hp (classData C) cd:=looks_clsIn X hcd
 refine osa_openX (ox:=excObj C t1 (some dx) .none) (od:=some oD) SF X ⟨hx,rfl,rfl,hoD⟩ O.over (jWI ha) fun b=>?_
 obtain ⟨nm,bs,mro,ns,qn,hd,sn,sb,ab,col,del⟩:=cd
 dsimp only at hh
 subst hh
 dsimp only
 unfold storeInOwnDict ownDictForStores
 repeat (first | with_reducible refine OEX.store_in_old hns hw hz ?_ | with_reducible refine wpAny_loadPart_at hx ?_ | with_reducible refine hcls.at ?_ | wp_step)
 intro h' tk' hn' hs
 exact hq h' tk' (fun b o hb ho=>(hs.2 b hb).trans ho) hn'
end
section
variable {X:Cx} {pins:List (Addr × Obj)} {σ:L2.St} {H:Hp} {s:Shared} {a C dx:Addr} {f:Str} {y:V} {u:Value} {fs:List (Str × V)} {Q:Unit→Shared→Prop} {E:Value→Shared→Prop} {A:Around} {bmB:List Value} {B:String}
theorem yGO (SF:StoreFacts B bmB "object.__setattr__" "object") (T:OexB X.K bmB C) (I:Inv X pins σ H s) (e:H a=some (exo a C none)) (hno:PySem.W.findIn X.K (.ref C) f=some none) (ry:RelV y u)
  (h:∀ dx s',H dx=none→dx≠a→Inv X pins σ (upd (upd H dx (exd dx [(f,y)])) a (exo a C (some dx))) s'→Q () s'):wpAny (model X.prog X.w) A (setAttr (.ref a) f u) Q E s:=by
 obtain ⟨t1,ho⟩:=exo_at I.hok e
 obtain ⟨hp,g,d,t,os⟩:=s
 refine PySem.W.set_plain I.kIn (ox:=PySem.W.excObj C t1 none .none) (od:=none) ⟨ho,rfl,rfl,trivial⟩ T.sa ?_
 refine yGQ SF T I.kIn ho hno fun h' tk' dx k dn dne hx hn=>?_
 have hnd:H dx=none:=I.hok.fresh dn
 have nd:∀ {b:Addr} {o:Obj},hp.get? b=some o→b≠dx:=fun {b o} q z=>Nat.lt_irrefl _ (Nat.lt_of_lt_of_le (z ▸ Heap.lt_size q) dn)
 have na:∀ {b:Addr},H b=none→b≠a:=fun {b} n z=>by
  rw [z,e] at n
  cases n
 have k1:∀ {b:Addr} {o:Obj},H b=none→hp.get? b=some o→h'.get? b=some o:=fun {b o} n q=>k b o (na n) q
 have U:Un X.fs [] H (upd (upd H dx (exd dx [(f,y)])) a (exo a C (some dx))) hp h':=by
  refine ⟨fun b o q n _ _=>k1 n q,fun b o q n _ _=>⟨o.slots,k1 n q⟩,fun b o q n _=>?_,fun b o q _=>?_,fun b xs q=>?_,fun b o v q=>?_,fun b ps q=>⟨#[],?_⟩⟩
  ·rw [upd_ne (na n),upd_ne (nd q)]; exact n
  ·by_cases hb:b=a
   ·subst hb; exact ⟨_,hx⟩
   ·exact ⟨o,k b o hb q⟩
  ·rw [upd_ne (at_ne e q exo_tup),upd_ne (ne_of_none q hnd)]; exact q
  ·rw [upd_ne (at_ne e q exo_frz),upd_ne (ne_of_none q hnd)]; exact q
  ·rw [upd_ne (at_ne e q exo_tbl),upd_ne (ne_of_none q hnd),q,Array.append_empty]
 refine h dx _ hnd dne (I.un (t':=tk') U fun b o q=>?_)
 by_cases hb:b=a
 ·subst hb
  rw [upd_same] at q
  cases q
  exact exo_ok hx
 rw [upd_ne hb] at q
 by_cases hd:b=dx
 ·subst hd
  rw [upd_same] at q
  cases q
  exact exd_ok hn (relO_put (fs:=[]) ry fun g=>True.intro)
 rw [upd_ne hd] at q
 refine (I.hok b o q).stay (fun c v hc z=>k c v ?_ z) (fun c hc=>?_) fun c xs hc=>?_
 ·rcases hc with rfl | hc
  ·exact hb
  ·exact at_ne e hc exo_own
 ·rw [upd_ne (at_ne e hc exo_own),upd_ne (ne_of_none hc hnd)]; exact hc
 ·rw [upd_ne (at_ne e hc exo_tup),upd_ne (ne_of_none hc hnd)]; exact hc
theorem yGN (SF:StoreFacts B bmB "object.__setattr__" "object") (T:OexB X.K bmB C) (I:Inv X pins σ H s) (e:H a=some (exo a C (some dx))) (ed:H dx=some (exd dx fs)) (hl:fs.length≤900) (hno:PySem.W.findIn X.K (.ref C) f=some none) (ry:RelV y u)
  (h:∀ s',Inv X pins σ (upd H dx (exd dx ((f,y) :: fs))) s'→Q () s'):wpAny (model X.prog X.w) A (setAttr (.ref a) f u) Q E s:=by
 obtain ⟨t1,ho⟩:=exo_at I.hok e
 obtain ⟨mA,hns,rel⟩:=exd_at I.hok ed
 have hw:=within_of rel
 obtain ⟨hp,g,d,t,os⟩:=s
 obtain ⟨oD,_,_,hoD,_,_⟩:=hns.count hw
 refine PySem.W.set_plain I.kIn (ox:=PySem.W.excObj C t1 (some dx) .none) (od:=some oD) ⟨ho,rfl,rfl,hoD⟩ T.sa ?_
 refine yGP SF T I.kIn ho hns hw (by rw [List.length_map]; omega) hno fun h' tk' k hn=>?_
 have hd:∃ o,h'.get? dx=some o:=let ⟨o,_,_,e',_⟩:=hn; ⟨o,e'⟩
 have J:=I.write (t':=tk') (x:=dx) (e:=dx) (o:=exd dx ((f,y) :: fs)) (by rw [ed]; exact True.intro) (.inl rfl) k hd (exd_ok hn (relO_put ry rel))
 exact h _ J
end
def yYM (K:PySem.W.Frag) (bmB:List Value) (f:Str) (to te:TE):TS:=fun D σ H=>te σ H fun y H1=>to σ H1 fun x H2=>∃ a C:Addr,x=.ref a∧OexB K bmB C∧PySem.W.findIn K (.ref C) f=some none ∧
 ((H2 a=some (exo a C none)∧∀ dx,H2 dx=none→dx≠a→D.nx σ (upd (upd H2 dx (exd dx [(f,y)])) a (exo a C (some dx)))) ∨
  ∃ (dx:Addr) (fs:List (Str × V)),H2 a=some (exo a C (some dx))∧H2 dx=some (exd dx fs)∧fs.length≤900∧D.nx σ (upd H2 dx (exd dx ((f,y) :: fs))))
theorem yAU {X:Cx} {o e:Expr} {to te:TE} {f:Str} {p' pos:Pos} {bmB:List Value} {B:String} (SF:StoreFacts B bmB "object.__setattr__" "object") (ho:PE X o to) (he:PE X e te) (hs:swapsWith e (some (.Attribute o f p')) pos.line X.env=pure false:=by rfl) :
  PS X (.Assign [.Attribute o f p'] e pos) (yYM X.K bmB f to te):=by
 refine ⟨fun pins s σ H D I h=>plainObj_wpAny_Assign_Attribute (thn (he.run pins s σ H _ I h) fun v s1 ⟨y,H1,I1,r1,q1⟩=>thn (ho.run pins s1 σ H1 _ I1 q1) fun u s2 ⟨x,H2,I2,r2,a,C,ex,T,hno,q⟩=>?_) hs⟩
 subst ex
 obtain rfl:u=Value.ref a:=r2
 rcases q with ⟨ea,q⟩ | ⟨dx,fs,ea,ed,hl,q⟩
 ·exact yGO SF T I2 ea hno r1 fun dx s' n ne J=>⟨σ,_,J,q dx n ne⟩
 ·exact yGN SF T I2 ea ed hl hno r1 fun s' J=>⟨σ,_,J,q⟩
end Lp
set_option maxHeartbeats 4000000
namespace Lp
open PySem PySem.Spec PyProof.Rows L2 LamX NdefX
def jSR (C:Addr) (n:Nat) (fs:List V→List (Str × V)):Sp:=fun vs H Q E=>∃ (a:Addr) (us:List V),vs=.ref a :: us∧us.length=n∧H a=some (exo a C none) ∧
 ∀ (dx:Addr) (H':Hp),H dx=none→dx≠a→H' a=some (exo a C (some dx))→H' dx=some (exd dx (fs us))→(∀ b,b≠a→b≠dx→H' b=H b)→Q .non H'
section
variable {P:Program} {w:World} {K:PySem.W.Frag} {mg:Str→Option Value} {base:Heap} {CX:CXT} {D f cc cda a:Addr} {qual:Str} {params:Arguments} {body:List Stmt} {scope:Scope} {fd:FuncData} {k:Nat}
variable {B i newId:String} {bmB:List Value} {TEXT f1 f2 x1 x2:Str} {st0:Stmt} {j j2:Nat} {p0 p1 p2 p3 cp ap q0 q1 q2 q3 r0 r1 r2 r3 t0 t1 t2 t3:Pos}
abbrev jQB (TEXT:Str) (j:Nat) (p0 p1 p2 p3 cp ap:Pos):Stmt:=.Expr (.Call (.Attribute (.Call (.Name "super" p0) [] [] p1) "__init__" ap) [.Constant (.str TEXT) j cp] [] p2) p3
def SupEv (TEXT:Str) (j:Nat) (p0 p1 p2 cp ap:Pos) (env:Env):Prop:=∃ pl:Sem Bool,eval (.Call (.Attribute (.Call (.Name "super" p0) [] [] p1) "__init__" ap) [.Constant (.str TEXT) j cp] [] p2) env=(do
   let ov ← attributeBase (.Call (.Name "super" p0) [] [] p1) "__init__" env (eval (.Call (.Name "super" p0) [] [] p1) env)
   standAt ap.atName
   let (f1,first) ← holding [ov] (getMethod ov "__init__" pl)
   callWith p2 f1 first (backTo p2 (starEach [.Constant (.str TEXT) j cp] env)) [])
theorem yOR {n:Nat} {fs:List V→List (Str × V)} {ps:List Str} (hps:ps.length=n+1) (T:SupC K B i newId bmB D D):∀ vs H Q E,jSR D n fs vs H Q E→vs.length=ps.length∧∃ (a C:Addr) (us:List V),vs=.ref a :: us∧H a=some (exo a C none)∧SupC K B i newId bmB C D :=
 fun vs H Q E ⟨a,us,e,hl,ha,_⟩=>⟨by rw [e,List.length_cons,hl,hps],a,D,us,e,ha,T⟩
structure OstR (a dx:Addr) (H H':Hp) (C:Addr) (fs:List (Str × V)):Prop where
 hd:H dx=none
 ne:dx≠a
 at_:H' a=some (exo a C (some dx))
 dd:H' dx=some (exd dx fs)
 keep:∀ b,b≠a→b≠dx→H' b=H b
theorem OstR.first {H:Hp} {C dx:Addr} {g:Str} {y:V} (n:H dx=none) (ne:dx≠a):OstR a dx H (upd (upd H dx (exd dx [(g,y)])) a (exo a C (some dx))) C [(g,y)] :=
 ⟨n,ne,upd_same,by rw [upd_ne ne,upd_same],fun b h1 h2=>by rw [upd_ne h1,upd_ne h2]⟩
theorem OstR.next {H H':Hp} {C dx:Addr} {g:Str} {y:V} {fs:List (Str × V)} (r:OstR a dx H H' C fs):OstR a dx H (upd H' dx (exd dx ((g,y) :: fs))) C ((g,y) :: fs) :=
 ⟨r.hd,r.ne,by rw [upd_ne (Ne.symm r.ne)]; exact r.at_,upd_same,fun b h1 h2=>by rw [upd_ne h2]; exact r.keep b h1 h2⟩
structure BltX (B i newId:String) (bmB:List Value):Prop where
 kx:PySem.W.KxsFacts B i
 ba:ExcBaseFacts B newId i bmB
 st:StoreFacts B bmB "object.__setattr__" "object"
theorem jUN:BltX "ValueError" "ValueError.__init__" "ValueError.__new__" [.type "ValueError", .type "Exception", .type "BaseException", .type "object"]:=⟨PySem.W.kxs_ValueError,PySem.F.excBase_ValueError,PySem.F.store_ValueError⟩
structure VeC (K:PySem.W.Frag) (B i newId:String) (bmB:List Value) (D:Addr):Prop where
 sup:SupC K B i newId bmB D D
 oex:OexB K bmB D
 exC:PySem.W.subIn K (.ref D) (.type "BaseException")=some true
 tyC:PySem.W.typeIn K (.ref D)=some (.type "type")
 kC:PySem.W.keepIn K (.ref D)=true
theorem ini1 (S:SupF P K D qual params [jQB TEXT j p0 p1 p2 p3 cp ap,.Assign [.Attribute (.Name "self" q0) f1 q1] (.Name x1 q2) q3,.Assign [.Attribute (.Name "self" t0) "code" t1] (.Constant (.str TEXT) j2 t2) t3] scope f cc cda fd) (G:BltX B i newId bmB) (V:VeC K B i newId bmB D) (hsu:mg "super" = none)
  (sc:NScope ["self", x1,"__class__"] ["self", x1] ["__class__"] scope)
  (ht:∀ L:Addr,SupEv TEXT j p0 p1 p2 cp ap (envF (vP qual params [jQB TEXT j p0 p1 p2 p3 cp ap,.Assign [.Attribute (.Name "self" q0) f1 q1] (.Name x1 q2) q3,.Assign [.Attribute (.Name "self" t0) "code" t1] (.Constant (.str TEXT) j2 t2) t3] scope cc cda) f L))
  (hx:(x1 == ("__debug__" : Str))=false) (hx2:(x1 == ("__classdict__" : Str))=false) (n1:PySem.W.findIn K (.ref D) f1=some none) (nc:PySem.W.findIn K (.ref D) "code" = some none) :
  FnOk P w K mg base CX (k+1) f fd ["self", x1] (jSR D 1 fun us=>[("code", .str TEXT),(f1,us.headD .non)]):=by
 refine yQT S G.kx G.ba hsu sc rfl rfl ht (yOR rfl V.sup) fun A outer s H vs Q E hr ⟨a,us,e,hl,ha,q⟩=>?_
 subst e
 obtain ⟨v,rfl⟩:=List.length_eq_one_iff.mp hl
 refine ⟨_,pss_cons (yAU G.st (pe_var (i:=0) rfl (.inl (sc.par _ (by simp))) rfl rfl) (pe_var (i:=1) rfl (.inl (sc.par _ (by simp))) hx hx2)) (pss_one (yAU G.st (pe_var (i:=0) rfl (.inl (sc.par _ (by simp))) rfl rfl) pe_str)),?_⟩
 refine ⟨v,rfl,.ref a,rfl,a,D,rfl,V.oex,n1,.inl ⟨ha,fun dx n ne=>?_⟩⟩
 have o:=OstR.first (C:=D) (g:=f1) (y:=v) n ne
 refine ⟨.ref a,rfl,a,D,rfl,V.oex,nc,.inr ⟨dx,_,o.at_,o.dd,by simp,?_⟩⟩
 have o2:=o.next (g := "code") (y:=.str TEXT)
 exact q dx _ n ne o2.at_ o2.dd o2.keep
end
section
variable {X:Cx} {N:Ent} {WX:L2.WX} {CX:CXT} {C fI:Addr} {fd:FuncData} {ps:List Str} {k n:Nat} {B i newId:String} {bmB:List Value} {fs:List V→List (Str × V)} {x:Str} {p pos:Pos} {e:Expr} {es:List Expr} {ta:TA}
structure ExcK (P:Program) (w:World) (K:PySem.W.Frag) (mg:Str→Option Value) (base:Heap) (k:Nat) (x:Str) (C:Addr) (n:Nat) (fs:List V→List (Str × V)):Prop where
 ex:∃ B i newId bmB fI fd ps,BltX B i newId bmB∧VeC K B i newId bmB C∧PySem.W.findIn K (.ref C) "__init__" = some (some (.ref fI))∧PySem.W.typeIn K (.ref fI)=some (.type "function")∧FnOk P w K mg base (L2N.CX P w) k fI fd ps (jSR C n fs)∧Binds K fd ps []∧mg x=some (.ref C)
theorem ExcK.mono {P:Program} {w:World} {K:PySem.W.Frag} {mg:Str→Option Value} {base:Heap} {j:Nat} (F:ExcK P w K mg base j x C n fs) (h:j≤k):ExcK P w K mg base k x C n fs :=
 let ⟨B,i,ne,bm,fI,fd,ps,a,b,c,d,e,f⟩:=F.ex
 ⟨B,i,ne,bm,fI,fd,ps,a,b,c,d,e.mono h,f⟩
def yZS (C:Addr) (n:Nat) (fs:List V→List (Str × V)) (ta:TA):L2.St→Hp→XK→Prop:=fun σ H Q=>ta σ H fun vs H1=>vs.length=n∧n≤1000∧∀ d,H1 d=none→Q (.ref C) (some d) (upd H1 d (.xd (fs vs)))
theorem yOU {pins:List (Addr × Obj)} {σ:L2.St} {H:Hp} {s:Shared} {Q:XK} {us:List Value} {vs:List V} (F:ExcK X.prog X.w X.K X.mg X.base k x C n fs) (hr:Room (k+1) X.A) (hx:Passes (L2N.CX X.prog X.w) X (fun _ _ _=>False)) (I:Inv X pins σ H s) (r:Vals vs us) (hn:vs.length=n) (h1:n≤1000)
  (q:∀ d,H d=none→Q (.ref C) (some d) (upd H d (.xd (fs vs)))):wpAny (model X.prog X.w) X.A (call (.ref C) us) (L2N.MkP X pins σ Q) X.xe s:=by
 obtain ⟨B,i,newId,bmB,fI,fd,ps,G,V,iC,tI,F1,hb,hm⟩:=F.ex
 obtain ⟨nm,N',qn,bs,bm,hdct,sn,sub,ab,col,dd,k0,k1,k2,k3,k5,hC,hT⟩:=PySem.W.excInit_of I.kIn V.sup.ini
 obtain ⟨hp,g,dr,tk,os⟩:=s
 have hsz:hp.objs.size≤hp.objs.size+1:=Nat.le_succ _
 have na:H (hp.objs.size+1)=none:=I.hok.fresh hsz
 have kk:∀ b o,hp.get? b=some o→((hp.push (PySem.W.kdv_tup us)).push (PySem.HandSPX.excO C hp.objs.size)).get? b=some o:=fun b o e=>Heap.get?_push_of_some _ (Heap.get?_push_of_some _ e)
 have ge:((hp.push (PySem.W.kdv_tup us)).push (PySem.HandSPX.excO C hp.objs.size)).get? (hp.objs.size+1)=some (PySem.HandSPX.excO C hp.objs.size):=by heap_get
 have I2:=I.laid (t':=tk) (a:=hp.objs.size+1) (o:=exo (hp.objs.size+1) C none) (h':=(hp.push (PySem.W.kdv_tup us)).push (PySem.HandSPX.excO C hp.objs.size)) kk hsz (exo_ok ge)
 have sp:jSR C n fs (.ref (hp.objs.size+1) :: vs) (upd H (hp.objs.size+1) (exo (hp.objs.size+1) C none))
   (fun v H2=>v=.non∧∃ d,H2 (hp.objs.size+1)=some (exo (hp.objs.size+1) C (some d))∧H2 d=some (exd d (fs vs))∧H d=none∧d≠hp.objs.size+1∧∀ b,b≠hp.objs.size+1→b≠d→H2 b=H b) (fun _ _ _=>False) :=
  ⟨_,vs,rfl,hn,upd_same,fun dx H' n1 n2 e1 e2 e3=>⟨rfl,dx,e1,e2,by rw [upd_ne n2] at n1; exact n1,n2,fun b h1 h2=>by rw [e3 b h1 h2,upd_ne h1]⟩⟩
 have r2:Vals (L2.V.ref (hp.objs.size+1) :: vs) (Value.ref (hp.objs.size+1) :: us):=.cons rfl r
 have hl:(Value.ref (hp.objs.size+1) :: us).length=ps.length:=by rw [← r2.length]; exact F1.len _ _ _ _ sp
 have hz:us.length≤sizeLine:=by rw [← r.length,hn,sizeLine_eq]; omega
 refine wpAny_call (PySem.HandSPX.call_own G.ba hT hC (PySem.W.looks_findIn I.kIn iC) (fun self=>PySem.W.bind_fn I.kIn self tI) hz ?_)
 have hbb:=hb ⟨(hp.push (PySem.W.kdv_tup us)).push (PySem.HandSPX.excO C hp.objs.size),g,dr,tk,os⟩ (Value.ref (hp.objs.size+1) :: us) I2.kIn (by rw [List.append_nil]; exact hl)
 rw [List.append_nil] at hbb
 refine codeAny_mono (F1.run _ X.stack _ _ _ _ _ _ (fun _ _ _=>False) (hr.make C us []) (I2.env0.make C us []) hbb r2 sp) fun r s' hq=>?_
 cases r with
 | error er=>exact hx pins σ _ _ er s' I2 hq
 | ok fl =>
  cases fl with
  | ret u =>
   obtain ⟨v,H2,os2,bare2,un2,hok2,rv,ev,d,ea,ed,hd1,hda,keep⟩:=hq
   subst ev
   obtain ⟨h2,g2,d2,t2,os'⟩:=s'
   have eH:upd (del H2 (hp.objs.size+1)) d (.xd (fs vs))=upd H d (.xd (fs vs)):=by
    funext b
    by_cases hbd:b=d
    ·rw [hbd,upd_same,upd_same]
    ·rw [upd_ne hbd,upd_ne hbd]
     by_cases hba:b=hp.objs.size+1
     ·rw [hba,del_same,na]
     ·rw [del_ne hba,keep b hba hbd]
   obtain ⟨t0,G,J,kG,ge2,hoe,na2⟩:=mk_end0 (d2:=d2) (t2:=t2) I hsz kk un2 hok2 os2 bare2 ea ed hd1
   exact ⟨rv,hp.objs.size+1,_,_,⟨G,g2,d2,t2,os'⟩,_,.ref C,some d,rfl,J,kG,ge2,hoe,⟨rfl,rfl,fun vs hv=>by cases hv; rfl⟩,rfl,rfl,na2,rfl,bare2,raises_own V.exC V.tyC,by rw [eH]; exact q d hd1⟩
  | next=>exact False.elim hq
  | brk=>exact False.elim hq
  | cont=>exact False.elim hq
theorem pmk_exc (F:ExcK X.prog X.w X.K X.mg X.base k x C n fs) (hr:Room (k+1) X.A) (hx:Passes (L2N.CX X.prog X.w) X (fun _ _ _=>False)) (hg:Gl X x) (ha:PA X (e :: es) ta)
  (hdb:(x == ("__debug__" : Str))=false:=by decide) (he:starEach (e :: es) X.env=(false,eval e X.env) :: starEach es X.env:=by rfl) (hpl:(backTo pos (starEach es X.env)).any (·.1)=false:=by rfl) :
  L2N.PMk X (.Call (.Name x p) (e :: es) [] pos) (yZS C n fs ta):=by
 intro pins s σ H Q I h
 obtain ⟨B,i,newId,bmB,fI,fd,ps,G,V,iC,tI,F1,hb,hm⟩:=id F.ex
 refine wpAny_Call_Name_kw (ld_glob I hg hm ?_ hdb)
 refine PySem.W.callWith_K (h₀:=X.base) I.ok.mod.kin V.kC (thn (ha.run pos pins s σ H _ I h) fun us s1 ⟨vs,H1,I1,r1,hn,hz,q1⟩=>⟨I1.kIn,?_⟩) he hpl
 exact yOU F hr hx I1 r1 hn hz q1
end
structure ExcC (P:Program) (w:World) (K:PySem.W.Frag) (mg:Str→Option Value) (base:Heap) (B:Bs) (k:Nat) (x:Str) (c n:Nat) (fv:List PV→List PV):Prop where
 ex:∃ fs,ExcK P w K mg base k x (B.cad c) n fs∧n≤1000∧∀ (W:Wd) (xs:List PV) (vs:List V),Reps B W xs vs→xs.length=n→∃ us,fs vs=(B.fld c).zip us∧us.length=(B.fld c).length∧Reps B W (fv xs) us
theorem ExcC.mono {P:Program} {w:World} {K:PySem.W.Frag} {mg:Str→Option Value} {base:Heap} {B:Bs} {j k:Nat} {x:Str} {c n:Nat} {fv:List PV→List PV} (F:ExcC P w K mg base B j x c n fv) (h:j≤k):ExcC P w K mg base B k x c n fv :=
 let ⟨fs,a,b⟩:=F.ex
 ⟨fs,a.mono h,b⟩
def jJA (c n:Nat) (fv:List PV→List PV) (ma:MA):MS:=fun s=>(ma s).bind fun vs s1=>if vs.length=n∧yW vs=true then .exc (.ins c (fv vs)) s1 else .bad
section
variable {X:Cx} {B:Bs} {N:Ent} {WX:L2.WX} {x:Str} {c n k:Nat} {fv:List PV→List PV} {ma:MA} {e:Expr} {es:List Expr} {p pos pos':Pos} {W:Wd} {s:S} {σ:L2.St} {H:Hp}
theorem yCL {vs:List PV} {vs':List V} {D:Ends} {fs:List V→List (Str × V)} (hf:∀ (W:Wd) (xs:List PV) (vs:List V),Reps B W xs vs→xs.length=n→∃ us,fs vs=(B.fld c).zip us∧us.length=(B.fld c).length∧Reps B W (fv xs) us)
  (r:Rel B N W s σ H) (rv:RepTs B W H vs vs') (q:PostS B N WX D (if vs.length=n∧yW vs=true then R.exc (.ins c (fv vs)) s else R.bad)):vs'.length=n∧∀ d,H d=none→WX (.ref (B.cad c)) (some d) σ (upd H d (.xd (fs vs'))):=by
 split at q
 ·rename_i hc
  have rr:=rv.reps hc.2
  refine ⟨by rw [← rr.length]; exact hc.1,fun d hd=>?_⟩
  obtain ⟨us,e1,e2,e3⟩:=hf W vs vs' rr hc.1
  have r2:=jEO (o:=.xd (fs vs')) r (r.loose hd) trivial (.inl hd)
  exact q W σ _ _ _ r2 ⟨c,fv vs,d,us,rfl,rfl,rfl,by rw [upd_same,e1],e2,e3,r.st.tr _ hd,r.hr.fnone hd,fun z=>r.hr.mt _ z hd⟩
 ·exact q.elim
theorem yGT {X:Cx}:L2N.Takes X (fun _ _ _ _=>False):=fun _ _ ⟨_,_,_,_,_,_,_,_,_,_,_,_,_,_,_,_,w⟩=>w.elim
theorem jYZ (F:ExcC X.prog X.w X.K X.mg X.base B k x c n fv) (hc:X.calm=true) (tk:L2N.Takes X WX) (hr:Room (k+1) X.A) (hg:Gl X x) (ha:SimA X B N WX (e :: es) ma) (hdb:(x == ("__debug__" : Str))=false)
  (he:starEach (e :: es) X.env=(false,eval e X.env) :: starEach es X.env) (hpl:(backTo pos (starEach es X.env)).any (·.1)=false):SimS X B N WX (.Raise (some (.Call (.Name x p) (e :: es) [] pos)) none pos') (jJA c n fv ma):=by
 obtain ⟨fs,F1,hn,hf⟩:=F.ex
 exact (L2N.ps_raise hc tk (pmk_exc F1 hr (L2N.passes_call yGT fun _ _ _ _ h=>h) hg ha hdb he hpl)).imp fun D σ H ⟨W,s,r,h⟩=>⟨W,s,r,h.bindE.mono fun vs W1 s1 H1 r1 _ q vs' rv=>by
  obtain ⟨q1,q2⟩:=yCL hf r1 rv q
  exact ⟨q1,hn,q2⟩⟩
end
end Lp
set_option maxHeartbeats 4000000
namespace Lp
open PySem PySem.Spec PyProof.Rows L2 LamX NdefX
def yZR (K:PySem.W.Frag) (cs:List Value) (i:Nat) (ts:Addr→Value→Option Addr→TS) (D:Ends):WX:=fun cls d σ H=>PySem.W.exmAny K cls cs=some true ∧
  ∀ a,H a=none→ts a cls d { nx:=fun σ' H'=>D.nx (σ'.set i none) H',rt:=D.rt,bk:=fun σ' H'=>D.bk (σ'.set i none) H',ct:=fun σ' H'=>D.ct (σ'.set i none) H' } (σ.set i (some (.ref a))) H
end Lp
set_option maxHeartbeats 4000000
namespace Lp
open PySem PySem.Spec PyProof.Rows L2 LamX NdefX
abbrev Bs.with (B:Bs) (x:Addr × Nat × Addr):Bs:={ B with xn:=some x }
structure XClsF (K:PySem.W.Frag) (B:Bs) (fl:FL):Prop where
 fld:∀ c,fl c≠[]→B.fld c=fl c
 cls:∀ c f,f∈fl c→XfC K (B.cad c)∧PySem.W.findIn K (.ref (B.cad c)) f=some none
structure FnX (P:Program) (w:World) (K:PySem.W.Frag) (mg:Str→Option Value) (base:Heap) (B:Bs) (k:Nat) (x:Str) (n:Nat) (m:MF):Prop where
 ex:∃ f fd ps,mg x=some (.ref f)∧PySem.W.keepIn K (.ref f)=true∧Binds K fd ps []∧ps.length=n ∧
  ∀ (A:Around) (outer:List Env) (s:Shared) (H:Hp) (args:Args) (us:List Value) (vs:List V) (Q:VK) (E:XK) (p:Addr × Obj) (c:Nat) (dd:Addr),L2H.RoomH k A→L2H.PinOk outer H s p→Zc (.ref (B.cad c)) (some dd) p.2→(∃ ws,p.2.data=.fields ws)→Env0 P w K mg base A outer s H→BindsTo s fd args (ps.zip us)→Vals vs us →
   spF (B.with (p.1,c,dd)) n m vs H Q E→codeAny (model P w) A (.call (.ref f) args) (CR (L2.CX P w) outer P w H s Q E) s
theorem FnX.mono {P:Program} {w:World} {K:PySem.W.Frag} {mg:Str→Option Value} {base:Heap} {B:Bs} {j k:Nat} {x:Str} {n:Nat} {m:MF} (F:FnX P w K mg base B j x n m) (h:j≤k):FnX P w K mg base B k x n m :=
 let ⟨f,fd,ps,a,b,c,d,e⟩:=F.ex
 ⟨f,fd,ps,a,b,c,d,fun A outer s H args us vs Q E p c dd r=>e A outer s H args us vs Q E p c dd (r.mono h)⟩
end Lp
set_option maxHeartbeats 4000000
namespace Lp
open PySem PySem.Spec PyProof.Rows L2 LamX NdefX
structure TryF (P:Program) (w:World) (K:PySem.W.Frag) (mg:Str→Option Value) (base:Heap) (B:Bs) (k:Nat) (x:Str) (okc:Nat→Bool) (ms:MS):Prop where
 ex:∃ (g:Addr) (oc:Value) (od:Option Addr) (pg:Arguments) (bg:List Stmt) (sg:Scope) (dV kV doc pm cdv ct:Value) (an:Option Addr) (osl:Array (Option Value)) (cs:List Value),
  mg x=some (.ref g)∧PySem.W.keepIn K (.ref g)=true∧K.lookup g=some ⟨oc,od,.func (PySem.W.fnOf x x pg bg sg dV kV doc pm an cdv ct),osl⟩∧PySem.W.codeIn K cdv x=true∧L2.Binds K (PySem.W.fnOf x x pg bg sg dV kV doc pm an cdv ct) ["_law_ask"] []∧FnScope ["_law_ask", "_law_e"] ["_law_ask"] sg∧Vis sg "_law_ask" ∧
  (∀ c,okc c=true→PySem.W.exmAny K (.ref (B.cad c)) cs=some true) ∧
  ∀ (A:Around) (outer:List Env) (s:Shared) (H:Hp),Room k (A.deeper (envOfC x sg s.heap.objs.size g cdv)) →
   ∀ (tl:XK→Hp→VK→Prop) (f:Addr),(∀ (W:L2.WX) (pn:List (Addr × Obj)) (xe:Value→Shared→Prop) (E:XK) (p1 p2:Pos),Takes ((cxOf C8.CX0 P w K mg base ["_law_ask", "_law_e"] x sg g cdv A outer s H C8.E0).tr pn xe) W→(∀ cls d σ' H',E cls d H'→W cls d σ' H') →
    PE ((cxOf C8.CX0 P w K mg base ["_law_ask", "_law_e"] x sg g cdv A outer s H C8.E0).tr pn xe) (.Call (.Name "_law_ask" p1) [] [] p2) (fun σZ HZ Q=>σZ[0]?=some (some (.ref f))∧tl E HZ Q)) →
   ∃ t,PSs (cxOf C8.CX0 P w K mg base ["_law_ask", "_law_e"] x sg g cdv A outer s H C8.E0) bg t∧∀ (D:Ends) (σ:L2.St) (H:Hp),σ.length=2→σ[0]?=some (some (.ref f)) →
    tl (fun cls d H'=>∀ σ':L2.St,σ'.length=2→yZR K cs 1 (fun a cls d D σ H=>∃ (N':Ent) (c:Nat) (dd:Addr),cls=.ref (B.cad c)∧d=some dd∧tS (B.with (a,c,dd)) N' (fun _ _ _ _=>False) ms D σ H) D cls d σ' H') H (fun v' H'=>([V.str "", v']:List V).length≤sizeLine∧∀ p,H' p=none→D.rt (.ref p) (upd H' p (.tup [.str "", v'])))→t D σ H
end Lp
set_option maxHeartbeats 4000000
namespace Lp
open PySem PySem.Spec PyProof.Rows L2 LamX NdefX
theorem yHA {o:Obj} (h:jSU o=true):o={ cls:=.none,data:=.fields #[] }:=by
  unfold jSU at h
  split at h
  · rename_i vs sl
    obtain ⟨h1,h2⟩:=Bool.and_eq_true_iff.mp h
    rw [Array.eq_empty_of_size_eq_zero (of_decide_eq_true h1),Array.eq_empty_of_size_eq_zero (of_decide_eq_true h2)]
  · cases h
theorem jYT {g:Addr→Option Obj} {a:Addr}:∀ {as:List Addr},a∉as→(He.frG g as).lookup a=none
 | [],_=>rfl
 | b :: r,h=>by
  simp only [List.mem_cons,not_or] at h
  unfold He.frG
  cases e:g b with
  | none =>
   rw [List.filterMap_cons,e]
   exact jYT h.2
  | some o =>
   rw [List.filterMap_cons,e]
   show (((b,o) :: He.frG g r).lookup a)=none
   rw [List.lookup_cons,show (a == b)=false from beq_false_of_ne h.1]
   exact jYT h.2
section
variable {K:PySem.W.Frag} {d:DefL}
theorem DefL.get (e:fnL K (d.at_ K)=d.val) (c:d.ok K=true):PySem.W.keepIn K (.ref (d.at_ K))=true∧∃ (oc:Value) (od:Option Addr) (fd:FuncData) (osl:Array (Option Value)),K.lookup (d.at_ K)=some ⟨oc,od,.func fd,osl⟩ ∧
  PySem.W.codeIn K fd.code d.qual=true∧DflV K fd.defaults (d.dfl.map (He.Dv.v K))∧KwdV K fd.kwdefaults (d.kwd.map fun q=>(q.1,q.2.v K)) ∧
  fd.name=d.name∧fd.qualname=d.qual∧fd.params=d.params∧fd.body=.stmts d.body∧fd.scope=d.scope∧fd.globals=mainGlobals∧fd.closure.map (·.1)=d.cl∧fd.builtins=builtinsNs:=by
 obtain ⟨kp,c2⟩:=Bool.and_eq_true_iff.mp c
 refine ⟨kp,?_⟩
 unfold fnL at e
 cases q:K.lookup (d.at_ K) with
 | none=>rw [q] at c2; cases c2
 | some o =>
  obtain ⟨oc,od,dt,osl⟩:=o
  rw [q] at c2 e
  cases dt with
  | func fd =>
   have e2:(some (fd.name,fd.qualname,fd.params,fd.body,fd.scope,fd.globals,fd.closure.map (·.1),fd.builtins):FnL)=some (d.name,d.qual,d.params,.stmts d.body,d.scope,mainGlobals,d.cl,builtinsNs):=e
   simp only [Option.some.injEq,Prod.mk.injEq] at e2
   obtain ⟨h1,h2,h3,h4,h5,h6,h7,h8⟩:=e2
   obtain ⟨k1,k2⟩:=Bool.and_eq_true_iff.mp (show (PySem.W.codeIn K fd.code d.qual&&(He.dflB K fd.defaults (d.dfl.map (He.Dv.v K))&&He.kwdB K fd.kwdefaults (d.kwd.map fun q=>(q.1,q.2.v K))))=true from c2)
   obtain ⟨k3,k4⟩:=Bool.and_eq_true_iff.mp k2
   exact ⟨oc,od,fd,osl,rfl,k1,He.dflB_ok k3,He.kwdB_ok k4,h1,h2,h3,h4,h5,h6,h7,h8⟩
  | _=>cases c2
theorem DefL.funD (e:fnL K (d.at_ K)=d.val) (c:d.ok K=true) (hc:d.cl=[]):∃ fd,FunD K d.name d.qual d.params d.body d.scope (d.dfl.map (He.Dv.v K)) (d.kwd.map fun q=>(q.1,q.2.v K)) (d.at_ K) fd:=by
 obtain ⟨kp,oc,od,fd,osl,lk,k1,k2,k3,h1,h2,h3,h4,h5,h6,h7,h8⟩:=d.get e c
 obtain ⟨n1,n2,n3,n4,n5,n6,n7,n8,n9,n10,n11,n12,n13,n14,n15⟩:=fd
 simp only at h1 h2 h3 h4 h5 h6 h7 h8 k1 k2 k3
 rw [hc,List.map_eq_nil_iff] at h7
 subst h1 h2 h3 h4 h5 h6 h7 h8
 exact ⟨_,⟨oc,od,n8,n9,n10,n11,n12,n13,n14,osl,rfl,lk,k1,k2,k3⟩,kp⟩
theorem DefL.sup {P:Program} {D:Addr} (e:fnL K (d.at_ K)=d.val) (c:d.ok K=true) (hc:d.cl=[("__class__" : Str)]) (hn:d.name = "__init__") (hb:jNK P K (d.at_ K) D=true)
  (self:∃ ar:Arg,(d.params.posonlyargs++d.params.args).head?=some ar∧ar.arg=("self" : Str)) (hs:d.scope.names.lookup ("super" : Str)=some .globalImplicit) (hcl:d.scope.names.lookup ("__class__" : Str)=some .free) (hl:d.scope.names.lookup ("self" : Str)=some .local)
  (top:(P.main.scope.names.lookup ("super" : Str)).isSome=false):∃ cc cda fd,SupF P K D d.qual d.params d.body d.scope (d.at_ K) cc cda fd∧∃ (oc:Value) (od:Option Addr) (dV kV doc pm:Value) (an:Option Addr) (ct:Value) (osl:Array (Option Value)),fd=PySem.W.ksFn "__init__" d.qual d.params d.body d.scope dV kV doc pm an (.ref cda) ct cc∧DflV K dV (d.dfl.map (He.Dv.v K)):=by
 obtain ⟨kp,oc,od,fd,osl,lk,k1,k2,k3,h1,h2,h3,h4,h5,h6,h7,h8⟩:=d.get e c
 unfold jNK at hb
 rw [lk] at hb
 obtain ⟨n1,n2,n3,n4,n5,n6,n7,n8,n9,n10,n11,n12,n13,n14,n15⟩:=fd
 simp only at h1 h2 h3 h4 h5 h6 h7 h8 k1 k2 k3
 rw [hc] at h7
 rw [hn] at h1
 obtain ⟨p,rfl,hp⟩:=List.map_eq_singleton_iff.mp h7
 obtain ⟨pn,cc⟩:=p
 have hp:pn = "__class__" := hp
 subst hp
 dsimp only at hb
 obtain ⟨hb1,hb2⟩:=Bool.and_eq_true_iff.mp hb
 obtain ⟨hb2,hb3⟩:=Bool.and_eq_true_iff.mp hb2
 cases n13 with
 | ref cda =>
  dsimp only at hb1
  obtain ⟨f1,f2⟩:=Bool.and_eq_true_iff.mp hb1
  have hfile:∃ (ccl:Value) (cdd:Option Addr) (vs:Array Value) (ccs:Array (Option Value)) (file:Str) (tf:Tok),K.lookup cda=some ⟨ccl,cdd,.fields vs,ccs⟩∧vs[2]?=some (.str file tf)∧((P.main.file:Str) == file)=true:=by
   split at f1
   ·rename_i ccl cdd vs ccs q
    split at f1
    ·rename_i file tf q2
     exact ⟨ccl,cdd,vs,ccs,file,tf,q,q2,f1⟩
    ·cases f1
   ·cases f1
  have hcell:∃ (cl:Value) (cld:Option Addr) (csl:Array (Option Value)),K.lookup cc=some ⟨cl,cld,.cell (some (.ref D)),csl⟩:=by
   split at f2
   ·rename_i cl cld D' csl q
    have:=of_decide_eq_true f2
    subst this
    exact ⟨cl,cld,csl,q⟩
   ·cases f2
  subst h1 h2 h3 h4 h5 h6 h8
  refine ⟨cc,cda,_,⟨⟨oc,od,n8,n9,n10,n11,n12,n14,osl,rfl,lk⟩,k1,hfile,hcell,?_,of_decide_eq_true hb3,self,hs,hcl,hl,top⟩,oc,od,n8,n9,n10,n11,n12,n14,osl,rfl,k2⟩
  cases z:PySem.W.clsIn K D with
  | none=>rw [z] at hb2; cases hb2
  | some cd=>exact ⟨cd,rfl⟩
 | _=>cases hb1
end
theorem yIJ {K:PySem.W.Frag} {B i newId:String} {bmB:List Value} {D:Addr} (h:jPX K B i newId bmB D=true):VeC K B i newId bmB D:=by
 unfold jPX at h
 simp only [Bool.and_eq_true,decide_eq_true_eq] at h
 obtain ⟨h1,h2,h3,h4,h5,h6,h7,h8,h9,h10⟩:=h
 refine ⟨⟨h1,h2,h3,h4⟩,⟨h5,?_,h7⟩,h8,h9,h10⟩
 split at h6
 ·rename_i cd q; exact ⟨cd,q,h6⟩
 ·cases h6
theorem jJY {K:PySem.W.Frag} {C:Addr} {fs:List Str} (h:jLP K C fs=true) {f:Str} (hf:f∈fs):XfC K C∧PySem.W.findIn K (.ref C) f=some none:=by
 obtain ⟨h1,h2⟩:=Bool.and_eq_true_iff.mp h
 exact ⟨xfB_ok h1,of_decide_eq_true (List.all_eq_true.mp h2 f hf)⟩
def jFY (K:PySem.W.Frag) (a:Addr):Addr:=match K.lookup a with
 | some ⟨_,_,.func fd,_⟩=>(match fd.code with
  | .ref c=>c
  | _=>0)
 | _=>0
def jFU (K:PySem.W.Frag) (a:Addr):Addr:=match K.lookup (jFY K a) with
 | some ⟨_,_,.fields vs,_⟩=>(match (vs[11]?:Option Value) with
  | some (.ref P)=>P
  | _=>0)
 | _=>0
def yHY (K:PySem.W.Frag) (T:List Addr) (a:Addr):Bool:=decide (jFU K a∈T)&&(decide (jFY K a≠jFU K a)&&(decide (mainGlobals≠jFU K a)&&((match K.lookup a with
 | some ⟨_,_,.func fd,_⟩=>(match fd.code with
  | .ref c=>true
  | _=>false)
 | _=>false)&&(match K.lookup (jFY K a) with
 | some ⟨.type c,_,.fields vs,_⟩=>decide (c = "code")&&((match (vs[11]?:Option Value) with
   | some (.ref _)=>true
   | _=>false)&&((match (vs[18]?:Option Value) with
   | some (.str _ _)=>true
   | _=>false)&&((match (vs[7]?:Option Value) with
   | some (.int _ _)=>true
   | _=>false)&&((match (vs[9]?:Option Value) with
   | some (.bool _)=>true
   | _=>false)&&(match (vs[10]?:Option Value) with
   | some (.int _ _)=>true
   | _=>false)))))
 | _=>false))))
theorem yIM {K:PySem.W.Frag} {T:List Addr} {a:Addr} (b:yHY K T a=true):jFU K a∈T∧mainGlobals≠jFU K a∧(∀ {fd:FuncData} {oc:Value} {od:Option Addr} {osl:Array (Option Value)},K.lookup a=some ⟨oc,od,.func fd,osl⟩→fd.code=.ref (jFY K a))∧∀ h:Heap,K.In h→PySem.W.CodeHd h (jFY K a) (jFU K a):=by
 unfold yHY at b
 simp only [Bool.and_eq_true,decide_eq_true_eq] at b
 obtain ⟨b1,b2,b3,b4,b5⟩:=b
 refine ⟨b1,b3,fun {fd oc od osl} lk=>?_,fun h X=>?_⟩
 ·unfold jFY
  rw [lk] at b4 ⊢
  dsimp only at b4 ⊢
  cases e:fd.code with
  | ref c=>rfl
  | _=>rw [e] at b4; cases b4
 ·split at b5
  ·rename_i c od vs sl q
   simp only [Bool.and_eq_true,decide_eq_true_eq] at b5
   obtain ⟨rfl,c1,c2,c3,c4,c5⟩:=b5
   have hP:jFU K a=(match (vs[11]?:Option Value) with
    | some (.ref P)=>P
    | _=>0):=by
    unfold jFU
    rw [q]
   obtain ⟨P,e1⟩:∃ P,vs[11]?=some (Value.ref P):=by
    split at c1
    ·rename_i P e; exact ⟨P,e⟩
    ·cases c1
   obtain ⟨file,tf,e2⟩:∃ file tf,vs[18]?=some (Value.str file tf):=by
    split at c2
    ·rename_i f t e; exact ⟨f,t,e⟩
    ·cases c2
   obtain ⟨flags,tg,e3⟩:∃ i t,vs[7]?=some (Value.int i t):=by
    split at c3
    ·rename_i f t e; exact ⟨f,t,e⟩
    ·cases c3
   obtain ⟨inF,e4⟩:∃ b,vs[9]?=some (Value.bool b):=by
    split at c4
    ·rename_i f e; exact ⟨f,e⟩
    ·cases c4
   obtain ⟨text,tt,e5⟩:∃ i t,vs[10]?=some (Value.int i t):=by
    split at c5
    ·rename_i f t e; exact ⟨f,t,e⟩
    ·cases c5
   have hP:jFU K a=P:=by rw [hP,e1]
   have gd:∀ {i:Nat} {v:Value},vs[i]?=some v→vs.getD i .none=v:=fun {i v} e=>by
    rw [Array.getD_eq_getD_getElem?,e]; rfl
   exact ⟨_,vs,file,tf,flags,tg,inF,text,tt,X _ _ q,rfl,rfl,by rw [hP]; exact e1,by rw [hP]; exact gd e1,gd e2,gd e3,gd e4,gd e5,b2⟩
  ·cases b5
abbrev AlL:Type:=(Bool × List FnL) × List (Option (List (Option (Str × Int))))
def yYD (fa:List FactL) (fn:List DefL) (ts:List He.Tab) (K:PySem.W.Frag) (T:List Addr):AlL:=(((fa.all fun f=>f K T)&&fn.all fun d=>d.ok K,fn.map fun d=>fnL K (d.at_ K)),ts.map fun t=>He.dicW K (t.1 K))
def yHX (fn:List DefL) (ts:List He.Tab) (w:World):AlL:=((true,fn.map DefL.val),ts.map fun t=>some (He.keysIn w.params t.2))
def SaysL (fa:List FactL) (fn:List DefL) (ts:List He.Tab) (w:World) (K:PySem.W.Frag) (T:List Addr):Prop:=yYD fa fn ts K T=yHX fn ts w
def yPT (fa:List FactL) (fn:List DefL) (ts:List He.Tab) (g:Addr→Option Obj) (as:List Addr):AlL:=yYD fa fn ts (He.frG g (yPX g as)) (yPK g as)
def SayL (fa:List FactL) (fn:List DefL) (ts:List He.Tab) (w:World) (h:Heap) (K:PySem.W.Frag) (T:List Addr):Prop:=K.In h∧(∀ P∈T,h.get? P=some { cls:=.none,data:=.fields #[] }∧K.lookup P=none)∧SaysL fa fn ts w K T
section
variable {fa:List FactL} {fn:List DefL} {ts:List He.Tab} {w:World} {K:PySem.W.Frag} {T:List Addr}
theorem SaysL.fact (c:SaysL fa fn ts w K T) (i:Nat) {f:FactL} (h:fa[i]?=some f:=by rfl):f K T=true:=by
 have c1:=(Bool.and_eq_true_iff.mp (show ((fa.all fun f=>f K T)&&fn.all fun d=>d.ok K)=true from congrArg (fun z:AlL=>z.1.1) c)).1
 exact List.all_eq_true.mp c1 f (List.mem_of_getElem? h)
theorem SaysL.def_ (c:SaysL fa fn ts w K T) (i:Nat) {d:DefL} (h:fn[i]?=some d:=by rfl):fnL K (d.at_ K)=d.val∧d.ok K=true:=by
 have c2:=(Bool.and_eq_true_iff.mp (show ((fa.all fun f=>f K T)&&fn.all fun d=>d.ok K)=true from congrArg (fun z:AlL=>z.1.1) c)).2
 have e:fn.map (fun d=>fnL K (d.at_ K))=fn.map DefL.val:=congrArg (fun z:AlL=>z.1.2) c
 have e2:(fn.map fun d=>fnL K (d.at_ K))[i]?=(fn.map DefL.val)[i]?:=by rw [e]
 rw [List.getElem?_map,List.getElem?_map,h] at e2
 exact ⟨Option.some.inj e2,List.all_eq_true.mp c2 d (List.mem_of_getElem? h)⟩
theorem SaysL.dicW (c:SaysL fa fn ts w K T) (i:Nat) {t:He.Tab} (h:ts[i]?=some t:=by rfl):He.dicW K (t.1 K)=some (He.keysIn w.params t.2):=by
 have e:ts.map (fun t=>He.dicW K (t.1 K))=ts.map fun t=>some (He.keysIn w.params t.2):=congrArg (fun z:AlL=>z.2) c
 have e2:(ts.map fun t=>He.dicW K (t.1 K))[i]?=(ts.map fun t=>some (He.keysIn w.params t.2))[i]?:=by rw [e]
 rw [List.getElem?_map,List.getElem?_map,h] at e2
 exact Option.some.inj e2
theorem SaysL.dic (c:SaysL fa fn ts w K T) (i:Nat) {t:He.Tab} (h:ts[i]?=some t:=by rfl):∃ es n,KDict K w (t.1 K) es n:=by
 have e:ts.map (fun t=>He.dicW K (t.1 K))=ts.map fun t=>some (He.keysIn w.params t.2):=congrArg (fun z:AlL=>z.2) c
 have e2:(ts.map fun t=>He.dicW K (t.1 K))[i]?=(ts.map fun t=>some (He.keysIn w.params t.2))[i]?:=by rw [e]
 rw [List.getElem?_map,List.getElem?_map,h] at e2
 exact He.dicW_ok (Option.some.inj e2)
end
def yXW (K:PySem.W.Frag) (ls:List ((PySem.W.Frag→Addr) × Str)):List (Addr × Str):=ls.map fun p=>(jFU K (p.1 K),p.2)
theorem yYJ {l:PySem.W.OpenLaw} {n k:Nat} {q:Program} {loose:List Str} {XP:(Str→Option Value)→Heap→Prop} {YP:World→Heap→Prop} {d:DefRec} {x:Str} {fa:List FactL} {fn:List DefL} {ts:List He.Tab} {B:World→PySem.W.Frag→Bs} {m:MF} {ls:List ((PySem.W.Frag→Addr) × Str)}
  (hn:l.most=some n) (hn2:n≤sizeLine) (hdf:d.params.defaults=[]) (hr:Room k callerA) (hY:∀ w h,YP w h→∃ K T,SayL fa fn ts w h K T) (hB:∀ w K,(B w K).K=K) (hT:∀ w K,(B w K).T=yXW K ls) (hls:∀ w K T,SaysL fa fn ts w K T→∀ p∈ls,yHY K T (p.1 K)=true)
  (F:∀ (w:World) (mg:Str→Option Value) (f:Addr) (h:Heap) (K:PySem.W.Frag) (T:List Addr),K.In h→h.Ns mainGlobals mg→mg d.name=some (.ref f)→SaysL fa fn ts w K T →
   ∃ fd:FuncData,(∀ (s:Shared) (u:Value),BindsTo s fd ⟨[u],[]⟩ [(x,u)])∧∀ base:Heap,K.In base→base.Ns mainGlobals mg→(∀ p∈ls,TabB base mg (jFY K (p.1 K)) (jFU K (p.1 K)))→FnOk l.prog w K mg base (L2N.CX l.prog w) k f fd [x] (spF (B w K) 1 m))
  (law:∀ ns:List Int,ns.length≤n→(∀ z∈ns,Builtin.Int.intBits z≤1048576)→∃ h',m [.scr (ns.map .int)] []=.ok (.bl true) h') :
  PySem.W.WalkO q loose XP YP l.row.toRowW d [] (fun f vs=>PySem.call f vs):=by
 refine walk_ofTsE (CX:=fun w=>L2N.CX l.prog w) (x:=x) hn hn2 hdf hr (fun w mg f h Y hns hmg=>?_) fun w H s e s' z=>?_
 ·obtain ⟨K,T,KX,hTT,c⟩:=hY w h Y
  obtain ⟨fd,hb,hF⟩:=F w mg f h K T KX hns hmg c
  have tb:=fun p hp=>yIM (hls w K T c p hp)
  refine ⟨K,KX,fd,ls.map fun p=>(jFY K (p.1 K),jFU K (p.1 K)),spZ 1 (spF (B w K) 1 m),fun p hp=>?_,fun p hp=>?_,fun p hp=>?_,hb,fun H a ns hl hbits hH hS=>⟨rfl,fun hz=>?_⟩,fun base hKb hnb htb=>yQU (hF base hKb hnb fun p hp=>htb (jFY K (p.1 K),jFU K (p.1 K)) (List.mem_map.mpr ⟨p,hp,rfl⟩)) rfl⟩
  ·obtain ⟨q,hq,rfl⟩:=List.mem_map.mp hp
   exact (hTT _ (tb q hq).1).1
  ·obtain ⟨q,hq,rfl⟩:=List.mem_map.mp hp
   exact (hTT _ (tb q hq).1).2
  ·obtain ⟨q,hq,rfl⟩:=List.mem_map.mp hp
   exact (tb q hq).2.2.2 h KX
  ·refine yXC hz (fun p hp=>?_) (Nat.le_trans hl hn2) (by rw [hB]; exact hS) (law ns hl hbits)
   rw [hT] at hp
   obtain ⟨q,hq,rfl⟩:=List.mem_map.mp hp
   exact TabS.nil (hH (jFY K (q.1 K),jFU K (q.1 K)) (List.mem_map.mpr ⟨q,hq,rfl⟩))
 ·obtain ⟨_,_,_,_,_,_,_,_,_,_,_,_,z⟩:=z
  exact z
end Lp
set_option maxHeartbeats 4000000
namespace Lp
open PySem PySem.Spec PyProof.Rows L2 LamX NdefX
theorem _root_.L2H.RoomH.u9 {k:Nat} {A:Around} (r:L2H.RoomH k A):U9 A:=by have:=r.un; show A.units+200 < cLine; omega
def ExcA (P:Program) (w:World) (K:PySem.W.Frag) (mg:Str→Option Value) (base:Heap) (B:Bs) (k:Nat) (x:Str) (c n:Nat) (fv:List PV→List PV):Prop:=∃ j,j+1≤k∧ExcC P w K mg base B j x c n fv
theorem ExcA.mono {P:Program} {w:World} {K:PySem.W.Frag} {mg:Str→Option Value} {base:Heap} {B:Bs} {i k:Nat} {x:Str} {c n:Nat} {fv:List PV→List PV} (F:ExcA P w K mg base B i x c n fv) (h:i≤k):ExcA P w K mg base B k x c n fv :=
 let ⟨j,hj,a⟩:=F
 ⟨j,Nat.le_trans hj h,a⟩
section
variable {X:Cx} {B:Bs} {N:Ent} {WX:L2.WX} {x:Str} {c n k:Nat} {fv:List PV→List PV} {ma:MA} {e:Expr} {es:List Expr} {p pos pos':Pos}
theorem jEW (F:ExcA X.prog X.w X.K X.mg X.base B k x c n fv) (hc:X.calm=true) (tk:L2N.Takes X WX) (hr:Room k X.A) (hg:Gl X x) (ha:SimA X B N WX (e :: es) ma) (hdb:(x == ("__debug__" : Str))=false)
  (he:starEach (e :: es) X.env=(false,eval e X.env) :: starEach es X.env) (hpl:(backTo pos (starEach es X.env)).any (·.1)=false):SimS X B N WX (.Raise (some (.Call (.Name x p) (e :: es) [] pos)) none pos') (jJA c n fv ma) :=
 let ⟨j,hj,F⟩:=F
 jYZ F hc tk (hr.mono hj) hg ha hdb he hpl
end
theorem TryF.mono {P:Program} {w:World} {K:PySem.W.Frag} {mg:Str→Option Value} {base:Heap} {B:Bs} {j k:Nat} {x:Str} {okc:Nat→Bool} {ms:MS} (F:TryF P w K mg base B j x okc ms) (h:j≤k):TryF P w K mg base B k x okc ms:=by
 obtain ⟨g,oc,od,pg,bg,sg,dV,kV,doc,pm,cdv,ct,an,osl,cs,h1,h2,h3,h4,h5,h6,h7,h8,h9⟩:=F.ex
 exact ⟨g,oc,od,pg,bg,sg,dV,kV,doc,pm,cdv,ct,an,osl,cs,h1,h2,h3,h4,h5,h6,h7,h8,fun A outer s H hr=>h9 A outer s H (hr.mono h)⟩
theorem XClsF.with {K:PySem.W.Frag} {B:Bs} {fl:FL} (C:XClsF K B fl) {y:Addr × Nat × Addr}:XClsF K (B.with y) fl:=⟨C.fld,C.cls⟩
theorem yXK {P:Program} {w:World} {K:PySem.W.Frag} {mg:Str→Option Value} {base:Heap} {B:Bs} {k:Nat} {x:Str} {c n:Nat} {fv:List PV→List PV} {fs:List V→List (Str × V)} {Bn i newId:String} {bmB:List Value} {fI:Addr} {fd:FuncData} {ps:List Str} (G:BltX Bn i newId bmB) (Ve:VeC K Bn i newId bmB (B.cad c))
  (iC:PySem.W.findIn K (.ref (B.cad c)) "__init__" = some (some (.ref fI))) (tI:PySem.W.typeIn K (.ref fI)=some (.type "function")) (F:FnOk P w K mg base (L2N.CX P w) k fI fd ps (jSR (B.cad c) n fs)) (hb:Binds K fd ps []) (hm:mg x=some (.ref (B.cad c))) (hn:n≤1000)
  (hf:∀ (W:Wd) (xs:List PV) (vs:List V),Reps B W xs vs→xs.length=n→∃ us,fs vs=(B.fld c).zip us∧us.length=(B.fld c).length∧Reps B W (fv xs) us):ExcC P w K mg base B k x c n fv:=⟨fs,⟨Bn,i,newId,bmB,fI,fd,ps,G,Ve,iC,tI,F,hb,hm⟩,hn,hf⟩
theorem yXL {B:Bs} {T f:Str} {c:Nat} (e:B.fld c=[("code" : Str),f]) (k:SOk T):∀ (W:Wd) (xs:List PV) (vs:List V),Reps B W xs vs→xs.length=1→∃ us,([(("code" : Str),V.str T),(f,vs.headD .non)]:List (Str × V))=(B.fld c).zip us∧us.length=(B.fld c).length∧Reps B W [.str T,xs.headD .non] us:=fun W xs vs r hl=>by
 rw [e]
 match xs,vs,r,hl with
 | [x],[v],.cons r1 .nil,_=>exact ⟨[.str T,v],rfl,rfl,.cons (.str _ k) (.one r1)⟩
end Lp
set_option maxHeartbeats 4000000
namespace Lp
open PySem PySem.Spec PyProof.Rows L2 LamX NdefX
structure IniT (P:Program) (qual:Str) (params:Arguments) (body:List Stmt) (scope:Scope) (ps:List Str):Prop where
 sc:NScope (ps++[("__class__" : Str)]) ps ["__class__"] scope
 self:∃ ar:Arg,(params.posonlyargs++params.args).head?=some ar∧ar.arg=("self" : Str)
 su:scope.names.lookup ("super" : Str)=some .globalImplicit
 cl:scope.names.lookup ("__class__" : Str)=some .free
 sl:scope.names.lookup ("self" : Str)=some .local
 top:(P.main.scope.names.lookup ("super" : Str)).isSome=false
 bind:∀ (kV doc pm:Value) (an:Option Addr) (cdv ct:Value) (cc:Addr) (us:List Value),us.length=ps.length→bindArgs (PySem.W.ksFn "__init__" qual params body scope .none kV doc pm an cdv ct cc) ⟨us,[]⟩=pure (ps.zip us)
section
variable {P:Program} {w:World} {K:PySem.W.Frag} {mg:Str→Option Value} {base:Heap} {B:Bs} {x T f1 f2 x1 x2 qual:Str} {c j j2:Nat} {Bn i newId:String} {bmB:List Value} {at_:PySem.W.Frag→Addr} {params:Arguments} {scope:Scope} {p0 p1 p2 p3 cp ap q0 q1 q2 q3 r0 r1 r2 r3 t0 t1 t2 t3:Pos}
theorem jPT (G:BltX Bn i newId bmB) (hfl:B.fld c=[("code" : Str),f1]) (v:jPX K Bn i newId bmB (B.cad c)=true) (xf:jLP K (B.cad c) ["code", f1]=true) (hi:jLU K (B.cad c) (at_ K)=true) (hs:jNK P K (at_ K) (B.cad c)=true)
  (e:fnL K ((DefL.mk at_ "__init__" qual params [jQB T j p0 p1 p2 p3 cp ap,.Assign [.Attribute (.Name "self" q0) f1 q1] (.Name x1 q2) q3,.Assign [.Attribute (.Name "self" t0) "code" t1] (.Constant (.str T) j2 t2) t3] scope ["__class__"] [] []).at_ K)=(DefL.mk at_ "__init__" qual params [jQB T j p0 p1 p2 p3 cp ap,.Assign [.Attribute (.Name "self" q0) f1 q1] (.Name x1 q2) q3,.Assign [.Attribute (.Name "self" t0) "code" t1] (.Constant (.str T) j2 t2) t3] scope ["__class__"] [] []).val∧(DefL.mk at_ "__init__" qual params [jQB T j p0 p1 p2 p3 cp ap,.Assign [.Attribute (.Name "self" q0) f1 q1] (.Name x1 q2) q3,.Assign [.Attribute (.Name "self" t0) "code" t1] (.Constant (.str T) j2 t2) t3] scope ["__class__"] [] []).ok K=true)
  (I:IniT P qual params [jQB T j p0 p1 p2 p3 cp ap,.Assign [.Attribute (.Name "self" q0) f1 q1] (.Name x1 q2) q3,.Assign [.Attribute (.Name "self" t0) "code" t1] (.Constant (.str T) j2 t2) t3] scope ["self", x1])
  (ht:∀ (cc cda f L:Addr),SupEv T j p0 p1 p2 cp ap (envF (vP qual params [jQB T j p0 p1 p2 p3 cp ap,.Assign [.Attribute (.Name "self" q0) f1 q1] (.Name x1 q2) q3,.Assign [.Attribute (.Name "self" t0) "code" t1] (.Constant (.str T) j2 t2) t3] scope cc cda) f L))
  (hx:(x1 == ("__debug__" : Str))=false) (hx2:(x1 == ("__classdict__" : Str))=false)
  (hsu:mg "super" = none) (hm:mg x=some (.ref (B.cad c))) (k:SOk T):ExcC P w K mg base B 1 x c 1 fun xs=>[.str T,xs.headD .non]:=by
 obtain ⟨cc,cda,fd,S,oc,od,dV,kV,doc,pm,an,ct,osl,rfl,hD⟩:=DefL.sup e.1 e.2 rfl rfl hs I.self I.su I.cl I.sl I.top
 obtain ⟨i1,i2⟩:=Bool.and_eq_true_iff.mp hi
 have V:=yIJ v
 refine yXK G V (of_decide_eq_true i1) (of_decide_eq_true i2) (ini1 (k:=0) S G V hsu I.sc (fun L=>ht _ _ _ L) hx hx2 (jJY xf (by simp)).2 (jJY xf (by simp)).2) ?_ hm (by decide) (yXL hfl k)
 rcases hD with ⟨_,rfl⟩ | ⟨e,_⟩
 ·exact .all (I.bind kV doc pm an _ ct cc)
 ·exact absurd rfl e
end
end Lp
set_option maxHeartbeats 4000000
set_option maxHeartbeats 4000000
namespace Lp
open PySem PySem.Spec PyProof.Rows L2
@[irreducible] def jUP (c n:Nat) (fv:List PV→List PV) (ma:MA):MS:=jJA c n fv ma
end Lp
set_option maxHeartbeats 4000000
namespace Lp
open PySem PySem.Spec PyProof.Rows L2 LamX NdefX
def yYF (K:PySem.W.Frag) (to:TE) (f:Str):TG:=fun v σ H Q=>to σ H fun x H1=>∃ a C dx fs,x=.ref a∧H1 a=some (.ins C dx fs)∧Cls K C∧NoAttr K C f∧fs.length < 1000∧Q σ (upd H1 a (.ins C dx (putF f v fs)))
section
variable {X:Cx} {o:Expr} {to:TE} {f:Str} {pos:Pos}
theorem yVT (ho:PE X o to) (ha:∀ v,assign (.Attribute o f pos) X.env v=(do
  let ov ← holding [v] (eval o X.env)
  standAt pos.atName
  holding [v,ov] (setAttr ov f v)
  release [v,ov] [])):PG X (.Attribute o f pos) (yYF X.K to f):=by
 refine ⟨fun pins s σ H v u Q I r h=>?_⟩
 rw [ha]
 refine wpAny_bind (wpAny_holding (thn (ho.run pins s σ H _ I h) fun ov s1 ⟨x,H1,I1,rx,a,C,dx,fs,ex,ea,c,n,l,q⟩=>?_))
 subst ex
 obtain rfl:ov=Value.ref a:=rx
 exact wpAny_bind (wpAny_standAt (wpAny_bind (wpAny_holding (setattr_ok I1 ea c n l r fun s3 I3=>wpAny_release ⟨σ,_,I3,q⟩))))
end
def putAll (fl:FL) (i:Nat):List Str→List PV→MS
 | [],[]=>fun s=>.ok .nx s
 | f :: fs,x :: xs=>fun s=>match s.e[i]? with
  | some (some (.cel n))=>(match s.h[n]? with
   | some (some (.ins c gs))=>(match jXY (fl c) f x gs with
    | some gs'=>putAll fl i fs xs ⟨s.e,s.h.set n (some (.ins c gs'))⟩
    | none=>.bad)
   | _=>.bad)
  | _=>.bad
 | _,_=>fun _=>.bad
def jVV (fl:FL) (i:Nat) (fs:List Str) (m:ME):MS:=fun s=>(m s).bind fun v s1=>match v with
 | .tup xs=>putAll fl i fs xs s1
 | _=>.bad
def jSV (K:PySem.W.Frag) (i:Nat):List Str→TGs
 | []=>gNil
 | f :: fs=>gCons (yYF K (tVar i) f) (jSV K i fs)
section
variable {X:Cx} {B:Bs} {N:Ent} {WX:L2.WX} {W:Wd} {s:S} {σ:L2.St} {H:Hp} {fl:FL} {i:Nat} {m:ME} {tg e:Expr} {es:List Expr} {pos:Pos} {k:Nat}
theorem jTL {K:PySem.W.Frag}:PGs X [] (jSV K i []):=pgs_nil
theorem jGB {f:Str} {fs:List Str} {x:Str} {p:Pos} (hN:X.N[i]?=some x) (hv:Vis X.env.scope x) (h2:PGs X es (jSV X.K i fs)) (ha:∀ v,assign (.Attribute (.Name x p) f pos) X.env v=(do
  let ov ← holding [v] (eval (.Name x p) X.env)
  standAt pos.atName
  holding [v,ov] (setAttr ov f v)
  release [v,ov] [])) (hs:(assignEach (.Attribute (.Name x p) f pos :: es) X.env).map (·.2)=assign (.Attribute (.Name x p) f pos) X.env :: (assignEach es X.env).map (·.2)) (hd:(x == ("__debug__" : Str))=false) (hcd:(x == ("__classdict__" : Str))=false) :
  PGs X (.Attribute (.Name x p) f pos :: es) (jSV X.K i (f :: fs)):=pgs_cons (yVT (pe_var hN hv hd hcd) ha) h2 hs
theorem jWS (C:ClsF X.K B fl) {D:Ends}:∀ {fs:List Str} {xs:List PV} {us:List V} {W:Wd} {s:S} {H:Hp},Rel B N W s σ H→Reps B W xs us→PostS B N WX D (putAll fl i fs xs s)→jSV X.K i fs us σ H D.nx
 | [],[],_,W,s,H,r,.nil,h=>⟨rfl,h W σ H r⟩
 | [],_ :: _,_,_,_,_,_,_,h=>h.elim
 | _ :: _,[],_,_,_,_,_,_,h=>h.elim
 | f :: fs,x :: xs,_,W,s,H,r,.cons rx rxs,h=>by
  rename_i x' xs'
  refine ⟨x',xs',rfl,?_⟩
  unfold putAll at h
  split at h
  ·rename_i n en
   split at h
   ·rename_i c gs ec
    split at h
    ·rename_i gs' eg
     obtain ⟨v,ev,sl⟩:=r.env i _ en
     have sl:Rep B W (.cel n) v:=sl
     obtain ⟨a,rfl,em⟩:=jMD (H:=H) sl.hand
     obtain ⟨dx,vs,hH,c1,c2,lz,r3,st⟩:=yBD C r ec em rx eg
     refine ⟨_,ev,a,_,dx,_,rfl,hH,c1,c2,lz,?_⟩
     exact jWS C r3 rxs h
    ·exact h.elim
   ·exact h.elim
  ·exact h.elim
theorem jTA {fs:List Str} (C:ClsF X.K B fl) (hK:X.K=B.K) (hc:X.calm=true) (he:SimE X B N WX e m) (hg:PGs X es (jSV X.K i fs)) (hn:(assignEach es X.env).length=fs.length) (hst:(assignEach es X.env).findIdx? (·.1)=none)
  (hs:swapsWithSole [.Tuple es k pos'] e pos.line X.env=pure false) (hw:swappedStores [.Tuple es k pos'] e X.env=pure none) (h1:(assignEach [.Tuple es k pos'] X.env).map (·.2)=[assign (.Tuple es k pos') X.env]) :
  SimS X B N WX (.Assign [.Tuple es k pos'] e pos) (jVV fl i fs m) :=
 (ps_asg he (pg_tup hc hg hn hst) hs hw h1).imp fun D σ H ⟨W,s,r,h⟩=>⟨W,s,r,h.bindE.mono fun v W1 s1 H1 r1 _ q v' rv=>by
  split at q
  ·rename_i xs
   have rt:Rep B W1 (.tup xs) v':=rv.rep rfl
   obtain ⟨a,us,rfl,h1,ru⟩:=jFX hK r1.hr rt
   have hl:xs.length=fs.length:=by
    clear h1 rt ru rv
    have:∀ {fs:List Str} {xs:List PV} {s:S},PostS B N WX D (putAll fl i fs xs s)→xs.length=fs.length:=by
     intro fs
     induction fs with
     | nil=>intro xs s h; cases xs with
      | nil=>rfl
      | cons _ _=>exact h.elim
     | cons f fs ih=>intro xs s h; cases xs with
      | nil=>exact h.elim
      | cons x xs =>
       unfold putAll at h
       split at h
       ·split at h
        ·split at h
         ·exact congrArg Nat.succ (ih h)
         ·exact h.elim
        ·exact h.elim
       ·exact h.elim
    exact this q
   exact ⟨a,us,rfl,h1,ru.len_of hl,jWS C r1 ru q⟩
  ·exact q.elim⟩
end
structure KBd (K:PySem.W.Frag) (B:Bs) (fd:FuncData) (ps:List Str) (n:Nat) (ks:List Str) (ix:List Nat) (ds:List PV):Prop where
 ex:∃ gW gV,KBn K fd ps n ks gW gV∧∀ (W:Wd) (xs ys:List PV) (vs zs:List V),Reps B W xs vs→Reps B W ys zs→Reps B W (pick ix (xs++ys++ds)) (gV vs zs)
section
variable {K:PySem.W.Frag} {B:Bs} {x qual:Str} {params:Arguments} {body:List Stmt} {scope:Scope} {dvs:List V} {kws:List (Str × V)} {f:Addr} {fd:FuncData} {ps:List Str}
theorem Reps.app {W:Wd}:∀ {xs ys:List PV} {vs us:List V},Reps B W xs vs→Reps B W ys us→Reps B W (xs++ys) (vs++us)
 | [],_,_,_,.nil,r=>r
 | _ :: _,_,_,_,.cons h t,r=>.cons h (Reps.app t r)
theorem yXE (F:FunD K x qual params body scope dvs kws f fd) (n:Nat) (ks:List Str) (ms:List (Str × V)) (ix:List Nat) (ds:List PV) (hd:dvs≠[]) (hk:kws≠[]) (hms:∀ q∈ms,q∈kws) (hds:∀ W,Reps B W ds (dvs++ms.map (·.2)))
  (h:∀ (T D:Addr) (doc pm:Value) (an:Option Addr) (cdv ct:Value) (us its mv ws:List Value),us.length=n→its.length=dvs.length→mv.length=ms.length→ws.length=ks.length →
   ∃ k,bindArgs (PySem.W.fnOf x qual params body scope (.ref T) (.ref D) doc pm an cdv ct) ⟨us,ks.zip ws⟩=seqItems? (.ref T) >>= k∧KwChain D ((ms.map (·.1)).zip mv) (k (some its.toArray)) (ps.zip (pick ix (us++ws++(its++mv))))):KBd K B fd ps n ks ix ds:=by
 obtain ⟨its,mv,H⟩:=F.kbinds n ks ms (fun us its mv ws=>pick ix (us++ws++(its++mv))) hd hk hms (fun r1 r2 r3 r4=>jHG ((r1.append r4).append (r2.append r3)) ix) h
 exact ⟨_,_,H,fun W xs ys vs zs r1 r2=>jHI ((r1.app r2).app (hds W)) ix⟩
theorem yDR (F:FunD K x qual params body scope [] kws f fd) (n:Nat) (ks:List Str) (ix:List Nat)
  (h:∀ (kV doc pm:Value) (an:Option Addr) (cdv ct:Value) (us ws:List Value),us.length=n→ws.length=ks.length→bindArgs (PySem.W.fnOf x qual params body scope .none kV doc pm an cdv ct) ⟨us,ks.zip ws⟩=pure (ps.zip (pick ix (us++ws)))):KBd K B fd ps n ks ix [] :=
 ⟨_,_,yXD F h,fun W xs ys vs zs r1 r2=>by rw [List.append_nil]; exact jHI (r1.app r2) ix⟩
end
theorem MkC.of {P:Program} {w:World} {K:PySem.W.Frag} {mg:Str→Option Value} {base:Heap} {B:Bs} {k c n0 n:Nat} {x:Str} {ks ps:List Str} {ix:List Nat} {ds:List PV} {m:MF} {f:Addr} {fd:FuncData} (M:Mk K (B.cad c) f) (F:FnOk P w K mg base (L2N.CX P w) k f fd ps (spF B n m)) (hm:mg x=some (.ref (B.cad c))) (b:KBd K B fd ps (n0+1) ks ix ds) :
  MkC P w K mg base B k x c n0 ks (fun xs ys=>pick ix (xs++ys++ds)) n m:=let ⟨gW,gV,h1,h2⟩:=b.ex; ⟨f,fd,ps,gW,gV,M,F,hm,h1,h2⟩
theorem Me.of {P:Program} {w:World} {K:PySem.W.Frag} {mg:Str→Option Value} {base:Heap} {B:Bs} {k c n0 n:Nat} {x:Str} {ks ps:List Str} {ix:List Nat} {ds:List PV} {m:MF} {f:Addr} {fd:FuncData} (M:Meth K (B.cad c) x f) (F:FnOk P w K mg base (L2N.CX P w) k f fd ps (spF B n m)) (b:KBd K B fd ps (n0+1) ks ix ds) :
  Me P w K mg base B k c x n0 ks (fun xs ys=>pick ix (xs++ys++ds)) n m:=let ⟨gW,gV,h1,h2⟩:=b.ex; ⟨f,fd,ps,gW,gV,M,F,h1,h2⟩
end Lp
set_option maxHeartbeats 4000000
namespace Lp
open PySem PySem.Spec PyProof.Rows L2 LamX NdefX
theorem yCW {K:PySem.W.Frag} {a:Addr} {l:List (Option (Str × Int))} (h:He.dicW K a=some l):∃ oc od es n sl,K.lookup a=some ⟨oc,od,.dict es n,sl⟩∧es.toList.map He.keyOf=l:=by
 unfold He.dicW at h
 split at h
 ·rename_i q
  split at h
  ·exact ⟨_,_,_,_,_,q,Option.some.inj h⟩
  ·cases h
 ·cases h
theorem key_of {e:DictEntry} {k:Str} {i:Int} (h:He.keyOf e=some (k,i)):∃ t,e.key=.str k t:=by
 unfold He.keyOf at h
 split at h
 ·rename_i x t q
  cases h
  exact ⟨t,q⟩
 ·cases h
theorem yOG {K:PySem.W.Frag} {a:Addr} {P:Params} {ks:List Str} {z:Str} (h:He.dicW K a=some (He.keysIn P ks)) (hz:z∉ks):PySem.W.nsIn K a z=some none:=by
 obtain ⟨oc,od,es,n,sl,q,e⟩:=yCW h
 have all:∀ d∈es.toList,∃ k∈ks,∃ t,d.key=.str k t:=fun d hd=>by
  have:He.keyOf d∈He.keysIn P ks:=by rw [← e]; exact List.mem_map.mpr ⟨d,hd,rfl⟩
  obtain ⟨k,hk,ek⟩:=List.mem_map.mp this
  obtain ⟨t,et⟩:=key_of ek.symm
  exact ⟨k,hk,t,et⟩
 have f0:es.toList.find? (·.key.isStr z)=none:=List.find?_eq_none.mpr fun d hd z2=>by
  obtain ⟨k,hk,t,et⟩:=all d hd
  rw [et] at z2
  have:k=z:=by simpa [Value.isStr] using z2
  exact hz (this ▸ hk)
 have f1:es.toList.any (·.refKey)=false:=List.any_eq_false.mpr fun d hd z2=>by
  obtain ⟨k,hk,t,et⟩:=all d hd
  simp [DictEntry.refKey,et] at z2
 unfold PySem.W.nsIn
 rw [q]
 dsimp only
 rw [f0,f1]
 rfl
structure DicC (K:PySem.W.Frag) (w:World) (mg:Str→Option Value) (x:Str) (kv:List (Str × Str)):Prop where
 ex:∃ d es n,mg x=some (.ref d)∧KDict K w d es n∧(∀ z,z∉kv.map (·.1)→PySem.W.nsIn K d z=some none)∧∀ q∈kv,∃ u,PySem.W.nsIn K d q.1=some (some u)∧RelV (.str q.2) u
theorem yOZ {K:PySem.W.Frag} {w:World} {mg:Str→Option Value} {x:Str} {kv:List (Str × Str)} {a:Addr} (hm:mg x=some (.ref a)) (h:He.dicW K a=some (He.keysIn w.params (kv.map (·.1)))) (b:yQO K a kv=true):DicC K w mg x kv:=by
 obtain ⟨es,n,D⟩:=He.dicW_ok h
 refine ⟨a,es,n,hm,D,fun z hz=>yOG h hz,fun q hq=>?_⟩
 obtain ⟨u,e,r⟩:=He.valsB_ok b (q:=(q.1,He.Dv.str q.2)) (List.mem_map.mpr ⟨q,hq,rfl⟩)
 exact ⟨u,e,r⟩
def yIF (neg:Bool) (kv:List (Str × Str)) (mx:ME):ME:=fun s=>(mx s).bind fun v s1=>match v with
 | .str z=>.ok (.bl (neg ^^ decide (z∈kv.map (·.1)))) s1
 | _=>.bad
def yQN (kv:List (Str × Str)) (mx:ME):ME:=fun s=>(mx s).bind fun v s1=>match v with
 | .str z=>(match kv.lookup z with
  | some y=>.ok (.str y) s1
  | none=>.bad)
 | _=>.bad
section
variable {X:Cx} {B:Bs} {N:Ent} {WX:L2.WX} {e:Expr} {mx:ME} {x:Str} {kv:List (Str × Str)} {p pos:Pos} {es:Array DictEntry} {n:Nat} {d:Addr}
theorem mem_lookup {z y:Str}:∀ {l:List (Str × Str)},l.lookup z=some y→(z,y)∈l
 | [],e=>by cases e
 | (a1,a2) :: l,e=>by
  rw [List.lookup_cons] at e
  split at e
  ·rename_i z2
   cases e
   rw [beq_iff_eq.mp z2]
   exact List.mem_cons_self
  ·exact List.mem_cons_of_mem _ (mem_lookup e)
theorem yGS {K:PySem.W.Frag} (h0:∀ z,z∉kv.map (·.1)→PySem.W.nsIn K d z=some none) (h1:∀ q∈kv,∃ u,PySem.W.nsIn K d q.1=some (some u)∧RelV (.str q.2) u) (z:Str):∃ r,PySem.W.nsIn K d z=some r∧r.isSome=decide (z∈kv.map (·.1)):=by
 by_cases hz:z∈kv.map (·.1)
 ·obtain ⟨q,hq,rfl⟩:=List.mem_map.mp hz
  obtain ⟨u,e,_⟩:=h1 q hq
  exact ⟨_,e,by rw [decide_eq_true hz]; rfl⟩
 ·exact ⟨_,h0 z hz,by rw [decide_eq_false hz]; rfl⟩
theorem yMX (D:DicC X.K X.w X.mg x kv) (hg:Gl X x) (he:SimE X B N WX e mx) (hm:behindInMarks .In (.Name x p)=false) (hdb:(x == ("__debug__" : Str))=false):SimE X B N WX (.Compare e [.In] [.Name x p] pos) (yIF false kv mx):=by
 obtain ⟨d,es,n,hmg,KD,h0,h1⟩:=D.ex
 refine (pe_cmpR (op_in_kd KD) he (pe_glob (v:=.ref d) hg hmg rfl hdb) hm).imp fun σ H Q ⟨W,s,r,h⟩=>⟨W,s,r,(h.bind r.slen).mono fun v W1 s1 H1 r1 _ q v' rv=>?_⟩
 split at q
 ·rename_i z
  cases (show Rep B W1 (.str z) v' from rv)
  obtain ⟨r2,e2,e3⟩:=yGS h0 h1 z
  refine ⟨z,r2,rfl,rfl,e2,?_⟩
  rw [e3]
  have q2:=q.ok r1 _ (Rep.bl (B:=B) (W:=W1) (false ^^ decide (z∈kv.map (·.1)))).hand
  rw [Bool.false_xor] at q2
  exact q2
 ·exact q.elim
theorem yPY (D:KDict X.K X.w d es n):IxR X (fun x y H Q=>∃ (z:Str) (u0:Value) (v0:V),x=.ref d∧y=.str z∧PySem.W.nsIn X.K d z=some (some u0)∧RelV v0 u0∧Q v0 H):=by
 intro value slice pins s σ H x y v u Q I rx ry h hs
 have o:=op_item_kd D pins s σ H x y v u Q I rx ry h
 obtain ⟨z,u0,v0,rfl,rfl,e,r,q⟩:=h
 cases rx
 exact tail_any (kd_type D I) slot_dict_getitem.lookup o hs
theorem yAN (D:DicC X.K X.w X.mg x kv) (hg:Gl X x) (he:SimE X B N WX e mx) (hsk:∀ q∈kv,SOk q.2) (hdb:(x == ("__debug__" : Str))=false) (hs:PlainIx e):SimE X B N WX (.Subscript (.Name x p) e pos) (yQN kv mx):=by
 obtain ⟨d,es,n,hmg,KD,h0,h1⟩:=D.ex
 refine (pe_ix (yPY KD) (pe_glob (v:=.ref d) hg hmg rfl hdb) he hs).imp fun σ H Q ⟨W,s,r,h⟩=>⟨W,s,r,(h.bind r.slen).mono fun v W1 s1 H1 r1 _ q v' rv=>?_⟩
 split at q
 ·rename_i z
  cases (show Rep B W1 (.str z) v' from rv)
  split at q
  ·rename_i y ey
   have hm:=mem_lookup ey
   obtain ⟨u,e1,e2⟩:=h1 _ hm
   exact ⟨z,u,.str y,rfl,rfl,e1,e2,q.ok r1 _ (Rep.str (B:=B) (W:=W1) y (hsk _ hm)).hand⟩
  ·exact q.elim
 ·exact q.elim
end
structure CTup (K:PySem.W.Frag) (C:Addr) (f:Str) (vs:List V):Prop where
 ex:∃ T o its n,ClX.CRead K C (.type "type")∧ClX.CVal K C (.type "type") f (.ref T) (.ref T)∧K.lookup T=some o∧o.cls=.type "tuple" ∧ o.data=.seq its n∧its.size≤sizeLine∧Vals vs its.toList
theorem yHM {K:PySem.W.Frag} {C:Addr} {f:Str} {vs:List He.Dv} (h:yAB K C f vs=true):CTup K C f (vs.map (He.Dv.v K)):=by
 unfold yAB at h
 obtain ⟨h1,h2⟩:=Bool.and_eq_true_iff.mp h
 obtain ⟨h2,h3⟩:=Bool.and_eq_true_iff.mp h2
 split at h3
 ·rename_i T q
  split at h3
  ·rename_i c od its n sl q2
   obtain ⟨g1,g2⟩:=Bool.and_eq_true_iff.mp h3
   obtain ⟨g3,g4⟩:=Bool.and_eq_true_iff.mp g2
   exact ⟨T,_,its,n,⟨h1,of_decide_eq_true h2⟩,⟨q,rfl⟩,q2,congrArg Value.type (of_decide_eq_true g1),rfl,of_decide_eq_true g3,He.relAll_ok g4⟩
  ·cases h3
 ·cases h3
section
variable {X:Cx} {B:Bs} {N:Ent} {WX:L2.WX} {x f:Str} {C:Addr} {p pos:Pos} {xs:List PV} {vs:List V}
theorem yFO (hK:X.K=B.K) (c:CTup X.K C f vs) (hg:Gl X x) (hm:X.mg x=some (.ref C)) (hr:∀ W,Reps B W xs vs) (hb:attributeBase (.Name x p) f X.env (eval (.Name x p) X.env)=eval (.Name x p) X.env) (hdb:(x == ("__debug__" : Str))=false):SimE X B N WX (.Attribute (.Name x p) f pos) (eC (.tup xs)):=by
 obtain ⟨T,o,its,n,h1,h2,h3,h4,h5,h6,h7⟩:=c.ex
 refine jOK (v:=.ref T) ((ClX.pe_cval (pe_glob (v:=.ref C) hg hm rfl hdb) hb).imp fun σ H Q q=>⟨C,_,_,_,rfl,h1,h2,q⟩) fun W=>.tup (.inr ⟨o,its,n,hK ▸ h3,h4,h5,h6,h7⟩) (hr W)
end
end Lp
set_option maxHeartbeats 4000000
set_option maxHeartbeats 4000000
namespace Lp
open PySem PySem.Spec PyProof.Rows L2 LamX NdefX
structure SMet (K:PySem.W.Frag) (C:Addr) (m:Str) (p g:Addr):Prop where
 rd:ClX.CRead K C (.type "type")
 at_:PySem.W.findCls K (.ref C) (.type "type") m=some (.get (.builtin "staticmethod.__get__") (.ref p) .none (.ref C))
 rc:∃ rest,PySem.W.recIn K p "staticmethod" = some (.ref g :: rest)
 kp:PySem.W.keepIn K (.ref g)=true
structure SmK (P:Program) (w:World) (K:PySem.W.Frag) (mg:Str→Option Value) (base:Heap) (B:Bs) (k:Nat) (x m:Str) (n0:Nat) (ks:List Str) (ix:List Nat) (n:Nat) (mf:MF):Prop where
 ex:∃ f fd ps p C,FnOk P w K mg base (L2N.CX P w) k f fd ps (spF B n mf)∧mg x=some (.ref C)∧SMet K C m p f∧KBn K fd ps n0 ks (fun us ws=>pick ix (us++ws)) fun vs zs=>pick ix (vs++zs)
theorem SmK.mono {P:Program} {w:World} {K:PySem.W.Frag} {mg:Str→Option Value} {base:Heap} {B:Bs} {j k:Nat} {x m:Str} {n0:Nat} {ks:List Str} {ix:List Nat} {n:Nat} {mf:MF} (F:SmK P w K mg base B j x m n0 ks ix n mf) (h:j≤k):SmK P w K mg base B k x m n0 ks ix n mf :=
 let ⟨f,fd,ps,p,C,a,b⟩:=F.ex
 ⟨f,fd,ps,p,C,a.mono h,b⟩
end Lp
set_option maxHeartbeats 4000000
namespace Lp
open PySem PySem.Spec PyProof.Rows L2 LamX NdefX
structure MkA (P:Program) (w:World) (K:PySem.W.Frag) (mg:Str→Option Value) (base:Heap) (B:Bs) (k:Nat) (x:Str) (c n0:Nat) (ks:List Str) (ix:List Nat) (ds:List PV) (n:Nat) (m:MF):Prop where
 ex:∃ j,j+1≤k∧MkC P w K mg base B j x c n0 ks (fun xs ys=>pick ix (xs++ys++ds)) n m
theorem MkA.mono {P:Program} {w:World} {K:PySem.W.Frag} {mg:Str→Option Value} {base:Heap} {B:Bs} {i k:Nat} {x:Str} {c n0:Nat} {ks:List Str} {ix:List Nat} {ds:List PV} {n:Nat} {m:MF} (F:MkA P w K mg base B i x c n0 ks ix ds n m) (h:i≤k):MkA P w K mg base B k x c n0 ks ix ds n m :=
 let ⟨j,hj,a⟩:=F.ex
 ⟨j,Nat.le_trans hj h,a⟩
abbrev MeA (P:Program) (w:World) (K:PySem.W.Frag) (mg:Str→Option Value) (base:Heap) (B:Bs) (k:Nat) (c:Nat) (x:Str) (n0:Nat) (ks:List Str) (ix:List Nat) (ds:List PV) (n:Nat) (m:MF):Prop:=Me P w K mg base B k c x n0 ks (fun xs ys=>pick ix (xs++ys++ds)) n m
noncomputable def jVR (c n0 nk:Nat) (ix:List Nat) (ds:List PV) (n:Nat) (m:MF) (ma mk:MA):ME:=eMk true c n0 nk n (fun xs ys=>pick ix (xs++ys++ds)) m ma mk
def jPZ (c n0 nk:Nat) (ix:List Nat) (ds:List PV) (n:Nat) (m:MF) (mo:ME) (ma mk:MA):ME:=eMe c n0 nk n (fun xs ys=>pick ix (xs++ys++ds)) m mo ma mk
structure ClM (K:PySem.W.Frag) (B:Bs) (c:Nat) (ms:List Str):Prop where
 cls:Cls K (B.cad c)
 no:∀ m∈ms,m∉B.fld c
section
variable {X:Cx} {B:Bs} {N:Ent} {E:XK} {e o:Expr} {es:List Expr} {mo:ME} {ma mk:MA} {p pos apos:Pos} {x:Str} {k n n0 nk c:Nat} {m:MF} {kws:List Keyword} {ks ms:List Str} {ix:List Nat} {ds:List PV}
theorem jMC (F:MkA X.prog X.w X.K X.mg X.base B k x c n0 ks ix ds n m) (tk:L2N.Takes X fun c d _ H=>E c d H) (hr:Room k X.A) (hg:Gl X x) (ha:SimA X B N (fun c d _ H=>E c d H) (e :: es) ma) (hkw:SimK X B N (fun c d _ H=>E c d H) kws mk) (hl:ks.length=nk)
  (hall:(backToKw pos (keywordEach kws X.env)).all (·.1.isSome)=true) (hks:(backToKw pos (keywordEach kws X.env)).filterMap (·.1)=ks) (hdb:(x == ("__debug__" : Str))=false)
  (he:starEach (e :: es) X.env=(false,eval e X.env) :: starEach es X.env) (hpl:((backTo pos (starEach (e :: es) X.env)).any (·.1)||(backToKw pos (keywordEach kws X.env)).any (·.1.isNone))=false) :
  SimE X B N (fun c d _ H=>E c d H) (.Call (.Name x p) (e :: es) kws pos) (jVR c n0 nk ix ds n m ma mk) :=
 let ⟨_,hj,F⟩:=F.ex
 yVC F tk (hr.mono hj) hg ha hkw hl hall hks hdb he hpl
theorem jPP {pl:Sem Bool} (F:MeA X.prog X.w X.K X.mg X.base B k c x n0 ks ix ds n m) (C:ClM X.K B c ms) (hx:x∈ms) (tk:L2N.Takes X fun c d _ H=>E c d H) (hr:Room k X.A) (ho:SimE X B N (fun c d _ H=>E c d H) o mo)
  (ha:SimA X B N (fun c d _ H=>E c d H) (e :: es) ma) (hkw:SimK X B N (fun c d _ H=>E c d H) kws mk) (hl:ks.length=nk)
  (hall:(backToKw pos (keywordEach kws X.env)).all (·.1.isSome)=true) (hks:(backToKw pos (keywordEach kws X.env)).filterMap (·.1)=ks) (he:starEach (e :: es) X.env=(false,eval e X.env) :: starEach es X.env)
  (hpl:((backTo pos (starEach (e :: es) X.env)).any (·.1)||(backToKw pos (keywordEach kws X.env)).any (·.1.isNone))=false)
  (ht:eval (.Call (.Attribute o x apos) (e :: es) kws pos) X.env=(do
   let ov ← eval o X.env
   standAt apos.atName
   let (f,first) ← holding [ov] (getMethod ov x pl)
   callWith pos f first (backTo pos (starEach (e :: es) X.env)) (backToKw pos (keywordEach kws X.env)))):SimE X B N (fun c d _ H=>E c d H) (.Call (.Attribute o x apos) (e :: es) kws pos) (jPZ c n0 nk ix ds n m mo ma mk) :=
 yVD F C.cls (C.no x hx) tk hr ho ha hkw hl hall hks he hpl ht
theorem jQR {pl:Sem Bool} (F:MeA X.prog X.w X.K X.mg X.base B k c x 0 ks ix ds n m) (C:ClM X.K B c ms) (hx:x∈ms) (tk:L2N.Takes X fun c d _ H=>E c d H) (hr:Room k X.A) (ho:SimE X B N (fun c d _ H=>E c d H) o mo)
  (hkw:SimK X B N (fun c d _ H=>E c d H) kws mk) (hl:ks.length=nk)
  (hall:(backToKw pos (keywordEach kws X.env)).all (·.1.isSome)=true) (hks:(backToKw pos (keywordEach kws X.env)).filterMap (·.1)=ks)
  (hpl:((backTo pos (starEach [] X.env)).any (·.1)||(backToKw pos (keywordEach kws X.env)).any (·.1.isNone))=false)
  (ht:eval (.Call (.Attribute o x apos) [] kws pos) X.env=(do
   let ov ← eval o X.env
   standAt apos.atName
   let (f,first) ← holding [ov] (getMethod ov x pl)
   callWith pos f first (backTo pos (starEach [] X.env)) (backToKw pos (keywordEach kws X.env)))):SimE X B N (fun c d _ H=>E c d H) (.Call (.Attribute o x apos) [] kws pos) (jPZ c 0 nk ix ds n m mo jL mk) :=
 yMV F C.cls (C.no x hx) tk hr ho hkw hl hall hks hpl ht
end
theorem yAL {kv:List (Str × Str)} (h:kv.all (fun q=>yXX q.2)=true):∀ q∈kv,SOk q.2:=fun q hq=>jQ (List.all_eq_true.mp h q hq)
end Lp
set_option maxHeartbeats 4000000
namespace Lp
open PySem PySem.Spec PyProof.Rows L2 LamX NdefX
def yEM (ds:List PyData) (d:PyData):Option Nat:=ds.findIdx? fun z=>PyData.eqv z d
def yYG (mo:ME) (ma:MA):ME:=fun s=>(mo s).bind fun o s1=>match o with
 | .lst xs=>(ma s1).bind fun vs s2=>(match vs with
  | [y]=>(match toDs xs,toD y with
   | some ds,some d=>if dOk (.list ds)&&dOk d then (match yEM ds d with
    | some j=>.ok (.int (j:Nat)) s2
    | none=>.bad) else .bad
   | _,_=>.bad)
  | _=>.bad)
 | _=>.bad
section
variable {X:Cx} {B:Bs} {N:Ent} {WX:L2.WX} {o e:Expr} {es:List Expr} {mo:ME} {ma:MA} {apos cpos:Pos}
theorem yGE {ds:List PyData} {d:PyData} {j:Nat} (h:yEM ds d=some j):∃ z,ds[j]?=some z∧PyData.eqv z d=true∧∀ (m:Nat) (z':PyData),m < j→ds[m]?=some z'→PyData.eqv z' d=false:=by
 obtain ⟨hj,h1,h2⟩:=List.findIdx?_eq_some_iff_getElem.mp h
 refine ⟨ds[j],List.getElem?_eq_getElem hj,h1,fun m z' hm e=>?_⟩
 obtain ⟨hm2,rfl⟩:=List.getElem?_eq_some_iff.mp e
 simpa using h2 m hm
theorem yMW (hK:X.K=B.K) (hr:U9 X.A) (ho:SimE X B N WX o mo) (ha:SimA X B N WX (e :: es) ma) (hbase:attributeBase o "index" X.env (eval o X.env)=eval o X.env)
  (hfew:((backTo cpos (starEach (e :: es) X.env)).all (fun x=>!x.1)&&(backToKw cpos (keywordEach [] X.env)).all (fun x=>x.1.isSome)
   && decide ((e :: es).length+([]:List Keyword).length+(if ([]:List Keyword).isEmpty then 0 else 1) < 30))=true)
  (hline:(apos.endLine == cpos.line)=true) (hs:starEach (e :: es) X.env=(false,eval e X.env) :: starEach es X.env) (hplain:(backTo cpos (starEach es X.env)).any (·.1)=false) :
  SimE X B N WX (.Call (.Attribute o "index" apos) (e :: es) [] cpos) (yYG mo ma) :=
 (pe_bm PySem.F.plainAttrs_list PySem.F.slot_list_index PySem.F.type_list_index (mt_indexD (by have hr:X.A.units+200 < cLine:=hr; omega)) ho ha hbase hfew hline hs hplain).imp fun σ H Q ⟨W,s,r0,h⟩=>⟨W,s,r0,(h.bind r0.slen).mono fun o1 W1 s1 H1 r1 _ q o' ro=>by
  split at q
  ·rename_i xs
   cases (show Rep B W1 (.lst xs) o' from ro) with
   | lst hF rs =>
    rename_i a vs0
    refine ⟨.inl ⟨rfl,vs0,.inl (.inl (r1.hr.agree _ _ hF))⟩,W1,s1,r1,(q.bind r1.slen).mono fun vs W2 s2 H2 r2 st2 q vs' rvs=>?_⟩
    split at q
    ·rename_i y
     obtain ⟨v,rfl,rv⟩:=repts1 rvs
     split at q
     ·rename_i ds d ed ey
      split at q
      ·rename_i hz
       split at q
       ·rename_i j ej
        obtain ⟨z1,z2⟩:=Bool.and_eq_true_iff.mp hz
        have rl:Rep B W2 (.lst xs) (.ref a):=(Rep.lst hF rs).mono st2.st.le
        have el:toD (.lst xs)=some (.list ds):=by show (toDs xs).map _=_; rw [ed]; rfl
        obtain ⟨a1,a2⟩:=jTZ hK r2.hr rl el
        have oy:isOwn y=false:=by cases y <;> first | rfl | cases ey
        obtain ⟨b1,b2⟩:=jTZ hK r2.hr (rv.rep oy) ey
        obtain ⟨z,p1,p2,p3⟩:=yGE ej
        exact ⟨a,v,d,ds,j,z,rfl,rfl,a1,b1,qD a2 z1,qD b2 z2,p1,p2,p3,q.ok r2 _ (Rep.int _).hand⟩
       ·exact q.elim
      ·exact q.elim
     ·exact q.elim
    ·exact q.elim
  ·exact q.elim⟩
end
end Lp
set_option maxHeartbeats 4000000
namespace Lp
open PySem PySem.Spec PyProof.Rows L2 LamX NdefX
def yIE (m:ME):ME:=fun s=>(m s).bind fun v s1=>match v with
 | .int i=>.ok (.int (-i)) s1
 | _=>.bad
def yID (m:ME):ME:=fun s=>(m s).bind fun v s1=>match v with
 | .lst xs=>.ok (.lst xs.reverse) s1
 | _=>.bad
section
variable {X:Cx} {B:Bs} {N:Ent} {WX:L2.WX} {e:Expr} {m:ME} {k:Nat} {p1 p2 p3 pos:Pos}
theorem yMU (he:SimE X B N WX e m):SimE X B N WX (.UnaryOp .USub e pos) (yIE m) :=
 (pe_un un_neg he).imp fun σ H Q ⟨W,s,r,h⟩=>⟨W,s,r,(h.bind r.slen).mono fun v W1 s1 H1 r1 _ q v' rv=>by
  split at q
  ·rename_i i
   cases (show Rep B W1 (.int i) v' from rv)
   exact ⟨i,rfl,q.ok r1 _ (Rep.int _).hand⟩
  ·exact q.elim⟩
theorem Reps.rev {W:Wd}:∀ {xs:List PV} {vs:List V},Reps B W xs vs→Reps B W xs.reverse vs.reverse
 | _,_,.nil=>.nil
 | x :: xs,v :: vs,.cons h t=>by
  rw [List.reverse_cons,List.reverse_cons]
  exact (Reps.rev t).append (.one h)
theorem yMS (hK:X.K=B.K) (he:SimE X B N WX e m):SimE X B N WX (.Subscript e (.Slice none none (some (.UnaryOp .USub (.Constant (.int 1) k p1) p2)) p3) pos) (yID m) :=
 (pe_revL he).imp fun σ H Q ⟨W,s,r,h⟩=>⟨W,s,r,(h.bind r.slen).mono fun v W1 s1 H1 r1 _ q v' rv=>by
  split at q
  ·rename_i xs
   obtain ⟨a,vs,rfl,h1,rs⟩:=jLA r1.hr rv (show asL s1.h (.lst xs)=some xs from rfl)
   have hz:=jQL r1.hr rv (show asL s1.h (.lst xs)=some xs from rfl)
   refine ⟨a,vs,rfl,jNL hK h1,fun p hp=>?_⟩
   have hsz:vs.reverse.length≤sizeLine:=by rw [List.length_reverse,← rs.length]; exact hz
   exact q _ _ (jPR (o:=.lst vs.reverse) r1 hp hsz) ⟨jJC r1.hr hp,fun _ _ e _=>e⟩ _ (jDM (r1.hr.fnone hp) rs.rev).hand
  ·exact q.elim⟩
end
end Lp
set_option maxHeartbeats 4000000
namespace Lp
open PySem PySem.Spec PyProof.Rows L2
@[irreducible] def yDI (neg:Bool) (kv:List (Str × Str)) (m:ME):ME:=yIF neg kv m
@[irreducible] def jIG (fl:FL) (f:Str) (m:ME):ME:=jDP fl f m
@[irreducible] noncomputable def jOI (c n0 nk:Nat) (ix:List Nat) (ds:List PV) (n:Nat) (m:MF) (ma mk:MA):ME:=jVR c n0 nk ix ds n m ma mk
@[irreducible] def jVT (c n0 nk:Nat) (ix:List Nat) (ds:List PV) (n:Nat) (m:MF) (mo:ME) (ma mk:MA):ME:=jPZ c n0 nk ix ds n m mo ma mk
@[irreducible] def jTV (fl:FL) (i:Nat) (fs:List Str) (m:ME):MS:=jVV fl i fs m
@[irreducible] def jZT (m:ME):ME:=yIE m
@[irreducible] def jZS (m:ME):ME:=yID m
section
variable {P:PV→S→Prop} {PF:Fl→S→Prop} {E:PV→S→Prop} {s:S} {m mo:ME} {ma mk:MA} {i j c n n0 nk:Nat} {ix:List Nat} {ds:List PV} {kv:List (Str × Str)} {neg:Bool} {fl:FL} {f:Str} {fs:List Str} {mf:MF} {ms:MS}
theorem yYV (h:(m s).post (fun v s1=>∃ z,v=.str z∧P (.bl (neg ^^ decide (z∈kv.map (·.1)))) s1) E):(yDI neg kv m s).post P E:=by
 unfold yDI yIF
 exact jY (p_mono h (fun v s1 ⟨z,e,q⟩=>by subst e; exact q) fun _ _ z=>z)
theorem jET (h:(m s).post (fun v s1=>∃ u,jPY fl f s1.h v=some u∧P u s1) E):(jIG fl f m s).post P E:=by
 unfold jIG jDP
 exact jY (p_mono h (fun v s1 ⟨u,e,q⟩=>by simp only [e]; exact q) fun _ _ z=>z)
theorem yPQ (h:(ma s).post (fun vs s1=>(mk s1).post (fun zs s2=>((vs.length=n0∧zs.length=nk)∧yW vs=true∧yW zs=true)∧((pick ix (([.cel s2.h.length]++vs)++zs++ds)).length=n∧yW (pick ix (([.cel s2.h.length]++vs)++zs++ds))=true) ∧
  (mf (pick ix (([.cel s2.h.length]++vs)++zs++ds)) (s2.h++[some (.ins c [])])).post (fun v h2=>v=.non∧∃ gs,h2=s2.h++[some (.ins c gs)]∧celsB s2.h.length gs=true∧P (.ins c gs) s2) (fun y h2=>(∃ C,h2=s2.h++[some C])∧jIS s2.h.length y=true∧E y s2)) E) E):(jOI c n0 nk ix ds n mf ma mk s).post P E:=by
 unfold jOI jVR eMk
 refine jY (p_mono h (fun vs s1 q=>jY (p_mono q (fun zs s2 ⟨h1,h2,q⟩=>?_) fun _ _ z=>z)) fun _ _ z=>z)
 simp only [if_pos h1]
 unfold mkH
 rw [if_pos h2]
 cases e:mf (pick ix (([.cel s2.h.length]++vs)++zs++ds)) (s2.h++[some (.ins c [])]) with
 | ok v h2 =>
  rw [e] at q
  obtain ⟨rfl,gs,rfl,cg,q⟩:=q
  simp only [if_pos]
  rw [if_pos ⟨gs,rfl,cg⟩,List.getElem?_append_right (Nat.le_refl _),Nat.sub_self]
  exact q
 | exc y h2 =>
  rw [e] at q
  obtain ⟨q1,q2,q3⟩:=q
  simp only [if_pos (And.intro q1 q2)]
  exact q3
 | bad=>rw [e] at q; exact q.elim
theorem yDP (h:(mo s).post (fun o s1=>(clsOf s1.h o=some c∧isOwn o=false)∧(ma s1).post (fun vs s2=>(mk s2).post (fun zs s3=>((vs.length=n0∧zs.length=nk)∧yW vs=true∧yW zs=true)∧((pick ix ((o :: vs)++zs++ds)).length=n∧yW (pick ix ((o :: vs)++zs++ds))=true) ∧
  (mf (pick ix ((o :: vs)++zs++ds)) s3.h).post (fun v h=>P v ⟨s3.e,h⟩) (fun x h=>E x ⟨s3.e,h⟩)) E) E) E):(jVT c n0 nk ix ds n mf mo ma mk s).post P E:=by
 unfold jVT jPZ eMe
 refine jY (p_mono h (fun o s1 ⟨⟨h0,h1⟩,q⟩=>?_) fun _ _ z=>z)
 simp only [h0]
 rw [if_pos ⟨trivial,h1⟩]
 refine jY (p_mono q (fun vs s2 q=>jY (p_mono q (fun zs s3 ⟨h1,h2,q⟩=>?_) fun _ _ z=>z)) fun _ _ z=>z)
 simp only [if_pos h1]
 have:=jUW (n:=n) (mf:=mf) (vs:=pick ix ((o :: vs)++zs++ds)) (s:=s3) (P:=P) (E:=E) ⟨h2,q⟩
 unfold jQE at this
 exact this
theorem yEO (h:(m s).post (fun v s1=>∃ xs,v=.tup xs∧(putAll fl i fs xs s1).post PF E) E):(jTV fl i fs m s).post PF E:=by
 unfold jTV jVV
 exact jY (p_mono h (fun v s1 ⟨xs,e,q⟩=>by subst e; exact q) fun _ _ z=>z)
theorem jTF (h:PF .nx s):(putAll fl i [] [] s).post PF E:=h
theorem jVX {x:PV} {xs gs gs':List PV} {n c:Nat} (h1:s.e[i]?=some (some (.cel n))) (h2:s.h[n]?=some (some (.ins c gs))) (h3:jXY (fl c) f x gs=some gs') (h:(putAll fl i fs xs ⟨s.e,s.h.set n (some (.ins c gs'))⟩).post PF E):(putAll fl i (f :: fs) (x :: xs) s).post PF E:=by
 unfold putAll
 simp only [h1,h2,h3]
 exact h
theorem yYU (h:(m s).post (fun v s1=>∃ i,v=.int i∧P (.int (-i)) s1) E):(jZT m s).post P E:=by
 unfold jZT yIE
 exact jY (p_mono h (fun v s1 ⟨z,e,q⟩=>by subst e; exact q) fun _ _ z=>z)
theorem yYT (h:(m s).post (fun v s1=>∃ xs,v=.lst xs∧P (.lst xs.reverse) s1) E):(jZS m s).post P E:=by
 unfold jZS yID
 exact jY (p_mono h (fun v s1 ⟨z,e,q⟩=>by subst e; exact q) fun _ _ z=>z)
end
end Lp
set_option maxHeartbeats 4000000
set_option maxHeartbeats 4000000
set_option maxHeartbeats 4000000
namespace Lp
open PySem PySem.Spec PyProof.Rows L2 LamX NdefX
section
variable {X:Cx} {B:Bs} {N:Ent} {E:XK} {W:Wd} {s:S} {σ:L2.St} {H:Hp} {a b:Expr} {ma mb:ME} {pos p:Pos} {k c:Nat} {m:MF} {g:List PV→List PV→List PV}
theorem jXD (hr:HRel B W h H) {x:PV} {x':V} {c':Nat} (rx:RepT B W H x x') (e:clsOf h x=some c'):∃ a dx fs,x'=.ref a∧H a=some (.ins (B.cad c') dx fs):=by
 unfold clsOf at e
 cases ei:jLT h x with
 | none=>rw [ei] at e; cases e
 | some q =>
  obtain ⟨c1,fs⟩:=q
  rw [ei] at e
  cases e
  obtain ⟨a,dx,vs,e1,hH,_,_⟩:=jUH hr rx ei
  exact ⟨a,dx,_,e1,hH⟩
end
theorem BT.mem_all (t:BT):t∈BT.all:=by cases t <;> simp [BT.all]
structure ClsI (K:PySem.W.Frag) (C:Addr):Prop where
 no:∀ t:BT,PySem.W.kitOne K (.type t.nm) (.ref C)=some false
 cl:Cls K C
 ha:PySem.W.findIn K (.ref C) "__class__" = some (some (.builtin "object.__class__"))
 hn:PySem.W.specialIn K (.builtin "object.__class__") "__get__" = some (some (.builtin "getset_descriptor.__get__"))
 ht:PySem.W.takesIn K (.builtin "object.__class__")=some true
 hm:PySem.W.mroIn K C (.type "object")=some true
theorem yHN {K:PySem.W.Frag} {C:Addr} (cl:Cls K C) (h:yAD K C=true):ClsI K C:=by
 unfold yAD at h
 obtain ⟨h1,h⟩:=Bool.and_eq_true_iff.mp h
 obtain ⟨h2,h⟩:=Bool.and_eq_true_iff.mp h
 obtain ⟨h3,h⟩:=Bool.and_eq_true_iff.mp h
 obtain ⟨h4,h5⟩:=Bool.and_eq_true_iff.mp h
 exact ⟨fun t=>of_decide_eq_true (List.all_eq_true.mp h1 t t.mem_all),cl,of_decide_eq_true h2,of_decide_eq_true h3,of_decide_eq_true h4,of_decide_eq_true h5⟩
def jVS (c:Nat):AH→List PV→Option PV:=fun h xs=>match xs with
 | [x,.cls d]=>if d=c then (match clsOf h x with
  | some c'=>if c'=c then some (.bl true) else none
  | none=>(tyN h x).map fun _=>.bl false) else none
 | _=>none
section
variable {X:Cx} {B:Bs} {c:Nat}
theorem yNH (hK:X.K=B.K) (C:ClsI X.K (B.cad c)):CallSem X B (jVS c) (rIsi X.K):=by
 intro W h H xs z xs' Q hr rxs e q
 unfold jVS at e
 split at e
 ·rename_i x d
  split at e
  ·rename_i hd
   subst hd
   obtain ⟨v,w,rfl,rv,rw'⟩:=repts2 rxs
   cases (show Rep B W (.cls d) w from rw')
   split at e
   ·rename_i c' ec
    split at e
    ·rename_i hc
     subst hc
     cases e
     obtain ⟨a,dx,fs,rfl,hH⟩:=jXD hr rv ec
     refine ⟨.ref a,_,_,.ref (B.cad c'),true,rfl,.own _,.base (.ins hH C.cl C.ha C.hn C.ht C.hm),?_,q W H _ (.refl W H) (Rep.bl _).hand⟩
     unfold PySem.W.kitOne
     rw [if_pos (by simp)]
    ·cases e
   ·cases et:tyN h x with
    | none=>rw [et] at e; cases e
    | some t =>
     rw [et] at e
     cases e
     exact ⟨v,_,_,.ref (B.cad d),false,rfl,.own _,jTW hK hr rv et,C.no t,q W H _ (.refl W H) (Rep.bl _).hand⟩
  ·cases e
 ·cases e
theorem yXR (hK:X.K=B.K) (C:ClsI X.K (B.cad c)):BiOk X B "isinstance" (jVS c):=⟨_,_,PyProof.Rows.boot_isinstance,call_isi,yNH hK C,.inl ⟨_,rfl⟩⟩
theorem yNA {N:Ent} {WX:L2.WX} {x:Str} {pos:Pos} (hg:Gl X x) (h:X.mg x=some (.ref (B.cad c))) (hd:(x == ("__debug__" : Str))=false:=by rfl):SimE X B N WX (.Name x pos) (eC (.cls c)):=yVE hg ⟨_,h,(show RelV (.ref (B.cad c)) (.ref (B.cad c)) from rfl)⟩ (fun _=>.cls c) hd
end
end Lp
namespace Lp
open PySem PySem.Spec PyProof.Rows L2 LamX NdefX
def yPO (i j:Nat) (ma:ME) (mn:S→R S (List PV)):MS:=fun s=>(ma s).bind fun v s1=>(mn s1).bind fun xs s2=>if isOwn v=true then .bad else .ok .nx ⟨(s2.e.set i (some v)).set j (some (.own xs)),s2.h⟩
section
variable {X:Cx} {B:Bs} {N:Ent} {WX:L2.WX} {pos:Pos}
theorem yBY {i j:Nat} {x y:Str} {a b:Expr} {ma:ME} {mn:S→R S (List PV)} {px py pt:Pos} {kt k2 pt2} (hc:X.calm=true) (hN:X.N.Nodup) (hi:X.N[i]?=some x) (hj:X.N[j]?=some y) (hij:i≠j)
  (hx:X.env.scope.names.lookup x=some .local) (hy:X.env.scope.names.lookup y=some .local) (ha:SimE X B N WX a ma) (hb:SimN X B N WX b mn) (hs1:starEach [a,b] X.env=(false,eval a X.env) :: starEach [b] X.env) (hs2:starEach [b] X.env=(false,eval b X.env) :: starEach [] X.env)
  (hw:swappedStores [.Tuple [.Name x px,.Name y py] kt pt] (.Tuple [a,b] k2 pt2) X.env=pure (some [x,y]))
  (hs:swapsWithSole [.Tuple [.Name x px,.Name y py] kt pt] (.Tuple [a,b] k2 pt2) pos.line X.env=pure false) :
  SimS X B N WX (.Assign [.Tuple [.Name x px,.Name y py] kt pt] (.Tuple [a,b] k2 pt2) pos) (yPO i j ma mn) :=
 (ps_par hc hN hi hj hij hx hy (pa_cons ha (pa_cons hb pa_nil hs2) hs1) hw hs).imp fun D σ H ⟨W,s,r,h⟩=>⟨W,s,r,h.bindE.mono fun v W1 s1 H1 r1 _ q v' rv=>⟨W1,s1,r1,q.bindE.mono fun xs W2 s2 H2 r2 st2 q2 p vs hp l hH rxs=>by
  split at q2
  ·exact q2.elim
  ·rename_i o
   have o:isOwn v=false:=by simpa using o
   refine ⟨v',.ref p,rfl,q2 W2 _ H2 ?_⟩
   have r3:=jME (i:=i) r2 ((rv.on r1.slen st2.st).rep o)
   refine jPQ r3 (by simp) (fun k hk=>by rw [List.getElem?_set_ne (Ne.symm hk)]) ?_ ⟨l.F,l.m,fun k z hk e ow=>?_,l.e⟩ hH rxs
   ·by_cases hb:j < s2.e.length
    ·exact .inl (List.getElem?_set_self (by rw [List.length_set,r2.len]; exact hb))
    ·exact .inr (by simp; omega)
   ·by_cases hki:i=k
    ·subst hki
     have e:(s2.e.set i (some v))[i]?=some (some z):=e
     by_cases hb:i < s2.e.length
     ·rw [List.getElem?_set_self hb] at e
      cases e
      rw [o] at ow; cases ow
     ·rw [List.getElem?_eq_none (by rw [List.length_set]; omega)] at e
      cases e
    ·have e:(s2.e.set i (some v))[k]?=some (some z):=e
     rw [List.getElem?_set_ne hki] at e ⊢
     exact l.o k z e ow⟩⟩
end
end Lp
namespace Lp
open PySem PySem.Spec PyProof.Rows L2 LamX NdefX
structure MeN (P:Program) (w:World) (K:PySem.W.Frag) (mg:Str→Option Value) (base:Heap) (B:Bs) (k:Nat) (c:Nat) (x:Str) (n0:Nat) (ks:List Str) (ix:List Nat) (ds:List PV) (n:Nat) (m:MF):Prop where
 ex:∃ j,j+1≤k∧MeA P w K mg base B j c x n0 ks ix ds n m
theorem MeN.mono {P:Program} {w:World} {K:PySem.W.Frag} {mg:Str→Option Value} {base:Heap} {B:Bs} {i k:Nat} {c:Nat} {x:Str} {n0:Nat} {ks:List Str} {ix:List Nat} {ds:List PV} {n:Nat} {m:MF} (F:MeN P w K mg base B i c x n0 ks ix ds n m) (h:i≤k):MeN P w K mg base B k c x n0 ks ix ds n m :=
 let ⟨j,hj,a⟩:=F.ex
 ⟨j,Nat.le_trans hj h,a⟩
end Lp
set_option maxHeartbeats 4000000
set_option maxHeartbeats 4000000
namespace Lp
open PySem PySem.Spec PyProof.Rows L2
section
variable {PF:Fl→S→Prop} {E:PV→S→Prop} {s:S} {x:MS} {t:Tg} {u v:PV} {o:Bool}
theorem yAV (h:∃ e1,uW t u s.e=some e1∧(x ⟨e1,s.h⟩).post (fun fl s1=>fl=.nx∧∃ e2,uW t v s1.e=some e2∧(x ⟨e2,s1.h⟩).post (fun fl s2=>fl=.nx∧PF .nx s2) E) E):(jDJ ⟨[u,v],[],o⟩ t x [u,v] s).post PF E:=by
 obtain ⟨e1,b1,q⟩:=h
 unfold jDJ
 rw [if_pos jNQ,b1]
 refine jY (p_mono q (fun fl s1 ⟨hf,e2,b2,q2⟩=>?_) fun _ _ z=>z)
 subst hf
 show (jDJ ⟨[u,v],[],o⟩ t x [v] s1).post PF E
 unfold jDJ
 rw [if_pos jNQ,b2]
 refine jY (p_mono q2 (fun fl s2 ⟨hf,q3⟩=>?_) fun _ _ z=>z)
 subst hf
 show (jDJ ⟨[u,v],[],o⟩ t x [] s2).post PF E
 unfold jDJ
 rw [if_pos jNQ]
 exact q3
end
def TrC (c:Nat):Prop:=c=116∨c=114∨c=109
def TabC (cs:List Nat) (n:Nat):Prop:=cs.length=n∧cs.head?=some 116∧∀ c∈cs,TrC c
theorem jMK {h:AH} {x:Option Cell}:(h++[x])[h.length]?=some x:=by simp
theorem jMJ {h:AH} {x y:Option Cell}:(h++[x]).set h.length y=h++[y]:=by simp
def LockS (l:Str):Prop:=l = "none" ∨ l = "one" ∨ l = "all"
structure SpecW.Ok (p:SpecW):Prop where
 d:TabC p.d 8
 n:TabC p.n 4
 l:LockS p.l
def ltr (cs:List Nat) (i:Nat):Nat:=(cs[i]?).getD 0
theorem jUO {α:Type} {xs:List α} {i:Nat} {x:α} (e:xs[i]?=some x):atI xs (i:Int)=some x:=by
 have hl:=(List.getElem?_eq_some_iff.mp e).1
 unfold atI ixN
 rw [if_pos (by omega),if_pos (by omega)]
 exact e
end Lp
namespace Lp
open PySem PySem.Spec PyProof.Rows L2
section
variable {PF:Fl→S→Prop} {PA:List PV→S→Prop} {P:PV→S→Prop} {E:PV→S→Prop} {s:S} {x:MS} {i:Nat} {o:Bool} {m:ME}
theorem yWB {x0:List PV} (h0:s.e[i]?=some (some (.own x0))) (h:(m s).post (fun v s1=>∃ xs,s1.e[i]?=some (some (.own xs))∧(isOwn v=false∧xs.length < 16384)∧PF .nx ⟨s1.e.set i (some (.own (xs++[v]))),s1.h⟩) E):(kZ i m s).post PF E:=by
 unfold kZ
 have z:∀ (e:List (Option PV)) (xs:List PV),e[i]?=some (some (.own xs))→ownAt e i=some xs:=fun e xs q=>by unfold ownAt; rw [q]
 rw [z _ _ h0]
 refine jY (p_mono h (fun v s1 ⟨xs,e,⟨e1,e2⟩,q⟩=>?_) fun _ _ z=>z)
 rw [z _ _ e]
 have k:yDG xs v=some (xs++[v]):=by
  unfold yDG
  have e3:=(show 16384≤sizeLine by decide)
  rw [if_neg]
  rintro (w | w)
  ·rw [e1] at w; cases w
  ·omega
 simp only [k]
 exact q
end
theorem jOU {n:Nat}:∀ {ds:List PyData},(∀ d∈ds,d.depth≤n)→PyData.depthAll ds≤n
 | [],_=>by simp [PyData.depthAll]
 | d :: ds,h=>by
  have h1:=h d (by simp)
  have h2:=jOU (ds:=ds) fun e he=>h e (by simp [he])
  simp only [PyData.depthAll]
  omega
theorem jXB {ds:List PyData} {n:Nat} (h:∀ d∈ds,d.depth≤n) (hn:n≤60):dOk (.list ds)=true:=by
 have:=jOU h
 unfold dOk
 refine decide_eq_true ?_
 simp only [PyData.depth]
 omega
end Lp
set_option maxHeartbeats 4000000
namespace Lp
open PySem PySem.Spec PyProof.Rows L2
section
variable {PA:List PV→S→Prop} {E:PV→S→Prop} {s:S}
theorem jHU {α:Type} {src:S→R S Sr} {t:Tg} {tt:S→R S Bool} {te:ME} {vs:List Nat}
  (h:(src s).post (fun r s1=>r.w=[]∧∃ (rs:List α) (f g:α→PV) (c:α→Bool),r.xs=rs.map f∧(∀ a∈rs,isOwn (g a)=false∧∃ e1,uW t (f a) (jM s1.e vs)=some e1∧(tt ⟨e1,s1.h⟩).post (fun k s2=>k=c a∧(te s2).post (fun y s3=>y=g a∧jM s3.e vs=jM s1.e vs∧s3.h=s1.h) NE∧jM s2.e vs=jM s1.e vs∧s2.h=s1.h) NE)∧PA ((rs.filter c).map g) ⟨jM s1.e vs,s1.h⟩) E) :
  (wW src t tt te vs s).post PA E:=by
 refine jPS (p_mono h (fun r s1 ⟨hw,rs,f,g,c,hx,hs,hn⟩=>⟨hw,fun j acc h=>acc=((rs.take j).filter c).map g∧h=s1.h,⟨rfl,rfl⟩,fun j v acc h e ⟨i1,i2⟩=>?_,fun acc h ⟨i1,i2⟩=>?_⟩) fun _ _ z=>z)
 ·subst i2
  rw [hx,List.getElem?_map] at e
  cases ea:rs[j]? with
  | none=>rw [ea] at e; cases e
  | some a =>
   rw [ea] at e
   cases e
   obtain ⟨o,e1,eb,q⟩:=hs a (List.mem_of_getElem? ea)
   refine ⟨e1,eb,p_mono q (fun k s2 ⟨hk,q2,w,eh⟩=>?_) fun _ _ z=>z⟩
   subst hk
   have tk:=jKA ea
   cases hc:c a with
   | true =>
    refine zV rfl (p_mono q2 (fun y s3 ⟨ey,w3,e3⟩=>?_) fun _ _ z=>z)
    subst ey
    refine ⟨o,w3,?_,e3⟩
    rw [tk,List.filter_append,List.map_append,i1]
    simp [hc]
   | false =>
    refine zA rfl ⟨w,?_,eh⟩
    rw [tk,List.filter_append,List.map_append,i1]
    simp [hc]
 ·rw [i1,i2,hx,List.length_map,List.take_length]; exact hn
end
end Lp
set_option maxHeartbeats 4000000
namespace Lp
open PySem PySem.Spec PyProof.Rows L2 LamX NdefX PySem.W
abbrev lfn (q:Str) (params:Arguments) (body:Expr) (scope:Scope) (cl:List (Str × Addr)) (dV pm cdv ct:Value):FuncData:={ PySem.W.kla_fn "<lambda>" q params body scope cl pm cdv ct with defaults:=dV }
abbrev lob (q:Str) (params:Arguments) (body:Expr) (scope:Scope) (cl:List (Str × Addr)) (dV pm:Value) (c':Addr) (ct:Value):Obj:={ cls:=.type "function", data:=.func (lfn q params body scope cl dV pm (.ref c') ct) }
abbrev FrzF (o:Obj):HO:=.frz o (.ext fun _=>True)
end Lp
set_option maxHeartbeats 4000000
namespace Lp
open PySem PySem.Spec PyProof.Rows L2 LamX NdefX PySem.W
structure LamD where
 params:Arguments
 body:Expr
 scope:Scope
 df:Option (Str × Int)
abbrev yQK (X:Cx):Str:=X.env.qual ++ "<lambda>"
abbrev yPW (X:Cx) (d:LamD) (dV pm:Value) (c1:Addr) (ctv:Value):Obj:=lob (yQK X) d.params d.body d.scope (cloFrom X.env.cells d.scope.names []) dV pm c1 ctv
def DfH (H:Hp) (df:Option (Str × Int)) (dV:Value):Prop:=match df with
 | none=>dV=.none
 | some (_,i)=>∃ T,dV=.ref T∧H T=some (.tup [.int i])
def FnAt (X:Cx) (W:Wd) (d:LamD) (f:Addr):Prop:=∃ (c1:Addr) (pm ctv dV:Value),W.F f=some (FrzF (yPW X d dV pm c1 ctv))∧W.F c1=some (CodeO c1 (yQK X))∧DfH W.F d.df dV
theorem DfH.mono {H H':Hp} {df:Option (Str × Int)} {dV:Value} (k:∀ a o,H a=some o→H' a=some o) (h:DfH H df dV):DfH H' df dV:=by
 unfold DfH at h ⊢
 split at h
 ·exact h
 ·obtain ⟨T,e1,e2⟩:=h
  exact ⟨T,e1,k _ _ e2⟩
theorem FnAt.mono {X:Cx} {W W':Wd} {d:LamD} {f:Addr} (l:W.Le W') (h:FnAt X W d f):FnAt X W' d f :=
 let ⟨c1,pm,ctv,dV,e1,e2,e3⟩:=h
 ⟨c1,pm,ctv,dV,l.F _ _ e1,l.F _ _ e2,e3.mono l.F⟩
structure LamK (X:Cx) (d:LamD):Prop where
 kind:d.scope.kind=.function
 co:d.scope.isCoroutine=false
 gen:d.scope.isGenerator=false
 own:∀ y∈d.scope.names,y.2≠.cell∧(y.2=.local→y.1∉X.N)
 free:∀ y∈d.scope.names,y.2=.free→X.env.scope.names.lookup y.1=some .cell∨X.env.scope.names.lookup y.1=some .free
 df:match d.df with
  | none=>defaultsOf d.params X.env=([],[])∧∀ (q:Str) (cl:List (Str × Addr)) (pm cdv ct:Value),bindArgs (lfn q d.params d.body d.scope cl .none pm cdv ct) ⟨[],[]⟩=pure []
  | some (a,i)=>(∃ j p,defaultsOf d.params X.env=([eval (.Constant (.int i) j p) X.env],[]))∧d.scope.names.lookup a=some .local ∧
   ∀ (T:Addr) (q:Str) (cl:List (Str × Addr)) (pm cdv ct:Value),∃ k,bindArgs (lfn q d.params d.body d.scope cl (.ref T) pm cdv ct) ⟨[],[]⟩=seqItems? (.ref T) >>= k∧∀ u,k (some #[u])=pure [(a,u)]
theorem LamK.has {X:Cx} {d:LamD} (L:LamK X d) (ok:X.Ok):∀ y∈d.scope.names,y.2=.free→∃ c,X.env.cells.lookup y.1=some c:=fun y hy e=>by
 rcases L.free y hy e with k | k
 ·exact ok.has _ (.inl k)
 ·exact ok.has _ (.inr k)
end Lp
set_option maxHeartbeats 4000000
namespace Lp
open PySem PySem.Spec PyProof.Rows L2 LamX NdefX PySem.W
def FnH (X:Cx) (H:Hp) (d:LamD) (f c1:Addr):Prop:=∃ (pm ctv dV:Value),H f=some (FrzF (yPW X d dV pm c1 ctv))∧H c1=some (CodeO c1 (yQK X))∧DfH H d.df dV
end Lp
set_option maxHeartbeats 4000000
namespace Lp
open PySem PySem.Spec PyProof.Rows L2 LamX NdefX
abbrev LamB (X:Cx) (B:Bs) (j:Nat) (d:LamD) (ml:ME):Prop:=∀ (N:Ent) (A:Around) (outer:List Env) (s:Shared) (H:Hp) (E:XK) (f c':Addr),Room j (A.deeper (lamEnv X d.scope s.heap.objs.size f c'))→Takes (lamCx X A outer s H E d.scope f c') (fun c d _ H=>E c d H) →
 SimE (lamCx X A outer s H E d.scope f c') B N (fun c d _ H=>E c d H) d.body ml
inductive Lams (X:Cx) (B:Bs) (j:Nat):List Expr→List LamD→List ME→Prop where
 | nil:Lams X B j [] [] []
 | cons {params:Arguments} {body:Expr} {scope:Scope} {df:Option (Str × Int)} {ml:ME} {es:List Expr} {ds:List LamD} {ms:List ME} {pos:Pos} (L:LamK X ⟨params,body,scope,df⟩) (hb:LamB X B j ⟨params,body,scope,df⟩ ml) (t:Lams X B j es ds ms) :
  Lams X B j (.Lambda params body scope pos :: es) (⟨params,body,scope,df⟩ :: ds) (ml :: ms)
structure LamsT (X:Cx) (B:Bs) (N:Ent) (j:Nat) (tb:Nat→Option ME):Prop where
 at_:∀ n ml,tb n=some ml→∃ d f,FnAt X N.P d f∧N.P.m[n]?=some f∧LamK X d∧LamB X B j d ml
theorem Lams.at {X:Cx} {B:Bs} {j:Nat}:∀ {es:List Expr} {ds:List LamD} {ms:List ME},Lams X B j es ds ms→∀ (i:Nat) (ml:ME),ms[i]?=some ml→∃ d,ds[i]?=some d∧LamK X d∧LamB X B j d ml
 | _,_,_,.nil,i,ml,e=>by simp at e
 | _,_,_,.cons L hb t,0,ml,e=>by
  simp only [List.getElem?_cons_zero] at e
  cases e
  exact ⟨_,rfl,L,hb⟩
 | _,_,_,.cons L hb t,i+1,ml,e=>by
  simp only [List.getElem?_cons_succ] at e ⊢
  exact t.at i ml e
theorem Lams.len {X:Cx} {B:Bs} {j:Nat}:∀ {es:List Expr} {ds:List LamD} {ms:List ME},Lams X B j es ds ms→ds.length=ms.length
 | _,_,_,.nil=>rfl
 | _,_,_,.cons _ _ t=>congrArg Nat.succ t.len
end Lp
set_option maxHeartbeats 4000000
namespace Lp
open PySem PySem.Spec PyProof.Rows L2
def dd {α:Type} [DecidableEq α]:List α→List α
 | []=>[]
 | x :: xs=>if x∈xs then dd xs else x :: dd xs
end Lp
set_option maxHeartbeats 4000000
namespace Lp
open PySem PySem.Spec PyProof.Rows L2
def jHD (c:S→R S Bool) (body:MS):Nat→MS
 | 0,_=>.bad
 | n+1,s=>(c s).bind fun k s1=>if k=true then (body s1).bind fun f s2=>match f with
   | .nx=>jHD c body n s2
   | .ct=>jHD c body n s2
   | .bk=>.ok .nx s2
   | .rt v=>.ok (.rt v) s2
  else .ok .nx s1
section
variable {X:Cx} {B:Bs} {N:Ent} {WX:L2.WX} {c:Expr} {body:List Stmt} {mc:S→R S Bool} {mb:MS} {pos:Pos}
theorem jYY (n:Nat) (hp:PassesOwn (model X.prog X.w) X.A X.env X.xe) (hc:SimT X B N WX c mc) (hb:SimSs X B N WX body mb):SimS X B N WX (.While c body [] pos) (jHD mc mb n) :=
 (ps_while hp hc hb).imp fun D σ H ⟨W,s,r,h⟩=>by
  refine ⟨fun m σ H=>∃ W' s',Rel B N W' s' σ H∧PostS B N WX D (jHD mc mb m s'),⟨n,W,s,r,h⟩,?_⟩
  rintro m σ1 H1 ⟨W1,s1,r1,q⟩
  cases m with
  | zero=>exact q.elim
  | succ m =>
   refine ⟨W1,s1,r1,?_⟩
   unfold jHD at q
   refine q.bindE.mono fun k W2 s2 H2 r2 _ q2=>?_
   cases k with
   | true =>
    rw [if_pos rfl] at q2 ⊢
    refine ⟨fun σ' H'=>∃ W' s',Rel B N W' s' σ' H'∧PostS B N WX D (jHD mc mb m s'),fun σ' H' z=>⟨m,Nat.lt_succ_self m,z⟩,W2,s2,r2,R.post_mono (R.post_bind q2) (fun f s3 q3=>?_) fun x s3 q3=>q3⟩
    cases f with
    | nx=>exact fun W' σ' H' r'=>⟨W',s3,r',q3⟩
    | ct=>exact fun W' σ' H' r'=>⟨W',s3,r',q3⟩
    | bk=>exact q3
    | rt v=>exact q3
   | false =>
    rw [if_neg Bool.false_ne_true] at q2 ⊢
    exact q2 W2 σ1 H2 r2
end
structure TupG (K:PySem.W.Frag) (T:Addr) (vs:List V):Prop where
 ex:∃ (o:Obj) (its:Array Value) (n:Nat),K.lookup T=some o∧o.cls=.type "tuple" ∧ o.data=.seq its n∧its.size≤sizeLine∧Vals vs its.toList
theorem jWH {K:PySem.W.Frag} {T:Addr} {vs:List He.Dv} (h:jSP K T vs=true):TupG K T (vs.map (He.Dv.v K)):=by
 unfold jSP at h
 split at h
 ·rename_i c od its n sl q
  obtain ⟨h1,h2⟩:=Bool.and_eq_true_iff.mp h
  obtain ⟨h2,h3⟩:=Bool.and_eq_true_iff.mp h2
  exact ⟨_,its,n,q,by rw [of_decide_eq_true h1],rfl,of_decide_eq_true h2,He.relAll_ok h3⟩
 ·cases h
theorem jDU {X:Cx} {B:Bs} {N:Ent} {WX:L2.WX} {x:Str} {T:Addr} {xs:List PV} {vs:List V} {pos:Pos} (hK:X.K=B.K) (c:TupG X.K T vs) (hg:Gl X x) (hm:X.mg x=some (.ref T)) (hr:∀ W,Reps B W xs vs) (hdb:(x == ("__debug__" : Str))=false):SimE X B N WX (.Name x pos) (eC (.tup xs)):=by
 obtain ⟨o,its,n,h3,h4,h5,h6,h7⟩:=c.ex
 exact jOK (v:=.ref T) (pe_glob (v:=.ref T) hg hm rfl hdb) fun W=>.tup (.inr ⟨o,its,n,hK ▸ h3,h4,h5,h6,h7⟩) (hr W)
end Lp
set_option maxHeartbeats 4000000
namespace Lp
open PySem PySem.Spec PyProof.Rows L2 LamX NdefX
structure DicI (K:PySem.W.Frag) (w:World) (mg:Str→Option Value) (x:Str) (kv:List (Str × Int)):Prop where
 ex:∃ d es n,mg x=some (.ref d)∧KDict K w d es n∧∀ q∈kv,∃ u,PySem.W.nsIn K d q.1=some (some u)∧RelV (.int q.2) u
theorem yOY {K:PySem.W.Frag} {w:World} {mg:Str→Option Value} {x:Str} {kv:List (Str × Int)} {a:Addr} (hm:mg x=some (.ref a)) (h:He.dicW K a=some (He.keysIn w.params (kv.map (·.1)))) (b:yDY K a kv=true):DicI K w mg x kv:=by
 obtain ⟨es,n,D⟩:=He.dicW_ok h
 refine ⟨a,es,n,hm,D,fun q hq=>?_⟩
 obtain ⟨u,e,r⟩:=He.valsB_ok b (q:=(q.1,He.Dv.int q.2)) (List.mem_map.mpr ⟨q,hq,rfl⟩)
 exact ⟨u,e,r⟩
def yQM (kv:List (Str × Int)) (mx:ME):ME:=fun s=>(mx s).bind fun v s1=>match v with
 | .str z=>(match kv.lookup z with
  | some y=>.ok (.int y) s1
  | none=>.bad)
 | _=>.bad
theorem jOQ {z:Str} {y:Int}:∀ {l:List (Str × Int)},l.lookup z=some y→(z,y)∈l
 | [],e=>by cases e
 | (a1,a2) :: l,e=>by
  rw [List.lookup_cons] at e
  split at e
  ·rename_i z2
   cases e
   rw [beq_iff_eq.mp z2]
   exact List.mem_cons_self
  ·exact List.mem_cons_of_mem _ (jOQ e)
theorem yAM {X:Cx} {B:Bs} {N:Ent} {WX:L2.WX} {e:Expr} {mx:ME} {x:Str} {kv:List (Str × Int)} {p pos:Pos} (D:DicI X.K X.w X.mg x kv) (hg:Gl X x) (he:SimE X B N WX e mx) (hdb:(x == ("__debug__" : Str))=false) (hs:PlainIx e):SimE X B N WX (.Subscript (.Name x p) e pos) (yQM kv mx):=by
 obtain ⟨d,es,n,hmg,KD,h1⟩:=D.ex
 refine (pe_ix (yPY KD) (pe_glob (v:=.ref d) hg hmg rfl hdb) he hs).imp fun σ H Q ⟨W,s,r,h⟩=>⟨W,s,r,(h.bind r.slen).mono fun v W1 s1 H1 r1 _ q v' rv=>?_⟩
 split at q
 ·rename_i z
  cases (show Rep B W1 (.str z) v' from rv)
  split at q
  ·rename_i y ey
   obtain ⟨u,e1,e2⟩:=h1 _ (jOQ ey)
   exact ⟨z,u,.int y,rfl,rfl,e1,e2,q.ok r1 _ (Rep.int (B:=B) (W:=W1) y).hand⟩
  ·exact q.elim
 ·exact q.elim
end Lp
set_option maxHeartbeats 4000000
namespace Lp
open PySem PySem.Spec PyProof.Rows L2 LamX NdefX
def jST (i j:Nat) (mn:S→R S (List PV)) (mb:ME):MS:=fun s=>(mn s).bind fun xs s1=>(mb s1).bind fun v s2=>if isOwn v=true then .bad else .ok .nx ⟨(s2.e.set i (some (.own xs))).set j (some v),s2.h⟩
section
variable {X:Cx} {B:Bs} {N:Ent} {WX:L2.WX} {pos:Pos}
theorem jSZ {i j:Nat} {x y:Str} {a b:Expr} {mb:ME} {mn:S→R S (List PV)} {px py pt:Pos} {kt k2 pt2} (hc:X.calm=true) (hN:X.N.Nodup) (hi:X.N[i]?=some x) (hj:X.N[j]?=some y) (hij:i≠j)
  (hx:X.env.scope.names.lookup x=some .local) (hy:X.env.scope.names.lookup y=some .local) (ha:SimN X B N WX a mn) (hb:SimE X B N WX b mb) (hs1:starEach [a,b] X.env=(false,eval a X.env) :: starEach [b] X.env) (hs2:starEach [b] X.env=(false,eval b X.env) :: starEach [] X.env)
  (hw:swappedStores [.Tuple [.Name x px,.Name y py] kt pt] (.Tuple [a,b] k2 pt2) X.env=pure (some [x,y]))
  (hs:swapsWithSole [.Tuple [.Name x px,.Name y py] kt pt] (.Tuple [a,b] k2 pt2) pos.line X.env=pure false) :
  SimS X B N WX (.Assign [.Tuple [.Name x px,.Name y py] kt pt] (.Tuple [a,b] k2 pt2) pos) (jST i j mn mb) :=
 (ps_par hc hN hi hj hij hx hy (pa_cons ha (pa_cons hb pa_nil hs2) hs1) hw hs).imp fun D σ H ⟨W,s,r,h⟩=>⟨W,s,r,h.bindE.mono fun xs W1 s1 H1 r1 _ q p vs hp l hH rxs=>⟨W1,s1,r1,q.bindE.mono fun v W2 s2 H2 r2 st2 q2 v' rv=>by
  split at q2
  ·exact q2.elim
  ·rename_i o
   have o:isOwn v=false:=by simpa using o
   have l2:=l.on r1.slen st2 (.lst hH)
   have hH2:=l.held st2 hH jBG
   refine ⟨.ref p,v',rfl,q2 W2 _ H2 ?_⟩
   suffices r3:Rel B N W2 ⟨s2.e.set i (some (.own xs)),s2.h⟩ (σ.set i (some (.ref p))) H2 from jME r3 (rv.rep o)
   refine jPQ r2 (by simp) (fun k hk=>by rw [List.getElem?_set_ne (Ne.symm hk)]) ?_ ⟨l2.F,l2.m,fun k z _ e ow=>l2.o k z e ow,l2.e⟩ hH2 (rxs.mono st2.st.le)
   by_cases hb:i < s2.e.length
   ·exact .inl (List.getElem?_set_self (by rw [r2.len]; exact hb))
   ·exact .inr (by omega)⟩⟩
end
def ifT (c a b:S→R S Bool):S→R S Bool:=fun s=>(c s).bind fun k s1=>if k=true then a s1 else b s1
theorem yVR {X:Cx} {c a b:Expr} {tc ta tb:TT} {pos:Pos} (hc:PT X c tc) (ha:PT X a ta) (hb:PT X b tb):PT X (.IfExp c a b pos) (fun σ H Q=>tc σ H fun k H1=>if k=true then ta σ H1 Q else tb σ H1 Q):=by
 refine ⟨fun pins s σ H Q I h=>?_⟩
 show wpAny _ _ (do if ← isTrue c X.env (eval c X.env) then isTrue a X.env (eval a X.env) else isTrue b X.env (eval b X.env)) _ _ s
 refine wpAny_bind (thn (hc.run pins s σ H _ I h) fun k s1 ⟨H1,I1,q⟩=>?_)
 cases k with
 | true =>
  rw [if_pos rfl] at q ⊢
  exact ha.run pins s1 σ H1 Q I1 q
 | false =>
  rw [if_neg Bool.false_ne_true] at q ⊢
  exact hb.run pins s1 σ H1 Q I1 q
theorem jRD {X:Cx} {B:Bs} {N:Ent} {WX:L2.WX} {c a b:Expr} {tc ta tb:S→R S Bool} {pos:Pos} (hc:SimT X B N WX c tc) (ha:SimT X B N WX a ta) (hb:SimT X B N WX b tb):SimT X B N WX (.IfExp c a b pos) (ifT tc ta tb) :=
 (yVR hc ha hb).imp fun σ H Q ⟨W,s,r,h⟩=>⟨W,s,r,(h.bind r.slen).mono fun k W1 s1 H1 r1 _ q=>by
  cases k with
  | true =>
   rw [if_pos rfl] at q ⊢
   exact ⟨W1,s1,r1,q⟩
  | false =>
   rw [if_neg Bool.false_ne_true] at q ⊢
   exact ⟨W1,s1,r1,q⟩⟩
end Lp
set_option maxHeartbeats 4000000
set_option maxHeartbeats 4000000
namespace Lp
open PySem PySem.Spec PyProof.Rows L2
abbrev dK (k:List Int):PyData:=.tuple (k.map .int)
end Lp
set_option maxHeartbeats 4000000
namespace Lp
open PySem PySem.Spec PyProof.Rows L2
section
variable {X:Cx} {B:Bs} {W:Wd} {h:AH} {H:Hp} {pins:List (Addr × Obj)} {σ:L2.St} {s:Shared}
mutual
theorem jKD (hK:X.K=B.K) (hr:HRel B W h H) (I:Inv X pins σ H s):∀ {x:PV} {v:V} {κ:NestedKey} {u:Value},Rep B W x v→nk x=some κ→RelV v u→NestedIs s.heap κ u
 | _,_,_,_,.non,e,r=>by cases e; cases r; exact .none
 | _,_,_,_,.bl b,e,r=>by cases e; cases r; exact .bool rfl
 | _,_,_,_,.int i,e,r=>by cases e; obtain ⟨t,rfl⟩:=r; exact .int _ _
 | _,_,_,_,.str x h,e,r=>by cases e; obtain ⟨t,rfl⟩:=r; exact .text _ _
 | _,_,_,_,.ty n,e,r=>by cases e
 | _,_,_,_,.cls n,e,r=>by cases e
 | _,_,_,_,.cel h,e,r=>by cases e
 | _,_,_,_,.tup (xs:=xs) (a:=a) (vs:=vs) hT rs,e,r=>by
  have e':(nks xs).map NestedKey.tup=some _:=e
  cases q:nks xs with
  | none=>rw [q] at e'; cases e'
  | some ks =>
   rw [q] at e'
   cases e'
   cases r
   have sq:SqT X.K H a vs:=by
    rcases hT with h | ⟨o,its,n,h1,h2,h3,h4,h5⟩
    ·exact .inl (.inl (hr.agree _ _ h))
    ·exact .inr ⟨o,its,n,hK ▸ h1,h2,h3,h4,h5⟩
   obtain ⟨its,rv,⟨o,h1,h2,n,h3⟩,_⟩:=I.tuple sq
   exact .tup h1 h2 h3 (nesteds_of hK hr I rs q rv)
 | _,_,_,_,.lst _ _,e,r=>by cases e
 | _,_,_,_,.scr _ _,e,r=>by cases e
 | _,_,_,_,.ins _ _ _,e,r=>by cases e
 | _,_,_,_,.exn _ _ _ _,e,r=>by cases e
theorem nesteds_of (hK:X.K=B.K) (hr:HRel B W h H) (I:Inv X pins σ H s):∀ {xs:List PV} {vs:List V} {ks:List NestedKey} {us:List Value},Reps B W xs vs→nks xs=some ks→Vals vs us→NestedAll s.heap ks us
 | _,_,_,_,.nil,e,r=>by cases e; cases r; exact .nil
 | _,_,ks,_,.cons (x:=x) (xs:=xs) hx ht,e,r=>by
  have e':(match nk x,nks xs with
   | some k,some ks=>some (k :: ks)
   | _,_=>none)=some ks:=e
  cases q1:nk x with
  | none=>rw [q1] at e'; cases e'
  | some k =>
   cases q2:nks xs with
   | none=>rw [q1,q2] at e'; cases e'
   | some ks2 =>
    rw [q1,q2] at e'
    cases e'
    cases r with
    | cons r1 r2=>exact .cons (jKD hK hr I hx q1 r1) (nesteds_of hK hr I ht q2 r2)
end
end
def jIV (o:Option NestedKey) (κ:NestedKey):Bool:=match o with
 | some a=>a.beq κ
 | none=>false
def jHN:List (PV × PV)→NestedKey→Option PV
 | [],_=>none
 | kv :: r,κ=>if jIV (nk kv.1) κ=true then some kv.2 else jHN r κ
def jXX (ks:List (PV × PV)) (κ:NestedKey) (v:PV):List (PV × PV):=ks.map fun kv=>if jIV (nk kv.1) κ=true then (kv.1,v) else kv
def jTQ (ks:List (PV × PV)) (k:PV) (κ:NestedKey) (v:PV):List (PV × PV):=if (jHN ks κ).isSome=true then jXX ks κ v else ks++[(k,v)]
def tupK:PV→Option NestedKey
 | .tup xs=>match nks xs with
  | some ks=>if Nat.ble (NestedKey.depth (.tup ks)) 8=true then some (.tup ks) else none
  | none=>none
 | _=>none
theorem jUQ {x:PV} {κ:NestedKey} (e:tupK x=some κ):nk x=some κ∧κ.depth≤8∧∃ xs,x=.tup xs:=by
 unfold tupK at e
 split at e
 ·rename_i xs
  split at e
  ·rename_i ks q
   split at e
   ·rename_i c
    cases e
    exact ⟨by show (nks xs).map NestedKey.tup=_; rw [q]; rfl,Nat.le_of_ble_eq_true c,xs,rfl⟩
   ·cases e
  ·cases e
 ·cases e
theorem jWG {B:Bs} {W:Wd} {H:Hp} {x:PV} {κ:NestedKey} {v:V} (e:tupK x=some κ) (r:RepT B W H x v):∃ b,v=.ref b∧Rep B W x (.ref b):=by
 obtain ⟨_,_,xs,rfl⟩:=jUQ e
 cases (show Rep B W (.tup xs) v from r) with
 | tup h rs=>exact ⟨_,rfl,.tup h rs⟩
section
variable {B:Bs} {W:Wd} {ks:List (PV × PV)} {L:List (NestedKey × Addr × Value)} {κ:NestedKey}
theorem jTG {a κ:NestedKey}:jIV (some a) κ=decide (a=κ):=(NestedKey.decide_eq a κ).symm
theorem DRel.get (r:DRel B W ks L) (κ:NestedKey):(∃ v p y,jHN ks κ=some v∧atKey L κ=some p∧Rep B W v y∧RelV y p.2)∨(jHN ks κ=none∧atKey L κ=none):=by
 induction r with
 | nil=>exact .inr ⟨rfl,rfl⟩
 | @cons k v κ0 b u y ks L h1 h2 h3 h4 h5 t ih =>
  unfold jHN
  rw [h1,jTG]
  by_cases e:κ0=κ
  ·rw [if_pos (decide_eq_true e)]
   exact .inl ⟨v,(b,u),y,rfl,by simp [atKey,List.find?_cons,e],h4,h5⟩
  ·rw [if_neg (by simpa using e)]
   have:atKey ((κ0,b,u) :: L) κ=atKey L κ:=by simp [atKey,List.find?_cons,e]
   rw [this]; exact ih
theorem DRel.set (r:DRel B W ks L) {v:PV} {y:V} {u:Value} (rv:Rep B W v y) (ry:RelV y u):DRel B W (jXX ks κ v) (L.map (putAt κ u)):=by
 induction r with
 | nil=>exact .nil
 | @cons k v0 κ0 b u0 y0 ks L h1 h2 h3 h4 h5 t ih =>
  show DRel B W ((if jIV (nk k) κ=true then (k,v) else (k,v0)) :: jXX ks κ v) (putAt κ u (κ0,b,u0) :: L.map (putAt κ u))
  rw [h1,jTG]
  unfold putAt
  by_cases e:κ0=κ
  ·rw [if_pos (decide_eq_true e),if_pos e]; exact .cons h1 h2 h3 rv ry ih
  ·rw [if_neg (by simpa using e),if_neg e]; exact .cons h1 h2 h3 h4 h5 ih
theorem DRel.snoc (r:DRel B W ks L) {k v:PV} {b:Addr} {y:V} {u:Value} (h1:nk k=some κ) (h2:κ.depth≤8) (h3:Rep B W k (.ref b)) (h4:Rep B W v y) (h5:RelV y u):DRel B W (ks++[(k,v)]) (L++[(κ,b,u)]):=by
 induction r with
 | nil=>exact .cons h1 h2 h3 h4 h5 .nil
 | cons g1 g2 g3 g4 g5 t ih=>exact .cons g1 g2 g3 g4 g5 ih
theorem DRel.put (r:DRel B W ks L) {k v:PV} {b:Addr} {y:V} {u:Value} (h1:nk k=some κ) (h2:κ.depth≤8) (h3:Rep B W k (.ref b)) (h4:Rep B W v y) (h5:RelV y u):DRel B W (jTQ ks k κ v) (storedH L κ b u):=by
 unfold jTQ storedH
 rcases r.get κ with ⟨v0,p,y0,e1,e2,_⟩ | ⟨e1,e2⟩
 ·rw [e1,e2]; exact r.set h4 h5
 ·rw [e1,e2]; exact r.snoc h1 h2 h3 h4 h5
theorem DRel.length (r:DRel B W ks L):ks.length=L.length:=by
 induction r with
 | nil=>rfl
 | cons _ _ _ _ _ _ ih=>exact congrArg Nat.succ ih
def yIA:PV→Option L2.Key
 | .int i=>some (.inl i)
 | .str x=>some (.inr x)
 | _=>none
def kEq:L2.Key→L2.Key→Bool
 | .inl i,.inl j=>decide (i=j)
 | .inr x,.inr y=>decide (x=y)
 | _,_=>false
theorem yXF:∀ a b:L2.Key,kEq a b=decide (a=b)
 | .inl i,.inl j=>by unfold kEq; by_cases e:i=j <;> simp [e]
 | .inr x,.inr y=>by unfold kEq; by_cases e:x=y <;> simp [e]
 | .inl _,.inr _=>by simp [kEq]
 | .inr _,.inl _=>by simp [kEq]
def yBO:List (L2.Key × PV)→L2.Key→Option PV
 | [],_=>none
 | kv :: r,k=>if kEq kv.1 k=true then some kv.2 else yBO r k
theorem jPW {k:L2.Key}:∀ {ks:List (L2.Key × PV)} {kvs:List (L2.Key × V)},ks.map (·.1)=kvs.map (·.1)→Reps B W (ks.map (·.2)) (kvs.map (·.2))→(∃ v y,yBO ks k=some v∧valV kvs k=some y∧Rep B W v y)∨(yBO ks k=none∧valV kvs k=none)
 | [],[],_,_=>.inr ⟨rfl,rfl⟩
 | [],_ :: _,e,_=>by simp at e
 | _ :: _,[],e,_=>by simp at e
 | (k1,v1) :: ks,(k2,v2) :: kvs,e,r=>by
  rw [List.map_cons,List.map_cons] at e
  injection e with e1 e2
  have e1:k1=k2:=e1
  subst e1
  cases r with
  | cons r1 r2 =>
   unfold yBO
   rw [yXF]
   by_cases q:k1=k
   ·rw [if_pos (decide_eq_true q)]
    exact .inl ⟨v1,v2,rfl,valV_pos (p:=(k1,v2)) q,r1⟩
   ·rw [if_neg (by simpa using q),valV_neg (p:=(k1,v2)) q]
    exact jPW e2 r2
end
section
variable {X:Cx} {B:Bs} {W:Wd} {h:AH} {H:Hp} {pins:List (Addr × Obj)} {σ:L2.St} {s:Shared} {a:Addr} {ks:List (PV × PV)} {L:List (NestedKey × Addr × Value)}
theorem DRel.his (hK:X.K=B.K) (hr:HRel B W h H) (I:Inv X pins σ H s) (r:DRel B W ks L):∀ x∈L,(nestedKind X.prog X.w).is s.heap x.1 x.2.1:=by
 induction r with
 | nil=>exact fun _ h=>nomatch h
 | cons h1 h2 h3 h4 h5 _ ih =>
  intro x hx
  rcases List.mem_cons.mp hx with rfl | hx
  ·exact ⟨jKD hK hr I h3 h1 rfl,h2⟩
  ·exact ih x hx
theorem yEZ (hK:X.K=B.K) (hw:X.w=B.w) (hr:HRel B W h H) (I:Inv X pins σ H s) (h1:H a=some (DicO B.w a L)) (r:DRel B W ks L):(a == sysModules)=false∧s.heap.DictOfH (nestedKind X.prog X.w) a L:=by
 obtain ⟨⟨hs,o,es,ep,k1,k2,k3,k4,k5⟩,_⟩:=(show ObjOk X.prog X.w H s.heap a (DicO B.w a L) from I.hok a _ h1)
 refine ⟨hs,o,es,ep,k1,k2,k3,?_,r.his hK hr I,k5⟩
 rw [← hw] at k4
 exact k4
theorem yBF {P:Program} {w w':World} {H':Hp} {h':Heap} (hw:w=w') (hs:(a == sysModules)=false) (d:h'.DictOfH (nestedKind P w) a L):ObjOk P w H' h' a (DicO w' a L):=by
 subst hw
 obtain ⟨o,es,ep,k1,k2,k3,k4,_,k5⟩:=d
 exact ⟨⟨hs,o,es,ep,k1,k2,k3,k4,k5⟩,⟨o,k1⟩,fun h1 h2 ⟨hs,o,es,ep,k1,k2,k3,k4,k5⟩ hk=>⟨hs,o,es,ep,hk o k1,k2,k3,k4,k5⟩⟩
theorem yDB (L:List (NestedKey × Addr × Value)) (κ:NestedKey) (b:Addr) (u:Value):(storedH L κ b u).length≤L.length+1:=by
 unfold storedH
 split
 ·rw [List.length_map]; omega
 ·simp
end
def yAE (h:AH):PV→Option (List (PV × PV))
 | .cel n=>match h[n]? with
  | some (some (.dic ks))=>some ks
  | _=>none
 | _=>none
def cellK (h:AH):PV→Option (List (L2.Key × PV))
 | .cel n=>match h[n]? with
  | some (some (.dik ks))=>some ks
  | _=>none
 | _=>none
theorem yHS {h:AH} {d:PV} {ks:List (PV × PV)} (e:yAE h d=some ks):∃ n,d=.cel n∧h[n]?=some (some (.dic ks)):=by
 unfold yAE at e
 split at e
 ·split at e
  ·rename_i q; cases e; exact ⟨_,rfl,q⟩
  ·cases e
 ·cases e
theorem yHR {h:AH} {d:PV} {ks:List (L2.Key × PV)} (e:cellK h d=some ks):∃ n,d=.cel n∧h[n]?=some (some (.dik ks)):=by
 unfold cellK at e
 split at e
 ·split at e
  ·rename_i q; cases e; exact ⟨_,rfl,q⟩
  ·cases e
 ·cases e
def atD (h:AH) (d k:PV):Option (Option PV):=match yAE h d with
 | some ks=>(tupK k).map fun κ=>jHN ks κ
 | none=>match cellK h d with
  | some ks=>(yIA k).map fun κ=>yBO ks κ
  | none=>none
inductive DAt (X:Cx) (B:Bs) (W:Wd) (H:Hp) (s:Shared) (a:Addr) (y:V) (u:Value):Option PV→Prop where
 | dic {L:List (NestedKey × Addr × Value)} {ks:List (PV × PV)} {κ:NestedKey} {b:Addr} {o:Option PV} (h1:H a=some (DicO B.w a L)) (h2:L.length≤sizeLine) (h3:DRel B W ks L) (h4:(a == sysModules)=false) (h5:s.heap.DictOfH (nestedKind X.prog X.w) a L) (h6:y=.ref b) (h7:u=.ref b)
  (h8:(nestedKind X.prog X.w).is s.heap κ b) (h9:o=jHN ks κ):DAt X B W H s a y u o
 | dik {kvs:List (L2.Key × V)} {ks:List (L2.Key × PV)} {κ:L2.Key} {o:Option PV} (h1:H a=some (.dK kvs)) (h2:ks.map (·.1)=kvs.map (·.1)) (h3:Reps B W (ks.map (·.2)) (kvs.map (·.2))) (h4:y=kV κ) (h5:o=yBO ks κ):DAt X B W H s a y u o
section
variable {X:Cx} {B:Bs} {W:Wd} {h:AH} {H:Hp} {pins:List (Addr × Obj)} {σ:L2.St} {s:Shared} {a:Addr}
theorem yGZ {k:PV} {κ:L2.Key} {y:V} (e:yIA k=some κ) (r:RepT B W H k y):y=kV κ:=by
 unfold yIA at e
 split at e
 ·cases e; exact jAJ r
 ·cases e; exact (jDT r).1
 ·cases e
theorem yFE (hK:X.K=B.K) (hw:X.w=B.w) (hr:HRel B W h H) (I:Inv X pins σ H s) {d k:PV} {x y:V} {iv:Value} {o:Option PV} (rd:RepT B W H d x) (rk:RepT B W H k y) (ry:RelV y iv) (e:atD h d k=some o):∃ a,x=.ref a∧DAt X B W H s a y iv o:=by
 unfold atD at e
 split at e
 ·rename_i ks ed
  obtain ⟨n,rfl,en⟩:=yHS ed
  obtain ⟨a,rfl,em⟩:=jMD rd
  obtain ⟨_,L,h1,h2,h3⟩:=hr.cell n _ a en em
  cases q:tupK k with
  | none=>rw [q] at e; cases e
  | some κ =>
   rw [q] at e
   cases e
   obtain ⟨b,rfl,rb⟩:=jWG q rk
   cases ry
   obtain ⟨g1,g2⟩:=yEZ hK hw hr I h1 h3
   obtain ⟨k1,k2,_⟩:=jUQ q
   exact ⟨a,rfl,.dic h1 h2 h3 g1 g2 rfl rfl ⟨jKD hK hr I rb k1 rfl,k2⟩ rfl⟩
 ·split at e
  ·rename_i ks ed
   obtain ⟨n,rfl,en⟩:=yHR ed
   obtain ⟨a,rfl,em⟩:=jMD rd
   obtain ⟨_,kvs,h1,h2,h3⟩:=hr.cell n _ a en em
   cases q:yIA k with
   | none=>rw [q] at e; cases e
   | some κ =>
    rw [q] at e
    cases e
    exact ⟨a,rfl,.dik h1 h2.1 h3 (yGZ q rk) rfl⟩
  ·cases e
variable {y:V} {u:Value} {o:Option PV} {A:Around} {E:Value→Shared→Prop}
theorem DAt.item {Q:Value→Shared→Prop} {z:PV} (hu:A.units+9 < cLine) (g:DAt X B W H s a y u o) (I:Inv X pins σ H s) (ry:RelV y u) (eo:o=some z) (h:∀ (z':V) (r:Value) s',Inv X pins σ H s'→RelV z' r→Rep B W z z'→Q r s'):wpAny (model X.prog X.w) A (getItem (.ref a) u) Q E s:=by
 cases g with
 | dic h1 h2 h3 h4 h5 h6 h7 h8 h9 =>
  subst h6 h7 h9
  rcases h3.get _ with ⟨v,p,y0,e1,e2,r1,r2⟩ | ⟨e1,_⟩
  ·rw [e1] at eo
   cases eo
   exact wpAny_getItem_heap (show A.in1.units+8 < cLine from by show A.units+1+8 < cLine; omega) h8 h5 e2 (h y0 _ _ (I.tok _) r2 r1)
  ·rw [e1] at eo; cases eo
 | dik h1 h2 h3 h4 h5 =>
  subst h4 h5
  rcases jPW h2 h3 with ⟨v,y0,e1,e2,r1⟩ | ⟨e1,_⟩
  ·rw [e1] at eo
   cases eo
   exact d_getItem (by omega) I (e2 ▸ DGet.k h1) ry fun w' s' I' rw'=>h y0 w' s' I' rw' r1
  ·rw [e1] at eo; cases eo
theorem DAt.has {Q:Value→Shared→Prop} (hu:A.units+9 < cLine) (g:DAt X B W H s a y u o) (I:Inv X pins σ H s) (ry:RelV y u) (h:∀ s',Inv X pins σ H s'→Q (.bool o.isSome) s'):wpAny (model X.prog X.w) A (compareOp .In u (.ref a)) Q E s:=by
 cases g with
 | dic h1 h2 h3 h4 h5 h6 h7 h8 h9 =>
  subst h6 h7 h9
  refine wpAny_in_heap (show A.in1.units+8 < cLine from by show A.units+1+8 < cLine; omega) h8 h4 h5 ?_
  rcases h3.get _ with ⟨v,p,y0,e1,e2,r1,r2⟩ | ⟨e1,e2⟩
  ·rw [e2]; rw [e1] at h; exact h _ (I.tok _)
  ·rw [e2]; rw [e1] at h; exact h _ (I.tok _)
 | dik h1 h2 h3 h4 h5 =>
  subst h4 h5
  refine d_in (by omega) I (DGet.k h1) ry fun s' I'=>?_
  rcases jPW h2 h3 with ⟨v,y0,e1,e2,r1⟩ | ⟨e1,e2⟩
  ·rw [e2]; rw [e1] at h; exact h _ I'
  ·rw [e2]; rw [e1] at h; exact h _ I'
theorem DAt.hasnt {Q:Value→Shared→Prop} (hu:A.units+9 < cLine) (g:DAt X B W H s a y u o) (I:Inv X pins σ H s) (ry:RelV y u) (h:∀ s',Inv X pins σ H s'→Q (.bool (!o.isSome)) s'):wpAny (model X.prog X.w) A (compareOp .NotIn u (.ref a)) Q E s:=by
 cases g with
 | dic h1 h2 h3 h4 h5 h6 h7 h8 h9 =>
  subst h6 h7 h9
  refine wpAny_notIn_heap (show A.in1.units+8 < cLine from by show A.units+1+8 < cLine; omega) h8 h4 h5 ?_
  rcases h3.get _ with ⟨v,p,y0,e1,e2,r1,r2⟩ | ⟨e1,e2⟩
  ·rw [e2]; rw [e1] at h; exact h _ (I.tok _)
  ·rw [e2]; rw [e1] at h; exact h _ (I.tok _)
 | dik h1 h2 h3 h4 h5 =>
  subst h4 h5
  refine d_notIn (by omega) I (DGet.k h1) ry fun s' I'=>?_
  rcases jPW h2 h3 with ⟨v,y0,e1,e2,r1⟩ | ⟨e1,e2⟩
  ·rw [e2]; rw [e1] at h; exact h _ I'
  ·rw [e2]; rw [e1] at h; exact h _ I'
end
def jVQ (neg:Bool):AH→PV→PV→Option PV:=fun h k d=>(atD h d k).map fun o=>.bl (neg ^^ o.isSome)
def yQG (B:Bs) (neg:Bool):R2:=fun x y H Q=>∃ W h k d o,HRel B W h H∧RepT B W H k x∧RepT B W H d y∧atD h d k=some o∧Q (.bl (neg ^^ o.isSome)) H
section
variable {X:Cx} {B:Bs} {N:Ent} {WX:L2.WX} {o i e f:Expr} {mo mi mx:ME} {pos apos cpos:Pos}
theorem yOE (hK:X.K=B.K) (hw:X.w=B.w) (hu:X.A.units+9 < cLine):OpR X (compareOp .In) (yQG B false):=by
 intro pins s σ H x y v u Q I rx ry ⟨W,h,k,d,o,hr,rk,rd,e,q⟩
 obtain ⟨a,rfl,g⟩:=yFE hK hw hr I rd rk rx e
 cases ry
 exact g.has hu I rx fun s' I'=>⟨.bl _,H,I',rfl,by simpa using q⟩
theorem yGR (hK:X.K=B.K) (hw:X.w=B.w) (hu:X.A.units+9 < cLine):OpR X (compareOp .NotIn) (yQG B true):=by
 intro pins s σ H x y v u Q I rx ry ⟨W,h,k,d,o,hr,rk,rd,e,q⟩
 obtain ⟨a,rfl,g⟩:=yFE hK hw hr I rd rk rx e
 cases ry
 exact g.hasnt hu I rx fun s' I'=>⟨.bl _,H,I',rfl,by simpa using q⟩
theorem yAR {neg:Bool}:OpSem X B (jVQ neg) (yQG B neg):=by
 intro W h H x y z x' y' Q hr rx ry e q
 unfold jVQ at e
 cases ea:atD h y x with
 | none=>rw [ea] at e; cases e
 | some o =>
  rw [ea] at e
  cases e
  exact ⟨W,h,x,y,o,hr,rx,ry,ea,q W H _ (.refl W H) (Rep.bl _).hand⟩
def yBP:AH→PV→PV→Option PV:=fun h x y=>(fIn h x y).or (jVQ false h x y)
def jZY:AH→PV→PV→Option PV:=fun h x y=>(jKV h x y).or (jVQ true h x y)
theorem yFA (hK:X.K=B.K) (hw:X.w=B.w) (hr:U9 X.A):CmpOk X B .In yBP :=
 ⟨_,(yPR (by have hr:X.A.units+200 < cLine:=hr; omega)).or (yOE hK hw (by have hr:X.A.units+200 < cLine:=hr; omega)),(yEK hK).or yAR⟩
theorem yPB (hK:X.K=B.K) (hw:X.w=B.w) (hr:U9 X.A):CmpOk X B .NotIn jZY :=
 ⟨_,(yEP (by have hr:X.A.units+200 < cLine:=hr; omega)).or (yGR hK hw (by have hr:X.A.units+200 < cLine:=hr; omega)),(yAP hK).or yAR⟩
end
end Lp
set_option maxHeartbeats 4000000
namespace Lp
open PySem PySem.Spec PyProof.Rows L2
section
variable {X:Cx} {B:Bs}
theorem CallR.or {r r':List V→Hp→VK→Prop} {f:Value} (a:CallR X f r) (b:CallR X f r'):CallR X f fun xs H Q=>r xs H Q∨r' xs H Q:=fun pins s σ H xs us Q I rv h=>h.elim (a pins s σ H xs us Q I rv) (b pins s σ H xs us Q I rv)
theorem CallSem.or {f g:AH→List PV→Option PV} {r r':List V→Hp→VK→Prop} (a:CallSem X B f r) (b:CallSem X B g r'):CallSem X B (fun h xs=>(f h xs).or (g h xs)) fun xs H Q=>r xs H Q∨r' xs H Q:=by
 intro W h H xs z xs' Q hr rx e q
 have e:(f h xs).or (g h xs)=some z:=e
 cases ef:f h xs with
 | some z' =>
  rw [ef] at e
  cases e
  exact .inl (a W h H xs z xs' Q hr rx ef q)
 | none =>
  rw [ef] at e
  exact .inr (b W h H xs z xs' Q hr rx e q)
end
section
variable {X:Cx} {B:Bs} {N:Ent} {WX:L2.WX} {k v:Expr} {mk mv:ME} {pos:Pos}
theorem yCV {P:Program} {w:World} {H:Hp} (h:Heap) (hb:sysModules < h.objs.size):ObjOk P w H (h.push { cls:=.type "dict", data:=.dict #[] }) h.objs.size (DicO w h.objs.size []) :=
  yBF rfl (beq_eq_false_iff_ne.mpr (Ne.symm (Nat.ne_of_lt hb))) ⟨_,#[],0,Heap.get?_push_size _ rfl,⟨rfl,rfl,rfl⟩,rfl,rfl,(fun _ h=>nomatch h),List.nodup_nil⟩
theorem Post.base {α β:Type} {W0 W1:Wd} {s0 s1:S} {H0 H1:Hp} {σ:L2.St} {r:R S α} {f:α→S→R S β} {P:β→Wd→S→Hp→Prop} (hl:W0.m.length=s0.h.length) (st:StepE W0 s0 H0 W1 s1 H1) (q:Post B N WX W0 s0 H0 σ (r.bind f) P) :
  Post B N WX W1 s1 H1 σ r fun v W' s' H'=>StepE W0 s0 H0 W' s' H'∧Post B N WX W0 s0 H0 σ (f v s') P :=
 R.post_mono (R.post_bind q) (fun v s' q W' H' r' st'=>⟨st.trans hl st',q⟩) fun x s' q W' H' cls d r' st' e nw=>q W' H' cls d r' (st.trans hl st') e fun dd ed=>st.st.tr _ (nw dd ed)
end
end Lp
set_option maxHeartbeats 4000000
namespace Lp
open PySem PySem.Spec PyProof.Rows L2
def yYE (ma mb:ME):S→R S (List PV):=fun s=>(ma s).bind fun x s1=>(mb s1).bind fun y s2=>match asM s2.h x,asM s2.h y with
 | some xs,some ys=>if xs.length+ys.length≤sizeLine then .ok (xs++ys) s2 else .bad
 | _,_=>.bad
def nIf (c:S→R S Bool) (a b:S→R S (List PV)):S→R S (List PV):=fun s=>(c s).bind fun k s1=>if k=true then a s1 else b s1
def jHC (i:Nat):MS:=fun s=>match s.e[i]? with
 | some (some (.own xs))=>.ok (.rt (.lst xs)) ⟨s.e.set i (some (.lst xs)),s.h⟩
 | some (some v)=>if isOwn v=true then .bad else .ok (.rt v) s
 | _=>.bad
section
variable {X:Cx} {B:Bs} {N:Ent} {WX:L2.WX} {a b c:Expr} {ma mb:ME} {na nb:S→R S (List PV)} {tc:S→R S Bool} {pos:Pos}
theorem Post.base0 {α β:Type} {W0 W1:Wd} {s0 s1:S} {H0 H1:Hp} {σ:L2.St} {r:R S α} {P:α→Wd→S→Hp→Prop} (hl:W0.m.length=s0.h.length) (st:StepE W0 s0 H0 W1 s1 H1) (q:Post B N WX W0 s0 H0 σ r P) :
  Post B N WX W1 s1 H1 σ r fun v W' s' H'=>StepE W0 s0 H0 W' s' H'∧P v W' s' H' :=
 R.post_mono q (fun v s' q W' H' r' st'=>⟨st.trans hl st',q W' H' r' (st.trans hl st')⟩) fun x s' q W' H' cls d r' st' e nw=>q W' H' cls d r' (st.trans hl st') e fun dd ed=>st.st.tr _ (nw dd ed)
theorem yZL {W W2:Wd} {s s2:S} {H H2:Hp} {σ:L2.St} {Q:VK} {xs:List PV} {vs:List V} (r2:Rel B N W2 s2 σ H2) (st:StepE W s H W2 s2 H2) (rv:Reps B W2 xs vs) (hz:vs.length≤sizeLine)
  (q:Post B N WX W s H σ (R.ok xs s2) fun xs W' s' H'=>∀ p vs,H p=none→Loose N W' s' σ p→H' p=some (.lst vs)→Reps B W' xs vs→Q (.ref p) H') (p:Addr) (hp:H2 p=none):Q (.ref p) (upd H2 p (.lst vs)):=by
 have l:=r2.loose hp
 have hp0:H p=none:=st.st.tr _ hp
 exact q W2 _ (jEO r2 l (o:=.lst vs) hz (.inl hp)) (st.put hp0 l.m) p vs hp0 l upd_same rv
theorem yFQ (ha:SimE X B N WX a ma) (hb:SimE X B N WX b mb):SimN X B N WX (.BinOp a .Add b pos) (yYE ma mb) :=
 (pe_op op_cat ha hb).imp fun σ H Q ⟨W,s,r,h⟩=>⟨W,s,r,R.post_mono (Post.base r.slen (StepE.refl r.hr) h) (fun x s1 q W1 H1 r1 st1 x' rx=>⟨W1,s1,r1,R.post_mono (Post.base r.slen (q W1 H1 r1 st1).1 (q W1 H1 r1 st1).2) (fun y s2 q2 W2 H2 r2 st2 y' ry=>by
  obtain ⟨stB,qF⟩:=q2 W2 H2 r2 st2
  have rx2:=rx.on r1.slen st2.st
  split at qF
  ·rename_i xs ys ex ey
   split at qF
   ·rename_i hz
    obtain ⟨a,vs,rfl,ha,ra⟩:=jNP r2.hr rx2 ex
    obtain ⟨b,ws,rfl,hb,rb⟩:=jNP r2.hr ry ey
    have hz2:(vs++ws).length≤sizeLine:=by rw [List.length_append,← ra.length,← rb.length]; exact hz
    exact ⟨a,b,vs,ws,rfl,rfl,ha,hb,by rw [← ra.length,← rb.length]; exact hz,fun p hp=>yZL r2 stB (ra.append rb) hz2 qF p hp⟩
   ·exact qF.elim
  ·exact qF.elim) fun _ _ q=>q⟩) fun _ _ q=>q⟩
theorem yMY (hc:SimT X B N WX c tc) (ha:SimN X B N WX a na) (hb:SimN X B N WX b nb):SimN X B N WX (.IfExp c a b pos) (nIf tc na nb) :=
 (pe_ifExp hc ha hb).imp fun σ H Q ⟨W,s,r,h⟩=>⟨W,s,r,R.post_mono (Post.base r.slen (StepE.refl r.hr) h) (fun k s1 q W1 H1 r1 st1=>by
  obtain ⟨stB,qF⟩:=q W1 H1 r1 st1
  have go:∀ n:S→R S (List PV),Post B N WX W s H σ (n s1) (fun xs W' s' H'=>∀ p vs,H p=none→Loose N W' s' σ p→H' p=some (.lst vs)→Reps B W' xs vs→Q (.ref p) H')→tN B N WX n σ H1 Q:=fun n q =>
   ⟨W1,s1,r1,R.post_mono (Post.base0 (β:=Unit) r.slen stB q) (fun xs s2 q2 W2 H2 r2 st2 p vs hp l hH rv=>(q2 W2 H2 r2 st2).2 p vs (stB.st.tr _ hp) l hH rv) fun _ _ q=>q⟩
  cases k with
  | true=>exact iteT (go na qF)
  | false=>exact iteF (go nb qF)) fun _ _ q=>q⟩
theorem jCM {i:Nat} {x:Str} {npos:Pos} (hN:X.N[i]?=some x) (hv:Vis X.env.scope x) (hd:(x == ("__debug__" : Str))=false) (hcd:(x == ("__classdict__" : Str))=false):SimS X B N WX (.Return (some (.Name x npos)) pos) (jHC i) :=
 (ps_ret (pe_var hN hv hd hcd)).imp fun D σ H ⟨W,s,r,h⟩=>by
  unfold jHC at h
  split at h
  ·rename_i xs e
   obtain ⟨p,vs,e1,hH,rv,hF,hm,h0,r2⟩:=yNM r e
   exact ⟨.ref p,e1,h _ σ H _ r2 (Rep.lst upd_same (rv.mono (jDR hF)))⟩
  ·rename_i v _ e
   split at h
   ·exact h.elim
   ·rename_i o
    obtain ⟨v',e',sl⟩:=r.env i v e
    exact ⟨v',e',h W σ H v' r (sl.hand.rep (by simpa using o))⟩
  ·exact h.elim
end
end Lp
set_option maxHeartbeats 4000000
set_option maxHeartbeats 4000000
namespace Lp
open PySem PySem.Spec PyProof.Rows L2
@[irreducible] def jYE (i:Nat):MS:=jHC i
section
variable {P:PV→S→Prop} {PF:Fl→S→Prop} {E:PV→S→Prop} {s:S} {m mo mk mv mx mi:ME} {ma:MA} {i j l:Nat} {c:S→R S Bool} {body:MS} {n:Nat}
theorem yGF (h:(c s).post (fun k s1=>br k ((body s1).post (fun f s2=>match f with
   | .nx=>(jHD c body n s2).post PF E
   | .ct=>(jHD c body n s2).post PF E
   | .bk=>PF .nx s2
   | .rt v=>PF (.rt v) s2) E) (PF .nx s1)) E):(jHD c body (n+1) s).post PF E:=by
 unfold jHD
 refine jY (p_mono h (fun k s1 q=>?_) fun _ _ z=>z)
 cases k with
 | false=>rw [if_neg Bool.false_ne_true]; rw [jGJ] at q; exact q
 | true =>
  rw [if_pos rfl]
  rw [jGJ] at q
  refine jY (p_mono q (fun f s2 q=>?_) fun _ _ z=>z)
  cases f <;> exact q
theorem yVY {xs:List PV} (e:s.e[i]?=some (some (.own xs))) (h:PF (.rt (.lst xs)) ⟨s.e.set i (some (.lst xs)),s.h⟩):(jYE i s).post PF E:=by
 unfold jYE jHC
 simp only [e]
 exact h
theorem yVZ {i j:Nat} {mn:S→R S (List PV)} {mb:ME} (h:(mn s).post (fun xs s1=>(mb s1).post (fun v s2=>isOwn v=false∧PF .nx ⟨(s2.e.set i (some (.own xs))).set j (some v),s2.h⟩) E) E):(jST i j mn mb s).post PF E:=by
 unfold jST
 refine jY (p_mono h (fun xs s1 q=>jY (p_mono q (fun v s2 ⟨o,q⟩=>?_) fun _ _ z=>z)) fun _ _ z=>z)
 rw [if_neg (by rw [o]; exact Bool.false_ne_true)]
 exact q
theorem jWU {I:Nat→S→Prop} (h0:∀ s,¬ I 0 s) (hs:∀ n s,I (n+1) s→(c s).post (fun k s1=>br k ((body s1).post (fun f s2=>f=.nx∧I n s2) E) (PF .nx s1)) E):∀ n s,I n s→(jHD c body n s).post PF E
 | 0,s,i=>absurd i (h0 s)
 | n+1,s,i=>yGF (p_mono (hs n s i) (fun k s1 q=>by
   rw [jGJ] at q ⊢
   cases k with
   | false=>exact q
   | true=>exact p_mono q (fun f s2 ⟨e,i⟩=>by subst e; exact jWU h0 hs n s2 i) fun _ _ z=>z) fun _ _ z=>z)
end
end Lp
set_option maxHeartbeats 4000000
namespace Lp
open PySem PySem.Spec PyProof.Rows L2
def obsAG (as:List Addr) (fa:List FactL) (fn:List DefL) (ts:List He.Tab) (g:Addr→Option Obj):AlL:=yPT fa fn ts g as
theorem yNK {as:List Addr} {fa:List FactL} {fn:List DefL} {ts:List He.Tab} {w:World} {h:Heap} (e:obsAG as fa fn ts h.get?=yHX fn ts w):∃ K T,SayL fa fn ts w h K T:=by
 refine ⟨_,_,He.frG_in,fun P hP=>?_,e⟩
 obtain ⟨h1,h2⟩:=List.mem_filter.mp hP
 cases q:h.get? P with
 | none=>rw [q] at h2; cases h2
 | some o =>
  rw [q] at h2
  refine ⟨congrArg some (yHA h2),jYT fun z=>?_⟩
  obtain ⟨_,z2⟩:=List.mem_filter.mp z
  rw [q] at z2
  have h2:jSU o=true:=h2
  have z2:(!jSU o)=true:=z2
  rw [h2] at z2
  cases z2
def hookA (as:List Addr) (fa:List FactL) (fn:List DefL) (ts:List He.Tab):PySem.W.Hook where
 α:=AlL
 obs:=fun s=>obsAG as fa fn ts s.heap.get?
 val:=fun w=>yHX fn ts w
 says:=fun w h=>∃ K T,SayL fa fn ts w h K T
 of:=fun _ _ e=>yNK e
 keeps:=fun _ _ _ ⟨K,T,hK,hT,c⟩ k=>⟨K,T,PySem.W.Frag.In.keeps hK k,fun P hP=>⟨k _ _ (hT P hP).1,(hT P hP).2⟩,c⟩
theorem obsAG_eq {as:List Addr} {fa:List FactL} {fn:List DefL} {ts:List He.Tab} {g:Addr→Option Obj} {s:Shared} (h:∀ a,g a=s.heap.get? a):obsAG as fa fn ts g=(hookA as fa fn ts).obs s:=by
 have e:g=s.heap.get?:=funext h
 rw [e] <;> rfl
open HandSHeadRun PySem.W PySem.Calls in
abbrev RunL (r:PySem.W.OpenRow) (q:Program) (M:Nat) (loose:List PySem.Str) (w:World):Prop:=∀ os:OsState,
 (endF (stepQ (denQ tabQ) r.prog w) M r.prog w os).map (fun s=>(looksF r.prog (boot_heap w.params) s.abs,HandSHeadRun.seenQ q loose (importedModules r.prog.main.body) (fun s=>xlAt q [] s&&recOk r.toRowW.records s) s.abs))=some (true,openGood q loose)
open HandSHeadRun in
abbrev RunO (r:PySem.W.OpenRow) (H:PySem.W.Hook) (ob:PySem.W.SharedT→H.α) (M:Nat) (w:World):Prop:=∀ os:OsState,
 (endF (stepQ (denQ tabQ) r.prog w) M r.prog w os).map ob=some (H.val w)
open HandSHeadRun PySem.W PySem.Calls in
abbrev RunLa (r:PySem.W.OpenRow) (M:Nat) (w:World):Prop:=∀ os:OsState,(endF (stepQ (denQ tabQ) r.prog w) M r.prog w os).map (fun s=>looksF r.prog (boot_heap w.params) s.abs)=some true
open HandSHeadRun PySem.W PySem.Calls in
abbrev RunLb (r:PySem.W.OpenRow) (q:Program) (M:Nat) (loose:List PySem.Str) (w:World):Prop:=∀ os:OsState,
 (endF (stepQ (denQ tabQ) r.prog w) M r.prog w os).map (fun s=>HandSHeadRun.seenQ q loose (importedModules r.prog.main.body) (fun s=>xlAt q [] s&&recOk r.toRowW.records s) s.abs)=some (openGood q loose)
theorem yCG {r:PySem.W.OpenRow} {q:Program} {M:Nat} {loose:List PySem.Str} {w:World} (a:RunLa r M w) (b:RunLb r q M loose w):RunL r q M loose w:=by
 intro os
 have a:=a os
 have b:=b os
 cases e:HandSHeadRun.endF (HandSHeadRun.stepQ (HandSHeadRun.denQ HandSHeadRun.tabQ) r.prog w) M r.prog w os with
 | none=>rw [e] at a; cases a
 | some s =>
  rw [e] at a b
  injection a with a
  injection b with b
  exact congrArg some (by rw [Prod.mk.injEq]; exact ⟨a,b⟩)
theorem yCF {r:PySem.W.OpenRow} {q:Program} {H:PySem.W.Hook} {ob:PySem.W.SharedT→H.α} {M:Nat} {loose:List PySem.Str} {w:World} (a:RunL r q M loose w) (b:RunO r H ob M w):HandSHeadRun.RunEq r q H ob M loose w:=by
 intro os
 have a:=a os
 have b:=b os
 cases e:HandSHeadRun.endF (HandSHeadRun.stepQ (HandSHeadRun.denQ HandSHeadRun.tabQ) r.prog w) M r.prog w os with
 | none=>rw [e] at a; cases a
 | some s =>
  rw [e] at a b
  injection a with a
  injection b with b
  injection a with a1 a2
  show some (_,_,_)=_
  rw [a1,a2,b]
end Lp
set_option maxHeartbeats 4000000
namespace Lp
open PySem PySem.Spec PyProof.Rows L2 LamX NdefX PySem.W
structure LamP (X:Cx) (d:LamD) (a:Str):Prop where
 kind:d.scope.kind=.function
 co:d.scope.isCoroutine=false
 gen:d.scope.isGenerator=false
 own:∀ y∈d.scope.names,y.2≠.cell
 free:∀ y∈d.scope.names,y.2=.free→X.env.scope.names.lookup y.1=some .cell∨X.env.scope.names.lookup y.1=some .free
 df:defaultsOf d.params X.env=([],[])
 bind:∀ (q:Str) (cl:List (Str × Addr)) (pm cdv ct v:Value),bindArgs (lfn q d.params d.body d.scope cl .none pm cdv ct) ⟨[v],[]⟩=pure [(a,v)]
 loc:d.scope.names.lookup a=some .local
theorem LamP.has {X:Cx} {d:LamD} {a:Str} (L:LamP X d a) (ok:X.Ok):∀ y∈d.scope.names,y.2=.free→∃ c,X.env.cells.lookup y.1=some c:=fun y hy e=>by
 rcases L.free y hy e with k | k
 ·exact ok.has _ (.inl k)
 ·exact ok.has _ (.inr k)
end Lp
set_option maxHeartbeats 4000000
set_option maxHeartbeats 4000000
namespace Lp
open PySem PySem.Spec PyProof.Rows L2 LamX NdefX PySem.W
structure PrA (P:Program) (w:World) (K:PySem.W.Frag) (mg:Str→Option Value) (base:Heap) (B:Bs) (k:Nat) (c:Nat) (x:Str) (m:MF):Prop where
 ex:∃ j f fd ps p,j+1≤k∧PropOf K (B.cad c) x p f∧FnOk P w K mg base (L2N.CX P w) j f fd ps (spF B 1 m)∧L2.Binds K fd ps []
theorem PrA.mono {P:Program} {w:World} {K:PySem.W.Frag} {mg:Str→Option Value} {base:Heap} {B:Bs} {i k:Nat} {c:Nat} {x:Str} {m:MF} (F:PrA P w K mg base B i c x m) (h:i≤k):PrA P w K mg base B k c x m :=
 let ⟨j,f,fd,ps,p,hj,a⟩:=F.ex
 ⟨j,f,fd,ps,p,Nat.le_trans hj h,a⟩
structure MeB (P:Program) (w:World) (K:PySem.W.Frag) (mg:Str→Option Value) (base:Heap) (B:Bs) (k:Nat) (c:Nat) (x:Str) (n:Nat) (m:MF):Prop where
 ex:∃ f fd ps,BMeth K (B.cad c) x f∧FnOk P w K mg base (L2N.CX P w) k f fd ps (spF B n m)∧L2.Binds K fd ps []
theorem MeB.mono {P:Program} {w:World} {K:PySem.W.Frag} {mg:Str→Option Value} {base:Heap} {B:Bs} {j k:Nat} {c:Nat} {x:Str} {n:Nat} {m:MF} (F:MeB P w K mg base B j c x n m) (h:j≤k):MeB P w K mg base B k c x n m :=
 let ⟨f,fd,ps,a,b,d⟩:=F.ex
 ⟨f,fd,ps,a,b.mono h,d⟩
end Lp
set_option maxHeartbeats 4000000
namespace Lp
open PySem PySem.Spec PyProof.Rows L2 LamX NdefX PySem.W
section
variable {P:Program} {w:World} {A:Around} {R:Result→Shared→Prop} {s:Shared} {kx vx t0 i0 t1 i1:Expr} {f0 f1:List Expr} {sc:Scope} {p:Pos} {it:Value} {D:Addr} {en:Env}
abbrev NB (P:Program) (w:World) (A:Around) (en:Env) (R:Result→Shared→Prop):Value→Shared→Prop:=notedBy (model P w) A en fun e s'=>R (.error e) s'
abbrev TestsW (P:Program) (w:World) (A:Around) (en:Env) (fs:List Expr) (Q:Bool→Shared→Prop) (E:Value→Shared→Prop) (s:Shared):Prop :=
 wpAny (model P w) A (forIn fs true fun c r=>if r=true then do let ok ← isTrue c en (eval c en); pure (ForInStep.yield ok) else pure (ForInStep.yield r)) Q E s
end
def DPutG (X:Cx) (H:Hp) (D:Addr) (y z:V) (Nx:Hp→Prop):Prop:=∀ (Y:Cx) (pins:List (Addr × Obj)) (σ:L2.St) (s:Shared) (u r:Value) (E:Value→Shared→Prop),Y.prog=X.prog→Y.w=X.w→Y.K=X.K→Inv Y pins σ H s→RelV y u→RelV z r →
 wpAny (model X.prog X.w) X.A (dictSet D u r) (fun _ s'=>∃ H',Inv Y pins σ H' s'∧Nx H') E s
def yDN (X:Cx) (J:It) (g:TG) (tt:TT) (vs:List Nat) (σ:L2.St) (Fin:Hp→Prop) (body:L2.St→Hp→(Hp→Prop)→Prop) (W:Nat→Nat→Hp→Prop):Prop:=∀ i m H,W i m H →
 (J.stop i H∧Fin H)∨(J.go i H∧∃ Nx:Hp→Prop,(∀ H',Nx H'→∃ m',m' < m∧W (i+1) m' H')∧∀ x H',J.yld i H x H'→g x (wipe σ vs) H' fun σ2 H2=>wipe σ2 vs=wipe σ vs∧tt σ2 H2 fun b H3=>if b=true then body σ2 H3 Nx else Nx H3)
def yPM (X:Cx) (D:Addr) (tk tv:TE):L2.St→Hp→(Hp→Prop)→Prop:=fun σ H Nx=>tk σ H fun y H4=>tv σ H4 fun z H5=>DPutG X H5 D y z Nx
def yQE (X:Cx) (O0:Addr→HO) (wi:TI) (g:TG) (tt:TT) (tk tv:TE) (vs:List Nat):TE:=fun σ H Q=>wi σ H fun J H1=>∀ D,H1 D=none→∃ W:Nat→Nat→Hp→Prop,(∃ m,W 0 m (upd H1 D (O0 D))) ∧
 yDN X J g tt vs σ (fun H=>Q (.ref D) H) (yPM X D tk tv) W
section
variable {X:Cx} {pins:List (Addr × Obj)} {s:Shared} {σ:L2.St} {H:Hp} {Q:VK} {kx vx t0 i0 t1 i1:Expr} {f0 f1:List Expr} {sc:Scope} {own:List (Str × Nat)} {vs1:List Nat} {p p':Pos} {wi wi1:TI} {g g1:TG} {tt tt1:TT} {tk tv:TE} {O0:Addr→HO} {use:Option (Value→Sem Unit)} {Qf:Value→Shared→Prop}
abbrev InBlk (X:Cx) (sc:Scope) (J:Cx→Prop):Prop:=∀ (s:Shared) (H:Hp) (C:Addr) (cl:List (Str × Addr)) (fp:List Addr),J (X.blk s H sc (compEnvC sc cl C X.env) fp)
end
end Lp
set_option maxHeartbeats 4000000
namespace Lp
open PySem PySem.Spec PyProof.Rows L2 LamX NdefX PySem.W
def jYC (B:Bs) (m:ME):TE:=fun σ H Q=>∃ N,tE B N WF m σ H Q
def yBS (B:Bs) (m:S→R S Bool):TT:=fun σ H Q=>∃ N,tT B N WF m σ H Q
def yQP (B:Bs) (m:S→R S Sr):TI:=fun σ H R=>∃ N,tI B N WF m σ H R
theorem jUU {X:Cx} {B:Bs} {e:Expr} {m:ME} (h:∀ N,SimE X B N WF e m):PE X e (jYC B m):=⟨fun pins s σ H Q I ⟨N,q⟩=>(h N).run pins s σ H Q I q⟩
theorem jQT {X:Cx} {B:Bs} {fs:List Expr} {m:S→R S Bool} (h:∀ N,SimTs X B N WF fs m):PTs X fs (yBS B m):=⟨fun pins s σ H Q I ⟨N,q⟩=>(h N).run pins s σ H Q I q⟩
theorem yNQ {X:Cx} {B:Bs} {tg e:Expr} {m:S→R S Sr} (h:∀ N,SimI X B N WF tg e m):PI X tg e (yQP B m):=⟨fun pins s σ H R I ⟨N,q⟩=>(h N).run pins s σ H R I q⟩
section
variable {α:Type}
def jDQ (r:Sr) (t:Tg) (tt:S→R S Bool) (body:α→S→R S α) (vs:List Nat):List PV→α→S→R S α
 | [],acc,s=>.ok acc s
 | x :: xs,acc,s=>match uW t x (jM s.e vs) with
  | some e1=>(tt ⟨e1,s.h⟩).nx.bind fun b s2=>(if b=true then (body acc s2).nx else .ok acc s2).bind fun acc' s3=>if uO s3.h r then jDQ r t tt body vs xs acc' ⟨jM s3.e vs,s3.h⟩ else .bad
  | none=>.bad
def jJB (src:S→R S Sr) (t:Tg) (tt:S→R S Bool) (body:α→S→R S α) (vs:List Nat):α→S→R S α:=fun acc s=>(src s).nx.bind fun r s1=>if r.o=true then .bad else jDQ r t tt body vs r.xs acc ⟨jM s1.e vs,s1.h⟩
theorem jZH {τ β γ:Type} {r:R τ β} {f:β→τ→R τ γ} (k:∀ a s,(f a s).Nx):(r.nx.bind f).Nx:=(R.nx_Nx r).bind k
theorem jQW (r:Sr) (t:Tg) (tt:S→R S Bool) (body:α→S→R S α) (vs:List Nat):∀ (xs:List PV) (acc:α) (s:S),(jDQ r t tt body vs xs acc s).Nx
 | [],_,_=>trivial
 | x :: xs,acc,s=>by
  unfold jDQ
  split
  ·refine jZH fun b s2=>R.Nx.bind ?_ fun acc' s3=>?_
   ·split
    ·exact R.nx_Nx _
    ·exact trivial
   ·split
    ·exact jQW r t tt body vs xs acc' _
    ·exact trivial
  ·exact trivial
end
section
variable {α:Type} {X:Cx} {B:Bs} {D:Addr} {W1:Wd} {s1:S} {H1:Hp} {RA:α→Wd→HO→Prop}
structure AccAt (B:Bs) (D:Addr) (W1:Wd) (s1:S) (H1:Hp) (RA:α→Wd→HO→Prop) (N:Ent) (acc:α) (W:Wd) (s:S) (σ:L2.St) (H:Hp):Prop where
 r:Rel B N W s σ H
 st:StepE W1 s1 H1 W s H
 l:Loose N W s σ D
 o:∃ o,H D=some o∧RA acc W o
abbrev PostA (B:Bs) (D:Addr) (W1:Wd) (s1:S) (H1:Hp) (RA:α→Wd→HO→Prop) (N:Ent) (σ:L2.St) (r:R S α) (Nx:Hp→Prop):Prop:=r.post (fun acc s=>∀ W H,AccAt B D W1 s1 H1 RA N acc W s σ H→Nx H) fun _ _=>False
abbrev BodyT:Type:=L2.St→Hp→(Hp→Prop)→Prop
def BodyOk (B:Bs) (D:Addr) (W1:Wd) (s1:S) (H1:Hp) (RA:α→Wd→HO→Prop) (bt:BodyT) (body:α→S→R S α):Prop:=∀ (N:Ent) (acc:α) (W:Wd) (s:S) (σ:L2.St) (H:Hp) (Nx:Hp→Prop),AccAt B D W1 s1 H1 RA N acc W s σ H→PostA B D W1 s1 H1 RA N σ (body acc s) Nx→bt σ H Nx
structure RAOk (RA:α→Wd→HO→Prop):Prop where
 mono:∀ {acc:α} {W W':Wd} {o:HO},W.Le W'→RA acc W o→RA acc W' o
 nt:∀ {acc:α} {W:Wd} {o:HO},RA acc W o→NT o∧∀ c q,o≠LamX.CodeO c q
theorem AccAt.on {N:Ent} {acc:α} {W W':Wd} {s s':S} {σ:L2.St} {H H':Hp} (hl:W1.m.length=s1.h.length) (ok:RAOk RA) (a:AccAt B D W1 s1 H1 RA N acc W s σ H) (r':Rel B N W' s' σ H') (st:StepE W s H W' s' H'):AccAt B D W1 s1 H1 RA N acc W' s' σ H':=by
 obtain ⟨o,h1,h2⟩:=a.o
 have n:=ok.nt h2
 exact ⟨r',a.st.trans hl st,a.l.on a.r.slen st ⟨o,h1,n.1,n.2⟩,o,a.l.held st h1 n.1,ok.mono st.st.le h2⟩
theorem jNX {J:It} {r:Sr} {t:Tg} {tt:S→R S Bool} {body:α→S→R S α} {bt:BodyT} {vs:List Nat} {N:Ent} {Wk:Wd} {sk:S} {Hk:Hp} {acc0:α} {W0:Wd} {s0:S} {H0:Hp} {σ:L2.St} {Fin:Hp→Prop} (hK:X.K=B.K) (hv:∀ i∈t.sl,i∈vs) (hl:W1.m.length=s1.h.length) (ok:RAOk RA) (wk:Walks B J r Wk sk Hk)
  (hw:∀ (acc:α) (W:Wd) (s:S) (H:Hp),AccAt B D W1 s1 H1 RA N acc W s σ H→Wk.Le W∧(r.o=true→Step Wk sk.h Hk W s.h H)) (hb:BodyOk B D W1 s1 H1 RA bt body) (a0:AccAt B D W1 s1 H1 RA N acc0 W0 s0 σ H0) (st0:uO s0.h r)
  (q:PostA B D W1 s1 H1 RA N σ (jDQ r t tt body vs r.xs acc0 s0) Fin):∃ Wm:Nat→Nat→Hp→Prop,(∃ m,Wm 0 m H0)∧yDN X J (gT X.K t) (yBS B tt) vs σ Fin bt Wm:=by
 let Iv:Nat→Hp→Prop:=fun i H=>∃ acc W s,AccAt B D W1 s1 H1 RA N acc W s σ H∧i≤r.xs.length∧uO s.h r∧PostA B D W1 s1 H1 RA N σ (jDQ r t tt body vs (r.xs.drop i) acc s) Fin
 refine ⟨fun i m H=>m=r.xs.length - i∧Iv i H,⟨r.xs.length,rfl,acc0,W0,s0,a0,Nat.zero_le _,st0,by rw [List.drop_zero]; exact q⟩,?_⟩
 rintro i m H ⟨rfl,acc,W',s',a',hi,sl',q'⟩
 obtain ⟨le',own'⟩:=hw acc W' s' H a'
 by_cases hlt:i < r.xs.length
 ·refine .inr ?_
  have ex:=List.getElem?_eq_getElem hlt
  obtain ⟨go1,go2⟩:=wk.go W' s' H a'.r.hr le' sl' own' i _ ex
  refine ⟨go1,fun H'=>Iv (i+1) H',fun H' hv'=>⟨r.xs.length - (i+1),by omega,rfl,hv'⟩,fun v H2 y=>?_⟩
  obtain ⟨W2,gr,rx⟩:=go2 v H2 y
  rw [List.drop_eq_getElem_cons hlt] at q'
  unfold jDQ at q'
  have a2:=a'.on hl ok (gr.rel a'.r) (gr.stepE a'.r.hr)
  cases eb:uW t r.xs[i] (jM s'.e vs) with
  | none=>rw [eb] at q'; exact q'.elim
  | some e1 =>
   rw [eb] at q'
   refine jVZ hK (vs:=vs) (s:=⟨jM s'.e vs,s'.h⟩) hv (jWP a2.r) rx eb fun σ2 r3 w3=>?_
   have w3:wipe σ2 vs=wipe σ vs:=w3.trans (jXC vs)
   have a3:AccAt B D W1 s1 H1 RA N acc W2 ⟨e1,s'.h⟩ σ2 H2:=⟨r3,jRC a2.st eb,jRG a2.l eb w3,a2.o⟩
   refine ⟨w3,N,W2,⟨e1,s'.h⟩,r3,R.post_mono (R.post_nx (E':=fun _ _=>False) (R.post_bind q')) (fun b s4 q4 W4 H4 r4 st4=>?_) fun _ _ z=>z.elim⟩
   have a4:=a3.on hl ok r4 st4
   have back:∀ {acc':α} {W5:Wd} {s5:S} {H5:Hp},AccAt B D W1 s1 H1 RA N acc' W5 s5 σ2 H5→PostA B D W1 s1 H1 RA N σ (if uO s5.h r then jDQ r t tt body vs (r.xs.drop (i+1)) acc' ⟨jM s5.e vs,s5.h⟩ else R.bad) Fin→Iv (i+1) H5:=fun {acc' W5 s5 H5} a5 q5=>by
    by_cases hst:uO s5.h r
    ·rw [if_pos hst] at q5
     exact ⟨acc',W5,⟨jM s5.e vs,s5.h⟩,⟨jHF a5.r w3,jEL a5.st,jLG a5.l w3,a5.o⟩,hlt,hst,q5⟩
    ·rw [if_neg hst] at q5
     exact q5.elim
   cases b with
   | false =>
    rw [if_neg Bool.false_ne_true] at q4
    exact iteF (back a4 q4)
   | true =>
    rw [if_pos rfl] at q4
    exact iteT <| hb N acc W4 s4 σ2 H4 _ a4 (R.post_mono (R.post_nx (E':=fun _ _=>False) (R.post_bind q4)) (fun acc' s5 q5 W5 H5 a5=>back a5 q5) fun _ _ z=>z)
 ·refine .inl ⟨wk.stop W' s' H a'.r.hr le' sl' own' i (by omega),?_⟩
  rw [List.drop_eq_nil_of_le (by omega)] at q'
  exact q' W' H a'
theorem yHC {src:S→R S Sr} {t:Tg} {tt:S→R S Bool} {body:α→S→R S α} {bt:BodyT} {vs:List Nat} (hK:X.K=B.K) (hv:∀ i∈t.sl,i∈vs) (hl:W1.m.length=s1.h.length) (ok:RAOk RA) (hb:BodyOk B D W1 s1 H1 RA bt body) :
  BodyOk B D W1 s1 H1 RA (fun σ2 H3 Nx=>yQP B src σ2 H3 fun J1 H4=>∃ Wm:Nat→Nat→Hp→Prop,(∃ m,Wm 0 m H4)∧yDN X J1 (gT X.K t) (yBS B tt) vs σ2 Nx bt Wm) (jJB src t tt body vs):=by
 intro N acc W s σ H Nx a q
 refine ⟨N,W,s,a.r,R.post_mono (R.post_nx (E':=fun _ _=>False) (R.post_bind q)) (fun r s2 q2 W2 H2 r2 st2 still hline J wk=>?_) fun _ _ z=>z.elim⟩
 split at q2
 ·exact q2.elim
 ·rename_i no
  have a2:=a.on hl ok r2 st2
  have lb:=jLG (vs:=vs) a2.l rfl
  have a3:AccAt B D W1 s1 H1 RA (N.at W2) acc W2 ⟨jM s2.e vs,s2.h⟩ σ H2:=⟨(jHF a2.r rfl).pinAt,jEL a2.st,⟨lb.F,lb.m,lb.o,a2.l.e⟩,a2.o⟩
  refine jNX (N:=N.at W2) hK hv hl ok wk (fun acc' W' s' H' a'=>⟨a'.r.pin,fun z=>absurd z no⟩) hb a3 still (R.post_mono q2 (fun acc' s' q' W' H' a'=>q' W' H' ⟨a'.r.unpin r2.pin,a'.st,⟨a'.l.F,a'.l.m,a'.l.o,a'.l.e⟩,a'.o⟩) fun _ _ z=>z)
end
def jQI (mk mv:ME):List (PV × PV)→S→R S (List (PV × PV)):=fun acc s=>(mk s).nx.bind fun k s1=>(mv s1).nx.bind fun v s2=>match tupK k with
 | some κ=>if isOwn v=true∨sizeLine≤acc.length then .bad else .ok (jTQ acc k κ v) s2
 | none=>.bad
def RAD (B:Bs) (D:Addr) (acc:List (PV × PV)) (W:Wd) (o:HO):Prop:=∃ L,o=DicO B.w D L∧L.length≤sizeLine∧DRel B W acc L
theorem jYJ {B:Bs} {D:Addr}:RAOk (RAD B D):=⟨fun l ⟨L,e,z,r⟩=>⟨L,e,z,r.mono l⟩,fun ⟨L,e,_,_⟩=>by subst e; exact ⟨jYN,jYP⟩⟩
section
variable {X:Cx} {B:Bs} {D:Addr} {W1:Wd} {s1:S} {H1:Hp}
theorem yZJ {mk mv:ME} (hK:X.K=B.K) (hw:X.w=B.w) (hu:U9 X.A) (hl:W1.m.length=s1.h.length) (hD:H1 D=none):BodyOk B D W1 s1 H1 (RAD B D) (yPM X D (jYC B mk) (jYC B mv)) (jQI mk mv):=by
 intro N acc W s σ H Nx a q
 have hu:X.A.units+200 < cLine:=hu
 refine ⟨N,W,s,a.r,R.post_mono (R.post_nx (E':=fun _ _=>False) (R.post_bind q)) (fun k s2 q2 W2 H2 r2 st2 k' rk=>?_) fun _ _ z=>z.elim⟩
 have a2:=a.on hl jYJ r2 st2
 refine ⟨N,W2,s2,r2,R.post_mono (R.post_nx (E':=fun _ _=>False) (R.post_bind q2)) (fun v s3 q3 W3 H3 r3 st3 v' rv=>?_) fun _ _ z=>z.elim⟩
 have a3:=a2.on hl jYJ r3 st3
 have rk3:=rk.on r2.slen st3.st
 split at q3
 ·rename_i κ ek
  split at q3
  ·exact q3.elim
  ·rename_i c
   simp only [not_or] at c
   have ov:isOwn v=false:=by simpa using c.1
   intro Y pins σY sY u r E eP eW eK I ru rr
   obtain ⟨b,rfl,rb⟩:=jWG ek rk3
   obtain rfl:u=Value.ref b:=ru
   obtain ⟨k1,k2,_⟩:=jUQ ek
   obtain ⟨o,h1,L,rfl,hz,hr⟩:=a3.o
   have hK':Y.K=B.K:=eK.trans hK
   have hw':Y.w=B.w:=eW.trans hw
   obtain ⟨g1,g2⟩:=yEZ hK' hw' a3.r.hr I h1 hr
   have key:(nestedKind Y.prog Y.w).is sY.heap κ b:=⟨jKD hK' a3.r.hr I rb k1 rfl,k2⟩
   rw [eP,eW] at key g2
   refine wpAny_dictSet_heap (hsz:=hz) (knd:=nestedKind X.prog X.w) (show X.A.units+8 < cLine from by omega) key g2 fun hh dd hs=>?_
   have hln:(storedH L κ b r).length≤sizeLine:=by
    have z1:=yDB L κ b r
    have z2:=hr.length
    omega
   refine ⟨upd H3 D (DicO B.w D (storedH L κ b r)),?_,?_⟩
   ·have he:∃ q,hh.get? D=some q:=let ⟨q,_,_,hq,_⟩:=dd; ⟨q,hq⟩
    rw [← eP,← eW] at dd
    exact d_write I (by rw [h1]; exact True.intro) hs he (yBF hw' g1 dd)
   ·refine q3 W3 _ ⟨jEO a3.r a3.l trivial (.inr ⟨_,h1,jYN,jYP⟩),a3.st.put hD a3.l.m,a3.l,_,upd_same,_,rfl,hln,hr.put k1 k2 rb (rv.rep ov) rr⟩
 ·exact q3.elim
end
end Lp
set_option maxHeartbeats 4000000
set_option maxHeartbeats 4000000
set_option maxHeartbeats 4000000
set_option maxHeartbeats 4000000
set_option maxHeartbeats 4000000
set_option maxHeartbeats 4000000
set_option maxHeartbeats 4000000
namespace Lp
open PySem PySem.Spec PyProof.Rows L2
theorem jRX {τ α:Type} {r:R τ α} {P:α→τ→Prop} {E:PV→τ→Prop} (h:r.post P NE):r.nx.post P E:=by
 cases r with
 | ok a s=>exact h
 | exc x s=>exact h.elim
 | bad=>exact h.elim
end Lp
set_option maxHeartbeats 4000000
namespace Lp
open PySem PySem.Spec PyProof.Rows L2
section
variable {P:PV→S→Prop} {PF:Fl→S→Prop} {E:PV→S→Prop} {s:S} {mv mo:ME} {fl:FL} {f:Str}
theorem jYL (h:(mv s).post (fun v s1=>isOwn v=false∧(mo s1).post (fun o s2=>∃ n c fs gs,o=.cel n∧s2.h[n]?=some (some (.ins c fs))∧jXY (fl c) f v fs=some gs∧PF .nx ⟨s2.e,s2.h.set n (some (.ins c gs))⟩) E) E):(jIY fl f mv mo s).post PF E:=by
 unfold jIY
 refine jY (p_mono h (fun v s1 ⟨ov,q⟩=>jY (p_mono q (fun o s2 ⟨n,c,fs,gs,e,e1,e2,q⟩=>?_) fun _ _ z=>z)) fun _ _ z=>z)
 subst e
 simp only [show yBQ (.cel n)=some n from rfl,e1,e2]
 rw [if_neg (by rw [ov]; exact Bool.false_ne_true)]
 exact q
end
def Gr (h h':AH):Prop:=∃ z,h'=h++z
theorem Gr.refl {h:AH}:Gr h h:=⟨[],by simp⟩
theorem Gr.one {h:AH} {x:Option Cell}:Gr h (h++[x]):=⟨_,rfl⟩
theorem Gr.trans {a b c:AH} (h:Gr a b) (k:Gr b c):Gr a c:=by
 obtain ⟨x,rfl⟩:=h
 obtain ⟨y,rfl⟩:=k
 exact ⟨x++y,by simp⟩
theorem Gr.at {h h':AH} {j:Nat} {c:Option Cell} (g:Gr h h') (e:h[j]?=some c):h'[j]?=some c:=by
 obtain ⟨z,rfl⟩:=g
 rw [List.getElem?_append_left (List.getElem?_eq_some_iff.mp e).1]; exact e
theorem Gr.le {h h':AH} (g:Gr h h'):h.length≤h'.length:=by
 obtain ⟨z,rfl⟩:=g
 rw [List.length_append]; omega
structure FrC (i:Nat) (h h':AH):Prop where
 le:h.length≤h'.length
 eq:∀ j,j < h.length→(j < i∨i+3≤j)→h'[j]?=h[j]?
theorem FrC.refl {i:Nat} {h:AH}:FrC i h h:=⟨Nat.le_refl _,fun _ _ _=>rfl⟩
theorem FrC.trans {i:Nat} {a b c:AH} (h:FrC i a b) (k:FrC i b c):FrC i a c:=⟨Nat.le_trans h.le k.le,fun j hj hi=>(k.eq j (Nat.lt_of_lt_of_le hj h.le) hi).trans (h.eq j hj hi)⟩
theorem FrC.set {i j:Nat} {h:AH} {c:Option Cell} (h1:i≤j) (h2:j < i+3):FrC i h (h.set j c):=⟨by rw [List.length_set]; exact Nat.le_refl _,fun k _ hk=>by rw [List.getElem?_set_ne (by omega)]⟩
theorem FrC.at {i j:Nat} {h h':AH} {c:Option Cell} (g:FrC i h h') (e:h[j]?=some c) (hj:j < i∨i+3≤j):h'[j]?=some c:=(g.eq j (List.getElem?_eq_some_iff.mp e).1 hj).trans e
end Lp
set_option maxHeartbeats 4000000
namespace Lp
open PySem PySem.Spec PyProof.Rows L2 LamX NdefX
def spO (B:Bs) (n:Nat) (mb:MS):List V→Hp→VK→Prop:=fun vs H Q=>∃ W h x v rest,vs=v :: rest∧vs.length=4∧HRel B W h H∧Rep B W x v∧(match mb ⟨some x :: List.replicate n none,h⟩ with
 | .ok .nx s'=>∀ W' H',HRel B W' s'.h H'→Step W h H W' s'.h H'→Q .non H'
 | _=>False)
structure OutA (P:Program) (w:World) (K:PySem.W.Frag) (mg:Str→Option Value) (base:Heap) (B:Bs) (k:Nat) (c:Nat) (x:Str) (mb:MS):Prop where
 ex:∃ f fd ps,Meth K (B.cad c) x f∧L2.Binds K fd ps []∧ps.length=4∧∀ (A:Around) (outer:List Env) (s:Shared) (H:Hp) (args:Args) (us:List Value) (vs:List V) (Q:VK) (p:Addr × Obj),L2H.RoomH k A→L2H.PinOk outer H s p→Env0 P w K mg base A outer s H→BindsTo s fd args (ps.zip us)→Vals vs us →
  spO B 3 mb vs H Q→codeAny (model P w) A (.call (.ref f) args) (CR (L2N.CX P w) outer P w H s Q fun _ _ _=>False) s
theorem OutA.mono {P:Program} {w:World} {K:PySem.W.Frag} {mg:Str→Option Value} {base:Heap} {B:Bs} {j k c:Nat} {x:Str} {mb:MS} (F:OutA P w K mg base B j c x mb) (h:j≤k):OutA P w K mg base B k c x mb :=
 let ⟨f,fd,ps,a,b,d,e⟩:=F.ex
 ⟨f,fd,ps,a,b,d,fun A outer s H args us vs Q p r=>e A outer s H args us vs Q p (r.mono h)⟩
section
variable {X:Cx} {B:Bs} {N:Ent} {ctx:Expr} {body:List Stmt} {pos:Pos} {k1 k2 c:Nat} {ix1 ix2:List Nat} {m1 m2:MF} {mx:MS} {me:ME} {mb:MS} {E:XK}
theorem ExcR.on {W W':Wd} {h h':AH} {H0 H H':Hp} {x:PV} {cls:Value} {d:Option Addr} (hl:W.m.length=h.length) (st:Step W h H W' h' H') (e:ExcR B H0 W H x cls d):ExcR B H0 W' H' x cls d:=by
 obtain ⟨c,fs,dd,vs,rfl,rfl,rfl,e1,e2,e3,e4,e5,e6⟩:=e
 have nl:¬ Live W h dd:=fun l=>e6 l.mem
 have nt:NT (.xd ((B.fld c).zip vs)):=fun _ z=>nomatch z
 have fg:FG (H dd):=⟨_,e1,nt,fun _ _ z=>by unfold LamX.CodeO at z; cases z⟩
 exact ⟨c,fs,dd,vs,rfl,rfl,rfl,st.keep _ _ e1 nt nl,e2,e3.mono st.le,e4,st.fgrow dd e5 fg nl,st.notm hl e6 fg.ne⟩
end
end Lp
set_option maxHeartbeats 4000000
set_option maxHeartbeats 4000000
set_option maxHeartbeats 4000000
set_option maxHeartbeats 4000000
namespace Lp
open PySem PySem.Spec PyProof.Rows L2 LamX NdefX PySem.SeqAt
open AutoSeq1 (wpAny_loadPart')
def sI (i:Int):Str:=Str.ofString (toString i)
section
variable {X:Cx} {B:Bs} {N:Ent} {E:XK} {W:Wd} {s:S} {σ:L2.St} {H:Hp} {a b:Expr} {ma':MA} {pos p:Pos} {k c:Nat} {m:MF} {g:List PV→List PV→List PV}
structure MeN2 (P:Program) (w:World) (K:PySem.W.Frag) (mg:Str→Option Value) (base:Heap) (B:Bs) (k c:Nat) (x:Str) (n0:Nat) (ks:List Str) (ix:List Nat) (ds:List PV) (n:Nat) (m:MF):Prop where
 ex:∃ j,j+2≤k∧MeA P w K mg base B j c x n0 ks ix ds n m
theorem MeN2.mono {P:Program} {w:World} {K:PySem.W.Frag} {mg:Str→Option Value} {base:Heap} {B:Bs} {i k:Nat} {c:Nat} {x:Str} {n0:Nat} {ks:List Str} {ix:List Nat} {ds:List PV} {n:Nat} {m:MF} (F:MeN2 P w K mg base B i c x n0 ks ix ds n m) (h:i≤k):MeN2 P w K mg base B k c x n0 ks ix ds n m :=
 let ⟨j,hj,a⟩:=F.ex
 ⟨j,Nat.le_trans hj h,a⟩
end
end Lp
set_option maxHeartbeats 4000000
set_option maxHeartbeats 4000000
set_option Elab.async false
set_option linter.all false
set_option maxHeartbeats 4000000
set_option maxHeartbeats 4000000
set_option maxHeartbeats 4000000
set_option maxHeartbeats 4000000
namespace Lp
open PySem PySem.Spec PyProof.Rows L2 LamX NdefX
section
variable {X:Cx} {B:Bs} {N:Ent} {j:Nat} {WX:L2.WX} {tb:Nat→Option ME} {rest more:List Stmt} {mrest:(Nat→Option ME)→MS} {mm:MS} {ml:ME} {d:LamD} {i:Nat} {x:Str} {pos npos apos cpos lpos:Pos}
theorem LamsT.le {W:Wd} (T:LamsT X B N j tb) (l:N.P.Le W):LamsT X B (N.at W) j tb:=⟨fun k ml e =>
 let ⟨d,f,fa,em,L,hb⟩:=T.at_ k ml e
 ⟨d,f,fa.mono l,l.at em,L,hb⟩⟩
end
end Lp
set_option maxHeartbeats 4000000
set_option maxHeartbeats 4000000
set_option maxHeartbeats 4000000
namespace Lp
open PySem PySem.Spec PyProof.Rows L2
abbrev RunF (r:PySem.W.OpenRow) (as:List Addr) (fa:List FactL) (M:Nat) (w:World):Prop:=RunP r (fun s=>fa.all fun f=>f (frA as s) (tbA as s)) true M w
abbrev RunD (r:PySem.W.OpenRow) (as:List Addr) (fn:List DefL) (M:Nat) (w:World):Prop:=RunP r (fun s=>(fn.all fun d=>d.ok (frA as s),fn.map fun d=>fnL (frA as s) (d.at_ (frA as s)))) (true,fn.map DefL.val) M w
abbrev RunT (r:PySem.W.OpenRow) (as:List Addr) (ts:List He.Tab) (M:Nat) (w:World):Prop:=RunP r (fun s=>ts.map fun t=>He.dicW (frA as s) (t.1 (frA as s))) (ts.map fun t=>some (He.keysIn w.params t.2)) M w
theorem yGA {r:PySem.W.OpenRow} {as:List Addr} {fa:List FactL} {fn:List DefL} {ts:List He.Tab} {M:Nat} {w:World} (n:Nat) (h1:RunF r as (fa.take n) M w) (h2:RunF r as (fa.drop n) M w) (h3:RunD r as fn M w) (h4:RunT r as ts M w) :
  RunO r (hookA as fa fn ts) (fun s=>obsAG as fa fn ts (HandSHeadRun.getT s)) M w:=by
 intro os
 have h1:=h1 os
 have h2:=h2 os
 have h3:=h3 os
 have h4:=h4 os
 cases e:HandSHeadRun.endF (HandSHeadRun.stepQ (HandSHeadRun.denQ HandSHeadRun.tabQ) r.prog w) M r.prog w os with
 | none=>rw [e] at h1; cases h1
 | some s =>
  rw [e] at h1 h2 h3 h4
  injection h1 with h1
  injection h2 with h2
  injection h3 with h3
  injection h4 with h4
  injection h3 with h3 h5
  have h1:((fa.take n).all fun f=>f (frA as s) (tbA as s))=true:=h1
  have h2:((fa.drop n).all fun f=>f (frA as s) (tbA as s))=true:=h2
  have h4:(ts.map fun t=>He.dicW (frA as s) (t.1 (frA as s)))=ts.map fun t=>some (He.keysIn w.params t.2):=h4
  show some (yPT fa fn ts (HandSHeadRun.getT s) as)=some (yHX fn ts w)
  have ea:(fa.all fun f=>f (frA as s) (tbA as s))=true:=by
   rw [← List.take_append_drop n fa,List.all_append,h1,h2]; rfl
  show some ((((fa.all fun f=>f (frA as s) (tbA as s))&&fn.all fun d=>d.ok (frA as s),fn.map fun d=>fnL (frA as s) (d.at_ (frA as s))),ts.map fun t=>He.dicW (frA as s) (t.1 (frA as s))))=some ((true,fn.map DefL.val),ts.map fun t=>some (He.keysIn w.params t.2))
  rw [ea,h3,h5,h4]; rfl
theorem jUI {σ α β:Type} {o:Option σ} {f:σ→α} {g:σ→β} {a:α} {b:β} (h:o.map (fun s=>(f s,g s))=some (a,b)):o.map f=some a:=by
 cases o with
 | none=>cases h
 | some s =>
  injection h with h
  injection h with h1 h2
  exact congrArg some h1
theorem jUA {σ α β:Type} {o:Option σ} {f:σ→α} {g:σ→β} {a:α} {b:β} (h:o.map (fun s=>(f s,g s))=some (a,b)):o.map g=some b:=by
 cases o with
 | none=>cases h
 | some s =>
  injection h with h
  injection h with h1 h2
  exact congrArg some h2
end Lp
set_option maxHeartbeats 4000000
namespace Lp
open PySem PySem.Spec PyProof.Rows L2 LamX NdefX PySem.W
def jDS (me:ME):List PV→S→R S (List PV):=fun acc s=>(me s).nx.bind fun v s1=>if isOwn v=true∨sizeLine≤acc.length then .bad else .ok (acc++[v]) s1
def RAL (B:Bs) (acc:List PV) (W:Wd) (o:HO):Prop:=∃ av,o=.lst av∧Reps B W acc av
theorem jYI {B:Bs}:RAOk (RAL B):=⟨fun l ⟨av,e,r⟩=>⟨av,e,r.mono l⟩,fun ⟨av,e,_⟩=>by subst e; exact ⟨jBG,jUG⟩⟩
def jMH (src:S→R S Sr) (t:Tg) (tt:S→R S Bool) (src1:S→R S Sr) (t1:Tg) (tt1:S→R S Bool) (te:ME) (vs vs1:List Nat):S→R S (List PV):=fun s=>(src s).bind fun r s1=>jDQ r t tt (jJB src1 t1 tt1 (jDS te) vs1) vs r.xs [] ⟨jM s1.e vs,s1.h⟩
section
variable {X:Cx} {B:Bs} {D:Addr} {W1:Wd} {s1:S} {H1:Hp}
theorem yZO {me:ME} (hl:W1.m.length=s1.h.length) (hD:H1 D=none):BodyOk B D W1 s1 H1 (RAL B) (fun σ H Nx=>jYC B me σ H fun y H7=>∃ acc,H7 D=some (.lst acc)∧acc.length < sizeLine∧Nx (upd H7 D (.lst (acc++[y])))) (jDS me):=by
 intro N acc W s σ H Nx a q
 refine ⟨N,W,s,a.r,R.post_mono (R.post_nx (E':=fun _ _=>False) (R.post_bind q)) (fun v s2 q2 W2 H2 r2 st2 v' rv=>?_) fun _ _ z=>z.elim⟩
 have a2:=a.on hl jYI r2 st2
 split at q2
 ·exact q2.elim
 ·rename_i c
  simp only [not_or] at c
  have ov:isOwn v=false:=by simpa using c.1
  obtain ⟨o,h1,av,rfl,ra⟩:=a2.o
  refine ⟨av,h1,by rw [← ra.length]; omega,?_⟩
  exact q2 W2 _ ⟨jEO a2.r a2.l (by show (av++[v']).length≤sizeLine; rw [List.length_append,List.length_singleton,← ra.length]; omega) (.inr ⟨_,h1,jBG,jUG⟩),a2.st.put hD a2.l.m,a2.l,_,upd_same,_,rfl,ra.append (.one (rv.rep ov))⟩
end
section
variable {X:Cx} {B:Bs} {N:Ent} {WX:L2.WX} {src src1:S→R S Sr} {t t1:Tg} {tt tt1:S→R S Bool} {te:ME} {elt t0e i0 t1e i1:Expr} {f0 f1:List Expr} {sc:Scope} {own:List (Str × Nat)} {vs1:List Nat} {p:Pos}
theorem yGX {σ:L2.St} {H:Hp} {Q:VK} {vs:List Nat} (hK:X.K=B.K) (hv:∀ i∈t.sl,i∈vs) (hv1:∀ i∈t1.sl,i∈vs1) (h:tN B N WX (jMH src t tt src1 t1 tt1 te vs vs1) σ H Q) :
  tLc2 (tI B N WX src) (gT X.K t) (yBS B tt) (yQP B src1) (gT X.K t1) (yBS B tt1) (jYC B te) vs vs1 σ H Q:=by
 obtain ⟨W,s,r0,h⟩:=h
 refine ⟨W,s,r0,R.post_mono (R.post_bind h) (fun r s1 q W1 H1 r1 st1 still hline J wk D hD=>?_) fun x s1 q=>q⟩
 have rw1:Rel B N W1 ⟨jM s1.e vs,s1.h⟩ σ H1:=jHF r1 rfl
 have l1:=rw1.loose hD
 have hl:W1.m.length=(⟨jM s1.e vs,s1.h⟩:S).h.length:=rw1.slen
 have a0:AccAt B D W1 ⟨jM s1.e vs,s1.h⟩ H1 (RAL B) (N.at W1) [] W1 ⟨jM s1.e vs,s1.h⟩ σ (upd H1 D (.lst [])) :=
  ⟨(jEO (o:=.lst []) rw1 l1 (Nat.zero_le _) (.inl hD)).pinAt,(StepE.refl rw1.hr).put hD l1.m,⟨l1.F,l1.m,l1.o,l1.e⟩,_,upd_same,[],rfl,.nil⟩
 refine jNX (N:=N.at W1) hK hv hl jYI wk (fun acc W' s' H' a=>⟨a.r.pin,fun _=>a.st.st⟩) (yHC hK hv1 hl jYI (yZO hl hD)) a0 still ?_
 refine R.post_of_nx (jQW _ _ _ _ _ _ _ _) (R.post_mono q (fun acc s2 q2 W2 H2 a2=>?_) fun _ _ _=>trivial)
 obtain ⟨o,h2,av,rfl,ra⟩:=a2.o
 have r2:=a2.r.unpin r1.pin
 exact q2 W2 H2 r2 ((jEL st1).trans r0.slen a2.st) D av (st1.st.tr _ hD) ⟨a2.l.F,a2.l.m,a2.l.o,a2.l.e⟩ h2 ra
theorem jXI {i:Nat} {y:Str} {py spos:Pos} (hK:X.K=B.K) (hc:X.calm=true) (hN:X.N.Nodup) (hy:X.N[i]?=some y) (hyl:X.env.scope.names.lookup y=some .local) (hsw:swapsWith (.ListComp elt [⟨t0e,i0,f0,0⟩,⟨t1e,i1,f1,0⟩] sc p) (some (.Name y py)) spos.line X.env=pure true)
  (hi:SimI X B N WX t0e i0 src) (ok:BlkOk X.N X.env.scope sc own) (hv:∀ i∈t.sl,i∈own.map (·.2)) (hv1:∀ i∈t1.sl,i∈vs1) (hvv:∀ i∈vs1,i∈own.map (·.2))
  (hg:InBlk X sc fun Y=>PG Y t0e (gT X.K t)) (ht:∀ N,InBlk X sc fun Y=>SimTs Y B N WF f0 tt) (he:∀ N,InBlk X sc fun Y=>SimE Y B N WF elt te) (hs:∀ x,foldedSetIterable i0 X.env x=pure x)
  (hi1:∀ N,InBlk X sc fun Y=>SimI Y B N WF t1e i1 src1) (hg1:InBlk X sc fun Y=>PG Y t1e (gT X.K t1)) (ht1:∀ N,InBlk X sc fun Y=>SimTs Y B N WF f1 tt1) (hs1:∀ en x,foldedSetIterable i1 en x=pure x) :
  SimS X B N WX (.Assign [.Name y py] (.ListComp elt [⟨t0e,i0,f0,0⟩,⟨t1e,i1,f1,0⟩] sc p) spos) (kY i (shN (jMH src t tt src1 t1 tt1 te (own.map (·.2)) vs1))) :=
 (ps_setLc2 hc hN hy hyl hsw hi ok hvv hg (fun s H C cl fp=>jQT fun N=>ht N s H C cl fp) (fun s H C cl fp=>yNQ fun N=>hi1 N s H C cl fp) hg1 (fun s H C cl fp=>jQT fun N=>ht1 N s H C cl fp) (fun s H C cl fp=>jUU fun N=>he N s H C cl fp) hs hs1).imp fun D σ H h=>yGX hK hv hv1 (yDO (yFF h))
end
end Lp
set_option maxHeartbeats 4000000
namespace Lp
open PySem PySem.Spec PyProof.Rows L2
@[irreducible] def jQM (src:S→R S Sr) (t:Tg) (tt:S→R S Bool) (src1:S→R S Sr) (t1:Tg) (tt1:S→R S Bool) (te:ME) (vs vs1:List Nat):S→R S (List PV):=jMH src t tt src1 t1 tt1 te vs vs1
section
variable {α β:Type} {vs1:List Nat} {e0:List (Option PV)} {h:AH} {t1:Tg} {tt1:S→R S Bool} {te:ME} {r:Sr} {g:β→PV} {c:β→Bool} {el:β→PV} {M:Nat}
theorem jUV (hw:r.w=[]) (w0:jM e0 vs1=e0) (hM:M < sizeLine):∀ {us:List β} {acc:List PV},
  (∀ b∈us,∃ e2,uW t1 (g b) e0=some e2∧jM e2 vs1=e0∧(tt1 ⟨e2,h⟩).post (fun k s2=>k=c b∧s2=⟨e2,h⟩) NE∧(te ⟨e2,h⟩).post (fun y s2=>y=el b∧isOwn y=false∧s2=⟨e2,h⟩) NE) →
  acc.length+(us.filter c).length≤M→(jDQ r t1 tt1 (jDS te) vs1 (us.map g) acc ⟨e0,h⟩).post (fun acc' s'=>acc'=acc++(us.filter c).map el∧s'=⟨e0,h⟩) NE
 | [],acc,_,_=>⟨by simp,rfl⟩
 | b :: us,acc,hb,hl=>by
  obtain ⟨e2,b1,w2,q1,q2⟩:=hb b (List.mem_cons_self ..)
  show (match uW t1 (g b) (jM e0 vs1) with
   | some e1=>(tt1 ⟨e1,h⟩).nx.bind fun b s2=>(if b=true then (jDS te acc s2).nx else .ok acc s2).bind fun acc' s3=>if uO s3.h r then jDQ r t1 tt1 (jDS te) vs1 (us.map g) acc' ⟨jM s3.e vs1,s3.h⟩ else .bad
   | none=>.bad).post _ _
  rw [w0,b1]
  refine jY (p_mono (jRX q1) (fun k s2 ⟨hk,es⟩=>?_) fun _ _ z=>z)
  subst hk es
  have st:∀ hh,uO hh r:=fun hh p hp=>by rw [hw] at hp; cases hp
  cases hc:c b with
  | true =>
   have hl':acc.length+((us.filter c).length+1)≤M:=by
    rw [List.filter_cons_of_pos hc] at hl
    exact hl
   rw [if_pos rfl]
   refine jY (jRX (p_mono (show (jDS te acc ⟨e2,h⟩).post (fun acc' s3=>acc'=acc++[el b]∧s3=⟨e2,h⟩) NE from ?_) (fun acc' s3 ⟨ea,es⟩=>?_) fun _ _ z=>z))
   ·unfold jDS
    refine jY (p_mono (jRX q2) (fun y s3 ⟨ey,oy,es⟩=>?_) fun _ _ z=>z)
    subst ey es
    rw [if_neg (by rw [oy]; rintro (z | z); cases z; omega)]
    exact ⟨rfl,rfl⟩
   ·subst ea es
    show (if uO h r then jDQ r t1 tt1 (jDS te) vs1 (us.map g) (acc++[el b]) ⟨jM e2 vs1,h⟩ else .bad).post _ _
    rw [if_pos (st h),w2,List.filter_cons_of_pos hc]
    refine p_mono (jUV hw w0 hM (fun b hb'=>hb b (List.mem_cons_of_mem _ hb')) (by rw [List.length_append]; show acc.length+1+_≤M; omega)) (fun acc' s' ⟨e1,e2⟩=>⟨?_,e2⟩) fun _ _ z=>z
    rw [e1,List.map_cons,List.append_assoc]; rfl
  | false =>
   rw [if_neg Bool.false_ne_true]
   show (if uO h r then jDQ r t1 tt1 (jDS te) vs1 (us.map g) acc ⟨jM e2 vs1,h⟩ else .bad).post _ _
   rw [if_pos (st h),w2,List.filter_cons_of_neg (by rw [hc]; decide)]
   rw [List.filter_cons_of_neg (by rw [hc]; decide)] at hl
   exact jUV hw w0 hM (fun b hb'=>hb b (List.mem_cons_of_mem _ hb')) hl
end
section
variable {α β:Type} {vs vs1:List Nat} {e0:List (Option PV)} {h:AH} {t t1:Tg} {tt tt1:S→R S Bool} {src src1:S→R S Sr} {te:ME} {r:Sr} {f:α→PV} {us:α→List β} {g:β→PV} {c:α→β→Bool} {el:α→β→PV} {M:Nat}
theorem yAW (hw:r.w=[]) (w0:jM e0 vs=e0) (hM:M < sizeLine):∀ {rs:List α} {acc:List PV},
  (∀ a∈rs,∃ e1,uW t (f a) e0=some e1∧(tt ⟨e1,h⟩).post (fun k s2=>k=true∧s2=⟨e1,h⟩) NE∧jM (jM e1 vs1) vs1=jM e1 vs1∧jM (jM e1 vs1) vs=e0 ∧
   (src1 ⟨e1,h⟩).post (fun r1 s2=>r1.w=[]∧r1.o=false∧r1.xs=(us a).map g∧s2=⟨e1,h⟩) NE ∧
   (∀ b∈us a,∃ e2,uW t1 (g b) (jM e1 vs1)=some e2∧jM e2 vs1=jM e1 vs1∧(tt1 ⟨e2,h⟩).post (fun k s2=>k=c a b∧s2=⟨e2,h⟩) NE∧(te ⟨e2,h⟩).post (fun y s2=>y=el a b∧isOwn y=false∧s2=⟨e2,h⟩) NE)) →
  acc.length+(rs.flatMap fun a=>((us a).filter (c a)).map (el a)).length≤M→(jDQ r t tt (jJB src1 t1 tt1 (jDS te) vs1) vs (rs.map f) acc ⟨e0,h⟩).post (fun acc' s'=>acc'=acc++(rs.flatMap fun a=>((us a).filter (c a)).map (el a))∧s'=⟨e0,h⟩) NE
 | [],acc,_,_=>⟨by simp,rfl⟩
 | a :: rs,acc,ha,hl=>by
  obtain ⟨e1,b1,q1,w1,w2,q2,hb⟩:=ha a (List.mem_cons_self ..)
  rw [List.flatMap_cons,List.length_append,List.length_map] at hl
  show (match uW t (f a) (jM e0 vs) with
   | some e1=>(tt ⟨e1,h⟩).nx.bind fun b s2=>(if b=true then (jJB src1 t1 tt1 (jDS te) vs1 acc s2).nx else .ok acc s2).bind fun acc' s3=>if uO s3.h r then jDQ r t tt (jJB src1 t1 tt1 (jDS te) vs1) vs (rs.map f) acc' ⟨jM s3.e vs,s3.h⟩ else .bad
   | none=>.bad).post _ _
  rw [w0,b1]
  refine jY (p_mono (jRX q1) (fun k s2 ⟨hk,es⟩=>?_) fun _ _ z=>z)
  subst hk es
  have st:∀ hh,uO hh r:=fun hh p hp=>by rw [hw] at hp; cases hp
  rw [if_pos rfl]
  refine jY (jRX (p_mono (show (jJB src1 t1 tt1 (jDS te) vs1 acc ⟨e1,h⟩).post (fun acc' s3=>acc'=acc++((us a).filter (c a)).map (el a)∧s3=⟨jM e1 vs1,h⟩) NE from ?_) (fun acc' s3 ⟨ea,es⟩=>?_) fun _ _ z=>z))
  ·unfold jJB
   refine jY (p_mono (jRX q2) (fun r1 s3 ⟨h1,h2,h3,es⟩=>?_) fun _ _ z=>z)
   subst es
   rw [h2,if_neg Bool.false_ne_true,h3]
   exact jUV h1 w1 hM hb (by omega)
  ·subst ea es
   show (if uO h r then jDQ r t tt (jJB src1 t1 tt1 (jDS te) vs1) vs (rs.map f) _ ⟨jM (jM e1 vs1) vs,h⟩ else .bad).post _ _
   rw [if_pos (st h),w2]
   refine p_mono (yAW hw w0 hM (fun a ha'=>ha a (List.mem_cons_of_mem _ ha')) (by rw [List.length_append,List.length_map]; omega)) (fun acc' s' ⟨e1,e2⟩=>⟨?_,e2⟩) fun _ _ z=>z
   rw [e1,List.flatMap_cons,List.append_assoc]
theorem yGG {PA:List PV→S→Prop} {E:PV→S→Prop} {s:S} (h:(src s).post (fun r s1=>r.w=[]∧jM (jM s1.e vs) vs=jM s1.e vs∧∃ (rs:List α) (f:α→PV) (us:α→List β) (g:β→PV) (c:α→β→Bool) (el:α→β→PV),r.xs=rs.map f ∧
   (∀ a∈rs,∃ e1,uW t (f a) (jM s1.e vs)=some e1∧(tt ⟨e1,s1.h⟩).post (fun k s2=>k=true∧s2=⟨e1,s1.h⟩) NE∧jM (jM e1 vs1) vs1=jM e1 vs1∧jM (jM e1 vs1) vs=jM s1.e vs ∧
    (src1 ⟨e1,s1.h⟩).post (fun r1 s2=>r1.w=[]∧r1.o=false∧r1.xs=(us a).map g∧s2=⟨e1,s1.h⟩) NE ∧
    (∀ b∈us a,∃ e2,uW t1 (g b) (jM e1 vs1)=some e2∧jM e2 vs1=jM e1 vs1∧(tt1 ⟨e2,s1.h⟩).post (fun k s2=>k=c a b∧s2=⟨e2,s1.h⟩) NE∧(te ⟨e2,s1.h⟩).post (fun y s2=>y=el a b∧isOwn y=false∧s2=⟨e2,s1.h⟩) NE)) ∧
   (rs.flatMap fun a=>((us a).filter (c a)).map (el a)).length < sizeLine∧PA (rs.flatMap fun a=>((us a).filter (c a)).map (el a)) ⟨jM s1.e vs,s1.h⟩) E):(jQM src t tt src1 t1 tt1 te vs vs1 s).post PA E:=by
 unfold jQM jMH
 refine jY (p_mono h (fun r s1 ⟨hw,w0,rs,f,us,g,c,el,hx,ha,hz,q⟩=>?_) fun _ _ z=>z)
 rw [hx]
 refine p_mono (yAW (f:=f) (us:=us) (g:=g) (c:=c) (el:=el) hw w0 hz ha (by rw [List.length_nil]; omega)) (fun acc' s' ⟨e1,e2⟩=>?_) fun _ _ z=>z.elim
 subst e1 e2
 exact q
end
end Lp
set_option maxHeartbeats 4000000
set_option maxHeartbeats 4000000
namespace Lp
open PySem PySem.Spec PyProof.Rows L2 LamX NdefX
section
variable {X:Cx} {C:Addr} {k n:Nat} {fs:List V→List (Str × V)} {x:Str} {p pos:Pos} {e:Expr} {es:List Expr} {ta:TA}
structure ExcKH (P:Program) (w:World) (K:PySem.W.Frag) (mg:Str→Option Value) (base:Heap) (k:Nat) (x:Str) (C:Addr) (n:Nat) (fs:List V→List (Str × V)):Prop where
 ex:∃ B i newId bmB fI fd ps,BltX B i newId bmB∧VeC K B i newId bmB C∧PySem.W.findIn K (.ref C) "__init__" = some (some (.ref fI))∧PySem.W.typeIn K (.ref fI)=some (.type "function")∧L2H.FnH P w K mg base (L2N.CX P w) k fI fd ps (jSR C n fs)∧Binds K fd ps []∧mg x=some (.ref C)
end
structure ExcCH (P:Program) (w:World) (K:PySem.W.Frag) (mg:Str→Option Value) (base:Heap) (B:Bs) (k:Nat) (x:Str) (c n:Nat) (fv:List PV→List PV):Prop where
 ex:∃ fs,ExcKH P w K mg base k x (B.cad c) n fs∧n≤1000∧∀ (W:Wd) (xs:List PV) (vs:List V),Reps B W xs vs→xs.length=n→∃ us,fs vs=(B.fld c).zip us∧us.length=(B.fld c).length∧Reps B W (fv xs) us
end Lp
set_option maxHeartbeats 4000000
namespace Lp
open PySem PySem.Spec PyProof.Rows L2 LamX NdefX
def nxF (m:MF):MF:=fun vs h=>match m vs h with
 | .exc _ _=>.bad
 | r=>r
theorem yOS {P:Program} {w:World} {K:PySem.W.Frag} {mg:Str→Option Value} {base:Heap} {k n:Nat} {f:Addr} {fd:FuncData} {ps:List Str} {B:Bs} {m:MF} (F:FnOk P w K mg base (L2.CX P w) k f fd ps (spF B n m)):FnOk P w K mg base (L2N.CX P w) k f fd ps (spF B n (nxF m)):=by
 have go:∀ {vs:List V} {H:Hp} {Q:VK} {E:XK},spF B n (nxF m) vs H Q E→spF B n m vs H Q fun _ _ _=>False:=fun {vs H Q E} ⟨W,h,xs,a,b,c,q⟩=>by
  refine ⟨W,h,xs,a,b,c,?_⟩
  unfold nxF at q
  cases e:m xs h with
  | ok v h'=>rw [e] at q; exact q
  | exc x h'=>rw [e] at q; exact q.elim
  | bad=>rw [e] at q; exact q.elim
 refine ⟨fun vs H Q E q=>F.len vs H Q _ (go q),fun A outer s H args us vs Q E hr e0 hb r q=>?_⟩
 refine codeAny_mono (F.run A outer s H args us vs Q _ hr e0 hb r (go q)) fun rr s' hq=>?_
 cases rr with
 | ok fl =>
  cases fl with
  | ret u=>exact hq
  | next=>exact hq
  | brk=>exact hq
  | cont=>exact hq
 | error e =>
  obtain ⟨_,_,_,_,_,_,_,_,_,_,_,_,z⟩:=(show L2.CX P w outer H s (fun _ _ _=>False) e s' from hq)
  exact z.elim
structure SmL (P:Program) (w:World) (K:PySem.W.Frag) (mg:Str→Option Value) (base:Heap) (B:Bs) (k:Nat) (x m:Str) (n0:Nat) (ks:List Str) (ix:List Nat) (n:Nat) (mf:MF):Prop where
 ex:∃ f fd ps p C,FnOk P w K mg base (L2.CX P w) k f fd ps (spF B n mf)∧mg x=some (.ref C)∧SMet K C m p f∧KBn K fd ps n0 ks (fun us ws=>pick ix (us++ws)) fun vs zs=>pick ix (vs++zs)
section
variable {P:Program} {w:World} {K:PySem.W.Frag} {mg:Str→Option Value} {base:Heap} {B:Bs} {j k:Nat} {x m:Str} {n0:Nat} {ks:List Str} {ix:List Nat} {n:Nat} {mf:MF}
theorem SmL.mono (F:SmL P w K mg base B j x m n0 ks ix n mf) (h:j≤k):SmL P w K mg base B k x m n0 ks ix n mf :=
 let ⟨f,fd,ps,p,C,a,b⟩:=F.ex
 ⟨f,fd,ps,p,C,a.mono h,b⟩
theorem SmL.nx (F:SmL P w K mg base B k x m n0 ks ix n mf):SmK P w K mg base B k x m n0 ks ix n (nxF mf) :=
 let ⟨f,fd,ps,p,C,a,b⟩:=F.ex
 ⟨f,fd,ps,p,C,yOS a,b⟩
end
def ExcAH (P:Program) (w:World) (K:PySem.W.Frag) (mg:Str→Option Value) (base:Heap) (B:Bs) (k:Nat) (x:Str) (c n:Nat) (fv:List PV→List PV):Prop:=∃ j,j+1≤k∧ExcCH P w K mg base B j x c n fv
theorem ExcAH.mono {P:Program} {w:World} {K:PySem.W.Frag} {mg:Str→Option Value} {base:Heap} {B:Bs} {i k:Nat} {x:Str} {c n:Nat} {fv:List PV→List PV} (F:ExcAH P w K mg base B i x c n fv) (h:i≤k):ExcAH P w K mg base B k x c n fv :=
 let ⟨j,hj,a⟩:=F
 ⟨j,Nat.le_trans hj h,a⟩
end Lp
set_option maxHeartbeats 4000000
namespace Lp
open PySem PySem.Spec PyProof.Rows L2
section
variable {mb mh:MS} {okc:Nat→Bool} {s:S} {PF:Fl→S→Prop} {E:PV→S→Prop}
def SrcW (h:AH) (x:PV) (xs:List PV) (w:List (Nat × List PV)):Prop:=(x=.tup xs∧w=[])∨(x=.lst xs∧w=[])∨∃ n,x=.cel n∧h[n]?=some (some (.lst xs))∧w=[(n,xs)]
theorem SrcW.own {h:AH} {x:PV} {xs:List PV} {w:List (Nat × List PV)} (k:SrcW h x xs w):isOwn x=false:=by
 rcases k with ⟨rfl,_⟩ | ⟨rfl,_⟩ | ⟨n,rfl,_⟩ <;> rfl
end
end Lp
set_option maxHeartbeats 4000000
namespace Lp
open PySem PySem.Spec PyProof.Rows L2 LamX NdefX PySem.W
abbrev jTU (kx vx t0 i0:Expr) (f0:List Expr) (sc:Scope) (p:Pos):Expr:=.DictComp kx vx [⟨t0,i0,f0,0⟩] sc p
theorem yXN (kx vx t0 i0:Expr) (f0:List Expr) (sc:Scope) (p:Pos) (it:Value) (D:Addr) (en:Env) :
  compTurn (jTU kx vx t0 i0 f0 sc p) 0 it (.ref D) en=(do
   standAt i0.pos
   match ← pyNext it with
   | none=>pure (.done .next)
   | some v =>
    letOwnedTupleGo t0 it v
    assign t0 en v
    let mut yes:=true
    for q in f0 do
     if yes then yes ← isTrue q en (eval q en)
    if yes then
     (do
      let a ← eval kx en
      let b ← holding [a] (eval vx en)
      standAt { kx.pos with endLine:=vx.pos.endLine,endCol:=vx.pos.endCol }
      holding [a,b] (dictSet D a b))
    again (.compLoop (jTU kx vx t0 i0 f0 sc p) 0 it (.ref D) en)):=by rfl
section
variable {P:Program} {w:World} {A:Around} {R:Result→Shared→Prop} {s:Shared} {kx vx t0 i0:Expr} {f0:List Expr} {sc:Scope} {p:Pos} {it:Value} {D:Addr} {en:Env}
theorem yXO (Z:Nat→Shared→Prop)
  (turn:∀ n s,Z n s→wpAny (model P w) A (pyNext it) (fun r a=>match r with
   | none=>R (.ok .next) a
   | some v=>wpAny (model P w) A (letOwnedTupleGo t0 it v) (fun _ b=>wpAny (model P w) A (assign t0 en v) (fun _ c=>TestsW P w A en f0 (fun ok d=>if ok=true then wpAny (model P w) A (eval kx en) (fun x e=>wpAny (model P w) A (eval vx en) (fun y f =>
       wpAny (model P w) A (dictSet D x y) (fun _ g=>∃ m,m < n∧Z m g) (NB P w A en R) f) (NB P w A en R) e) (NB P w A en R) d
      else ∃ m,m < n∧Z m d) (NB P w A en R) c) (NB P w A en R) b) (NB P w A en R) a) (NB P w A en R) s)
  (n:Nat) (h:Z n s):codeAny (model P w) A (.compLoop (jTU kx vx t0 i0 f0 sc p) 0 it (.ref D) en) R s:=by
 refine codeAny_loop rfl Z (fun n s hZ=>?_) n h
 show wpAny _ A ((compTurn (jTU kx vx t0 i0 f0 sc p) 0 it (.ref D) en).onRaise (fun x=>do noteFrame x en; theTreesLotGoes x)) _ _ s
 refine wpAny_noted ?_
 rw [yXN]
 refine wpAny_bind (wpAny_standAt (wpAny_bind (wpAny_mono (turn n s hZ) (fun r a ha=>?_) fun _ _ z=>z)))
 cases r with
 | none=>exact wpAny_pure ha
 | some v =>
  refine wpAny_bind (wpAny_mono ha (fun _ b hb=>wpAny_bind (wpAny_mono hb (fun _ c hc=>wpAny_bind (wpAny_mono hc (fun ok d hd=>?_) fun _ _ z=>z)) fun _ _ z=>z)) fun _ _ z=>z)
  cases ok with
  | false=>exact wpAny_pure ⟨rfl,hd⟩
  | true=>exact wpAny_bind (wpAny_bind (wpAny_mono hd (fun x e he=>wpAny_bind (wpAny_holding (wpAny_mono he (fun y f hf=>wpAny_bind (wpAny_standAt (wpAny_holding (wpAny_mono hf (fun _ g hg=>wpAny_pure ⟨rfl,hg⟩) fun _ _ z=>z)))) fun _ _ z=>z))) fun _ _ z=>z))
end
section
variable {X:Cx} {pins:List (Addr × Obj)} {s:Shared} {σ:L2.St} {H:Hp} {Q:VK} {kx vx t0 i0:Expr} {f0:List Expr} {sc:Scope} {own:List (Str × Nat)} {p p':Pos} {wi:TI} {g:TG} {tt:TT} {tk tv:TE} {O0:Addr→HO} {use:Option (Value→Sem Unit)} {Qf:Value→Shared→Prop}
theorem dc1G (hc:X.calm=true) (hN:X.N.Nodup) (I:Inv X pins σ H s) (hi:PI X t0 i0 wi) (ok:BlkOk X.N X.env.scope sc own)
    (hO:∀ (H:Hp) (h:Heap),sysModules < h.objs.size→ObjOk X.prog X.w H (h.push { cls:=.type "dict", data:=.dict #[] }) h.objs.size (O0 h.objs.size))
    (hg:InBlk X sc fun Y=>PG Y t0 g) (ht:InBlk X sc fun Y=>PTs Y f0 tt) (hk:InBlk X sc fun Y=>PE Y kx tk) (he:InBlk X sc fun Y=>PE Y vx tv) (hs:∀ x,foldedSetIterable i0 X.env x=pure x)
    (h:yQE X O0 wi g tt tk tv (own.map (·.2)) σ H Q)
    (out:∀ D C s' m H',Inv X pins σ H' s'→Q (.ref D) H'→s'.heap.Ns C m→FpOk X pins H' C→compPost (model X.prog X.w) X.A X.xe use Qf (.ref D) C (.ok .next) s') :
    wpAny (model X.prog X.w) X.A (comprehension (jTU kx vx t0 i0 f0 sc p) sc X.env p' newDict false (eval i0 X.env) use) Qf X.xe s:=by
  have free:∀ y∈sc.names,y.2=.free→∃ c,X.env.cells.lookup y.1=some c:=fun y hy e=>(ok.free y hy e).elim (fun k=>I.ok.has _ (.inl k)) fun k=>I.ok.has _ (.inr k)
  refine wpAny_comprehension_free (use:=use) rfl hs (closure_ok free) ok.kind (fun y hy e=>by rw [ok.uniq y hy,e]) (thn (hi.run pins s σ H _ I h) fun xv s1 hx=>thn hx fun itv u2 h2=>?_)
  obtain ⟨it,fp,tn,J,H2,e,I2,T,st2,ff,q⟩:=h2
  subst e
  refine wpAny_newObj_type (newEnv_comp ?_)
  generalize eD:u2.heap.objs.size=D
  have fresh:H2 D=none:=I2.hok.fresh (Nat.le_of_eq eD)
  obtain ⟨W,⟨m0,w0⟩,turn⟩:=q D fresh
  generalize e3:({ u2 with heap:=u2.heap.push { cls:=.type "dict", data:=.dict #[] } }:Shared)=u3
  have I3:Inv X pins σ (upd H2 D (O0 D)) u3:=by
    rw [← e3]
    refine I2.laid (t':=u2.toks) (fun b o z=>Heap.get?_push_of_some _ z) (Nat.le_of_eq eD) ?_
    rw [← eD]
    exact hO _ _ I2.big
  have h3:u3.heap=u2.heap.push { cls:=.type "dict", data:=.dict #[] }:=by rw [← e3]
  have low:∀ b∈fp,b < u2.heap.objs.size:=fun b hb=>let ⟨_,z,_⟩:=T.obj _ _ st2 b hb; Heap.lt_size z
  have f3:∀ b∈fp,FpOk X pins (upd H2 D (O0 D)) b∧b < u3.heap.objs.size:=fun b hb=>by
    refine ⟨⟨?_,(ff b hb).2⟩,by rw [h3,Heap.size_push]; exact Nat.lt_succ_of_lt (low b hb)⟩
    rw [upd_ne (by rw [← eD]; exact Nat.ne_of_lt (low b hb))]
    exact (ff b hb).1
  have t3:tn 0 u3.heap:=T.keep _ _ _ st2 fun b _ o z=>by rw [h3]; exact Heap.get?_push_of_some _ z
  have I4:=block_start I3 ok hN f3
  have jg:=hg u3 (upd H2 D (O0 D)) u3.heap.objs.size (cellsFrom (u3.heap.objs.size+1) sc.names (cloFrom X.env.cells sc.names [])) fp
  have jt:=ht u3 (upd H2 D (O0 D)) u3.heap.objs.size (cellsFrom (u3.heap.objs.size+1) sc.names (cloFrom X.env.cells sc.names [])) fp
  have jk:=hk u3 (upd H2 D (O0 D)) u3.heap.objs.size (cellsFrom (u3.heap.objs.size+1) sc.names (cloFrom X.env.cells sc.names [])) fp
  have jv:=he u3 (upd H2 D (O0 D)) u3.heap.objs.size (cellsFrom (u3.heap.objs.size+1) sc.names (cloFrom X.env.cells sc.names [])) fp
  show codeAny _ _ (.compStart (jTU kx vx t0 i0 f0 sc p) 0 (.ref it) (.ref D) (compEnvC sc (cellsFrom (u3.heap.objs.size+1) sc.names (cloFrom X.env.cells sc.names [])) u3.heap.objs.size X.env)) (compPost (model X.prog X.w) X.A X.xe use Qf (.ref D) u3.heap.objs.size) { u3 with heap:=pushCells (u3.heap.push { cls:=.type "dict", data:=.dict #[] }) sc.names }
  have nfp:∀ b∈fp,(upd H2 D (O0 D)) b=none:=fun b hb=>(f3 b hb).1.1
  generalize ec:compEnvC sc (cellsFrom (u3.heap.objs.size+1) sc.names (cloFrom X.env.cells sc.names [])) u3.heap.objs.size X.env=en at I4 jg jt jk jv ⊢
  have cL:en.locals=u3.heap.objs.size:=by subst ec; rfl
  generalize eH:upd H2 D (O0 D)=H3 at I3 I4 jg jt jk jv w0 nfp f3
  generalize e4:({ u3 with heap:=pushCells (u3.heap.push { cls:=.type "dict", data:=.dict #[] }) sc.names }:Shared)=u4 at I4 ⊢
  have t4:tn 0 u4.heap:=T.keep _ _ _ t3 fun b _ o z=>by rw [← e4]; exact pushCells_keeps _ _ _ _ (Heap.get?_push_of_some _ z)
  have quiet:∀ {σ':L2.St} {H':Hp} {s':Shared},Inv (X.blk u3 H3 sc en fp) [] σ' H' s'→(∀ b∈fp,H' b=none)→∀ b∈fp,FpOk (X.blk u3 H3 sc en fp) [] H' b:=fun {σ' H' s'} J' hn b hb =>
    ⟨hn b hb,(J'.ok.exf b hb).1,J'.ok.exfs b hb,.inl hb,fun x c z=>(J'.ok.exf b hb).2 x c z,fun q hq=>absurd (show q∈([]:List (Addr × Obj))++[] from hq) (by simp)⟩
  have loop:codeAny (model X.prog X.w) X.A (.compLoop (jTU kx vx t0 i0 f0 sc p) 0 (.ref it) (.ref D) en) (compPost (model X.prog X.w) X.A X.xe use Qf (.ref D) u3.heap.objs.size) u4:=by
    refine yXO (fun n s'=>∃ i H',Inv (X.blk u3 H3 sc en fp) [] (wipe σ (own.map (·.2))) H' s'∧tn i s'.heap∧(∀ b∈fp,H' b=none)∧W i n H') ?_ m0 ⟨0,H3,I4,t4,nfp,w0⟩
    rintro n u5 ⟨i,H5,I5,t5,n5,w5⟩
    rcases turn i n H5 w5 with ⟨stop,fin0⟩ | ⟨go,Nx,hNx,step⟩
    · refine thnF (T.done (X.blk u3 H3 sc en fp) rfl rfl rfl hc i [] u5 _ H5 (fun _ _=>False) I5 (quiet I5 n5) t5 stop) fun r u6 ⟨hr,I6⟩=>?_
      subst hr
      have I7:Inv X pins σ H5 u6:=I3.call' (ch:=fp) I6.os I6.base I6.hok I6.bare fun b hb=>⟨(f3 b hb).1.2.2.2.1,(f3 b hb).1.2.1,(f3 b hb).1.2.2.2.2.1,(f3 b hb).1.2.2.2.2.2⟩
      have nC:H5 u3.heap.objs.size=none:=by
        have z:H5 en.locals=none:=I6.free
        rw [cL] at z
        exact z
      obtain ⟨m,hn,_⟩:=I6.loc
      have hn:u6.heap.Ns en.locals m:=hn
      rw [cL] at hn
      exact out D u3.heap.objs.size u6 m H5 I7 fin0 hn (I3.fpOk (Nat.le_refl _) nC)
    · refine thnF (T.item (X.blk u3 H3 sc en fp) rfl rfl rfl hc i [] u5 _ H5 (fun _ _=>False) I5 (quiet I5 n5) t5 go) fun r u6 ⟨v,hr,h6⟩=>?_
      subst hr
      refine thnF h6 fun _ u7 ⟨x,H7,I7,r7,y7,t7,n7⟩=>?_
      have P7:=I7.pinned (quiet I7 n7) (T.obj _ _ t7)
      refine thnF (jg.run _ u7 _ H7 x v _ P7 r7 (step x H7 y7)) fun _ u8 ⟨σ8,H8,I8,w8,q8⟩=>?_
      refine thnF (jt.run _ u8 σ8 H8 _ I8 q8) fun b u9 ⟨H9,I9,q9⟩=>?_
      have back:∀ {σ9:L2.St} {s':Shared} {H':Hp},Inv (X.blk u3 H3 sc en fp) ([]++pinsAt fp u7.heap) σ9 H' s'→(wipe σ (own.map (·.2))).length=σ9.length→(∀ (j:Nat) v,(wipe σ (own.map (·.2)))[j]?=some (some v)→σ9[j]?=some (some v))→Nx H' →
          ∃ m,m < n∧∃ i H',Inv (X.blk u3 H3 sc en fp) [] (wipe σ (own.map (·.2))) H' s'∧tn i s'.heap∧(∀ b∈fp,H' b=none)∧W i m H':=fun {σ9 s' H'} J' hl hk nx=>by
        obtain ⟨m',hm,w'⟩:=hNx H' nx
        have held:∀ b∈fp,∀ o,u7.heap.get? b=some o→s'.heap.get? b=some o∧H' b=none:=fun b hb o z=>let y:=J'.pin (b,o) (List.mem_append_right _ (List.mem_append_right _ (mem_pinsAt hb z))); ⟨y.1,y.2.1⟩
        exact ⟨m',hm,i+1,H',(J'.unpinned (pins:=[])).weak hl hk,T.keep _ _ _ t7 fun b hb o z=>(held b hb o z).1,fun b hb=>let ⟨o,z,_⟩:=T.obj _ _ t7 b hb; (held b hb o z).2,w'⟩
      have l8:(wipe σ (own.map (·.2))).length=σ8.length:=by rw [← w8,wipe_length]
      have k8:∀ (j:Nat) v,(wipe σ (own.map (·.2)))[j]?=some (some v)→σ8[j]?=some (some v):=fun j v z=>by
        rw [← w8] at z
        exact (wipe_some z).1
      cases b with
      | false =>
        rw [if_neg Bool.false_ne_true] at q9
        show ∃ m,m < n∧_
        exact back I9 l8 k8 q9
      | true =>
        rw [if_pos rfl] at q9
        show wpAny _ _ (eval kx en) _ _ _
        refine thnF (jk.run _ u9 σ8 H9 _ I9 q9) fun z uh ⟨yk,Hh,Ih,rh,qh⟩=>thnF (jv.run _ uh σ8 Hh _ Ih qh) fun z2 uj ⟨yv,Hj,Ij,rj,put⟩=>?_
        exact wpAny_mono (put (X.blk u3 H3 sc en fp) _ σ8 uj z z2 _ rfl rfl rfl Ij rh rj) (fun _ uk ⟨Hk,Ik,nx⟩=>back Ik l8 k8 nx) fun _ _ z=>z
  exact codeAny_compStart_dict loop (T.self X.A 0 _ _ _ t4 loop)
theorem yVV (hc:X.calm=true) (hN:X.N.Nodup) (hi:PI X t0 i0 wi) (ok:BlkOk X.N X.env.scope sc own)
    (hO:∀ (H:Hp) (h:Heap),sysModules < h.objs.size→ObjOk X.prog X.w H (h.push { cls:=.type "dict", data:=.dict #[] }) h.objs.size (O0 h.objs.size))
    (hg:InBlk X sc fun Y=>PG Y t0 g) (ht:InBlk X sc fun Y=>PTs Y f0 tt) (hk:InBlk X sc fun Y=>PE Y kx tk) (he:InBlk X sc fun Y=>PE Y vx tv) (hs:∀ x,foldedSetIterable i0 X.env x=pure x) :
    PE X (jTU kx vx t0 i0 f0 sc p) (yQE X O0 wi g tt tk tv (own.map (·.2))):=by
  refine ⟨fun pins s σ H Q I h=>?_⟩
  rw [show jTU kx vx t0 i0 f0 sc p=Expr.DictComp kx vx [⟨t0,i0,f0,0⟩] sc p from rfl,arm_eval_DictComp]
  refine dc1G hc hN I hi ok hO hg ht hk he hs h fun D C s' m H' J q hn ⟨a0,a1,a2,a3,a4,a5⟩=>⟨m,hn,fun h'' sb=>?_⟩
  exact ⟨.ref D,H',J.turned (t':=s'.toks) (fun b o hb z=>(sb.2 b hb).trans z) a0 a1 a3 a4 a5,rfl,q⟩
end
def yDE (src:S→R S Sr) (t:Tg) (tt:S→R S Bool) (mk mv:ME) (vs:List Nat):ME:=fun s=>(src s).bind fun r s1=>(jDQ r t tt (jQI mk mv) vs r.xs [] ⟨jM s1.e vs,s1.h⟩).bind fun acc s2=>.ok (.cel s2.h.length) ⟨s2.e,s2.h++[some (.dic acc)]⟩
section
variable {X:Cx} {B:Bs} {N:Ent} {WX:L2.WX} {src:S→R S Sr} {t:Tg} {tt:S→R S Bool} {mk mv:ME} {kx vx t0e i0:Expr} {f0:List Expr} {sc:Scope} {own:List (Str × Nat)} {p:Pos}
theorem yHK {σ:L2.St} {H:Hp} {Q:VK} {vs:List Nat} (hK:X.K=B.K) (hw:X.w=B.w) (hu:U9 X.A) (hv:∀ i∈t.sl,i∈vs) (h:tE B N WX (yDE src t tt mk mv vs) σ H Q) :
  yQE X (fun D=>DicO B.w D []) (tI B N WX src) (gT X.K t) (yBS B tt) (jYC B mk) (jYC B mv) vs σ H Q:=by
 obtain ⟨W,s,r0,h⟩:=h
 refine ⟨W,s,r0,R.post_mono (R.post_bind h) (fun r s1 q W1 H1 r1 st1 still hline J wk D hD=>?_) fun x s1 q=>q⟩
 have rw1:Rel B N W1 ⟨jM s1.e vs,s1.h⟩ σ H1:=jHF r1 rfl
 have l1:=rw1.loose hD
 have hl:W1.m.length=(⟨jM s1.e vs,s1.h⟩:S).h.length:=rw1.slen
 have a0:AccAt B D W1 ⟨jM s1.e vs,s1.h⟩ H1 (RAD B D) (N.at W1) [] W1 ⟨jM s1.e vs,s1.h⟩ σ (upd H1 D (DicO B.w D [])) :=
  ⟨(jEO (o:=DicO B.w D []) rw1 l1 trivial (.inl hD)).pinAt,(StepE.refl rw1.hr).put hD l1.m,⟨l1.F,l1.m,l1.o,l1.e⟩,_,upd_same,[],rfl,Nat.zero_le _,.nil⟩
 refine jNX (N:=N.at W1) hK hv hl jYJ wk (fun acc W' s' H' a=>⟨a.r.pin,fun _=>a.st.st⟩) (yZJ hK hw hu hl hD) a0 still ?_
 refine R.post_of_nx (jQW _ _ _ _ _ _ _ _) (R.post_mono (R.post_bind q) (fun acc s2 q2 W2 H2 a2=>?_) fun _ _ _=>trivial)
 obtain ⟨o,h2,L,rfl,hz,hr⟩:=a2.o
 have r2:=a2.r.unpin r1.pin
 have l2:Loose N W2 s2 σ D:=⟨a2.l.F,a2.l.m,a2.l.o,a2.l.e⟩
 have r3:=jWQ (c:=.dic acc) r2 l2 (by rw [h2]; exact fun z=>nomatch z) ⟨L,h2,hz,hr⟩
 have st2:StepE W s H W2 s2 H2:=(jEL st1).trans r0.slen a2.st
 refine q2 _ H2 r3 ⟨st2.st.snoc (st1.st.tr _ hD),st2.eo⟩ _ (Rep.cel ?_).hand
 show (W2.m++[D])[s2.h.length]?=some D
 rw [← r2.hr.len]; simp
theorem yMZ (hK:X.K=B.K) (hw:X.w=B.w) (hu:U9 X.A) (hc:X.calm=true) (hN:X.N.Nodup) (hi:SimI X B N WX t0e i0 src) (ok:BlkOk X.N X.env.scope sc own) (hv:∀ i∈t.sl,i∈own.map (·.2))
  (hg:InBlk X sc fun Y=>PG Y t0e (gT X.K t)) (ht:∀ N,InBlk X sc fun Y=>SimTs Y B N WF f0 tt) (hk:∀ N,InBlk X sc fun Y=>SimE Y B N WF kx mk) (he:∀ N,InBlk X sc fun Y=>SimE Y B N WF vx mv) (hs:∀ x,foldedSetIterable i0 X.env x=pure x) :
  SimE X B N WX (.DictComp kx vx [⟨t0e,i0,f0,0⟩] sc p) (yDE src t tt mk mv (own.map (·.2))) :=
 (yVV hc hN hi ok (O0:=fun D=>DicO B.w D []) (fun H h hb=>by rw [← hw]; exact yCV h hb) hg (fun s H C cl fp=>jQT fun N=>ht N s H C cl fp) (fun s H C cl fp=>jUU fun N=>hk N s H C cl fp) (fun s H C cl fp=>jUU fun N=>he N s H C cl fp) hs).imp fun σ H Q h=>yHK hK hw hu hv h
end
end Lp
set_option maxHeartbeats 4000000
set_option maxHeartbeats 4000000
set_option maxHeartbeats 4000000
namespace Lp
open PySem PySem.Spec PyProof.Rows L2
@[irreducible] def yDJ (src:S→R S Sr) (t:Tg) (tt:S→R S Bool) (mk mv:ME) (vs:List Nat):ME:=yDE src t tt mk mv vs
theorem jQO (e:List (Option PV)) (i:Nat):∀ vs:List Nat,(jM e vs)[i]?=if i∈vs∧i < e.length then some none else e[i]?
 | []=>by simp [jM]
 | v :: vs=>by
  unfold jM
  rw [List.getElem?_set,jQO e i vs,jDV]
  by_cases h:v=i
  ·subst h
   by_cases q:v < e.length
   ·simp [q]
   ·simp [q]
  ·have h2:i≠v:=fun z=>h z.symm
   simp [h,h2]
theorem yBU (e:List (Option PV)) (vs:List Nat):jM (jM e vs) vs=jM e vs:=by
 apply List.ext_getElem?
 intro i
 rw [jQO,jQO,jDV]
 split <;> rfl
section
variable {P:PV→S→Prop} {PF:Fl→S→Prop} {E:PV→S→Prop} {s:S}
theorem yYW {src:S→R S Sr} {t:Tg} {tt:S→R S Bool} {mk mv:ME} {vs:List Nat}
  (h:(src s).post (fun r s1=>∃ I:Nat→List (PV × PV)→AH→Prop,r.w=[]∧I 0 [] s1.h ∧
   (∀ k x acc h,r.xs[k]?=some x→I k acc h→∃ e1,uW t x (jM s1.e vs)=some e1∧(tt ⟨e1,h⟩).post (fun b s2=>if b=true then
    (mk s2).post (fun kx s3=>(mv s3).post (fun y s4=>∃ κ,tupK kx=some κ∧isOwn y=false∧acc.length < sizeLine∧I (k+1) (jTQ acc kx κ y) s4.h∧jM s4.e vs=jM s1.e vs) NE) NE
    else I (k+1) acc s2.h∧jM s2.e vs=jM s1.e vs) NE) ∧
   ∀ acc h,I r.xs.length acc h→P (.cel h.length) ⟨jM s1.e vs,h++[some (.dic acc)]⟩) E):(yDJ src t tt mk mv vs s).post P E:=by
 unfold yDJ yDE
 refine jY (p_mono h (fun r s1 ⟨I,hw,i0,hb,hP⟩=>?_) fun _ _ z=>z)
 have ww:jM (jM s1.e vs) vs=jM s1.e vs:=yBU _ _
 have go:∀ (ys:List PV) (k:Nat) (acc:List (PV × PV)) (h0:AH),r.xs.drop k=ys→k≤r.xs.length→I k acc h0 →
   (jDQ r t tt (jQI mk mv) vs ys acc ⟨jM s1.e vs,h0⟩).post (fun acc s=>I r.xs.length acc s.h∧s.e=jM s1.e vs) NE:=by
  intro ys
  induction ys with
  | nil =>
   intro k acc h0 hy hk hi
   have hk2:r.xs.length≤k:=List.drop_eq_nil_iff.mp hy
   exact ⟨(by omega:k=r.xs.length) ▸ hi,rfl⟩
  | cons y ys ih =>
   intro k acc h0 hy hk hi
   have hkl:k < r.xs.length:=by
    by_cases q:k < r.xs.length
    ·exact q
    ·rw [List.drop_eq_nil_iff.mpr (by omega)] at hy; cases hy
   have hd:r.xs.drop k=r.xs[k] :: r.xs.drop (k+1):=List.drop_eq_getElem_cons hkl
   rw [hd] at hy
   injection hy with e1 e2
   obtain ⟨e3,b3,q⟩:=hb k y acc h0 (by rw [List.getElem?_eq_getElem hkl,e1]) hi
   unfold jDQ
   rw [ww,b3]
   refine jY (jRX (p_mono q (fun b s2 q2=>?_) fun _ _ z=>z))
   have body:(if b=true then (jQI mk mv acc s2).nx else .ok acc s2:R S (List (PV × PV))).post (fun acc s4=>I (k+1) acc s4.h∧jM s4.e vs=jM s1.e vs) NE:=by
    cases b with
    | false=>exact q2
    | true =>
     refine jRX ?_
     unfold jQI
     have q2:(mk s2).post _ NE:=q2
     refine jY (jRX (p_mono q2 (fun x s3 q3=>?_) fun _ _ z=>z))
     refine jY (jRX (p_mono q3 (fun y s4 ⟨κ,a1,a2,a3,a4,a5⟩=>?_) fun _ _ z=>z))
     rw [a1]
     show (if isOwn y=true∨sizeLine≤acc.length then R.bad else R.ok (jTQ acc x κ y) s4).post _ _
     rw [if_neg (by rw [a2]; simp; omega)]
     exact ⟨a4,a5⟩
   refine jY (p_mono body (fun acc s4 ⟨q4,q5⟩=>?_) fun _ _ z=>z)
   rw [if_pos (jPO hw),q5]
   exact ih (k+1) acc s4.h e2 hkl q4
 refine jY (p_mono (go r.xs 0 [] s1.h rfl (Nat.zero_le _) i0) (fun acc s2 ⟨q1,q2⟩=>?_) fun _ _ z=>z.elim)
 exact jTR (by rw [q2]; exact hP acc s2.h q1)
end
end Lp
set_option maxHeartbeats 4000000
set_option maxHeartbeats 4000000
set_option maxHeartbeats 4000000
set_option maxHeartbeats 4000000
namespace Lp
open PySem PySem.Spec PyProof.Rows L2 LamX NdefX ClX
structure SupO (K:PySem.W.Frag) (D fB:Addr):Prop where
 sup:PySem.W.ks_superIn K D D "__init__" = some (some (.ref fB))
 ty:PySem.W.typeIn K (.ref fB)=some (.type "function")
 fn:PySem.W.fnIn K fB=true
 mro:PySem.W.mroIn K D (.ref D)=some true
section
variable {P:Program} {w:World} {K:PySem.W.Frag} {mg:Str→Option Value} {base:Heap} {CX:CXT} {D f fB cc cda a dx:Addr} {qual:Str} {params:Arguments} {body:List Stmt} {scope:Scope} {fd:FuncData} {A:Around} {outer:List Env} {s0 s:Shared} {H H0:Hp} {E E2:XK} {N:List Str} {pins:List (Addr × Obj)} {σ:L2.St}
variable {p0 p1 p2 p3 ap:Pos} {e:Expr} {es:List Expr} {fs:List (Str × V)}
theorem yBV {pl:Sem Bool} {body':List Stmt} {R:Flow→Shared→Prop} {sp:Sp} {k:Nat} {t:TA} {Q:Hp→Prop} (S:SupF P K D qual params body scope f cc cda fd) (T:SupO K D fB) (F:FnR P w K mg base CX k fB sp)
  (hr:Room k (ncx CX P w K mg base N (vP qual params body scope cc cda) f A outer s0 H0 E).A) (hx:Passes CX (ncx CX P w K mg base N (vP qual params body scope cc cda) f A outer s0 H0 E) E2) (hsu:mg "super" = none)
  (I:Inv (ncx CX P w K mg base N (vP qual params body scope cc cda) f A outer s0 H0 E) pins σ H s) (hN:N[0]?=some ("self" : Str)) (h0:σ[0]?=some (some (.ref a))) (ha:H a=some (.ins D dx fs))
  (hA:PA (ncx CX P w K mg base N (vP qual params body scope cc cda) f A outer s0 H0 E) (e :: es) t)
  (hst:starEach (e :: es) (envF (vP qual params body scope cc cda) f s0.heap.objs.size)=(false,eval e (envF (vP qual params body scope cc cda) f s0.heap.objs.size)) :: starEach es (envF (vP qual params body scope cc cda) f s0.heap.objs.size))
  (hpl:(backTo p2 (starEach es (envF (vP qual params body scope cc cda) f s0.heap.objs.size))).any (·.1)=false)
  (ht:eval (.Call (.Attribute (.Call (.Name "super" p0) [] [] p1) "__init__" ap) (e :: es) [] p2) (envF (vP qual params body scope cc cda) f s0.heap.objs.size)=(do
   let ov ← attributeBase (.Call (.Name "super" p0) [] [] p1) "__init__" (envF (vP qual params body scope cc cda) f s0.heap.objs.size) (eval (.Call (.Name "super" p0) [] [] p1) (envF (vP qual params body scope cc cda) f s0.heap.objs.size))
   standAt ap.atName
   let (f1,first) ← holding [ov] (getMethod ov "__init__" pl)
   callWith p2 f1 first (backTo p2 (starEach (e :: es) (envF (vP qual params body scope cc cda) f s0.heap.objs.size))) []))
  (hq:t σ H fun vs H1=>sp (.ref a :: vs) H1 (fun _ H2=>Q H2) E2)
  (h:∀ s' H',Inv (ncx CX P w K mg base N (vP qual params body scope cc cda) f A outer s0 H0 E) pins σ H' s'→Q H'→R .next s') :
  _root_.PySem.wpAt (model P w) (A.deeper (envF (vP qual params body scope cc cda) f s0.heap.objs.size)) (.func body' (envF (vP qual params body scope cc cda) f s0.heap.objs.size))
   (exec (.Expr (.Call (.Attribute (.Call (.Name "super" p0) [] [] p1) "__init__" ap) (e :: es) [] p2) p3) (envF (vP qual params body scope cc cda) f s0.heap.objs.size)) R (ncx CX P w K mg base N (vP qual params body scope cc cda) f A outer s0 H0 E).xe s:=by
 obtain ⟨oc,od,dV,kV,doc,pm,an,ct,osl,rfl,lk⟩:=S.fn
 obtain ⟨ccl,cdd,vs,ccs,file,tf,lc,hvs,hfile⟩:=S.file
 obtain ⟨cl,cld,csl,lcc⟩:=S.cell
 obtain ⟨cdD,hD⟩:=S.cls
 obtain ⟨ar,hp,har⟩:=S.self
 have X:K.In s.heap:=I.kIn
 obtain ⟨oD,hD1,hD2⟩:∃ oD,s.heap.get? D=some oD∧oD.data=.cls cdD:=by
  unfold PySem.W.clsIn at hD
  split at hD
  ·rename_i c d cd' sl ho
   cases hD
   exact ⟨_,X _ _ ho,rfl⟩
  ·cases hD
 obtain ⟨mA,O,_,_,_,_⟩:=ins_get I.hok ha
 have hxo:s.heap.get? a=some (PySem.W.instObj D dx):=O.obj
 have hne:a≠D:=fun z=>by
  rw [z] at hxo
  rw [hxo] at hD1
  cases hD1
  cases hD2
 have hint:interactive (envF (vP qual params body scope cc cda) f s0.heap.objs.size)=false:=by
  have hk:scope.kind=.function:=I.ok.kind
  unfold interactive
  simp [hk]
 refine PySem.ks_wpAt_Expr_any ?_ hint
 refine PySem.ks_wpAt_MethodCall (pl:=pl) ?_ ht
 refine PySem.ks_wpAt_super_base (env:=envF (vP qual params body scope cc cda) f s0.heap.objs.size) S.hs S.hc rfl rfl (X _ _ lk) rfl hp rfl (X _ _ lc) rfl hvs hfile S.top ?_
 obtain ⟨mb,b1,b2⟩:=I.mod.blt
 have b1:base.Ns builtinsNs mb:=b1
 refine PySem.W.ks_loadName_global I.ok.kind S.hs (Calls.loadGlobal_builtin (env:=envF (vP qual params body scope cc cda) f s0.heap.objs.size) (I.mod.glob.keeps I.bk) hsu (b1.keeps I.bk) ((b2 _ (by decide)).trans (show bootBuiltins "super" = some (.type "super") by decide +kernel)) ⟨rfl,?_⟩)
 refine wpAny_loadName_free I.ok.kind S.hc rfl ⟨_,X _ _ lcc,rfl⟩ ?_
 obtain ⟨m,hns,hl⟩:=I.loc
 obtain ⟨u,ru,lu⟩:=hl 0 "self" _ hN h0 (.inl S.hl)
 obtain rfl:u=Value.ref a:=ru
 have hm:m ("self" : Str)=some (.ref a):=by
  rcases lu with ⟨_,z⟩ | ⟨z,_⟩
  ·exact z
  ·have z:scope.names.lookup ("self" : Str)=some .cell∨scope.names.lookup ("self" : Str)=some .free:=z
   rw [S.hl] at z
   rcases z with z | z <;> cases z
 rw [har]
 refine wpAny_loadName_local I.ok.kind S.hl hns hm ?_
 have I0:=I
 obtain ⟨hh,g,d,tk,os⟩:=s
 refine PySem.ks_wpAny_isType_cls hD1 hD2 ⟨rfl,?_⟩
 refine PySem.ks_wpAny_call_super hD1 hD2 hxo rfl (fun c z=>nomatch z) (PySem.W.looks_mroIn X T.mro) (fun h1 e1 k1=>?_)
 have I1:=I.kept (h':=h1) (t':=tk) k1
 have hsup:=T.sup
 unfold PySem.W.ks_superIn at hsup
 rw [hD] at hsup
 obtain ⟨of,hof,hofc⟩:∃ of,h1.get? fB=some of∧of.cls=.type "function" := by
  have ht':(K.lookup fB).map (·.cls)=some (.type "function"):=T.ty
  cases z:K.lookup fB with
  | none=>rw [z] at ht'; cases ht'
  | some of=>rw [z] at ht'; exact ⟨of,I1.kIn _ _ z,Option.some.inj ht'⟩
 refine PySem.ks_wpAny_getMethod_super e1 (PySem.W.looks_opaque I1.kIn S.sta) (l₀:=cdD.mro) ?_ rfl I1.kIn hsup hof hofc hne rfl ?_
 ·exact fun A Q E s k q=>wpAny_bind ((PySem.W.looks_clsIn I1.kIn hD) A _ E s k (wpAny_pure q))
 have I2:=met_new (g:=fB) (C:=a) I1
 refine callwith_cm I2 (base_none I1 (Nat.le_refl _)) T.fn (thn (hA.run p2 _ _ σ H _ I2 hq) fun us s3 ⟨vs2,H2,I3,rv,q2⟩=>⟨⟨pin_at I3,I3.kIn⟩,?_⟩) hst hpl
 refine thn (run_cm F hr hx I3 rv q2) fun u s4 ⟨v,H4,I4,_,q4⟩=>h s4 H4 I4 q4
end
def jQC (c n:Nat) (m:MF) (ma:MA):MS:=fun s=>match s.e[0]? with
 | some (some o)=>if clsOf s.h o=some c∧isOwn o=false then (ma s).bind fun vs s1=>if yW vs=true then (jGI n m (o :: vs) s1).bind fun _ s2=>.ok .nx s2 else .bad else .bad
 | _=>.bad
theorem R.bind_bind {τ α β γ:Type} (r:R τ α) (f:α→τ→R τ β) (g:β→τ→R τ γ):(r.bind f).bind g=r.bind fun v s=>(f v s).bind g:=by cases r <;> rfl
theorem jZE {B:Bs} {W:Wd} {h:AH} {H:Hp} {xs:List PV} {vs:List V} {k:Nat} {τ:L2.St} (hr:HRel B W h H) (r:Reps B W xs vs) (hk:τ.length=k) :
  Rel B ⟨W,h,H,hr.len,W⟩ W ⟨xs.map some++List.replicate k none,h⟩ (vs.map some++τ) H:=by
 have at_:∀ (i:Nat) (x:PV),(xs.map some++List.replicate k none)[i]?=some (some x)→xs[i]?=some x:=fun i x e=>by
  by_cases hi:i < (xs.map some).length
  ·rw [List.getElem?_append_left hi,List.getElem?_map] at e
   cases q:xs[i]? with
   | none=>rw [q] at e; cases e
   | some y=>rw [q] at e; cases e; rfl
  ·rw [List.getElem?_append_right (by omega)] at e
   rw [List.getElem?_replicate] at e
   split at e <;> cases e
 refine ⟨hr,Step.refl hr,by simp [r.length,hk],fun i x e=>?_,fun i j x y a hij e1 e2 o1 o2 s1 s2=>?_,.refl W⟩
 ·obtain ⟨v,ev,rv⟩:=r.get (at_ i x e)
  refine ⟨v,?_,rv.slot⟩
  rw [List.getElem?_append_left (by rw [List.length_map]; exact (List.getElem?_eq_some_iff.mp ev).1),List.getElem?_map,ev]
  rfl
 ·rw [r.no x (List.mem_of_getElem? (at_ i x e1))] at o1
  cases o1
section
variable {P:Program} {w:World} {K:PySem.W.Frag} {mg:Str→Option Value} {base:Heap} {f fB cc cda:Addr} {qual:Str} {params:Arguments} {scope:Scope} {fd fdB:FuncData} {N ps psB:List Str} {B:Bs} {c n nB k kk:Nat} {mB:MF} {ma:MA} {mb:MS}
variable {p0 p1 p2 p3 ap:Pos} {e:Expr} {es:List Expr} {st0:Stmt} {rest:List Stmt}
def SupEvO (e:Expr) (es:List Expr) (p0 p1 p2 ap:Pos) (env:Env):Prop:=∃ pl:Sem Bool,eval (.Call (.Attribute (.Call (.Name "super" p0) [] [] p1) "__init__" ap) (e :: es) [] p2) env=(do
   let ov ← attributeBase (.Call (.Name "super" p0) [] [] p1) "__init__" env (eval (.Call (.Name "super" p0) [] [] p1) env)
   standAt ap.atName
   let (f1,first) ← holding [ov] (getMethod ov "__init__" pl)
   callWith p2 f1 first (backTo p2 (starEach (e :: es) env)) [])
theorem yIP (S:SupF P K (B.cad c) qual params (st0 :: rest) scope f cc cda fd) (T:SupO K (B.cad c) fB) (F:FnOk P w K mg base (L2N.CX P w) k fB fdB psB (spF B nB mB)) (hB:Binds K fdB psB []) (hsu:mg "super" = none) (sc:NScope N ps ["__class__"] scope)
    (hps:ps[0]?=some ("self" : Str)) (hn:ps.length=n) (hk:N.length - n=kk) (e0:st0=.Expr (.Call (.Attribute (.Call (.Name "super" p0) [] [] p1) "__init__" ap) (e :: es) [] p2) p3)
    (hst:∀ env:Env,starEach (e :: es) env=(false,eval e env) :: starEach es env)
    (hpl:∀ env:Env,(backTo p2 (starEach es env)).any (·.1)=false)
    (ht:∀ L:Addr,SupEvO e es p0 p1 p2 ap (envF (vP qual params (st0 :: rest) scope cc cda) f L))
    (hb:∀ (A:Around) (outer:List Env) (s:Shared) (H:Hp) (E:XK) (Nn:Ent),Bdy (ncx (L2N.CX P w) P w K mg base N (vP qual params (st0 :: rest) scope cc cda) f A outer s H E) E k →
      SimA (ncx (L2N.CX P w) P w K mg base N (vP qual params (st0 :: rest) scope cc cda) f A outer s H E) B Nn (fun c d _ H=>E c d H) (e :: es) ma∧SimSs (ncx (L2N.CX P w) P w K mg base N (vP qual params (st0 :: rest) scope cc cda) f A outer s H E) B Nn (fun c d _ H=>E c d H) rest mb) :
    FnOk P w K mg base (L2N.CX P w) (k+1) f fd ps (spF B n (mkF kk (yI (jQC c nB mB ma) mb))):=by
  refine ⟨fun vs H Q E ⟨W,h,xs,hr,r,e,_⟩=>by rw [hn,← e,r.length],fun A outer s H args us vs Q E hr e1 hbd r q=>?_⟩
  obtain ⟨W,h,xs,hrel,rx,hl,q⟩:=q
  have S0:=S
  obtain ⟨oc,od,dV,kV,doc,pm,an,ct,osl,rfl,lk⟩:=S.fn
  obtain ⟨cl,cld,csl,lcc⟩:=S.cell
  have KX:K.In s.heap:=e1.mod.kin.keeps fun b o e=>(e1.bs b o e).1
  have lim:s.heap.NoLimit:=e1.mod.nolimit.keeps fun b o e=>(e1.bs b o e).1
  have hcc0:H cc=none:=(e1.bs cc _ (e1.mod.kin _ _ lcc)).2
  have CA:CellsAt [(("__class__" : Str),cc)] ["__class__"] [some (.ref (B.cad c))] s.heap H:=by
    have one:∀ (y:Str) (z:Addr),([(("__class__" : Str),cc)]:List (Str × Addr)).lookup y=some z→y = "__class__" ∧ z=cc:=fun y z e=>by
      rw [List.lookup_cons] at e
      split at e
      · rename_i q; cases e; exact ⟨beq_iff_eq.mp q,rfl⟩
      · cases e
    refine ⟨rfl,fun y z e=>?_,fun x y z e1 e2=>?_,fun i y e=>?_⟩
    · obtain ⟨_,rfl⟩:=one y z e
      exact ⟨hcc0,_,_,KX _ _ lcc,rfl⟩
    · rw [(one x z e1).1,(one y z e2).1]
    · cases i with
      | zero =>
        cases e
        refine ⟨cc,rfl,fun v ev=>?_⟩
        cases ev
        exact ⟨.ref (B.cad c),rfl,_,KX _ _ lcc,rfl⟩
      | succ i=>simp at e
  have hlv:vs.length=ps.length:=by rw [hn,← hl,rx.length]
  have hpl0:ps.length+1≤N.length:=by
    have z:=congrArg List.length sc.pre
    rw [List.length_take,List.length_append] at z
    simp only [List.length_singleton] at z
    omega
  have hkd:scope.kind=.function:=sc.kind
  refine PySem.ks_codeAny_call_defAt (fd:=PySem.W.ksFn "__init__" qual params (st0 :: rest) scope dV kV doc pm an (.ref cda) ct cc) (body:=st0 :: rest) (binds:=ps.zip us) hr.depth (KX _ _ lk) rfl lim (PySem.W.codeRec_of KX S.code) rfl hbd sc.nocell (fun ⟨n,_⟩ hy=>sc.par n (List.of_mem_zip hy).1) (fun h₁ hns kp=>?_) sc.co sc.gen hkd
  have I:Inv (ncx (L2N.CX P w) P w K mg base N (vP qual params (st0 :: rest) scope cc cda) f A outer s H E) [] (startF N vs [some (.ref (B.cad c))]) H { s with heap:=h₁,toks:=s.toks+(ps.zip us).length }:=inv_startN sc hr.hd e1 hlv r CA hns kp
  obtain ⟨pl,ht⟩:=ht s.heap.objs.size
  have bd:Bdy (ncx (L2N.CX P w) P w K mg base N (vP qual params (st0 :: rest) scope cc cda) f A outer s H E) E k:=⟨L2N.takes_of rfl rfl rfl rfl,passes_of rfl,hr.deeper _⟩
  obtain ⟨sa,sr⟩:=hb A outer s H E ⟨W,h,H,hrel.len,W⟩ bd
  have rs:Rel B ⟨W,h,H,hrel.len,W⟩ W ⟨xs.map some++List.replicate kk none,h⟩ (startF N vs [some (.ref (B.cad c))]) H:=by
    unfold startF
    refine jZE hrel rx ?_
    simp only [List.length_append,List.length_singleton,List.length_replicate]
    omega
  have hP:PostS B ⟨W,h,H,hrel.len,W⟩ (fun c d _ H=>E c d H) { nx:=fun _ H'=>Q .non H',rt:=Q } (yI (jQC c nB mB ma) mb ⟨xs.map some++List.replicate kk none,h⟩):=by
    unfold PostS
    unfold mkF at q
    cases e1:yI (jQC c nB mB ma) mb ⟨xs.map some++List.replicate kk none,h⟩ with
    | bad=>rw [e1] at q; exact q.elim
    | exc x1 s1=>rw [e1] at q; exact fun W' σ' H' cls d r' ex=>q W' H' cls d r'.hr r'.st ex
    | ok fl s1 =>
      rw [e1] at q
      cases fl with
      | rt v=>exact fun W' σ' H' v' r' rv=>q W' H' v' r'.hr r'.st rv
      | nx=>exact fun W' σ' H' r'=>q W' H' .non r'.hr r'.st .non
      | bk=>exact q.elim
      | ct=>exact q.elim
  clear q
  unfold yI jQC at hP
  have hN0:N[0]?=some ("self" : Str):=by
    have z:=sc.pre
    have:(N.take (ps.length+(["__class__"]:List Str).length))[0]?=(ps++(["__class__"]:List Str))[0]?:=by rw [z]
    rw [List.getElem?_take_of_lt (by simp)] at this
    have hp0:0 < ps.length:=(List.getElem?_eq_some_iff.mp hps).1
    rw [this,List.getElem?_append_left hp0]
    exact hps
  split at hP
  · rename_i o eo
    split at hP
    · rename_i hc
      obtain ⟨hc1,hc2⟩:=hc
      obtain ⟨v0,ev0,sl0⟩:=rs.env 0 o eo
      unfold clsOf at hc1
      cases ei:jLT h o with
      | none=>rw [ei] at hc1; cases hc1
      | some p =>
        obtain ⟨c1,fs⟩:=p
        rw [ei] at hc1
        have hc1:c=c1:=(Option.some.inj hc1).symm
        subst hc1
        obtain ⟨a,dx,vs1,rfl,hH,hle,rs1⟩:=jUH hrel sl0.hand ei
        rw [R.bind_bind] at hP
        show _root_.PySem.wpAt (model P w) (A.deeper (envF (vP qual params (st0 :: rest) scope cc cda) f s.heap.objs.size)) (.func (st0 :: rest) (envF (vP qual params (st0 :: rest) scope cc cda) f s.heap.objs.size)) (execs (st0 :: rest) (envF (vP qual params (st0 :: rest) scope cc cda) f s.heap.objs.size)) _ _ _
        refine PySem.ks_wpAt_execs_cons ?_
        subst e0
        refine yBV (pl:=pl) (R:=_) S0 T (F.raw hB .nil) (hr.deeper _) (L2N.passes_call bd.tk fun _ _ _ _ h=>h) hsu I hN0 ev0 hH sa (hst _) (hpl _) ht
          (Q:=fun H'=>tS B ⟨W,h,H,hrel.len,W⟩ (fun c d _ H=>E c d H) mb { nx:=fun _ H'=>Q .non H',rt:=Q } (startF N vs [some (.ref (B.cad c))]) H') ?_ fun s' H' J hq=>?_
        · refine ⟨W,_,rs,(PostS.bindE hP).mono fun us1 W1 s1 H1 r1 st1 q vs1' rv1=>?_⟩
          split at q
          · rename_i hsh
            rw [R.bind_bind] at q
            have ro:=((sl0.hand).on rs.slen st1.st).rep hc2
            have z:=jMP (WX:=fun c d _ H=>E c d H) (Q:=fun _ H2=>tS B ⟨W,h,H,hrel.len,W⟩ (fun c d _ H=>E c d H) mb { nx:=fun _ H'=>Q .non H',rt:=Q } (startF N vs [some (.ref (B.cad c))]) H2) r1 (.cons ro (rv1.reps hsh)) ((PostS.bindE q).mono fun u W2 s2 H2 r2 _ q2 u' _=>⟨W2,s2,r2,q2⟩)
            rw [List.append_nil]
            exact z
          · exact q.elim
        · refine wpAt_of_wpAny (wpAny_mono (sr.run [] s' _ _ _ J hq) (fun fl s2 hs=>?_) fun _ _ z=>z)
          cases fl with
          | ret u =>
            obtain ⟨v,σ',H',J,rv,q⟩:=hs
            exact ⟨v,H',J.os,J.bare,J.base,J.hok,rv,q⟩
          | next =>
            obtain ⟨σ',H',J,q⟩:=hs
            exact ⟨V.non,H',J.os,J.bare,J.base,J.hok,rfl,q⟩
          | brk =>
            obtain ⟨_,_,_,q⟩:=hs
            exact False.elim q
          | cont =>
            obtain ⟨_,_,_,q⟩:=hs
            exact False.elim q
    · exact hP.elim
  · exact hP.elim
end
structure SupA (P:Program) (w:World) (K:PySem.W.Frag) (mg:Str→Option Value) (base:Heap) (B:Bs) (k c n:Nat) (m:MF):Prop where
 ex:∃ fB fdB psB,SupO K (B.cad c) fB∧FnOk P w K mg base (L2N.CX P w) k fB fdB psB (spF B n m)∧Binds K fdB psB []
theorem SupA.mono {P:Program} {w:World} {K:PySem.W.Frag} {mg:Str→Option Value} {base:Heap} {B:Bs} {j k c n:Nat} {m:MF} (F:SupA P w K mg base B j c n m) (h:j≤k):SupA P w K mg base B k c n m :=
 let ⟨f,fd,ps,a,b,d⟩:=F.ex
 ⟨f,fd,ps,a,b.mono h,d⟩
def yIQ:List Stmt→List Expr
 | .Expr (.Call _ es _ _) _ :: _=>es
 | _=>[]
theorem yFM {K:PySem.W.Frag} {D fB:Addr} (h:jZU K D fB=true):SupO K D fB:=by
 unfold jZU at h
 simp only [Bool.and_eq_true,decide_eq_true_eq] at h
 exact ⟨h.1,h.2.1,h.2.2.1,h.2.2.2⟩
theorem yOO {K:PySem.W.Frag} {B:Bs} {qual:Str} {params:Arguments} {body:List Stmt} {scope:Scope} {cc cda:Addr} {fd:FuncData} {ps:List Str}
  (h0:∃ (oc:Value) (od:Option Addr) (dV kV doc pm:Value) (an:Option Addr) (ct:Value) (osl:Array (Option Value)),fd=PySem.W.ksFn "__init__" qual params body scope dV kV doc pm an (.ref cda) ct cc∧DflV K dV []) (n:Nat) (ks:List Str) (ix:List Nat)
  (h:∀ (kV doc pm:Value) (an:Option Addr) (ct:Value) (us ws:List Value),us.length=n→ws.length=ks.length→bindArgs (PySem.W.ksFn "__init__" qual params body scope .none kV doc pm an (.ref cda) ct cc) ⟨us,ks.zip ws⟩=pure (ps.zip (pick ix (us++ws)))):KBd K B fd ps n ks ix []:=by
 obtain ⟨oc,od,dV,kV,doc,pm,an,ct,osl,rfl,hD⟩:=h0
 rcases hD with ⟨_,rfl⟩ | ⟨e,_⟩
 ·exact ⟨_,_,⟨fun s us ws _ l1 l2=>.of_eq (h kV doc pm an ct us ws l1 l2),fun r1 r2=>jHG (r1.append r2) ix⟩,fun W xs ys vs zs r1 r2=>by rw [List.append_nil]; exact jHI (r1.app r2) ix⟩
 ·exact absurd rfl e
structure ClsO (K:PySem.W.Frag) (C:Addr):Prop where
 li:PySem.W.kitOne K (.ref C) (.type "list")=some false
 tu:PySem.W.kitOne K (.ref C) (.type "tuple")=some false
theorem yHB {K:PySem.W.Frag} {C:Addr} (h:yDS K C=true):ClsO K C :=
 let ⟨h1,h2⟩:=Bool.and_eq_true_iff.mp h
 ⟨of_decide_eq_true h1,of_decide_eq_true h2⟩
def jYB (c:Nat):AH→List PV→Option PV:=fun h xs=>match xs with
 | [x,.ty n]=>if clsOf h x=some c∧(n = "list" ∨ n = "tuple") then some (.bl false) else wO h xs
 | _=>wO h xs
section
variable {X:Cx} {B:Bs} {c:Nat}
theorem yNF (hK:X.K=B.K) (C:ClsI X.K (B.cad c)) (O:ClsO X.K (B.cad c)):CallSem X B (jYB c) (jZW X.K):=by
 intro W h H xs z xs' Q hr rxs e q
 have base:wO h xs=some z→jZW X.K xs' H Q:=fun e=>yAQ hK W h H xs z xs' Q hr rxs e q
 unfold jYB at e
 split at e
 ·rename_i x n
  split at e
  ·rename_i hc
   obtain ⟨ec,hn⟩:=hc
   cases e
   obtain ⟨v,w,rfl,rv,rw'⟩:=repts2 rxs
   cases (show Rep B W (.ty n) w from rw')
   obtain ⟨a,dx,fs,rfl,hH⟩:=jXD hr rv ec
   refine .inl ⟨.ref a,_,_,.type n,false,rfl,.ty n,.base (.ins hH C.cl C.ha C.hn C.ht C.hm),?_,q W H _ (.refl W H) (Rep.bl _).hand⟩
   rcases hn with rfl | rfl
   ·exact O.li
   ·exact O.tu
  ·exact base e
 ·exact base e
theorem yFC (hK:X.K=B.K) (C:ClsI X.K (B.cad c)) (O:ClsO X.K (B.cad c)):BiOk X B "isinstance" (jYB c):=⟨_,_,PyProof.Rows.boot_isinstance,jTO,yNF hK C O,.inl ⟨_,rfl⟩⟩
end
end Lp
set_option maxHeartbeats 4000000
namespace Lp
open PySem PySem.Spec PyProof.Rows L2
@[irreducible] def jYD (c n:Nat) (m:MF) (ma:MA):MS:=jQC c n m ma
section
variable {PF:Fl→S→Prop} {E:PV→S→Prop} {s:S} {c n:Nat} {mf:MF} {ma:MA} {o:PV}
theorem yVW (h0:s.e[0]?=some (some o)) (h1:clsOf s.h o=some c∧isOwn o=false)
  (h:(ma s).post (fun vs s1=>(yW vs=true∧(o :: vs).length=n∧yW (o :: vs)=true)∧(mf (o :: vs) s1.h).post (fun _ h=>PF .nx ⟨s1.e,h⟩) (fun x h=>E x ⟨s1.e,h⟩)) E):(jYD c n mf ma s).post PF E:=by
 unfold jYD jQC
 simp only [h0]
 rw [if_pos h1]
 refine jY (p_mono h (fun vs s1 ⟨⟨a,b⟩,q⟩=>?_) fun _ _ z=>z)
 rw [if_pos a]
 refine jY ?_
 have:=jUW (n:=n) (mf:=mf) (vs:=o :: vs) (s:=s1) (P:=fun _ s2=>PF .nx s2) (E:=E) ⟨b,q⟩
 unfold jQE at this
 exact this
end
end Lp
set_option maxHeartbeats 4000000
namespace LW
open PySem PySem.Spec PyProof.Rows L2 Lp LamX NdefX
structure Gm (mg:Str→Option Value):Prop where
 triv:True
 n_all:mg "all" = none
 n_bool:mg "bool" = none
 n_int:mg "int" = none
 n_isinstance:mg "isinstance" = none
 n_len:mg "len" = none
 n_list:mg "list" = none
 n_range:mg "range" = none
 n_str:mg "str" = none
 n_super:mg "super" = none
 n_tuple:mg "tuple" = none
 n_zip:mg "zip" = none
def xfl:FL:=fun c=>match c with
 | 0=>["code", "given"]
 | 1=>["code", "word"]
 | 2=>["code", "given"]
 | 3=>["code", "given"]
 | _=>[]
def ifl:FL:=fun c=>match c with
 | 4=>["drops", "numbers", "stretches", "hidden", "lock"]
 | 5=>["way", "wish"]
 | 6=>["way", "wish", "own_stands"]
 | _=>[]
def yIB:FL:=fun c=>match c with
 | 0=>["code", "given"]
 | 1=>["code", "word"]
 | 2=>["code", "given"]
 | 3=>["code", "given"]
 | 4=>["drops", "numbers", "stretches", "hidden", "lock"]
 | 5=>["way", "wish"]
 | 6=>["way", "wish", "own_stands"]
 | _=>[]
abbrev vJ:Nat:=4
abbrev jQY:Nat:=5
abbrev vK:Nat:=6
def jAG:List PV→List PV:=fun xs=>[.str "InvalidTable", xs.headD .non]
def zP:List PV→List PV:=fun xs=>[.str "InvalidOption", xs.headD .non]
def jCE:List PV→List PV:=fun xs=>[.str "InvalidWish", xs.headD .non]
def jBL:List PV→List PV:=fun xs=>[.str "InvalidStand", xs.headD .non]
structure Km (w:World) (K:PySem.W.Frag) (B:Bs) (mg:Str→Option Value):Prop where
 CF:ClsF K B ifl
 cm_Way:ClM K B vJ ["drop_answer", "number_answer"]
 n_Way:mg "Way" = some (.ref (B.cad vJ))
 cm_Paper:ClM K B jQY []
 n_Paper:mg "Paper" = some (.ref (B.cad jQY))
 cm_Kept:ClM K B vK ["holds"]
 n_Kept:mg "Kept" = some (.ref (B.cad vK))
 is_Way:ClsI K (B.cad vJ)
 io_Way:ClsO K (B.cad vJ)
 d_WORDS:DicC K w mg "WORDS" jGA
 d_SIZES:DicI K w mg "SIZES" jJD
 n_BROKEN:mg "BROKEN" = some (.ref (He.ga K "BROKEN"))
 g_BROKEN:TupG K (He.ga K "BROKEN") [.str "broken"]
 n_WISHES:mg "WISHES" = some (.ref (He.ga K "WISHES"))
 g_WISHES:TupG K (He.ga K "WISHES") [.str "lands", .str "stays", .str "still", .str "returns", .str "heard", .str "numbered"]
 t_Way_LOCKS:CTup K (B.cad vJ) "LOCKS" [.str "none", .str "one", .str "all"]
def jLD:List Str:=["value"]
theorem jZC:FnScope jLD ["value"] (defScope jAO):=⟨rfl,rfl,rfl,by decide +kernel,rfl,by decide +kernel,by decide +kernel⟩
noncomputable def jRF:MS:=(wD (jGH (eCB wO (jC (jF 0) (jC (eC (.ty "str")) jL))) (jO fIn (jF 0) (eC (.tup [.str "lands", .str "stays", .str "still", .str "returns", .str "heard", .str "numbered"])))))
@[irreducible] noncomputable def qY:MF:=mkF 0 jRF
def jGX:List Str:=["wish"]
theorem jSB:FnScope jGX ["wish"] (defScope zY):=⟨rfl,rfl,rfl,by decide +kernel,rfl,by decide +kernel,by decide +kernel⟩
noncomputable def jKS:MS:=(sIf (jFT (tM (yP 1 qY (jC (jF 0) jL)))) (jJA 2 1 jCE (jC (jF 0) jL)) uZ)
@[irreducible] noncomputable def qQ:MF:=mkF 0 jKS
def jGC:List Str:=["wish"]
theorem jRL:FnScope jGC ["wish"] (defScope zF):=⟨rfl,rfl,rfl,by decide +kernel,rfl,by decide +kernel,by decide +kernel⟩
noncomputable def jJL:MS:=(yI (jVW (yP 1 qQ (jC (jF 0) jL)))
 (yI (sIf (bM (jO fEq (jF 0) (eC (.str "returns")))) (wD (vH (jC (eC (.int 0)) (jC (eC (.bl false)) (jC (eC (.bl false)) (jC (eC (.bl false)) jL)))))) uZ)
 (wD (jO jBZ (vH (jC (eC (.bl false)) jL)) (yQM jJD (jF 0))))))
@[irreducible] noncomputable def qX:MF:=mkF 0 jJL
def jJG:List Str:=["wish", "value", "flags", "flag"]
theorem jXK:FnScope jJG ["wish", "value"] (defScope qT):=⟨rfl,rfl,rfl,by decide +kernel,rfl,by decide +kernel,by decide +kernel⟩
noncomputable def jOR:MS:=(yI (jVW (yP 1 qQ (jC (jF 0) jL)))
 (yI (sIf (jFT (tM (eCB wO (jC (jF 1) (jC (eC (.ty "tuple")) jL))))) (wD (eC (.bl false))) uZ)
 (yI (sIf (bM (jO fEq (eCB jEG (jC (jF 1) jL)) (eC (.int 1)))) (wD (jGH (eCB wO (jC (jO fIx (jF 1) (eC (.int 0))) (jC (eC (.ty "str")) jL))) (jO fEq (jF 1) (eC (.tup [.str "broken"]))))) uZ)
 (yI (sIf (bM (jO fNe (eCB jEG (jC (jF 1) jL)) (yQM jJD (jF 0)))) (wD (eC (.bl false))) uZ)
 (yI (kY 2 (ifM (bM (jO fEq (jF 0) (eC (.str "returns")))) (eSl (jF 1) (jEH (eC (.int 1))) jEI) (jF 1)))
 (yI (sIf (jFT (tM (eCB jHO (jC (shN (qP (jES (jF 2)) (.n 3) wN (eCB wO (jC (jF 3) (jC (eC (.ty "bool")) jL))) [3])) jL)))) (wD (eC (.bl false))) uZ)
 (wD (orV (jO fNe (jF 0) (eC (.str "returns"))) (jGH (eCB wO (jC (jO fIx (jF 1) (eC (.int 0))) (jC (eC (.ty "int")) jL))) (jGH (jVO (eCB wO (jC (jO fIx (jF 1) (eC (.int 0))) (jC (eC (.ty "bool")) jL)))) (jNO fLe fLe (eC (.int 0)) (jO fIx (jF 1) (eC (.int 0))) (eC (.int 2)))))))))))))
@[irreducible] noncomputable def uI:MF:=mkF 2 jOR
def jDH:List Str:=["self", "elder", "again", "apart"]
theorem jLL:FnScope jDH ["self", "elder", "again", "apart"] (defScope vN):=⟨rfl,rfl,rfl,by decide +kernel,rfl,by decide +kernel,by decide +kernel⟩
noncomputable def jGG:MS:=(wD (yQN jGA (jO fIx (jDP ifl "drops" (jF 0)) (jO uB (jO uB (jO jBZ (eC (.int 4)) (eCB jDN (jC (jF 1) jL))) (jO jBZ (eC (.int 2)) (eCB jDN (jC (jF 2) jL)))) (eCB jDN (jC (jF 3) jL))))))
@[irreducible] noncomputable def qH:MF:=mkF 0 jGG
def jGW:List Str:=["way", "wish", "stand", "elder", "again", "apart", "loose", "found", "answer", "lost"]
theorem jSA:FnScope jGW ["way", "wish", "stand"] (defScope zX):=⟨rfl,rfl,rfl,by decide +kernel,rfl,by decide +kernel,by decide +kernel⟩
noncomputable def jKR:MS:=(yI (jOL (.t [(.n 3),(.n 4),(.n 5),(.n 6)]) (jF 2))
 (yI (jIH 7 (jIW jL))
 (yI (sIf (bM (jO fNe (jDP ifl "lock" (jF 0)) (eC (.str "all")))) (jIH 7 (jIW (jC (vH (jC (eC (.str "number")) (jC (vH (jC (eC (.bl true)) (jC (jF 4) (jC (jF 5) (jC (eC (.bl true)) jL))))) jL))) (jC (vH (jC (eC (.str "aside")) (jC (vH (jC (eC (.bl true)) (jC (jF 4) (jC (jF 5) (jC (jF 6) jL))))) jL))) jL)))) uZ)
 (yI (jIH 7 (jIW (jWB (jF 7) (jC (vH (jC (eC (.str "again")) (jC (vH (jC (jF 3) (jC (eC (.bl true)) (jC (jF 5) (jC (jF 6) jL))))) jL))) (jC (vH (jC (eC (.str "apart")) (jC (vH (jC (jF 3) (jC (jF 4) (jC (eC (.bl true)) (jC (jF 6) jL))))) jL))) jL)))))
 (yI (kY 8 (jPZ vJ 3 0 [0,1,2,3] [] 4 qH (jF 0) (jC (jF 3) (jC (jF 4) (jC (jF 5) jL))) jL))
 (yI (kY 9 (jGH (jO fEq (jF 8) (eC (.str "taken"))) (jGH (jF 6) (jVO (jF 5)))))
 (yI (sIf (ifT (bM (jO fEq (jF 1) (eC (.str "lands")))) (tM (jF 9)) (andM (bM (jO fEq (jF 8) (eC (.str "refused")))) (jFT (tM (jF 4))))) (kZ 7 (vH (jC (eC (.str "answer")) (jC (eC (.tup [.str "broken"])) jL)))) uZ)
 (jHC 7))))))))
@[irreducible] noncomputable def jCO:MF:=mkF 7 jKR
def jCJ:List Str:=["self", "elder", "dropped"]
theorem jJS:FnScope jCJ ["self", "elder", "dropped"] (defScope vG):=⟨rfl,rfl,rfl,by decide +kernel,rfl,by decide +kernel,by decide +kernel⟩
noncomputable def jFB:MS:=(wD (yQN jGA (jO fIx (jDP ifl "numbers" (jF 0)) (jO uB (jO jBZ (eC (.int 2)) (eCB jDN (jC (jF 1) jL))) (eCB jDN (jC (jF 2) jL))))))
@[irreducible] noncomputable def yS:MF:=mkF 0 jFB
def jFE:List Str:=["way", "wish", "stand", "elder", "dropped", "more", "found", "answer", "torn", "flag"]
theorem jPA:FnScope jFE ["way", "wish", "stand"] (defScope uK):=⟨rfl,rfl,rfl,by decide +kernel,rfl,by decide +kernel,by decide +kernel⟩
noncomputable def jIN:MS:=(yI (jOL (.t [(.n 3),(.n 4)]) (eSl (jF 2) jEI (jEH (eC (.int 2)))))
 (yI (kY 5 (eSl (jF 2) (jEH (eC (.int 2))) jEI))
 (yI (jIH 6 (jIW jL))
 (yI (sIf (bM (jO fEq (jDP ifl "lock" (jF 0)) (eC (.str "none")))) (kZ 6 (vH (jC (eC (.str "number")) (jC (vH (jC (eC (.bl true)) (jC (jF 4) (jWB (shN (qP (jES (jF 5)) (.n 9) wN (eC (.bl true)) [9])) jL)))) jL)))) uZ)
 (yI (sIf (bM (jO fNe (jDP ifl "lock" (jF 0)) (eC (.str "all")))) (kZ 6 (vH (jC (eC (.str "drop")) (jC (vH (jC (jF 3) (jC (eC (.bl true)) (jWB (jF 5) jL)))) jL)))) uZ)
 (yI (kY 7 (jPZ vJ 2 0 [0,1,2] [] 3 yS (jF 0) (jC (jF 3) (jC (jF 4) jL)) jL))
 (yI (kY 8 (jGH (jO fEq (jF 7) (eC (.str "taken"))) (jGH (jO fEq (jF 5) (vH (jC (eC (.bl true)) jL))) (jDP ifl "stretches" (jF 0)))))
 (yI (sIf (ifT (bM (jO fEq (jF 1) (eC (.str "numbered")))) (bM (jO fEq (jF 7) (eC (.str "refused")))) (tM (jF 8))) (kZ 6 (vH (jC (eC (.str "answer")) (jC (eC (.tup [.str "broken"])) jL)))) uZ)
 (jHC 6)))))))))
@[irreducible] noncomputable def jBD:MF:=mkF 7 jIN
def jFF:List Str:=["way", "stand", "landed", "knows", "elder", "dropped", "loose", "found"]
theorem jPB:FnScope jFF ["way", "stand"] (defScope uL):=⟨rfl,rfl,rfl,by decide +kernel,rfl,by decide +kernel,by decide +kernel⟩
noncomputable def jIO:MS:=(yI (jOL (.t [(.n 2),(.n 3),(.n 4),(.n 5),(.n 6)]) (jF 1))
 (yI (jIH 7 (jIW jL))
 (yI (sIf (jFT (tM (jF 2))) (yI (sIf (bM (jO fEq (jDP ifl "lock" (jF 0)) (eC (.str "none")))) (kZ 7 (vH (jC (eC (.str "number")) (jC (vH (jC (eC (.bl false)) (jC (jF 3) (jC (eC (.bl true)) (jC (jF 5) (jC (jF 6) jL)))))) jL)))) uZ)
 (yI (sIf (bM (jO fNe (jDP ifl "lock" (jF 0)) (eC (.str "all")))) (kZ 7 (vH (jC (eC (.str "land")) (jC (vH (jC (eC (.bl true)) (jC (jF 3) (jC (jF 4) (jC (eC (.bl true)) (jC (jF 6) jL)))))) jL)))) uZ)
 (wD (jDO (jWB (jF 7) (jC (vH (jC (eC (.str "ahead")) (jC (vH (jC (eC (.bl true)) (jC (eC (.bl true)) (jC (eC (.bl false)) (jC (eC (.bl false)) (jC (eC (.bl false)) jL)))))) jL))) jL)))))) uZ)
 (yI (sIf (bM (jO fEq (jDP ifl "lock" (jF 0)) (eC (.str "none")))) (kZ 7 (vH (jC (eC (.str "number")) (jC (vH (jC (eC (.bl true)) (jC (jF 3) (jC (eC (.bl true)) (jC (jF 5) (jC (eC (.bl true)) jL)))))) jL)))) uZ)
 (yI (sIf (bM (jO fNe (jDP ifl "lock" (jF 0)) (eC (.str "all")))) (kZ 7 (vH (jC (eC (.str "drop")) (jC (vH (jC (eC (.bl true)) (jC (jF 3) (jC (jF 4) (jC (eC (.bl true)) (jC (jF 6) jL)))))) jL)))) uZ)
 (yI (sIf (andM (bM (jO fEq (jPZ vJ 2 0 [0,1,2] [] 3 yS (jF 0) (jC (jF 4) (jC (jF 5) jL)) jL) (eC (.str "taken")))) (orM (jFT (tM (jF 3))) (andM (tM (jF 6)) (tM (jDP ifl "stretches" (jF 0)))))) (kZ 7 (vH (jC (eC (.str "answer")) (jC (eC (.tup [.str "broken"])) jL)))) uZ)
 (jHC 7)))))))
@[irreducible] noncomputable def jBE:MF:=mkF 6 jIO
def jFD:List Str:=["way", "stand", "phase", "elder", "dropped", "loose", "found", "late", "free"]
theorem jOZ:FnScope jFD ["way", "stand"] (defScope uJ):=⟨rfl,rfl,rfl,by decide +kernel,rfl,by decide +kernel,by decide +kernel⟩
noncomputable def jIM:MS:=(yI (jOL (.t [(.n 2),(.n 3),(.n 4),(.n 5)]) (jF 1))
 (yI (jIH 6 (nIf (bM (jO fNe (jF 2) (eC (.int 1)))) (jIW (jC (vH (jC (eC (.str "strike")) (jC (vH (jC (eC (.int 1)) (jC (jF 3) (jC (jF 4) (jC (jF 5) jL))))) jL))) jL)) (jIW jL)))
 (yI (sIf (bM (jO fEq (jF 2) (eC (.int 1)))) (yI (kY 7 (vH (jC (eC (.int 2)) (jC (jF 3) (jC (orV (jF 4) (jO fNe (jDP ifl "lock" (jF 0)) (eC (.str "all")))) (jC (jF 5) jL))))))
 (kZ 6 (vH (jC (eC (.str "back")) (jC (ifM (tM (jF 5)) (eC (.tup [.str "broken"])) (jF 7)) jL))))) uZ)
 (yI (kY 8 (orV (jF 5) (jGH (jO fEq (jF 2) (eC (.int 1))) (jVO (jDP ifl "hidden" (jF 0))))))
 (yI (kZ 6 (vH (jC (eC (.str "number")) (jC (vH (jC (jF 2) (jC (orV (jF 3) (jO fEq (jDP ifl "lock" (jF 0)) (eC (.str "none")))) (jC (jF 4) (jC (jF 8) jL))))) jL))))
 (yI (sIf (bM (jO fNe (jDP ifl "lock" (jF 0)) (eC (.str "all")))) (kZ 6 (vH (jC (eC (.str "drop")) (jC (vH (jC (jF 2) (jC (jF 3) (jC (eC (.bl true)) (jC (jF 5) jL))))) jL)))) uZ)
 (yI (sIf (andM (tM (jF 3)) (andM (tM (jDP ifl "stretches" (jF 0))) (bM (jO fEq (jPZ vJ 2 0 [0,1,2] [] 3 yS (jF 0) (jC (jF 3) (jC (jF 4) jL)) jL) (eC (.str "taken")))))) (kZ 6 (vH (jC (eC (.str "late")) (jC (ifM (bM (jO fEq (jF 2) (eC (.int 2)))) (eC (.tup [.str "broken"])) (vH (jC (jF 2) (jC (jF 3) (jC (jF 4) (jC (eC (.bl true)) jL)))))) jL)))) uZ)
 (jHC 6))))))))
@[irreducible] noncomputable def jBC:MF:=mkF 7 jIM
def jGV:List Str:=["way", "wish", "stand", "found", "word", "late"]
theorem jRZ:FnScope jGV ["way", "wish", "stand"] (defScope zW):=⟨rfl,rfl,rfl,by decide +kernel,rfl,by decide +kernel,by decide +kernel⟩
noncomputable def jKQ:MS:=(yI (sIf (jFT (tM (yP 2 uI (jC (jF 1) (jC (jF 2) jL))))) (jJA 3 1 jBL (jC (jF 2) jL)) uZ)
 (yI (sIf (bM (jO fEq (jF 2) (eC (.tup [.str "broken"])))) (wD (jDO jL)) uZ)
 (yI (sIf (bM (jO fIn (jF 1) (vH (jC (eC (.str "lands")) (jC (eC (.str "heard")) jL))))) (kY 3 (yP 3 jCO (jC (jF 0) (jC (jF 1) (jC (jF 2) jL))))) (sIf (bM (jO fEq (jF 1) (eC (.str "stays")))) (kY 3 (yP 2 jBE (jC (jF 0) (jC (jF 2) jL)))) (sIf (bM (jO fEq (jF 1) (eC (.str "returns")))) (kY 3 (yP 2 jBC (jC (jF 0) (jC (jF 2) jL)))) (kY 3 (yP 3 jBD (jC (jF 0) (jC (jF 1) (jC (jF 2) jL))))))))
 (wD (shN (qP (jES (jF 3)) (.t [(.n 4),(.n 5)]) (bM (jO fNe (jF 5) (jF 2))) (vH (jC (jF 4) (jC (jF 5) jL))) [4,5]))))))
@[irreducible] noncomputable def jAN:MF:=mkF 3 jKQ
def jJF:List Str:=["value", "many", "letter"]
theorem jXJ:FnScope jJF ["value", "many"] (defScope qR):=⟨rfl,rfl,rfl,by decide +kernel,rfl,by decide +kernel,by decide +kernel⟩
noncomputable def jJJ:MS:=(yI (sIf (orM (jFT (tM (eCB wO (jC (jF 0) (jC (eC (.ty "str")) jL))))) (orM (bM (jO fNe (eCB jEG (jC (jF 0) jL)) (jF 1))) (bM (jO fNe (jO fIx (jF 0) (eC (.int 0))) (eC (.str "t")))))) (wD (eC (.bl false))) uZ)
 (wD (eCB jHO (jC (shN (qP (jES (jF 0)) (.n 2) wN (yIF false jGA (jF 2)) [2])) jL))))
noncomputable def jOO:MS:=(uC (jGR (jNJ (jIF (xTM (xECB wO (jE (jK 0) (jE (xEC (.ty "str")) jR))))) (jNJ (xBM (jZ fNe (xECB jEG (jE (jK 0) jR)) (jK 1))) (xBM (jZ fNe (jZ fIx (jK 0) (xEC (.int 0))) (xEC (.str "t")))))) (jAH (xEC (.bl false))) jCV)
 (jAH (xECB jHO (jE (jIU (wW (jCW (jK 0)) (.n 2) wN (yDI false jGA (jK 2)) [2])) jR))))
theorem jXG:jJJ=jOO:=by kernel_rfl
@[irreducible] noncomputable def jBI:MF:=mkF 1 jJJ
def jFH:List Str:=["self", "drops", "numbers", "stretches", "hidden", "lock", "value", "many", "word"]
theorem jPD:FnScope jFH ["self", "drops", "numbers", "stretches", "hidden", "lock"] (defScope uN):=⟨rfl,rfl,rfl,by decide +kernel,rfl,by decide +kernel,by decide +kernel⟩
noncomputable def jFJ:MS:=(yI (jRW (jES (vH (jC (vH (jC (jF 1) (jC (eC (.int 8)) jL))) (jC (vH (jC (jF 2) (jC (eC (.int 4)) jL))) jL)))) (.t [(.n 6),(.n 7)]) (sIf (jFT (tM (yP 2 jBI (jC (jF 6) (jC (jF 7) jL))))) (jJA 0 1 jAG (jC (jF 6) jL)) uZ))
 (yI (jRW (jES (vH (jC (vH (jC (eC (.str "stretches")) (jC (jF 3) jL))) (jC (vH (jC (eC (.str "hidden")) (jC (jF 4) jL))) jL)))) (.t [(.n 8),(.n 6)]) (sIf (jFT (tM (eCB wO (jC (jF 6) (jC (eC (.ty "bool")) jL))))) (jJA 1 1 zP (jC (jF 8) jL)) uZ))
 (yI (sIf (orM (jFT (tM (eCB wO (jC (jF 5) (jC (eC (.ty "str")) jL))))) (bM (jO jKV (jF 5) (eC (.tup [.str "none", .str "one", .str "all"]))))) (jJA 1 1 zP (jC (eC (.str "lock")) jL)) uZ)
 (yI (jVV ifl 0 ["drops", "numbers"] (vH (jC (jF 1) (jC (jF 2) jL))))
 (jVV ifl 0 ["stretches", "hidden", "lock"] (vH (jC (jF 3) (jC (jF 4) (jC (jF 5) jL)))))))))
noncomputable def jIL:MS:=(uC (jLR (jCW (jBF (jE (jBF (jE (jK 1) (jE (xEC (.int 8)) jR))) (jE (jBF (jE (jK 2) (jE (xEC (.int 4)) jR))) jR)))) (.t [(.n 6),(.n 7)]) (jGR (jIF (xTM (vI 2 jBI (jE (jK 6) (jE (jK 7) jR))))) (jUP 0 1 jAG (jE (jK 6) jR)) jCV))
 (uC (jLR (jCW (jBF (jE (jBF (jE (xEC (.str "stretches")) (jE (jK 3) jR))) (jE (jBF (jE (xEC (.str "hidden")) (jE (jK 4) jR))) jR)))) (.t [(.n 8),(.n 6)]) (jGR (jIF (xTM (xECB wO (jE (jK 6) (jE (xEC (.ty "bool")) jR))))) (jUP 1 1 zP (jE (jK 8) jR)) jCV))
 (uC (jGR (jNJ (jIF (xTM (xECB wO (jE (jK 5) (jE (xEC (.ty "str")) jR))))) (xBM (jZ jKV (jK 5) (xEC (.tup [.str "none", .str "one", .str "all"]))))) (jUP 1 1 zP (jE (xEC (.str "lock")) jR)) jCV)
 (uC (jTV ifl 0 ["drops", "numbers"] (jBF (jE (jK 1) (jE (jK 2) jR))))
 (jTV ifl 0 ["stretches", "hidden", "lock"] (jBF (jE (jK 3) (jE (jK 4) (jE (jK 5) jR)))))))))
theorem jOX:jFJ=jIL:=by kernel_rfl
@[irreducible] noncomputable def zH:MF:=mkF 3 jFJ
def jLC:List Str:=["value", "item"]
theorem jRE:FnScope jLC ["value"] (defScope wU):=⟨rfl,rfl,rfl,by decide +kernel,rfl,by decide +kernel,by decide +kernel⟩
noncomputable def jHV (m:MF):MS:=(yI (sIf (tM (eCB (jYB vJ) (jC (jF 0) (jC (eC (.ty "list")) jL)))) (wD (shN (qP (jES (jF 0)) (.n 1) wN (yP 1 m (jC (jF 1) jL)) [1]))) uZ)
 (wD (ifM (tM (eCB (jYB vJ) (jC (jF 0) (jC (eC (.ty "tuple")) jL)))) (eCB jHR (jC (shN (qP (jES (jF 0)) (.n 1) wN (yP 1 m (jC (jF 1) jL)) [1])) jL)) (jF 0))))
noncomputable def jRA (m:MF):MS:=(uC (jGR (xTM (xECB (jYB vJ) (jE (jK 0) (jE (xEC (.ty "list")) jR)))) (jAH (jIU (wW (jCW (jK 0)) (.n 1) wN (vI 1 m (jE (jK 1) jR)) [1]))) jCV)
 (jAH (yBL (xTM (xECB (jYB vJ) (jE (jK 0) (jE (xEC (.ty "tuple")) jR)))) (xECB jHR (jE (jIU (wW (jCW (jK 0)) (.n 1) wN (vI 1 m (jE (jK 1) jR)) [1])) jR)) (jK 0))))
theorem jYW (m:MF):jHV m=jRA m:=by kernel_rfl
noncomputable def jDE:Nat→MF
 | 0=>fun _ _=>.bad
 | n+1=>mkF 1 (jHV (jDE n))
@[irreducible] noncomputable def wI:MF:=jDE 4
def jNT:List Str:=["value", "item"]
theorem yCE:FnScope jNT ["value"] (defScope jBM):=⟨rfl,rfl,rfl,by decide +kernel,rfl,by decide +kernel,by decide +kernel⟩
noncomputable def jNU:MS:=(wD (ifM (tM (eCB wO (jC (jF 0) (jC (vH (jC (eC (.ty "list")) (jC (eC (.ty "tuple")) jL))) jL)))) (shN (qP (jES (jF 0)) (.n 1) wN (yP 1 wI (jC (jF 1) jL)) [1])) (jF 0)))
noncomputable def jSW:MS:=(jAH (yBL (xTM (xECB wO (jE (jK 0) (jE (jBF (jE (xEC (.ty "list")) (jE (xEC (.ty "tuple")) jR))) jR)))) (jIU (wW (jCW (jK 0)) (.n 1) wN (vI 1 wI (jE (jK 1) jR)) [1])) (jK 0)))
theorem yBT:jNU=jSW:=by kernel_rfl
@[irreducible] noncomputable def jCD:MF:=mkF 1 jNU
def jEC:List Str:=["self", "way", "wish"]
theorem jNC:FnScope jEC ["self", "way", "wish"] (defScope vZ):=⟨rfl,rfl,rfl,by decide +kernel,rfl,by decide +kernel,by decide +kernel⟩
noncomputable def jEF:MS:=(yI (jIY ifl "way" (yP 1 wI (jC (jF 1) jL)) (jF 0))
 (jIY ifl "wish" (yP 1 wI (jC (jF 2) jL)) (jF 0)))
noncomputable def jGQ:MS:=(uC (jIY ifl "way" (vI 1 wI (jE (jK 1) jR)) (jK 0))
 (jIY ifl "wish" (vI 1 wI (jE (jK 2) jR)) (jK 0)))
theorem jMZ:jEF=jGQ:=by kernel_rfl
@[irreducible] noncomputable def zN:MF:=mkF 0 jEF
def jCP:List Str:=["self", "way", "wish", "stands", "__class__"]
theorem jOB:NScope jCP ["self", "way", "wish", "stands"] ["__class__"] (defScope yH):=nscope_by (by decide +kernel)
noncomputable def jHK:MS:=(yI (jQC vK 3 zN (jC (jF 1) (jC (jF 2) jL))) (jIY ifl "own_stands" (yP 1 jCD (jC (jF 3) jL)) (jF 0)))
noncomputable def jHJ:MS:=(uC (jYD vK 3 zN (jE (jK 1) (jE (jK 2) jR))) (jIY ifl "own_stands" (vI 1 jCD (jE (jK 3) jR)) (jK 0)))
theorem jOA:jHK=jHJ:=by kernel_rfl
@[irreducible] noncomputable def yR:MF:=mkF 1 jHK
theorem jPN {P:Program} {w:World} {K:PySem.W.Frag} {mg:Str→Option Value} {base:Heap} {B:Bs} {f cc cda:Addr} {A:Around} {outer:List Env} {s:Shared} {H:Hp} {E:XK} {k:Nat} {N:Ent} (hK:K=B.K) (hw:w=B.w) (g:Gm mg) (κ:Km w K B mg)
  (D:Bdy (ncx (L2N.CX P w) P w K mg base jCP (vP "Kept.__init__" (defArgs yH) (defBody yH) (defScope yH) cc cda) f A outer s H E) E k) (F_copied:Fn P w K mg base B k "copied" 1 jCD) (U_Kept___init__:SupA P w K mg base B k vK 3 zN) :
  SimA (ncx (L2N.CX P w) P w K mg base jCP (vP "Kept.__init__" (defArgs yH) (defBody yH) (defScope yH) cc cda) f A outer s H E) B N (fun c d _ H=>E c d H) (yIQ (defBody yH)) (jC (jF 1) (jC (jF 2) jL))∧SimSs (ncx (L2N.CX P w) P w K mg base jCP (vP "Kept.__init__" (defArgs yH) (defBody yH) (defScope yH) cc cda) f A outer s H E) B N (fun c d _ H=>E c d H) (defBody yH).tail (jIY ifl "own_stands" (yP 1 jCD (jC (jF 3) jL)) (jF 0)) :=
 ⟨(jA (jB (i:=1) rfl (.inl rfl) rfl rfl) (jA (jB (i:=2) rfl (.inl rfl) rfl rfl) jD rfl) rfl),(jJ (jNR κ.CF (jV F_copied D.tk D.rm rfl (jA (jB (i:=3) rfl (.inl rfl) rfl rfl) jD rfl) rfl rfl rfl) (jB (i:=0) rfl (.inl rfl) rfl rfl) rfl))⟩
def jHA:List Str:=["self", "known", "lates", "stand", "word", "late"]
theorem jSE:FnScope jHA ["self"] (defScope wC):=⟨rfl,rfl,rfl,by decide +kernel,rfl,by decide +kernel,by decide +kernel⟩
noncomputable def jHB:MS:=(yI (sIf (orM (jFT (tM (eCB (jVS vJ) (jC (jDP ifl "way" (jF 0)) (jC (eC (.cls vJ)) jL))))) (orM (jFT (tM (yP 1 qY (jC (jDP ifl "wish" (jF 0)) jL)))) (jFT (tM (eCB wO (jC (jDP ifl "own_stands" (jF 0)) (jC (eC (.ty "list")) jL))))))) (wD (eC (.bl false))) uZ)
 (yI (sIf (jFT (tM (eCB jHO (jC (shN (qP (jES (jDP ifl "own_stands" (jF 0))) (.n 3) wN (yP 2 uI (jC (jDP ifl "wish" (jF 0)) (jC (jF 3) jL))) [3])) jL)))) (wD (eC (.bl false))) uZ)
 (yI (kY 1 (yDE (jES (jDP ifl "own_stands" (jF 0))) (.n 3) wN (jF 3) (eC (.bl true)) [3]))
 (yI (sIf (orM (bM (jO jZY (yP 1 qX (jC (jDP ifl "wish" (jF 0)) jL)) (jF 1))) (bM (jO yBP (eC (.tup [.str "broken"])) (jF 1)))) (wD (eC (.bl false))) uZ)
 (yI (kY 2 (shN (jMH (jES (jDP ifl "own_stands" (jF 0))) (.n 3) wN (jES (yP 3 jAN (jC (jDP ifl "way" (jF 0)) (jC (jDP ifl "wish" (jF 0)) (jC (jF 3) jL))))) (.t [(.n 4),(.n 5)]) wN (jF 5) [3,4,5] [4,5])))
 (wD (eCB jHO (jC (shN (qP (jES (jF 2)) (.n 5) wN (jO yBP (jF 5) (jF 1)) [5])) jL))))))))
noncomputable def jEP:MS:=(uC (jGR (jNJ (jIF (xTM (xECB (jVS vJ) (jE (jIG ifl "way" (jK 0)) (jE (xEC (.cls vJ)) jR))))) (jNJ (jIF (xTM (vI 1 qY (jE (jIG ifl "wish" (jK 0)) jR)))) (jIF (xTM (xECB wO (jE (jIG ifl "own_stands" (jK 0)) (jE (xEC (.ty "list")) jR))))))) (jAH (xEC (.bl false))) jCV)
 (uC (jGR (jIF (xTM (xECB jHO (jE (jIU (wW (jCW (jIG ifl "own_stands" (jK 0))) (.n 3) wN (vI 2 uI (jE (jIG ifl "wish" (jK 0)) (jE (jK 3) jR))) [3])) jR)))) (jAH (xEC (.bl false))) jCV)
 (uC (jCA 1 (yDJ (jCW (jIG ifl "own_stands" (jK 0))) (.n 3) wN (jK 3) (xEC (.bl true)) [3]))
 (uC (jGR (jNJ (xBM (jZ jZY (vI 1 qX (jE (jIG ifl "wish" (jK 0)) jR)) (jK 1))) (xBM (jZ yBP (xEC (.tup [.str "broken"])) (jK 1)))) (jAH (xEC (.bl false))) jCV)
 (uC (jCA 2 (jIU (jQM (jCW (jIG ifl "own_stands" (jK 0))) (.n 3) wN (jCW (vI 3 jAN (jE (jIG ifl "way" (jK 0)) (jE (jIG ifl "wish" (jK 0)) (jE (jK 3) jR))))) (.t [(.n 4),(.n 5)]) wN (jK 5) [3,4,5] [4,5])))
 (jAH (xECB jHO (jE (jIU (wW (jCW (jK 2)) (.n 5) wN (jZ yBP (jK 5) (jK 1)) [5])) jR))))))))
theorem jGU:jHB=jEP:=by kernel_rfl
@[irreducible] noncomputable def yZ:MF:=mkF 5 jHB
def jIA:List Str:=["_law_script"]
theorem jVC:FnScope jIA ["_law_script"] (defScope wX):=⟨rfl,rfl,rfl,by decide +kernel,rfl,by decide +kernel,by decide +kernel⟩
noncomputable def jIE:MS:=(wD (yIG (jIW (jC (eCB jKP (jC (eSl (jF 0) jEI (jEH (eC (.int 63)))) jL)) (jC (eC (.int 0)) (jC (eC (.int 0)) (jC (eC (.int 100201)) (jC (eC (.int 0)) jL))))))))
noncomputable def jMR:MS:=(jAH (yDK (jZR (jE (xECB jKP (jE (jIR (jK 0) jBR (jBQ (xEC (.int 63)))) jR)) (jE (xEC (.int 0)) (jE (xEC (.int 0)) (jE (xEC (.int 100201)) (jE (xEC (.int 0)) jR))))))))
theorem jVB:jIE=jMR:=by kernel_rfl
@[irreducible] noncomputable def jAM:MF:=mkF 0 jIE
def jIC:List Str:=["_law_bag", "_law_many", "_law_cell", "_law_digit", "_law_seed"]
theorem jVD:FnScope jIC ["_law_bag", "_law_many"] (defScope wY):=⟨rfl,rfl,rfl,by decide +kernel,rfl,by decide +kernel,by decide +kernel⟩
noncomputable def jMU:MS:=(yI (sIf (andM (bM (jO fEq (jO fIx (jF 0) (eC (.int 2))) (eC (.int 0)))) (bM (jO fLt (jO fIx (jF 0) (eC (.int 1))) (eCB jEG (jC (jO fIx (jF 0) (eC (.int 0))) jL))))) (yI (kY 2 (jO fIx (jO fIx (jF 0) (eC (.int 0))) (jO fIx (jF 0) (eC (.int 1)))))
 (yI (jFV (jO uB (jO fIx (jF 0) (eC (.int 1))) (eC (.int 1))) (jF 0) (eC (.int 1)))
 (yI (jFV (ifM (bM (jO fGe (jF 2) (jO yIC (eC (.int 10)) (eC (.int 18))))) (jF 2) (eC (.int 0))) (jF 0) (eC (.int 2)))
 (jFV (jO jIX (eCB jDN (jC (jO uB (jO uB (jO jBZ (jO fIx (jF 0) (eC (.int 3))) (eC (.int 40031))) (jO jBZ (jO jIX (eCB jDN (jC (jF 2) jL)) (eC (.int 2147483549))) (eC (.int 331)))) (eC (.int 2011))) jL)) (eC (.int 2147483587))) (jF 0) (eC (.int 3)))))) uZ)
 (yI (sIf (bM (jO fGt (jO fIx (jF 0) (eC (.int 2))) (eC (.int 0)))) (yI (kY 3 (jO jIX (eCB jDN (jC (jO fIx (jF 0) (eC (.int 2))) jL)) (jF 1)))
 (yI (jFV (jO jVP (jO fIx (jF 0) (eC (.int 2))) (jF 1)) (jF 0) (eC (.int 2)))
 (wD (jF 3)))) uZ)
 (yI (jFV (jO uB (jO fIx (jF 0) (eC (.int 4))) (eC (.int 1))) (jF 0) (eC (.int 4)))
 (yI (kY 4 (jO fIx (jF 0) (eC (.int 3))))
 (yI (jFV (jO jIX (eCB jDN (jC (jO uB (jO uB (jO uB (jO jBZ (jF 4) (jF 4)) (jO jBZ (eC (.int 65071)) (jF 4))) (jO jBZ (eC (.int 6673)) (jO fIx (jF 0) (eC (.int 4))))) (eC (.int 40013))) jL)) (eC (.int 2147483587))) (jF 0) (eC (.int 3)))
 (wD (jO jIX (eCB jDN (jC (jO uB (jO uB (jO jVP (jO fIx (jF 0) (eC (.int 3))) (eC (.int 61))) (jO jBZ (jF 4) (eC (.int 32009)))) (jO fIx (jF 0) (eC (.int 4)))) jL)) (jF 1))))))))
@[irreducible] noncomputable def yQ:MF:=mkF 3 jMU
def jLE:List Str:=["_law_bag", "_law_things"]
theorem jZD:FnScope jLE ["_law_bag", "_law_things"] (defScope jAP):=⟨rfl,rfl,rfl,by decide +kernel,rfl,by decide +kernel,by decide +kernel⟩
noncomputable def jLF:MS:=(wD (jO fIx (jF 1) (yP 2 yQ (jC (jF 0) (jC (eCB jEG (jC (jF 1) jL)) jL)))))
@[irreducible] noncomputable def uQ:MF:=mkF 0 jLF
def jIB:List Str:=["_law_found", "_law_due", "_law_one", "_law_other"]
theorem jMS:FnScope jIB ["_law_found", "_law_due"] (defScope uR):=⟨rfl,rfl,rfl,by decide +kernel,rfl,by decide +kernel,by decide +kernel⟩
noncomputable def jMT (m:MF):MS:=(yI (sIf (tM (eCB wO (jC (jF 1) (jC (vH (jC (eC (.ty "list")) (jC (eC (.ty "tuple")) jL))) jL)))) (yI (sIf (orM (bM (jO fNe (eCB wO (jC (jF 0) (jC (eC (.ty "list")) jL))) (eCB wO (jC (jF 1) (jC (eC (.ty "list")) jL))))) (bM (jO fNe (eCB wO (jC (jF 0) (jC (eC (.ty "tuple")) jL))) (eCB wO (jC (jF 1) (jC (eC (.ty "tuple")) jL)))))) (wD (eC (.bl false))) uZ)
 (wD (jGH (jO fEq (eCB jEG (jC (jF 0) jL)) (eCB jEG (jC (jF 1) jL))) (eCB jHO (jC (shN (qP (yHZ (jC (jF 0) (jC (jF 1) jL))) (.t [(.n 2),(.n 3)]) wN (yP 2 m (jC (jF 2) (jC (jF 3) jL))) [2,3])) jL))))) uZ)
 (yI (sIf (orM (bM (jO jKW (jF 1) (eC .non))) (bM (jO jKW (jF 0) (eC .non)))) (wD (jGH (jO jKW (jF 1) (eC .non)) (jO jKW (jF 0) (eC .non)))) uZ)
 (yI (sIf (orM (bM (jO fNe (eCB wO (jC (jF 0) (jC (eC (.ty "bool")) jL))) (eCB wO (jC (jF 1) (jC (eC (.ty "bool")) jL))))) (bM (jO fNe (eCB wO (jC (jF 0) (jC (eC (.ty "int")) jL))) (eCB wO (jC (jF 1) (jC (eC (.ty "int")) jL)))))) (wD (eC (.bl false))) uZ)
 (wD (jGH (jO fEq (eCB wO (jC (jF 0) (jC (eC (.ty "str")) jL))) (eCB wO (jC (jF 1) (jC (eC (.ty "str")) jL)))) (jO fEq (jF 0) (jF 1)))))))
noncomputable def jID:Nat→MF
 | 0=>fun _ _=>.bad
 | n+1=>mkF 2 (jMT (jID n))
@[irreducible] noncomputable def kW:MF:=jID 8
def jEB:List Str:=["_law_bag", "_law_drops", "_law_numbers", "_law_k"]
theorem jNB:FnScope jEB ["_law_bag"] (defScope vY):=⟨rfl,rfl,rfl,by decide +kernel,rfl,by decide +kernel,by decide +kernel⟩
noncomputable def jEE:MS:=(yI (kY 1 (jO uB (eC (.str "t")) (eMS jON (eC (.str "")) (jC (shN (qP (jSS (jC (eC (.int 7)) jL)) (.n 3) wN (yP 2 uQ (jC (jF 0) (jC (eC (.str "ttrm")) jL))) [3])) jL))))
 (yI (kY 2 (jO uB (eC (.str "t")) (eMS jON (eC (.str "")) (jC (shN (qP (jSS (jC (eC (.int 3)) jL)) (.n 3) wN (yP 2 uQ (jC (jF 0) (jC (eC (.str "ttrm")) jL))) [3])) jL))))
 (wD (vH (jC (jF 1) (jC (jF 2) (jC (jO fGt (yP 2 yQ (jC (jF 0) (jC (eC (.int 3)) jL))) (eC (.int 0))) (jC (jO fEq (yP 2 yQ (jC (jF 0) (jC (eC (.int 2)) jL))) (eC (.int 0))) (jC (yP 2 uQ (jC (jF 0) (jC (jDO (jC (eC (.str "none")) (jC (eC (.str "none")) (jC (eC (.str "one")) (jC (eC (.str "all")) jL))))) jL))) jL)))))))))
noncomputable def jGP:MS:=(uC (jCA 1 (jZ uB (xEC (.str "t")) (yHW jON (xEC (.str "")) (jE (jIU (wW (jKY (jE (xEC (.int 7)) jR)) (.n 3) wN (vI 2 uQ (jE (jK 0) (jE (xEC (.str "ttrm")) jR))) [3])) jR))))
 (uC (jCA 2 (jZ uB (xEC (.str "t")) (yHW jON (xEC (.str "")) (jE (jIU (wW (jKY (jE (xEC (.int 3)) jR)) (.n 3) wN (vI 2 uQ (jE (jK 0) (jE (xEC (.str "ttrm")) jR))) [3])) jR))))
 (jAH (jBF (jE (jK 1) (jE (jK 2) (jE (jZ fGt (vI 2 yQ (jE (jK 0) (jE (xEC (.int 3)) jR))) (xEC (.int 0))) (jE (jZ fEq (vI 2 yQ (jE (jK 0) (jE (xEC (.int 2)) jR))) (xEC (.int 0))) (jE (vI 2 uQ (jE (jK 0) (jE (jAI (jE (xEC (.str "none")) (jE (xEC (.str "none")) (jE (xEC (.str "one")) (jE (xEC (.str "all")) jR))))) jR))) jR)))))))))
theorem jMY:jEE=jGP:=by kernel_rfl
@[irreducible] noncomputable def uV:MF:=mkF 3 jEE
def jJH:List Str:=["_law_spec"]
theorem jXL:FnScope jJH ["_law_spec"] (defScope qU):=⟨rfl,rfl,rfl,by decide +kernel,rfl,by decide +kernel,by decide +kernel⟩
noncomputable def jJK:MS:=(wD (jVR vJ 2 3 [0,1,2,3,4,5] [.str "tttttttt", .str "tttt"] 6 zH (jC (jO fIx (jF 0) (eC (.int 0))) (jC (jO fIx (jF 0) (eC (.int 1))) jL)) (jC (jO fIx (jF 0) (eC (.int 2))) (jC (jO fIx (jF 0) (eC (.int 3))) (jC (jO fIx (jF 0) (eC (.int 4))) jL)))))
noncomputable def jOP:MS:=(jAH (jOI vJ 2 3 [0,1,2,3,4,5] [.str "tttttttt", .str "tttt"] 6 zH (jE (jZ fIx (jK 0) (xEC (.int 0))) (jE (jZ fIx (jK 0) (xEC (.int 1))) jR)) (jE (jZ fIx (jK 0) (xEC (.int 2))) (jE (jZ fIx (jK 0) (xEC (.int 3))) (jE (jZ fIx (jK 0) (xEC (.int 4))) jR)))))
theorem jXH:jJK=jOP:=by kernel_rfl
@[irreducible] noncomputable def jBJ:MF:=mkF 0 jJK
def jGD:List Str:=[]
theorem jRM:FnScope jGD [] (defScope zG):=⟨rfl,rfl,rfl,by decide +kernel,rfl,by decide +kernel,by decide +kernel⟩
noncomputable def jJM:MS:=(wD (jDO (jC (eC (.str "lands")) (jC (eC (.str "stays")) (jC (eC (.str "still")) (jC (eC (.str "returns")) (jC (eC (.str "heard")) (jC (eC (.str "numbered")) jL))))))))
@[irreducible] noncomputable def zE:MF:=mkF 0 jJM
def jJI:List Str:=["_law_stand", "_law_at", "_law_value"]
theorem jXM:FnScope jJI ["_law_stand", "_law_at", "_law_value"] (defScope qW):=⟨rfl,rfl,rfl,by decide +kernel,rfl,by decide +kernel,by decide +kernel⟩
noncomputable def jOS:MS:=(wD (jO uB (jO uB (eSl (jF 0) jEI (jEH (jF 1))) (vH (jC (jF 2) jL))) (eSl (jF 0) (jEH (jO uB (jF 1) (eC (.int 1)))) jEI)))
@[irreducible] noncomputable def yN:MF:=mkF 0 jOS
def jCG:List Str:=["_law_spec", "_law_elder", "_law_dropped"]
theorem jJP:FnScope jCG ["_law_spec", "_law_elder", "_law_dropped"] (defScope vB):=⟨rfl,rfl,rfl,by decide +kernel,rfl,by decide +kernel,by decide +kernel⟩
noncomputable def jEY:MS:=(wD (jO fEq (jO fIx (jO fIx (jF 0) (eC (.int 1))) (jO uB (jO jBZ (eC (.int 2)) (eCB jDN (jC (jF 1) jL))) (eCB jDN (jC (jF 2) jL)))) (eC (.str "t"))))
@[irreducible] noncomputable def vQ:MF:=mkF 0 jEY
def jDG:List Str:=["_law_spec", "_law_wish", "_law_stand", "_law_at", "_law_found", "_law_word"]
theorem jLK:FnScope jDG ["_law_spec", "_law_wish", "_law_stand"] (defScope vM):=⟨rfl,rfl,rfl,by decide +kernel,rfl,by decide +kernel,by decide +kernel⟩
noncomputable def jGF:MS:=(yI (yPO 3 4 (jO uB (jO uB (jO jBZ (eC (.int 4)) (eCB jDN (jC (jO fIx (jF 2) (eC (.int 0))) jL))) (jO jBZ (eC (.int 2)) (eCB jDN (jC (jO fIx (jF 2) (eC (.int 1))) jL)))) (eCB jDN (jC (jO fIx (jF 2) (eC (.int 2))) jL))) (jIW jL))
 (yI (kY 5 (jO fIx (jO fIx (jF 0) (eC (.int 0))) (jF 3)))
 (yI (sIf (bM (jO fNe (jO fIx (jF 0) (eC (.int 4))) (eC (.str "all")))) (jIH 4 (jIW (jC (vH (jC (eC (.str "number")) (jC (yP 3 yN (jC (yP 3 yN (jC (jF 2) (jC (eC (.int 0)) (jC (eC (.bl true)) jL)))) (jC (eC (.int 3)) (jC (eC (.bl true)) jL)))) jL))) (jC (vH (jC (eC (.str "aside")) (jC (yP 3 yN (jC (jF 2) (jC (eC (.int 0)) (jC (eC (.bl true)) jL)))) jL))) jL)))) uZ)
 (yI (jIH 4 (yYE (jF 4) (jDO (jC (vH (jC (eC (.str "again")) (jC (yP 3 yN (jC (jF 2) (jC (eC (.int 1)) (jC (eC (.bl true)) jL)))) jL))) (jC (vH (jC (eC (.str "apart")) (jC (yP 3 yN (jC (jF 2) (jC (eC (.int 2)) (jC (eC (.bl true)) jL)))) jL))) jL)))))
 (yI (sIf (andM (bM (jO fEq (jF 1) (eC (.str "lands")))) (andM (bM (jO fEq (jF 5) (eC (.str "t")))) (andM (tM (jO fIx (jF 2) (eC (.int 3)))) (jFT (tM (jO fIx (jF 2) (eC (.int 2)))))))) (kZ 4 (vH (jC (eC (.str "answer")) (jC (vH (jC (eC (.str "broken")) jL)) jL)))) uZ)
 (yI (sIf (andM (bM (jO fEq (jF 1) (eC (.str "heard")))) (andM (bM (jO fEq (jF 5) (eC (.str "r")))) (jFT (tM (jO fIx (jF 2) (eC (.int 1))))))) (kZ 4 (vH (jC (eC (.str "answer")) (jC (vH (jC (eC (.str "broken")) jL)) jL)))) uZ)
 (jHC 4)))))))
@[irreducible] noncomputable def qG:MF:=mkF 3 jGF
def jCH:List Str:=["_law_spec", "_law_wish", "_law_stand", "_law_found", "_law_word", "_law_lost"]
theorem jJQ:FnScope jCH ["_law_spec", "_law_wish", "_law_stand"] (defScope vC):=⟨rfl,rfl,rfl,by decide +kernel,rfl,by decide +kernel,by decide +kernel⟩
noncomputable def jEZ:MS:=(yI (jIH 3 (jIW jL))
 (yI (sIf (bM (jO fEq (jO fIx (jF 0) (eC (.int 4))) (eC (.str "none")))) (kZ 3 (vH (jC (eC (.str "number")) (jC (ifM (bM (jO fEq (jF 1) (eC (.str "numbered")))) (vH (jC (eC (.bl true)) (jC (jO fIx (jF 2) (eC (.int 1))) jL))) (vH (jC (eC (.bl true)) (jC (jO fIx (jF 2) (eC (.int 1))) (jC (eC (.bl true)) jL))))) jL)))) uZ)
 (yI (sIf (bM (jO fNe (jO fIx (jF 0) (eC (.int 4))) (eC (.str "all")))) (kZ 3 (vH (jC (eC (.str "drop")) (jC (yP 3 yN (jC (jF 2) (jC (eC (.int 1)) (jC (eC (.bl true)) jL)))) jL)))) uZ)
 (yI (kY 4 (jO fIx (jO fIx (jF 0) (eC (.int 1))) (jO uB (jO jBZ (eC (.int 2)) (eCB jDN (jC (jO fIx (jF 2) (eC (.int 0))) jL))) (eCB jDN (jC (jO fIx (jF 2) (eC (.int 1))) jL)))))
 (yI (kY 5 (ifM (bM (jO fEq (jF 1) (eC (.str "numbered")))) (jO fEq (jF 4) (eC (.str "r"))) (jGH (jO fEq (jF 4) (eC (.str "t"))) (jGH (jO fIx (jF 2) (eC (.int 2))) (jO fIx (jF 0) (eC (.int 2)))))))
 (yI (sIf (tM (jF 5)) (kZ 3 (vH (jC (eC (.str "answer")) (jC (vH (jC (eC (.str "broken")) jL)) jL)))) uZ)
 (jHC 3)))))))
@[irreducible] noncomputable def wL:MF:=mkF 3 jEZ
def jCI:List Str:=["_law_spec", "_law_stand", "_law_found", "_law_torn"]
theorem jJR:FnScope jCI ["_law_spec", "_law_stand"] (defScope vD):=⟨rfl,rfl,rfl,by decide +kernel,rfl,by decide +kernel,by decide +kernel⟩
noncomputable def jFA:MS:=(yI (jIH 2 (jIW jL))
 (yI (sIf (jFT (tM (jO fIx (jF 1) (eC (.int 0))))) (yI (sIf (bM (jO fEq (jO fIx (jF 0) (eC (.int 4))) (eC (.str "none")))) (kZ 2 (vH (jC (eC (.str "number")) (jC (yP 3 yN (jC (jF 1) (jC (eC (.int 2)) (jC (eC (.bl true)) jL)))) jL)))) uZ)
 (yI (sIf (bM (jO fNe (jO fIx (jF 0) (eC (.int 4))) (eC (.str "all")))) (kZ 2 (vH (jC (eC (.str "land")) (jC (yP 3 yN (jC (yP 3 yN (jC (jF 1) (jC (eC (.int 0)) (jC (eC (.bl true)) jL)))) (jC (eC (.int 3)) (jC (eC (.bl true)) jL)))) jL)))) uZ)
 (wD (jO uB (jF 2) (jDO (jC (vH (jC (eC (.str "ahead")) (jC (vH (jC (eC (.bl true)) (jC (eC (.bl true)) (jC (eC (.bl false)) (jC (eC (.bl false)) (jC (eC (.bl false)) jL)))))) jL))) jL)))))) uZ)
 (yI (sIf (bM (jO fEq (jO fIx (jF 0) (eC (.int 4))) (eC (.str "none")))) (kZ 2 (vH (jC (eC (.str "number")) (jC (yP 3 yN (jC (yP 3 yN (jC (jF 1) (jC (eC (.int 2)) (jC (eC (.bl true)) jL)))) (jC (eC (.int 4)) (jC (eC (.bl true)) jL)))) jL)))) uZ)
 (yI (sIf (bM (jO fNe (jO fIx (jF 0) (eC (.int 4))) (eC (.str "all")))) (kZ 2 (vH (jC (eC (.str "drop")) (jC (yP 3 yN (jC (jF 1) (jC (eC (.int 3)) (jC (eC (.bl true)) jL)))) jL)))) uZ)
 (yI (kY 3 (orV (jVO (jO fIx (jF 1) (eC (.int 1)))) (jGH (jO fIx (jF 1) (eC (.int 4))) (jO fIx (jF 0) (eC (.int 2))))))
 (yI (sIf (andM (tM (jF 3)) (tM (yP 3 vQ (jC (jF 0) (jC (jO fIx (jF 1) (eC (.int 2))) (jC (jO fIx (jF 1) (eC (.int 3))) jL)))))) (kZ 2 (vH (jC (eC (.str "answer")) (jC (vH (jC (eC (.str "broken")) jL)) jL)))) uZ)
 (jHC 2)))))))
@[irreducible] noncomputable def wM:MF:=mkF 2 jFA
def jCF:List Str:=["_law_spec", "_law_stand", "_law_found", "_law_broken", "_law_late"]
theorem jJO:FnScope jCF ["_law_spec", "_law_stand"] (defScope vA):=⟨rfl,rfl,rfl,by decide +kernel,rfl,by decide +kernel,by decide +kernel⟩
noncomputable def jEX:MS:=(yI (jST 2 3 (jIW jL) (vH (jC (eC (.str "broken")) jL)))
 (yI (sIf (bM (jO fNe (jO fIx (jF 1) (eC (.int 0))) (eC (.int 1)))) (kZ 2 (vH (jC (eC (.str "strike")) (jC (yP 3 yN (jC (jF 1) (jC (eC (.int 0)) (jC (eC (.int 1)) jL)))) jL)))) (yI (kY 4 (yP 3 yN (jC (yP 3 yN (jC (jF 1) (jC (eC (.int 0)) (jC (eC (.int 2)) jL)))) (jC (eC (.int 2)) (jC (orV (jO fIx (jF 1) (eC (.int 2))) (jO fNe (jO fIx (jF 0) (eC (.int 4))) (eC (.str "all")))) jL)))))
 (kZ 2 (vH (jC (eC (.str "back")) (jC (ifM (tM (jO fIx (jF 1) (eC (.int 3)))) (jF 3) (jF 4)) jL))))))
 (yI (kY 4 (yP 3 yN (jC (jF 1) (jC (eC (.int 1)) (jC (orV (jO fIx (jF 1) (eC (.int 1))) (jO fEq (jO fIx (jF 0) (eC (.int 4))) (eC (.str "none")))) jL)))))
 (yI (kZ 2 (vH (jC (eC (.str "number")) (jC (yP 3 yN (jC (jF 4) (jC (eC (.int 3)) (jC (orV (jO fIx (jF 1) (eC (.int 3))) (jGH (jO fEq (jO fIx (jF 1) (eC (.int 0))) (eC (.int 1))) (jVO (jO fIx (jF 0) (eC (.int 3)))))) jL)))) jL))))
 (yI (sIf (bM (jO fNe (jO fIx (jF 0) (eC (.int 4))) (eC (.str "all")))) (kZ 2 (vH (jC (eC (.str "drop")) (jC (yP 3 yN (jC (jF 1) (jC (eC (.int 2)) (jC (eC (.bl true)) jL)))) jL)))) uZ)
 (yI (sIf (andM (tM (jO fIx (jF 1) (eC (.int 1)))) (andM (tM (jO fIx (jF 0) (eC (.int 2)))) (tM (yP 3 vQ (jC (jF 0) (jC (jO fIx (jF 1) (eC (.int 1))) (jC (jO fIx (jF 1) (eC (.int 2))) jL))))))) (kZ 2 (vH (jC (eC (.str "late")) (jC (ifM (bM (jO fEq (jO fIx (jF 1) (eC (.int 0))) (eC (.int 2)))) (jF 3) (yP 3 yN (jC (jF 1) (jC (eC (.int 3)) (jC (eC (.bl true)) jL))))) jL)))) uZ)
 (jHC 2)))))))
@[irreducible] noncomputable def wJ:MF:=mkF 3 jEX
def jGY:List Str:=["_law_spec", "_law_wish", "_law_stand", "_law_found", "_law_word", "_law_late"]
theorem jSC:FnScope jGY ["_law_spec", "_law_wish", "_law_stand"] (defScope wA):=⟨rfl,rfl,rfl,by decide +kernel,rfl,by decide +kernel,by decide +kernel⟩
noncomputable def jKT:MS:=(yI (sIf (bM (jO fEq (jF 2) (vH (jC (eC (.str "broken")) jL)))) (wD (jDO jL)) uZ)
 (yI (sIf (bM (jO fIn (jF 1) (jDO (jC (eC (.str "lands")) (jC (eC (.str "heard")) jL))))) (kY 3 (yP 3 qG (jC (jF 0) (jC (jF 1) (jC (jF 2) jL))))) (sIf (bM (jO fEq (jF 1) (eC (.str "stays")))) (kY 3 (yP 2 wM (jC (jF 0) (jC (jF 2) jL)))) (sIf (bM (jO fEq (jF 1) (eC (.str "returns")))) (kY 3 (yP 2 wJ (jC (jF 0) (jC (jF 2) jL)))) (kY 3 (yP 3 wL (jC (jF 0) (jC (jF 1) (jC (jF 2) jL))))))))
 (wD (shN (qP (jES (jF 3)) (.t [(.n 4),(.n 5)]) (bM (jO fNe (jF 5) (jF 2))) (vH (jC (jF 4) (jC (jF 5) jL))) [4,5])))))
@[irreducible] noncomputable def zJ:MF:=mkF 3 jKT
def jGZ:List Str:=["_law_wish"]
theorem jSD:FnScope jGZ ["_law_wish"] (defScope wB):=⟨rfl,rfl,rfl,by decide +kernel,rfl,by decide +kernel,by decide +kernel⟩
noncomputable def jKU:MS:=(yI (sIf (bM (jO fEq (jF 0) (eC (.str "returns")))) (wD (vH (jC (eC (.int 0)) (jC (eC (.bl false)) (jC (eC (.bl false)) (jC (eC (.bl false)) jL)))))) uZ)
 (wD (jO jBZ (vH (jC (eC (.bl false)) jL)) (jO fIx (jDO (jC (eC (.int 4)) (jC (eC (.int 5)) (jC (eC (.int 3)) (jC (eC (.int 0)) (jC (eC (.int 4)) (jC (eC (.int 2)) jL))))))) (yYG (jGI 0 zE []) (jC (jF 0) jL))))))
@[irreducible] noncomputable def yU:MF:=mkF 0 jKU
def jFG:List Str:=["_law_spec", "_law_wish", "_law_line", "_law_at", "_law_stand", "_law_size", "_law_word", "_law_late", "_law_one", "_law_many"]
theorem jPC:FnScope jFG ["_law_spec", "_law_wish"] (defScope uM):=⟨rfl,rfl,rfl,by decide +kernel,rfl,by decide +kernel,by decide +kernel⟩
noncomputable def jFI:MS:=(yI (jST 2 3 (jIW (jC (vH (jC (yP 1 yU (jC (jF 1) jL)) (jC (eC (.int 0)) jL))) jL)) (eC (.int 0)))
 (yI (jHD (bM (jO fLt (jF 3) (eCB jEG (jC (jF 2) jL)))) (yI (jOL (.t [(.n 4),(.n 5)]) (jO fIx (jF 2) (jF 3)))
 (yI (jRW (jES (yP 3 zJ (jC (jF 0) (jC (jF 1) (jC (jF 4) jL))))) (.t [(.n 6),(.n 7)]) (sIf (bM (jO jKV (jF 7) (shN (qP (jES (jF 2)) (.t [(.n 8),(.n 9)]) wN (jF 8) [8,9])))) (kZ 2 (vH (jC (jF 7) (jC (jO uB (jF 5) (eC (.int 1))) jL)))) uZ))
 (kY 3 (jO uB (jF 3) (eC (.int 1)))))) 200)
 (jHC 2)))
noncomputable def jIK:MS:=(uC (jST 2 3 (jZR (jE (jBF (jE (vI 1 yU (jE (jK 1) jR)) (jE (xEC (.int 0)) jR))) jR)) (xEC (.int 0)))
 (uC (jHD (xBM (jZ fLt (jK 3) (xECB jEG (jE (jK 2) jR)))) (uC (jYF (.t [(.n 4),(.n 5)]) (jZ fIx (jK 2) (jK 3)))
 (uC (jLR (jCW (vI 3 zJ (jE (jK 0) (jE (jK 1) (jE (jK 4) jR))))) (.t [(.n 6),(.n 7)]) (jGR (xBM (jZ jKV (jK 7) (jIU (wW (jCW (jK 2)) (.t [(.n 8),(.n 9)]) wN (jK 8) [8,9])))) (kZ 2 (jBF (jE (jK 7) (jE (jZ uB (jK 5) (xEC (.int 1))) jR)))) jCV))
 (jCA 3 (jZ uB (jK 3) (xEC (.int 1)))))) 200)
 (jYE 2)))
theorem jOW:jFI=jIK:=by kernel_rfl
@[irreducible] noncomputable def wH:MF:=mkF 8 jFI
def jDF:List Str:=["_law_bag", "_law_wish", "_law_flags", "_law_k"]
theorem jLJ:FnScope jDF ["_law_bag", "_law_wish"] (defScope vL):=⟨rfl,rfl,rfl,by decide +kernel,rfl,by decide +kernel,by decide +kernel⟩
noncomputable def jDI:MS:=(yI (kY 2 (eCB jHR (jC (shN (qP (jSS (jC (eCB jEG (jC (yP 1 yU (jC (jF 1) jL)) jL)) jL)) (.n 3) wN (jO fEq (yP 2 yQ (jC (jF 0) (jC (eC (.int 2)) jL))) (eC (.int 0))) [3])) jL)))
 (wD (ifM (bM (jO fNe (jF 1) (eC (.str "returns")))) (jF 2) (jO uB (vH (jC (yP 2 yQ (jC (jF 0) (jC (eC (.int 3)) jL))) jL)) (eSl (jF 2) (jEH (eC (.int 1))) jEI)))))
noncomputable def jGE:MS:=(uC (jCA 2 (xECB jHR (jE (jIU (wW (jKY (jE (xECB jEG (jE (vI 1 yU (jE (jK 1) jR)) jR)) jR)) (.n 3) wN (jZ fEq (vI 2 yQ (jE (jK 0) (jE (xEC (.int 2)) jR))) (xEC (.int 0))) [3])) jR)))
 (jAH (yBL (xBM (jZ fNe (jK 1) (xEC (.str "returns")))) (jK 2) (jZ uB (jBF (jE (vI 2 yQ (jE (jK 0) (jE (xEC (.int 3)) jR))) jR)) (jIR (jK 2) (jBQ (xEC (.int 1))) jBR)))))
theorem jLI:jDI=jGE:=by kernel_rfl
@[irreducible] noncomputable def uA:MF:=mkF 2 jDI
def jEA:List Str:=["_law_spec", "_law_wish", "_law_some", "_law_stand", "_law_word", "_law_late"]
theorem jNA:FnScope jEA ["_law_spec", "_law_wish", "_law_some"] (defScope vX):=⟨rfl,rfl,rfl,by decide +kernel,rfl,by decide +kernel,by decide +kernel⟩
noncomputable def jED:MS:=(yI (sIf (orM (bM (jO jKV (yP 1 yU (jC (jF 1) jL)) (jF 2))) (bM (jO fIn (vH (jC (eC (.str "broken")) jL)) (jF 2)))) (wD (eC (.bl false))) uZ)
 (yI (jRW (jES (jF 2)) (.n 3) (sIf (bM (jO fNe (shN (qP (jES (yP 3 zJ (jC (jF 0) (jC (jF 1) (jC (jF 3) jL))))) (.t [(.n 4),(.n 5)]) (bM (jO jKV (jF 5) (jF 2))) (jF 5) [4,5])) (jDO jL))) (wD (eC (.bl false))) uZ))
 (wD (eC (.bl true)))))
noncomputable def jGO:MS:=(uC (jGR (jNJ (xBM (jZ jKV (vI 1 yU (jE (jK 1) jR)) (jK 2))) (xBM (jZ fIn (jBF (jE (xEC (.str "broken")) jR)) (jK 2)))) (jAH (xEC (.bl false))) jCV)
 (uC (jLR (jCW (jK 2)) (.n 3) (jGR (xBM (jZ fNe (jIU (wW (jCW (vI 3 zJ (jE (jK 0) (jE (jK 1) (jE (jK 3) jR))))) (.t [(.n 4),(.n 5)]) (xBM (jZ jKV (jK 5) (jK 2))) (jK 5) [4,5])) (jAI jR))) (jAH (xEC (.bl false))) jCV))
 (jAH (xEC (.bl true)))))
theorem jMX:jED=jGO:=by kernel_rfl
@[irreducible] noncomputable def uU:MF:=mkF 3 jED
def jYO:List Str:=["_law_script", "_law_bag", "_law_turn", "_law_spec", "_law_way_here", "_law_wish", "_law_line", "_law_at", "_law_lists", "_law_some", "_law_given", "_law_paper", "_law_due", "_law_odd", "_law_bad", "_law_stand", "_law_size", "_law_one"]
theorem yVM:FnScope jYO ["_law_script"] (defScope jGT):=⟨rfl,rfl,rfl,by decide +kernel,rfl,by decide +kernel,by decide +kernel⟩
noncomputable def jYQ:MS:=(yI (kY 1 (yP 1 jAM (jC (jF 0) jL)))
 (yI (jRW (jSS (jC (eC (.int 3)) jL)) (.n 2) (yI (kY 3 (yP 1 uV (jC (jF 1) jL)))
 (yI (kY 4 (yP 1 jBJ (jC (jF 3) jL)))
 (jRW (jES (jGI 0 zE [])) (.n 5) (yI (kY 6 (shN (qP (jES (yP 2 wH (jC (jF 3) (jC (jF 5) jL)))) (.t [(.n 15),(.n 16)]) (bM (jO fNe (jF 15) (vH (jC (eC (.str "broken")) jL)))) (jF 15) [15,16])))
 (yI (kY 7 (yP 2 yQ (jC (jF 1) (jC (eCB jEG (jC (jF 6) jL)) jL))))
 (yI (kY 8 (jDO (jC (jF 6) (jC (yID (jF 6)) (jC (jO uB (eSl (jF 6) jEI (jEH (jF 7))) (eSl (jF 6) (jEH (jO uB (jF 7) (eC (.int 1)))) jEI)) (jC (eSl (jF 6) (jEH (eC (.int 1))) jEI) (jC (jDO jL) (jC (jO uB (jF 6) (eSl (jF 6) jEI (jEH (jF 7)))) (jC (jO uB (jF 6) (jDO (jC (vH (jC (eC (.str "broken")) jL)) jL))) jL)))))))))
 (yI (kY 8 (jO uB (jF 8) (jDO (jC (jO uB (jF 6) (jDO (jC (yP 2 uA (jC (jF 1) (jC (jF 5) jL))) jL))) (jC (jDO (jC (yP 1 yU (jC (jF 5) jL)) jL)) (jC (jO uB (eSl (jF 6) jEI (jEH (jF 7))) (jO jBZ (jDO (jC (jO fIx (jF 6) (jF 7)) jL)) (eC (.int 2)))) jL))))))
 (yI (jRW (jES (jF 8)) (.n 9) (yI (kY 10 (eCB jKP (jC (jF 9) jL)))
 (yI (kY 11 (jVR vK 3 0 [0,1,2,3] [] 4 yR (jC (jF 4) (jC (jF 5) (jC (jF 10) jL))) jL))
 (yI (kY 12 (yP 3 uU (jC (jF 3) (jC (jF 5) (jC (jF 9) jL)))))
 (sIf (orM (jFT (tM (yP 2 kW (jC (jDO (jC (jPZ vK 0 0 [0] [] 1 yZ (jF 11) jL jL) (jC (jPZ vK 0 0 [0] [] 1 yZ (jVR vK 3 0 [0,1,2,3] [] 4 yR (jC (jF 4) (jC (jF 5) (jC (eCB jHR (jC (jF 9) jL)) jL))) jL) jL jL) jL))) (jC (jDO (jC (jF 12) (jC (jF 12) jL))) jL))))) (bM (jO fNe (jF 10) (jF 9)))) (wD (eC (.bl false))) uZ)))))
 (yI (kY 13 (yP 2 uQ (jC (jF 1) (jC (jDO (jC (eC .non) (jC (eC (.int 3)) (jC (vH jL) (jC (eCB jKP (jC (jO fIx (jF 6) (eC (.int 0))) jL)) (jC (eSl (jO fIx (jF 6) (eC (.int 0))) jEI (jEH (yIE (eC (.int 1))))) (jC (eC (.str "broken")) (jC (vH (jC (eC (.bl true)) jL)) (jC (jDO (jC (vH (jC (eC (.str "broken")) jL)) jL)) jL))))))))) jL))))
 (yI (kY 14 (jDO (jC (jVR vK 3 0 [0,1,2,3] [] 4 yR (jC (jF 4) (jC (jF 5) (jC (jO uB (jO uB (eSl (jF 6) jEI (jEH (jF 7))) (jDO (jC (jF 13) jL))) (eSl (jF 6) (jEH (jF 7)) jEI)) jL))) jL) (jC (jVR vK 3 0 [0,1,2,3] [] 4 yR (jC (jF 4) (jC (yP 2 uQ (jC (jF 1) (jC (jDO (jC (eC .non) (jC (eC (.str "x")) (jC (eC (.int 3)) (jC (jDO (jC (jF 5) jL)) jL))))) jL))) (jC (jF 6) jL))) jL) jL))))
 (sIf (jFT (tM (yP 2 kW (jC (shN (qP (jES (jF 14)) (.n 17) wN (jPZ vK 0 0 [0] [] 1 yZ (jF 17) jL jL) [17])) (jC (jDO (jC (eC (.bl false)) (jC (eC (.bl false)) jL))) jL))))) (wD (eC (.bl false))) uZ))))))))))))
 (wD (eC (.bl true)))))
noncomputable def yEB:MS:=(uC (jCA 1 (vI 1 jAM (jE (jK 0) jR)))
 (uC (jLR (jKY (jE (xEC (.int 3)) jR)) (.n 2) (uC (jCA 3 (vI 1 uV (jE (jK 1) jR)))
 (uC (jCA 4 (vI 1 jBJ (jE (jK 3) jR)))
 (jLR (jCW (jQE 0 zE [])) (.n 5) (uC (jCA 6 (jIU (wW (jCW (vI 2 wH (jE (jK 3) (jE (jK 5) jR)))) (.t [(.n 15),(.n 16)]) (xBM (jZ fNe (jK 15) (jBF (jE (xEC (.str "broken")) jR)))) (jK 15) [15,16])))
 (uC (jCA 7 (vI 2 yQ (jE (jK 1) (jE (xECB jEG (jE (jK 6) jR)) jR))))
 (uC (jCA 8 (jAI (jE (jK 6) (jE (jZS (jK 6)) (jE (jZ uB (jIR (jK 6) jBR (jBQ (jK 7))) (jIR (jK 6) (jBQ (jZ uB (jK 7) (xEC (.int 1)))) jBR)) (jE (jIR (jK 6) (jBQ (xEC (.int 1))) jBR) (jE (jAI jR) (jE (jZ uB (jK 6) (jIR (jK 6) jBR (jBQ (jK 7)))) (jE (jZ uB (jK 6) (jAI (jE (jBF (jE (xEC (.str "broken")) jR)) jR))) jR)))))))))
 (uC (jCA 8 (jZ uB (jK 8) (jAI (jE (jZ uB (jK 6) (jAI (jE (vI 2 uA (jE (jK 1) (jE (jK 5) jR))) jR))) (jE (jAI (jE (vI 1 yU (jE (jK 5) jR)) jR)) (jE (jZ uB (jIR (jK 6) jBR (jBQ (jK 7))) (jZ jBZ (jAI (jE (jZ fIx (jK 6) (jK 7)) jR)) (xEC (.int 2)))) jR))))))
 (uC (jLR (jCW (jK 8)) (.n 9) (uC (jCA 10 (xECB jKP (jE (jK 9) jR)))
 (uC (jCA 11 (jOI vK 3 0 [0,1,2,3] [] 4 yR (jE (jK 4) (jE (jK 5) (jE (jK 10) jR))) jR))
 (uC (jCA 12 (vI 3 uU (jE (jK 3) (jE (jK 5) (jE (jK 9) jR)))))
 (jGR (jNJ (jIF (xTM (vI 2 kW (jE (jAI (jE (jVT vK 0 0 [0] [] 1 yZ (jK 11) jR jR) (jE (jVT vK 0 0 [0] [] 1 yZ (jOI vK 3 0 [0,1,2,3] [] 4 yR (jE (jK 4) (jE (jK 5) (jE (xECB jHR (jE (jK 9) jR)) jR))) jR) jR jR) jR))) (jE (jAI (jE (jK 12) (jE (jK 12) jR))) jR))))) (xBM (jZ fNe (jK 10) (jK 9)))) (jAH (xEC (.bl false))) jCV)))))
 (uC (jCA 13 (vI 2 uQ (jE (jK 1) (jE (jAI (jE (xEC .non) (jE (xEC (.int 3)) (jE (jBF jR) (jE (xECB jKP (jE (jZ fIx (jK 6) (xEC (.int 0))) jR)) (jE (jIR (jZ fIx (jK 6) (xEC (.int 0))) jBR (jBQ (jZT (xEC (.int 1))))) (jE (xEC (.str "broken")) (jE (jBF (jE (xEC (.bl true)) jR)) (jE (jAI (jE (jBF (jE (xEC (.str "broken")) jR)) jR)) jR))))))))) jR))))
 (uC (jCA 14 (jAI (jE (jOI vK 3 0 [0,1,2,3] [] 4 yR (jE (jK 4) (jE (jK 5) (jE (jZ uB (jZ uB (jIR (jK 6) jBR (jBQ (jK 7))) (jAI (jE (jK 13) jR))) (jIR (jK 6) (jBQ (jK 7)) jBR)) jR))) jR) (jE (jOI vK 3 0 [0,1,2,3] [] 4 yR (jE (jK 4) (jE (vI 2 uQ (jE (jK 1) (jE (jAI (jE (xEC .non) (jE (xEC (.str "x")) (jE (xEC (.int 3)) (jE (jAI (jE (jK 5) jR)) jR))))) jR))) (jE (jK 6) jR))) jR) jR))))
 (jGR (jIF (xTM (vI 2 kW (jE (jIU (wW (jCW (jK 14)) (.n 17) wN (jVT vK 0 0 [0] [] 1 yZ (jK 17) jR jR) [17])) (jE (jAI (jE (xEC (.bl false)) (jE (xEC (.bl false)) jR))) jR))))) (jAH (xEC (.bl false))) jCV))))))))))))
 (jAH (xEC (.bl true)))))
theorem yQQ:jYQ=yEB:=by kernel_rfl
@[irreducible] noncomputable def jOM:MF:=mkF 17 jYQ
section
variable {P:Program} {w:World} {K:PySem.W.Frag} {mg:Str→Option Value} {base:Heap} {B:Bs} {f:Addr} {cdv:Value} {A:Around} {outer:List Env} {s:Shared} {H:Hp} {E:XK} {k:Nat} {N:Ent} (hK:K=B.K) (hw:w=B.w) (g:Gm mg) (κ:Km w K B mg)
include hK hw g κ
theorem yCZ
  (D:Bdy (cxOf (L2N.CX P w) P w K mg base jLD "is_wish" (defScope jAO) f cdv A outer s H E) E k)   :
  SimSs (cxOf (L2N.CX P w) P w K mg base jLD "is_wish" (defScope jAO) f cdv A outer s H E) B N (fun c d _ H=>E c d H) (defBody jAO) (jRF) :=
 (jJ (yG (jAS (yL (jAD hK) rfl g.n_isinstance (jA (jB (i:=0) rfl (.inl rfl) rfl rfl) (jA (kJ rfl g.n_str PyProof.Rows.boot_str (by decide) rfl) jD rfl) rfl) (by decide) rfl rfl rfl) (qC (qJ (yAC hK D.rm.u9) (jB (i:=0) rfl (.inl rfl) rfl rfl) (jDU hK κ.g_WISHES rfl κ.n_WISHES (fun _=>(.cons (.str _ (jQ (by decide +kernel))) (.cons (.str _ (jQ (by decide +kernel))) (.cons (.str _ (jQ (by decide +kernel))) (.cons (.str _ (jQ (by decide +kernel))) (.cons (.str _ (jQ (by decide +kernel))) (.cons (.str _ (jQ (by decide +kernel))) .nil))))))) rfl) rfl)))))
theorem jVJ
  (D:Bdy (cxOf (L2N.CX P w) P w K mg base jGX "check_wish" (defScope zY) f cdv A outer s H E) E k)  (F_is_wish:Fn P w K mg base B k "is_wish" 1 qY) (X_InvalidWish:ExcA P w K mg base B k "InvalidWish" 2 1 jCE) :
  SimSs (cxOf (L2N.CX P w) P w K mg base jGX "check_wish" (defScope zY) f cdv A outer s H E) B N (fun c d _ H=>E c d H) (defBody zY) (jKS) :=
 (jJ (yC (zL (yJ hK (jV F_is_wish D.tk D.rm rfl (jA (jB (i:=0) rfl (.inl rfl) rfl rfl) jD rfl) rfl rfl rfl) (fun _=>rfl))) (jJ (jEW X_InvalidWish rfl D.tk D.rm rfl (jA (jB (i:=0) rfl (.inl rfl) rfl rfl) jD rfl) rfl rfl rfl)) jW))
theorem jSN
  (D:Bdy (cxOf (L2N.CX P w) P w K mg base jGC "first_stand" (defScope zF) f cdv A outer s H E) E k)  (F_check_wish:Fn P w K mg base B k "check_wish" 1 qQ) :
  SimSs (cxOf (L2N.CX P w) P w K mg base jGC "first_stand" (defScope zF) f cdv A outer s H E) B N (fun c d _ H=>E c d H) (defBody zF) (jJL) :=
 (jG (jTB (jV F_check_wish D.tk D.rm rfl (jA (jB (i:=0) rfl (.inl rfl) rfl rfl) jD rfl) rfl rfl rfl) rfl)
 (jG (yC (jX (uH hK D.rm.u9) (jB (i:=0) rfl (.inl rfl) rfl rfl) (jN (jQ (by decide +kernel))) rfl) (jJ (yG (jT (jA jH (jA yF (jA yF (jA yF jD rfl) rfl) rfl) rfl)))) jW)
 (jJ (yG (jAR hK (jT (jA yF jD rfl)) (yAM κ.d_SIZES rfl (jB (i:=0) rfl (.inl rfl) rfl rfl) rfl (fun _ _=>rfl)))))))
theorem jZO
  (D:Bdy (cxOf (L2N.CX P w) P w K mg base jJG "is_stand" (defScope qT) f cdv A outer s H E) E k)  (F_check_wish:Fn P w K mg base B k "check_wish" 1 qQ) :
  SimSs (cxOf (L2N.CX P w) P w K mg base jJG "is_stand" (defScope qT) f cdv A outer s H E) B N (fun c d _ H=>E c d H) (defBody qT) (jOR) :=
 (jG (jTB (jV F_check_wish D.tk D.rm rfl (jA (jB (i:=0) rfl (.inl rfl) rfl rfl) jD rfl) rfl rfl rfl) rfl)
 (jG (yC (zL (yJ hK (yL (jAD hK) rfl g.n_isinstance (jA (jB (i:=1) rfl (.inl rfl) rfl rfl) (jA (kJ rfl g.n_tuple PyProof.Rows.boot_tuple (by decide) rfl) jD rfl) rfl) (by decide) rfl rfl rfl) (fun _=>rfl))) (jJ (yG yF)) jW)
 (jG (yC (jX (uH hK D.rm.u9) (yL (bi_len hK) rfl g.n_len (jA (jB (i:=1) rfl (.inl rfl) rfl rfl) jD rfl) (by decide) rfl rfl rfl) jH rfl) (jJ (yG (jAS (yL (jAD hK) rfl g.n_isinstance (jA (yD hK (jB (i:=1) rfl (.inl rfl) rfl rfl) jH (fun _ _=>rfl)) (jA (kJ rfl g.n_str PyProof.Rows.boot_str (by decide) rfl) jD rfl) rfl) (by decide) rfl rfl rfl) (qC (qJ (uH hK D.rm.u9) (jB (i:=1) rfl (.inl rfl) rfl rfl) (jDU hK κ.g_BROKEN rfl κ.n_BROKEN (fun _=>(.cons (.str _ (jQ (by decide +kernel))) .nil)) rfl) rfl))))) jW)
 (jG (yC (jX (jAQ hK D.rm.u9) (yL (bi_len hK) rfl g.n_len (jA (jB (i:=1) rfl (.inl rfl) rfl rfl) jD rfl) (by decide) rfl rfl rfl) (yAM κ.d_SIZES rfl (jB (i:=0) rfl (.inl rfl) rfl rfl) rfl (fun _ _=>rfl)) rfl) (jJ (yG yF)) jW)
 (jG (yM jXK.nd rfl (.inl rfl) (jBA (jX (uH hK D.rm.u9) (jB (i:=0) rfl (.inl rfl) rfl rfl) (jN (jQ (by decide +kernel))) rfl) (jDD hK (jB (i:=1) rfl (.inl rfl) rfl rfl) (wQ jH) wR) (jB (i:=1) rfl (.inl rfl) rfl rfl)) rfl (.inl rfl))
 (jG (yC (zL (yJ hK (yL (jQJ hK rfl) rfl g.n_all (jA (SimN.sh (jCB (own:=[("flag", 3)]) hK rfl jXK.nd (wG hK (jB (i:=2) rfl (.inl rfl) rfl rfl)) (jAY (by kernel_rfl)) (by decide) (fun _ _ _ _ _=>(vR (pg_name jXK.nd rfl (.inl rfl) (.inr rfl)))) (fun _ _ _ _ _=>zM) (fun _ _ _ _ _=>(yL (jAD hK) rfl g.n_isinstance (jA (jB (i:=3) rfl (.inl rfl) rfl rfl) (jA (kJ rfl g.n_bool PyProof.Rows.boot_bool (by decide) rfl) jD rfl) rfl) (by decide) rfl rfl rfl)) (fun _=>rfl))) jD rfl) (by decide) rfl rfl rfl) (fun _=>rfl))) (jJ (yG yF)) jW)
 (jJ (yG (jIZ (qJ (jAQ hK D.rm.u9) (jB (i:=0) rfl (.inl rfl) rfl rfl) (jN (jQ (by decide +kernel))) rfl) (qC (jAS (yL (jAD hK) rfl g.n_isinstance (jA (yD hK (jB (i:=1) rfl (.inl rfl) rfl rfl) jH (fun _ _=>rfl)) (jA (kJ rfl g.n_int PyProof.Rows.boot_int (by decide) rfl) jD rfl) rfl) (by decide) rfl rfl rfl) (jAS (jMA (yL (jAD hK) rfl g.n_isinstance (jA (yD hK (jB (i:=1) rfl (.inl rfl) rfl rfl) jH (fun _ _=>rfl)) (jA (kJ rfl g.n_bool PyProof.Rows.boot_bool (by decide) rfl) jD rfl) rfl) (by decide) rfl rfl rfl)) (qC (yVF (yQB) (yQB) jH (yD hK (jB (i:=1) rfl (.inl rfl) rfl rfl) jH (fun _ _=>rfl)) jH rfl))))))))))))))
theorem jNI
  (D:Bdy (cxOf (L2N.CX P w) P w K mg base jDH "Way.drop_answer" (defScope vN) f cdv A outer s H E) E k)   :
  SimSs (cxOf (L2N.CX P w) P w K mg base jDH "Way.drop_answer" (defScope vN) f cdv A outer s H E) B N (fun c d _ H=>E c d H) (defBody vN) (jGG) :=
 (jJ (yG (yAN κ.d_WORDS rfl (yD hK (uY κ.CF (jB (i:=0) rfl (.inl rfl) rfl rfl) rfl) (vO hK (vO hK (jAR hK jH (yL (jCC) rfl g.n_int (jA (jB (i:=1) rfl (.inl rfl) rfl rfl) jD rfl) (by decide) rfl rfl rfl)) (jAR hK jH (yL (jCC) rfl g.n_int (jA (jB (i:=2) rfl (.inl rfl) rfl rfl) jD rfl) (by decide) rfl rfl rfl))) (yL (jCC) rfl g.n_int (jA (jB (i:=3) rfl (.inl rfl) rfl rfl) jD rfl) (by decide) rfl rfl rfl)) (fun _ _=>rfl)) (yAL (by decide +kernel)) rfl (fun _ _=>rfl))))
theorem jVI
  (D:Bdy (cxOf (L2N.CX P w) P w K mg base jGW "drop_steps" (defScope zX) f cdv A outer s H E) E k)  (E_Way_drop_answer_3_:MeA P w K mg base B k vJ "drop_answer" 3 [] [0,1,2,3] [] 4 qH) :
  SimSs (cxOf (L2N.CX P w) P w K mg base jGW "drop_steps" (defScope zX) f cdv A outer s H E) B N (fun c d _ H=>E c d H) (defBody zX) (jKR) :=
 (jG (jHH hK (jB (i:=2) rfl (.inl rfl) rfl rfl) (jFW rfl (yK (vR (pg_name jSA.nd rfl (.inl rfl) (.inl rfl))) (yK (vR (pg_name jSA.nd rfl (.inl rfl) (.inl rfl))) (yK (vR (pg_name jSA.nd rfl (.inl rfl) (.inl rfl))) (yK (vR (pg_name jSA.nd rfl (.inl rfl) (.inl rfl))) jAB rfl) rfl) rfl) rfl) rfl rfl) rfl rfl rfl)
 (jG (jBN jSA.nd rfl (.inl rfl) (jAL jD) rfl (.inl rfl))
 (jG (yC (jX (jAQ hK D.rm.u9) (uY κ.CF (jB (i:=0) rfl (.inl rfl) rfl rfl) rfl) (jN (jQ (by decide +kernel))) rfl) (jJ (jBN jSA.nd rfl (.inl rfl) (jAL (jA (jT (jA (jN (jQ (by decide +kernel))) (jA (jT (jA yF (jA (jB (i:=4) rfl (.inl rfl) rfl rfl) (jA (jB (i:=5) rfl (.inl rfl) rfl rfl) (jA yF jD rfl) rfl) rfl) rfl)) jD rfl) rfl)) (jA (jT (jA (jN (jQ (by decide +kernel))) (jA (jT (jA yF (jA (jB (i:=4) rfl (.inl rfl) rfl rfl) (jA (jB (i:=5) rfl (.inl rfl) rfl rfl) (jA (jB (i:=6) rfl (.inl rfl) rfl rfl) jD rfl) rfl) rfl) rfl)) jD rfl) rfl)) jD rfl) rfl)) rfl (.inl rfl))) jW)
 (jG (jBN jSA.nd rfl (.inl rfl) (jAL (jKC hK (jB (i:=7) rfl (.inl rfl) rfl rfl) (jA (jT (jA (jN (jQ (by decide +kernel))) (jA (jT (jA (jB (i:=3) rfl (.inl rfl) rfl rfl) (jA yF (jA (jB (i:=5) rfl (.inl rfl) rfl rfl) (jA (jB (i:=6) rfl (.inl rfl) rfl rfl) jD rfl) rfl) rfl) rfl)) jD rfl) rfl)) (jA (jT (jA (jN (jQ (by decide +kernel))) (jA (jT (jA (jB (i:=3) rfl (.inl rfl) rfl rfl) (jA (jB (i:=4) rfl (.inl rfl) rfl rfl) (jA yF (jA (jB (i:=6) rfl (.inl rfl) rfl rfl) jD rfl) rfl) rfl) rfl)) jD rfl) rfl)) jD rfl) rfl) rfl)) rfl (.inl rfl))
 (jG (yM jSA.nd rfl (.inl rfl) (jPP (pl:=_) E_Way_drop_answer_3_ κ.cm_Way (by decide) D.tk D.rm (jB (i:=0) rfl (.inl rfl) rfl rfl) (jA (jB (i:=3) rfl (.inl rfl) rfl rfl) (jA (jB (i:=4) rfl (.inl rfl) rfl rfl) (jA (jB (i:=5) rfl (.inl rfl) rfl rfl) jD rfl) rfl) rfl) jBK rfl rfl rfl rfl rfl rfl) rfl (.inl rfl))
 (jG (yM jSA.nd rfl (.inl rfl) (jAS (qJ (uH hK D.rm.u9) (jB (i:=8) rfl (.inl rfl) rfl rfl) (jN (jQ (by decide +kernel))) rfl) (jAS (jB (i:=6) rfl (.inl rfl) rfl rfl) (qC (jMA (jB (i:=5) rfl (.inl rfl) rfl rfl))))) rfl (.inl rfl))
 (jG (yC (jRD (jX (uH hK D.rm.u9) (jB (i:=1) rfl (.inl rfl) rfl rfl) (jN (jQ (by decide +kernel))) rfl) (yJ hK (jB (i:=9) rfl (.inl rfl) rfl rfl) (fun _=>rfl)) (uP (jAK (jX (uH hK D.rm.u9) (jB (i:=8) rfl (.inl rfl) rfl rfl) (jN (jQ (by decide +kernel))) rfl) (jCL (zL (yJ hK (jB (i:=4) rfl (.inl rfl) rfl rfl) (fun _=>rfl))))))) (jJ (yV rfl (.inl rfl) rfl rfl (jT (jA (jN (jQ (by decide +kernel))) (jA (jDU hK κ.g_BROKEN rfl κ.n_BROKEN (fun _=>(.cons (.str _ (jQ (by decide +kernel))) .nil)) rfl) jD rfl) rfl)) rfl rfl rfl rfl rfl rfl)) jW)
 (jJ (jCM (i:=7) rfl (.inl rfl) rfl rfl)))))))))
theorem jKN
  (D:Bdy (cxOf (L2N.CX P w) P w K mg base jCJ "Way.number_answer" (defScope vG) f cdv A outer s H E) E k)   :
  SimSs (cxOf (L2N.CX P w) P w K mg base jCJ "Way.number_answer" (defScope vG) f cdv A outer s H E) B N (fun c d _ H=>E c d H) (defBody vG) (jFB) :=
 (jJ (yG (yAN κ.d_WORDS rfl (yD hK (uY κ.CF (jB (i:=0) rfl (.inl rfl) rfl rfl) rfl) (vO hK (jAR hK jH (yL (jCC) rfl g.n_int (jA (jB (i:=1) rfl (.inl rfl) rfl rfl) jD rfl) (by decide) rfl rfl rfl)) (yL (jCC) rfl g.n_int (jA (jB (i:=2) rfl (.inl rfl) rfl rfl) jD rfl) (by decide) rfl rfl rfl)) (fun _ _=>rfl)) (yAL (by decide +kernel)) rfl (fun _ _=>rfl))))
theorem jRS
  (D:Bdy (cxOf (L2N.CX P w) P w K mg base jFE "number_steps" (defScope uK) f cdv A outer s H E) E k)  (E_Way_number_answer_2_:MeA P w K mg base B k vJ "number_answer" 2 [] [0,1,2] [] 3 yS) :
  SimSs (cxOf (L2N.CX P w) P w K mg base jFE "number_steps" (defScope uK) f cdv A outer s H E) B N (fun c d _ H=>E c d H) (defBody uK) (jIN) :=
 (jG (jHH hK (jDD hK (jB (i:=2) rfl (.inl rfl) rfl rfl) wR (wQ jH)) (jFW rfl (yK (vR (pg_name jPA.nd rfl (.inl rfl) (.inl rfl))) (yK (vR (pg_name jPA.nd rfl (.inl rfl) (.inl rfl))) jAB rfl) rfl) rfl rfl) rfl rfl rfl)
 (jG (yM jPA.nd rfl (.inl rfl) (jDD hK (jB (i:=2) rfl (.inl rfl) rfl rfl) (wQ jH) wR) rfl (.inl rfl))
 (jG (jBN jPA.nd rfl (.inl rfl) (jAL jD) rfl (.inl rfl))
 (jG (yC (jX (uH hK D.rm.u9) (uY κ.CF (jB (i:=0) rfl (.inl rfl) rfl rfl) rfl) (jN (jQ (by decide +kernel))) rfl) (jJ (yV rfl (.inl rfl) rfl rfl (jT (jA (jN (jQ (by decide +kernel))) (jA (jT (jA yF (jA (jB (i:=4) rfl (.inl rfl) rfl rfl) (jKC hK (SimN.sh (jCB (own:=[("flag", 9)]) hK rfl jPA.nd (wG hK (jB (i:=5) rfl (.inl rfl) rfl rfl)) (jAY (by kernel_rfl)) (by decide) (fun _ _ _ _ _=>(vR (pg_name jPA.nd rfl (.inl rfl) (.inr rfl)))) (fun _ _ _ _ _=>zM) (fun _ _ _ _ _=>yF) (fun _=>rfl))) jD rfl) rfl) rfl)) jD rfl) rfl)) rfl rfl rfl rfl rfl rfl)) jW)
 (jG (yC (jX (jAQ hK D.rm.u9) (uY κ.CF (jB (i:=0) rfl (.inl rfl) rfl rfl) rfl) (jN (jQ (by decide +kernel))) rfl) (jJ (yV rfl (.inl rfl) rfl rfl (jT (jA (jN (jQ (by decide +kernel))) (jA (jT (jA (jB (i:=3) rfl (.inl rfl) rfl rfl) (jA yF (jKC hK (jB (i:=5) rfl (.inl rfl) rfl rfl) jD rfl) rfl) rfl)) jD rfl) rfl)) rfl rfl rfl rfl rfl rfl)) jW)
 (jG (yM jPA.nd rfl (.inl rfl) (jPP (pl:=_) E_Way_number_answer_2_ κ.cm_Way (by decide) D.tk D.rm (jB (i:=0) rfl (.inl rfl) rfl rfl) (jA (jB (i:=3) rfl (.inl rfl) rfl rfl) (jA (jB (i:=4) rfl (.inl rfl) rfl rfl) jD rfl) rfl) jBK rfl rfl rfl rfl rfl rfl) rfl (.inl rfl))
 (jG (yM jPA.nd rfl (.inl rfl) (jAS (qJ (uH hK D.rm.u9) (jB (i:=7) rfl (.inl rfl) rfl rfl) (jN (jQ (by decide +kernel))) rfl) (jAS (qJ (uH hK D.rm.u9) (jB (i:=5) rfl (.inl rfl) rfl rfl) (jT (jA yF jD rfl)) rfl) (qC (uY κ.CF (jB (i:=0) rfl (.inl rfl) rfl rfl) rfl)))) rfl (.inl rfl))
 (jG (yC (jRD (jX (uH hK D.rm.u9) (jB (i:=1) rfl (.inl rfl) rfl rfl) (jN (jQ (by decide +kernel))) rfl) (jX (uH hK D.rm.u9) (jB (i:=7) rfl (.inl rfl) rfl rfl) (jN (jQ (by decide +kernel))) rfl) (yJ hK (jB (i:=8) rfl (.inl rfl) rfl rfl) (fun _=>rfl))) (jJ (yV rfl (.inl rfl) rfl rfl (jT (jA (jN (jQ (by decide +kernel))) (jA (jDU hK κ.g_BROKEN rfl κ.n_BROKEN (fun _=>(.cons (.str _ (jQ (by decide +kernel))) .nil)) rfl) jD rfl) rfl)) rfl rfl rfl rfl rfl rfl)) jW)
 (jJ (jCM (i:=6) rfl (.inl rfl) rfl rfl))))))))))
theorem jRT
  (D:Bdy (cxOf (L2N.CX P w) P w K mg base jFF "landed_steps" (defScope uL) f cdv A outer s H E) E k)  (E_Way_number_answer_2_:MeA P w K mg base B k vJ "number_answer" 2 [] [0,1,2] [] 3 yS) :
  SimSs (cxOf (L2N.CX P w) P w K mg base jFF "landed_steps" (defScope uL) f cdv A outer s H E) B N (fun c d _ H=>E c d H) (defBody uL) (jIO) :=
 (jG (jHH hK (jB (i:=1) rfl (.inl rfl) rfl rfl) (jFW rfl (yK (vR (pg_name jPB.nd rfl (.inl rfl) (.inl rfl))) (yK (vR (pg_name jPB.nd rfl (.inl rfl) (.inl rfl))) (yK (vR (pg_name jPB.nd rfl (.inl rfl) (.inl rfl))) (yK (vR (pg_name jPB.nd rfl (.inl rfl) (.inl rfl))) (yK (vR (pg_name jPB.nd rfl (.inl rfl) (.inl rfl))) jAB rfl) rfl) rfl) rfl) rfl) rfl rfl) rfl rfl rfl)
 (jG (jBN jPB.nd rfl (.inl rfl) (jAL jD) rfl (.inl rfl))
 (jG (yC (zL (yJ hK (jB (i:=2) rfl (.inl rfl) rfl rfl) (fun _=>rfl))) (jG (yC (jX (uH hK D.rm.u9) (uY κ.CF (jB (i:=0) rfl (.inl rfl) rfl rfl) rfl) (jN (jQ (by decide +kernel))) rfl) (jJ (yV rfl (.inl rfl) rfl rfl (jT (jA (jN (jQ (by decide +kernel))) (jA (jT (jA yF (jA (jB (i:=3) rfl (.inl rfl) rfl rfl) (jA yF (jA (jB (i:=5) rfl (.inl rfl) rfl rfl) (jA (jB (i:=6) rfl (.inl rfl) rfl rfl) jD rfl) rfl) rfl) rfl) rfl)) jD rfl) rfl)) rfl rfl rfl rfl rfl rfl)) jW)
 (jG (yC (jX (jAQ hK D.rm.u9) (uY κ.CF (jB (i:=0) rfl (.inl rfl) rfl rfl) rfl) (jN (jQ (by decide +kernel))) rfl) (jJ (yV rfl (.inl rfl) rfl rfl (jT (jA (jN (jQ (by decide +kernel))) (jA (jT (jA yF (jA (jB (i:=3) rfl (.inl rfl) rfl rfl) (jA (jB (i:=4) rfl (.inl rfl) rfl rfl) (jA yF (jA (jB (i:=6) rfl (.inl rfl) rfl rfl) jD rfl) rfl) rfl) rfl) rfl)) jD rfl) rfl)) rfl rfl rfl rfl rfl rfl)) jW)
 (jJ (yG (uX (jKC hK (jB (i:=7) rfl (.inl rfl) rfl rfl) (jA (jT (jA (jN (jQ (by decide +kernel))) (jA (jT (jA yF (jA yF (jA yF (jA yF (jA yF jD rfl) rfl) rfl) rfl) rfl)) jD rfl) rfl)) jD rfl) rfl)))))) jW)
 (jG (yC (jX (uH hK D.rm.u9) (uY κ.CF (jB (i:=0) rfl (.inl rfl) rfl rfl) rfl) (jN (jQ (by decide +kernel))) rfl) (jJ (yV rfl (.inl rfl) rfl rfl (jT (jA (jN (jQ (by decide +kernel))) (jA (jT (jA yF (jA (jB (i:=3) rfl (.inl rfl) rfl rfl) (jA yF (jA (jB (i:=5) rfl (.inl rfl) rfl rfl) (jA yF jD rfl) rfl) rfl) rfl) rfl)) jD rfl) rfl)) rfl rfl rfl rfl rfl rfl)) jW)
 (jG (yC (jX (jAQ hK D.rm.u9) (uY κ.CF (jB (i:=0) rfl (.inl rfl) rfl rfl) rfl) (jN (jQ (by decide +kernel))) rfl) (jJ (yV rfl (.inl rfl) rfl rfl (jT (jA (jN (jQ (by decide +kernel))) (jA (jT (jA yF (jA (jB (i:=3) rfl (.inl rfl) rfl rfl) (jA (jB (i:=4) rfl (.inl rfl) rfl rfl) (jA yF (jA (jB (i:=6) rfl (.inl rfl) rfl rfl) jD rfl) rfl) rfl) rfl) rfl)) jD rfl) rfl)) rfl rfl rfl rfl rfl rfl)) jW)
 (jG (yC (uP (jAK (jX (uH hK D.rm.u9) (jPP (pl:=_) E_Way_number_answer_2_ κ.cm_Way (by decide) D.tk D.rm (jB (i:=0) rfl (.inl rfl) rfl rfl) (jA (jB (i:=4) rfl (.inl rfl) rfl rfl) (jA (jB (i:=5) rfl (.inl rfl) rfl rfl) jD rfl) rfl) jBK rfl rfl rfl rfl rfl rfl) (jN (jQ (by decide +kernel))) rfl) (jCL (uP (jDB (zL (yJ hK (jB (i:=3) rfl (.inl rfl) rfl rfl) (fun _=>rfl))) (jCZ (uP (jAK (yJ hK (jB (i:=6) rfl (.inl rfl) rfl rfl) (fun _=>rfl)) (jCL (yJ hK (uY κ.CF (jB (i:=0) rfl (.inl rfl) rfl rfl) rfl) (fun _=>rfl))))))))))) (jJ (yV rfl (.inl rfl) rfl rfl (jT (jA (jN (jQ (by decide +kernel))) (jA (jDU hK κ.g_BROKEN rfl κ.n_BROKEN (fun _=>(.cons (.str _ (jQ (by decide +kernel))) .nil)) rfl) jD rfl) rfl)) rfl rfl rfl rfl rfl rfl)) jW)
 (jJ (jCM (i:=7) rfl (.inl rfl) rfl rfl))))))))
theorem jRR
  (D:Bdy (cxOf (L2N.CX P w) P w K mg base jFD "return_steps" (defScope uJ) f cdv A outer s H E) E k)  (E_Way_number_answer_2_:MeA P w K mg base B k vJ "number_answer" 2 [] [0,1,2] [] 3 yS) :
  SimSs (cxOf (L2N.CX P w) P w K mg base jFD "return_steps" (defScope uJ) f cdv A outer s H E) B N (fun c d _ H=>E c d H) (defBody uJ) (jIM) :=
 (jG (jHH hK (jB (i:=1) rfl (.inl rfl) rfl rfl) (jFW rfl (yK (vR (pg_name jOZ.nd rfl (.inl rfl) (.inl rfl))) (yK (vR (pg_name jOZ.nd rfl (.inl rfl) (.inl rfl))) (yK (vR (pg_name jOZ.nd rfl (.inl rfl) (.inl rfl))) (yK (vR (pg_name jOZ.nd rfl (.inl rfl) (.inl rfl))) jAB rfl) rfl) rfl) rfl) rfl rfl) rfl rfl rfl)
 (jG (jBN jOZ.nd rfl (.inl rfl) (yMY (jX (jAQ hK D.rm.u9) (jB (i:=2) rfl (.inl rfl) rfl rfl) jH rfl) (jAL (jA (jT (jA (jN (jQ (by decide +kernel))) (jA (jT (jA jH (jA (jB (i:=3) rfl (.inl rfl) rfl rfl) (jA (jB (i:=4) rfl (.inl rfl) rfl rfl) (jA (jB (i:=5) rfl (.inl rfl) rfl rfl) jD rfl) rfl) rfl) rfl)) jD rfl) rfl)) jD rfl)) (jAL jD)) rfl (.inl rfl))
 (jG (yC (jX (uH hK D.rm.u9) (jB (i:=2) rfl (.inl rfl) rfl rfl) jH rfl) (jG (yM jOZ.nd rfl (.inl rfl) (jT (jA jH (jA (jB (i:=3) rfl (.inl rfl) rfl rfl) (jA (jIZ (jB (i:=4) rfl (.inl rfl) rfl rfl) (qC (qJ (jAQ hK D.rm.u9) (uY κ.CF (jB (i:=0) rfl (.inl rfl) rfl rfl) rfl) (jN (jQ (by decide +kernel))) rfl))) (jA (jB (i:=5) rfl (.inl rfl) rfl rfl) jD rfl) rfl) rfl) rfl)) rfl (.inl rfl))
 (jJ (yV rfl (.inl rfl) rfl rfl (jT (jA (jN (jQ (by decide +kernel))) (jA (jBA (yJ hK (jB (i:=5) rfl (.inl rfl) rfl rfl) (fun _=>rfl)) (jDU hK κ.g_BROKEN rfl κ.n_BROKEN (fun _=>(.cons (.str _ (jQ (by decide +kernel))) .nil)) rfl) (jB (i:=7) rfl (.inl rfl) rfl rfl)) jD rfl) rfl)) rfl rfl rfl rfl rfl rfl))) jW)
 (jG (yM jOZ.nd rfl (.inl rfl) (jIZ (jB (i:=5) rfl (.inl rfl) rfl rfl) (qC (jAS (qJ (uH hK D.rm.u9) (jB (i:=2) rfl (.inl rfl) rfl rfl) jH rfl) (qC (jMA (uY κ.CF (jB (i:=0) rfl (.inl rfl) rfl rfl) rfl)))))) rfl (.inl rfl))
 (jG (yV rfl (.inl rfl) rfl rfl (jT (jA (jN (jQ (by decide +kernel))) (jA (jT (jA (jB (i:=2) rfl (.inl rfl) rfl rfl) (jA (jIZ (jB (i:=3) rfl (.inl rfl) rfl rfl) (qC (qJ (uH hK D.rm.u9) (uY κ.CF (jB (i:=0) rfl (.inl rfl) rfl rfl) rfl) (jN (jQ (by decide +kernel))) rfl))) (jA (jB (i:=4) rfl (.inl rfl) rfl rfl) (jA (jB (i:=8) rfl (.inl rfl) rfl rfl) jD rfl) rfl) rfl) rfl)) jD rfl) rfl)) rfl rfl rfl rfl rfl rfl)
 (jG (yC (jX (jAQ hK D.rm.u9) (uY κ.CF (jB (i:=0) rfl (.inl rfl) rfl rfl) rfl) (jN (jQ (by decide +kernel))) rfl) (jJ (yV rfl (.inl rfl) rfl rfl (jT (jA (jN (jQ (by decide +kernel))) (jA (jT (jA (jB (i:=2) rfl (.inl rfl) rfl rfl) (jA (jB (i:=3) rfl (.inl rfl) rfl rfl) (jA yF (jA (jB (i:=5) rfl (.inl rfl) rfl rfl) jD rfl) rfl) rfl) rfl)) jD rfl) rfl)) rfl rfl rfl rfl rfl rfl)) jW)
 (jG (yC (uP (jAK (yJ hK (jB (i:=3) rfl (.inl rfl) rfl rfl) (fun _=>rfl)) (jAK (yJ hK (uY κ.CF (jB (i:=0) rfl (.inl rfl) rfl rfl) rfl) (fun _=>rfl)) (jCL (jX (uH hK D.rm.u9) (jPP (pl:=_) E_Way_number_answer_2_ κ.cm_Way (by decide) D.tk D.rm (jB (i:=0) rfl (.inl rfl) rfl rfl) (jA (jB (i:=3) rfl (.inl rfl) rfl rfl) (jA (jB (i:=4) rfl (.inl rfl) rfl rfl) jD rfl) rfl) jBK rfl rfl rfl rfl rfl rfl) (jN (jQ (by decide +kernel))) rfl))))) (jJ (yV rfl (.inl rfl) rfl rfl (jT (jA (jN (jQ (by decide +kernel))) (jA (jBA (jX (uH hK D.rm.u9) (jB (i:=2) rfl (.inl rfl) rfl rfl) jH rfl) (jDU hK κ.g_BROKEN rfl κ.n_BROKEN (fun _=>(.cons (.str _ (jQ (by decide +kernel))) .nil)) rfl) (jT (jA (jB (i:=2) rfl (.inl rfl) rfl rfl) (jA (jB (i:=3) rfl (.inl rfl) rfl rfl) (jA (jB (i:=4) rfl (.inl rfl) rfl rfl) (jA yF jD rfl) rfl) rfl) rfl))) jD rfl) rfl)) rfl rfl rfl rfl rfl rfl)) jW)
 (jJ (jCM (i:=6) rfl (.inl rfl) rfl rfl)))))))))
theorem jVH
  (D:Bdy (cxOf (L2N.CX P w) P w K mg base jGV "steps_from" (defScope zW) f cdv A outer s H E) E k)  (F_is_stand:Fn P w K mg base B k "is_stand" 2 uI) (F_drop_steps:Fn P w K mg base B k "drop_steps" 3 jCO) (F_landed_steps:Fn P w K mg base B k "landed_steps" 2 jBE) (F_return_steps:Fn P w K mg base B k "return_steps" 2 jBC) (F_number_steps:Fn P w K mg base B k "number_steps" 3 jBD) (X_InvalidStand:ExcA P w K mg base B k "InvalidStand" 3 1 jBL) :
  SimSs (cxOf (L2N.CX P w) P w K mg base jGV "steps_from" (defScope zW) f cdv A outer s H E) B N (fun c d _ H=>E c d H) (defBody zW) (jKQ) :=
 (jG (yC (zL (yJ hK (jV F_is_stand D.tk D.rm rfl (jA (jB (i:=1) rfl (.inl rfl) rfl rfl) (jA (jB (i:=2) rfl (.inr (.inl rfl)) rfl rfl) jD rfl) rfl) rfl rfl rfl) (fun _=>rfl))) (jJ (jEW X_InvalidStand rfl D.tk D.rm rfl (jA (jB (i:=2) rfl (.inr (.inl rfl)) rfl rfl) jD rfl) rfl rfl rfl)) jW)
 (jG (yC (jX (uH hK D.rm.u9) (jB (i:=2) rfl (.inr (.inl rfl)) rfl rfl) (jDU hK κ.g_BROKEN rfl κ.n_BROKEN (fun _=>(.cons (.str _ (jQ (by decide +kernel))) .nil)) rfl) rfl) (jJ (yG (uX jD))) jW)
 (jG (yC (jX (yAC hK D.rm.u9) (jB (i:=1) rfl (.inl rfl) rfl rfl) (jT (jA (jN (jQ (by decide +kernel))) (jA (jN (jQ (by decide +kernel))) jD rfl) rfl)) rfl) (jJ (yM jRZ.nd rfl (.inl rfl) (jV F_drop_steps D.tk D.rm rfl (jA (jB (i:=0) rfl (.inl rfl) rfl rfl) (jA (jB (i:=1) rfl (.inl rfl) rfl rfl) (jA (jB (i:=2) rfl (.inr (.inl rfl)) rfl rfl) jD rfl) rfl) rfl) rfl rfl rfl) rfl (.inl rfl))) (jJ (yC (jX (uH hK D.rm.u9) (jB (i:=1) rfl (.inl rfl) rfl rfl) (jN (jQ (by decide +kernel))) rfl) (jJ (yM jRZ.nd rfl (.inl rfl) (jV F_landed_steps D.tk D.rm rfl (jA (jB (i:=0) rfl (.inl rfl) rfl rfl) (jA (jB (i:=2) rfl (.inr (.inl rfl)) rfl rfl) jD rfl) rfl) rfl rfl rfl) rfl (.inl rfl))) (jJ (yC (jX (uH hK D.rm.u9) (jB (i:=1) rfl (.inl rfl) rfl rfl) (jN (jQ (by decide +kernel))) rfl) (jJ (yM jRZ.nd rfl (.inl rfl) (jV F_return_steps D.tk D.rm rfl (jA (jB (i:=0) rfl (.inl rfl) rfl rfl) (jA (jB (i:=2) rfl (.inr (.inl rfl)) rfl rfl) jD rfl) rfl) rfl rfl rfl) rfl (.inl rfl))) (jJ (yM jRZ.nd rfl (.inl rfl) (jV F_number_steps D.tk D.rm rfl (jA (jB (i:=0) rfl (.inl rfl) rfl rfl) (jA (jB (i:=1) rfl (.inl rfl) rfl rfl) (jA (jB (i:=2) rfl (.inr (.inl rfl)) rfl rfl) jD rfl) rfl) rfl) rfl rfl rfl) rfl (.inl rfl))))))))
 (jJ (yG (SimN.sh (jCB (own:=[("word", 4),("late", 5)]) hK rfl jRZ.nd (wG hK (jB (i:=3) rfl (.inl rfl) rfl rfl)) (jAY (by kernel_rfl)) (by decide) (fun _ _ _ _ _=>(jFW rfl (yK (vR (pg_name jRZ.nd rfl (.inl rfl) (.inr rfl))) (yK (vR (pg_name jRZ.nd rfl (.inl rfl) (.inr rfl))) jAB rfl) rfl) rfl rfl)) (fun _ _ _ _ _=>(jKB (jX (jAQ hK D.rm.u9) (jB (i:=5) rfl (.inl rfl) rfl rfl) (jB (i:=2) rfl (.inr (.inl rfl)) rfl rfl) rfl))) (fun _ _ _ _ _=>(jT (jA (jB (i:=4) rfl (.inl rfl) rfl rfl) (jA (jB (i:=5) rfl (.inl rfl) rfl rfl) jD rfl) rfl))) (fun _=>rfl))))))))
theorem jZN
  (D:Bdy (cxOf (L2N.CX P w) P w K mg base jJF "is_table" (defScope qR) f cdv A outer s H E) E k)   :
  SimSs (cxOf (L2N.CX P w) P w K mg base jJF "is_table" (defScope qR) f cdv A outer s H E) B N (fun c d _ H=>E c d H) (defBody qR) (jJJ) :=
 (jG (yC (uP (jDB (zL (yJ hK (yL (jAD hK) rfl g.n_isinstance (jA (jB (i:=0) rfl (.inl rfl) rfl rfl) (jA (kJ rfl g.n_str PyProof.Rows.boot_str (by decide) rfl) jD rfl) rfl) (by decide) rfl rfl rfl) (fun _=>rfl))) (jDB (jX (jAQ hK D.rm.u9) (yL (bi_len hK) rfl g.n_len (jA (jB (i:=0) rfl (.inl rfl) rfl rfl) jD rfl) (by decide) rfl rfl rfl) (jB (i:=1) rfl (.inl rfl) rfl rfl) rfl) (jCZ (jX (jAQ hK D.rm.u9) (yD hK (jB (i:=0) rfl (.inl rfl) rfl rfl) jH (fun _ _=>rfl)) (jN (jQ (by decide +kernel))) rfl))))) (jJ (yG yF)) jW)
 (jJ (yG (yL (jQJ hK rfl) rfl g.n_all (jA (SimN.sh (jCB (own:=[("letter", 2)]) hK rfl jXJ.nd (wG hK (jB (i:=0) rfl (.inl rfl) rfl rfl)) (jAY (by kernel_rfl)) (by decide) (fun _ _ _ _ _=>(vR (pg_name jXJ.nd rfl (.inl rfl) (.inr rfl)))) (fun _ _ _ _ _=>zM) (fun _ _ _ _ _=>(yMX κ.d_WORDS rfl (jB (i:=2) rfl (.inl rfl) rfl rfl) rfl rfl)) (fun _=>rfl))) jD rfl) (by decide) rfl rfl rfl))))
theorem jRV
  (D:Bdy (cxOf (L2N.CX P w) P w K mg base jFH "Way.__init__" (defScope uN) f cdv A outer s H E) E k)  (F_is_table:Fn P w K mg base B k "is_table" 2 jBI) (X_InvalidTable:ExcA P w K mg base B k "InvalidTable" 0 1 jAG) (X_InvalidOption:ExcA P w K mg base B k "InvalidOption" 1 1 zP) :
  SimSs (cxOf (L2N.CX P w) P w K mg base jFH "Way.__init__" (defScope uN) f cdv A outer s H E) B N (fun c d _ H=>E c d H) (defBody uN) (jFJ) :=
 (jG (jFZ D.pa hK rfl (wG hK (jT (jA (jT (jA (jB (i:=1) rfl (.inl rfl) rfl rfl) (jA jH jD rfl) rfl)) (jA (jT (jA (jB (i:=2) rfl (.inl rfl) rfl rfl) (jA jH jD rfl) rfl)) jD rfl) rfl))) (jFW rfl (yK (vR (pg_name jPD.nd rfl (.inl rfl) (.inl rfl))) (yK (vR (pg_name jPD.nd rfl (.inl rfl) (.inl rfl))) jAB rfl) rfl) rfl rfl) (fun _=>(jJ (yC (zL (yJ hK (jV F_is_table D.tk D.rm rfl (jA (jB (i:=6) rfl (.inl rfl) rfl rfl) (jA (jB (i:=7) rfl (.inl rfl) rfl rfl) jD rfl) rfl) rfl rfl rfl) (fun _=>rfl))) (jJ (jEW X_InvalidTable rfl D.tk D.rm rfl (jA (jB (i:=6) rfl (.inl rfl) rfl rfl) jD rfl) rfl rfl rfl)) jW))) (fun _=>rfl))
 (jG (jFZ D.pa hK rfl (wG hK (jT (jA (jT (jA (jN (jQ (by decide +kernel))) (jA (jB (i:=3) rfl (.inl rfl) rfl rfl) jD rfl) rfl)) (jA (jT (jA (jN (jQ (by decide +kernel))) (jA (jB (i:=4) rfl (.inl rfl) rfl rfl) jD rfl) rfl)) jD rfl) rfl))) (jFW rfl (yK (vR (pg_name jPD.nd rfl (.inl rfl) (.inl rfl))) (yK (vR (pg_name jPD.nd rfl (.inl rfl) (.inl rfl))) jAB rfl) rfl) rfl rfl) (fun _=>(jJ (yC (zL (yJ hK (yL (jAD hK) rfl g.n_isinstance (jA (jB (i:=6) rfl (.inl rfl) rfl rfl) (jA (kJ rfl g.n_bool PyProof.Rows.boot_bool (by decide) rfl) jD rfl) rfl) (by decide) rfl rfl rfl) (fun _=>rfl))) (jJ (jEW X_InvalidOption rfl D.tk D.rm rfl (jA (jB (i:=8) rfl (.inl rfl) rfl rfl) jD rfl) rfl rfl rfl)) jW))) (fun _=>rfl))
 (jG (yC (uP (jDB (zL (yJ hK (yL (jAD hK) rfl g.n_isinstance (jA (jB (i:=5) rfl (.inl rfl) rfl rfl) (jA (kJ rfl g.n_str PyProof.Rows.boot_str (by decide) rfl) jD rfl) rfl) (by decide) rfl rfl rfl) (fun _=>rfl))) (jCZ (jX (jUL hK D.rm.u9) (jB (i:=5) rfl (.inl rfl) rfl rfl) (yFO hK κ.t_Way_LOCKS rfl κ.n_Way (fun _=>(.cons (.str _ (jQ (by decide +kernel))) (.cons (.str _ (jQ (by decide +kernel))) (.cons (.str _ (jQ (by decide +kernel))) .nil)))) rfl rfl) rfl)))) (jJ (jEW X_InvalidOption rfl D.tk D.rm rfl (jA (jN (jQ (by decide +kernel))) jD rfl) rfl rfl rfl)) jW)
 (jG (jTA κ.CF hK rfl (jT (jA (jB (i:=1) rfl (.inl rfl) rfl rfl) (jA (jB (i:=2) rfl (.inl rfl) rfl rfl) jD rfl) rfl)) (jGB rfl (.inl rfl) (jGB rfl (.inl rfl) jTL (fun _=>rfl) rfl rfl rfl) (fun _=>rfl) rfl rfl rfl) rfl rfl rfl rfl rfl)
 (jJ (jTA κ.CF hK rfl (jT (jA (jB (i:=3) rfl (.inl rfl) rfl rfl) (jA (jB (i:=4) rfl (.inl rfl) rfl rfl) (jA (jB (i:=5) rfl (.inl rfl) rfl rfl) jD rfl) rfl) rfl)) (jGB rfl (.inl rfl) (jGB rfl (.inl rfl) (jGB rfl (.inl rfl) jTL (fun _=>rfl) rfl rfl rfl) (fun _=>rfl) rfl rfl rfl) (fun _=>rfl) rfl rfl rfl) rfl rfl rfl rfl rfl))))))
theorem yCY
  (D:Bdy (cxOf (L2N.CX P w) P w K mg base jLC "renewed" (defScope wU) f cdv A outer s H E) E k)  {m:MF} (F_renewed:Fn P w K mg base B k "renewed" 1 m) :
  SimSs (cxOf (L2N.CX P w) P w K mg base jLC "renewed" (defScope wU) f cdv A outer s H E) B N (fun c d _ H=>E c d H) (defBody wU) (jHV m) :=
 (jG (yC (yJ hK (yL (yFC hK κ.is_Way κ.io_Way) rfl g.n_isinstance (jA (jB (i:=0) rfl (.inl rfl) rfl rfl) (jA (kJ rfl g.n_list PyProof.Rows.boot_list (by decide) rfl) jD rfl) rfl) (by decide) rfl rfl rfl) (fun _=>rfl)) (jJ (yG (SimN.sh (jCB (own:=[("item", 1)]) hK rfl jRE.nd (wG hK (jB (i:=0) rfl (.inl rfl) rfl rfl)) (jAY (by kernel_rfl)) (by decide) (fun _ _ _ _ _=>(vR (pg_name jRE.nd rfl (.inl rfl) (.inr rfl)))) (fun _ _ _ _ _=>zM) (fun _ _ _ _ _=>(jV F_renewed (jEN _) D.rm rfl (jA (jB (i:=1) rfl (.inl rfl) rfl rfl) jD rfl) rfl rfl rfl)) (fun _=>rfl))))) jW)
 (jJ (yG (jBA (yJ hK (yL (yFC hK κ.is_Way κ.io_Way) rfl g.n_isinstance (jA (jB (i:=0) rfl (.inl rfl) rfl rfl) (jA (kJ rfl g.n_tuple PyProof.Rows.boot_tuple (by decide) rfl) jD rfl) rfl) (by decide) rfl rfl rfl) (fun _=>rfl)) (yL (jQZ hK) rfl g.n_tuple (jA (SimN.sh (jCB (own:=[("item", 1)]) hK rfl jRE.nd (wG hK (jB (i:=0) rfl (.inl rfl) rfl rfl)) (jAY (by kernel_rfl)) (by decide) (fun _ _ _ _ _=>(vR (pg_name jRE.nd rfl (.inl rfl) (.inr rfl)))) (fun _ _ _ _ _=>zM) (fun _ _ _ _ _=>(jV F_renewed (jEN _) D.rm rfl (jA (jB (i:=1) rfl (.inl rfl) rfl rfl) jD rfl) rfl rfl rfl)) (fun _=>rfl))) jD rfl) (by decide) rfl rfl rfl) (jB (i:=0) rfl (.inl rfl) rfl rfl)))))
theorem yHU
  (D:Bdy (cxOf (L2N.CX P w) P w K mg base jNT "copied" (defScope jBM) f cdv A outer s H E) E k)  (F_renewed:Fn P w K mg base B k "renewed" 1 wI) :
  SimSs (cxOf (L2N.CX P w) P w K mg base jNT "copied" (defScope jBM) f cdv A outer s H E) B N (fun c d _ H=>E c d H) (defBody jBM) (jNU) :=
 (jJ (yG (jBA (yJ hK (yL (jAD hK) rfl g.n_isinstance (jA (jB (i:=0) rfl (.inl rfl) rfl rfl) (jA (jT (jA (kJ rfl g.n_list PyProof.Rows.boot_list (by decide) rfl) (jA (kJ rfl g.n_tuple PyProof.Rows.boot_tuple (by decide) rfl) jD rfl) rfl)) jD rfl) rfl) (by decide) rfl rfl rfl) (fun _=>rfl)) (SimN.sh (jCB (own:=[("item", 1)]) hK rfl yCE.nd (wG hK (jB (i:=0) rfl (.inl rfl) rfl rfl)) (jAY (by kernel_rfl)) (by decide) (fun _ _ _ _ _=>(vR (pg_name yCE.nd rfl (.inl rfl) (.inr rfl)))) (fun _ _ _ _ _=>zM) (fun _ _ _ _ _=>(jV F_renewed (jEN _) D.rm rfl (jA (jB (i:=1) rfl (.inl rfl) rfl rfl) jD rfl) rfl rfl rfl)) (fun _=>rfl))) (jB (i:=0) rfl (.inl rfl) rfl rfl))))
theorem jOH
  (D:Bdy (cxOf (L2N.CX P w) P w K mg base jEC "Paper.__init__" (defScope vZ) f cdv A outer s H E) E k)  (F_renewed:Fn P w K mg base B k "renewed" 1 wI) :
  SimSs (cxOf (L2N.CX P w) P w K mg base jEC "Paper.__init__" (defScope vZ) f cdv A outer s H E) B N (fun c d _ H=>E c d H) (defBody vZ) (jEF) :=
 (jG (jNR κ.CF (jV F_renewed D.tk D.rm rfl (jA (jB (i:=1) rfl (.inl rfl) rfl rfl) jD rfl) rfl rfl rfl) (jB (i:=0) rfl (.inl rfl) rfl rfl) rfl)
 (jJ (jNR κ.CF (jV F_renewed D.tk D.rm rfl (jA (jB (i:=2) rfl (.inl rfl) rfl rfl) jD rfl) rfl rfl rfl) (jB (i:=0) rfl (.inl rfl) rfl rfl) rfl)))
theorem jVM
  (D:Bdy (cxOf (L2N.CX P w) P w K mg base jHA "Kept.holds" (defScope wC) f cdv A outer s H E) E k)  (F_is_wish:Fn P w K mg base B k "is_wish" 1 qY) (F_is_stand:Fn P w K mg base B k "is_stand" 2 uI) (F_first_stand:Fn P w K mg base B k "first_stand" 1 qX) (F_steps_from:Fn P w K mg base B k "steps_from" 3 jAN) :
  SimSs (cxOf (L2N.CX P w) P w K mg base jHA "Kept.holds" (defScope wC) f cdv A outer s H E) B N (fun c d _ H=>E c d H) (defBody wC) (jHB) :=
 (jG (yC (uP (jDB (zL (yJ hK (yL (yXR hK κ.is_Way) rfl g.n_isinstance (jA (uY κ.CF (jB (i:=0) rfl (.inr (.inl rfl)) rfl rfl) rfl) (jA (yNA rfl κ.n_Way) jD rfl) rfl) (by decide) rfl rfl rfl) (fun _=>rfl))) (jDB (zL (yJ hK (jV F_is_wish D.tk D.rm rfl (jA (uY κ.CF (jB (i:=0) rfl (.inr (.inl rfl)) rfl rfl) rfl) jD rfl) rfl rfl rfl) (fun _=>rfl))) (jCZ (zL (yJ hK (yL (jAD hK) rfl g.n_isinstance (jA (uY κ.CF (jB (i:=0) rfl (.inr (.inl rfl)) rfl rfl) rfl) (jA (kJ rfl g.n_list PyProof.Rows.boot_list (by decide) rfl) jD rfl) rfl) (by decide) rfl rfl rfl) (fun _=>rfl))))))) (jJ (yG yF)) jW)
 (jG (yC (zL (yJ hK (yL (jQJ hK rfl) rfl g.n_all (jA (SimN.sh (jCB (own:=[("stand", 3)]) hK rfl jSE.nd (wG hK (uY κ.CF (jB (i:=0) rfl (.inr (.inl rfl)) rfl rfl) rfl)) (jAY (by kernel_rfl)) (by decide) (fun _ _ _ _ _=>(vR (pg_name jSE.nd rfl (.inl rfl) (.inr rfl)))) (fun _ _ _ _ _=>zM) (fun _ _ _ _ _=>(jV F_is_stand (jEN _) D.rm rfl (jA (uY κ.CF (jB (i:=0) rfl (.inr (.inl rfl)) rfl rfl) rfl) (jA (jB (i:=3) rfl (.inl rfl) rfl rfl) jD rfl) rfl) rfl rfl rfl)) (fun _=>rfl))) jD rfl) (by decide) rfl rfl rfl) (fun _=>rfl))) (jJ (yG yF)) jW)
 (jG (yM jSE.nd rfl (.inr rfl) (yMZ (own:=[("stand", 3)]) hK hw D.rm.u9 rfl jSE.nd (wG hK (uY κ.CF (jB (i:=0) rfl (.inr (.inl rfl)) rfl rfl) rfl)) (jAY (by kernel_rfl)) (by decide) (fun _ _ _ _ _=>(vR (pg_name jSE.nd rfl (.inl rfl) (.inr rfl)))) (fun _ _ _ _ _ _=>zM) (fun _ _ _ _ _ _=>(jB (i:=3) rfl (.inl rfl) rfl rfl)) (fun _ _ _ _ _ _=>yF) (fun _=>rfl)) rfl (.inl rfl))
 (jG (yC (uP (jDB (jX (yPB hK hw D.rm.u9) (jV F_first_stand D.tk D.rm rfl (jA (uY κ.CF (jB (i:=0) rfl (.inr (.inl rfl)) rfl rfl) rfl) jD rfl) rfl rfl rfl) (jB (i:=1) rfl (.inr (.inl rfl)) rfl rfl) rfl) (jCZ (jX (yFA hK hw D.rm.u9) (jDU hK κ.g_BROKEN rfl κ.n_BROKEN (fun _=>(.cons (.str _ (jQ (by decide +kernel))) .nil)) rfl) (jB (i:=1) rfl (.inr (.inl rfl)) rfl rfl) rfl)))) (jJ (yG yF)) jW)
 (jG (jXI (own:=[("stand", 3),("word", 4),("late", 5)]) (vs1:=[4,5]) hK rfl jSE.nd rfl rfl rfl (wG hK (uY κ.CF (jB (i:=0) rfl (.inr (.inl rfl)) rfl rfl) rfl)) (jAY (by kernel_rfl)) (by decide) (by decide) (by decide) (fun _ _ _ _ _=>(vR (pg_name jSE.nd rfl (.inl rfl) (.inr rfl)))) (fun _ _ _ _ _ _=>zM) (fun _ _ _ _ _ _=>(jB (i:=5) rfl (.inl rfl) rfl rfl)) (fun _=>rfl) (fun _ _ _ _ _ _=>(wG hK (jV F_steps_from (jEN _) D.rm rfl (jA (uY κ.CF (jB (i:=0) rfl (.inr (.inl rfl)) rfl rfl) rfl) (jA (uY κ.CF (jB (i:=0) rfl (.inr (.inl rfl)) rfl rfl) rfl) (jA (jB (i:=3) rfl (.inl rfl) rfl rfl) jD rfl) rfl) rfl) rfl rfl rfl))) (fun _ _ _ _ _=>(jFW rfl (yK (vR (pg_name jSE.nd rfl (.inl rfl) (.inr rfl))) (yK (vR (pg_name jSE.nd rfl (.inl rfl) (.inr rfl))) jAB rfl) rfl) rfl rfl)) (fun _ _ _ _ _ _=>zM) (fun _ _=>rfl))
 (jJ (yG (yL (jQJ hK rfl) rfl g.n_all (jA (SimN.sh (jCB (own:=[("late", 5)]) hK rfl jSE.nd (wG hK (jB (i:=2) rfl (.inl rfl) rfl rfl)) (jAY (by kernel_rfl)) (by decide) (fun _ _ _ _ _=>(vR (pg_name jSE.nd rfl (.inl rfl) (.inr rfl)))) (fun _ _ _ _ _=>zM) (fun _ _ _ _ _=>(qJ (yFA hK hw D.rm.u9) (jB (i:=5) rfl (.inl rfl) rfl rfl) (jB (i:=1) rfl (.inr (.inl rfl)) rfl rfl) rfl)) (fun _=>rfl))) jD rfl) (by decide) rfl rfl rfl))))))))
theorem jXU
  (D:Bdy (cxOf (L2N.CX P w) P w K mg base jIA "_law_open" (defScope wX) f cdv A outer s H E) E k)   :
  SimSs (cxOf (L2N.CX P w) P w K mg base jIA "_law_open" (defScope wX) f cdv A outer s H E) B N (fun c d _ H=>E c d H) (defBody wX) (jIE) :=
 (jJ (yG (yNB (jAL (jA (yL (jUZ hK) rfl g.n_list (jA (jDD hK (jB (i:=0) rfl (.inl rfl) rfl rfl) wR (wQ jH)) jD rfl) (by decide) rfl rfl rfl) (jA jH (jA jH (jA jH (jA jH jD rfl) rfl) rfl) rfl) rfl)))))
theorem jXW
  (D:Bdy (cxOf (L2N.CX P w) P w K mg base jIC "_law_draw" (defScope wY) f cdv A outer s H E) E k)   :
  SimSs (cxOf (L2N.CX P w) P w K mg base jIC "_law_draw" (defScope wY) f cdv A outer s H E) B N (fun c d _ H=>E c d H) (defBody wY) (jMU) :=
 (jG (yC (uP (jAK (jX (uH hK D.rm.u9) (yD hK (jB (i:=0) rfl (.inl rfl) rfl rfl) jH (fun _ _=>rfl)) jH rfl) (jCL (jX (yQA hK D.rm.u9) (yD hK (jB (i:=0) rfl (.inl rfl) rfl rfl) jH (fun _ _=>rfl)) (yL (bi_len hK) rfl g.n_len (jA (yD hK (jB (i:=0) rfl (.inl rfl) rfl rfl) jH (fun _ _=>rfl)) jD rfl) (by decide) rfl rfl rfl) rfl)))) (jG (yM jVD.nd rfl (.inl rfl) (yD hK (yD hK (jB (i:=0) rfl (.inl rfl) rfl rfl) jH (fun _ _=>rfl)) (yD hK (jB (i:=0) rfl (.inl rfl) rfl rfl) jH (fun _ _=>rfl)) (fun _ _=>rfl)) rfl (.inl rfl))
 (jG (jFS (vO hK (yD hK (jB (i:=0) rfl (.inl rfl) rfl rfl) jH (fun _ _=>rfl)) jH) (jB (i:=0) rfl (.inl rfl) rfl rfl) jH (fun _=>rfl) rfl rfl rfl)
 (jG (jFS (jBA (jX (yZM) (jB (i:=2) rfl (.inl rfl) rfl rfl) (yMT jH jH) rfl) (jB (i:=2) rfl (.inl rfl) rfl rfl) jH) (jB (i:=0) rfl (.inl rfl) rfl rfl) jH (fun _=>rfl) rfl rfl rfl)
 (jJ (jFS (jMB (yL (jCC) rfl g.n_int (jA (vO hK (vO hK (jAR hK (yD hK (jB (i:=0) rfl (.inl rfl) rfl rfl) jH (fun _ _=>rfl)) jH) (jAR hK (jMB (yL (jCC) rfl g.n_int (jA (jB (i:=2) rfl (.inl rfl) rfl rfl) jD rfl) (by decide) rfl rfl rfl) jH) jH)) jH) jD rfl) (by decide) rfl rfl rfl) jH) (jB (i:=0) rfl (.inl rfl) rfl rfl) jH (fun _=>rfl) rfl rfl rfl))))) jW)
 (jG (yC (jX (yQC) (yD hK (jB (i:=0) rfl (.inl rfl) rfl rfl) jH (fun _ _=>rfl)) jH rfl) (jG (yM jVD.nd rfl (.inl rfl) (jMB (yL (jCC) rfl g.n_int (jA (yD hK (jB (i:=0) rfl (.inl rfl) rfl rfl) jH (fun _ _=>rfl)) jD rfl) (by decide) rfl rfl rfl) (jB (i:=1) rfl (.inl rfl) rfl rfl)) rfl (.inl rfl))
 (jG (jFS (yAO (yD hK (jB (i:=0) rfl (.inl rfl) rfl rfl) jH (fun _ _=>rfl)) (jB (i:=1) rfl (.inl rfl) rfl rfl)) (jB (i:=0) rfl (.inl rfl) rfl rfl) jH (fun _=>rfl) rfl rfl rfl)
 (jJ (yG (jB (i:=3) rfl (.inl rfl) rfl rfl))))) jW)
 (jG (jFS (vO hK (yD hK (jB (i:=0) rfl (.inl rfl) rfl rfl) jH (fun _ _=>rfl)) jH) (jB (i:=0) rfl (.inl rfl) rfl rfl) jH (fun _=>rfl) rfl rfl rfl)
 (jG (yM jVD.nd rfl (.inl rfl) (yD hK (jB (i:=0) rfl (.inl rfl) rfl rfl) jH (fun _ _=>rfl)) rfl (.inl rfl))
 (jG (jFS (jMB (yL (jCC) rfl g.n_int (jA (vO hK (vO hK (vO hK (jAR hK (jB (i:=4) rfl (.inl rfl) rfl rfl) (jB (i:=4) rfl (.inl rfl) rfl rfl)) (jAR hK jH (jB (i:=4) rfl (.inl rfl) rfl rfl))) (jAR hK jH (yD hK (jB (i:=0) rfl (.inl rfl) rfl rfl) jH (fun _ _=>rfl)))) jH) jD rfl) (by decide) rfl rfl rfl) jH) (jB (i:=0) rfl (.inl rfl) rfl rfl) jH (fun _=>rfl) rfl rfl rfl)
 (jJ (yG (jMB (yL (jCC) rfl g.n_int (jA (vO hK (vO hK (yAO (yD hK (jB (i:=0) rfl (.inl rfl) rfl rfl) jH (fun _ _=>rfl)) jH) (jAR hK (jB (i:=4) rfl (.inl rfl) rfl rfl) jH)) (yD hK (jB (i:=0) rfl (.inl rfl) rfl rfl) jH (fun _ _=>rfl))) jD rfl) (by decide) rfl rfl rfl) (jB (i:=1) rfl (.inl rfl) rfl rfl)))))))))
theorem yDA
  (D:Bdy (cxOf (L2N.CX P w) P w K mg base jLE "_law_of" (defScope jAP) f cdv A outer s H E) E k)  (F__law_draw:Fn P w K mg base B k "_law_draw" 2 yQ) :
  SimSs (cxOf (L2N.CX P w) P w K mg base jLE "_law_of" (defScope jAP) f cdv A outer s H E) B N (fun c d _ H=>E c d H) (defBody jAP) (jLF) :=
 (jJ (yG (yD hK (jB (i:=1) rfl (.inl rfl) rfl rfl) (jV F__law_draw D.tk D.rm rfl (jA (jB (i:=0) rfl (.inl rfl) rfl rfl) (jA (yL (bi_len hK) rfl g.n_len (jA (jB (i:=1) rfl (.inl rfl) rfl rfl) jD rfl) (by decide) rfl rfl rfl) jD rfl) rfl) rfl rfl rfl) (fun _ _=>rfl))))
theorem jXV
  (D:Bdy (cxOf (L2N.CX P w) P w K mg base jIB "_law_like" (defScope uR) f cdv A outer s H E) E k)  {m:MF} (F__law_like:Fn P w K mg base B k "_law_like" 2 m) :
  SimSs (cxOf (L2N.CX P w) P w K mg base jIB "_law_like" (defScope uR) f cdv A outer s H E) B N (fun c d _ H=>E c d H) (defBody uR) (jMT m) :=
 (jG (yC (yJ hK (yL (jAD hK) rfl g.n_isinstance (jA (jB (i:=1) rfl (.inl rfl) rfl rfl) (jA (jT (jA (kJ rfl g.n_list PyProof.Rows.boot_list (by decide) rfl) (jA (kJ rfl g.n_tuple PyProof.Rows.boot_tuple (by decide) rfl) jD rfl) rfl)) jD rfl) rfl) (by decide) rfl rfl rfl) (fun _=>rfl)) (jG (yC (uP (jDB (jX (jAQ hK D.rm.u9) (yL (jAD hK) rfl g.n_isinstance (jA (jB (i:=0) rfl (.inl rfl) rfl rfl) (jA (kJ rfl g.n_list PyProof.Rows.boot_list (by decide) rfl) jD rfl) rfl) (by decide) rfl rfl rfl) (yL (jAD hK) rfl g.n_isinstance (jA (jB (i:=1) rfl (.inl rfl) rfl rfl) (jA (kJ rfl g.n_list PyProof.Rows.boot_list (by decide) rfl) jD rfl) rfl) (by decide) rfl rfl rfl) rfl) (jCZ (jX (jAQ hK D.rm.u9) (yL (jAD hK) rfl g.n_isinstance (jA (jB (i:=0) rfl (.inl rfl) rfl rfl) (jA (kJ rfl g.n_tuple PyProof.Rows.boot_tuple (by decide) rfl) jD rfl) rfl) (by decide) rfl rfl rfl) (yL (jAD hK) rfl g.n_isinstance (jA (jB (i:=1) rfl (.inl rfl) rfl rfl) (jA (kJ rfl g.n_tuple PyProof.Rows.boot_tuple (by decide) rfl) jD rfl) rfl) (by decide) rfl rfl rfl) rfl)))) (jJ (yG yF)) jW)
 (jJ (yG (jAS (qJ (uH hK D.rm.u9) (yL (bi_len hK) rfl g.n_len (jA (jB (i:=0) rfl (.inl rfl) rfl rfl) jD rfl) (by decide) rfl rfl rfl) (yL (bi_len hK) rfl g.n_len (jA (jB (i:=1) rfl (.inl rfl) rfl rfl) jD rfl) (by decide) rfl rfl rfl) rfl) (qC (yL (jQJ hK rfl) rfl g.n_all (jA (SimN.sh (jCB (own:=[("_law_one", 2),("_law_other", 3)]) hK rfl jMS.nd (yMR hK rfl g.n_zip (jA (jB (i:=0) rfl (.inl rfl) rfl rfl) (jA (jB (i:=1) rfl (.inl rfl) rfl rfl) jD rfl) rfl) rfl rfl rfl) (jAY (by kernel_rfl)) (by decide) (fun _ _ _ _ _=>(jFW rfl (yK (vR (pg_name jMS.nd rfl (.inl rfl) (.inr rfl))) (yK (vR (pg_name jMS.nd rfl (.inl rfl) (.inr rfl))) jAB rfl) rfl) rfl rfl)) (fun _ _ _ _ _=>zM) (fun _ _ _ _ _=>(jV F__law_like (jEN _) D.rm rfl (jA (jB (i:=2) rfl (.inl rfl) rfl rfl) (jA (jB (i:=3) rfl (.inl rfl) rfl rfl) jD rfl) rfl) rfl rfl rfl)) (fun _=>rfl))) jD rfl) (by decide) rfl rfl rfl)))))) jW)
 (jG (yC (uP (jDB (jX (jUM) (jB (i:=1) rfl (.inl rfl) rfl rfl) jJZ rfl) (jCZ (jX (jUM) (jB (i:=0) rfl (.inl rfl) rfl rfl) jJZ rfl)))) (jJ (yG (jAS (qJ (jUM) (jB (i:=1) rfl (.inl rfl) rfl rfl) jJZ rfl) (qC (qJ (jUM) (jB (i:=0) rfl (.inl rfl) rfl rfl) jJZ rfl))))) jW)
 (jG (yC (uP (jDB (jX (jAQ hK D.rm.u9) (yL (jAD hK) rfl g.n_isinstance (jA (jB (i:=0) rfl (.inl rfl) rfl rfl) (jA (kJ rfl g.n_bool PyProof.Rows.boot_bool (by decide) rfl) jD rfl) rfl) (by decide) rfl rfl rfl) (yL (jAD hK) rfl g.n_isinstance (jA (jB (i:=1) rfl (.inl rfl) rfl rfl) (jA (kJ rfl g.n_bool PyProof.Rows.boot_bool (by decide) rfl) jD rfl) rfl) (by decide) rfl rfl rfl) rfl) (jCZ (jX (jAQ hK D.rm.u9) (yL (jAD hK) rfl g.n_isinstance (jA (jB (i:=0) rfl (.inl rfl) rfl rfl) (jA (kJ rfl g.n_int PyProof.Rows.boot_int (by decide) rfl) jD rfl) rfl) (by decide) rfl rfl rfl) (yL (jAD hK) rfl g.n_isinstance (jA (jB (i:=1) rfl (.inl rfl) rfl rfl) (jA (kJ rfl g.n_int PyProof.Rows.boot_int (by decide) rfl) jD rfl) rfl) (by decide) rfl rfl rfl) rfl)))) (jJ (yG yF)) jW)
 (jJ (yG (jAS (qJ (uH hK D.rm.u9) (yL (jAD hK) rfl g.n_isinstance (jA (jB (i:=0) rfl (.inl rfl) rfl rfl) (jA (kJ rfl g.n_str PyProof.Rows.boot_str (by decide) rfl) jD rfl) rfl) (by decide) rfl rfl rfl) (yL (jAD hK) rfl g.n_isinstance (jA (jB (i:=1) rfl (.inl rfl) rfl rfl) (jA (kJ rfl g.n_str PyProof.Rows.boot_str (by decide) rfl) jD rfl) rfl) (by decide) rfl rfl rfl) rfl) (qC (qJ (uH hK D.rm.u9) (jB (i:=0) rfl (.inl rfl) rfl rfl) (jB (i:=1) rfl (.inl rfl) rfl rfl) rfl))))))))
theorem jOG
  (D:Bdy (cxOf (L2N.CX P w) P w K mg base jEB "_law_some_spec" (defScope vY) f cdv A outer s H E) E k)  (F__law_of:Fn P w K mg base B k "_law_of" 2 uQ) (F__law_draw:Fn P w K mg base B k "_law_draw" 2 yQ) :
  SimSs (cxOf (L2N.CX P w) P w K mg base jEB "_law_some_spec" (defScope vY) f cdv A outer s H E) B N (fun c d _ H=>E c d H) (defBody vY) (jEE) :=
 (jG (yM jNB.nd rfl (.inl rfl) (vO hK (jN (jQ (by decide +kernel))) (yEI PySem.F.slot_str_join PySem.F.type_str_join mt_join (jWJ hK) (jN (jQ (by decide +kernel))) (jA (SimN.sh (jCB (own:=[("_law_k", 3)]) hK rfl jNB.nd (jML rfl g.n_range (jA jH jD rfl) rfl) (jAY (by kernel_rfl)) (by decide) (fun _ _ _ _ _=>(vR (pg_name jNB.nd rfl (.inl rfl) (.inr rfl)))) (fun _ _ _ _ _=>zM) (fun _ _ _ _ _=>(jV F__law_of (jEN _) D.rm rfl (jA (jB (i:=0) rfl (.inr (.inl rfl)) rfl rfl) (jA (jN (jQ (by decide +kernel))) jD rfl) rfl) rfl rfl rfl)) (fun _=>rfl))) jD rfl) rfl rfl rfl rfl rfl)) rfl (.inl rfl))
 (jG (yM jNB.nd rfl (.inl rfl) (vO hK (jN (jQ (by decide +kernel))) (yEI PySem.F.slot_str_join PySem.F.type_str_join mt_join (jWJ hK) (jN (jQ (by decide +kernel))) (jA (SimN.sh (jCB (own:=[("_law_k", 3)]) hK rfl jNB.nd (jML rfl g.n_range (jA jH jD rfl) rfl) (jAY (by kernel_rfl)) (by decide) (fun _ _ _ _ _=>(vR (pg_name jNB.nd rfl (.inl rfl) (.inr rfl)))) (fun _ _ _ _ _=>zM) (fun _ _ _ _ _=>(jV F__law_of (jEN _) D.rm rfl (jA (jB (i:=0) rfl (.inr (.inl rfl)) rfl rfl) (jA (jN (jQ (by decide +kernel))) jD rfl) rfl) rfl rfl rfl)) (fun _=>rfl))) jD rfl) rfl rfl rfl rfl rfl)) rfl (.inl rfl))
 (jJ (yG (jT (jA (jB (i:=1) rfl (.inl rfl) rfl rfl) (jA (jB (i:=2) rfl (.inl rfl) rfl rfl) (jA (qJ (yQC) (jV F__law_draw D.tk D.rm rfl (jA (jB (i:=0) rfl (.inr (.inl rfl)) rfl rfl) (jA jH jD rfl) rfl) rfl rfl rfl) jH rfl) (jA (qJ (uH hK D.rm.u9) (jV F__law_draw D.tk D.rm rfl (jA (jB (i:=0) rfl (.inr (.inl rfl)) rfl rfl) (jA jH jD rfl) rfl) rfl rfl rfl) jH rfl) (jA (jV F__law_of D.tk D.rm rfl (jA (jB (i:=0) rfl (.inr (.inl rfl)) rfl rfl) (jA (uX (jA (jN (jQ (by decide +kernel))) (jA (jN (jQ (by decide +kernel))) (jA (jN (jQ (by decide +kernel))) (jA (jN (jQ (by decide +kernel))) jD rfl) rfl) rfl) rfl)) jD rfl) rfl) rfl rfl rfl) jD rfl) rfl) rfl) rfl) rfl))))))
theorem jZP
  (D:Bdy (cxOf (L2N.CX P w) P w K mg base jJH "_law_way" (defScope qU) f cdv A outer s H E) E k)  (M_Way_2_stretches_hidden_lock:MkA P w K mg base B k "Way" vJ 2 ["stretches", "hidden", "lock"] [0,1,2,3,4,5] [.str "tttttttt", .str "tttt"] 6 zH) :
  SimSs (cxOf (L2N.CX P w) P w K mg base jJH "_law_way" (defScope qU) f cdv A outer s H E) B N (fun c d _ H=>E c d H) (defBody qU) (jJK) :=
 (jJ (yG (jMC M_Way_2_stretches_hidden_lock D.tk D.rm rfl (jA (yD hK (jB (i:=0) rfl (.inl rfl) rfl rfl) jH (fun _ _=>rfl)) (jA (yD hK (jB (i:=0) rfl (.inl rfl) rfl rfl) jH (fun _ _=>rfl)) jD rfl) rfl) (jNS (yD hK (jB (i:=0) rfl (.inl rfl) rfl rfl) jH (fun _ _=>rfl)) (jNS (yD hK (jB (i:=0) rfl (.inl rfl) rfl rfl) jH (fun _ _=>rfl)) (jNS (yD hK (jB (i:=0) rfl (.inl rfl) rfl rfl) jH (fun _ _=>rfl)) jBK))) rfl rfl rfl rfl rfl rfl)))
theorem jSO
  (D:Bdy (cxOf (L2N.CX P w) P w K mg base jGD "_law_wishes" (defScope zG) f cdv A outer s H E) E k)   :
  SimSs (cxOf (L2N.CX P w) P w K mg base jGD "_law_wishes" (defScope zG) f cdv A outer s H E) B N (fun c d _ H=>E c d H) (defBody zG) (jJM) :=
 (jJ (yG (uX (jA (jN (jQ (by decide +kernel))) (jA (jN (jQ (by decide +kernel))) (jA (jN (jQ (by decide +kernel))) (jA (jN (jQ (by decide +kernel))) (jA (jN (jQ (by decide +kernel))) (jA (jN (jQ (by decide +kernel))) jD rfl) rfl) rfl) rfl) rfl) rfl))))
theorem jZQ
  (D:Bdy (cxOf (L2N.CX P w) P w K mg base jJI "_law_put" (defScope qW) f cdv A outer s H E) E k)   :
  SimSs (cxOf (L2N.CX P w) P w K mg base jJI "_law_put" (defScope qW) f cdv A outer s H E) B N (fun c d _ H=>E c d H) (defBody qW) (jOS) :=
 (jJ (yG (vO hK (vO hK (jDD hK (jB (i:=0) rfl (.inl rfl) rfl rfl) wR (wQ (jB (i:=1) rfl (.inl rfl) rfl rfl))) (jT (jA (jB (i:=2) rfl (.inl rfl) rfl rfl) jD rfl))) (jDD hK (jB (i:=0) rfl (.inl rfl) rfl rfl) (wQ (vO hK (jB (i:=1) rfl (.inl rfl) rfl rfl) jH)) wR))))
theorem jKK
  (D:Bdy (cxOf (L2N.CX P w) P w K mg base jCG "_law_number_taken" (defScope vB) f cdv A outer s H E) E k)   :
  SimSs (cxOf (L2N.CX P w) P w K mg base jCG "_law_number_taken" (defScope vB) f cdv A outer s H E) B N (fun c d _ H=>E c d H) (defBody vB) (jEY) :=
 (jJ (yG (qJ (uH hK D.rm.u9) (yD hK (yD hK (jB (i:=0) rfl (.inl rfl) rfl rfl) jH (fun _ _=>rfl)) (vO hK (jAR hK jH (yL (jCC) rfl g.n_int (jA (jB (i:=1) rfl (.inl rfl) rfl rfl) jD rfl) (by decide) rfl rfl rfl)) (yL (jCC) rfl g.n_int (jA (jB (i:=2) rfl (.inl rfl) rfl rfl) jD rfl) (by decide) rfl rfl rfl)) (fun _ _=>rfl)) (jN (jQ (by decide +kernel))) rfl)))
theorem jNH
  (D:Bdy (cxOf (L2N.CX P w) P w K mg base jDG "_law_drop_steps" (defScope vM) f cdv A outer s H E) E k)  (F__law_put:Fn P w K mg base B k "_law_put" 3 yN) :
  SimSs (cxOf (L2N.CX P w) P w K mg base jDG "_law_drop_steps" (defScope vM) f cdv A outer s H E) B N (fun c d _ H=>E c d H) (defBody vM) (jGF) :=
 (jG (yBY (i:=3) (j:=4) rfl jLK.nd rfl rfl (by decide) rfl rfl (vO hK (vO hK (jAR hK jH (yL (jCC) rfl g.n_int (jA (yD hK (jB (i:=2) rfl (.inl rfl) rfl rfl) jH (fun _ _=>rfl)) jD rfl) (by decide) rfl rfl rfl)) (jAR hK jH (yL (jCC) rfl g.n_int (jA (yD hK (jB (i:=2) rfl (.inl rfl) rfl rfl) jH (fun _ _=>rfl)) jD rfl) (by decide) rfl rfl rfl))) (yL (jCC) rfl g.n_int (jA (yD hK (jB (i:=2) rfl (.inl rfl) rfl rfl) jH (fun _ _=>rfl)) jD rfl) (by decide) rfl rfl rfl)) (jAL jD) rfl rfl rfl rfl)
 (jG (yM jLK.nd rfl (.inl rfl) (yD hK (yD hK (jB (i:=0) rfl (.inl rfl) rfl rfl) jH (fun _ _=>rfl)) (jB (i:=3) rfl (.inl rfl) rfl rfl) (fun _ _=>rfl)) rfl (.inl rfl))
 (jG (yC (jX (jAQ hK D.rm.u9) (yD hK (jB (i:=0) rfl (.inl rfl) rfl rfl) jH (fun _ _=>rfl)) (jN (jQ (by decide +kernel))) rfl) (jJ (jBN jLK.nd rfl (.inl rfl) (jAL (jA (jT (jA (jN (jQ (by decide +kernel))) (jA (jV F__law_put D.tk D.rm rfl (jA (jV F__law_put D.tk D.rm rfl (jA (jB (i:=2) rfl (.inl rfl) rfl rfl) (jA jH (jA yF jD rfl) rfl) rfl) rfl rfl rfl) (jA jH (jA yF jD rfl) rfl) rfl) rfl rfl rfl) jD rfl) rfl)) (jA (jT (jA (jN (jQ (by decide +kernel))) (jA (jV F__law_put D.tk D.rm rfl (jA (jB (i:=2) rfl (.inl rfl) rfl rfl) (jA jH (jA yF jD rfl) rfl) rfl) rfl rfl rfl) jD rfl) rfl)) jD rfl) rfl)) rfl (.inl rfl))) jW)
 (jG (jBN jLK.nd rfl (.inl rfl) (yFQ (jB (i:=4) rfl (.inl rfl) rfl rfl) (uX (jA (jT (jA (jN (jQ (by decide +kernel))) (jA (jV F__law_put D.tk D.rm rfl (jA (jB (i:=2) rfl (.inl rfl) rfl rfl) (jA jH (jA yF jD rfl) rfl) rfl) rfl rfl rfl) jD rfl) rfl)) (jA (jT (jA (jN (jQ (by decide +kernel))) (jA (jV F__law_put D.tk D.rm rfl (jA (jB (i:=2) rfl (.inl rfl) rfl rfl) (jA jH (jA yF jD rfl) rfl) rfl) rfl rfl rfl) jD rfl) rfl)) jD rfl) rfl))) rfl (.inl rfl))
 (jG (yC (uP (jAK (jX (uH hK D.rm.u9) (jB (i:=1) rfl (.inl rfl) rfl rfl) (jN (jQ (by decide +kernel))) rfl) (jAK (jX (uH hK D.rm.u9) (jB (i:=5) rfl (.inl rfl) rfl rfl) (jN (jQ (by decide +kernel))) rfl) (jAK (yJ hK (yD hK (jB (i:=2) rfl (.inl rfl) rfl rfl) jH (fun _ _=>rfl)) (fun _=>rfl)) (jCL (zL (yJ hK (yD hK (jB (i:=2) rfl (.inl rfl) rfl rfl) jH (fun _ _=>rfl)) (fun _=>rfl)))))))) (jJ (yV rfl (.inl rfl) rfl rfl (jT (jA (jN (jQ (by decide +kernel))) (jA (jT (jA (jN (jQ (by decide +kernel))) jD rfl)) jD rfl) rfl)) rfl rfl rfl rfl rfl rfl)) jW)
 (jG (yC (uP (jAK (jX (uH hK D.rm.u9) (jB (i:=1) rfl (.inl rfl) rfl rfl) (jN (jQ (by decide +kernel))) rfl) (jAK (jX (uH hK D.rm.u9) (jB (i:=5) rfl (.inl rfl) rfl rfl) (jN (jQ (by decide +kernel))) rfl) (jCL (zL (yJ hK (yD hK (jB (i:=2) rfl (.inl rfl) rfl rfl) jH (fun _ _=>rfl)) (fun _=>rfl))))))) (jJ (yV rfl (.inl rfl) rfl rfl (jT (jA (jN (jQ (by decide +kernel))) (jA (jT (jA (jN (jQ (by decide +kernel))) jD rfl)) jD rfl) rfl)) rfl rfl rfl rfl rfl rfl)) jW)
 (jJ (jCM (i:=4) rfl (.inl rfl) rfl rfl))))))))
theorem jKL
  (D:Bdy (cxOf (L2N.CX P w) P w K mg base jCH "_law_number_steps" (defScope vC) f cdv A outer s H E) E k)  (F__law_put:Fn P w K mg base B k "_law_put" 3 yN) :
  SimSs (cxOf (L2N.CX P w) P w K mg base jCH "_law_number_steps" (defScope vC) f cdv A outer s H E) B N (fun c d _ H=>E c d H) (defBody vC) (jEZ) :=
 (jG (jBN jJQ.nd rfl (.inl rfl) (jAL jD) rfl (.inl rfl))
 (jG (yC (jX (uH hK D.rm.u9) (yD hK (jB (i:=0) rfl (.inl rfl) rfl rfl) jH (fun _ _=>rfl)) (jN (jQ (by decide +kernel))) rfl) (jJ (yV rfl (.inl rfl) rfl rfl (jT (jA (jN (jQ (by decide +kernel))) (jA (jBA (jX (uH hK D.rm.u9) (jB (i:=1) rfl (.inl rfl) rfl rfl) (jN (jQ (by decide +kernel))) rfl) (jT (jA yF (jA (yD hK (jB (i:=2) rfl (.inl rfl) rfl rfl) jH (fun _ _=>rfl)) jD rfl) rfl)) (jT (jA yF (jA (yD hK (jB (i:=2) rfl (.inl rfl) rfl rfl) jH (fun _ _=>rfl)) (jA yF jD rfl) rfl) rfl))) jD rfl) rfl)) rfl rfl rfl rfl rfl rfl)) jW)
 (jG (yC (jX (jAQ hK D.rm.u9) (yD hK (jB (i:=0) rfl (.inl rfl) rfl rfl) jH (fun _ _=>rfl)) (jN (jQ (by decide +kernel))) rfl) (jJ (yV rfl (.inl rfl) rfl rfl (jT (jA (jN (jQ (by decide +kernel))) (jA (jV F__law_put D.tk D.rm rfl (jA (jB (i:=2) rfl (.inl rfl) rfl rfl) (jA jH (jA yF jD rfl) rfl) rfl) rfl rfl rfl) jD rfl) rfl)) rfl rfl rfl rfl rfl rfl)) jW)
 (jG (yM jJQ.nd rfl (.inl rfl) (yD hK (yD hK (jB (i:=0) rfl (.inl rfl) rfl rfl) jH (fun _ _=>rfl)) (vO hK (jAR hK jH (yL (jCC) rfl g.n_int (jA (yD hK (jB (i:=2) rfl (.inl rfl) rfl rfl) jH (fun _ _=>rfl)) jD rfl) (by decide) rfl rfl rfl)) (yL (jCC) rfl g.n_int (jA (yD hK (jB (i:=2) rfl (.inl rfl) rfl rfl) jH (fun _ _=>rfl)) jD rfl) (by decide) rfl rfl rfl)) (fun _ _=>rfl)) rfl (.inl rfl))
 (jG (yM jJQ.nd rfl (.inl rfl) (jBA (jX (uH hK D.rm.u9) (jB (i:=1) rfl (.inl rfl) rfl rfl) (jN (jQ (by decide +kernel))) rfl) (qJ (uH hK D.rm.u9) (jB (i:=4) rfl (.inl rfl) rfl rfl) (jN (jQ (by decide +kernel))) rfl) (jAS (qJ (uH hK D.rm.u9) (jB (i:=4) rfl (.inl rfl) rfl rfl) (jN (jQ (by decide +kernel))) rfl) (jAS (yD hK (jB (i:=2) rfl (.inl rfl) rfl rfl) jH (fun _ _=>rfl)) (qC (yD hK (jB (i:=0) rfl (.inl rfl) rfl rfl) jH (fun _ _=>rfl)))))) rfl (.inl rfl))
 (jG (yC (yJ hK (jB (i:=5) rfl (.inl rfl) rfl rfl) (fun _=>rfl)) (jJ (yV rfl (.inl rfl) rfl rfl (jT (jA (jN (jQ (by decide +kernel))) (jA (jT (jA (jN (jQ (by decide +kernel))) jD rfl)) jD rfl) rfl)) rfl rfl rfl rfl rfl rfl)) jW)
 (jJ (jCM (i:=3) rfl (.inl rfl) rfl rfl))))))))
theorem jKM
  (D:Bdy (cxOf (L2N.CX P w) P w K mg base jCI "_law_landed_steps" (defScope vD) f cdv A outer s H E) E k)  (F__law_put:Fn P w K mg base B k "_law_put" 3 yN) (F__law_number_taken:Fn P w K mg base B k "_law_number_taken" 3 vQ) :
  SimSs (cxOf (L2N.CX P w) P w K mg base jCI "_law_landed_steps" (defScope vD) f cdv A outer s H E) B N (fun c d _ H=>E c d H) (defBody vD) (jFA) :=
 (jG (jBN jJR.nd rfl (.inl rfl) (jAL jD) rfl (.inl rfl))
 (jG (yC (zL (yJ hK (yD hK (jB (i:=1) rfl (.inl rfl) rfl rfl) jH (fun _ _=>rfl)) (fun _=>rfl))) (jG (yC (jX (uH hK D.rm.u9) (yD hK (jB (i:=0) rfl (.inl rfl) rfl rfl) jH (fun _ _=>rfl)) (jN (jQ (by decide +kernel))) rfl) (jJ (yV rfl (.inl rfl) rfl rfl (jT (jA (jN (jQ (by decide +kernel))) (jA (jV F__law_put D.tk D.rm rfl (jA (jB (i:=1) rfl (.inl rfl) rfl rfl) (jA jH (jA yF jD rfl) rfl) rfl) rfl rfl rfl) jD rfl) rfl)) rfl rfl rfl rfl rfl rfl)) jW)
 (jG (yC (jX (jAQ hK D.rm.u9) (yD hK (jB (i:=0) rfl (.inl rfl) rfl rfl) jH (fun _ _=>rfl)) (jN (jQ (by decide +kernel))) rfl) (jJ (yV rfl (.inl rfl) rfl rfl (jT (jA (jN (jQ (by decide +kernel))) (jA (jV F__law_put D.tk D.rm rfl (jA (jV F__law_put D.tk D.rm rfl (jA (jB (i:=1) rfl (.inl rfl) rfl rfl) (jA jH (jA yF jD rfl) rfl) rfl) rfl rfl rfl) (jA jH (jA yF jD rfl) rfl) rfl) rfl rfl rfl) jD rfl) rfl)) rfl rfl rfl rfl rfl rfl)) jW)
 (jJ (yG (vO hK (jB (i:=2) rfl (.inl rfl) rfl rfl) (uX (jA (jT (jA (jN (jQ (by decide +kernel))) (jA (jT (jA yF (jA yF (jA yF (jA yF (jA yF jD rfl) rfl) rfl) rfl) rfl)) jD rfl) rfl)) jD rfl))))))) jW)
 (jG (yC (jX (uH hK D.rm.u9) (yD hK (jB (i:=0) rfl (.inl rfl) rfl rfl) jH (fun _ _=>rfl)) (jN (jQ (by decide +kernel))) rfl) (jJ (yV rfl (.inl rfl) rfl rfl (jT (jA (jN (jQ (by decide +kernel))) (jA (jV F__law_put D.tk D.rm rfl (jA (jV F__law_put D.tk D.rm rfl (jA (jB (i:=1) rfl (.inl rfl) rfl rfl) (jA jH (jA yF jD rfl) rfl) rfl) rfl rfl rfl) (jA jH (jA yF jD rfl) rfl) rfl) rfl rfl rfl) jD rfl) rfl)) rfl rfl rfl rfl rfl rfl)) jW)
 (jG (yC (jX (jAQ hK D.rm.u9) (yD hK (jB (i:=0) rfl (.inl rfl) rfl rfl) jH (fun _ _=>rfl)) (jN (jQ (by decide +kernel))) rfl) (jJ (yV rfl (.inl rfl) rfl rfl (jT (jA (jN (jQ (by decide +kernel))) (jA (jV F__law_put D.tk D.rm rfl (jA (jB (i:=1) rfl (.inl rfl) rfl rfl) (jA jH (jA yF jD rfl) rfl) rfl) rfl rfl rfl) jD rfl) rfl)) rfl rfl rfl rfl rfl rfl)) jW)
 (jG (yM jJR.nd rfl (.inl rfl) (jIZ (jMA (yD hK (jB (i:=1) rfl (.inl rfl) rfl rfl) jH (fun _ _=>rfl))) (qC (jAS (yD hK (jB (i:=1) rfl (.inl rfl) rfl rfl) jH (fun _ _=>rfl)) (qC (yD hK (jB (i:=0) rfl (.inl rfl) rfl rfl) jH (fun _ _=>rfl)))))) rfl (.inl rfl))
 (jG (yC (uP (jAK (yJ hK (jB (i:=3) rfl (.inl rfl) rfl rfl) (fun _=>rfl)) (jCL (yJ hK (jV F__law_number_taken D.tk D.rm rfl (jA (jB (i:=0) rfl (.inl rfl) rfl rfl) (jA (yD hK (jB (i:=1) rfl (.inl rfl) rfl rfl) jH (fun _ _=>rfl)) (jA (yD hK (jB (i:=1) rfl (.inl rfl) rfl rfl) jH (fun _ _=>rfl)) jD rfl) rfl) rfl) rfl rfl rfl) (fun _=>rfl))))) (jJ (yV rfl (.inl rfl) rfl rfl (jT (jA (jN (jQ (by decide +kernel))) (jA (jT (jA (jN (jQ (by decide +kernel))) jD rfl)) jD rfl) rfl)) rfl rfl rfl rfl rfl rfl)) jW)
 (jJ (jCM (i:=2) rfl (.inl rfl) rfl rfl))))))))
theorem jKJ
  (D:Bdy (cxOf (L2N.CX P w) P w K mg base jCF "_law_return_steps" (defScope vA) f cdv A outer s H E) E k)  (F__law_put:Fn P w K mg base B k "_law_put" 3 yN) (F__law_number_taken:Fn P w K mg base B k "_law_number_taken" 3 vQ) :
  SimSs (cxOf (L2N.CX P w) P w K mg base jCF "_law_return_steps" (defScope vA) f cdv A outer s H E) B N (fun c d _ H=>E c d H) (defBody vA) (jEX) :=
 (jG (jSZ (i:=2) (j:=3) rfl jJO.nd rfl rfl (by decide) rfl rfl (jAL jD) (jT (jA (jN (jQ (by decide +kernel))) jD rfl)) rfl rfl rfl rfl)
 (jG (yC (jX (jAQ hK D.rm.u9) (yD hK (jB (i:=1) rfl (.inl rfl) rfl rfl) jH (fun _ _=>rfl)) jH rfl) (jJ (yV rfl (.inl rfl) rfl rfl (jT (jA (jN (jQ (by decide +kernel))) (jA (jV F__law_put D.tk D.rm rfl (jA (jB (i:=1) rfl (.inl rfl) rfl rfl) (jA jH (jA jH jD rfl) rfl) rfl) rfl rfl rfl) jD rfl) rfl)) rfl rfl rfl rfl rfl rfl)) (jG (yM jJO.nd rfl (.inl rfl) (jV F__law_put D.tk D.rm rfl (jA (jV F__law_put D.tk D.rm rfl (jA (jB (i:=1) rfl (.inl rfl) rfl rfl) (jA jH (jA jH jD rfl) rfl) rfl) rfl rfl rfl) (jA jH (jA (jIZ (yD hK (jB (i:=1) rfl (.inl rfl) rfl rfl) jH (fun _ _=>rfl)) (qC (qJ (jAQ hK D.rm.u9) (yD hK (jB (i:=0) rfl (.inl rfl) rfl rfl) jH (fun _ _=>rfl)) (jN (jQ (by decide +kernel))) rfl))) jD rfl) rfl) rfl) rfl rfl rfl) rfl (.inl rfl))
 (jJ (yV rfl (.inl rfl) rfl rfl (jT (jA (jN (jQ (by decide +kernel))) (jA (jBA (yJ hK (yD hK (jB (i:=1) rfl (.inl rfl) rfl rfl) jH (fun _ _=>rfl)) (fun _=>rfl)) (jB (i:=3) rfl (.inl rfl) rfl rfl) (jB (i:=4) rfl (.inl rfl) rfl rfl)) jD rfl) rfl)) rfl rfl rfl rfl rfl rfl))))
 (jG (yM jJO.nd rfl (.inl rfl) (jV F__law_put D.tk D.rm rfl (jA (jB (i:=1) rfl (.inl rfl) rfl rfl) (jA jH (jA (jIZ (yD hK (jB (i:=1) rfl (.inl rfl) rfl rfl) jH (fun _ _=>rfl)) (qC (qJ (uH hK D.rm.u9) (yD hK (jB (i:=0) rfl (.inl rfl) rfl rfl) jH (fun _ _=>rfl)) (jN (jQ (by decide +kernel))) rfl))) jD rfl) rfl) rfl) rfl rfl rfl) rfl (.inl rfl))
 (jG (yV rfl (.inl rfl) rfl rfl (jT (jA (jN (jQ (by decide +kernel))) (jA (jV F__law_put D.tk D.rm rfl (jA (jB (i:=4) rfl (.inl rfl) rfl rfl) (jA jH (jA (jIZ (yD hK (jB (i:=1) rfl (.inl rfl) rfl rfl) jH (fun _ _=>rfl)) (qC (jAS (qJ (uH hK D.rm.u9) (yD hK (jB (i:=1) rfl (.inl rfl) rfl rfl) jH (fun _ _=>rfl)) jH rfl) (qC (jMA (yD hK (jB (i:=0) rfl (.inl rfl) rfl rfl) jH (fun _ _=>rfl))))))) jD rfl) rfl) rfl) rfl rfl rfl) jD rfl) rfl)) rfl rfl rfl rfl rfl rfl)
 (jG (yC (jX (jAQ hK D.rm.u9) (yD hK (jB (i:=0) rfl (.inl rfl) rfl rfl) jH (fun _ _=>rfl)) (jN (jQ (by decide +kernel))) rfl) (jJ (yV rfl (.inl rfl) rfl rfl (jT (jA (jN (jQ (by decide +kernel))) (jA (jV F__law_put D.tk D.rm rfl (jA (jB (i:=1) rfl (.inl rfl) rfl rfl) (jA jH (jA yF jD rfl) rfl) rfl) rfl rfl rfl) jD rfl) rfl)) rfl rfl rfl rfl rfl rfl)) jW)
 (jG (yC (uP (jAK (yJ hK (yD hK (jB (i:=1) rfl (.inl rfl) rfl rfl) jH (fun _ _=>rfl)) (fun _=>rfl)) (jAK (yJ hK (yD hK (jB (i:=0) rfl (.inl rfl) rfl rfl) jH (fun _ _=>rfl)) (fun _=>rfl)) (jCL (yJ hK (jV F__law_number_taken D.tk D.rm rfl (jA (jB (i:=0) rfl (.inl rfl) rfl rfl) (jA (yD hK (jB (i:=1) rfl (.inl rfl) rfl rfl) jH (fun _ _=>rfl)) (jA (yD hK (jB (i:=1) rfl (.inl rfl) rfl rfl) jH (fun _ _=>rfl)) jD rfl) rfl) rfl) rfl rfl rfl) (fun _=>rfl)))))) (jJ (yV rfl (.inl rfl) rfl rfl (jT (jA (jN (jQ (by decide +kernel))) (jA (jBA (jX (uH hK D.rm.u9) (yD hK (jB (i:=1) rfl (.inl rfl) rfl rfl) jH (fun _ _=>rfl)) jH rfl) (jB (i:=3) rfl (.inl rfl) rfl rfl) (jV F__law_put D.tk D.rm rfl (jA (jB (i:=1) rfl (.inl rfl) rfl rfl) (jA jH (jA yF jD rfl) rfl) rfl) rfl rfl rfl)) jD rfl) rfl)) rfl rfl rfl rfl rfl rfl)) jW)
 (jJ (jCM (i:=2) rfl (.inl rfl) rfl rfl))))))))
theorem jVK
  (D:Bdy (cxOf (L2N.CX P w) P w K mg base jGY "_law_steps" (defScope wA) f cdv A outer s H E) E k)  (F__law_drop_steps:Fn P w K mg base B k "_law_drop_steps" 3 qG) (F__law_landed_steps:Fn P w K mg base B k "_law_landed_steps" 2 wM) (F__law_return_steps:Fn P w K mg base B k "_law_return_steps" 2 wJ) (F__law_number_steps:Fn P w K mg base B k "_law_number_steps" 3 wL) :
  SimSs (cxOf (L2N.CX P w) P w K mg base jGY "_law_steps" (defScope wA) f cdv A outer s H E) B N (fun c d _ H=>E c d H) (defBody wA) (jKT) :=
 (jG (yC (jX (uH hK D.rm.u9) (jB (i:=2) rfl (.inr (.inl rfl)) rfl rfl) (jT (jA (jN (jQ (by decide +kernel))) jD rfl)) rfl) (jJ (yG (uX jD))) jW)
 (jG (yC (jX (yAC hK D.rm.u9) (jB (i:=1) rfl (.inl rfl) rfl rfl) (uX (jA (jN (jQ (by decide +kernel))) (jA (jN (jQ (by decide +kernel))) jD rfl) rfl)) rfl) (jJ (yM jSC.nd rfl (.inl rfl) (jV F__law_drop_steps D.tk D.rm rfl (jA (jB (i:=0) rfl (.inl rfl) rfl rfl) (jA (jB (i:=1) rfl (.inl rfl) rfl rfl) (jA (jB (i:=2) rfl (.inr (.inl rfl)) rfl rfl) jD rfl) rfl) rfl) rfl rfl rfl) rfl (.inl rfl))) (jJ (yC (jX (uH hK D.rm.u9) (jB (i:=1) rfl (.inl rfl) rfl rfl) (jN (jQ (by decide +kernel))) rfl) (jJ (yM jSC.nd rfl (.inl rfl) (jV F__law_landed_steps D.tk D.rm rfl (jA (jB (i:=0) rfl (.inl rfl) rfl rfl) (jA (jB (i:=2) rfl (.inr (.inl rfl)) rfl rfl) jD rfl) rfl) rfl rfl rfl) rfl (.inl rfl))) (jJ (yC (jX (uH hK D.rm.u9) (jB (i:=1) rfl (.inl rfl) rfl rfl) (jN (jQ (by decide +kernel))) rfl) (jJ (yM jSC.nd rfl (.inl rfl) (jV F__law_return_steps D.tk D.rm rfl (jA (jB (i:=0) rfl (.inl rfl) rfl rfl) (jA (jB (i:=2) rfl (.inr (.inl rfl)) rfl rfl) jD rfl) rfl) rfl rfl rfl) rfl (.inl rfl))) (jJ (yM jSC.nd rfl (.inl rfl) (jV F__law_number_steps D.tk D.rm rfl (jA (jB (i:=0) rfl (.inl rfl) rfl rfl) (jA (jB (i:=1) rfl (.inl rfl) rfl rfl) (jA (jB (i:=2) rfl (.inr (.inl rfl)) rfl rfl) jD rfl) rfl) rfl) rfl rfl rfl) rfl (.inl rfl))))))))
 (jJ (yG (SimN.sh (jCB (own:=[("_law_word", 4),("_law_late", 5)]) hK rfl jSC.nd (wG hK (jB (i:=3) rfl (.inl rfl) rfl rfl)) (jAY (by kernel_rfl)) (by decide) (fun _ _ _ _ _=>(jFW rfl (yK (vR (pg_name jSC.nd rfl (.inl rfl) (.inr rfl))) (yK (vR (pg_name jSC.nd rfl (.inl rfl) (.inr rfl))) jAB rfl) rfl) rfl rfl)) (fun _ _ _ _ _=>(jKB (jX (jAQ hK D.rm.u9) (jB (i:=5) rfl (.inl rfl) rfl rfl) (jB (i:=2) rfl (.inr (.inl rfl)) rfl rfl) rfl))) (fun _ _ _ _ _=>(jT (jA (jB (i:=4) rfl (.inl rfl) rfl rfl) (jA (jB (i:=5) rfl (.inl rfl) rfl rfl) jD rfl) rfl))) (fun _=>rfl)))))))
theorem jVL
  (D:Bdy (cxOf (L2N.CX P w) P w K mg base jGZ "_law_first" (defScope wB) f cdv A outer s H E) E k)  (F__law_wishes:Fn P w K mg base B k "_law_wishes" 0 zE) :
  SimSs (cxOf (L2N.CX P w) P w K mg base jGZ "_law_first" (defScope wB) f cdv A outer s H E) B N (fun c d _ H=>E c d H) (defBody wB) (jKU) :=
 (jG (yC (jX (uH hK D.rm.u9) (jB (i:=0) rfl (.inl rfl) rfl rfl) (jN (jQ (by decide +kernel))) rfl) (jJ (yG (jT (jA jH (jA yF (jA yF (jA yF jD rfl) rfl) rfl) rfl)))) jW)
 (jJ (yG (jAR hK (jT (jA yF jD rfl)) (yD hK (uX (jA jH (jA jH (jA jH (jA jH (jA jH (jA jH jD rfl) rfl) rfl) rfl) rfl) rfl)) (yMW hK D.rm.u9 (jTC F__law_wishes D.tk D.rm rfl rfl) (jA (jB (i:=0) rfl (.inl rfl) rfl rfl) jD rfl) rfl rfl rfl rfl rfl) (fun _ _=>rfl))))))
theorem jRU
  (D:Bdy (cxOf (L2N.CX P w) P w K mg base jFG "_law_reached" (defScope uM) f cdv A outer s H E) E k)  (F__law_first:Fn P w K mg base B k "_law_first" 1 yU) (F__law_steps:Fn P w K mg base B k "_law_steps" 3 zJ) :
  SimSs (cxOf (L2N.CX P w) P w K mg base jFG "_law_reached" (defScope uM) f cdv A outer s H E) B N (fun c d _ H=>E c d H) (defBody uM) (jFI) :=
 (jG (jSZ (i:=2) (j:=3) rfl jPC.nd rfl rfl (by decide) rfl rfl (jAL (jA (jT (jA (jV F__law_first D.tk D.rm rfl (jA (jB (i:=1) rfl (.inl rfl) rfl rfl) jD rfl) rfl rfl rfl) (jA jH jD rfl) rfl)) jD rfl)) jH rfl rfl rfl rfl)
 (jG (jYY 200 D.pa (jX (yQA hK D.rm.u9) (jB (i:=3) rfl (.inl rfl) rfl rfl) (yL (bi_len hK) rfl g.n_len (jA (jB (i:=2) rfl (.inl rfl) rfl rfl) jD rfl) (by decide) rfl rfl rfl) rfl) (jG (jHH hK (yD hK (jB (i:=2) rfl (.inl rfl) rfl rfl) (jB (i:=3) rfl (.inl rfl) rfl rfl) (fun _ _=>rfl)) (jFW rfl (yK (vR (pg_name jPC.nd rfl (.inl rfl) (.inl rfl))) (yK (vR (pg_name jPC.nd rfl (.inl rfl) (.inl rfl))) jAB rfl) rfl) rfl rfl) rfl rfl rfl)
 (jG (jFZ D.pa hK rfl (wG hK (jV F__law_steps D.tk D.rm rfl (jA (jB (i:=0) rfl (.inl rfl) rfl rfl) (jA (jB (i:=1) rfl (.inl rfl) rfl rfl) (jA (jB (i:=4) rfl (.inl rfl) rfl rfl) jD rfl) rfl) rfl) rfl rfl rfl)) (jFW rfl (yK (vR (pg_name jPC.nd rfl (.inl rfl) (.inl rfl))) (yK (vR (pg_name jPC.nd rfl (.inl rfl) (.inl rfl))) jAB rfl) rfl) rfl rfl) (fun _=>(jJ (yC (jX (jUL hK D.rm.u9) (jB (i:=7) rfl (.inl rfl) rfl rfl) (SimN.sh (jCB (own:=[("_law_one", 8),("_law_many", 9)]) hK rfl jPC.nd (wG hK (jB (i:=2) rfl (.inl rfl) rfl rfl)) (jAY (by kernel_rfl)) (by decide) (fun _ _ _ _ _=>(jFW rfl (yK (vR (pg_name jPC.nd rfl (.inl rfl) (.inr rfl))) (yK (vR (pg_name jPC.nd rfl (.inl rfl) (.inr rfl))) jAB rfl) rfl) rfl rfl)) (fun _ _ _ _ _=>zM) (fun _ _ _ _ _=>(jB (i:=8) rfl (.inl rfl) rfl rfl)) (fun _=>rfl))) rfl) (jJ (yV rfl (.inl rfl) rfl rfl (jT (jA (jB (i:=7) rfl (.inl rfl) rfl rfl) (jA (vO hK (jB (i:=5) rfl (.inl rfl) rfl rfl) jH) jD rfl) rfl)) rfl rfl rfl rfl rfl rfl)) jW))) (fun _=>rfl))
 (jJ (yM jPC.nd rfl (.inl rfl) (vO hK (jB (i:=3) rfl (.inl rfl) rfl rfl) jH) rfl (.inl rfl))))))
 (jJ (jCM (i:=2) rfl (.inl rfl) rfl rfl))))
theorem jNG
  (D:Bdy (cxOf (L2N.CX P w) P w K mg base jDF "_law_some_stand" (defScope vL) f cdv A outer s H E) E k)  (F__law_first:Fn P w K mg base B k "_law_first" 1 yU) (F__law_draw:Fn P w K mg base B k "_law_draw" 2 yQ) :
  SimSs (cxOf (L2N.CX P w) P w K mg base jDF "_law_some_stand" (defScope vL) f cdv A outer s H E) B N (fun c d _ H=>E c d H) (defBody vL) (jDI) :=
 (jG (yM jLJ.nd rfl (.inl rfl) (yL (jQZ hK) rfl g.n_tuple (jA (SimN.sh (jCB (own:=[("_law_k", 3)]) hK rfl jLJ.nd (jML rfl g.n_range (jA (yL (bi_len hK) rfl g.n_len (jA (jV F__law_first D.tk D.rm rfl (jA (jB (i:=1) rfl (.inl rfl) rfl rfl) jD rfl) rfl rfl rfl) jD rfl) (by decide) rfl rfl rfl) jD rfl) rfl) (jAY (by kernel_rfl)) (by decide) (fun _ _ _ _ _=>(vR (pg_name jLJ.nd rfl (.inl rfl) (.inr rfl)))) (fun _ _ _ _ _=>zM) (fun _ _ _ _ _=>(qJ (uH hK D.rm.u9) (jV F__law_draw (jEN _) D.rm rfl (jA (jB (i:=0) rfl (.inr (.inl rfl)) rfl rfl) (jA jH jD rfl) rfl) rfl rfl rfl) jH rfl)) (fun _=>rfl))) jD rfl) (by decide) rfl rfl rfl) rfl (.inl rfl))
 (jJ (yG (jBA (jX (jAQ hK D.rm.u9) (jB (i:=1) rfl (.inl rfl) rfl rfl) (jN (jQ (by decide +kernel))) rfl) (jB (i:=2) rfl (.inl rfl) rfl rfl) (vO hK (jT (jA (jV F__law_draw D.tk D.rm rfl (jA (jB (i:=0) rfl (.inr (.inl rfl)) rfl rfl) (jA jH jD rfl) rfl) rfl rfl rfl) jD rfl)) (jDD hK (jB (i:=2) rfl (.inl rfl) rfl rfl) (wQ jH) wR))))))
theorem jOF
  (D:Bdy (cxOf (L2N.CX P w) P w K mg base jEA "_law_table_due" (defScope vX) f cdv A outer s H E) E k)  (F__law_first:Fn P w K mg base B k "_law_first" 1 yU) (F__law_steps:Fn P w K mg base B k "_law_steps" 3 zJ) :
  SimSs (cxOf (L2N.CX P w) P w K mg base jEA "_law_table_due" (defScope vX) f cdv A outer s H E) B N (fun c d _ H=>E c d H) (defBody vX) (jED) :=
 (jG (yC (uP (jDB (jX (jUL hK D.rm.u9) (jV F__law_first D.tk D.rm rfl (jA (jB (i:=1) rfl (.inl rfl) rfl rfl) jD rfl) rfl rfl rfl) (jB (i:=2) rfl (.inr (.inl rfl)) rfl rfl) rfl) (jCZ (jX (yAC hK D.rm.u9) (jT (jA (jN (jQ (by decide +kernel))) jD rfl)) (jB (i:=2) rfl (.inr (.inl rfl)) rfl rfl) rfl)))) (jJ (yG yF)) jW)
 (jG (jFZ D.pa hK rfl (wG hK (jB (i:=2) rfl (.inr (.inl rfl)) rfl rfl)) (vR (pg_name jNA.nd rfl (.inl rfl) (.inl rfl))) (fun _=>(jJ (yC (jX (jAQ hK D.rm.u9) (SimN.sh (jCB (own:=[("_law_word", 4),("_law_late", 5)]) hK rfl jNA.nd (wG hK (jV F__law_steps D.tk D.rm rfl (jA (jB (i:=0) rfl (.inl rfl) rfl rfl) (jA (jB (i:=1) rfl (.inl rfl) rfl rfl) (jA (jB (i:=3) rfl (.inl rfl) rfl rfl) jD rfl) rfl) rfl) rfl rfl rfl)) (jAY (by kernel_rfl)) (by decide) (fun _ _ _ _ _=>(jFW rfl (yK (vR (pg_name jNA.nd rfl (.inl rfl) (.inr rfl))) (yK (vR (pg_name jNA.nd rfl (.inl rfl) (.inr rfl))) jAB rfl) rfl) rfl rfl)) (fun _ _ _ _ _=>(jKB (jX (jUL hK D.rm.u9) (jB (i:=5) rfl (.inl rfl) rfl rfl) (jB (i:=2) rfl (.inr (.inl rfl)) rfl rfl) rfl))) (fun _ _ _ _ _=>(jB (i:=5) rfl (.inl rfl) rfl rfl)) (fun _=>rfl))) (uX jD) rfl) (jJ (yG yF)) jW))) (fun _=>rfl))
 (jJ (yG yF))))
theorem yZN
  (D:Bdy (cxOf (L2N.CX P w) P w K mg base jYO "law" (defScope jGT) f cdv A outer s H E) E k)  (F__law_open:Fn P w K mg base B k "_law_open" 1 jAM) (F__law_some_spec:Fn P w K mg base B k "_law_some_spec" 1 uV) (F__law_way:Fn P w K mg base B k "_law_way" 1 jBJ) (F__law_wishes:Fn P w K mg base B k "_law_wishes" 0 zE) (F__law_reached:Fn P w K mg base B k "_law_reached" 2 wH) (F__law_draw:Fn P w K mg base B k "_law_draw" 2 yQ) (F__law_first:Fn P w K mg base B k "_law_first" 1 yU) (F__law_some_stand:Fn P w K mg base B k "_law_some_stand" 2 uA) (F__law_table_due:Fn P w K mg base B k "_law_table_due" 3 uU) (F__law_like:Fn P w K mg base B k "_law_like" 2 kW) (F__law_of:Fn P w K mg base B k "_law_of" 2 uQ) (M_Kept_3_:MkA P w K mg base B k "Kept" vK 3 [] [0,1,2,3] [] 4 yR) (E_Kept_holds_0_:MeA P w K mg base B k vK "holds" 0 [] [0] [] 1 yZ) :
  SimSs (cxOf (L2N.CX P w) P w K mg base jYO "law" (defScope jGT) f cdv A outer s H E) B N (fun c d _ H=>E c d H) (defBody jGT) (jYQ) :=
 (jG (yM yVM.nd rfl (.inl rfl) (jV F__law_open D.tk D.rm rfl (jA (jB (i:=0) rfl (.inl rfl) rfl rfl) jD rfl) rfl rfl rfl) rfl (.inl rfl))
 (jG (jFZ D.pa hK rfl (jML rfl g.n_range (jA jH jD rfl) rfl) (vR (pg_name yVM.nd rfl (.inl rfl) (.inl rfl))) (fun _=>(jG (yM yVM.nd rfl (.inl rfl) (jV F__law_some_spec D.tk D.rm rfl (jA (jB (i:=1) rfl (.inl rfl) rfl rfl) jD rfl) rfl rfl rfl) rfl (.inl rfl))
 (jG (yM yVM.nd rfl (.inl rfl) (jV F__law_way D.tk D.rm rfl (jA (jB (i:=3) rfl (.inl rfl) rfl rfl) jD rfl) rfl rfl rfl) rfl (.inl rfl))
 (jJ (jFZ D.pa hK rfl (wG hK (jTC F__law_wishes D.tk D.rm rfl rfl)) (vR (pg_name yVM.nd rfl (.inl rfl) (.inl rfl))) (fun _=>(jG (jZA (own:=[("_law_stand", 15),("_law_size", 16)]) hK rfl yVM.nd rfl rfl rfl (wG hK (jV F__law_reached D.tk D.rm rfl (jA (jB (i:=3) rfl (.inl rfl) rfl rfl) (jA (jB (i:=5) rfl (.inl rfl) rfl rfl) jD rfl) rfl) rfl rfl rfl)) (jAY (by kernel_rfl)) (by decide) (fun _ _ _ _ _=>(jFW rfl (yK (vR (pg_name yVM.nd rfl (.inl rfl) (.inr rfl))) (yK (vR (pg_name yVM.nd rfl (.inl rfl) (.inr rfl))) jAB rfl) rfl) rfl rfl)) (fun _ _ _ _ _=>(jKB (jX (jAQ hK D.rm.u9) (jB (i:=15) rfl (.inl rfl) rfl rfl) (jT (jA (jN (jQ (by decide +kernel))) jD rfl)) rfl))) (fun _ _ _ _ _=>(jB (i:=15) rfl (.inl rfl) rfl rfl)) (fun _=>rfl))
 (jG (yM yVM.nd rfl (.inl rfl) (jV F__law_draw D.tk D.rm rfl (jA (jB (i:=1) rfl (.inl rfl) rfl rfl) (jA (yL (bi_len hK) rfl g.n_len (jA (jB (i:=6) rfl (.inl rfl) rfl rfl) jD rfl) (by decide) rfl rfl rfl) jD rfl) rfl) rfl rfl rfl) rfl (.inl rfl))
 (jG (yM yVM.nd rfl (.inl rfl) (uX (jA (jB (i:=6) rfl (.inl rfl) rfl rfl) (jA (yMS hK (jB (i:=6) rfl (.inl rfl) rfl rfl)) (jA (vO hK (jDD hK (jB (i:=6) rfl (.inl rfl) rfl rfl) wR (wQ (jB (i:=7) rfl (.inl rfl) rfl rfl))) (jDD hK (jB (i:=6) rfl (.inl rfl) rfl rfl) (wQ (vO hK (jB (i:=7) rfl (.inl rfl) rfl rfl) jH)) wR)) (jA (jDD hK (jB (i:=6) rfl (.inl rfl) rfl rfl) (wQ jH) wR) (jA (uX jD) (jA (vO hK (jB (i:=6) rfl (.inl rfl) rfl rfl) (jDD hK (jB (i:=6) rfl (.inl rfl) rfl rfl) wR (wQ (jB (i:=7) rfl (.inl rfl) rfl rfl)))) (jA (vO hK (jB (i:=6) rfl (.inl rfl) rfl rfl) (uX (jA (jT (jA (jN (jQ (by decide +kernel))) jD rfl)) jD rfl))) jD rfl) rfl) rfl) rfl) rfl) rfl) rfl)) rfl (.inl rfl))
 (jG (yM yVM.nd rfl (.inl rfl) (vO hK (jB (i:=8) rfl (.inl rfl) rfl rfl) (uX (jA (vO hK (jB (i:=6) rfl (.inl rfl) rfl rfl) (uX (jA (jV F__law_some_stand D.tk D.rm rfl (jA (jB (i:=1) rfl (.inl rfl) rfl rfl) (jA (jB (i:=5) rfl (.inl rfl) rfl rfl) jD rfl) rfl) rfl rfl rfl) jD rfl))) (jA (uX (jA (jV F__law_first D.tk D.rm rfl (jA (jB (i:=5) rfl (.inl rfl) rfl rfl) jD rfl) rfl rfl rfl) jD rfl)) (jA (vO hK (jDD hK (jB (i:=6) rfl (.inl rfl) rfl rfl) wR (wQ (jB (i:=7) rfl (.inl rfl) rfl rfl))) (jAR hK (uX (jA (yD hK (jB (i:=6) rfl (.inl rfl) rfl rfl) (jB (i:=7) rfl (.inl rfl) rfl rfl) (fun _ _=>rfl)) jD rfl)) jH)) jD rfl) rfl) rfl))) rfl (.inl rfl))
 (jG (jFZ D.pa hK rfl (wG hK (jB (i:=8) rfl (.inl rfl) rfl rfl)) (vR (pg_name yVM.nd rfl (.inl rfl) (.inl rfl))) (fun _=>(jG (yM yVM.nd rfl (.inl rfl) (yL (jUZ hK) rfl g.n_list (jA (jB (i:=9) rfl (.inl rfl) rfl rfl) jD rfl) (by decide) rfl rfl rfl) rfl (.inl rfl))
 (jG (yM yVM.nd rfl (.inl rfl) (jMC M_Kept_3_ D.tk D.rm rfl (jA (jB (i:=4) rfl (.inl rfl) rfl rfl) (jA (jB (i:=5) rfl (.inl rfl) rfl rfl) (jA (jB (i:=10) rfl (.inl rfl) rfl rfl) jD rfl) rfl) rfl) jBK rfl rfl rfl rfl rfl rfl) rfl (.inl rfl))
 (jG (yM yVM.nd rfl (.inl rfl) (jV F__law_table_due D.tk D.rm rfl (jA (jB (i:=3) rfl (.inl rfl) rfl rfl) (jA (jB (i:=5) rfl (.inl rfl) rfl rfl) (jA (jB (i:=9) rfl (.inl rfl) rfl rfl) jD rfl) rfl) rfl) rfl rfl rfl) rfl (.inl rfl))
 (jJ (yC (uP (jDB (zL (yJ hK (jV F__law_like D.tk D.rm rfl (jA (uX (jA (jQR (pl:=_) E_Kept_holds_0_ κ.cm_Kept (by decide) D.tk D.rm (jB (i:=11) rfl (.inl rfl) rfl rfl) jBK rfl rfl rfl rfl rfl) (jA (jQR (pl:=_) E_Kept_holds_0_ κ.cm_Kept (by decide) D.tk D.rm (jMC M_Kept_3_ D.tk D.rm rfl (jA (jB (i:=4) rfl (.inl rfl) rfl rfl) (jA (jB (i:=5) rfl (.inl rfl) rfl rfl) (jA (yL (jQZ hK) rfl g.n_tuple (jA (jB (i:=9) rfl (.inl rfl) rfl rfl) jD rfl) (by decide) rfl rfl rfl) jD rfl) rfl) rfl) jBK rfl rfl rfl rfl rfl rfl) jBK rfl rfl rfl rfl rfl) jD rfl) rfl)) (jA (uX (jA (jB (i:=12) rfl (.inl rfl) rfl rfl) (jA (jB (i:=12) rfl (.inl rfl) rfl rfl) jD rfl) rfl)) jD rfl) rfl) rfl rfl rfl) (fun _=>rfl))) (jCZ (jX (jAQ hK D.rm.u9) (jB (i:=10) rfl (.inl rfl) rfl rfl) (jB (i:=9) rfl (.inl rfl) rfl rfl) rfl)))) (jJ (yG yF)) jW)))))) (fun _=>rfl))
 (jG (yM yVM.nd rfl (.inl rfl) (jV F__law_of D.tk D.rm rfl (jA (jB (i:=1) rfl (.inl rfl) rfl rfl) (jA (uX (jA jJZ (jA jH (jA (jT jD) (jA (yL (jUZ hK) rfl g.n_list (jA (yD hK (jB (i:=6) rfl (.inl rfl) rfl rfl) jH (fun _ _=>rfl)) jD rfl) (by decide) rfl rfl rfl) (jA (jDD hK (yD hK (jB (i:=6) rfl (.inl rfl) rfl rfl) jH (fun _ _=>rfl)) wR (wQ (yMU jH))) (jA (jN (jQ (by decide +kernel))) (jA (jT (jA yF jD rfl)) (jA (uX (jA (jT (jA (jN (jQ (by decide +kernel))) jD rfl)) jD rfl)) jD rfl) rfl) rfl) rfl) rfl) rfl) rfl) rfl)) jD rfl) rfl) rfl rfl rfl) rfl (.inl rfl))
 (jG (yM yVM.nd rfl (.inl rfl) (uX (jA (jMC M_Kept_3_ D.tk D.rm rfl (jA (jB (i:=4) rfl (.inl rfl) rfl rfl) (jA (jB (i:=5) rfl (.inl rfl) rfl rfl) (jA (vO hK (vO hK (jDD hK (jB (i:=6) rfl (.inl rfl) rfl rfl) wR (wQ (jB (i:=7) rfl (.inl rfl) rfl rfl))) (uX (jA (jB (i:=13) rfl (.inl rfl) rfl rfl) jD rfl))) (jDD hK (jB (i:=6) rfl (.inl rfl) rfl rfl) (wQ (jB (i:=7) rfl (.inl rfl) rfl rfl)) wR)) jD rfl) rfl) rfl) jBK rfl rfl rfl rfl rfl rfl) (jA (jMC M_Kept_3_ D.tk D.rm rfl (jA (jB (i:=4) rfl (.inl rfl) rfl rfl) (jA (jV F__law_of D.tk D.rm rfl (jA (jB (i:=1) rfl (.inl rfl) rfl rfl) (jA (uX (jA jJZ (jA (jN (jQ (by decide +kernel))) (jA jH (jA (uX (jA (jB (i:=5) rfl (.inl rfl) rfl rfl) jD rfl)) jD rfl) rfl) rfl) rfl)) jD rfl) rfl) rfl rfl rfl) (jA (jB (i:=6) rfl (.inl rfl) rfl rfl) jD rfl) rfl) rfl) jBK rfl rfl rfl rfl rfl rfl) jD rfl) rfl)) rfl (.inl rfl))
 (jJ (yC (zL (yJ hK (jV F__law_like D.tk D.rm rfl (jA (SimN.sh (jCB (own:=[("_law_one", 17)]) hK rfl yVM.nd (wG hK (jB (i:=14) rfl (.inl rfl) rfl rfl)) (jAY (by kernel_rfl)) (by decide) (fun _ _ _ _ _=>(vR (pg_name yVM.nd rfl (.inl rfl) (.inr rfl)))) (fun _ _ _ _ _=>zM) (fun _ _ _ _ _=>(jQR (pl:=_) E_Kept_holds_0_ κ.cm_Kept (by decide) (jEN _) D.rm (jB (i:=17) rfl (.inl rfl) rfl rfl) jBK rfl rfl rfl rfl rfl)) (fun _=>rfl))) (jA (uX (jA yF (jA yF jD rfl) rfl)) jD rfl) rfl) rfl rfl rfl) (fun _=>rfl))) (jJ (yG yF)) jW)))))))))) (fun _=>rfl)))))) (fun _=>rfl))
 (jJ (yG yF))))
end
end LW
set_option maxHeartbeats 4000000
set_option maxHeartbeats 4000000
namespace Lp
open PySem PySem.Spec PyProof.Rows L2
theorem yGB {r:PySem.W.OpenRow} {as:List Addr} {fa:List FactL} {M:Nat} {w:World} (h:RunF r as fa M w):RunF r as (fa.take 0) M w:=by
 intro os
 have h:=h os
 cases e:HandSHeadRun.endF (HandSHeadRun.stepQ (HandSHeadRun.denQ HandSHeadRun.tabQ) r.prog w) M r.prog w os with
 | none=>rw [e] at h; cases h
 | some s=>rfl
theorem yAS {r:PySem.W.OpenRow} {q:Program} {loose:List PySem.Str} {as:List Addr} {fa:List FactL} {fn:List DefL} {ts:List He.Tab} {M:Nat} {w:World} (hA:RunAB2 r q as fa loose M w) (hC:RunC3 r as fn ts M w) :
  HandSHeadRun.RunEq r q (hookA as fa fn ts) (fun s=>obsAG as fa fn ts (HandSHeadRun.getT s)) M loose w :=
 yCF (yCG (fun os=>jUI (jUI (hA os))) fun os=>jUA (jUI (hA os))) (yGA 0 (yGB fun os=>jUA (hA os)) (fun os=>jUA (hA os)) (fun os=>jUI (hC os)) fun os=>jUA (hC os))
end Lp
set_option maxHeartbeats 0
namespace LW
open PySem PySem.Spec PyProof.Rows L2 Lp LamX NdefX
def lsT:List ((PySem.W.Frag→Addr) × Str):=[]
theorem jZK {P:Program} {w:World} {K:PySem.W.Frag} {mg:Str→Option Value} {base:Heap} {B:Bs} (hK:K=B.K) (hw:w=B.w) (g:Gm mg) (κ:Km w K B mg) {fa:Addr} {fd:FuncData} {dvs:List V} {kws:List (Str × V)} (F:FunD K "is_wish" "is_wish" (defArgs jAO) (defBody jAO) (defScope jAO) dvs kws fa fd)  : FnOk P w K mg base (L2N.CX P w) 1 fa fd ["value"] (spF B 1 qY):=by
 unfold qY
 exact fn_ok F jZC rfl rfl fun _ _ _ _ _ _ _ D=>yCZ hK hw g κ D
theorem jSJ {P:Program} {w:World} {K:PySem.W.Frag} {mg:Str→Option Value} {base:Heap} {B:Bs} (hK:K=B.K) (hw:w=B.w) (g:Gm mg) (κ:Km w K B mg) {fa:Addr} {fd:FuncData} {dvs:List V} {kws:List (Str × V)} (F:FunD K "check_wish" "check_wish" (defArgs zY) (defBody zY) (defScope zY) dvs kws fa fd) (F_is_wish:Fn P w K mg base B 2 "is_wish" 1 qY) (X_InvalidWish:ExcA P w K mg base B 2 "InvalidWish" 2 1 jCE):FnOk P w K mg base (L2N.CX P w) 3 fa fd ["wish"] (spF B 1 qQ):=by
 unfold qQ
 exact fn_ok F jSB rfl rfl fun _ _ _ _ _ _ _ D=>jVJ hK hw g κ D F_is_wish X_InvalidWish
theorem jRO {P:Program} {w:World} {K:PySem.W.Frag} {mg:Str→Option Value} {base:Heap} {B:Bs} (hK:K=B.K) (hw:w=B.w) (g:Gm mg) (κ:Km w K B mg) {fa:Addr} {fd:FuncData} {dvs:List V} {kws:List (Str × V)} (F:FunD K "first_stand" "first_stand" (defArgs zF) (defBody zF) (defScope zF) dvs kws fa fd) (F_check_wish:Fn P w K mg base B 3 "check_wish" 1 qQ):FnOk P w K mg base (L2N.CX P w) 4 fa fd ["wish"] (spF B 1 qX):=by
 unfold qX
 exact fn_ok F jRL rfl rfl fun _ _ _ _ _ _ _ D=>jSN hK hw g κ D F_check_wish
theorem jXQ {P:Program} {w:World} {K:PySem.W.Frag} {mg:Str→Option Value} {base:Heap} {B:Bs} (hK:K=B.K) (hw:w=B.w) (g:Gm mg) (κ:Km w K B mg) {fa:Addr} {fd:FuncData} {dvs:List V} {kws:List (Str × V)} (F:FunD K "is_stand" "is_stand" (defArgs qT) (defBody qT) (defScope qT) dvs kws fa fd) (F_check_wish:Fn P w K mg base B 3 "check_wish" 1 qQ):FnOk P w K mg base (L2N.CX P w) 4 fa fd ["wish", "value"] (spF B 2 uI):=by
 unfold uI
 exact fn_ok F jXK rfl rfl fun _ _ _ _ _ _ _ D=>jZO hK hw g κ D F_check_wish
theorem jLO {P:Program} {w:World} {K:PySem.W.Frag} {mg:Str→Option Value} {base:Heap} {B:Bs} (hK:K=B.K) (hw:w=B.w) (g:Gm mg) (κ:Km w K B mg) {fa:Addr} {fd:FuncData} {dvs:List V} {kws:List (Str × V)} (F:FunD K "drop_answer" "Way.drop_answer" (defArgs vN) (defBody vN) (defScope vN) dvs kws fa fd)  : FnOk P w K mg base (L2N.CX P w) 1 fa fd ["self", "elder", "again", "apart"] (spF B 4 qH):=by
 unfold qH
 exact fn_ok F jLL rfl rfl fun _ _ _ _ _ _ _ D=>jNI hK hw g κ D
theorem jSI {P:Program} {w:World} {K:PySem.W.Frag} {mg:Str→Option Value} {base:Heap} {B:Bs} (hK:K=B.K) (hw:w=B.w) (g:Gm mg) (κ:Km w K B mg) {fa:Addr} {fd:FuncData} {dvs:List V} {kws:List (Str × V)} (F:FunD K "drop_steps" "drop_steps" (defArgs zX) (defBody zX) (defScope zX) dvs kws fa fd) (E_Way_drop_answer_3_:MeA P w K mg base B 1 vJ "drop_answer" 3 [] [0,1,2,3] [] 4 qH):FnOk P w K mg base (L2N.CX P w) 2 fa fd ["way", "wish", "stand"] (spF B 3 jCO):=by
 unfold jCO
 exact fn_ok F jSA rfl rfl fun _ _ _ _ _ _ _ D=>jVI hK hw g κ D E_Way_drop_answer_3_
theorem jJX {P:Program} {w:World} {K:PySem.W.Frag} {mg:Str→Option Value} {base:Heap} {B:Bs} (hK:K=B.K) (hw:w=B.w) (g:Gm mg) (κ:Km w K B mg) {fa:Addr} {fd:FuncData} {dvs:List V} {kws:List (Str × V)} (F:FunD K "number_answer" "Way.number_answer" (defArgs vG) (defBody vG) (defScope vG) dvs kws fa fd)  : FnOk P w K mg base (L2N.CX P w) 1 fa fd ["self", "elder", "dropped"] (spF B 3 yS):=by
 unfold yS
 exact fn_ok F jJS rfl rfl fun _ _ _ _ _ _ _ D=>jKN hK hw g κ D
theorem jPH {P:Program} {w:World} {K:PySem.W.Frag} {mg:Str→Option Value} {base:Heap} {B:Bs} (hK:K=B.K) (hw:w=B.w) (g:Gm mg) (κ:Km w K B mg) {fa:Addr} {fd:FuncData} {dvs:List V} {kws:List (Str × V)} (F:FunD K "number_steps" "number_steps" (defArgs uK) (defBody uK) (defScope uK) dvs kws fa fd) (E_Way_number_answer_2_:MeA P w K mg base B 1 vJ "number_answer" 2 [] [0,1,2] [] 3 yS):FnOk P w K mg base (L2N.CX P w) 2 fa fd ["way", "wish", "stand"] (spF B 3 jBD):=by
 unfold jBD
 exact fn_ok F jPA rfl rfl fun _ _ _ _ _ _ _ D=>jRS hK hw g κ D E_Way_number_answer_2_
theorem jPI {P:Program} {w:World} {K:PySem.W.Frag} {mg:Str→Option Value} {base:Heap} {B:Bs} (hK:K=B.K) (hw:w=B.w) (g:Gm mg) (κ:Km w K B mg) {fa:Addr} {fd:FuncData} {dvs:List V} {kws:List (Str × V)} (F:FunD K "landed_steps" "landed_steps" (defArgs uL) (defBody uL) (defScope uL) dvs kws fa fd) (E_Way_number_answer_2_:MeA P w K mg base B 1 vJ "number_answer" 2 [] [0,1,2] [] 3 yS):FnOk P w K mg base (L2N.CX P w) 2 fa fd ["way", "stand"] (spF B 2 jBE):=by
 unfold jBE
 exact fn_ok F jPB rfl rfl fun _ _ _ _ _ _ _ D=>jRT hK hw g κ D E_Way_number_answer_2_
theorem jPG {P:Program} {w:World} {K:PySem.W.Frag} {mg:Str→Option Value} {base:Heap} {B:Bs} (hK:K=B.K) (hw:w=B.w) (g:Gm mg) (κ:Km w K B mg) {fa:Addr} {fd:FuncData} {dvs:List V} {kws:List (Str × V)} (F:FunD K "return_steps" "return_steps" (defArgs uJ) (defBody uJ) (defScope uJ) dvs kws fa fd) (E_Way_number_answer_2_:MeA P w K mg base B 1 vJ "number_answer" 2 [] [0,1,2] [] 3 yS):FnOk P w K mg base (L2N.CX P w) 2 fa fd ["way", "stand"] (spF B 2 jBC):=by
 unfold jBC
 exact fn_ok F jOZ rfl rfl fun _ _ _ _ _ _ _ D=>jRR hK hw g κ D E_Way_number_answer_2_
theorem jSH {P:Program} {w:World} {K:PySem.W.Frag} {mg:Str→Option Value} {base:Heap} {B:Bs} (hK:K=B.K) (hw:w=B.w) (g:Gm mg) (κ:Km w K B mg) {fa:Addr} {fd:FuncData} {dvs:List V} {kws:List (Str × V)} (F:FunD K "steps_from" "steps_from" (defArgs zW) (defBody zW) (defScope zW) dvs kws fa fd) (F_is_stand:Fn P w K mg base B 4 "is_stand" 2 uI) (F_drop_steps:Fn P w K mg base B 4 "drop_steps" 3 jCO) (F_landed_steps:Fn P w K mg base B 4 "landed_steps" 2 jBE) (F_return_steps:Fn P w K mg base B 4 "return_steps" 2 jBC) (F_number_steps:Fn P w K mg base B 4 "number_steps" 3 jBD) (X_InvalidStand:ExcA P w K mg base B 4 "InvalidStand" 3 1 jBL):FnOk P w K mg base (L2N.CX P w) 5 fa fd ["way", "wish", "stand"] (spF B 3 jAN):=by
 unfold jAN
 exact fn_ok F jRZ rfl rfl fun _ _ _ _ _ _ _ D=>jVH hK hw g κ D F_is_stand F_drop_steps F_landed_steps F_return_steps F_number_steps X_InvalidStand
theorem jXP {P:Program} {w:World} {K:PySem.W.Frag} {mg:Str→Option Value} {base:Heap} {B:Bs} (hK:K=B.K) (hw:w=B.w) (g:Gm mg) (κ:Km w K B mg) {fa:Addr} {fd:FuncData} {dvs:List V} {kws:List (Str × V)} (F:FunD K "is_table" "is_table" (defArgs qR) (defBody qR) (defScope qR) dvs kws fa fd)  : FnOk P w K mg base (L2N.CX P w) 1 fa fd ["value", "many"] (spF B 2 jBI):=by
 unfold jBI
 exact fn_ok F jXJ rfl rfl fun _ _ _ _ _ _ _ D=>jZN hK hw g κ D
theorem jPK {P:Program} {w:World} {K:PySem.W.Frag} {mg:Str→Option Value} {base:Heap} {B:Bs} (hK:K=B.K) (hw:w=B.w) (g:Gm mg) (κ:Km w K B mg) {fa:Addr} {fd:FuncData} {dvs:List V} {kws:List (Str × V)} (F:FunD K "__init__" "Way.__init__" (defArgs uN) (defBody uN) (defScope uN) dvs kws fa fd) (F_is_table:Fn P w K mg base B 2 "is_table" 2 jBI) (X_InvalidTable:ExcA P w K mg base B 2 "InvalidTable" 0 1 jAG) (X_InvalidOption:ExcA P w K mg base B 2 "InvalidOption" 1 1 zP):FnOk P w K mg base (L2N.CX P w) 3 fa fd ["self", "drops", "numbers", "stretches", "hidden", "lock"] (spF B 6 zH):=by
 unfold zH
 exact fn_ok F jPD rfl rfl fun _ _ _ _ _ _ _ D=>jRV hK hw g κ D F_is_table X_InvalidTable X_InvalidOption
theorem jRJ {P:Program} {w:World} {K:PySem.W.Frag} {mg:Str→Option Value} {base:Heap} {B:Bs} (hK:K=B.K) (hw:w=B.w) (g:Gm mg) (κ:Km w K B mg) {fa:Addr} {fd:FuncData} (F:FunD K "renewed" "renewed" (defArgs wU) (defBody wU) (defScope wU) [] [] fa fd) (hm:mg "renewed" = some (.ref fa))  : ∀ n:Nat,FnOk P w K mg base (L2N.CX P w) (0+n+1) fa fd ["value"] (spF B 1 (jDE n))
 | 0=>yET F jRE
 | n+1=>fn_ok (k:=0+n+1) F jRE rfl rfl fun _ _ _ _ _ _ _ D=>yCY hK hw g κ D ⟨fa,fd,_,jRJ hK hw g κ F hm  n,hm,F.kp,(F.bindsN fun _ _ _ _ _ _ us hl=>match us,hl with | [_],_=>rfl)⟩
theorem jZJ {P:Program} {w:World} {K:PySem.W.Frag} {mg:Str→Option Value} {base:Heap} {B:Bs} (hK:K=B.K) (hw:w=B.w) (g:Gm mg) (κ:Km w K B mg) {fa:Addr} {fd:FuncData} (F:FunD K "renewed" "renewed" (defArgs wU) (defBody wU) (defScope wU) [] [] fa fd) (hm:mg "renewed" = some (.ref fa))  : FnOk P w K mg base (L2N.CX P w) 5 fa fd ["value"] (spF B 1 wI):=by
 unfold wI
 exact jRJ hK hw g κ F hm  4
theorem yCT {P:Program} {w:World} {K:PySem.W.Frag} {mg:Str→Option Value} {base:Heap} {B:Bs} (hK:K=B.K) (hw:w=B.w) (g:Gm mg) (κ:Km w K B mg) {fa:Addr} {fd:FuncData} {dvs:List V} {kws:List (Str × V)} (F:FunD K "copied" "copied" (defArgs jBM) (defBody jBM) (defScope jBM) dvs kws fa fd) (F_renewed:Fn P w K mg base B 5 "renewed" 1 wI):FnOk P w K mg base (L2N.CX P w) 6 fa fd ["value"] (spF B 1 jCD):=by
 unfold jCD
 exact fn_ok F yCE rfl rfl fun _ _ _ _ _ _ _ D=>yHU hK hw g κ D F_renewed
theorem jNF {P:Program} {w:World} {K:PySem.W.Frag} {mg:Str→Option Value} {base:Heap} {B:Bs} (hK:K=B.K) (hw:w=B.w) (g:Gm mg) (κ:Km w K B mg) {fa:Addr} {fd:FuncData} {dvs:List V} {kws:List (Str × V)} (F:FunD K "__init__" "Paper.__init__" (defArgs vZ) (defBody vZ) (defScope vZ) dvs kws fa fd) (F_renewed:Fn P w K mg base B 5 "renewed" 1 wI):FnOk P w K mg base (L2N.CX P w) 6 fa fd ["self", "way", "wish"] (spF B 3 zN):=by
 unfold zN
 exact fn_ok F jNC rfl rfl fun _ _ _ _ _ _ _ D=>jOH hK hw g κ D F_renewed
theorem jOD {P:Program} {w:World} {K:PySem.W.Frag} {mg:Str→Option Value} {base:Heap} {B:Bs} (hK:K=B.K) (hw:w=B.w) (g:Gm mg) (κ:Km w K B mg) {fa cc cda:Addr} {fd:FuncData} (S:SupF P K (B.cad vK) "Kept.__init__" (defArgs yH) (defBody yH) (defScope yH) fa cc cda fd) (F_copied:Fn P w K mg base B 6 "copied" 1 jCD) (U_Kept___init__:SupA P w K mg base B 6 vK 3 zN):FnOk P w K mg base (L2N.CX P w) 7 fa fd ["self", "way", "wish", "stands"] (spF B 4 yR):=by
 unfold yR
 obtain ⟨fB,fdB,psB,T,F,hB⟩:=U_Kept___init__.ex
 exact yIP (st0:=(defBody yH).headD (.Pass ⟨0,0,0,0⟩)) (rest:=(defBody yH).tail) (ma:=(jC (jF 1) (jC (jF 2) jL))) (mb:=(jIY ifl "own_stands" (yP 1 jCD (jC (jF 3) jL)) (jF 0))) S T F hB g.n_super jOB rfl rfl rfl rfl (fun _=>rfl) (fun _=>rfl) (fun _=>⟨_,rfl⟩) fun _ _ _ _ _ _ D=>jPN hK hw g κ D F_copied U_Kept___init__
theorem jSM {P:Program} {w:World} {K:PySem.W.Frag} {mg:Str→Option Value} {base:Heap} {B:Bs} (hK:K=B.K) (hw:w=B.w) (g:Gm mg) (κ:Km w K B mg) {fa:Addr} {fd:FuncData} {dvs:List V} {kws:List (Str × V)} (F:FunD K "holds" "Kept.holds" (defArgs wC) (defBody wC) (defScope wC) dvs kws fa fd) (F_is_wish:Fn P w K mg base B 5 "is_wish" 1 qY) (F_is_stand:Fn P w K mg base B 5 "is_stand" 2 uI) (F_first_stand:Fn P w K mg base B 5 "first_stand" 1 qX) (F_steps_from:Fn P w K mg base B 5 "steps_from" 3 jAN):FnOk P w K mg base (L2N.CX P w) 6 fa fd ["self"] (spF B 1 yZ):=by
 unfold yZ
 exact fn_ok F jSE rfl rfl fun _ _ _ _ _ _ _ D=>jVM hK hw g κ D F_is_wish F_is_stand F_first_stand F_steps_from
theorem jVE {P:Program} {w:World} {K:PySem.W.Frag} {mg:Str→Option Value} {base:Heap} {B:Bs} (hK:K=B.K) (hw:w=B.w) (g:Gm mg) (κ:Km w K B mg) {fa:Addr} {fd:FuncData} {dvs:List V} {kws:List (Str × V)} (F:FunD K "_law_open" "_law_open" (defArgs wX) (defBody wX) (defScope wX) dvs kws fa fd)  : FnOk P w K mg base (L2N.CX P w) 1 fa fd ["_law_script"] (spF B 1 jAM):=by
 unfold jAM
 exact fn_ok F jVC rfl rfl fun _ _ _ _ _ _ _ D=>jXU hK hw g κ D
theorem jVG {P:Program} {w:World} {K:PySem.W.Frag} {mg:Str→Option Value} {base:Heap} {B:Bs} (hK:K=B.K) (hw:w=B.w) (g:Gm mg) (κ:Km w K B mg) {fa:Addr} {fd:FuncData} {dvs:List V} {kws:List (Str × V)} (F:FunD K "_law_draw" "_law_draw" (defArgs wY) (defBody wY) (defScope wY) dvs kws fa fd)  : FnOk P w K mg base (L2N.CX P w) 1 fa fd ["_law_bag", "_law_many"] (spF B 2 yQ):=by
 unfold yQ
 exact fn_ok F jVD rfl rfl fun _ _ _ _ _ _ _ D=>jXW hK hw g κ D
theorem jZL {P:Program} {w:World} {K:PySem.W.Frag} {mg:Str→Option Value} {base:Heap} {B:Bs} (hK:K=B.K) (hw:w=B.w) (g:Gm mg) (κ:Km w K B mg) {fa:Addr} {fd:FuncData} {dvs:List V} {kws:List (Str × V)} (F:FunD K "_law_of" "_law_of" (defArgs jAP) (defBody jAP) (defScope jAP) dvs kws fa fd) (F__law_draw:Fn P w K mg base B 1 "_law_draw" 2 yQ):FnOk P w K mg base (L2N.CX P w) 2 fa fd ["_law_bag", "_law_things"] (spF B 2 uQ):=by
 unfold uQ
 exact fn_ok F jZD rfl rfl fun _ _ _ _ _ _ _ D=>yDA hK hw g κ D F__law_draw
theorem jMW {P:Program} {w:World} {K:PySem.W.Frag} {mg:Str→Option Value} {base:Heap} {B:Bs} (hK:K=B.K) (hw:w=B.w) (g:Gm mg) (κ:Km w K B mg) {fa:Addr} {fd:FuncData} (F:FunD K "_law_like" "_law_like" (defArgs uR) (defBody uR) (defScope uR) [] [] fa fd) (hm:mg "_law_like" = some (.ref fa))  : ∀ n:Nat,FnOk P w K mg base (L2N.CX P w) (0+n+1) fa fd ["_law_found", "_law_due"] (spF B 2 (jID n))
 | 0=>yET F jMS
 | n+1=>fn_ok (k:=0+n+1) F jMS rfl rfl fun _ _ _ _ _ _ _ D=>jXV hK hw g κ D ⟨fa,fd,_,jMW hK hw g κ F hm  n,hm,F.kp,(F.bindsN fun _ _ _ _ _ _ us hl=>match us,hl with | [_,_],_=>rfl)⟩
theorem jVF {P:Program} {w:World} {K:PySem.W.Frag} {mg:Str→Option Value} {base:Heap} {B:Bs} (hK:K=B.K) (hw:w=B.w) (g:Gm mg) (κ:Km w K B mg) {fa:Addr} {fd:FuncData} (F:FunD K "_law_like" "_law_like" (defArgs uR) (defBody uR) (defScope uR) [] [] fa fd) (hm:mg "_law_like" = some (.ref fa))  : FnOk P w K mg base (L2N.CX P w) 9 fa fd ["_law_found", "_law_due"] (spF B 2 kW):=by
 unfold kW
 exact jMW hK hw g κ F hm  8
theorem jNE {P:Program} {w:World} {K:PySem.W.Frag} {mg:Str→Option Value} {base:Heap} {B:Bs} (hK:K=B.K) (hw:w=B.w) (g:Gm mg) (κ:Km w K B mg) {fa:Addr} {fd:FuncData} {dvs:List V} {kws:List (Str × V)} (F:FunD K "_law_some_spec" "_law_some_spec" (defArgs vY) (defBody vY) (defScope vY) dvs kws fa fd) (F__law_of:Fn P w K mg base B 2 "_law_of" 2 uQ) (F__law_draw:Fn P w K mg base B 2 "_law_draw" 2 yQ):FnOk P w K mg base (L2N.CX P w) 3 fa fd ["_law_bag"] (spF B 1 uV):=by
 unfold uV
 exact fn_ok F jNB rfl rfl fun _ _ _ _ _ _ _ D=>jOG hK hw g κ D F__law_of F__law_draw
theorem jXR {P:Program} {w:World} {K:PySem.W.Frag} {mg:Str→Option Value} {base:Heap} {B:Bs} (hK:K=B.K) (hw:w=B.w) (g:Gm mg) (κ:Km w K B mg) {fa:Addr} {fd:FuncData} {dvs:List V} {kws:List (Str × V)} (F:FunD K "_law_way" "_law_way" (defArgs qU) (defBody qU) (defScope qU) dvs kws fa fd) (M_Way_2_stretches_hidden_lock:MkA P w K mg base B 4 "Way" vJ 2 ["stretches", "hidden", "lock"] [0,1,2,3,4,5] [.str "tttttttt", .str "tttt"] 6 zH):FnOk P w K mg base (L2N.CX P w) 5 fa fd ["_law_spec"] (spF B 1 jBJ):=by
 unfold jBJ
 exact fn_ok F jXL rfl rfl fun _ _ _ _ _ _ _ D=>jZP hK hw g κ D M_Way_2_stretches_hidden_lock
theorem jRP {P:Program} {w:World} {K:PySem.W.Frag} {mg:Str→Option Value} {base:Heap} {B:Bs} (hK:K=B.K) (hw:w=B.w) (g:Gm mg) (κ:Km w K B mg) {fa:Addr} {fd:FuncData} {dvs:List V} {kws:List (Str × V)} (F:FunD K "_law_wishes" "_law_wishes" (defArgs zG) (defBody zG) (defScope zG) dvs kws fa fd)  : FnOk P w K mg base (L2N.CX P w) 1 fa fd [] (spF B 0 zE):=by
 unfold zE
 exact fn_ok F jRM rfl rfl fun _ _ _ _ _ _ _ D=>jSO hK hw g κ D
theorem jXS {P:Program} {w:World} {K:PySem.W.Frag} {mg:Str→Option Value} {base:Heap} {B:Bs} (hK:K=B.K) (hw:w=B.w) (g:Gm mg) (κ:Km w K B mg) {fa:Addr} {fd:FuncData} {dvs:List V} {kws:List (Str × V)} (F:FunD K "_law_put" "_law_put" (defArgs qW) (defBody qW) (defScope qW) dvs kws fa fd)  : FnOk P w K mg base (L2N.CX P w) 1 fa fd ["_law_stand", "_law_at", "_law_value"] (spF B 3 yN):=by
 unfold yN
 exact fn_ok F jXM rfl rfl fun _ _ _ _ _ _ _ D=>jZQ hK hw g κ D
theorem jJU {P:Program} {w:World} {K:PySem.W.Frag} {mg:Str→Option Value} {base:Heap} {B:Bs} (hK:K=B.K) (hw:w=B.w) (g:Gm mg) (κ:Km w K B mg) {fa:Addr} {fd:FuncData} {dvs:List V} {kws:List (Str × V)} (F:FunD K "_law_number_taken" "_law_number_taken" (defArgs vB) (defBody vB) (defScope vB) dvs kws fa fd)  : FnOk P w K mg base (L2N.CX P w) 1 fa fd ["_law_spec", "_law_elder", "_law_dropped"] (spF B 3 vQ):=by
 unfold vQ
 exact fn_ok F jJP rfl rfl fun _ _ _ _ _ _ _ D=>jKK hK hw g κ D
theorem jLN {P:Program} {w:World} {K:PySem.W.Frag} {mg:Str→Option Value} {base:Heap} {B:Bs} (hK:K=B.K) (hw:w=B.w) (g:Gm mg) (κ:Km w K B mg) {fa:Addr} {fd:FuncData} {dvs:List V} {kws:List (Str × V)} (F:FunD K "_law_drop_steps" "_law_drop_steps" (defArgs vM) (defBody vM) (defScope vM) dvs kws fa fd) (F__law_put:Fn P w K mg base B 1 "_law_put" 3 yN):FnOk P w K mg base (L2N.CX P w) 2 fa fd ["_law_spec", "_law_wish", "_law_stand"] (spF B 3 qG):=by
 unfold qG
 exact fn_ok F jLK rfl rfl fun _ _ _ _ _ _ _ D=>jNH hK hw g κ D F__law_put
theorem jJV {P:Program} {w:World} {K:PySem.W.Frag} {mg:Str→Option Value} {base:Heap} {B:Bs} (hK:K=B.K) (hw:w=B.w) (g:Gm mg) (κ:Km w K B mg) {fa:Addr} {fd:FuncData} {dvs:List V} {kws:List (Str × V)} (F:FunD K "_law_number_steps" "_law_number_steps" (defArgs vC) (defBody vC) (defScope vC) dvs kws fa fd) (F__law_put:Fn P w K mg base B 1 "_law_put" 3 yN):FnOk P w K mg base (L2N.CX P w) 2 fa fd ["_law_spec", "_law_wish", "_law_stand"] (spF B 3 wL):=by
 unfold wL
 exact fn_ok F jJQ rfl rfl fun _ _ _ _ _ _ _ D=>jKL hK hw g κ D F__law_put
theorem jJW {P:Program} {w:World} {K:PySem.W.Frag} {mg:Str→Option Value} {base:Heap} {B:Bs} (hK:K=B.K) (hw:w=B.w) (g:Gm mg) (κ:Km w K B mg) {fa:Addr} {fd:FuncData} {dvs:List V} {kws:List (Str × V)} (F:FunD K "_law_landed_steps" "_law_landed_steps" (defArgs vD) (defBody vD) (defScope vD) dvs kws fa fd) (F__law_put:Fn P w K mg base B 1 "_law_put" 3 yN) (F__law_number_taken:Fn P w K mg base B 1 "_law_number_taken" 3 vQ):FnOk P w K mg base (L2N.CX P w) 2 fa fd ["_law_spec", "_law_stand"] (spF B 2 wM):=by
 unfold wM
 exact fn_ok F jJR rfl rfl fun _ _ _ _ _ _ _ D=>jKM hK hw g κ D F__law_put F__law_number_taken
theorem jJT {P:Program} {w:World} {K:PySem.W.Frag} {mg:Str→Option Value} {base:Heap} {B:Bs} (hK:K=B.K) (hw:w=B.w) (g:Gm mg) (κ:Km w K B mg) {fa:Addr} {fd:FuncData} {dvs:List V} {kws:List (Str × V)} (F:FunD K "_law_return_steps" "_law_return_steps" (defArgs vA) (defBody vA) (defScope vA) dvs kws fa fd) (F__law_put:Fn P w K mg base B 1 "_law_put" 3 yN) (F__law_number_taken:Fn P w K mg base B 1 "_law_number_taken" 3 vQ):FnOk P w K mg base (L2N.CX P w) 2 fa fd ["_law_spec", "_law_stand"] (spF B 2 wJ):=by
 unfold wJ
 exact fn_ok F jJO rfl rfl fun _ _ _ _ _ _ _ D=>jKJ hK hw g κ D F__law_put F__law_number_taken
theorem jSK {P:Program} {w:World} {K:PySem.W.Frag} {mg:Str→Option Value} {base:Heap} {B:Bs} (hK:K=B.K) (hw:w=B.w) (g:Gm mg) (κ:Km w K B mg) {fa:Addr} {fd:FuncData} {dvs:List V} {kws:List (Str × V)} (F:FunD K "_law_steps" "_law_steps" (defArgs wA) (defBody wA) (defScope wA) dvs kws fa fd) (F__law_drop_steps:Fn P w K mg base B 2 "_law_drop_steps" 3 qG) (F__law_landed_steps:Fn P w K mg base B 2 "_law_landed_steps" 2 wM) (F__law_return_steps:Fn P w K mg base B 2 "_law_return_steps" 2 wJ) (F__law_number_steps:Fn P w K mg base B 2 "_law_number_steps" 3 wL):FnOk P w K mg base (L2N.CX P w) 3 fa fd ["_law_spec", "_law_wish", "_law_stand"] (spF B 3 zJ):=by
 unfold zJ
 exact fn_ok F jSC rfl rfl fun _ _ _ _ _ _ _ D=>jVK hK hw g κ D F__law_drop_steps F__law_landed_steps F__law_return_steps F__law_number_steps
theorem jSL {P:Program} {w:World} {K:PySem.W.Frag} {mg:Str→Option Value} {base:Heap} {B:Bs} (hK:K=B.K) (hw:w=B.w) (g:Gm mg) (κ:Km w K B mg) {fa:Addr} {fd:FuncData} {dvs:List V} {kws:List (Str × V)} (F:FunD K "_law_first" "_law_first" (defArgs wB) (defBody wB) (defScope wB) dvs kws fa fd) (F__law_wishes:Fn P w K mg base B 1 "_law_wishes" 0 zE):FnOk P w K mg base (L2N.CX P w) 2 fa fd ["_law_wish"] (spF B 1 yU):=by
 unfold yU
 exact fn_ok F jSD rfl rfl fun _ _ _ _ _ _ _ D=>jVL hK hw g κ D F__law_wishes
theorem jPJ {P:Program} {w:World} {K:PySem.W.Frag} {mg:Str→Option Value} {base:Heap} {B:Bs} (hK:K=B.K) (hw:w=B.w) (g:Gm mg) (κ:Km w K B mg) {fa:Addr} {fd:FuncData} {dvs:List V} {kws:List (Str × V)} (F:FunD K "_law_reached" "_law_reached" (defArgs uM) (defBody uM) (defScope uM) dvs kws fa fd) (F__law_first:Fn P w K mg base B 3 "_law_first" 1 yU) (F__law_steps:Fn P w K mg base B 3 "_law_steps" 3 zJ):FnOk P w K mg base (L2N.CX P w) 4 fa fd ["_law_spec", "_law_wish"] (spF B 2 wH):=by
 unfold wH
 exact fn_ok F jPC rfl rfl fun _ _ _ _ _ _ _ D=>jRU hK hw g κ D F__law_first F__law_steps
theorem jLM {P:Program} {w:World} {K:PySem.W.Frag} {mg:Str→Option Value} {base:Heap} {B:Bs} (hK:K=B.K) (hw:w=B.w) (g:Gm mg) (κ:Km w K B mg) {fa:Addr} {fd:FuncData} {dvs:List V} {kws:List (Str × V)} (F:FunD K "_law_some_stand" "_law_some_stand" (defArgs vL) (defBody vL) (defScope vL) dvs kws fa fd) (F__law_first:Fn P w K mg base B 2 "_law_first" 1 yU) (F__law_draw:Fn P w K mg base B 2 "_law_draw" 2 yQ):FnOk P w K mg base (L2N.CX P w) 3 fa fd ["_law_bag", "_law_wish"] (spF B 2 uA):=by
 unfold uA
 exact fn_ok F jLJ rfl rfl fun _ _ _ _ _ _ _ D=>jNG hK hw g κ D F__law_first F__law_draw
theorem jND {P:Program} {w:World} {K:PySem.W.Frag} {mg:Str→Option Value} {base:Heap} {B:Bs} (hK:K=B.K) (hw:w=B.w) (g:Gm mg) (κ:Km w K B mg) {fa:Addr} {fd:FuncData} {dvs:List V} {kws:List (Str × V)} (F:FunD K "_law_table_due" "_law_table_due" (defArgs vX) (defBody vX) (defScope vX) dvs kws fa fd) (F__law_first:Fn P w K mg base B 3 "_law_first" 1 yU) (F__law_steps:Fn P w K mg base B 3 "_law_steps" 3 zJ):FnOk P w K mg base (L2N.CX P w) 4 fa fd ["_law_spec", "_law_wish", "_law_some"] (spF B 3 uU):=by
 unfold uU
 exact fn_ok F jNA rfl rfl fun _ _ _ _ _ _ _ D=>jOF hK hw g κ D F__law_first F__law_steps
theorem yXH {P:Program} {w:World} {K:PySem.W.Frag} {mg:Str→Option Value} {base:Heap} {B:Bs} (hK:K=B.K) (hw:w=B.w) (g:Gm mg) (κ:Km w K B mg) {fa:Addr} {fd:FuncData} {dvs:List V} {kws:List (Str × V)} (F:FunD K "law" "law" (defArgs jGT) (defBody jGT) (defScope jGT) dvs kws fa fd) (F__law_open:Fn P w K mg base B 9 "_law_open" 1 jAM) (F__law_some_spec:Fn P w K mg base B 9 "_law_some_spec" 1 uV) (F__law_way:Fn P w K mg base B 9 "_law_way" 1 jBJ) (F__law_wishes:Fn P w K mg base B 9 "_law_wishes" 0 zE) (F__law_reached:Fn P w K mg base B 9 "_law_reached" 2 wH) (F__law_draw:Fn P w K mg base B 9 "_law_draw" 2 yQ) (F__law_first:Fn P w K mg base B 9 "_law_first" 1 yU) (F__law_some_stand:Fn P w K mg base B 9 "_law_some_stand" 2 uA) (F__law_table_due:Fn P w K mg base B 9 "_law_table_due" 3 uU) (F__law_like:Fn P w K mg base B 9 "_law_like" 2 kW) (F__law_of:Fn P w K mg base B 9 "_law_of" 2 uQ) (M_Kept_3_:MkA P w K mg base B 9 "Kept" vK 3 [] [0,1,2,3] [] 4 yR) (E_Kept_holds_0_:MeA P w K mg base B 9 vK "holds" 0 [] [0] [] 1 yZ):FnOk P w K mg base (L2N.CX P w) 10 fa fd ["_law_script"] (spF B 1 jOM):=by
 unfold jOM
 exact fn_ok F yVM rfl rfl fun _ _ _ _ _ _ _ D=>yZN hK hw g κ D F__law_open F__law_some_spec F__law_way F__law_wishes F__law_reached F__law_draw F__law_first F__law_some_stand F__law_table_due F__law_like F__law_of M_Kept_3_ E_Kept_holds_0_
abbrev hkT:PySem.W.Hook:=hookA adT faT fnT tsT
def obT (s:PySem.W.SharedT):AlL:=obsAG adT faT fnT tsT (HandSHeadRun.getT s)
theorem yWV (s:PySem.W.SharedT):obT s=hkT.obs s.abs:=obsAG_eq (HandSHeadRun.getT_eq s)
theorem yYS (w:World):HandSHeadRun.RunEq Rw qv hkT obT 8000 jNM (w.withFollow "special-get-raises" false):=yAS (yVP w) (yVQ w)
theorem yYR (w:World):HandSHeadRun.RunEq Rw qv hkT obT 8000 jNM (w.withFollow "special-get-raises" true):=yAS (yVN w) (yVO w)
theorem yZU (w:World):HandSHeadRun.RunEq Rw qv hkT obT 8000 jNM w:=PySem.W.byRow2 "special-get-raises" yYS yYR w
def vAB (K:PySem.W.Frag):Nat→Addr:=fun c=>match c with
 | 0=>He.ga K "InvalidTable"
 | 1=>He.ga K "InvalidOption"
 | 2=>He.ga K "InvalidWish"
 | 3=>He.ga K "InvalidStand"
 | 4=>He.ga K "Way"
 | 5=>He.ga K "Paper"
 | 6=>He.ga K "Kept"
 | _=>0
abbrev BkT (w:World) (K:PySem.W.Frag):Bs:=⟨K,vAB K,yIB,yXW K lsT,w,none⟩
theorem jPE:IniT Pg "InvalidTable.__init__" (defArgs jAE) (defBody jAE) (defScope jAE) ["self", "given"]:=⟨nscope_by (by decide +kernel),⟨_,rfl,rfl⟩,by decide +kernel,by decide +kernel,by decide +kernel,by decide +kernel,fun _ _ _ _ _ _ _ us hl=>match us,hl with | [_,_],_=>rfl⟩
theorem jPL {w:World} {K:PySem.W.Frag} {T:List Addr} {h:Heap} {mg:Str→Option Value} {base:Heap} (X:K.In h) (G:h.Ns mainGlobals mg) (c:SaysL faT fnT tsT w K T):ExcC Pg w K mg base (BkT w K) 1 "InvalidTable" 0 1 jAG :=
 jPT (B:=BkT w K) (c:=0) (at_:=jIP.at_) jUN rfl (c.fact 43 (f:=(fun K _=>jPX K "ValueError" "ValueError.__init__" "ValueError.__new__" [.type "ValueError", .type "Exception", .type "BaseException", .type "object"] (He.ga K "InvalidTable"))) rfl) (c.fact 44 (f:=(fun K _=>jLP K (He.ga K "InvalidTable") ["code", "given"])) rfl) (c.fact 45 (f:=(fun K _=>jLU K (He.ga K "InvalidTable") (He.ma K (He.ga K "InvalidTable") "__init__"))) rfl) (c.fact 46 (f:=(fun K _=>jNK Pg K (He.ma K (He.ga K "InvalidTable") "__init__") (He.ga K "InvalidTable"))) rfl) (c.def_ 37 (d:=jIP) rfl) jPE (fun _ _ _ _=>⟨_,rfl⟩) rfl rfl (He.free_ok X G (c.fact 39 (f:=(fun K _=>(He.Fa.free "super").ok K)) rfl)) (He.glo_ok X G (c.fact 42 (f:=(fun K _=>(He.Fa.glo "InvalidTable").ok K)) rfl)) (jQ (by decide +kernel))
theorem jOC:IniT Pg "InvalidOption.__init__" (defArgs qZ) (defBody qZ) (defScope qZ) ["self", "word"]:=⟨nscope_by (by decide +kernel),⟨_,rfl,rfl⟩,by decide +kernel,by decide +kernel,by decide +kernel,by decide +kernel,fun _ _ _ _ _ _ _ us hl=>match us,hl with | [_,_],_=>rfl⟩
theorem jOE {w:World} {K:PySem.W.Frag} {T:List Addr} {h:Heap} {mg:Str→Option Value} {base:Heap} (X:K.In h) (G:h.Ns mainGlobals mg) (c:SaysL faT fnT tsT w K T):ExcC Pg w K mg base (BkT w K) 1 "InvalidOption" 1 1 zP :=
 jPT (B:=BkT w K) (c:=1) (at_:=jHL.at_) jUN rfl (c.fact 48 (f:=(fun K _=>jPX K "ValueError" "ValueError.__init__" "ValueError.__new__" [.type "ValueError", .type "Exception", .type "BaseException", .type "object"] (He.ga K "InvalidOption"))) rfl) (c.fact 49 (f:=(fun K _=>jLP K (He.ga K "InvalidOption") ["code", "word"])) rfl) (c.fact 50 (f:=(fun K _=>jLU K (He.ga K "InvalidOption") (He.ma K (He.ga K "InvalidOption") "__init__"))) rfl) (c.fact 51 (f:=(fun K _=>jNK Pg K (He.ma K (He.ga K "InvalidOption") "__init__") (He.ga K "InvalidOption"))) rfl) (c.def_ 38 (d:=jHL) rfl) jOC (fun _ _ _ _=>⟨_,rfl⟩) rfl rfl (He.free_ok X G (c.fact 39 (f:=(fun K _=>(He.Fa.free "super").ok K)) rfl)) (He.glo_ok X G (c.fact 47 (f:=(fun K _=>(He.Fa.glo "InvalidOption").ok K)) rfl)) (jQ (by decide +kernel))
theorem jRN:IniT Pg "InvalidWish.__init__" (defArgs jBB) (defBody jBB) (defScope jBB) ["self", "given"]:=⟨nscope_by (by decide +kernel),⟨_,rfl,rfl⟩,by decide +kernel,by decide +kernel,by decide +kernel,by decide +kernel,fun _ _ _ _ _ _ _ us hl=>match us,hl with | [_,_],_=>rfl⟩
theorem jRQ {w:World} {K:PySem.W.Frag} {T:List Addr} {h:Heap} {mg:Str→Option Value} {base:Heap} (X:K.In h) (G:h.Ns mainGlobals mg) (c:SaysL faT fnT tsT w K T):ExcC Pg w K mg base (BkT w K) 1 "InvalidWish" 2 1 jCE :=
 jPT (B:=BkT w K) (c:=2) (at_:=jJN.at_) jUN rfl (c.fact 53 (f:=(fun K _=>jPX K "ValueError" "ValueError.__init__" "ValueError.__new__" [.type "ValueError", .type "Exception", .type "BaseException", .type "object"] (He.ga K "InvalidWish"))) rfl) (c.fact 54 (f:=(fun K _=>jLP K (He.ga K "InvalidWish") ["code", "given"])) rfl) (c.fact 55 (f:=(fun K _=>jLU K (He.ga K "InvalidWish") (He.ma K (He.ga K "InvalidWish") "__init__"))) rfl) (c.fact 56 (f:=(fun K _=>jNK Pg K (He.ma K (He.ga K "InvalidWish") "__init__") (He.ga K "InvalidWish"))) rfl) (c.def_ 39 (d:=jJN) rfl) jRN (fun _ _ _ _=>⟨_,rfl⟩) rfl rfl (He.free_ok X G (c.fact 39 (f:=(fun K _=>(He.Fa.free "super").ok K)) rfl)) (He.glo_ok X G (c.fact 52 (f:=(fun K _=>(He.Fa.glo "InvalidWish").ok K)) rfl)) (jQ (by decide +kernel))
theorem jPF:IniT Pg "InvalidStand.__init__" (defArgs jAF) (defBody jAF) (defScope jAF) ["self", "given"]:=⟨nscope_by (by decide +kernel),⟨_,rfl,rfl⟩,by decide +kernel,by decide +kernel,by decide +kernel,by decide +kernel,fun _ _ _ _ _ _ _ us hl=>match us,hl with | [_,_],_=>rfl⟩
theorem jPM {w:World} {K:PySem.W.Frag} {T:List Addr} {h:Heap} {mg:Str→Option Value} {base:Heap} (X:K.In h) (G:h.Ns mainGlobals mg) (c:SaysL faT fnT tsT w K T):ExcC Pg w K mg base (BkT w K) 1 "InvalidStand" 3 1 jBL :=
 jPT (B:=BkT w K) (c:=3) (at_:=jIQ.at_) jUN rfl (c.fact 58 (f:=(fun K _=>jPX K "ValueError" "ValueError.__init__" "ValueError.__new__" [.type "ValueError", .type "Exception", .type "BaseException", .type "object"] (He.ga K "InvalidStand"))) rfl) (c.fact 59 (f:=(fun K _=>jLP K (He.ga K "InvalidStand") ["code", "given"])) rfl) (c.fact 60 (f:=(fun K _=>jLU K (He.ga K "InvalidStand") (He.ma K (He.ga K "InvalidStand") "__init__"))) rfl) (c.fact 61 (f:=(fun K _=>jNK Pg K (He.ma K (He.ga K "InvalidStand") "__init__") (He.ga K "InvalidStand"))) rfl) (c.def_ 40 (d:=jIQ) rfl) jPF (fun _ _ _ _=>⟨_,rfl⟩) rfl rfl (He.free_ok X G (c.fact 39 (f:=(fun K _=>(He.Fa.free "super").ok K)) rfl)) (He.glo_ok X G (c.fact 57 (f:=(fun K _=>(He.Fa.glo "InvalidStand").ok K)) rfl)) (jQ (by decide +kernel))
theorem xcT {w:World} {K:PySem.W.Frag} {T:List Addr} (c:SaysL faT fnT tsT w K T):XClsF K (BkT w K) xfl:=⟨fun cc hh=>match cc,hh with
 | 0,_=>rfl
 | 1,_=>rfl
 | 2,_=>rfl
 | 3,_=>rfl
 | 4,h=>absurd rfl h
 | 5,h=>absurd rfl h
 | 6,h=>absurd rfl h
 | _+7,h=>absurd rfl h,
 fun cc f hf=>match cc,hf with
 | 0,hf=>jJY (c.fact 44 (f:=(fun K _=>jLP K (He.ga K "InvalidTable") ["code", "given"])) rfl) hf
 | 1,hf=>jJY (c.fact 49 (f:=(fun K _=>jLP K (He.ga K "InvalidOption") ["code", "word"])) rfl) hf
 | 2,hf=>jJY (c.fact 54 (f:=(fun K _=>jLP K (He.ga K "InvalidWish") ["code", "given"])) rfl) hf
 | 3,hf=>jJY (c.fact 59 (f:=(fun K _=>jLP K (He.ga K "InvalidStand") ["code", "given"])) rfl) hf
 | 4,hf=>(nomatch hf)
 | 5,hf=>(nomatch hf)
 | 6,hf=>(nomatch hf)
 | _+7,hf=>(nomatch hf)⟩
theorem cfT {w:World} {K:PySem.W.Frag} {T:List Addr} (c:SaysL faT fnT tsT w K T):ClsF K (BkT w K) ifl:=⟨fun cc hh=>match cc,hh with
 | 0,h=>absurd rfl h
 | 1,h=>absurd rfl h
 | 2,h=>absurd rfl h
 | 3,h=>absurd rfl h
 | 4,_=>rfl
 | 5,_=>rfl
 | 6,_=>rfl
 | _+7,h=>absurd rfl h,
 fun cc f hf=>match cc,hf with
 | 0,hf=>(nomatch hf)
 | 1,hf=>(nomatch hf)
 | 2,hf=>(nomatch hf)
 | 3,hf=>(nomatch hf)
 | 4,hf=>⟨He.cls_ok (c.fact 65 (f:=(fun K _=>(He.Fa.cls "Way").ok K)) rfl),by
   simp only [ifl,List.mem_cons,List.not_mem_nil,or_false] at hf
   rcases hf with rfl | rfl | rfl | rfl | rfl
   ·exact He.noat_ok (c.fact 66 (f:=(fun K _=>(He.Fa.noat "Way" "drops").ok K)) rfl)
   ·exact He.noat_ok (c.fact 67 (f:=(fun K _=>(He.Fa.noat "Way" "numbers").ok K)) rfl)
   ·exact He.noat_ok (c.fact 68 (f:=(fun K _=>(He.Fa.noat "Way" "stretches").ok K)) rfl)
   ·exact He.noat_ok (c.fact 69 (f:=(fun K _=>(He.Fa.noat "Way" "hidden").ok K)) rfl)
   ·exact He.noat_ok (c.fact 70 (f:=(fun K _=>(He.Fa.noat "Way" "lock").ok K)) rfl)⟩
 | 5,hf=>⟨He.cls_ok (c.fact 72 (f:=(fun K _=>(He.Fa.cls "Paper").ok K)) rfl),by
   simp only [ifl,List.mem_cons,List.not_mem_nil,or_false] at hf
   rcases hf with rfl | rfl
   ·exact He.noat_ok (c.fact 73 (f:=(fun K _=>(He.Fa.noat "Paper" "way").ok K)) rfl)
   ·exact He.noat_ok (c.fact 74 (f:=(fun K _=>(He.Fa.noat "Paper" "wish").ok K)) rfl)⟩
 | 6,hf=>⟨He.cls_ok (c.fact 76 (f:=(fun K _=>(He.Fa.cls "Kept").ok K)) rfl),by
   simp only [ifl,List.mem_cons,List.not_mem_nil,or_false] at hf
   rcases hf with rfl | rfl | rfl
   ·exact He.noat_ok (c.fact 77 (f:=(fun K _=>(He.Fa.noat "Kept" "way").ok K)) rfl)
   ·exact He.noat_ok (c.fact 78 (f:=(fun K _=>(He.Fa.noat "Kept" "wish").ok K)) rfl)
   ·exact He.noat_ok (c.fact 79 (f:=(fun K _=>(He.Fa.noat "Kept" "own_stands").ok K)) rfl)⟩
 | _+7,hf=>(nomatch hf),
 fun cc=>match cc with
 | 0=>by decide
 | 1=>by decide
 | 2=>by decide
 | 3=>by decide
 | 4=>by decide
 | 5=>by decide
 | 6=>by decide
 | _+7=>by show 0 < 1000; decide,
 fun cc=>match cc with
 | 0=>List.nodup_nil
 | 1=>List.nodup_nil
 | 2=>List.nodup_nil
 | 3=>List.nodup_nil
 | 4=>by decide
 | 5=>by decide
 | 6=>by decide
 | _+7=>List.nodup_nil⟩
theorem yXI {w:World} {K:PySem.W.Frag} {T:List Addr} {h:Heap} {mg:Str→Option Value} {f:Addr} (X:K.In h) (G:h.Ns mainGlobals mg) (hfa:mg ("law" : Str)=some (.ref f)) (c:SaysL faT fnT tsT w K T) :
  ∃ fd:FuncData,(∀ (s:Shared) (u:Value),BindsTo s fd ⟨[u],[]⟩ [("_law_script", u)])∧∀ base:Heap,K.In base→base.Ns mainGlobals mg→(∀ p∈lsT,TabB base mg (jFY K (p.1 K)) (jFU K (p.1 K)))→FnOk Pg w K mg base (L2N.CX Pg w) 10 f fd ["_law_script"] (spF (BkT w K) 1 jOM):=by
 obtain ⟨fd_is_wish,F_is_wish⟩:=DefL.funD (d:=jKG) (c.def_ 0 (d:=jKG) rfl).1 (c.def_ 0 (d:=jKG) rfl).2 rfl
 obtain ⟨fd_check_wish,F_check_wish⟩:=DefL.funD (d:=jFO) (c.def_ 1 (d:=jFO) rfl).1 (c.def_ 1 (d:=jFO) rfl).2 rfl
 obtain ⟨fd_first_stand,F_first_stand⟩:=DefL.funD (d:=jEQ) (c.def_ 2 (d:=jEQ) rfl).1 (c.def_ 2 (d:=jEQ) rfl).2 rfl
 obtain ⟨fd_is_stand,F_is_stand⟩:=DefL.funD (d:=jHX) (c.def_ 3 (d:=jHX) rfl).1 (c.def_ 3 (d:=jHX) rfl).2 rfl
 obtain ⟨fd_Way_drop_answer,F_Way_drop_answer⟩:=DefL.funD (d:=jBX) (c.def_ 4 (d:=jBX) rfl).1 (c.def_ 4 (d:=jBX) rfl).2 rfl
 obtain ⟨fd_drop_steps,F_drop_steps⟩:=DefL.funD (d:=jFN) (c.def_ 5 (d:=jFN) rfl).1 (c.def_ 5 (d:=jFN) rfl).2 rfl
 obtain ⟨fd_Way_number_answer,F_Way_number_answer⟩:=DefL.funD (d:=jAX) (c.def_ 6 (d:=jAX) rfl).1 (c.def_ 6 (d:=jAX) rfl).2 rfl
 obtain ⟨fd_number_steps,F_number_steps⟩:=DefL.funD (d:=jDX) (c.def_ 7 (d:=jDX) rfl).1 (c.def_ 7 (d:=jDX) rfl).2 rfl
 obtain ⟨fd_landed_steps,F_landed_steps⟩:=DefL.funD (d:=jDY) (c.def_ 8 (d:=jDY) rfl).1 (c.def_ 8 (d:=jDY) rfl).2 rfl
 obtain ⟨fd_return_steps,F_return_steps⟩:=DefL.funD (d:=jDW) (c.def_ 9 (d:=jDW) rfl).1 (c.def_ 9 (d:=jDW) rfl).2 rfl
 obtain ⟨fd_steps_from,F_steps_from⟩:=DefL.funD (d:=jFM) (c.def_ 10 (d:=jFM) rfl).1 (c.def_ 10 (d:=jFM) rfl).2 rfl
 obtain ⟨fd_is_table,F_is_table⟩:=DefL.funD (d:=jHW) (c.def_ 11 (d:=jHW) rfl).1 (c.def_ 11 (d:=jHW) rfl).2 rfl
 obtain ⟨fd_Way___init__,F_Way___init__⟩:=DefL.funD (d:=jAC) (c.def_ 12 (d:=jAC) rfl).1 (c.def_ 12 (d:=jAC) rfl).2 rfl
 obtain ⟨fd_renewed,F_renewed⟩:=DefL.funD (d:=jKF) (c.def_ 13 (d:=jKF) rfl).1 (c.def_ 13 (d:=jKF) rfl).2 rfl
 obtain ⟨fd_copied,F_copied⟩:=DefL.funD (d:=jMN) (c.def_ 14 (d:=jMN) rfl).1 (c.def_ 14 (d:=jMN) rfl).2 rfl
 obtain ⟨fd_Paper___init__,F_Paper___init__⟩:=DefL.funD (d:=jCS) (c.def_ 15 (d:=jCS) rfl).1 (c.def_ 15 (d:=jCS) rfl).2 rfl
 obtain ⟨cc_Kept___init__,cda_Kept___init__,fd_Kept___init__,S_Kept___init__,D_Kept___init__⟩:=DefL.sup (P:=Pg) (D:=He.ga K "Kept") (d:=jDC) (c.def_ 16 (d:=jDC) rfl).1 (c.def_ 16 (d:=jDC) rfl).2 rfl rfl (c.fact 95 (f:=(fun K _=>jNK Pg K (He.ma K (He.ga K "Kept") "__init__") (He.ga K "Kept"))) rfl) ⟨_,rfl,rfl⟩ (by decide +kernel) (by decide +kernel) (by decide +kernel) (by decide +kernel)
 obtain ⟨fd_Kept_holds,F_Kept_holds⟩:=DefL.funD (d:=jFR) (c.def_ 17 (d:=jFR) rfl).1 (c.def_ 17 (d:=jFR) rfl).2 rfl
 obtain ⟨fd__law_open,F__law_open⟩:=DefL.funD (d:=jGL) (c.def_ 18 (d:=jGL) rfl).1 (c.def_ 18 (d:=jGL) rfl).2 rfl
 obtain ⟨fd__law_draw,F__law_draw⟩:=DefL.funD (d:=jGN) (c.def_ 19 (d:=jGN) rfl).1 (c.def_ 19 (d:=jGN) rfl).2 rfl
 obtain ⟨fd__law_of,F__law_of⟩:=DefL.funD (d:=jKH) (c.def_ 20 (d:=jKH) rfl).1 (c.def_ 20 (d:=jKH) rfl).2 rfl
 obtain ⟨fd__law_like,F__law_like⟩:=DefL.funD (d:=jGM) (c.def_ 21 (d:=jGM) rfl).1 (c.def_ 21 (d:=jGM) rfl).2 rfl
 obtain ⟨fd__law_some_spec,F__law_some_spec⟩:=DefL.funD (d:=jCR) (c.def_ 22 (d:=jCR) rfl).1 (c.def_ 22 (d:=jCR) rfl).2 rfl
 obtain ⟨fd__law_way,F__law_way⟩:=DefL.funD (d:=jHY) (c.def_ 23 (d:=jHY) rfl).1 (c.def_ 23 (d:=jHY) rfl).2 rfl
 obtain ⟨fd__law_wishes,F__law_wishes⟩:=DefL.funD (d:=jER) (c.def_ 24 (d:=jER) rfl).1 (c.def_ 24 (d:=jER) rfl).2 rfl
 obtain ⟨fd__law_put,F__law_put⟩:=DefL.funD (d:=jHZ) (c.def_ 25 (d:=jHZ) rfl).1 (c.def_ 25 (d:=jHZ) rfl).2 rfl
 obtain ⟨fd__law_number_taken,F__law_number_taken⟩:=DefL.funD (d:=jAU) (c.def_ 26 (d:=jAU) rfl).1 (c.def_ 26 (d:=jAU) rfl).2 rfl
 obtain ⟨fd__law_drop_steps,F__law_drop_steps⟩:=DefL.funD (d:=jBW) (c.def_ 27 (d:=jBW) rfl).1 (c.def_ 27 (d:=jBW) rfl).2 rfl
 obtain ⟨fd__law_number_steps,F__law_number_steps⟩:=DefL.funD (d:=jAV) (c.def_ 28 (d:=jAV) rfl).1 (c.def_ 28 (d:=jAV) rfl).2 rfl
 obtain ⟨fd__law_landed_steps,F__law_landed_steps⟩:=DefL.funD (d:=jAW) (c.def_ 29 (d:=jAW) rfl).1 (c.def_ 29 (d:=jAW) rfl).2 rfl
 obtain ⟨fd__law_return_steps,F__law_return_steps⟩:=DefL.funD (d:=jAT) (c.def_ 30 (d:=jAT) rfl).1 (c.def_ 30 (d:=jAT) rfl).2 rfl
 obtain ⟨fd__law_steps,F__law_steps⟩:=DefL.funD (d:=jFP) (c.def_ 31 (d:=jFP) rfl).1 (c.def_ 31 (d:=jFP) rfl).2 rfl
 obtain ⟨fd__law_first,F__law_first⟩:=DefL.funD (d:=jFQ) (c.def_ 32 (d:=jFQ) rfl).1 (c.def_ 32 (d:=jFQ) rfl).2 rfl
 obtain ⟨fd__law_reached,F__law_reached⟩:=DefL.funD (d:=jDZ) (c.def_ 33 (d:=jDZ) rfl).1 (c.def_ 33 (d:=jDZ) rfl).2 rfl
 obtain ⟨fd__law_some_stand,F__law_some_stand⟩:=DefL.funD (d:=jBV) (c.def_ 34 (d:=jBV) rfl).1 (c.def_ 34 (d:=jBV) rfl).2 rfl
 obtain ⟨fd__law_table_due,F__law_table_due⟩:=DefL.funD (d:=jCQ) (c.def_ 35 (d:=jCQ) rfl).1 (c.def_ 35 (d:=jCQ) rfl).2 rfl
 obtain ⟨fd_law,F_law⟩:=DefL.funD (d:=yAA) (c.def_ 36 (d:=yAA) rfl).1 (c.def_ 36 (d:=yAA) rfl).2 rfl
 have h_is_wish:mg "is_wish" = some (.ref (He.ga K "is_wish")):=He.glo_ok X G (c.fact 0 (f:=(fun K _=>(He.Fa.glo "is_wish").ok K)) rfl)
 have h_check_wish:mg "check_wish" = some (.ref (He.ga K "check_wish")):=He.glo_ok X G (c.fact 1 (f:=(fun K _=>(He.Fa.glo "check_wish").ok K)) rfl)
 have h_first_stand:mg "first_stand" = some (.ref (He.ga K "first_stand")):=He.glo_ok X G (c.fact 2 (f:=(fun K _=>(He.Fa.glo "first_stand").ok K)) rfl)
 have h_is_stand:mg "is_stand" = some (.ref (He.ga K "is_stand")):=He.glo_ok X G (c.fact 3 (f:=(fun K _=>(He.Fa.glo "is_stand").ok K)) rfl)
 have h_drop_steps:mg "drop_steps" = some (.ref (He.ga K "drop_steps")):=He.glo_ok X G (c.fact 4 (f:=(fun K _=>(He.Fa.glo "drop_steps").ok K)) rfl)
 have h_number_steps:mg "number_steps" = some (.ref (He.ga K "number_steps")):=He.glo_ok X G (c.fact 5 (f:=(fun K _=>(He.Fa.glo "number_steps").ok K)) rfl)
 have h_landed_steps:mg "landed_steps" = some (.ref (He.ga K "landed_steps")):=He.glo_ok X G (c.fact 6 (f:=(fun K _=>(He.Fa.glo "landed_steps").ok K)) rfl)
 have h_return_steps:mg "return_steps" = some (.ref (He.ga K "return_steps")):=He.glo_ok X G (c.fact 7 (f:=(fun K _=>(He.Fa.glo "return_steps").ok K)) rfl)
 have h_steps_from:mg "steps_from" = some (.ref (He.ga K "steps_from")):=He.glo_ok X G (c.fact 8 (f:=(fun K _=>(He.Fa.glo "steps_from").ok K)) rfl)
 have h_is_table:mg "is_table" = some (.ref (He.ga K "is_table")):=He.glo_ok X G (c.fact 9 (f:=(fun K _=>(He.Fa.glo "is_table").ok K)) rfl)
 have h_renewed:mg "renewed" = some (.ref (He.ga K "renewed")):=He.glo_ok X G (c.fact 10 (f:=(fun K _=>(He.Fa.glo "renewed").ok K)) rfl)
 have h_copied:mg "copied" = some (.ref (He.ga K "copied")):=He.glo_ok X G (c.fact 11 (f:=(fun K _=>(He.Fa.glo "copied").ok K)) rfl)
 have h__law_open:mg "_law_open" = some (.ref (He.ga K "_law_open")):=He.glo_ok X G (c.fact 12 (f:=(fun K _=>(He.Fa.glo "_law_open").ok K)) rfl)
 have h__law_draw:mg "_law_draw" = some (.ref (He.ga K "_law_draw")):=He.glo_ok X G (c.fact 13 (f:=(fun K _=>(He.Fa.glo "_law_draw").ok K)) rfl)
 have h__law_of:mg "_law_of" = some (.ref (He.ga K "_law_of")):=He.glo_ok X G (c.fact 14 (f:=(fun K _=>(He.Fa.glo "_law_of").ok K)) rfl)
 have h__law_like:mg "_law_like" = some (.ref (He.ga K "_law_like")):=He.glo_ok X G (c.fact 15 (f:=(fun K _=>(He.Fa.glo "_law_like").ok K)) rfl)
 have h__law_some_spec:mg "_law_some_spec" = some (.ref (He.ga K "_law_some_spec")):=He.glo_ok X G (c.fact 16 (f:=(fun K _=>(He.Fa.glo "_law_some_spec").ok K)) rfl)
 have h__law_way:mg "_law_way" = some (.ref (He.ga K "_law_way")):=He.glo_ok X G (c.fact 17 (f:=(fun K _=>(He.Fa.glo "_law_way").ok K)) rfl)
 have h__law_wishes:mg "_law_wishes" = some (.ref (He.ga K "_law_wishes")):=He.glo_ok X G (c.fact 18 (f:=(fun K _=>(He.Fa.glo "_law_wishes").ok K)) rfl)
 have h__law_put:mg "_law_put" = some (.ref (He.ga K "_law_put")):=He.glo_ok X G (c.fact 19 (f:=(fun K _=>(He.Fa.glo "_law_put").ok K)) rfl)
 have h__law_number_taken:mg "_law_number_taken" = some (.ref (He.ga K "_law_number_taken")):=He.glo_ok X G (c.fact 20 (f:=(fun K _=>(He.Fa.glo "_law_number_taken").ok K)) rfl)
 have h__law_drop_steps:mg "_law_drop_steps" = some (.ref (He.ga K "_law_drop_steps")):=He.glo_ok X G (c.fact 21 (f:=(fun K _=>(He.Fa.glo "_law_drop_steps").ok K)) rfl)
 have h__law_number_steps:mg "_law_number_steps" = some (.ref (He.ga K "_law_number_steps")):=He.glo_ok X G (c.fact 22 (f:=(fun K _=>(He.Fa.glo "_law_number_steps").ok K)) rfl)
 have h__law_landed_steps:mg "_law_landed_steps" = some (.ref (He.ga K "_law_landed_steps")):=He.glo_ok X G (c.fact 23 (f:=(fun K _=>(He.Fa.glo "_law_landed_steps").ok K)) rfl)
 have h__law_return_steps:mg "_law_return_steps" = some (.ref (He.ga K "_law_return_steps")):=He.glo_ok X G (c.fact 24 (f:=(fun K _=>(He.Fa.glo "_law_return_steps").ok K)) rfl)
 have h__law_steps:mg "_law_steps" = some (.ref (He.ga K "_law_steps")):=He.glo_ok X G (c.fact 25 (f:=(fun K _=>(He.Fa.glo "_law_steps").ok K)) rfl)
 have h__law_first:mg "_law_first" = some (.ref (He.ga K "_law_first")):=He.glo_ok X G (c.fact 26 (f:=(fun K _=>(He.Fa.glo "_law_first").ok K)) rfl)
 have h__law_reached:mg "_law_reached" = some (.ref (He.ga K "_law_reached")):=He.glo_ok X G (c.fact 27 (f:=(fun K _=>(He.Fa.glo "_law_reached").ok K)) rfl)
 have h__law_some_stand:mg "_law_some_stand" = some (.ref (He.ga K "_law_some_stand")):=He.glo_ok X G (c.fact 28 (f:=(fun K _=>(He.Fa.glo "_law_some_stand").ok K)) rfl)
 have h__law_table_due:mg "_law_table_due" = some (.ref (He.ga K "_law_table_due")):=He.glo_ok X G (c.fact 29 (f:=(fun K _=>(He.Fa.glo "_law_table_due").ok K)) rfl)
 have h_law:mg "law" = some (.ref (He.ga K "law")):=He.glo_ok X G (c.fact 30 (f:=(fun K _=>(He.Fa.glo "law").ok K)) rfl)
 have g:Gm mg:=⟨trivial,
  He.free_ok X G (c.fact 31 (f:=(fun K _=>(He.Fa.free "all").ok K)) rfl),
  He.free_ok X G (c.fact 32 (f:=(fun K _=>(He.Fa.free "bool").ok K)) rfl),
  He.free_ok X G (c.fact 33 (f:=(fun K _=>(He.Fa.free "int").ok K)) rfl),
  He.free_ok X G (c.fact 34 (f:=(fun K _=>(He.Fa.free "isinstance").ok K)) rfl),
  He.free_ok X G (c.fact 35 (f:=(fun K _=>(He.Fa.free "len").ok K)) rfl),
  He.free_ok X G (c.fact 36 (f:=(fun K _=>(He.Fa.free "list").ok K)) rfl),
  He.free_ok X G (c.fact 37 (f:=(fun K _=>(He.Fa.free "range").ok K)) rfl),
  He.free_ok X G (c.fact 38 (f:=(fun K _=>(He.Fa.free "str").ok K)) rfl),
  He.free_ok X G (c.fact 39 (f:=(fun K _=>(He.Fa.free "super").ok K)) rfl),
  He.free_ok X G (c.fact 40 (f:=(fun K _=>(He.Fa.free "tuple").ok K)) rfl),
  He.free_ok X G (c.fact 41 (f:=(fun K _=>(He.Fa.free "zip").ok K)) rfl)⟩
 have κ:Km w K (BkT w K) mg:=⟨cfT c,
  ⟨He.cls_ok (c.fact 65 (f:=(fun K _=>(He.Fa.cls "Way").ok K)) rfl),show ∀ m∈(["drop_answer", "number_answer"]:List Str),m∉yIB vJ from by decide⟩,
  He.glo_ok X G (c.fact 64 (f:=(fun K _=>(He.Fa.glo "Way").ok K)) rfl),
  ⟨He.cls_ok (c.fact 72 (f:=(fun K _=>(He.Fa.cls "Paper").ok K)) rfl),show ∀ m∈([]:List Str),m∉yIB jQY from by decide⟩,
  He.glo_ok X G (c.fact 71 (f:=(fun K _=>(He.Fa.glo "Paper").ok K)) rfl),
  ⟨He.cls_ok (c.fact 76 (f:=(fun K _=>(He.Fa.cls "Kept").ok K)) rfl),show ∀ m∈(["holds"]:List Str),m∉yIB vK from by decide⟩,
  He.glo_ok X G (c.fact 75 (f:=(fun K _=>(He.Fa.glo "Kept").ok K)) rfl),
  yHN (He.cls_ok (c.fact 65 (f:=(fun K _=>(He.Fa.cls "Way").ok K)) rfl)) (c.fact 62 (f:=(fun K _=>yAD K (He.ga K "Way"))) rfl),
  yHB (c.fact 63 (f:=(fun K _=>yDS K (He.ga K "Way"))) rfl),
  yOZ (He.glo_ok X G (c.fact 91 (f:=(fun K _=>(He.Fa.glo "WORDS").ok K)) rfl)) (c.dicW 0 (t:=(fun K=>He.ga K "WORDS", jGA.map (·.1))) rfl) (c.fact 92 (f:=(fun K _=>yQO K (He.ga K "WORDS") jGA)) rfl),
  yOY (He.glo_ok X G (c.fact 93 (f:=(fun K _=>(He.Fa.glo "SIZES").ok K)) rfl)) (c.dicW 1 (t:=(fun K=>He.ga K "SIZES", jJD.map (·.1))) rfl) (c.fact 94 (f:=(fun K _=>yDY K (He.ga K "SIZES") jJD)) rfl),
  He.glo_ok X G (c.fact 86 (f:=(fun K _=>(He.Fa.glo "BROKEN").ok K)) rfl),
  jWH (c.fact 87 (f:=(fun K _=>jSP K (He.ga K "BROKEN") [.str "broken"])) rfl),
  He.glo_ok X G (c.fact 88 (f:=(fun K _=>(He.Fa.glo "WISHES").ok K)) rfl),
  jWH (c.fact 89 (f:=(fun K _=>jSP K (He.ga K "WISHES") [.str "lands", .str "stays", .str "still", .str "returns", .str "heard", .str "numbered"])) rfl),
  yHM (c.fact 90 (f:=(fun K _=>yAB K (He.ga K "Way") "LOCKS" [.str "none", .str "one", .str "all"])) rfl)⟩
 have e:=hfa.symm.trans h_law
 obtain rfl:f=He.ga K "law" := by injection e with e; injection e
 have b:=FunD.bindsA (ps:=["_law_script"]) F_law fun _ _ _ _ _ _ us hl=>match us,hl with | [_],_=>rfl
 have XC:=xcT c
 refine ⟨fd_law,fun s v=>b s [v] rfl,fun base _ _ TBs=>?_⟩
 have X_InvalidTable:ExcC Pg w K mg base (BkT w K) 1 "InvalidTable" 0 1 jAG:=jPL X G c
 have X_InvalidOption:ExcC Pg w K mg base (BkT w K) 1 "InvalidOption" 1 1 zP:=jOE X G c
 have X_InvalidWish:ExcC Pg w K mg base (BkT w K) 1 "InvalidWish" 2 1 jCE:=jRQ X G c
 have X_InvalidStand:ExcC Pg w K mg base (BkT w K) 1 "InvalidStand" 3 1 jBL:=jPM X G c
 have O_is_wish:=jZK (P:=Pg) (w:=w) (base:=base) (B:=BkT w K) rfl rfl g κ F_is_wish  
 have N_is_wish:Fn Pg w K mg base (BkT w K) 1 "is_wish" 1 qY:=⟨_,_,_,O_is_wish,h_is_wish,F_is_wish.kp,(F_is_wish.bindsN fun _ _ _ _ _ _ us hl=>match us,hl with | [_],_=>rfl)⟩
 have O_check_wish:=jSJ (P:=Pg) (w:=w) (base:=base) (B:=BkT w K) rfl rfl g κ F_check_wish  (N_is_wish.mono (by decide)) ⟨1,by decide,X_InvalidWish⟩
 have N_check_wish:Fn Pg w K mg base (BkT w K) 3 "check_wish" 1 qQ:=⟨_,_,_,O_check_wish,h_check_wish,F_check_wish.kp,(F_check_wish.bindsN fun _ _ _ _ _ _ us hl=>match us,hl with | [_],_=>rfl)⟩
 have O_first_stand:=jRO (P:=Pg) (w:=w) (base:=base) (B:=BkT w K) rfl rfl g κ F_first_stand  (N_check_wish.mono (by decide))
 have N_first_stand:Fn Pg w K mg base (BkT w K) 4 "first_stand" 1 qX:=⟨_,_,_,O_first_stand,h_first_stand,F_first_stand.kp,(F_first_stand.bindsN fun _ _ _ _ _ _ us hl=>match us,hl with | [_],_=>rfl)⟩
 have O_is_stand:=jXQ (P:=Pg) (w:=w) (base:=base) (B:=BkT w K) rfl rfl g κ F_is_stand  (N_check_wish.mono (by decide))
 have N_is_stand:Fn Pg w K mg base (BkT w K) 4 "is_stand" 2 uI:=⟨_,_,_,O_is_stand,h_is_stand,F_is_stand.kp,(F_is_stand.bindsN fun _ _ _ _ _ _ us hl=>match us,hl with | [_,_],_=>rfl)⟩
 have O_Way_drop_answer:=jLO (P:=Pg) (w:=w) (base:=base) (B:=BkT w K) rfl rfl g κ F_Way_drop_answer  
 have NE_Way_drop_answer_3_:MeA Pg w K mg base (BkT w K) 1 vJ "drop_answer" 3 [] [0,1,2,3] [] 4 qH:=Me.of (He.meth_ok (c.fact 80 (f:=(fun K _=>(He.Fa.meth "Way" "drop_answer").ok K)) rfl)) O_Way_drop_answer (yDR (B:=BkT w K) (ps:=["self", "elder", "again", "apart"]) F_Way_drop_answer 4 [] [0,1,2,3] fun _ _ _ _ _ _ us ws l1 l2=>match us,ws,l1,l2 with | [_,_,_,_],[],_,_=>rfl)
 have O_drop_steps:=jSI (P:=Pg) (w:=w) (base:=base) (B:=BkT w K) rfl rfl g κ F_drop_steps  (NE_Way_drop_answer_3_.mono (by decide))
 have N_drop_steps:Fn Pg w K mg base (BkT w K) 2 "drop_steps" 3 jCO:=⟨_,_,_,O_drop_steps,h_drop_steps,F_drop_steps.kp,(F_drop_steps.bindsN fun _ _ _ _ _ _ us hl=>match us,hl with | [_,_,_],_=>rfl)⟩
 have O_Way_number_answer:=jJX (P:=Pg) (w:=w) (base:=base) (B:=BkT w K) rfl rfl g κ F_Way_number_answer  
 have NE_Way_number_answer_2_:MeA Pg w K mg base (BkT w K) 1 vJ "number_answer" 2 [] [0,1,2] [] 3 yS:=Me.of (He.meth_ok (c.fact 81 (f:=(fun K _=>(He.Fa.meth "Way" "number_answer").ok K)) rfl)) O_Way_number_answer (yDR (B:=BkT w K) (ps:=["self", "elder", "dropped"]) F_Way_number_answer 3 [] [0,1,2] fun _ _ _ _ _ _ us ws l1 l2=>match us,ws,l1,l2 with | [_,_,_],[],_,_=>rfl)
 have O_number_steps:=jPH (P:=Pg) (w:=w) (base:=base) (B:=BkT w K) rfl rfl g κ F_number_steps  (NE_Way_number_answer_2_.mono (by decide))
 have N_number_steps:Fn Pg w K mg base (BkT w K) 2 "number_steps" 3 jBD:=⟨_,_,_,O_number_steps,h_number_steps,F_number_steps.kp,(F_number_steps.bindsN fun _ _ _ _ _ _ us hl=>match us,hl with | [_,_,_],_=>rfl)⟩
 have O_landed_steps:=jPI (P:=Pg) (w:=w) (base:=base) (B:=BkT w K) rfl rfl g κ F_landed_steps  (NE_Way_number_answer_2_.mono (by decide))
 have N_landed_steps:Fn Pg w K mg base (BkT w K) 2 "landed_steps" 2 jBE:=⟨_,_,_,O_landed_steps,h_landed_steps,F_landed_steps.kp,(F_landed_steps.bindsN fun _ _ _ _ _ _ us hl=>match us,hl with | [_,_],_=>rfl)⟩
 have O_return_steps:=jPG (P:=Pg) (w:=w) (base:=base) (B:=BkT w K) rfl rfl g κ F_return_steps  (NE_Way_number_answer_2_.mono (by decide))
 have N_return_steps:Fn Pg w K mg base (BkT w K) 2 "return_steps" 2 jBC:=⟨_,_,_,O_return_steps,h_return_steps,F_return_steps.kp,(F_return_steps.bindsN fun _ _ _ _ _ _ us hl=>match us,hl with | [_,_],_=>rfl)⟩
 have O_steps_from:=jSH (P:=Pg) (w:=w) (base:=base) (B:=BkT w K) rfl rfl g κ F_steps_from  (N_is_stand.mono (by decide)) (N_drop_steps.mono (by decide)) (N_landed_steps.mono (by decide)) (N_return_steps.mono (by decide)) (N_number_steps.mono (by decide)) ⟨1,by decide,X_InvalidStand⟩
 have N_steps_from:Fn Pg w K mg base (BkT w K) 5 "steps_from" 3 jAN:=⟨_,_,_,O_steps_from,h_steps_from,F_steps_from.kp,(F_steps_from.bindsN fun _ _ _ _ _ _ us hl=>match us,hl with | [_,_,_],_=>rfl)⟩
 have O_is_table:=jXP (P:=Pg) (w:=w) (base:=base) (B:=BkT w K) rfl rfl g κ F_is_table  
 have N_is_table:Fn Pg w K mg base (BkT w K) 1 "is_table" 2 jBI:=⟨_,_,_,O_is_table,h_is_table,F_is_table.kp,(F_is_table.bindsN fun _ _ _ _ _ _ us hl=>match us,hl with | [_,_],_=>rfl)⟩
 have O_Way___init__:=jPK (P:=Pg) (w:=w) (base:=base) (B:=BkT w K) rfl rfl g κ F_Way___init__  (N_is_table.mono (by decide)) ⟨1,by decide,X_InvalidTable⟩ ⟨1,by decide,X_InvalidOption⟩
 have NM_Way_2_stretches_hidden_lock:MkA Pg w K mg base (BkT w K) 4 "Way" vJ 2 ["stretches", "hidden", "lock"] [0,1,2,3,4,5] [.str "tttttttt", .str "tttt"] 6 zH:=⟨3,by decide,MkC.of (He.mkr_ok (c.fact 82 (f:=(fun K _=>(He.Fa.mkr "Way").ok K)) rfl)) O_Way___init__ κ.n_Way (yXE (B:=BkT w K) (ps:=["self", "drops", "numbers", "stretches", "hidden", "lock"]) F_Way___init__ 3 ["stretches", "hidden", "lock"] [] [0,1,2,3,4,5] [.str "tttttttt", .str "tttt"] (by simp [jAC]) (by simp [jAC]) (by simp [jAC,He.Dv.v]) (fun _=>(.cons (.str _ (jQ (by decide +kernel))) (.cons (.str _ (jQ (by decide +kernel))) .nil))) fun _ _ _ _ _ _ _ us its mv ws l1 l2 l3 l4=>match us,its,mv,ws,l1,l2,l3,l4 with | [_,_,_],[_,_],[],[_,_,_],_,_,_,_=>⟨_,rfl,rfl⟩)⟩
 have O_renewed:=jZJ (P:=Pg) (w:=w) (base:=base) (B:=BkT w K) rfl rfl g κ F_renewed h_renewed 
 have N_renewed:Fn Pg w K mg base (BkT w K) 5 "renewed" 1 wI:=⟨_,_,_,O_renewed,h_renewed,F_renewed.kp,(F_renewed.bindsN fun _ _ _ _ _ _ us hl=>match us,hl with | [_],_=>rfl)⟩
 have O_copied:=yCT (P:=Pg) (w:=w) (base:=base) (B:=BkT w K) rfl rfl g κ F_copied  (N_renewed.mono (by decide))
 have N_copied:Fn Pg w K mg base (BkT w K) 6 "copied" 1 jCD:=⟨_,_,_,O_copied,h_copied,F_copied.kp,(F_copied.bindsN fun _ _ _ _ _ _ us hl=>match us,hl with | [_],_=>rfl)⟩
 have O_Paper___init__:=jNF (P:=Pg) (w:=w) (base:=base) (B:=BkT w K) rfl rfl g κ F_Paper___init__  (N_renewed.mono (by decide))
 have O_Kept___init__:=jOD (P:=Pg) (w:=w) (base:=base) (B:=BkT w K) rfl rfl g κ S_Kept___init__ (N_copied.mono (by decide)) ⟨_,_,_,yFM (c.fact 96 (f:=(fun K _=>jZU K (He.ga K "Kept") (He.ma K (He.ga K "Paper") "__init__"))) rfl),O_Paper___init__.mono (by decide),(F_Paper___init__.bindsN fun _ _ _ _ _ _ us hl=>match us,hl with | [_,_,_],_=>rfl)⟩
 have NM_Kept_3_:MkA Pg w K mg base (BkT w K) 8 "Kept" vK 3 [] [0,1,2,3] [] 4 yR:=⟨7,by decide,MkC.of (He.mkr_ok (c.fact 84 (f:=(fun K _=>(He.Fa.mkr "Kept").ok K)) rfl)) O_Kept___init__ κ.n_Kept (yOO (B:=BkT w K) (ps:=["self", "way", "wish", "stands"]) D_Kept___init__ 4 [] [0,1,2,3] fun _ _ _ _ _ us ws l1 l2=>match us,ws,l1,l2 with | [_,_,_,_],[],_,_=>rfl)⟩
 have O_Kept_holds:=jSM (P:=Pg) (w:=w) (base:=base) (B:=BkT w K) rfl rfl g κ F_Kept_holds  (N_is_wish.mono (by decide)) (N_is_stand.mono (by decide)) (N_first_stand.mono (by decide)) (N_steps_from.mono (by decide))
 have NE_Kept_holds_0_:MeA Pg w K mg base (BkT w K) 6 vK "holds" 0 [] [0] [] 1 yZ:=Me.of (He.meth_ok (c.fact 85 (f:=(fun K _=>(He.Fa.meth "Kept" "holds").ok K)) rfl)) O_Kept_holds (yDR (B:=BkT w K) (ps:=["self"]) F_Kept_holds 1 [] [0] fun _ _ _ _ _ _ us ws l1 l2=>match us,ws,l1,l2 with | [_],[],_,_=>rfl)
 have O__law_open:=jVE (P:=Pg) (w:=w) (base:=base) (B:=BkT w K) rfl rfl g κ F__law_open  
 have N__law_open:Fn Pg w K mg base (BkT w K) 1 "_law_open" 1 jAM:=⟨_,_,_,O__law_open,h__law_open,F__law_open.kp,(F__law_open.bindsN fun _ _ _ _ _ _ us hl=>match us,hl with | [_],_=>rfl)⟩
 have O__law_draw:=jVG (P:=Pg) (w:=w) (base:=base) (B:=BkT w K) rfl rfl g κ F__law_draw  
 have N__law_draw:Fn Pg w K mg base (BkT w K) 1 "_law_draw" 2 yQ:=⟨_,_,_,O__law_draw,h__law_draw,F__law_draw.kp,(F__law_draw.bindsN fun _ _ _ _ _ _ us hl=>match us,hl with | [_,_],_=>rfl)⟩
 have O__law_of:=jZL (P:=Pg) (w:=w) (base:=base) (B:=BkT w K) rfl rfl g κ F__law_of  (N__law_draw.mono (by decide))
 have N__law_of:Fn Pg w K mg base (BkT w K) 2 "_law_of" 2 uQ:=⟨_,_,_,O__law_of,h__law_of,F__law_of.kp,(F__law_of.bindsN fun _ _ _ _ _ _ us hl=>match us,hl with | [_,_],_=>rfl)⟩
 have O__law_like:=jVF (P:=Pg) (w:=w) (base:=base) (B:=BkT w K) rfl rfl g κ F__law_like h__law_like 
 have N__law_like:Fn Pg w K mg base (BkT w K) 9 "_law_like" 2 kW:=⟨_,_,_,O__law_like,h__law_like,F__law_like.kp,(F__law_like.bindsN fun _ _ _ _ _ _ us hl=>match us,hl with | [_,_],_=>rfl)⟩
 have O__law_some_spec:=jNE (P:=Pg) (w:=w) (base:=base) (B:=BkT w K) rfl rfl g κ F__law_some_spec  (N__law_of.mono (by decide)) (N__law_draw.mono (by decide))
 have N__law_some_spec:Fn Pg w K mg base (BkT w K) 3 "_law_some_spec" 1 uV:=⟨_,_,_,O__law_some_spec,h__law_some_spec,F__law_some_spec.kp,(F__law_some_spec.bindsN fun _ _ _ _ _ _ us hl=>match us,hl with | [_],_=>rfl)⟩
 have O__law_way:=jXR (P:=Pg) (w:=w) (base:=base) (B:=BkT w K) rfl rfl g κ F__law_way  (NM_Way_2_stretches_hidden_lock.mono (by decide))
 have N__law_way:Fn Pg w K mg base (BkT w K) 5 "_law_way" 1 jBJ:=⟨_,_,_,O__law_way,h__law_way,F__law_way.kp,(F__law_way.bindsN fun _ _ _ _ _ _ us hl=>match us,hl with | [_],_=>rfl)⟩
 have O__law_wishes:=jRP (P:=Pg) (w:=w) (base:=base) (B:=BkT w K) rfl rfl g κ F__law_wishes  
 have N__law_wishes:Fn Pg w K mg base (BkT w K) 1 "_law_wishes" 0 zE:=⟨_,_,_,O__law_wishes,h__law_wishes,F__law_wishes.kp,(F__law_wishes.bindsN fun _ _ _ _ _ _ us hl=>match us,hl with | [],_=>rfl)⟩
 have O__law_put:=jXS (P:=Pg) (w:=w) (base:=base) (B:=BkT w K) rfl rfl g κ F__law_put  
 have N__law_put:Fn Pg w K mg base (BkT w K) 1 "_law_put" 3 yN:=⟨_,_,_,O__law_put,h__law_put,F__law_put.kp,(F__law_put.bindsN fun _ _ _ _ _ _ us hl=>match us,hl with | [_,_,_],_=>rfl)⟩
 have O__law_number_taken:=jJU (P:=Pg) (w:=w) (base:=base) (B:=BkT w K) rfl rfl g κ F__law_number_taken  
 have N__law_number_taken:Fn Pg w K mg base (BkT w K) 1 "_law_number_taken" 3 vQ:=⟨_,_,_,O__law_number_taken,h__law_number_taken,F__law_number_taken.kp,(F__law_number_taken.bindsN fun _ _ _ _ _ _ us hl=>match us,hl with | [_,_,_],_=>rfl)⟩
 have O__law_drop_steps:=jLN (P:=Pg) (w:=w) (base:=base) (B:=BkT w K) rfl rfl g κ F__law_drop_steps  (N__law_put.mono (by decide))
 have N__law_drop_steps:Fn Pg w K mg base (BkT w K) 2 "_law_drop_steps" 3 qG:=⟨_,_,_,O__law_drop_steps,h__law_drop_steps,F__law_drop_steps.kp,(F__law_drop_steps.bindsN fun _ _ _ _ _ _ us hl=>match us,hl with | [_,_,_],_=>rfl)⟩
 have O__law_number_steps:=jJV (P:=Pg) (w:=w) (base:=base) (B:=BkT w K) rfl rfl g κ F__law_number_steps  (N__law_put.mono (by decide))
 have N__law_number_steps:Fn Pg w K mg base (BkT w K) 2 "_law_number_steps" 3 wL:=⟨_,_,_,O__law_number_steps,h__law_number_steps,F__law_number_steps.kp,(F__law_number_steps.bindsN fun _ _ _ _ _ _ us hl=>match us,hl with | [_,_,_],_=>rfl)⟩
 have O__law_landed_steps:=jJW (P:=Pg) (w:=w) (base:=base) (B:=BkT w K) rfl rfl g κ F__law_landed_steps  (N__law_put.mono (by decide)) (N__law_number_taken.mono (by decide))
 have N__law_landed_steps:Fn Pg w K mg base (BkT w K) 2 "_law_landed_steps" 2 wM:=⟨_,_,_,O__law_landed_steps,h__law_landed_steps,F__law_landed_steps.kp,(F__law_landed_steps.bindsN fun _ _ _ _ _ _ us hl=>match us,hl with | [_,_],_=>rfl)⟩
 have O__law_return_steps:=jJT (P:=Pg) (w:=w) (base:=base) (B:=BkT w K) rfl rfl g κ F__law_return_steps  (N__law_put.mono (by decide)) (N__law_number_taken.mono (by decide))
 have N__law_return_steps:Fn Pg w K mg base (BkT w K) 2 "_law_return_steps" 2 wJ:=⟨_,_,_,O__law_return_steps,h__law_return_steps,F__law_return_steps.kp,(F__law_return_steps.bindsN fun _ _ _ _ _ _ us hl=>match us,hl with | [_,_],_=>rfl)⟩
 have O__law_steps:=jSK (P:=Pg) (w:=w) (base:=base) (B:=BkT w K) rfl rfl g κ F__law_steps  (N__law_drop_steps.mono (by decide)) (N__law_landed_steps.mono (by decide)) (N__law_return_steps.mono (by decide)) (N__law_number_steps.mono (by decide))
 have N__law_steps:Fn Pg w K mg base (BkT w K) 3 "_law_steps" 3 zJ:=⟨_,_,_,O__law_steps,h__law_steps,F__law_steps.kp,(F__law_steps.bindsN fun _ _ _ _ _ _ us hl=>match us,hl with | [_,_,_],_=>rfl)⟩
 have O__law_first:=jSL (P:=Pg) (w:=w) (base:=base) (B:=BkT w K) rfl rfl g κ F__law_first  (N__law_wishes.mono (by decide))
 have N__law_first:Fn Pg w K mg base (BkT w K) 2 "_law_first" 1 yU:=⟨_,_,_,O__law_first,h__law_first,F__law_first.kp,(F__law_first.bindsN fun _ _ _ _ _ _ us hl=>match us,hl with | [_],_=>rfl)⟩
 have O__law_reached:=jPJ (P:=Pg) (w:=w) (base:=base) (B:=BkT w K) rfl rfl g κ F__law_reached  (N__law_first.mono (by decide)) (N__law_steps.mono (by decide))
 have N__law_reached:Fn Pg w K mg base (BkT w K) 4 "_law_reached" 2 wH:=⟨_,_,_,O__law_reached,h__law_reached,F__law_reached.kp,(F__law_reached.bindsN fun _ _ _ _ _ _ us hl=>match us,hl with | [_,_],_=>rfl)⟩
 have O__law_some_stand:=jLM (P:=Pg) (w:=w) (base:=base) (B:=BkT w K) rfl rfl g κ F__law_some_stand  (N__law_first.mono (by decide)) (N__law_draw.mono (by decide))
 have N__law_some_stand:Fn Pg w K mg base (BkT w K) 3 "_law_some_stand" 2 uA:=⟨_,_,_,O__law_some_stand,h__law_some_stand,F__law_some_stand.kp,(F__law_some_stand.bindsN fun _ _ _ _ _ _ us hl=>match us,hl with | [_,_],_=>rfl)⟩
 have O__law_table_due:=jND (P:=Pg) (w:=w) (base:=base) (B:=BkT w K) rfl rfl g κ F__law_table_due  (N__law_first.mono (by decide)) (N__law_steps.mono (by decide))
 have N__law_table_due:Fn Pg w K mg base (BkT w K) 4 "_law_table_due" 3 uU:=⟨_,_,_,O__law_table_due,h__law_table_due,F__law_table_due.kp,(F__law_table_due.bindsN fun _ _ _ _ _ _ us hl=>match us,hl with | [_,_,_],_=>rfl)⟩
 have O_law:=yXH (P:=Pg) (w:=w) (base:=base) (B:=BkT w K) rfl rfl g κ F_law  (N__law_open.mono (by decide)) (N__law_some_spec.mono (by decide)) (N__law_way.mono (by decide)) (N__law_wishes.mono (by decide)) (N__law_reached.mono (by decide)) (N__law_draw.mono (by decide)) (N__law_first.mono (by decide)) (N__law_some_stand.mono (by decide)) (N__law_table_due.mono (by decide)) (N__law_like.mono (by decide)) (N__law_of.mono (by decide)) (NM_Kept_3_.mono (by decide)) (NE_Kept_holds_0_.mono (by decide))
 exact O_law
theorem yYL (w:World) (K:PySem.W.Frag) (T:List Addr) (c:SaysL faT fnT tsT w K T):∀ p∈lsT,yHY K T (p.1 K)=true:=fun p hp=>by
 unfold lsT at hp
 cases hp
end LW
set_option maxHeartbeats 4000000
namespace Lp
open PySem PySem.Spec PyProof.Rows L2
abbrev twC (p:Program):TablesWhole.Ctx:=⟨p.main.scope,[],TablesWhole.wSs TablesWhole.gather p.main.scope ⟨p.main.scope,[],[],[],none⟩ p.main.scope p.main.body,[],none⟩
abbrev twP (p:Program) (l:List Stmt):Bool:=TablesWhole.wSs TablesWhole.holds p.main.scope (twC p) p.main.scope l
theorem jTX {p:Program}:∀ {a b:List Stmt},twP p a=true→twP p b=true→twP p (a++b)=true
 | [],_,_,h=>h
 | s :: a,b,h,k=>by
  have h:(TablesWhole.wS TablesWhole.holds p.main.scope (twC p) p.main.scope s&&twP p a)=true:=h
  obtain ⟨h1,h2⟩:=Bool.and_eq_true_iff.mp h
  show (TablesWhole.wS TablesWhole.holds p.main.scope (twC p) p.main.scope s&&twP p (a++b))=true
  rw [h1,jTX h2 k]; rfl
theorem yYK {p:Program} (n m k:Nat) (h1:p.modules=[]) (h2:p.parses=[]) (h3:p.harvested=[]) (hn:TablesWhole.noTwice p.main.scope=true) (a:twP p (p.main.body.take n)=true) (b:twP p ((p.main.body.drop n).take m)=true) (c:twP p (((p.main.body.drop n).drop m).take k)=true) (d:twP p (((p.main.body.drop n).drop m).drop k)=true):p.tablesWhole=true:=by
 have e:twP p p.main.body=true:=by
  have:=jTX a (jTX b (jTX c d))
  rwa [List.take_append_drop,List.take_append_drop,List.take_append_drop] at this
 unfold Program.tablesWhole TablesWhole.wProgram
 rw [h1,h2,h3]
 show (TablesWhole.wModule TablesWhole.holds p.main&&(true&&(true&&(true&&true))))=true
 rw [Bool.and_true,Bool.and_true,Bool.and_true,Bool.and_true]
 show (true&&(TablesWhole.noTwice p.main.scope&&(twP p p.main.body&&true)))=true
 rw [hn,e]; rfl
end Lp
set_option maxHeartbeats 0
namespace LW
open PySem PySem.W PySem.Calls PyProof.Rows
theorem eT1:opening (OpenLaw.row PySem.Challenge.rw_latedrops_k28_whole_tables_of_stands_jud).prog=plainProg (OpenLaw.row PySem.Challenge.rw_latedrops_k28_whole_tables_of_stands_jud).prog.main.scope.names:=by kernel_rfl
theorem eT2 (s:Shared):fenceModules? (OpenLaw.row PySem.Challenge.rw_latedrops_k28_whole_tables_of_stands_jud).prog s=some s:=by kernel_rfl
theorem eT3:defOf (view (OpenLaw.row PySem.Challenge.rw_latedrops_k28_whole_tables_of_stands_jud).prog [50]) (OpenLaw.row PySem.Challenge.rw_latedrops_k28_whole_tables_of_stands_jud).name=some (HandSHeadRun.topDef (OpenLaw.row PySem.Challenge.rw_latedrops_k28_whole_tables_of_stands_jud).prog 50,[]):=by kernel_rfl
theorem eT4:(OpenLaw.row PySem.Challenge.rw_latedrops_k28_whole_tables_of_stands_jud).prog.theDef (OpenLaw.row PySem.Challenge.rw_latedrops_k28_whole_tables_of_stands_jud).name=some ((HandSHeadRun.topDef (OpenLaw.row PySem.Challenge.rw_latedrops_k28_whole_tables_of_stands_jud).prog 50).params,(HandSHeadRun.topDef (OpenLaw.row PySem.Challenge.rw_latedrops_k28_whole_tables_of_stands_jud).prog 50).body,(HandSHeadRun.topDef (OpenLaw.row PySem.Challenge.rw_latedrops_k28_whole_tables_of_stands_jud).prog 50).scope):=by kernel_rfl
theorem eT5:kwWritten? (HandSHeadRun.topDef (OpenLaw.row PySem.Challenge.rw_latedrops_k28_whole_tables_of_stands_jud).prog 50).params.kwonlyargs (HandSHeadRun.topDef (OpenLaw.row PySem.Challenge.rw_latedrops_k28_whole_tables_of_stands_jud).prog 50).params.kw_defaults=some []:=by kernel_rfl
theorem eT6:(chainsOk (view (OpenLaw.row PySem.Challenge.rw_latedrops_k28_whole_tables_of_stands_jud).prog [50])&&opensWell (OpenLaw.row PySem.Challenge.rw_latedrops_k28_whole_tables_of_stands_jud).prog&&(frees (OpenLaw.row PySem.Challenge.rw_latedrops_k28_whole_tables_of_stands_jud).toRowW&&(OpenLaw.row PySem.Challenge.rw_latedrops_k28_whole_tables_of_stands_jud).within.isEmpty))=true:=by decide +kernel
theorem eT7:(HandSHeadRun.topDef (OpenLaw.row PySem.Challenge.rw_latedrops_k28_whole_tables_of_stands_jud).prog 50).name=("law" : PySem.Str):=by kernel_rfl
theorem eT8:TablesWhole.noTwice (OpenLaw.row PySem.Challenge.rw_latedrops_k28_whole_tables_of_stands_jud).prog.main.scope=true:=by kernel_rfl
theorem eTA:Lp.twP (OpenLaw.row PySem.Challenge.rw_latedrops_k28_whole_tables_of_stands_jud).prog ((OpenLaw.row PySem.Challenge.rw_latedrops_k28_whole_tables_of_stands_jud).prog.main.body.take 20)=true:=by kernel_rfl
theorem eTB:Lp.twP (OpenLaw.row PySem.Challenge.rw_latedrops_k28_whole_tables_of_stands_jud).prog (((OpenLaw.row PySem.Challenge.rw_latedrops_k28_whole_tables_of_stands_jud).prog.main.body.drop 20).take 10)=true:=by kernel_rfl
theorem eTC:Lp.twP (OpenLaw.row PySem.Challenge.rw_latedrops_k28_whole_tables_of_stands_jud).prog ((((OpenLaw.row PySem.Challenge.rw_latedrops_k28_whole_tables_of_stands_jud).prog.main.body.drop 20).drop 10).take 13)=true:=by kernel_rfl
theorem eTD:Lp.twP (OpenLaw.row PySem.Challenge.rw_latedrops_k28_whole_tables_of_stands_jud).prog ((((OpenLaw.row PySem.Challenge.rw_latedrops_k28_whole_tables_of_stands_jud).prog.main.body.drop 20).drop 10).drop 13)=true:=by kernel_rfl
end LW
namespace LW
open PySem PySem.Spec PyProof.Rows L2 Lp
abbrev LwLaw:Prop:=∀ ns:List Int,ns.length≤63→(∀ z∈ns,Builtin.Int.intBits z≤1048576)→∃ h',jOM [.scr (ns.map .int)] []=.ok (.bl true) h'
end LW
namespace LW
open PySem PySem.W PySem.Calls PyProof.Rows
theorem yZI (hlaw:LwLaw):PySem.Challenge.rw_latedrops_k28_whole_tables_of_stands_jud.Holds:=by
 w_on; o_law
 refine HandSHeadRun.head_any (r:=OpenLaw.row PySem.Challenge.rw_latedrops_k28_whole_tables_of_stands_jud) (q:=view (OpenLaw.row PySem.Challenge.rw_latedrops_k28_whole_tables_of_stands_jud).prog [50]) (H:=LW.hkT) (ob:=LW.obT) (M:=8000) (loose:=LW.jNM) (d:=HandSHeadRun.topDef (OpenLaw.row PySem.Challenge.rw_latedrops_k28_whole_tables_of_stands_jud).prog 50) (kwd:=[]) LW.yWV
  LW.eT1 LW.eT2 LW.yZU LW.eT3 LW.eT4 LW.eT5 (by rfl) (by first | assumption | decide +kernel) LW.eT6 ⟨rfl,rfl,rfl,rfl,rfl,Lp.yYK 20 10 13 rfl rfl rfl LW.eT8 LW.eTA LW.eTB LW.eTC LW.eTD⟩ ?hw ?hc
 case hw=>w_witness2
 case hc =>
  refine Lp.yYJ (l:=PySem.Challenge.rw_latedrops_k28_whole_tables_of_stands_jud) (n:=63) (k:=10) (x := "_law_script") (B:=LW.BkT) (m:=LW.jOM) (fa:=LW.faT) (fn:=LW.fnT) (ts:=LW.tsT) (ls:=LW.lsT) rfl (by decide) (by kernel_rfl) ⟨rfl,by decide,by decide⟩ (fun _ _ y=>y) (fun _ _=>rfl) (fun _ _=>rfl) LW.yYL ?F hlaw
  intro w mg fa h K T KX G hmg0 c
  have hmg:mg ("law" : PySem.Str)=some (.ref fa):=by
   have e:(HandSHeadRun.topDef (OpenLaw.row PySem.Challenge.rw_latedrops_k28_whole_tables_of_stands_jud).prog 50).name=("law" : PySem.Str):=LW.eT7
   rw [← e]
   exact hmg0
  exact LW.yXI (w:=w) KX G hmg c
end LW
set_option maxHeartbeats 4000000
local macro_rules | `(tactic| walk_at "p1")=>`(tactic| (first | ((with_reducible apply Lp.jU); (exact rfl)) | with_reducible refine Lp.p_c ?_ | with_reducible refine Lp.uE ?_ | with_reducible refine Lp.jP ?_ | with_reducible refine Lp.yE ?_ | with_reducible refine Lp.uD ?_ | with_reducible refine Lp.wV ?_ | with_reducible refine Lp.wZ ?_ | with_reducible refine Lp.kE ?_ | with_reducible refine Lp.jCT ?_ | with_reducible refine Lp.jBY ?_ | with_reducible refine Lp.jBP ?_ | with_reducible refine Lp.qO ?_ | with_reducible refine Lp.qI ?_ | with_reducible refine Lp.uG ?_ | with_reducible refine Lp.zR ?_ | with_reducible refine Lp.qN ?_ | with_reducible refine Lp.jBT ?_ | with_reducible refine Lp.qM ?_ | with_reducible refine Lp.jBU ?_ | with_reducible refine Lp.jAA ?_ | with_reducible refine Lp.zK ?_ | with_reducible refine Lp.yX ?_ | with_reducible refine Lp.zU ?_ | with_reducible refine Lp.qK ?_ | with_reducible refine Lp.jCU ?_ | with_reducible refine Lp.vU ?_ | with_reducible refine Lp.vW ?_ | with_reducible refine Lp.zB ?_ | with_reducible refine Lp.zQ ?_ | with_reducible refine Lp.qL ?_ | with_reducible refine Lp.jBS ?_ | with_reducible refine Lp.jCK ?_ | refine ⟨⟨⟨rfl,rfl⟩,rfl,rfl⟩,⟨rfl,rfl⟩,?_⟩ | refine Lp.zV rfl ?_ | refine Lp.zA rfl ?_ | refine ⟨_,rfl,?_⟩ | refine ⟨⟨rfl,rfl⟩,?_⟩ | refine ⟨⟨rfl,Nat.le_of_ble_eq_true rfl⟩,?_⟩ | (refine ⟨_,_,rfl,⟨rfl,rfl⟩,?_⟩; try dsimp only [Lp.jM,List.set_cons_succ,List.set_cons_zero]) | (refine ⟨rfl,?_⟩; try dsimp only [Lp.jM,List.set_cons_succ,List.set_cons_zero])))
namespace LW
open PySem PySem.Spec PyProof.Rows L2 Lp
section
theorem jPV:yQ=jLV:=by unfold yQ jLV; rfl
theorem of_eq:uQ=ofM:=by
 unfold uQ ofM jLF
 rw [jPV]; rfl
theorem like_eq:kW=jVY 8:=by
 unfold kW jVY
 rfl
theorem open_spec {ns:List Int} (h63:ns.length≤63):(jAM [.scr (ns.map .int)] []).post (fun v h'=>v=.cel 0∧BagAt [none] 0 h') NE:=by
 unfold jAM
 rw [jVB]
 unfold jMR
 refine jCX [some (.scr (ns.map .int))] rfl (kE (yYX (yEN ?_)))
 (repeat walk_at "p1")
 have e:jGS (ns.map PV.int) none (some 63)=ns.map PV.int:=by
  unfold jGS
  have e2:HT.sIx (ns.map PV.int).length (ns.map PV.int).length (some 63)=(ns.map PV.int).length:=by
   unfold HT.sIx
   simp only [List.length_map]
   split <;> omega
  rw [e2]
  have e1:HT.sIx (ns.map PV.int).length 0 none=0:=rfl
  rw [e1,List.drop_zero,Nat.sub_zero,List.take_length]
 exact ⟨_,⟨ns,0,0,100201,0,by rw [e],by decide,by decide,by decide,by decide⟩,rfl⟩
theorem jRB {cs:List Nat} {n:Nat} {h:AH} (t:TabC cs n) (hn:n=8∨n=4):(jBI [.str (mkS cs),.int n] h).post (fun r h'=>r=.bl true∧h'=h) NE:=by
 obtain ⟨hl,hh,ht⟩:=t
 have h0:atI cs 0=some 116:=jUO (i:=0) (by rw [← List.head?_eq_getElem?]; exact hh)
 have e0:fIx h (.str (mkS cs)) (.int 0)=some (.str ⟨#[116]⟩):=by rw [yBE,yOM,h0]; rfl
 have el:jEG h [.str (mkS cs)]=some (.int (n:Nat)):=by
  show some (PV.int ((mkS cs).length:Nat))=_
  rw [jMF,hl]
 unfold jBI
 rw [jXG]
 unfold jOO
 refine jCX [some (.str (mkS cs)),some (.int n),none] rfl ?_
 (repeat (first | walk_at "p1" | refine ⟨_,yZK trivial rfl,?_⟩ | refine ⟨_,el,?_⟩))
 refine zA (by show (!PyData.eqv (.int ((mkS cs).length:Nat)) (.int (n:Nat)))=false; rw [jMF,hl,jPU,decide_eq_true rfl]; rfl) ?_
 (repeat (first | walk_at "p1" | refine ⟨_,e0,?_⟩))
 refine jEK (jCY (jU rfl ⟨_,rfl,rfl,fun _=>.bl true,fun v hv=>?_,?_⟩))
 ·obtain ⟨c,hc,rfl⟩:=List.mem_map.mp hv
  refine ⟨_,rfl,?_⟩
  refine yYV (jU rfl ⟨_,rfl,?_⟩)
  rcases ht c hc with rfl | rfl | rfl
  ·exact ⟨congrArg PV.bl (by decide +kernel),rfl,rfl,rfl⟩
  ·exact ⟨congrArg PV.bl (by decide +kernel),rfl,rfl,rfl⟩
  ·exact ⟨congrArg PV.bl (by decide +kernel),rfl,rfl,rfl⟩
 (repeat (first | walk_at "p1" | refine ⟨_,jMQ _,?_⟩))
def jFC (p:SpecW):PV:=.ins vJ p.fs
theorem yCP {p:SpecW} {h:AH} (k:p.Ok):(zH [.cel h.length,.str (mkS p.d),.str (mkS p.n),.bl p.s,.bl p.h,.str p.l] (h++[some (.ins vJ [])])).post (fun v h2=>v=.non∧h2=h++[some (.ins vJ p.fs)]) NE:=by
 unfold zH
 rw [jOX]
 unfold jIL
 refine jCX [some (.cel h.length),some (.str (mkS p.d)),some (.str (mkS p.n)),some (.bl p.s),some (.bl p.h),some (.str p.l),none,none,none] rfl ?_
 refine uD (jQD (jCY ?_))
 (repeat walk_at "p1")
 refine ⟨by show 2≤sizeLine; decide,yAV ⟨_,rfl,?_⟩⟩
 (repeat walk_at "p1")
 refine uF (jRB k.d (.inl rfl)) fun r h' z=>?_
 obtain ⟨rfl,rfl⟩:=z
 (repeat walk_at "p1")
 refine uF (jRB k.n (.inr rfl)) fun r h' z=>?_
 obtain ⟨rfl,rfl⟩:=z
 (repeat walk_at "p1")
 refine jQD (jCY ?_)
 (repeat walk_at "p1")
 refine ⟨by show 2≤sizeLine; decide,yAV ⟨_,rfl,?_⟩⟩
 (repeat walk_at "p1")
 refine zA (by rcases k.l with e | e | e <;> rw [e] <;> rfl) ?_
 (repeat walk_at "p1")
 refine yEO ?_
 (repeat walk_at "p1")
 refine jVX rfl jMK rfl ?_
 rw [jMJ]
 refine jVX rfl jMK rfl ?_
 rw [jMJ]
 refine jTF ?_
 refine yEO ?_
 (repeat walk_at "p1")
 refine jVX rfl jMK rfl ?_
 rw [jMJ]
 refine jVX rfl jMK rfl ?_
 rw [jMJ]
 refine jVX rfl jMK rfl ?_
 rw [jMJ]
 exact jTF ⟨rfl,rfl⟩
theorem yOQ {p:SpecW} {h:AH} {E:PV→AH→Prop} {P:PV→Prop} (k:p.Ok) (q:P (jFC p)):(zH [.cel h.length,.str (mkS p.d),.str (mkS p.n),.bl p.s,.bl p.h,.str p.l] (h++[some (.ins vJ [])])).post (fun v h2=>v=.non∧∃ gs,h2=h++[some (.ins vJ gs)]∧celsB h.length gs=true∧P (.ins vJ gs)) E :=
 uF (yCP k) fun v h2 ⟨e1,e2⟩=>⟨e1,p.fs,e2,rfl,q⟩
theorem yFI {p:SpecW} {h:AH} (k:p.Ok):(jBJ [p.v] h).post (fun v h'=>v=jFC p∧h'=h) NE:=by
 unfold jBJ
 rw [jXH]
 unfold jOP
 refine jCX [some p.v] rfl (kE (yPQ ?_))
 (repeat walk_at "p1")
 refine yOQ (P:=fun v=>isOwn v=false∧v=jFC p∧h=h) k ⟨rfl,rfl,rfl⟩
theorem jMV {h h1:AH} {n:Nat} {sl:Nat} {e0:List (Option PV)} {k:Nat} (hn:n < h.length) (b:BagAt h n h1) (hk:k≤1000) (hb:(jM e0 [sl])[0]?=some (some (.cel n))) (hb2:∀ v,((jM e0 [sl]).set sl (some v))[0]?=some (some (.cel n))) (hw:∀ v,jM ((jM e0 [sl]).set sl v) [sl]=jM e0 [sl]) :
  (wW (jKY (jE (xEC (.int k)) jR)) (.n sl) wN (vI 2 ofM (jE (jK 0) (jE (xEC (.str "ttrm")) jR))) [sl] ⟨e0,h1⟩).post (fun xs s'=>(∃ cs:List Nat,cs.length=k∧(∀ c∈cs,TrC c)∧xs=cs.map fun c=>.str (mkS [c]))∧s'.e=jM e0 [sl]∧BagAt h n s'.h) NE:=by
 refine jPS (jYK (jP (p_c (yE ⟨_,rfl,by omega,rfl,fun j acc hh=>(∃ cs:List Nat,cs.length=j∧(∀ c∈cs,TrC c)∧acc=cs.map fun c=>PV.str (mkS [c]))∧BagAt h n hh,⟨⟨[],rfl,fun c hc=>(nomatch hc),rfl⟩,b⟩,fun j v acc hh e i=>?_,fun acc hh i=>?_⟩))))
 ·obtain ⟨q,_,rfl⟩:=List.mem_map.mp (List.mem_of_getElem? e)
  obtain ⟨⟨cs,hl,hc,rfl⟩,bb⟩:=i
  refine ⟨_,rfl,jTR (zV rfl ?_)⟩
  refine yX (jP (jU (hb2 _) (jP (p_c (yE ⟨⟨rfl,rfl⟩,uF (yWT hn bb (by decide) (by decide)) fun v h' z=>?_⟩)))))
  obtain ⟨⟨c,hc1,rfl⟩,b2⟩:=z
  refine ⟨rfl,hw _,⟨cs++[c],by rw [List.length_append,hl]; rfl,fun d hd=>?_,by rw [List.map_append]; rfl⟩,b2⟩
  rcases List.mem_append.mp hd with hd | hd
  ·exact hc d hd
  ·simp only [List.mem_singleton] at hd
   subst hd
   have hc1:d∈[116,116,114,109]:=hc1
   simp only [List.mem_cons,List.not_mem_nil,or_false] at hc1
   rcases hc1 with rfl | rfl | rfl | rfl
   ·exact .inl rfl
   ·exact .inl rfl
   ·exact .inr (.inl rfl)
   ·exact .inr (.inr rfl)
 ·obtain ⟨⟨cs,hl,hc,rfl⟩,bb⟩:=i
  exact ⟨⟨cs,by rw [hl]; simp,hc,rfl⟩,rfl,bb⟩
theorem jWZ {h:AH} {cs:List Nat} {k:Nat} (hl:cs.length=k) (hk:k≤1000) (hc:∀ c∈cs,TrC c):jON h "" [.lst (cs.map fun c=>.str (mkS [c]))]=some (.str (mkS cs)) :=
 jZI (by omega) fun c hc'=>by rcases hc c hc' with rfl | rfl | rfl <;> decide
theorem yPL {h:AH} {cs:List Nat} {k:Nat} (hl:cs.length=k) (hk:k≤1000):uB h (.str "t") (.str (mkS cs))=some (.str (mkS (116 :: cs))):=yOT (a:=[116]) (by show 1+cs.length≤sizeLine; have:=(show 1001≤sizeLine by decide); omega)
theorem yBX {h h1:AH} {n:Nat} (hn:n < h.length) (b:BagAt h n h1):(uV [.cel n] h1).post (fun v h'=>(∃ p:SpecW,p.Ok∧v=p.v)∧BagAt h n h') NE:=by
 unfold uV
 rw [jMY]
 unfold jGP
 rw [jPV,of_eq]
 refine jCX [some (.cel n),none,none,none] rfl ?_
 refine uD (wV (uE (p_c (yYB (p_c ⟨_,rfl,jP (jCK ?_)⟩)))))
 refine uF (jMV hn b (by decide) rfl (fun _=>rfl) (fun _=>rfl)) fun xs s' z=>?_
 obtain ⟨⟨cs,hl,hc,rfl⟩,he,b1⟩:=z
 obtain ⟨e1,h2⟩:=s'
 simp only at he b1
 subst he
 refine yE ⟨_,jWZ hl (by decide) hc,_,yPL hl (by decide),rfl,?_⟩
 dsimp only [jM,List.set_cons_succ,List.set_cons_zero]
 refine uD (wV (uE (p_c (yYB (p_c ⟨_,rfl,jP (jCK ?_)⟩)))))
 refine uF (jMV hn b1 (by decide) rfl (fun _=>rfl) (fun _=>rfl)) fun xs s' z=>?_
 obtain ⟨⟨ds,kl,kc,rfl⟩,he,b2⟩:=z
 obtain ⟨e1,h3⟩:=s'
 simp only at he b2
 subst he
 refine yE ⟨_,jWZ kl (by decide) kc,_,yPL kl (by decide),rfl,?_⟩
 dsimp only [jM,List.set_cons_succ,List.set_cons_zero]
 (repeat walk_at "p1")
 refine uF (jHT hn b2 (by decide) (by decide)) fun v h' z=>?_
 obtain ⟨⟨d,rfl,d0,d4⟩,b3⟩:=z
 (repeat walk_at "p1")
 refine uF (jHT hn b3 (by decide) (by decide)) fun v h' z=>?_
 obtain ⟨⟨d',rfl,d0',d4'⟩,b4⟩:=z
 (repeat walk_at "p1")
 refine uF (jYM hn b4 (by decide) (by decide) rfl) fun v h' z=>?_
 obtain ⟨hv,b5⟩:=z
 have hL:∃ l:Str,v=.str l∧LockS l:=by
  simp only [List.mem_cons,List.not_mem_nil,or_false] at hv
  rcases hv with rfl | rfl | rfl | rfl
  ·exact ⟨_,rfl,.inl rfl⟩
  ·exact ⟨_,rfl,.inl rfl⟩
  ·exact ⟨_,rfl,.inr (.inl rfl)⟩
  ·exact ⟨_,rfl,.inr (.inr rfl)⟩
 obtain ⟨l,rfl,hl'⟩:=hL
 (repeat walk_at "p1")
 refine ⟨⟨⟨116 :: cs,116 :: ds,decide (d > 0),PyData.eqv (.int d') (.int 0),l⟩,⟨⟨by rw [List.length_cons,hl],rfl,?_⟩,⟨by rw [List.length_cons,kl],rfl,?_⟩,hl'⟩,rfl⟩,b5⟩
 ·intro c hc'
  rcases List.mem_cons.mp hc' with rfl | hc'
  ·exact .inl rfl
  ·exact hc c hc'
 ·intro c hc'
  rcases List.mem_cons.mp hc' with rfl | hc'
  ·exact .inl rfl
  ·exact kc c hc'
end
end LW
set_option maxHeartbeats 4000000
namespace LW
open PySem PySem.Spec PyProof.Rows L2 Lp
def brok:PV:=.tup [.str "broken"]
def b1N (b:Bool):Nat:=if b then 1 else 0
def bt (b0 b1 b2 b3 x y:Bool):Bool:=if x then (if y then b3 else b2) else (if y then b1 else b0)
def lkN (l:Str):Nat:=if l = "none" then 0 else if l = "one" then 1 else 2
def tb (k i:Nat):Bool:=k / 2 ^ i % 2 == 1
def stP (w:Nat):Nat→PV
 | 0=>brok
 | k+1=>match w with
  | 1=>.tup [.bl (tb k 4),.bl (tb k 3),.bl (tb k 2),.bl (tb k 1),.bl (tb k 0)]
  | 2=>.tup [.bl (tb k 2),.bl (tb k 1),.bl (tb k 0)]
  | 3=>.tup [.int (k / 8:Nat),.bl (tb k 2),.bl (tb k 1),.bl (tb k 0)]
  | 5=>.tup [.bl (tb k 1),.bl (tb k 0)]
  | _=>.tup [.bl (tb k 3),.bl (tb k 2),.bl (tb k 1),.bl (tb k 0)]
def e5 (a b c d e:Bool):Nat:=1+16 * b1N a+8 * b1N b+4 * b1N c+2 * b1N d+b1N e
def e4 (a b c d:Bool):Nat:=e5 false a b c d
def eR (ph:Nat) (b c d:Bool):Nat:=1+8 * ph+4 * b1N b+2 * b1N c+b1N d
def jZZ (lands:Bool) (lk:Nat) (b:Bool) (e a q l:Bool):List (Str × Nat) :=
 (if lk == 2 then [] else [(("number" : Str),e4 true a q true),(("aside" : Str),e4 true a q l)])++[(("again" : Str),e4 e true q l),(("apart" : Str),e4 e a true l)]++(if (if lands then !q&&(l&&b) else !a&&b) then [(("answer" : Str),0)] else [])
def yPV (lk:Nat) (s:Bool) (b:Bool) (la kn el dr lo:Bool):List (Str × Nat) :=
 if la then (if lk == 0 then [(("number" : Str),e5 true kn true dr true)] else [])++(if lk == 2 then [] else [(("drop" : Str),e5 true kn el true lo)])++(if b&&(!kn||(lo&&s)) then [(("answer" : Str),0)] else [])
 else (if lk == 0 then [(("number" : Str),e5 false kn true dr lo)] else [])++(if lk == 2 then [] else [(("land" : Str),e5 true kn el true lo)])++[(("ahead" : Str),e5 true true false false false)]
def yEF (lk:Nat) (s:Bool) (b:Bool) (e d x:Bool):List (Str × Nat) :=
 (if lk == 0 then [(("number" : Str),e5 false false true d true)] else [])++(if lk == 2 then [] else [(("drop" : Str),e5 false false e true x)])++(if b&&(x&&s) then [(("answer" : Str),0)] else [])
def yPU (lk:Nat) (b:Bool) (e d:Bool):List (Str × Nat) :=
 (if lk == 0 then [(("number" : Str),e5 false false false true d)] else [])++(if lk == 2 then [] else [(("drop" : Str),e5 false false false e true)])++(if b then [(("answer" : Str),0)] else [])
def yXZ (lk:Nat) (s h:Bool) (b:Bool) (ph:Nat) (el dr lo:Bool):List (Str × Nat) :=
 (if ph == 1 then [(("back" : Str),if lo then 0 else eR 2 el (dr||lk != 2) lo)] else [(("strike" : Str),eR 1 el dr lo)])++[(("number" : Str),eR ph (el||lk == 0) dr (lo||(ph == 1&&!h)))]++(if lk == 2 then [] else [(("drop" : Str),eR ph el true lo)]) ++
  (if el&&(s&&b) then [(("late" : Str),if ph == 2 then 0 else eR ph el dr true)] else [])
def FW (w lk:Nat) (s h b1 b2 b3:Bool):Nat→List (Str × Nat)
 | 0=>[]
 | k+1=>(match w with
  | 0=>jZZ true lk (bt true b1 b2 b3 (tb k 3) (tb k 2)) (tb k 3) (tb k 2) (tb k 1) (tb k 0)
  | 1=>yPV lk s (bt true b1 b2 b3 (tb k 2) (tb k 1)) (tb k 4) (tb k 3) (tb k 2) (tb k 1) (tb k 0)
  | 2=>yEF lk s (bt true b1 b2 b3 (tb k 2) (tb k 1)) (tb k 2) (tb k 1) (tb k 0)
  | 3=>yXZ lk s h (bt true b1 b2 b3 (tb k 2) (tb k 1)) (k / 8) (tb k 2) (tb k 1) (tb k 0)
  | 4=>jZZ false lk (bt false b1 b2 b3 (tb k 3) (tb k 1)) (tb k 3) (tb k 2) (tb k 1) (tb k 0)
  | _=>yPU lk (bt false b1 b2 b3 (tb k 1) (tb k 0)) (tb k 1) (tb k 0)).filter fun x=>!Nat.beq x.2 (k+1)
def wF (w:Nat):Str:=match w with
 | 0 => "lands" | 1 => "stays" | 2 => "still" | 3 => "returns" | 4 => "heard" | _ => "numbered"
def yO (w:Nat):Nat:=match w with
 | 0=>17 | 1=>33 | 2=>9 | 3=>25 | 4=>17 | _=>5
def jOJ (w:Nat) (x:Str × Nat):PV:=.tup [.str x.1,stP w x.2]
def pw (w:Nat) (p:SpecW):Bool × Bool × Bool:=match w with
 | 0=>(Nat.beq (ltr p.d 2) 116,Nat.beq (ltr p.d 4) 116,Nat.beq (ltr p.d 6) 116)
 | 4=>(Nat.beq (ltr p.d 1) 114,Nat.beq (ltr p.d 4) 114,Nat.beq (ltr p.d 5) 114)
 | 5=>(Nat.beq (ltr p.n 1) 114,Nat.beq (ltr p.n 2) 114,Nat.beq (ltr p.n 3) 114)
 | _=>(Nat.beq (ltr p.n 1) 116,Nat.beq (ltr p.n 2) 116,Nat.beq (ltr p.n 3) 116)
def Fp (w:Nat) (p:SpecW):Nat→List (Str × Nat):=FW w (lkN p.l) p.s p.h (pw w p).1 (pw w p).2.1 (pw w p).2.2
def ProgS (w:Nat) (p:SpecW) (c:Nat):Prop:=∀ h:AH,jAN [jFC p,.str (wF w),stP w c] h=.ok (.lst ((Fp w p c).map (jOJ w))) h
def LawS (w:Nat) (p:SpecW) (c:Nat):Prop:=∀ h:AH,zJ [p.v,.str (wF w),stP w c] h=.ok (.lst ((Fp w p c).map (jOJ w))) h
theorem list8 {d:List Nat} (t:TabC d 8):∃ c1 c2 c3 c4 c5 c6 c7,d=[116,c1,c2,c3,c4,c5,c6,c7]∧TrC c1∧TrC c2∧TrC c3∧TrC c4∧TrC c5∧TrC c6∧TrC c7:=by
 obtain ⟨hl,hh,ht⟩:=t
 match d,hl,hh,ht with
 | [c0,c1,c2,c3,c4,c5,c6,c7],_,hh,ht =>
  cases hh
  exact ⟨c1,c2,c3,c4,c5,c6,c7,rfl,ht _ (by simp),ht _ (by simp),ht _ (by simp),ht _ (by simp),ht _ (by simp),ht _ (by simp),ht _ (by simp)⟩
theorem list4 {d:List Nat} (t:TabC d 4):∃ c1 c2 c3,d=[116,c1,c2,c3]∧TrC c1∧TrC c2∧TrC c3:=by
 obtain ⟨hl,hh,ht⟩:=t
 match d,hl,hh,ht with
 | [c0,c1,c2,c3],_,hh,ht =>
  cases hh
  exact ⟨c1,c2,c3,rfl,ht _ (by simp),ht _ (by simp),ht _ (by simp)⟩
section
variable {c1 c2 c3 c4 c5 c6 c7 n1 n2 n3:Nat} {s hh:Bool} {l:Str}
abbrev wy (c1 c2 c3 c4 c5 c6 c7 n1 n2 n3:Nat) (s hh:Bool) (l:Str):SpecW:=⟨[116,c1,c2,c3,c4,c5,c6,c7],[116,n1,n2,n3],s,hh,l⟩
theorem ySX  : ProgS 0 (wy c1 c2 c3 c4 c5 c6 c7 n1 n2 n3 s hh l) 0:=fun h=>by
 kernel_rfl
theorem yVB  : LawS 0 (wy c1 c2 c3 c4 c5 c6 c7 n1 n2 n3 s hh l) 0:=fun h=>by
 kernel_rfl
theorem ySW (kl:LockS l):ProgS 0 (wy c1 c2 c3 c4 c5 c6 c7 n1 n2 n3 s hh l) 1:=fun h=>by
 rcases kl with rfl | rfl | rfl <;> kernel_rfl
theorem yVA (kl:LockS l):LawS 0 (wy c1 c2 c3 c4 c5 c6 c7 n1 n2 n3 s hh l) 1:=fun h=>by
 rcases kl with rfl | rfl | rfl <;> kernel_rfl
theorem ySV (kl:LockS l):ProgS 0 (wy c1 c2 c3 c4 c5 c6 c7 n1 n2 n3 s hh l) 2:=fun h=>by
 rcases kl with rfl | rfl | rfl <;> kernel_rfl
theorem yUZ (kl:LockS l):LawS 0 (wy c1 c2 c3 c4 c5 c6 c7 n1 n2 n3 s hh l) 2:=fun h=>by
 rcases kl with rfl | rfl | rfl <;> kernel_rfl
theorem ySU (tc1:TrC c1) (kl:LockS l):ProgS 0 (wy c1 c2 c3 c4 c5 c6 c7 n1 n2 n3 s hh l) 3:=fun h=>by
 rcases tc1 with rfl | rfl | rfl <;> rcases kl with rfl | rfl | rfl <;> kernel_rfl
theorem yUY (tc1:TrC c1) (kl:LockS l):LawS 0 (wy c1 c2 c3 c4 c5 c6 c7 n1 n2 n3 s hh l) 3:=fun h=>by
 rcases tc1 with rfl | rfl | rfl <;> rcases kl with rfl | rfl | rfl <;> kernel_rfl
theorem yST (tc1:TrC c1) (kl:LockS l):ProgS 0 (wy c1 c2 c3 c4 c5 c6 c7 n1 n2 n3 s hh l) 4:=fun h=>by
 rcases tc1 with rfl | rfl | rfl <;> rcases kl with rfl | rfl | rfl <;> kernel_rfl
theorem yUX (tc1:TrC c1) (kl:LockS l):LawS 0 (wy c1 c2 c3 c4 c5 c6 c7 n1 n2 n3 s hh l) 4:=fun h=>by
 rcases tc1 with rfl | rfl | rfl <;> rcases kl with rfl | rfl | rfl <;> kernel_rfl
theorem ySS (tc2:TrC c2) (kl:LockS l):ProgS 0 (wy c1 c2 c3 c4 c5 c6 c7 n1 n2 n3 s hh l) 5:=fun h=>by
 rcases tc2 with rfl | rfl | rfl <;> rcases kl with rfl | rfl | rfl <;> kernel_rfl
theorem yUW (tc2:TrC c2) (kl:LockS l):LawS 0 (wy c1 c2 c3 c4 c5 c6 c7 n1 n2 n3 s hh l) 5:=fun h=>by
 rcases tc2 with rfl | rfl | rfl <;> rcases kl with rfl | rfl | rfl <;> kernel_rfl
theorem ySR (tc2:TrC c2) (kl:LockS l):ProgS 0 (wy c1 c2 c3 c4 c5 c6 c7 n1 n2 n3 s hh l) 6:=fun h=>by
 rcases tc2 with rfl | rfl | rfl <;> rcases kl with rfl | rfl | rfl <;> kernel_rfl
theorem yUV (tc2:TrC c2) (kl:LockS l):LawS 0 (wy c1 c2 c3 c4 c5 c6 c7 n1 n2 n3 s hh l) 6:=fun h=>by
 rcases tc2 with rfl | rfl | rfl <;> rcases kl with rfl | rfl | rfl <;> kernel_rfl
theorem ySQ (tc3:TrC c3) (kl:LockS l):ProgS 0 (wy c1 c2 c3 c4 c5 c6 c7 n1 n2 n3 s hh l) 7:=fun h=>by
 rcases tc3 with rfl | rfl | rfl <;> rcases kl with rfl | rfl | rfl <;> kernel_rfl
theorem yUU (tc3:TrC c3) (kl:LockS l):LawS 0 (wy c1 c2 c3 c4 c5 c6 c7 n1 n2 n3 s hh l) 7:=fun h=>by
 rcases tc3 with rfl | rfl | rfl <;> rcases kl with rfl | rfl | rfl <;> kernel_rfl
theorem ySP (tc3:TrC c3) (kl:LockS l):ProgS 0 (wy c1 c2 c3 c4 c5 c6 c7 n1 n2 n3 s hh l) 8:=fun h=>by
 rcases tc3 with rfl | rfl | rfl <;> rcases kl with rfl | rfl | rfl <;> kernel_rfl
theorem yUT (tc3:TrC c3) (kl:LockS l):LawS 0 (wy c1 c2 c3 c4 c5 c6 c7 n1 n2 n3 s hh l) 8:=fun h=>by
 rcases tc3 with rfl | rfl | rfl <;> rcases kl with rfl | rfl | rfl <;> kernel_rfl
theorem ySO (tc4:TrC c4) (kl:LockS l):ProgS 0 (wy c1 c2 c3 c4 c5 c6 c7 n1 n2 n3 s hh l) 9:=fun h=>by
 rcases tc4 with rfl | rfl | rfl <;> rcases kl with rfl | rfl | rfl <;> kernel_rfl
theorem yUS (tc4:TrC c4) (kl:LockS l):LawS 0 (wy c1 c2 c3 c4 c5 c6 c7 n1 n2 n3 s hh l) 9:=fun h=>by
 rcases tc4 with rfl | rfl | rfl <;> rcases kl with rfl | rfl | rfl <;> kernel_rfl
theorem yKQ (tc4:TrC c4) (kl:LockS l):ProgS 0 (wy c1 c2 c3 c4 c5 c6 c7 n1 n2 n3 s hh l) 10:=fun h=>by
 rcases tc4 with rfl | rfl | rfl <;> rcases kl with rfl | rfl | rfl <;> kernel_rfl
theorem yMQ (tc4:TrC c4) (kl:LockS l):LawS 0 (wy c1 c2 c3 c4 c5 c6 c7 n1 n2 n3 s hh l) 10:=fun h=>by
 rcases tc4 with rfl | rfl | rfl <;> rcases kl with rfl | rfl | rfl <;> kernel_rfl
theorem yKP (tc5:TrC c5) (kl:LockS l):ProgS 0 (wy c1 c2 c3 c4 c5 c6 c7 n1 n2 n3 s hh l) 11:=fun h=>by
 rcases tc5 with rfl | rfl | rfl <;> rcases kl with rfl | rfl | rfl <;> kernel_rfl
theorem yMP (tc5:TrC c5) (kl:LockS l):LawS 0 (wy c1 c2 c3 c4 c5 c6 c7 n1 n2 n3 s hh l) 11:=fun h=>by
 rcases tc5 with rfl | rfl | rfl <;> rcases kl with rfl | rfl | rfl <;> kernel_rfl
theorem yKO (tc5:TrC c5) (kl:LockS l):ProgS 0 (wy c1 c2 c3 c4 c5 c6 c7 n1 n2 n3 s hh l) 12:=fun h=>by
 rcases tc5 with rfl | rfl | rfl <;> rcases kl with rfl | rfl | rfl <;> kernel_rfl
theorem yMO (tc5:TrC c5) (kl:LockS l):LawS 0 (wy c1 c2 c3 c4 c5 c6 c7 n1 n2 n3 s hh l) 12:=fun h=>by
 rcases tc5 with rfl | rfl | rfl <;> rcases kl with rfl | rfl | rfl <;> kernel_rfl
theorem yKN (tc6:TrC c6) (kl:LockS l):ProgS 0 (wy c1 c2 c3 c4 c5 c6 c7 n1 n2 n3 s hh l) 13:=fun h=>by
 rcases tc6 with rfl | rfl | rfl <;> rcases kl with rfl | rfl | rfl <;> kernel_rfl
theorem yMN (tc6:TrC c6) (kl:LockS l):LawS 0 (wy c1 c2 c3 c4 c5 c6 c7 n1 n2 n3 s hh l) 13:=fun h=>by
 rcases tc6 with rfl | rfl | rfl <;> rcases kl with rfl | rfl | rfl <;> kernel_rfl
theorem yKM (tc6:TrC c6) (kl:LockS l):ProgS 0 (wy c1 c2 c3 c4 c5 c6 c7 n1 n2 n3 s hh l) 14:=fun h=>by
 rcases tc6 with rfl | rfl | rfl <;> rcases kl with rfl | rfl | rfl <;> kernel_rfl
theorem yMM (tc6:TrC c6) (kl:LockS l):LawS 0 (wy c1 c2 c3 c4 c5 c6 c7 n1 n2 n3 s hh l) 14:=fun h=>by
 rcases tc6 with rfl | rfl | rfl <;> rcases kl with rfl | rfl | rfl <;> kernel_rfl
theorem yKL (tc7:TrC c7) (kl:LockS l):ProgS 0 (wy c1 c2 c3 c4 c5 c6 c7 n1 n2 n3 s hh l) 15:=fun h=>by
 rcases tc7 with rfl | rfl | rfl <;> rcases kl with rfl | rfl | rfl <;> kernel_rfl
theorem yML (tc7:TrC c7) (kl:LockS l):LawS 0 (wy c1 c2 c3 c4 c5 c6 c7 n1 n2 n3 s hh l) 15:=fun h=>by
 rcases tc7 with rfl | rfl | rfl <;> rcases kl with rfl | rfl | rfl <;> kernel_rfl
theorem yKK (tc7:TrC c7) (kl:LockS l):ProgS 0 (wy c1 c2 c3 c4 c5 c6 c7 n1 n2 n3 s hh l) 16:=fun h=>by
 rcases tc7 with rfl | rfl | rfl <;> rcases kl with rfl | rfl | rfl <;> kernel_rfl
theorem yMK (tc7:TrC c7) (kl:LockS l):LawS 0 (wy c1 c2 c3 c4 c5 c6 c7 n1 n2 n3 s hh l) 16:=fun h=>by
 rcases tc7 with rfl | rfl | rfl <;> rcases kl with rfl | rfl | rfl <;> kernel_rfl
theorem ySN  : ProgS 1 (wy c1 c2 c3 c4 c5 c6 c7 n1 n2 n3 s hh l) 0:=fun h=>by
 kernel_rfl
theorem yUR  : LawS 1 (wy c1 c2 c3 c4 c5 c6 c7 n1 n2 n3 s hh l) 0:=fun h=>by
 kernel_rfl
theorem ySM (kl:LockS l):ProgS 1 (wy c1 c2 c3 c4 c5 c6 c7 n1 n2 n3 s hh l) 1:=fun h=>by
 rcases kl with rfl | rfl | rfl <;> kernel_rfl
theorem yUQ (kl:LockS l):LawS 1 (wy c1 c2 c3 c4 c5 c6 c7 n1 n2 n3 s hh l) 1:=fun h=>by
 rcases kl with rfl | rfl | rfl <;> kernel_rfl
theorem ySL (kl:LockS l):ProgS 1 (wy c1 c2 c3 c4 c5 c6 c7 n1 n2 n3 s hh l) 2:=fun h=>by
 rcases kl with rfl | rfl | rfl <;> kernel_rfl
theorem yUP (kl:LockS l):LawS 1 (wy c1 c2 c3 c4 c5 c6 c7 n1 n2 n3 s hh l) 2:=fun h=>by
 rcases kl with rfl | rfl | rfl <;> kernel_rfl
theorem ySK (kl:LockS l):ProgS 1 (wy c1 c2 c3 c4 c5 c6 c7 n1 n2 n3 s hh l) 3:=fun h=>by
 rcases kl with rfl | rfl | rfl <;> kernel_rfl
theorem yUO (kl:LockS l):LawS 1 (wy c1 c2 c3 c4 c5 c6 c7 n1 n2 n3 s hh l) 3:=fun h=>by
 rcases kl with rfl | rfl | rfl <;> kernel_rfl
theorem ySJ (kl:LockS l):ProgS 1 (wy c1 c2 c3 c4 c5 c6 c7 n1 n2 n3 s hh l) 4:=fun h=>by
 rcases kl with rfl | rfl | rfl <;> kernel_rfl
theorem yUN (kl:LockS l):LawS 1 (wy c1 c2 c3 c4 c5 c6 c7 n1 n2 n3 s hh l) 4:=fun h=>by
 rcases kl with rfl | rfl | rfl <;> kernel_rfl
theorem ySI (kl:LockS l):ProgS 1 (wy c1 c2 c3 c4 c5 c6 c7 n1 n2 n3 s hh l) 5:=fun h=>by
 rcases kl with rfl | rfl | rfl <;> kernel_rfl
theorem yUM (kl:LockS l):LawS 1 (wy c1 c2 c3 c4 c5 c6 c7 n1 n2 n3 s hh l) 5:=fun h=>by
 rcases kl with rfl | rfl | rfl <;> kernel_rfl
theorem ySH (kl:LockS l):ProgS 1 (wy c1 c2 c3 c4 c5 c6 c7 n1 n2 n3 s hh l) 6:=fun h=>by
 rcases kl with rfl | rfl | rfl <;> kernel_rfl
theorem yUL (kl:LockS l):LawS 1 (wy c1 c2 c3 c4 c5 c6 c7 n1 n2 n3 s hh l) 6:=fun h=>by
 rcases kl with rfl | rfl | rfl <;> kernel_rfl
theorem ySG (kl:LockS l):ProgS 1 (wy c1 c2 c3 c4 c5 c6 c7 n1 n2 n3 s hh l) 7:=fun h=>by
 rcases kl with rfl | rfl | rfl <;> kernel_rfl
theorem yUK (kl:LockS l):LawS 1 (wy c1 c2 c3 c4 c5 c6 c7 n1 n2 n3 s hh l) 7:=fun h=>by
 rcases kl with rfl | rfl | rfl <;> kernel_rfl
theorem ySF (kl:LockS l):ProgS 1 (wy c1 c2 c3 c4 c5 c6 c7 n1 n2 n3 s hh l) 8:=fun h=>by
 rcases kl with rfl | rfl | rfl <;> kernel_rfl
theorem yUJ (kl:LockS l):LawS 1 (wy c1 c2 c3 c4 c5 c6 c7 n1 n2 n3 s hh l) 8:=fun h=>by
 rcases kl with rfl | rfl | rfl <;> kernel_rfl
theorem ySE (kl:LockS l):ProgS 1 (wy c1 c2 c3 c4 c5 c6 c7 n1 n2 n3 s hh l) 9:=fun h=>by
 rcases kl with rfl | rfl | rfl <;> kernel_rfl
theorem yUI (kl:LockS l):LawS 1 (wy c1 c2 c3 c4 c5 c6 c7 n1 n2 n3 s hh l) 9:=fun h=>by
 rcases kl with rfl | rfl | rfl <;> kernel_rfl
theorem yKJ (kl:LockS l):ProgS 1 (wy c1 c2 c3 c4 c5 c6 c7 n1 n2 n3 s hh l) 10:=fun h=>by
 rcases kl with rfl | rfl | rfl <;> kernel_rfl
theorem yMJ (kl:LockS l):LawS 1 (wy c1 c2 c3 c4 c5 c6 c7 n1 n2 n3 s hh l) 10:=fun h=>by
 rcases kl with rfl | rfl | rfl <;> kernel_rfl
theorem yKI (kl:LockS l):ProgS 1 (wy c1 c2 c3 c4 c5 c6 c7 n1 n2 n3 s hh l) 11:=fun h=>by
 rcases kl with rfl | rfl | rfl <;> kernel_rfl
theorem yMI (kl:LockS l):LawS 1 (wy c1 c2 c3 c4 c5 c6 c7 n1 n2 n3 s hh l) 11:=fun h=>by
 rcases kl with rfl | rfl | rfl <;> kernel_rfl
theorem yKH (kl:LockS l):ProgS 1 (wy c1 c2 c3 c4 c5 c6 c7 n1 n2 n3 s hh l) 12:=fun h=>by
 rcases kl with rfl | rfl | rfl <;> kernel_rfl
theorem yMH (kl:LockS l):LawS 1 (wy c1 c2 c3 c4 c5 c6 c7 n1 n2 n3 s hh l) 12:=fun h=>by
 rcases kl with rfl | rfl | rfl <;> kernel_rfl
theorem yKG (kl:LockS l):ProgS 1 (wy c1 c2 c3 c4 c5 c6 c7 n1 n2 n3 s hh l) 13:=fun h=>by
 rcases kl with rfl | rfl | rfl <;> kernel_rfl
theorem yMG (kl:LockS l):LawS 1 (wy c1 c2 c3 c4 c5 c6 c7 n1 n2 n3 s hh l) 13:=fun h=>by
 rcases kl with rfl | rfl | rfl <;> kernel_rfl
theorem yKF (kl:LockS l):ProgS 1 (wy c1 c2 c3 c4 c5 c6 c7 n1 n2 n3 s hh l) 14:=fun h=>by
 rcases kl with rfl | rfl | rfl <;> kernel_rfl
theorem yMF (kl:LockS l):LawS 1 (wy c1 c2 c3 c4 c5 c6 c7 n1 n2 n3 s hh l) 14:=fun h=>by
 rcases kl with rfl | rfl | rfl <;> kernel_rfl
theorem yKE (kl:LockS l):ProgS 1 (wy c1 c2 c3 c4 c5 c6 c7 n1 n2 n3 s hh l) 15:=fun h=>by
 rcases kl with rfl | rfl | rfl <;> kernel_rfl
theorem yME (kl:LockS l):LawS 1 (wy c1 c2 c3 c4 c5 c6 c7 n1 n2 n3 s hh l) 15:=fun h=>by
 rcases kl with rfl | rfl | rfl <;> kernel_rfl
theorem yKD (kl:LockS l):ProgS 1 (wy c1 c2 c3 c4 c5 c6 c7 n1 n2 n3 s hh l) 16:=fun h=>by
 rcases kl with rfl | rfl | rfl <;> kernel_rfl
theorem yMD (kl:LockS l):LawS 1 (wy c1 c2 c3 c4 c5 c6 c7 n1 n2 n3 s hh l) 16:=fun h=>by
 rcases kl with rfl | rfl | rfl <;> kernel_rfl
theorem yKC (kl:LockS l):ProgS 1 (wy c1 c2 c3 c4 c5 c6 c7 n1 n2 n3 s hh l) 17:=fun h=>by
 rcases kl with rfl | rfl | rfl <;> kernel_rfl
theorem yMC (kl:LockS l):LawS 1 (wy c1 c2 c3 c4 c5 c6 c7 n1 n2 n3 s hh l) 17:=fun h=>by
 rcases kl with rfl | rfl | rfl <;> kernel_rfl
theorem yKB (kl:LockS l):ProgS 1 (wy c1 c2 c3 c4 c5 c6 c7 n1 n2 n3 s hh l) 18:=fun h=>by
 rcases kl with rfl | rfl | rfl <;> kernel_rfl
theorem yMB (kl:LockS l):LawS 1 (wy c1 c2 c3 c4 c5 c6 c7 n1 n2 n3 s hh l) 18:=fun h=>by
 rcases kl with rfl | rfl | rfl <;> kernel_rfl
theorem yKA (kl:LockS l) (tn1:TrC n1):ProgS 1 (wy c1 c2 c3 c4 c5 c6 c7 n1 n2 n3 s hh l) 19:=fun h=>by
 rcases kl with rfl | rfl | rfl <;> rcases tn1 with rfl | rfl | rfl <;> kernel_rfl
theorem yMA (kl:LockS l) (tn1:TrC n1):LawS 1 (wy c1 c2 c3 c4 c5 c6 c7 n1 n2 n3 s hh l) 19:=fun h=>by
 rcases kl with rfl | rfl | rfl <;> rcases tn1 with rfl | rfl | rfl <;> kernel_rfl
theorem yJZ (kl:LockS l) (tn1:TrC n1):ProgS 1 (wy c1 c2 c3 c4 c5 c6 c7 n1 n2 n3 s hh l) 20:=fun h=>by
 rcases kl with rfl | rfl | rfl <;> rcases tn1 with rfl | rfl | rfl <;> kernel_rfl
theorem yLZ (kl:LockS l) (tn1:TrC n1):LawS 1 (wy c1 c2 c3 c4 c5 c6 c7 n1 n2 n3 s hh l) 20:=fun h=>by
 rcases kl with rfl | rfl | rfl <;> rcases tn1 with rfl | rfl | rfl <;> kernel_rfl
theorem yJY (kl:LockS l) (tn2:TrC n2):ProgS 1 (wy c1 c2 c3 c4 c5 c6 c7 n1 n2 n3 s hh l) 21:=fun h=>by
 rcases kl with rfl | rfl | rfl <;> rcases tn2 with rfl | rfl | rfl <;> kernel_rfl
theorem yLY (kl:LockS l) (tn2:TrC n2):LawS 1 (wy c1 c2 c3 c4 c5 c6 c7 n1 n2 n3 s hh l) 21:=fun h=>by
 rcases kl with rfl | rfl | rfl <;> rcases tn2 with rfl | rfl | rfl <;> kernel_rfl
theorem yJX (kl:LockS l) (tn2:TrC n2):ProgS 1 (wy c1 c2 c3 c4 c5 c6 c7 n1 n2 n3 s hh l) 22:=fun h=>by
 rcases kl with rfl | rfl | rfl <;> rcases tn2 with rfl | rfl | rfl <;> kernel_rfl
theorem yLX (kl:LockS l) (tn2:TrC n2):LawS 1 (wy c1 c2 c3 c4 c5 c6 c7 n1 n2 n3 s hh l) 22:=fun h=>by
 rcases kl with rfl | rfl | rfl <;> rcases tn2 with rfl | rfl | rfl <;> kernel_rfl
theorem yJW (kl:LockS l) (tn3:TrC n3):ProgS 1 (wy c1 c2 c3 c4 c5 c6 c7 n1 n2 n3 s hh l) 23:=fun h=>by
 rcases kl with rfl | rfl | rfl <;> rcases tn3 with rfl | rfl | rfl <;> kernel_rfl
theorem yLW (kl:LockS l) (tn3:TrC n3):LawS 1 (wy c1 c2 c3 c4 c5 c6 c7 n1 n2 n3 s hh l) 23:=fun h=>by
 rcases kl with rfl | rfl | rfl <;> rcases tn3 with rfl | rfl | rfl <;> kernel_rfl
theorem yJV (kl:LockS l) (tn3:TrC n3):ProgS 1 (wy c1 c2 c3 c4 c5 c6 c7 n1 n2 n3 s hh l) 24:=fun h=>by
 rcases kl with rfl | rfl | rfl <;> rcases tn3 with rfl | rfl | rfl <;> kernel_rfl
theorem yLV (kl:LockS l) (tn3:TrC n3):LawS 1 (wy c1 c2 c3 c4 c5 c6 c7 n1 n2 n3 s hh l) 24:=fun h=>by
 rcases kl with rfl | rfl | rfl <;> rcases tn3 with rfl | rfl | rfl <;> kernel_rfl
theorem yJU (kl:LockS l):ProgS 1 (wy c1 c2 c3 c4 c5 c6 c7 n1 n2 n3 s hh l) 25:=fun h=>by
 rcases kl with rfl | rfl | rfl <;> kernel_rfl
theorem yLU (kl:LockS l):LawS 1 (wy c1 c2 c3 c4 c5 c6 c7 n1 n2 n3 s hh l) 25:=fun h=>by
 rcases kl with rfl | rfl | rfl <;> kernel_rfl
theorem yJT (kl:LockS l):ProgS 1 (wy c1 c2 c3 c4 c5 c6 c7 n1 n2 n3 s hh l) 26:=fun h=>by
 rcases kl with rfl | rfl | rfl <;> cases s <;> kernel_rfl
theorem yLT (kl:LockS l):LawS 1 (wy c1 c2 c3 c4 c5 c6 c7 n1 n2 n3 s hh l) 26:=fun h=>by
 rcases kl with rfl | rfl | rfl <;> cases s <;> kernel_rfl
theorem yJS (kl:LockS l) (tn1:TrC n1):ProgS 1 (wy c1 c2 c3 c4 c5 c6 c7 n1 n2 n3 s hh l) 27:=fun h=>by
 rcases kl with rfl | rfl | rfl <;> rcases tn1 with rfl | rfl | rfl <;> kernel_rfl
theorem yLS (kl:LockS l) (tn1:TrC n1):LawS 1 (wy c1 c2 c3 c4 c5 c6 c7 n1 n2 n3 s hh l) 27:=fun h=>by
 rcases kl with rfl | rfl | rfl <;> rcases tn1 with rfl | rfl | rfl <;> kernel_rfl
theorem yJR (kl:LockS l) (tn1:TrC n1):ProgS 1 (wy c1 c2 c3 c4 c5 c6 c7 n1 n2 n3 s hh l) 28:=fun h=>by
 rcases kl with rfl | rfl | rfl <;> rcases tn1 with rfl | rfl | rfl <;> cases s <;> kernel_rfl
theorem yLR (kl:LockS l) (tn1:TrC n1):LawS 1 (wy c1 c2 c3 c4 c5 c6 c7 n1 n2 n3 s hh l) 28:=fun h=>by
 rcases kl with rfl | rfl | rfl <;> rcases tn1 with rfl | rfl | rfl <;> cases s <;> kernel_rfl
theorem yJQ (kl:LockS l) (tn2:TrC n2):ProgS 1 (wy c1 c2 c3 c4 c5 c6 c7 n1 n2 n3 s hh l) 29:=fun h=>by
 rcases kl with rfl | rfl | rfl <;> rcases tn2 with rfl | rfl | rfl <;> kernel_rfl
theorem yLQ (kl:LockS l) (tn2:TrC n2):LawS 1 (wy c1 c2 c3 c4 c5 c6 c7 n1 n2 n3 s hh l) 29:=fun h=>by
 rcases kl with rfl | rfl | rfl <;> rcases tn2 with rfl | rfl | rfl <;> kernel_rfl
theorem yJP (kl:LockS l) (tn2:TrC n2):ProgS 1 (wy c1 c2 c3 c4 c5 c6 c7 n1 n2 n3 s hh l) 30:=fun h=>by
 rcases kl with rfl | rfl | rfl <;> rcases tn2 with rfl | rfl | rfl <;> cases s <;> kernel_rfl
theorem yLP (kl:LockS l) (tn2:TrC n2):LawS 1 (wy c1 c2 c3 c4 c5 c6 c7 n1 n2 n3 s hh l) 30:=fun h=>by
 rcases kl with rfl | rfl | rfl <;> rcases tn2 with rfl | rfl | rfl <;> cases s <;> kernel_rfl
theorem yJO (kl:LockS l) (tn3:TrC n3):ProgS 1 (wy c1 c2 c3 c4 c5 c6 c7 n1 n2 n3 s hh l) 31:=fun h=>by
 rcases kl with rfl | rfl | rfl <;> rcases tn3 with rfl | rfl | rfl <;> kernel_rfl
theorem yLO (kl:LockS l) (tn3:TrC n3):LawS 1 (wy c1 c2 c3 c4 c5 c6 c7 n1 n2 n3 s hh l) 31:=fun h=>by
 rcases kl with rfl | rfl | rfl <;> rcases tn3 with rfl | rfl | rfl <;> kernel_rfl
theorem yJN (kl:LockS l) (tn3:TrC n3):ProgS 1 (wy c1 c2 c3 c4 c5 c6 c7 n1 n2 n3 s hh l) 32:=fun h=>by
 rcases kl with rfl | rfl | rfl <;> rcases tn3 with rfl | rfl | rfl <;> cases s <;> kernel_rfl
theorem yLN (kl:LockS l) (tn3:TrC n3):LawS 1 (wy c1 c2 c3 c4 c5 c6 c7 n1 n2 n3 s hh l) 32:=fun h=>by
 rcases kl with rfl | rfl | rfl <;> rcases tn3 with rfl | rfl | rfl <;> cases s <;> kernel_rfl
theorem ySD  : ProgS 2 (wy c1 c2 c3 c4 c5 c6 c7 n1 n2 n3 s hh l) 0:=fun h=>by
 kernel_rfl
theorem yUH  : LawS 2 (wy c1 c2 c3 c4 c5 c6 c7 n1 n2 n3 s hh l) 0:=fun h=>by
 kernel_rfl
theorem ySC (kl:LockS l):ProgS 2 (wy c1 c2 c3 c4 c5 c6 c7 n1 n2 n3 s hh l) 1:=fun h=>by
 rcases kl with rfl | rfl | rfl <;> kernel_rfl
theorem yUG (kl:LockS l):LawS 2 (wy c1 c2 c3 c4 c5 c6 c7 n1 n2 n3 s hh l) 1:=fun h=>by
 rcases kl with rfl | rfl | rfl <;> kernel_rfl
theorem ySB (kl:LockS l):ProgS 2 (wy c1 c2 c3 c4 c5 c6 c7 n1 n2 n3 s hh l) 2:=fun h=>by
 rcases kl with rfl | rfl | rfl <;> cases s <;> kernel_rfl
theorem yUF (kl:LockS l):LawS 2 (wy c1 c2 c3 c4 c5 c6 c7 n1 n2 n3 s hh l) 2:=fun h=>by
 rcases kl with rfl | rfl | rfl <;> cases s <;> kernel_rfl
theorem ySA (kl:LockS l) (tn1:TrC n1):ProgS 2 (wy c1 c2 c3 c4 c5 c6 c7 n1 n2 n3 s hh l) 3:=fun h=>by
 rcases kl with rfl | rfl | rfl <;> rcases tn1 with rfl | rfl | rfl <;> kernel_rfl
theorem yUE (kl:LockS l) (tn1:TrC n1):LawS 2 (wy c1 c2 c3 c4 c5 c6 c7 n1 n2 n3 s hh l) 3:=fun h=>by
 rcases kl with rfl | rfl | rfl <;> rcases tn1 with rfl | rfl | rfl <;> kernel_rfl
theorem yRZ (kl:LockS l) (tn1:TrC n1):ProgS 2 (wy c1 c2 c3 c4 c5 c6 c7 n1 n2 n3 s hh l) 4:=fun h=>by
 rcases kl with rfl | rfl | rfl <;> rcases tn1 with rfl | rfl | rfl <;> cases s <;> kernel_rfl
theorem yUD (kl:LockS l) (tn1:TrC n1):LawS 2 (wy c1 c2 c3 c4 c5 c6 c7 n1 n2 n3 s hh l) 4:=fun h=>by
 rcases kl with rfl | rfl | rfl <;> rcases tn1 with rfl | rfl | rfl <;> cases s <;> kernel_rfl
theorem yRY (kl:LockS l) (tn2:TrC n2):ProgS 2 (wy c1 c2 c3 c4 c5 c6 c7 n1 n2 n3 s hh l) 5:=fun h=>by
 rcases kl with rfl | rfl | rfl <;> rcases tn2 with rfl | rfl | rfl <;> kernel_rfl
theorem yUC (kl:LockS l) (tn2:TrC n2):LawS 2 (wy c1 c2 c3 c4 c5 c6 c7 n1 n2 n3 s hh l) 5:=fun h=>by
 rcases kl with rfl | rfl | rfl <;> rcases tn2 with rfl | rfl | rfl <;> kernel_rfl
theorem yRX (kl:LockS l) (tn2:TrC n2):ProgS 2 (wy c1 c2 c3 c4 c5 c6 c7 n1 n2 n3 s hh l) 6:=fun h=>by
 rcases kl with rfl | rfl | rfl <;> rcases tn2 with rfl | rfl | rfl <;> cases s <;> kernel_rfl
theorem yUB (kl:LockS l) (tn2:TrC n2):LawS 2 (wy c1 c2 c3 c4 c5 c6 c7 n1 n2 n3 s hh l) 6:=fun h=>by
 rcases kl with rfl | rfl | rfl <;> rcases tn2 with rfl | rfl | rfl <;> cases s <;> kernel_rfl
theorem yRW (kl:LockS l) (tn3:TrC n3):ProgS 2 (wy c1 c2 c3 c4 c5 c6 c7 n1 n2 n3 s hh l) 7:=fun h=>by
 rcases kl with rfl | rfl | rfl <;> rcases tn3 with rfl | rfl | rfl <;> kernel_rfl
theorem yUA (kl:LockS l) (tn3:TrC n3):LawS 2 (wy c1 c2 c3 c4 c5 c6 c7 n1 n2 n3 s hh l) 7:=fun h=>by
 rcases kl with rfl | rfl | rfl <;> rcases tn3 with rfl | rfl | rfl <;> kernel_rfl
theorem yRV (kl:LockS l) (tn3:TrC n3):ProgS 2 (wy c1 c2 c3 c4 c5 c6 c7 n1 n2 n3 s hh l) 8:=fun h=>by
 rcases kl with rfl | rfl | rfl <;> rcases tn3 with rfl | rfl | rfl <;> cases s <;> kernel_rfl
theorem yTZ (kl:LockS l) (tn3:TrC n3):LawS 2 (wy c1 c2 c3 c4 c5 c6 c7 n1 n2 n3 s hh l) 8:=fun h=>by
 rcases kl with rfl | rfl | rfl <;> rcases tn3 with rfl | rfl | rfl <;> cases s <;> kernel_rfl
theorem yRU  : ProgS 3 (wy c1 c2 c3 c4 c5 c6 c7 n1 n2 n3 s hh l) 0:=fun h=>by
 kernel_rfl
theorem yTY  : LawS 3 (wy c1 c2 c3 c4 c5 c6 c7 n1 n2 n3 s hh l) 0:=fun h=>by
 kernel_rfl
theorem yRT (kl:LockS l):ProgS 3 (wy c1 c2 c3 c4 c5 c6 c7 n1 n2 n3 s hh l) 1:=fun h=>by
 rcases kl with rfl | rfl | rfl <;> kernel_rfl
theorem yTX (kl:LockS l):LawS 3 (wy c1 c2 c3 c4 c5 c6 c7 n1 n2 n3 s hh l) 1:=fun h=>by
 rcases kl with rfl | rfl | rfl <;> kernel_rfl
theorem yRS (kl:LockS l):ProgS 3 (wy c1 c2 c3 c4 c5 c6 c7 n1 n2 n3 s hh l) 2:=fun h=>by
 rcases kl with rfl | rfl | rfl <;> kernel_rfl
theorem yTW (kl:LockS l):LawS 3 (wy c1 c2 c3 c4 c5 c6 c7 n1 n2 n3 s hh l) 2:=fun h=>by
 rcases kl with rfl | rfl | rfl <;> kernel_rfl
theorem yRR (kl:LockS l):ProgS 3 (wy c1 c2 c3 c4 c5 c6 c7 n1 n2 n3 s hh l) 3:=fun h=>by
 rcases kl with rfl | rfl | rfl <;> kernel_rfl
theorem yTV (kl:LockS l):LawS 3 (wy c1 c2 c3 c4 c5 c6 c7 n1 n2 n3 s hh l) 3:=fun h=>by
 rcases kl with rfl | rfl | rfl <;> kernel_rfl
theorem yRQ (kl:LockS l):ProgS 3 (wy c1 c2 c3 c4 c5 c6 c7 n1 n2 n3 s hh l) 4:=fun h=>by
 rcases kl with rfl | rfl | rfl <;> kernel_rfl
theorem yTU (kl:LockS l):LawS 3 (wy c1 c2 c3 c4 c5 c6 c7 n1 n2 n3 s hh l) 4:=fun h=>by
 rcases kl with rfl | rfl | rfl <;> kernel_rfl
theorem yRP (kl:LockS l) (tn2:TrC n2):ProgS 3 (wy c1 c2 c3 c4 c5 c6 c7 n1 n2 n3 s hh l) 5:=fun h=>by
 rcases kl with rfl | rfl | rfl <;> cases s <;> rcases tn2 with rfl | rfl | rfl <;> kernel_rfl
theorem yTT (kl:LockS l) (tn2:TrC n2):LawS 3 (wy c1 c2 c3 c4 c5 c6 c7 n1 n2 n3 s hh l) 5:=fun h=>by
 rcases kl with rfl | rfl | rfl <;> cases s <;> rcases tn2 with rfl | rfl | rfl <;> kernel_rfl
theorem yRO (kl:LockS l) (tn2:TrC n2):ProgS 3 (wy c1 c2 c3 c4 c5 c6 c7 n1 n2 n3 s hh l) 6:=fun h=>by
 rcases kl with rfl | rfl | rfl <;> cases s <;> rcases tn2 with rfl | rfl | rfl <;> kernel_rfl
theorem yTS (kl:LockS l) (tn2:TrC n2):LawS 3 (wy c1 c2 c3 c4 c5 c6 c7 n1 n2 n3 s hh l) 6:=fun h=>by
 rcases kl with rfl | rfl | rfl <;> cases s <;> rcases tn2 with rfl | rfl | rfl <;> kernel_rfl
theorem yRN (kl:LockS l) (tn3:TrC n3):ProgS 3 (wy c1 c2 c3 c4 c5 c6 c7 n1 n2 n3 s hh l) 7:=fun h=>by
 rcases kl with rfl | rfl | rfl <;> cases s <;> rcases tn3 with rfl | rfl | rfl <;> kernel_rfl
theorem yTR (kl:LockS l) (tn3:TrC n3):LawS 3 (wy c1 c2 c3 c4 c5 c6 c7 n1 n2 n3 s hh l) 7:=fun h=>by
 rcases kl with rfl | rfl | rfl <;> cases s <;> rcases tn3 with rfl | rfl | rfl <;> kernel_rfl
theorem yRM (kl:LockS l) (tn3:TrC n3):ProgS 3 (wy c1 c2 c3 c4 c5 c6 c7 n1 n2 n3 s hh l) 8:=fun h=>by
 rcases kl with rfl | rfl | rfl <;> cases s <;> rcases tn3 with rfl | rfl | rfl <;> kernel_rfl
theorem yTQ (kl:LockS l) (tn3:TrC n3):LawS 3 (wy c1 c2 c3 c4 c5 c6 c7 n1 n2 n3 s hh l) 8:=fun h=>by
 rcases kl with rfl | rfl | rfl <;> cases s <;> rcases tn3 with rfl | rfl | rfl <;> kernel_rfl
theorem yRL (kl:LockS l):ProgS 3 (wy c1 c2 c3 c4 c5 c6 c7 n1 n2 n3 s hh l) 9:=fun h=>by
 rcases kl with rfl | rfl | rfl <;> cases hh <;> kernel_rfl
theorem yTP (kl:LockS l):LawS 3 (wy c1 c2 c3 c4 c5 c6 c7 n1 n2 n3 s hh l) 9:=fun h=>by
 rcases kl with rfl | rfl | rfl <;> cases hh <;> kernel_rfl
theorem yJM (kl:LockS l):ProgS 3 (wy c1 c2 c3 c4 c5 c6 c7 n1 n2 n3 s hh l) 10:=fun h=>by
 rcases kl with rfl | rfl | rfl <;> kernel_rfl
theorem yLM (kl:LockS l):LawS 3 (wy c1 c2 c3 c4 c5 c6 c7 n1 n2 n3 s hh l) 10:=fun h=>by
 rcases kl with rfl | rfl | rfl <;> kernel_rfl
theorem yJL (kl:LockS l):ProgS 3 (wy c1 c2 c3 c4 c5 c6 c7 n1 n2 n3 s hh l) 11:=fun h=>by
 rcases kl with rfl | rfl | rfl <;> cases hh <;> kernel_rfl
theorem yLL (kl:LockS l):LawS 3 (wy c1 c2 c3 c4 c5 c6 c7 n1 n2 n3 s hh l) 11:=fun h=>by
 rcases kl with rfl | rfl | rfl <;> cases hh <;> kernel_rfl
theorem yJK (kl:LockS l):ProgS 3 (wy c1 c2 c3 c4 c5 c6 c7 n1 n2 n3 s hh l) 12:=fun h=>by
 rcases kl with rfl | rfl | rfl <;> kernel_rfl
theorem yLK (kl:LockS l):LawS 3 (wy c1 c2 c3 c4 c5 c6 c7 n1 n2 n3 s hh l) 12:=fun h=>by
 rcases kl with rfl | rfl | rfl <;> kernel_rfl
theorem yJJ (kl:LockS l) (tn2:TrC n2):ProgS 3 (wy c1 c2 c3 c4 c5 c6 c7 n1 n2 n3 s hh l) 13:=fun h=>by
 rcases kl with rfl | rfl | rfl <;> cases hh <;> cases s <;> rcases tn2 with rfl | rfl | rfl <;> kernel_rfl
theorem yLJ (kl:LockS l) (tn2:TrC n2):LawS 3 (wy c1 c2 c3 c4 c5 c6 c7 n1 n2 n3 s hh l) 13:=fun h=>by
 rcases kl with rfl | rfl | rfl <;> cases hh <;> cases s <;> rcases tn2 with rfl | rfl | rfl <;> kernel_rfl
theorem yJI (kl:LockS l) (tn2:TrC n2):ProgS 3 (wy c1 c2 c3 c4 c5 c6 c7 n1 n2 n3 s hh l) 14:=fun h=>by
 rcases kl with rfl | rfl | rfl <;> cases s <;> rcases tn2 with rfl | rfl | rfl <;> kernel_rfl
theorem yLI (kl:LockS l) (tn2:TrC n2):LawS 3 (wy c1 c2 c3 c4 c5 c6 c7 n1 n2 n3 s hh l) 14:=fun h=>by
 rcases kl with rfl | rfl | rfl <;> cases s <;> rcases tn2 with rfl | rfl | rfl <;> kernel_rfl
theorem yJH (kl:LockS l) (tn3:TrC n3):ProgS 3 (wy c1 c2 c3 c4 c5 c6 c7 n1 n2 n3 s hh l) 15:=fun h=>by
 rcases kl with rfl | rfl | rfl <;> cases hh <;> cases s <;> rcases tn3 with rfl | rfl | rfl <;> kernel_rfl
theorem yLH (kl:LockS l) (tn3:TrC n3):LawS 3 (wy c1 c2 c3 c4 c5 c6 c7 n1 n2 n3 s hh l) 15:=fun h=>by
 rcases kl with rfl | rfl | rfl <;> cases hh <;> cases s <;> rcases tn3 with rfl | rfl | rfl <;> kernel_rfl
theorem yJG (kl:LockS l) (tn3:TrC n3):ProgS 3 (wy c1 c2 c3 c4 c5 c6 c7 n1 n2 n3 s hh l) 16:=fun h=>by
 rcases kl with rfl | rfl | rfl <;> cases s <;> rcases tn3 with rfl | rfl | rfl <;> kernel_rfl
theorem yLG (kl:LockS l) (tn3:TrC n3):LawS 3 (wy c1 c2 c3 c4 c5 c6 c7 n1 n2 n3 s hh l) 16:=fun h=>by
 rcases kl with rfl | rfl | rfl <;> cases s <;> rcases tn3 with rfl | rfl | rfl <;> kernel_rfl
theorem yJF (kl:LockS l):ProgS 3 (wy c1 c2 c3 c4 c5 c6 c7 n1 n2 n3 s hh l) 17:=fun h=>by
 rcases kl with rfl | rfl | rfl <;> kernel_rfl
theorem yLF (kl:LockS l):LawS 3 (wy c1 c2 c3 c4 c5 c6 c7 n1 n2 n3 s hh l) 17:=fun h=>by
 rcases kl with rfl | rfl | rfl <;> kernel_rfl
theorem yJE (kl:LockS l):ProgS 3 (wy c1 c2 c3 c4 c5 c6 c7 n1 n2 n3 s hh l) 18:=fun h=>by
 rcases kl with rfl | rfl | rfl <;> kernel_rfl
theorem yLE (kl:LockS l):LawS 3 (wy c1 c2 c3 c4 c5 c6 c7 n1 n2 n3 s hh l) 18:=fun h=>by
 rcases kl with rfl | rfl | rfl <;> kernel_rfl
theorem yJD (kl:LockS l):ProgS 3 (wy c1 c2 c3 c4 c5 c6 c7 n1 n2 n3 s hh l) 19:=fun h=>by
 rcases kl with rfl | rfl | rfl <;> kernel_rfl
theorem yLD (kl:LockS l):LawS 3 (wy c1 c2 c3 c4 c5 c6 c7 n1 n2 n3 s hh l) 19:=fun h=>by
 rcases kl with rfl | rfl | rfl <;> kernel_rfl
theorem yJC (kl:LockS l):ProgS 3 (wy c1 c2 c3 c4 c5 c6 c7 n1 n2 n3 s hh l) 20:=fun h=>by
 rcases kl with rfl | rfl | rfl <;> kernel_rfl
theorem yLC (kl:LockS l):LawS 3 (wy c1 c2 c3 c4 c5 c6 c7 n1 n2 n3 s hh l) 20:=fun h=>by
 rcases kl with rfl | rfl | rfl <;> kernel_rfl
theorem yJB (kl:LockS l) (tn2:TrC n2):ProgS 3 (wy c1 c2 c3 c4 c5 c6 c7 n1 n2 n3 s hh l) 21:=fun h=>by
 rcases kl with rfl | rfl | rfl <;> cases s <;> rcases tn2 with rfl | rfl | rfl <;> kernel_rfl
theorem yLB (kl:LockS l) (tn2:TrC n2):LawS 3 (wy c1 c2 c3 c4 c5 c6 c7 n1 n2 n3 s hh l) 21:=fun h=>by
 rcases kl with rfl | rfl | rfl <;> cases s <;> rcases tn2 with rfl | rfl | rfl <;> kernel_rfl
theorem yJA (kl:LockS l) (tn2:TrC n2):ProgS 3 (wy c1 c2 c3 c4 c5 c6 c7 n1 n2 n3 s hh l) 22:=fun h=>by
 rcases kl with rfl | rfl | rfl <;> cases s <;> rcases tn2 with rfl | rfl | rfl <;> kernel_rfl
theorem yLA (kl:LockS l) (tn2:TrC n2):LawS 3 (wy c1 c2 c3 c4 c5 c6 c7 n1 n2 n3 s hh l) 22:=fun h=>by
 rcases kl with rfl | rfl | rfl <;> cases s <;> rcases tn2 with rfl | rfl | rfl <;> kernel_rfl
theorem yIZ (kl:LockS l) (tn3:TrC n3):ProgS 3 (wy c1 c2 c3 c4 c5 c6 c7 n1 n2 n3 s hh l) 23:=fun h=>by
 rcases kl with rfl | rfl | rfl <;> cases s <;> rcases tn3 with rfl | rfl | rfl <;> kernel_rfl
theorem yKZ (kl:LockS l) (tn3:TrC n3):LawS 3 (wy c1 c2 c3 c4 c5 c6 c7 n1 n2 n3 s hh l) 23:=fun h=>by
 rcases kl with rfl | rfl | rfl <;> cases s <;> rcases tn3 with rfl | rfl | rfl <;> kernel_rfl
theorem yIY (kl:LockS l) (tn3:TrC n3):ProgS 3 (wy c1 c2 c3 c4 c5 c6 c7 n1 n2 n3 s hh l) 24:=fun h=>by
 rcases kl with rfl | rfl | rfl <;> cases s <;> rcases tn3 with rfl | rfl | rfl <;> kernel_rfl
theorem yKY (kl:LockS l) (tn3:TrC n3):LawS 3 (wy c1 c2 c3 c4 c5 c6 c7 n1 n2 n3 s hh l) 24:=fun h=>by
 rcases kl with rfl | rfl | rfl <;> cases s <;> rcases tn3 with rfl | rfl | rfl <;> kernel_rfl
theorem yRK  : ProgS 4 (wy c1 c2 c3 c4 c5 c6 c7 n1 n2 n3 s hh l) 0:=fun h=>by
 kernel_rfl
theorem yTO  : LawS 4 (wy c1 c2 c3 c4 c5 c6 c7 n1 n2 n3 s hh l) 0:=fun h=>by
 kernel_rfl
theorem yRJ (kl:LockS l):ProgS 4 (wy c1 c2 c3 c4 c5 c6 c7 n1 n2 n3 s hh l) 1:=fun h=>by
 rcases kl with rfl | rfl | rfl <;> kernel_rfl
theorem yTN (kl:LockS l):LawS 4 (wy c1 c2 c3 c4 c5 c6 c7 n1 n2 n3 s hh l) 1:=fun h=>by
 rcases kl with rfl | rfl | rfl <;> kernel_rfl
theorem yRI (kl:LockS l):ProgS 4 (wy c1 c2 c3 c4 c5 c6 c7 n1 n2 n3 s hh l) 2:=fun h=>by
 rcases kl with rfl | rfl | rfl <;> kernel_rfl
theorem yTM (kl:LockS l):LawS 4 (wy c1 c2 c3 c4 c5 c6 c7 n1 n2 n3 s hh l) 2:=fun h=>by
 rcases kl with rfl | rfl | rfl <;> kernel_rfl
theorem yRH (tc1:TrC c1) (kl:LockS l):ProgS 4 (wy c1 c2 c3 c4 c5 c6 c7 n1 n2 n3 s hh l) 3:=fun h=>by
 rcases tc1 with rfl | rfl | rfl <;> rcases kl with rfl | rfl | rfl <;> kernel_rfl
theorem yTL (tc1:TrC c1) (kl:LockS l):LawS 4 (wy c1 c2 c3 c4 c5 c6 c7 n1 n2 n3 s hh l) 3:=fun h=>by
 rcases tc1 with rfl | rfl | rfl <;> rcases kl with rfl | rfl | rfl <;> kernel_rfl
theorem yRG (tc1:TrC c1) (kl:LockS l):ProgS 4 (wy c1 c2 c3 c4 c5 c6 c7 n1 n2 n3 s hh l) 4:=fun h=>by
 rcases tc1 with rfl | rfl | rfl <;> rcases kl with rfl | rfl | rfl <;> kernel_rfl
theorem yTK (tc1:TrC c1) (kl:LockS l):LawS 4 (wy c1 c2 c3 c4 c5 c6 c7 n1 n2 n3 s hh l) 4:=fun h=>by
 rcases tc1 with rfl | rfl | rfl <;> rcases kl with rfl | rfl | rfl <;> kernel_rfl
theorem yRF (tc2:TrC c2) (kl:LockS l):ProgS 4 (wy c1 c2 c3 c4 c5 c6 c7 n1 n2 n3 s hh l) 5:=fun h=>by
 rcases tc2 with rfl | rfl | rfl <;> rcases kl with rfl | rfl | rfl <;> kernel_rfl
theorem yTJ (tc2:TrC c2) (kl:LockS l):LawS 4 (wy c1 c2 c3 c4 c5 c6 c7 n1 n2 n3 s hh l) 5:=fun h=>by
 rcases tc2 with rfl | rfl | rfl <;> rcases kl with rfl | rfl | rfl <;> kernel_rfl
theorem yRE (tc2:TrC c2) (kl:LockS l):ProgS 4 (wy c1 c2 c3 c4 c5 c6 c7 n1 n2 n3 s hh l) 6:=fun h=>by
 rcases tc2 with rfl | rfl | rfl <;> rcases kl with rfl | rfl | rfl <;> kernel_rfl
theorem yTI (tc2:TrC c2) (kl:LockS l):LawS 4 (wy c1 c2 c3 c4 c5 c6 c7 n1 n2 n3 s hh l) 6:=fun h=>by
 rcases tc2 with rfl | rfl | rfl <;> rcases kl with rfl | rfl | rfl <;> kernel_rfl
theorem yRD (tc3:TrC c3) (kl:LockS l):ProgS 4 (wy c1 c2 c3 c4 c5 c6 c7 n1 n2 n3 s hh l) 7:=fun h=>by
 rcases tc3 with rfl | rfl | rfl <;> rcases kl with rfl | rfl | rfl <;> kernel_rfl
theorem yTH (tc3:TrC c3) (kl:LockS l):LawS 4 (wy c1 c2 c3 c4 c5 c6 c7 n1 n2 n3 s hh l) 7:=fun h=>by
 rcases tc3 with rfl | rfl | rfl <;> rcases kl with rfl | rfl | rfl <;> kernel_rfl
theorem yRC (tc3:TrC c3) (kl:LockS l):ProgS 4 (wy c1 c2 c3 c4 c5 c6 c7 n1 n2 n3 s hh l) 8:=fun h=>by
 rcases tc3 with rfl | rfl | rfl <;> rcases kl with rfl | rfl | rfl <;> kernel_rfl
theorem yTG (tc3:TrC c3) (kl:LockS l):LawS 4 (wy c1 c2 c3 c4 c5 c6 c7 n1 n2 n3 s hh l) 8:=fun h=>by
 rcases tc3 with rfl | rfl | rfl <;> rcases kl with rfl | rfl | rfl <;> kernel_rfl
theorem yRB (tc4:TrC c4) (kl:LockS l):ProgS 4 (wy c1 c2 c3 c4 c5 c6 c7 n1 n2 n3 s hh l) 9:=fun h=>by
 rcases tc4 with rfl | rfl | rfl <;> rcases kl with rfl | rfl | rfl <;> kernel_rfl
theorem yTF (tc4:TrC c4) (kl:LockS l):LawS 4 (wy c1 c2 c3 c4 c5 c6 c7 n1 n2 n3 s hh l) 9:=fun h=>by
 rcases tc4 with rfl | rfl | rfl <;> rcases kl with rfl | rfl | rfl <;> kernel_rfl
theorem yIX (tc4:TrC c4) (kl:LockS l):ProgS 4 (wy c1 c2 c3 c4 c5 c6 c7 n1 n2 n3 s hh l) 10:=fun h=>by
 rcases tc4 with rfl | rfl | rfl <;> rcases kl with rfl | rfl | rfl <;> kernel_rfl
theorem yKX (tc4:TrC c4) (kl:LockS l):LawS 4 (wy c1 c2 c3 c4 c5 c6 c7 n1 n2 n3 s hh l) 10:=fun h=>by
 rcases tc4 with rfl | rfl | rfl <;> rcases kl with rfl | rfl | rfl <;> kernel_rfl
theorem yIW (tc5:TrC c5) (kl:LockS l):ProgS 4 (wy c1 c2 c3 c4 c5 c6 c7 n1 n2 n3 s hh l) 11:=fun h=>by
 rcases tc5 with rfl | rfl | rfl <;> rcases kl with rfl | rfl | rfl <;> kernel_rfl
theorem yKW (tc5:TrC c5) (kl:LockS l):LawS 4 (wy c1 c2 c3 c4 c5 c6 c7 n1 n2 n3 s hh l) 11:=fun h=>by
 rcases tc5 with rfl | rfl | rfl <;> rcases kl with rfl | rfl | rfl <;> kernel_rfl
theorem yIV (tc5:TrC c5) (kl:LockS l):ProgS 4 (wy c1 c2 c3 c4 c5 c6 c7 n1 n2 n3 s hh l) 12:=fun h=>by
 rcases tc5 with rfl | rfl | rfl <;> rcases kl with rfl | rfl | rfl <;> kernel_rfl
theorem yKV (tc5:TrC c5) (kl:LockS l):LawS 4 (wy c1 c2 c3 c4 c5 c6 c7 n1 n2 n3 s hh l) 12:=fun h=>by
 rcases tc5 with rfl | rfl | rfl <;> rcases kl with rfl | rfl | rfl <;> kernel_rfl
theorem yIU (tc6:TrC c6) (kl:LockS l):ProgS 4 (wy c1 c2 c3 c4 c5 c6 c7 n1 n2 n3 s hh l) 13:=fun h=>by
 rcases tc6 with rfl | rfl | rfl <;> rcases kl with rfl | rfl | rfl <;> kernel_rfl
theorem yKU (tc6:TrC c6) (kl:LockS l):LawS 4 (wy c1 c2 c3 c4 c5 c6 c7 n1 n2 n3 s hh l) 13:=fun h=>by
 rcases tc6 with rfl | rfl | rfl <;> rcases kl with rfl | rfl | rfl <;> kernel_rfl
theorem yIT (tc6:TrC c6) (kl:LockS l):ProgS 4 (wy c1 c2 c3 c4 c5 c6 c7 n1 n2 n3 s hh l) 14:=fun h=>by
 rcases tc6 with rfl | rfl | rfl <;> rcases kl with rfl | rfl | rfl <;> kernel_rfl
theorem yKT (tc6:TrC c6) (kl:LockS l):LawS 4 (wy c1 c2 c3 c4 c5 c6 c7 n1 n2 n3 s hh l) 14:=fun h=>by
 rcases tc6 with rfl | rfl | rfl <;> rcases kl with rfl | rfl | rfl <;> kernel_rfl
theorem yIS (tc7:TrC c7) (kl:LockS l):ProgS 4 (wy c1 c2 c3 c4 c5 c6 c7 n1 n2 n3 s hh l) 15:=fun h=>by
 rcases tc7 with rfl | rfl | rfl <;> rcases kl with rfl | rfl | rfl <;> kernel_rfl
theorem yKS (tc7:TrC c7) (kl:LockS l):LawS 4 (wy c1 c2 c3 c4 c5 c6 c7 n1 n2 n3 s hh l) 15:=fun h=>by
 rcases tc7 with rfl | rfl | rfl <;> rcases kl with rfl | rfl | rfl <;> kernel_rfl
theorem yIR (tc7:TrC c7) (kl:LockS l):ProgS 4 (wy c1 c2 c3 c4 c5 c6 c7 n1 n2 n3 s hh l) 16:=fun h=>by
 rcases tc7 with rfl | rfl | rfl <;> rcases kl with rfl | rfl | rfl <;> kernel_rfl
theorem yKR (tc7:TrC c7) (kl:LockS l):LawS 4 (wy c1 c2 c3 c4 c5 c6 c7 n1 n2 n3 s hh l) 16:=fun h=>by
 rcases tc7 with rfl | rfl | rfl <;> rcases kl with rfl | rfl | rfl <;> kernel_rfl
theorem yRA  : ProgS 5 (wy c1 c2 c3 c4 c5 c6 c7 n1 n2 n3 s hh l) 0:=fun h=>by
 kernel_rfl
theorem yTE  : LawS 5 (wy c1 c2 c3 c4 c5 c6 c7 n1 n2 n3 s hh l) 0:=fun h=>by
 kernel_rfl
theorem yQZ (kl:LockS l):ProgS 5 (wy c1 c2 c3 c4 c5 c6 c7 n1 n2 n3 s hh l) 1:=fun h=>by
 rcases kl with rfl | rfl | rfl <;> kernel_rfl
theorem yTD (kl:LockS l):LawS 5 (wy c1 c2 c3 c4 c5 c6 c7 n1 n2 n3 s hh l) 1:=fun h=>by
 rcases kl with rfl | rfl | rfl <;> kernel_rfl
theorem yQY (kl:LockS l) (tn1:TrC n1):ProgS 5 (wy c1 c2 c3 c4 c5 c6 c7 n1 n2 n3 s hh l) 2:=fun h=>by
 rcases kl with rfl | rfl | rfl <;> rcases tn1 with rfl | rfl | rfl <;> kernel_rfl
theorem yTC (kl:LockS l) (tn1:TrC n1):LawS 5 (wy c1 c2 c3 c4 c5 c6 c7 n1 n2 n3 s hh l) 2:=fun h=>by
 rcases kl with rfl | rfl | rfl <;> rcases tn1 with rfl | rfl | rfl <;> kernel_rfl
theorem yQX (kl:LockS l) (tn2:TrC n2):ProgS 5 (wy c1 c2 c3 c4 c5 c6 c7 n1 n2 n3 s hh l) 3:=fun h=>by
 rcases kl with rfl | rfl | rfl <;> rcases tn2 with rfl | rfl | rfl <;> kernel_rfl
theorem yTB (kl:LockS l) (tn2:TrC n2):LawS 5 (wy c1 c2 c3 c4 c5 c6 c7 n1 n2 n3 s hh l) 3:=fun h=>by
 rcases kl with rfl | rfl | rfl <;> rcases tn2 with rfl | rfl | rfl <;> kernel_rfl
theorem yQW (kl:LockS l) (tn3:TrC n3):ProgS 5 (wy c1 c2 c3 c4 c5 c6 c7 n1 n2 n3 s hh l) 4:=fun h=>by
 rcases kl with rfl | rfl | rfl <;> rcases tn3 with rfl | rfl | rfl <;> kernel_rfl
theorem yTA (kl:LockS l) (tn3:TrC n3):LawS 5 (wy c1 c2 c3 c4 c5 c6 c7 n1 n2 n3 s hh l) 4:=fun h=>by
 rcases kl with rfl | rfl | rfl <;> rcases tn3 with rfl | rfl | rfl <;> kernel_rfl
end
theorem yQV {p:SpecW} (k:p.Ok):∀ w,w < 6→∀ c,c < yO w→ProgS w p c:=by
 obtain ⟨kd,kn,kl⟩:=k
 obtain ⟨d,n,s,hh,l⟩:=p
 simp only at kd kn kl
 obtain ⟨c1,c2,c3,c4,c5,c6,c7,rfl,tc1,tc2,tc3,tc4,tc5,tc6,tc7⟩:=list8 kd
 obtain ⟨n1,n2,n3,rfl,tn1,tn2,tn3⟩:=list4 kn
 intro w hw c hc
 match w,hw,c,hc with
 | 0,_,0,_=>exact ySX
 | 0,_,1,_=>exact ySW kl
 | 0,_,2,_=>exact ySV kl
 | 0,_,3,_=>exact ySU tc1 kl
 | 0,_,4,_=>exact yST tc1 kl
 | 0,_,5,_=>exact ySS tc2 kl
 | 0,_,6,_=>exact ySR tc2 kl
 | 0,_,7,_=>exact ySQ tc3 kl
 | 0,_,8,_=>exact ySP tc3 kl
 | 0,_,9,_=>exact ySO tc4 kl
 | 0,_,10,_=>exact yKQ tc4 kl
 | 0,_,11,_=>exact yKP tc5 kl
 | 0,_,12,_=>exact yKO tc5 kl
 | 0,_,13,_=>exact yKN tc6 kl
 | 0,_,14,_=>exact yKM tc6 kl
 | 0,_,15,_=>exact yKL tc7 kl
 | 0,_,16,_=>exact yKK tc7 kl
 | 0,_,c+17,h=>exact absurd (show c+17 < 17 from h) (by omega)
 | 1,_,0,_=>exact ySN
 | 1,_,1,_=>exact ySM kl
 | 1,_,2,_=>exact ySL kl
 | 1,_,3,_=>exact ySK kl
 | 1,_,4,_=>exact ySJ kl
 | 1,_,5,_=>exact ySI kl
 | 1,_,6,_=>exact ySH kl
 | 1,_,7,_=>exact ySG kl
 | 1,_,8,_=>exact ySF kl
 | 1,_,9,_=>exact ySE kl
 | 1,_,10,_=>exact yKJ kl
 | 1,_,11,_=>exact yKI kl
 | 1,_,12,_=>exact yKH kl
 | 1,_,13,_=>exact yKG kl
 | 1,_,14,_=>exact yKF kl
 | 1,_,15,_=>exact yKE kl
 | 1,_,16,_=>exact yKD kl
 | 1,_,17,_=>exact yKC kl
 | 1,_,18,_=>exact yKB kl
 | 1,_,19,_=>exact yKA kl tn1
 | 1,_,20,_=>exact yJZ kl tn1
 | 1,_,21,_=>exact yJY kl tn2
 | 1,_,22,_=>exact yJX kl tn2
 | 1,_,23,_=>exact yJW kl tn3
 | 1,_,24,_=>exact yJV kl tn3
 | 1,_,25,_=>exact yJU kl
 | 1,_,26,_=>exact yJT kl
 | 1,_,27,_=>exact yJS kl tn1
 | 1,_,28,_=>exact yJR kl tn1
 | 1,_,29,_=>exact yJQ kl tn2
 | 1,_,30,_=>exact yJP kl tn2
 | 1,_,31,_=>exact yJO kl tn3
 | 1,_,32,_=>exact yJN kl tn3
 | 1,_,c+33,h=>exact absurd (show c+33 < 33 from h) (by omega)
 | 2,_,0,_=>exact ySD
 | 2,_,1,_=>exact ySC kl
 | 2,_,2,_=>exact ySB kl
 | 2,_,3,_=>exact ySA kl tn1
 | 2,_,4,_=>exact yRZ kl tn1
 | 2,_,5,_=>exact yRY kl tn2
 | 2,_,6,_=>exact yRX kl tn2
 | 2,_,7,_=>exact yRW kl tn3
 | 2,_,8,_=>exact yRV kl tn3
 | 2,_,c+9,h=>exact absurd (show c+9 < 9 from h) (by omega)
 | 3,_,0,_=>exact yRU
 | 3,_,1,_=>exact yRT kl
 | 3,_,2,_=>exact yRS kl
 | 3,_,3,_=>exact yRR kl
 | 3,_,4,_=>exact yRQ kl
 | 3,_,5,_=>exact yRP kl tn2
 | 3,_,6,_=>exact yRO kl tn2
 | 3,_,7,_=>exact yRN kl tn3
 | 3,_,8,_=>exact yRM kl tn3
 | 3,_,9,_=>exact yRL kl
 | 3,_,10,_=>exact yJM kl
 | 3,_,11,_=>exact yJL kl
 | 3,_,12,_=>exact yJK kl
 | 3,_,13,_=>exact yJJ kl tn2
 | 3,_,14,_=>exact yJI kl tn2
 | 3,_,15,_=>exact yJH kl tn3
 | 3,_,16,_=>exact yJG kl tn3
 | 3,_,17,_=>exact yJF kl
 | 3,_,18,_=>exact yJE kl
 | 3,_,19,_=>exact yJD kl
 | 3,_,20,_=>exact yJC kl
 | 3,_,21,_=>exact yJB kl tn2
 | 3,_,22,_=>exact yJA kl tn2
 | 3,_,23,_=>exact yIZ kl tn3
 | 3,_,24,_=>exact yIY kl tn3
 | 3,_,c+25,h=>exact absurd (show c+25 < 25 from h) (by omega)
 | 4,_,0,_=>exact yRK
 | 4,_,1,_=>exact yRJ kl
 | 4,_,2,_=>exact yRI kl
 | 4,_,3,_=>exact yRH tc1 kl
 | 4,_,4,_=>exact yRG tc1 kl
 | 4,_,5,_=>exact yRF tc2 kl
 | 4,_,6,_=>exact yRE tc2 kl
 | 4,_,7,_=>exact yRD tc3 kl
 | 4,_,8,_=>exact yRC tc3 kl
 | 4,_,9,_=>exact yRB tc4 kl
 | 4,_,10,_=>exact yIX tc4 kl
 | 4,_,11,_=>exact yIW tc5 kl
 | 4,_,12,_=>exact yIV tc5 kl
 | 4,_,13,_=>exact yIU tc6 kl
 | 4,_,14,_=>exact yIT tc6 kl
 | 4,_,15,_=>exact yIS tc7 kl
 | 4,_,16,_=>exact yIR tc7 kl
 | 4,_,c+17,h=>exact absurd (show c+17 < 17 from h) (by omega)
 | 5,_,0,_=>exact yRA
 | 5,_,1,_=>exact yQZ kl
 | 5,_,2,_=>exact yQY kl tn1
 | 5,_,3,_=>exact yQX kl tn2
 | 5,_,4,_=>exact yQW kl tn3
 | 5,_,c+5,h=>exact absurd (show c+5 < 5 from h) (by omega)
 | w+6,hw,_,_=>exact absurd hw (by omega)
theorem sl_all {p:SpecW} (k:p.Ok):∀ w,w < 6→∀ c,c < yO w→LawS w p c:=by
 obtain ⟨kd,kn,kl⟩:=k
 obtain ⟨d,n,s,hh,l⟩:=p
 simp only at kd kn kl
 obtain ⟨c1,c2,c3,c4,c5,c6,c7,rfl,tc1,tc2,tc3,tc4,tc5,tc6,tc7⟩:=list8 kd
 obtain ⟨n1,n2,n3,rfl,tn1,tn2,tn3⟩:=list4 kn
 intro w hw c hc
 match w,hw,c,hc with
 | 0,_,0,_=>exact yVB
 | 0,_,1,_=>exact yVA kl
 | 0,_,2,_=>exact yUZ kl
 | 0,_,3,_=>exact yUY tc1 kl
 | 0,_,4,_=>exact yUX tc1 kl
 | 0,_,5,_=>exact yUW tc2 kl
 | 0,_,6,_=>exact yUV tc2 kl
 | 0,_,7,_=>exact yUU tc3 kl
 | 0,_,8,_=>exact yUT tc3 kl
 | 0,_,9,_=>exact yUS tc4 kl
 | 0,_,10,_=>exact yMQ tc4 kl
 | 0,_,11,_=>exact yMP tc5 kl
 | 0,_,12,_=>exact yMO tc5 kl
 | 0,_,13,_=>exact yMN tc6 kl
 | 0,_,14,_=>exact yMM tc6 kl
 | 0,_,15,_=>exact yML tc7 kl
 | 0,_,16,_=>exact yMK tc7 kl
 | 0,_,c+17,h=>exact absurd (show c+17 < 17 from h) (by omega)
 | 1,_,0,_=>exact yUR
 | 1,_,1,_=>exact yUQ kl
 | 1,_,2,_=>exact yUP kl
 | 1,_,3,_=>exact yUO kl
 | 1,_,4,_=>exact yUN kl
 | 1,_,5,_=>exact yUM kl
 | 1,_,6,_=>exact yUL kl
 | 1,_,7,_=>exact yUK kl
 | 1,_,8,_=>exact yUJ kl
 | 1,_,9,_=>exact yUI kl
 | 1,_,10,_=>exact yMJ kl
 | 1,_,11,_=>exact yMI kl
 | 1,_,12,_=>exact yMH kl
 | 1,_,13,_=>exact yMG kl
 | 1,_,14,_=>exact yMF kl
 | 1,_,15,_=>exact yME kl
 | 1,_,16,_=>exact yMD kl
 | 1,_,17,_=>exact yMC kl
 | 1,_,18,_=>exact yMB kl
 | 1,_,19,_=>exact yMA kl tn1
 | 1,_,20,_=>exact yLZ kl tn1
 | 1,_,21,_=>exact yLY kl tn2
 | 1,_,22,_=>exact yLX kl tn2
 | 1,_,23,_=>exact yLW kl tn3
 | 1,_,24,_=>exact yLV kl tn3
 | 1,_,25,_=>exact yLU kl
 | 1,_,26,_=>exact yLT kl
 | 1,_,27,_=>exact yLS kl tn1
 | 1,_,28,_=>exact yLR kl tn1
 | 1,_,29,_=>exact yLQ kl tn2
 | 1,_,30,_=>exact yLP kl tn2
 | 1,_,31,_=>exact yLO kl tn3
 | 1,_,32,_=>exact yLN kl tn3
 | 1,_,c+33,h=>exact absurd (show c+33 < 33 from h) (by omega)
 | 2,_,0,_=>exact yUH
 | 2,_,1,_=>exact yUG kl
 | 2,_,2,_=>exact yUF kl
 | 2,_,3,_=>exact yUE kl tn1
 | 2,_,4,_=>exact yUD kl tn1
 | 2,_,5,_=>exact yUC kl tn2
 | 2,_,6,_=>exact yUB kl tn2
 | 2,_,7,_=>exact yUA kl tn3
 | 2,_,8,_=>exact yTZ kl tn3
 | 2,_,c+9,h=>exact absurd (show c+9 < 9 from h) (by omega)
 | 3,_,0,_=>exact yTY
 | 3,_,1,_=>exact yTX kl
 | 3,_,2,_=>exact yTW kl
 | 3,_,3,_=>exact yTV kl
 | 3,_,4,_=>exact yTU kl
 | 3,_,5,_=>exact yTT kl tn2
 | 3,_,6,_=>exact yTS kl tn2
 | 3,_,7,_=>exact yTR kl tn3
 | 3,_,8,_=>exact yTQ kl tn3
 | 3,_,9,_=>exact yTP kl
 | 3,_,10,_=>exact yLM kl
 | 3,_,11,_=>exact yLL kl
 | 3,_,12,_=>exact yLK kl
 | 3,_,13,_=>exact yLJ kl tn2
 | 3,_,14,_=>exact yLI kl tn2
 | 3,_,15,_=>exact yLH kl tn3
 | 3,_,16,_=>exact yLG kl tn3
 | 3,_,17,_=>exact yLF kl
 | 3,_,18,_=>exact yLE kl
 | 3,_,19,_=>exact yLD kl
 | 3,_,20,_=>exact yLC kl
 | 3,_,21,_=>exact yLB kl tn2
 | 3,_,22,_=>exact yLA kl tn2
 | 3,_,23,_=>exact yKZ kl tn3
 | 3,_,24,_=>exact yKY kl tn3
 | 3,_,c+25,h=>exact absurd (show c+25 < 25 from h) (by omega)
 | 4,_,0,_=>exact yTO
 | 4,_,1,_=>exact yTN kl
 | 4,_,2,_=>exact yTM kl
 | 4,_,3,_=>exact yTL tc1 kl
 | 4,_,4,_=>exact yTK tc1 kl
 | 4,_,5,_=>exact yTJ tc2 kl
 | 4,_,6,_=>exact yTI tc2 kl
 | 4,_,7,_=>exact yTH tc3 kl
 | 4,_,8,_=>exact yTG tc3 kl
 | 4,_,9,_=>exact yTF tc4 kl
 | 4,_,10,_=>exact yKX tc4 kl
 | 4,_,11,_=>exact yKW tc5 kl
 | 4,_,12,_=>exact yKV tc5 kl
 | 4,_,13,_=>exact yKU tc6 kl
 | 4,_,14,_=>exact yKT tc6 kl
 | 4,_,15,_=>exact yKS tc7 kl
 | 4,_,16,_=>exact yKR tc7 kl
 | 4,_,c+17,h=>exact absurd (show c+17 < 17 from h) (by omega)
 | 5,_,0,_=>exact yTE
 | 5,_,1,_=>exact yTD kl
 | 5,_,2,_=>exact yTC kl tn1
 | 5,_,3,_=>exact yTB kl tn2
 | 5,_,4,_=>exact yTA kl tn3
 | 5,_,c+5,h=>exact absurd (show c+5 < 5 from h) (by omega)
 | w+6,hw,_,_=>exact absurd hw (by omega)
end LW
set_option maxHeartbeats 4000000
namespace LW
open PySem PySem.Spec PyProof.Rows L2 Lp
def kap (w c:Nat):NestedKey:=(tupK (stP w c)).getD .none
def dS (w c:Nat):PyData:=(toD (stP w c)).getD .none
def yZZ:Bool:=(List.range 6).all fun w=>(List.range (yO w)).all fun c=>(tupK (stP w c)).isSome&&(List.range (yO w)).all fun d=>jIV (nk (stP w c)) (kap w d) == Nat.beq c d
theorem jTN:yZZ=true:=by decide +kernel
def vAA:Bool:=(List.range 6).all fun w=>(List.range (yO w)).all fun c=>((toD (stP w c)).isSome&&Nat.ble (dS w c).depth 4)&&(List.range (yO w)).all fun d=>PyData.eqv (dS w c) (dS w d) == Nat.beq c d
theorem jNY:vAA=true:=by decide +kernel
theorem jBH {n:Nat} {f:Nat→Bool} (h:(List.range n).all f=true) {i:Nat} (hi:i < n):f i=true:=List.all_eq_true.mp h i (List.mem_range.mpr hi)
section
variable {w c d:Nat} (hw:w < 6)
include hw
theorem tk (hc:c < yO w):tupK (stP w c)=some (kap w c):=by
 have h:=jBH (jBH jTN hw) hc
 obtain ⟨x,e⟩:=Option.isSome_iff_exists.mp (Bool.and_eq_true_iff.mp h).1
 unfold kap
 rw [e]; rfl
theorem kq (hc:c < yO w) (hd:d < yO w):jIV (nk (stP w c)) (kap w d)=Nat.beq c d:=by
 have h:=jBH (jBH jTN hw) hc
 exact eq_of_beq (jBH (Bool.and_eq_true_iff.mp h).2 hd)
theorem td (hc:c < yO w):toD (stP w c)=some (dS w c):=by
 have h:=jBH (jBH jNY hw) hc
 obtain ⟨x,e⟩:=Option.isSome_iff_exists.mp (Bool.and_eq_true_iff.mp (Bool.and_eq_true_iff.mp h).1).1
 unfold dS
 rw [e]; rfl
theorem dd4 (hc:c < yO w):(dS w c).depth≤4:=by
 have h:=jBH (jBH jNY hw) hc
 exact Nat.le_of_ble_eq_true (Bool.and_eq_true_iff.mp (Bool.and_eq_true_iff.mp h).1).2
theorem dq (hc:c < yO w) (hd:d < yO w):PyData.eqv (dS w c) (dS w d)=Nat.beq c d:=by
 have h:=jBH (jBH jNY hw) hc
 exact eq_of_beq (jBH (Bool.and_eq_true_iff.mp h).2 hd)
theorem jLX:∀ {L:List Nat},(∀ c∈L,c < yO w)→toDs (L.map (stP w))=some (L.map (dS w))
 | [],_=>rfl
 | c :: L,h=>by
  have e1:=td hw (h c (List.mem_cons_self ..))
  have e2:=jLX (L:=L) fun c hc=>h c (List.mem_cons_of_mem _ hc)
  show (match toD (stP w c),toDs (L.map (stP w)) with
   | some d,some ds=>some (d :: ds)
   | _,_=>none)=_
  rw [e1,e2]; rfl
theorem jQX:∀ {L:List Nat},(∀ c∈L,c < yO w)→PyData.depthAll (L.map (dS w))≤4
 | [],_=>by simp [PyData.depthAll]
 | c :: L,h=>by
  have e1:=dd4 hw (h c (List.mem_cons_self ..))
  have e2:=jQX (L:=L) fun c hc=>h c (List.mem_cons_of_mem _ hc)
  simp only [List.map_cons,PyData.depthAll]
  omega
end
theorem jFK (w c:Nat):∃ xs,stP w c=.tup xs:=by
 unfold stP
 split
 ·exact ⟨_,rfl⟩
 ·split <;> exact ⟨_,rfl⟩
theorem jQV {w l:Nat} {L:List Nat} {h:AH} (hw:w < 6) (hl:l < yO w) (hL:∀ c∈L,c < yO w):jKV h (stP w l) (.lst (L.map (stP w)))=some (.bl (!(L.any fun c=>Nat.beq c l))):=by
 obtain ⟨xs,ex⟩:=jFK w l
 have e1:=td hw hl
 have e2:=jLX hw hL
 have d1:=dd4 hw hl
 have d2:=jQX hw hL
 have ez:(L.map (dS w)).any (fun z=>PyData.eqv z (dS w l))=L.any fun c=>Nat.beq c l:=by
  rw [List.any_map]
  have:∀ (M:List Nat),(∀ c∈M,c < yO w)→M.any ((fun z=>PyData.eqv z (dS w l)) ∘ dS w)=M.any fun c=>Nat.beq c l:=by
   intro M
   induction M with
   | nil=>intro _; rfl
   | cons c M ih =>
    intro hM
    rw [List.any_cons,List.any_cons,ih fun c hc=>hM c (List.mem_cons_of_mem _ hc)]
    show (PyData.eqv (dS w c) (dS w l)||_)=_
    rw [dq hw (hM c (List.mem_cons_self ..)) hl]
  exact this L hL
 have t1:jHM h (stP w l)=some (dS w l):=by rw [← e1,ex]; rfl
 have t2:jHM h (.lst (L.map (stP w)))=some (.list (L.map (dS w))):=by
  show (toDs (L.map (stP w))).map PyData.list=_
  rw [e2]; rfl
 have s0:jOV true h (stP w l) (.lst (L.map (stP w)))=none:=by rw [ex]; rfl
 show (jOV true h (stP w l) (.lst (L.map (stP w)))).or (jKX true h (stP w l) (.lst (L.map (stP w))))=_
 rw [s0]
 unfold jKX
 rw [t1,t2]
 have o1:dOk (dS w l)=true:=decide_eq_true (by omega)
 have o2:dOk (.list (L.map (dS w)))=true:=decide_eq_true (by simp only [PyData.depth]; omega)
 simp only [o1,o2,Bool.and_self,if_true,ez,Bool.true_xor]
 rfl
abbrev DT:=List (Nat × List Str)
def fnd (D:DT) (c:Nat):Option (List Str):=match D with
 | []=>none
 | y :: r=>if Nat.beq y.1 c=true then some y.2 else fnd r c
def inn (w x:Nat):List (Str × Nat)→DT→Option DT
 | [],D=>some D
 | (a,l) :: r,D=>if (Nat.ble (yO w) l||Nat.ble 1000 D.length)=true then none else if (fnd D l).isSome=true then inn w x r D else match fnd D x with
  | some y=>if Nat.ble y.length 1000=true then inn w x r (D++[(l,y++[a])]) else none
  | none=>none
def bfs (w:Nat) (F:Nat→List (Str × Nat)):Nat→Nat→DT→Option DT
 | 0,_,_=>none
 | n+1,at_,D=>match D[at_]? with
  | none=>some D
  | some x=>if Nat.ble (F x.1).length 100=true then match inn w x.1 (F x.1) D with
   | some D'=>bfs w F n (at_+1) D'
   | none=>none
  else none
theorem yHE {w:Nat} {h:AH} (hw:w < 6):qX [.str (wF w)] h=.ok (stP w 1) h:=by
 match w,hw with
 | 0,_=>kernel_rfl
 | 1,_=>kernel_rfl
 | 2,_=>kernel_rfl
 | 3,_=>kernel_rfl
 | 4,_=>kernel_rfl
 | 5,_=>kernel_rfl
 | w+6,h=>exact absurd h (by omega)
end LW
set_option maxHeartbeats 4000000
namespace LW
open PySem PySem.Spec PyProof.Rows L2 Lp
theorem own_st (w c:Nat):isOwn (stP w c)=false:=by
 obtain ⟨xs,e⟩:=jFK w c
 rw [e]; rfl
end LW
set_option maxHeartbeats 4000000
namespace LW
open PySem PySem.Spec PyProof.Rows L2 Lp
abbrev LT:=List (Nat × Nat)
def itL (w:Nat) (x:Nat × Nat):PV:=.tup [stP w x.1,.int (x.2:Nat)]
def LV (w:Nat) (L:LT):List PV:=L.map (itL w)
def LOk (w:Nat) (L:LT):Prop:=∀ x∈L,x.1 < yO w
def jYA (w size:Nat):List (Str × Nat)→LT→Option LT
 | [],L=>some L
 | (a,l) :: r,L=>if (Nat.ble (yO w) l||Nat.ble 1000 L.length)=true then none else if (L.any fun y=>Nat.beq y.1 l)=true then jYA w size r L else jYA w size r (L++[(l,size+1)])
def jQA (w:Nat) (F:Nat→List (Str × Nat)):Nat→Nat→LT→Option LT
 | 0,_,_=>none
 | n+1,at_,L=>match L[at_]? with
  | none=>some L
  | some x=>if Nat.ble (F x.1).length 100=true then match jYA w x.2 (F x.1) L with
   | some L'=>jQA w F n (at_+1) L'
   | none=>none
  else none
theorem jKE {w:Nat} {h:AH} (hw:w < 6):yU [.str (wF w)] h=.ok (stP w 1) h:=by
 match w,hw with
 | 0,_=>kernel_rfl
 | 1,_=>kernel_rfl
 | 2,_=>kernel_rfl
 | 3,_=>kernel_rfl
 | 4,_=>kernel_rfl
 | 5,_=>kernel_rfl
 | w+6,h=>exact absurd h (by omega)
theorem size1 {w:Nat} (hw:w < 6):1 < yO w:=by
 match w,hw with
 | 0,_=>decide
 | 1,_=>decide
 | 2,_=>decide
 | 3,_=>decide
 | 4,_=>decide
 | 5,_=>decide
 | w+6,h=>exact absurd h (by omega)
def jTT (w:Nat) (p:SpecW) (L:LT) (at_:Nat) (y4 y5 y6 y7:Option PV):List (Option PV):=[some p.v,some (.str (wF w)),some (.own (LV w L)),some (.int (at_:Nat)),y4,y5,y6,y7,none,none]
theorem bind2 {w a b:Nat} {x:Nat × Nat} {e:List (Option PV)}:uW (.t [.n a,.n b]) (itL w x) e=some ((e.set a (some (stP w x.1))).set b (some (.int (x.2:Nat)))):=by
 obtain ⟨xs,exs⟩:=jFK w x.1
 unfold itL
 rw [exs]
 rfl
theorem jSF {w:Nat} {p:SpecW} {h:AH} {Le:LT} (hw:w < 6) (k:p.Ok) (e:jQA w (Fp w p) 200 0 [(1,0)]=some Le):(wH [p.v,.str (wF w)] h).post (fun v h'=>v=.lst (LV w Le)∧h'=h) NE:=by
 have h1:=size1 hw
 unfold wH
 rw [jOW]
 unfold jIK
 refine jCX [some p.v,some (.str (wF w)),none,none,none,none,none,none,none,none] rfl ?_
 refine uD (yVZ (yEN (jP (jAA (jP (yX (jP (jU rfl (yE ⟨⟨rfl,rfl⟩,jLQ (jKE hw) ?_⟩)))))))))
 (repeat (first | walk_at "p1" | refine ⟨⟨by unfold yW; rw [List.all_cons,own_st]; rfl,Nat.le_of_ble_eq_true rfl⟩,?_⟩))
 refine jWU (I:=fun n s=>∃ at_ L y4 y5 y6 y7,jQA w (Fp w p) n at_ L=some Le∧LOk w L∧s=⟨jTT w p L at_ y4 y5 y6 y7,h⟩) ?_ ?_ 200 _ ?_
 ·rintro s ⟨at_,L,y4,y5,y6,y7,e,_⟩
  cases e
 ·rintro n s ⟨at_,L,y4,y5,y6,y7,eb,ok,rfl⟩
  have el:jEG h [.own (LV w L)]=some (.int (L.length:Nat)):=by
   show some (PV.int ((LV w L).length:Nat))=_
   simp [LV]
  unfold jTT
  (repeat (first | walk_at "p1" | refine ⟨_,el,?_⟩))
  refine yBN (fun hc=>?_) fun hc=>?_
  ·have hc:at_ < L.length:=by simpa [LV] using hc
   have hx:=List.getElem?_eq_getElem hc
   unfold jQA at eb
   rw [hx] at eb
   simp only at eb
   generalize ex:L[at_]=x at hx eb
   split at eb
   ·rename_i hle
    have hle:=Nat.le_of_ble_eq_true hle
    split at eb
    ·rename_i L' ei
     have xok:x.1 < yO w:=ok x (List.mem_of_getElem? hx)
     have li:fIx h (.own (LV w L)) (.int (at_:Nat))=some (itL w x):=by
      show atI (LV w L) (at_:Int)=_
      refine jUO ?_
      unfold LV; rw [List.getElem?_map,hx]; rfl
     refine uD (yWA ?_)
     (repeat (first | walk_at "p1" | refine ⟨_,li,?_⟩))
     refine ⟨_,bind2,?_⟩
     refine uD (jQD (jCY ?_))
     (repeat (first | walk_at "p1" | refine ⟨⟨rfl,by unfold yW; rw [List.all_cons,List.all_cons,List.all_cons,own_st]; rfl⟩,?_⟩))
     refine jLQ (sl_all k w hw x.1 xok _) ?_
     (repeat walk_at "p1")
     refine ⟨by rw [List.length_map,sizeLine_eq]; omega,jQG (fun j s=>∃ M y6 y7,jYA w x.2 ((Fp w p x.1).drop j) M=some L'∧LOk w M∧s=⟨jTT w p M at_ (some (stP w x.1)) (some (.int (x.2:Nat))) y6 y7,h⟩) ?_ (fun j v s ev i=>?_) fun s i=>?_⟩
     ·exact ⟨L,y6,y7,by simpa using ei,ok,by simp [jTT]⟩
     ·obtain ⟨M,z6,z7,ei,okE,rfl⟩:=i
      rw [List.getElem?_map] at ev
      cases eg:(Fp w p x.1)[j]? with
      | none=>rw [eg] at ev; cases ev
      | some st =>
       rw [eg] at ev
       cases ev
       have ed:(Fp w p x.1).drop j=st :: (Fp w p x.1).drop (j+1):=by
        rw [List.drop_eq_getElem_cons (List.getElem?_eq_some_iff.mp eg).1]
        rw [(List.getElem?_eq_some_iff.mp eg).2]
       rw [ed] at ei
       obtain ⟨a,l⟩:=st
       unfold jYA at ei
       split at ei
       ·cases ei
       ·rename_i hb
        simp only [Bool.or_eq_true,not_or,Nat.ble_eq] at hb
        have hl:l < yO w:=by omega
        have bt:uW (.t [.n 6,.n 7]) (jOJ w (a,l)) (jTT w p M at_ (some (stP w x.1)) (some (.int (x.2:Nat))) z6 z7)=some (jTT w p M at_ (some (stP w x.1)) (some (.int (x.2:Nat))) (some (.str a)) (some (stP w l))):=by
         obtain ⟨xs,exs⟩:=jFK w l
         unfold jOJ
         rw [exs]
         rfl
        refine ⟨_,bt,?_⟩
        unfold jTT
        dsimp only [List.set_cons_succ,List.set_cons_zero]
        have hN:jKV h (stP w l) (.lst ((M.map (·.1)).map (stP w)))=some (.bl (!((M.map (·.1)).any fun c=>Nat.beq c l))):=jQV hw hl fun c hc=>by
         obtain ⟨z,hz,rfl⟩:=List.mem_map.mp hc
         exact okE z hz
        refine wZ (jCT (uE (jU rfl (jCK (jHU (jCY (jU rfl ⟨_,rfl,rfl,M,itL w,fun x=>stP w x.1,fun _=>true,rfl,fun z hz=>?_,?_⟩)))))))
        ·refine ⟨own_st w z.1,_,bind2,jTR ⟨rfl,?_,rfl,rfl⟩⟩
         exact jU rfl ⟨rfl,rfl,rfl⟩
        ·have ef:(M.filter fun _=>true).map (fun x=>stP w x.1)=(M.map (·.1)).map (stP w):=by
          rw [List.filter_eq_self.mpr fun _ _=>rfl,List.map_map]; rfl
         rw [ef]
         refine ⟨_,hN,_,rfl,?_⟩
         have ea:((M.map (·.1)).any fun c=>Nat.beq c l)=M.any fun y=>Nat.beq y.1 l:=by rw [List.any_map]; rfl
         rw [ea]
         refine yBN (fun hn=>?_) fun hn=>?_
         ·have hn:¬ (M.any fun y=>Nat.beq y.1 l)=true:=fun z=>by rw [z] at hn; cases hn
          rw [if_neg hn] at ei
          refine yWB (x0:=LV w M) rfl ?_
          (repeat (first | walk_at "p1" | refine ⟨⟨by unfold yW; rw [List.all_cons,own_st]; rfl,Nat.le_of_ble_eq_true rfl⟩,?_⟩))
          refine ⟨⟨rfl,by unfold LV; rw [List.length_map]; omega⟩,?_⟩
          refine ⟨M++[(l,x.2+1)],some (.str a),some (stP w l),ei,fun z hz=>?_,?_⟩
          ·rcases List.mem_append.mp hz with hz | hz
           ·exact okE z hz
           ·simp at hz; subst hz; exact hl
          ·simp [jTT,LV,itL,jM]
         ·have hn:(M.any fun y=>Nat.beq y.1 l)=true:=by
           cases z:M.any fun y=>Nat.beq y.1 l with
           | true=>rfl
           | false=>rw [z] at hn; cases hn
          rw [if_pos hn] at ei
          (repeat walk_at "p1")
          exact ⟨M,some (.str a),some (stP w l),ei,okE,rfl⟩
     ·obtain ⟨M,z6,z7,ei,okE,rfl⟩:=i
      rw [List.length_map,List.drop_length] at ei
      cases ei
      unfold jTT
      (repeat walk_at "p1")
      exact ⟨at_+1,_,_,_,z6,z7,eb,okE,rfl⟩
    ·cases eb
   ·cases eb
  ·have hc:L.length≤at_:=by simpa [LV] using hc
   unfold jQA at eb
   rw [List.getElem?_eq_none hc] at eb
   cases eb
   refine yVY rfl ?_
   exact ⟨rfl,rfl⟩
 ·exact ⟨0,[(1,0)],none,none,none,none,e,(fun x hx=>by simp at hx; subst hx; exact h1),rfl⟩
def bools:List Bool:=[false,true]
def agr (w lk:Nat) (s h b1 b2 b3:Bool):Bool:=match bfs w (FW w lk s h b1 b2 b3) 200 0 [(1,[])],jQA w (FW w lk s h b1 b2 b3) 200 0 [(1,0)] with
 | some D,some L=>match (fnd D 0).map List.length,(L.find? fun y=>Nat.beq y.1 0).map (·.2) with
  | none,none=>true
  | some a,some b=>Nat.beq a b
  | _,_=>false
 | _,_=>false
def jLB (w:Nat):Bool:=(List.range 3).all fun lk=>bools.all fun s=>bools.all fun h=>bools.all fun b1=>bools.all fun b2=>bools.all fun b3=>agr w lk s h b1 b2 b3
theorem agr0:jLB 0=true:=by decide +kernel
theorem agr1:jLB 1=true:=by decide +kernel
theorem agr2:jLB 2=true:=by decide +kernel
theorem agr3:jLB 3=true:=by decide +kernel
theorem agr4:jLB 4=true:=by decide +kernel
theorem agr5:jLB 5=true:=by decide +kernel
end LW
set_option maxHeartbeats 4000000
namespace LW
open PySem PySem.Spec PyProof.Rows L2 Lp
def yQL (w:Nat) (p:SpecW):DT:=(bfs w (Fp w p) 200 0 [(1,[])]).getD []
def endL (w:Nat) (p:SpecW):LT:=(jQA w (Fp w p) 200 0 [(1,0)]).getD []
theorem jBO (b:Bool):b∈bools:=by cases b <;> decide
theorem yXT {w:Nat} {p:SpecW} (hw:w < 6) (k:p.Ok):agr w (lkN p.l) p.s p.h (pw w p).1 (pw w p).2.1 (pw w p).2.2=true:=by
 have hl:lkN p.l < 3:=by rcases k.l with e | e | e <;> rw [e] <;> decide
 have go:jLB w=true:=by
  match w,hw with
  | 0,_=>exact agr0
  | 1,_=>exact agr1
  | 2,_=>exact agr2
  | 3,_=>exact agr3
  | 4,_=>exact agr4
  | 5,_=>exact agr5
  | w+6,h=>exact absurd h (by omega)
 have h1:=jBH go hl
 have h2:=List.all_eq_true.mp h1 p.s (jBO _)
 have h3:=List.all_eq_true.mp h2 p.h (jBO _)
 have h4:=List.all_eq_true.mp h3 _ (jBO (pw w p).1)
 have h5:=List.all_eq_true.mp h4 _ (jBO (pw w p).2.1)
 exact List.all_eq_true.mp h5 _ (jBO (pw w p).2.2)
theorem ends {w:Nat} {p:SpecW} (hw:w < 6) (k:p.Ok):bfs w (Fp w p) 200 0 [(1,[])]=some (yQL w p)∧jQA w (Fp w p) 200 0 [(1,0)]=some (endL w p)∧(fnd (yQL w p) 0).map List.length=((endL w p).find? fun y=>Nat.beq y.1 0).map (·.2):=by
 have h:=yXT hw k
 unfold agr at h
 rw [show FW w (lkN p.l) p.s p.h (pw w p).1 (pw w p).2.1 (pw w p).2.2=Fp w p from rfl] at h
 unfold yQL endL
 split at h
 ·rename_i D L eD eL
  rw [eD,eL]
  refine ⟨rfl,rfl,?_⟩
  simp only [Option.getD_some]
  split at h
  ·rename_i e1 e2; rw [e1,e2]
  ·rename_i a b e1 e2; rw [e1,e2,Nat.eq_of_beq_eq_true h]
  ·cases h
 ·cases h
theorem jUY {w size:Nat}:∀ {r:List (Str × Nat)} {L L':LT},LOk w L→jYA w size r L=some L'→LOk w L'
 | [],_,_,ok,e=>by cases e; exact ok
 | (a,l) :: r,L,L',ok,e=>by
  unfold jYA at e
  split at e
  ·cases e
  ·rename_i hb
   simp only [Bool.or_eq_true,not_or,Nat.ble_eq] at hb
   split at e
   ·exact jUY ok e
   ·refine jUY (fun x hx=>?_) e
    rcases List.mem_append.mp hx with hx | hx
    ·exact ok x hx
    ·simp at hx; subst hx; show l < yO w; omega
theorem jVA {w:Nat} {F:Nat→List (Str × Nat)}:∀ {n at_:Nat} {D De:LT},LOk w D→jQA w F n at_ D=some De→LOk w De
 | 0,_,_,_,_,e=>by cases e
 | n+1,at_,D,De,ok,e=>by
  unfold jQA at e
  split at e
  ·cases e; exact ok
  ·split at e
   ·split at e
    ·rename_i D' ei
     exact jVA (jUY ok ei) e
    ·cases e
   ·cases e
theorem size0 {w:Nat} (hw:w < 6):0 < yO w:=Nat.lt_trans (by decide) (size1 hw)
theorem yOW {w c:Nat} {h:AH} (hw:w < 6) (hc:c < yO w):fEq h (stP w c) (.tup [.str "broken"])=some (.bl (Nat.beq c 0)):=by
 obtain ⟨xs,ex⟩:=jFK w c
 have e1:=td hw hc
 have e0:=td hw (size0 hw)
 have t1:jHM h (stP w c)=some (dS w c):=by rw [← e1,ex]; rfl
 have t0:jHM h (.tup [.str "broken"])=some (dS w 0):=e0
 have d1:=dd4 hw hc
 have d0:=dd4 hw (size0 hw)
 unfold fEq
 rw [t1,t0]
 have o1:dOk (dS w c)=true:=decide_eq_true (by omega)
 have o2:dOk (dS w 0)=true:=decide_eq_true (by omega)
 simp only [o1,o2,Bool.and_self,if_true,dq hw hc (size0 hw)]
end LW
set_option maxHeartbeats 4000000
namespace LW
open PySem PySem.Spec PyProof.Rows L2 Lp
theorem jZM {h h1:AH} {n sl k:Nat} {e0:List (Option PV)} (hn:n < h.length) (b:BagAt h n h1) (hb2:∀ v,((jM e0 [sl]).set sl (some v))[0]?=some (some (.cel n))) (hw:∀ v,jM ((jM e0 [sl]).set sl v) [sl]=jM e0 [sl]) {src:S→R S Sr}
  {PA:List PV→S→Prop} (hs:(src ⟨e0,h1⟩).post (fun r s1=>r.w=[]∧r.xs.length=k∧(∀ v∈r.xs,isOwn v=false)∧s1=⟨e0,h1⟩) NE) (q:∀ (fl:List Bool) (h':AH),fl.length=k→BagAt h n h'→PA (fl.map .bl) ⟨jM e0 [sl],h'⟩) :
  (wW src (.n sl) wN (jZ fEq (vI 2 jLV (jE (jK 0) (jE (xEC (.int 2)) jR))) (xEC (.int 0))) [sl] ⟨e0,h1⟩).post PA NE:=by
 refine jPS (p_mono hs (fun r s1 ⟨hr,hk,ho,es⟩=>?_) fun _ _ z=>z)
 subst es
 refine ⟨hr,fun j acc hh=>(∃ fl:List Bool,fl.length=j∧acc=fl.map PV.bl)∧BagAt h n hh,⟨⟨[],rfl,rfl⟩,b⟩,fun j v acc hh e i=>?_,fun acc hh i=>?_⟩
 ·obtain ⟨⟨fl,hl,rfl⟩,bb⟩:=i
  have ov:=ho v (List.mem_of_getElem? e)
  refine ⟨_,by show (if isOwn v=true then none else _)=_; rw [ov]; rfl,jTR (zV rfl ?_)⟩
  refine uE (yX (jP (jU (hb2 _) (jP (p_c (yE ⟨⟨rfl,rfl⟩,uF (jHT hn bb (by decide) (by decide)) fun v h' z=>?_⟩))))))
  obtain ⟨⟨d,rfl,d0,d2⟩,b2⟩:=z
  refine p_c ⟨_,rfl,rfl,hw _,⟨fl++[PyData.eqv (.int d) (.int 0)],by rw [List.length_append,hl]; rfl,by rw [List.map_append]; rfl⟩,b2⟩
 ·obtain ⟨⟨fl,hl,rfl⟩,bb⟩:=i
  exact q fl hh (by rw [hl]; exact hk) bb
theorem of5 (a b c d e:Bool):PV.tup ([a,b,c,d,e].map .bl)=stP 1 (e5 a b c d e)∧0 < e5 a b c d e∧e5 a b c d e < yO 1:=by
 cases a <;> cases b <;> cases c <;> cases d <;> cases e <;> exact ⟨rfl,by decide,by decide⟩
theorem of40 (a b c d:Bool):PV.tup ([a,b,c,d].map .bl)=stP 0 (e4 a b c d)∧0 < e4 a b c d∧e4 a b c d < yO 0:=by
 cases a <;> cases b <;> cases c <;> cases d <;> exact ⟨rfl,by decide,by decide⟩
theorem of44 (a b c d:Bool):PV.tup ([a,b,c,d].map .bl)=stP 4 (e4 a b c d)∧0 < e4 a b c d∧e4 a b c d < yO 4:=by
 cases a <;> cases b <;> cases c <;> cases d <;> exact ⟨rfl,by decide,by decide⟩
theorem of3 (a b c:Bool):PV.tup ([a,b,c].map .bl)=stP 2 (e5 false false a b c)∧0 < e5 false false a b c∧e5 false false a b c < yO 2:=by
 cases a <;> cases b <;> cases c <;> exact ⟨rfl,by decide,by decide⟩
theorem of2 (a b:Bool):PV.tup ([a,b].map .bl)=stP 5 (e5 false false false a b)∧0 < e5 false false false a b∧e5 false false false a b < yO 5:=by
 cases a <;> cases b <;> exact ⟨rfl,by decide,by decide⟩
theorem ofR (d:Int) (h0:0≤d) (h3:d < 3) (a b c:Bool):∃ k,PV.tup [.int d,.bl a,.bl b,.bl c]=stP 3 k∧0 < k∧k < yO 3:=by
 have:d=0∨d=1∨d=2:=by omega
 rcases this with rfl | rfl | rfl
 ·exact ⟨eR 0 a b c,by cases a <;> cases b <;> cases c <;> rfl,by cases a <;> cases b <;> cases c <;> decide,by cases a <;> cases b <;> cases c <;> decide⟩
 ·exact ⟨eR 1 a b c,by cases a <;> cases b <;> cases c <;> rfl,by cases a <;> cases b <;> cases c <;> decide,by cases a <;> cases b <;> cases c <;> decide⟩
 ·exact ⟨eR 2 a b c,by cases a <;> cases b <;> cases c <;> rfl,by cases a <;> cases b <;> cases c <;> decide,by cases a <;> cases b <;> cases c <;> decide⟩
def yQJ (w:Nat):Nat:=match w with
 | 0=>4 | 1=>5 | 2=>3 | 3=>4 | 4=>4 | _=>2
theorem jOY {w n:Nat} {h h1:AH} (hw:w < 6) (hn:n < h.length) (b:BagAt h n h1):(uA [.cel n,.str (wF w)] h1).post (fun v h'=>(∃ c,0 < c∧c < yO w∧v=stP w c)∧BagAt h n h') NE:=by
 unfold uA
 rw [jLI]
 unfold jGE
 rw [jPV]
 refine jCX [some (.cel n),some (.str (wF w)),none,none] rfl ?_
 have bl:jEG h1 [stP w 1]=some (.int (yQJ w:Nat)):=by
  match w,hw with
  | 0,_=>rfl
  | 1,_=>rfl
  | 2,_=>rfl
  | 3,_=>rfl
  | 4,_=>rfl
  | 5,_=>rfl
  | w+6,h=>exact absurd h (by omega)
 have l6:yQJ w≤5:=by
  match w,hw with
  | 0,_=>decide
  | 1,_=>decide
  | 2,_=>decide
  | 3,_=>decide
  | 4,_=>decide
  | 5,_=>decide
  | w+6,h=>exact absurd h (by omega)
 refine uD (wV (jBP (jP (jCK (jZM (k:=yQJ w) hn b (fun _=>rfl) (fun _=>rfl) ?_ fun fl h' hl bg=>?_)))))
 ·refine jYK (jP (jBP (jP (yX (jP (jU rfl (yE ⟨⟨rfl,rfl⟩,jLQ (jKE hw) ?_⟩)))))))
  refine yE ⟨_,bl,yE ⟨_,rfl,?_⟩⟩
  refine ⟨by omega,rfl,by simp,fun v hv=>?_,rfl⟩
  obtain ⟨q,_,rfl⟩:=List.mem_map.mp hv
  rfl
 ·refine yE ⟨_,rfl,rfl,?_⟩
  match w,hw with
  | 0,_ =>
   obtain ⟨a,b,c,d,rfl⟩:∃ a b c d,fl=[a,b,c,d]:=match fl,hl with
    | [a,b,c,d],_=>⟨a,b,c,d,rfl⟩
   obtain ⟨e1,e2,e3⟩:=of40 a b c d
   (repeat walk_at "p1")
   exact ⟨⟨_,e2,e3,e1⟩,bg⟩
  | 1,_ =>
   obtain ⟨a,b,c,d,e,rfl⟩:∃ a b c d e,fl=[a,b,c,d,e]:=match fl,hl with
    | [a,b,c,d,e],_=>⟨a,b,c,d,e,rfl⟩
   obtain ⟨e1,e2,e3⟩:=of5 a b c d e
   (repeat walk_at "p1")
   exact ⟨⟨_,e2,e3,e1⟩,bg⟩
  | 2,_ =>
   obtain ⟨a,b,c,rfl⟩:∃ a b c,fl=[a,b,c]:=match fl,hl with
    | [a,b,c],_=>⟨a,b,c,rfl⟩
   obtain ⟨e1,e2,e3⟩:=of3 a b c
   (repeat walk_at "p1")
   exact ⟨⟨_,e2,e3,e1⟩,bg⟩
  | 3,_ =>
   obtain ⟨a,b,c,d,rfl⟩:∃ a b c d,fl=[a,b,c,d]:=match fl,hl with
    | [a,b,c,d],_=>⟨a,b,c,d,rfl⟩
   (repeat walk_at "p1")
   refine uF (jHT hn bg (by decide) (by decide)) fun v h' z=>?_
   obtain ⟨⟨dd,rfl,d0,d3⟩,bg⟩:=z
   obtain ⟨k,e1,e2,e3⟩:=ofR dd d0 d3 b c d
   (repeat walk_at "p1")
   exact ⟨⟨_,e2,e3,e1⟩,bg⟩
  | 4,_ =>
   obtain ⟨a,b,c,d,rfl⟩:∃ a b c d,fl=[a,b,c,d]:=match fl,hl with
    | [a,b,c,d],_=>⟨a,b,c,d,rfl⟩
   obtain ⟨e1,e2,e3⟩:=of44 a b c d
   (repeat walk_at "p1")
   exact ⟨⟨_,e2,e3,e1⟩,bg⟩
  | 5,_ =>
   obtain ⟨a,b,rfl⟩:∃ a b,fl=[a,b]:=match fl,hl with
    | [a,b],_=>⟨a,b,rfl⟩
   obtain ⟨e1,e2,e3⟩:=of2 a b
   (repeat walk_at "p1")
   exact ⟨⟨_,e2,e3,e1⟩,bg⟩
  | w+6,h=>exact absurd h (by omega)
end LW
set_option maxHeartbeats 4000000
namespace LW
open PySem PySem.Spec PyProof.Rows L2 Lp
def jKO (w:Nat) (p:SpecW):List Nat:=((endL w p).map (·.1)).filter fun c=>!Nat.beq c 0
theorem yGD {w:Nat} {p:SpecW} (hw:w < 6) (k:p.Ok):∀ c∈jKO w p,c < yO w∧c≠0:=fun c hc=>by
 obtain ⟨_,eb,_⟩:=ends hw k
 have ok:LOk w (endL w p):=jVA (fun x hx=>by simp at hx; subst hx; exact size1 hw) eb
 obtain ⟨h1,h2⟩:=List.mem_filter.mp hc
 obtain ⟨x,hx,rfl⟩:=List.mem_map.mp h1
 refine ⟨ok x hx,fun z=>?_⟩
 rw [z] at h2; cases h2
theorem yOI {w c:Nat} {h:AH} (hw:w < 6) (hc:c < yO w):fNe h (stP w c) (.tup [.str "broken"])=some (.bl (!Nat.beq c 0)):=by
 have:=yOW (h:=h) hw hc
 unfold fEq at this
 unfold fNe
 split at this
 ·rename_i d e e1 e2
  skip
  split at this
  ·rename_i o
   simp only [o,if_true]
   have:=Option.some.inj this
   injection this with this
   rw [this]
  ·cases this
 ·cases this
def chg (w lk:Nat) (s h b1 b2 b3:Bool):Bool:=match jQA w (FW w lk s h b1 b2 b3) 200 0 [(1,0)] with
 | some L=>Nat.ble L.length 100&&((match L with
  | (1,0) :: _=>true
  | _=>false)&&(List.range (yO w)).all fun c=>(FW w lk s h b1 b2 b3 c).all fun x=>Nat.ble (x.2+1) (yO w))
 | none=>false
def jKZ (w:Nat):Bool:=(List.range 3).all fun lk=>bools.all fun s=>bools.all fun h=>bools.all fun b1=>bools.all fun b2=>bools.all fun b3=>chg w lk s h b1 b2 b3
theorem chg0:jKZ 0=true:=by decide +kernel
theorem chg1:jKZ 1=true:=by decide +kernel
theorem chg2:jKZ 2=true:=by decide +kernel
theorem chg3:jKZ 3=true:=by decide +kernel
theorem chg4:jKZ 4=true:=by decide +kernel
theorem chg5:jKZ 5=true:=by decide +kernel
theorem yXP {w:Nat} {p:SpecW} (hw:w < 6) (k:p.Ok):chg w (lkN p.l) p.s p.h (pw w p).1 (pw w p).2.1 (pw w p).2.2=true:=by
 have hl:lkN p.l < 3:=by rcases k.l with e | e | e <;> rw [e] <;> decide
 have go:jKZ w=true:=by
  match w,hw with
  | 0,_=>exact chg0
  | 1,_=>exact chg1
  | 2,_=>exact chg2
  | 3,_=>exact chg3
  | 4,_=>exact chg4
  | 5,_=>exact chg5
  | w+6,h=>exact absurd h (by omega)
 have h1:=jBH go hl
 have h2:=List.all_eq_true.mp h1 p.s (jBO _)
 have h3:=List.all_eq_true.mp h2 p.h (jBO _)
 have h4:=List.all_eq_true.mp h3 _ (jBO (pw w p).1)
 have h5:=List.all_eq_true.mp h4 _ (jBO (pw w p).2.1)
 exact List.all_eq_true.mp h5 _ (jBO (pw w p).2.2)
theorem jYV {w:Nat} {p:SpecW} (hw:w < 6) (k:p.Ok):(endL w p).length≤100∧(∃ t,endL w p=(1,0) :: t)∧∀ c,c < yO w→∀ x∈Fp w p c,x.2 < yO w:=by
 have h:=yXP hw k
 obtain ⟨_,e2,_⟩:=ends hw k
 unfold chg at h
 rw [show FW w (lkN p.l) p.s p.h (pw w p).1 (pw w p).2.1 (pw w p).2.2=Fp w p from rfl,e2] at h
 obtain ⟨h1,h2⟩:=Bool.and_eq_true_iff.mp h
 obtain ⟨h2,h3⟩:=Bool.and_eq_true_iff.mp h2
 refine ⟨Nat.le_of_ble_eq_true h1,?_,fun c hc x hx=>Nat.le_of_ble_eq_true (List.all_eq_true.mp (jBH h3 hc) x hx)⟩
 split at h2
 ·exact ⟨_,by assumption⟩
 ·cases h2
theorem yDZ {w c:Nat} {p:SpecW} (hw:w < 6) (k:p.Ok) (hc:c < yO w):∀ x∈Fp w p c,x.2 < yO w:=(jYV hw k).2.2 c hc
theorem yGC {w:Nat} {p:SpecW} (hw:w < 6) (k:p.Ok):(jKO w p).length≤100:=by
 have:=List.length_filter_le (fun c=>!Nat.beq c 0) ((endL w p).map (·.1))
 have h:=(jYV hw k).1
 unfold jKO
 rw [List.length_map] at this
 omega
theorem yCH {w:Nat} {p:SpecW} (hw:w < 6) (k:p.Ok):∃ t,jKO w p=1 :: t:=by
 obtain ⟨t,e⟩:=(jYV hw k).2.1
 unfold jKO
 rw [e]
 exact ⟨_,rfl⟩
end LW
set_option maxHeartbeats 4000000
namespace LW
open PySem PySem.Spec PyProof.Rows L2 Lp
def RnD:Nat→PV→Prop
 | 0,_=>False
 | n+1,.lst xs=>xs.length≤1000∧∀ x∈xs,RnD n x
 | n+1,.tup xs=>xs.length≤1000∧∀ x∈xs,RnD n x
 | _+1,.non=>True
 | _+1,.bl _=>True
 | _+1,.int _=>True
 | _+1,.str _=>True
 | _+1,v=>∃ p,v=jFC p
theorem RnD.no:∀ {n:Nat} {v:PV},RnD n v→isOwn v=false
 | 0,_,h=>h.elim
 | _+1,.lst _,_=>rfl
 | _+1,.tup _,_=>rfl
 | _+1,.non,_=>rfl
 | _+1,.bl _,_=>rfl
 | _+1,.int _,_=>rfl
 | _+1,.str _,_=>rfl
 | _+1,.ty _,_=>rfl
 | _+1,.cls _,_=>rfl
 | _+1,.cel _,_=>rfl
 | _+1,.scr _,_=>rfl
 | _+1,.ins _ _,_=>rfl
 | _+1,.exn _ _,_=>rfl
 | _+1,.own _,⟨_,h⟩=>nomatch h
 | _+1,.don _,⟨_,h⟩=>nomatch h
theorem jXE {p:SpecW} {m:Nat}:jIS m (jFC p)=true:=rfl
theorem jKI {m:Nat}:∀ {xs:List PV},(∀ x∈xs,jIS m x=true)→celsB m xs=true
 | [],_=>rfl
 | x :: xs,h=>by
  show (jIS m x&&celsB m xs)=true
  rw [h x (List.mem_cons_self ..),jKI fun y hy=>h y (List.mem_cons_of_mem _ hy)]
  rfl
theorem RnD.cel {m:Nat}:∀ {n:Nat} {v:PV},RnD n v→jIS m v=true
 | 0,_,h=>h.elim
 | _+1,.lst _,h=>jKI fun x hx=>RnD.cel (h.2 x hx)
 | _+1,.tup _,h=>jKI fun x hx=>RnD.cel (h.2 x hx)
 | _+1,.non,_=>rfl
 | _+1,.bl _,_=>rfl
 | _+1,.int _,_=>rfl
 | _+1,.str _,_=>rfl
 | _+1,.ty _,_=>rfl
 | _+1,.cls _,_=>rfl
 | _+1,.cel _,⟨_,h⟩=>nomatch h
 | _+1,.scr _,⟨_,h⟩=>nomatch h
 | _+1,.ins _ _,⟨_,h⟩=>by rw [h]; exact jXE
 | _+1,.exn _ _,⟨_,h⟩=>nomatch h
 | _+1,.own _,⟨_,h⟩=>nomatch h
 | _+1,.don _,⟨_,h⟩=>nomatch h
theorem jWO {n:Nat} {x:PV} {h:AH} {e1:List (Option PV)} (ih:∀ (v:PV) (h:AH),RnD n v→(jDE n [v] h).post (fun r h'=>r=v∧h'=h) NE) (hx:RnD n x) (e:e1[1]?=some (some x)) :
  (vI 1 (jDE n) (jE (jK 1) jR) ⟨e1,h⟩).post (fun y s3=>y=x∧isOwn y=false∧s3=⟨e1,h⟩) NE:=by
 refine yX (jP (jU e (yE ⟨⟨rfl,by unfold yW; rw [List.all_cons,hx.no]; rfl⟩,uF (ih x h hx) fun r h' z=>?_⟩)))
 obtain ⟨rfl,rfl⟩:=z
 exact ⟨rfl,hx.no,rfl⟩
theorem jYH:∀ (n:Nat) (v:PV) (h:AH),RnD n v→(jDE n [v] h).post (fun r h'=>r=v∧h'=h) NE
 | 0,_,_,q=>q.elim
 | n+1,v,h,q=>by
  show (mkF 1 (jHV (jDE n)) [v] h).post _ _
  rw [jYW]
  unfold jRA
  refine jCX [some v,none] rfl ?_
  match v,q with
  | .lst xs,q =>
   (repeat walk_at "p1")
   refine jEK (jCY (jU rfl ⟨_,rfl,rfl,id,fun x hm=>⟨_,by show (if isOwn x=true then none else _)=_; rw [(q.2 x hm).no]; rfl,p_mono (jWO (jYH n) (q.2 x hm) rfl) (fun y s3 z=>⟨z.1,z.2.1,by rw [z.2.2]; rfl,by rw [z.2.2]⟩) fun _ _ z=>z⟩,?_⟩))
   rw [List.map_id]
   exact ⟨rfl,rfl,rfl⟩
  | .tup xs,q =>
   (repeat walk_at "p1")
   refine jEK (jCY (jU rfl ⟨_,rfl,rfl,id,fun x hm=>⟨_,by show (if isOwn x=true then none else _)=_; rw [(q.2 x hm).no]; rfl,p_mono (jWO (jYH n) (q.2 x hm) rfl) (fun y s3 z=>⟨z.1,z.2.1,by rw [z.2.2]; rfl,by rw [z.2.2]⟩) fun _ _ z=>z⟩,?_⟩))
   rw [List.map_id]
   (repeat walk_at "p1")
   try exact ⟨rfl,rfl,rfl⟩
  | .non,q =>
   (repeat walk_at "p1")
   try exact ⟨rfl,rfl,rfl⟩
  | .bl b,q =>
   (repeat walk_at "p1")
   try exact ⟨rfl,rfl,rfl⟩
  | .int i,q =>
   (repeat walk_at "p1")
   try exact ⟨rfl,rfl,rfl⟩
  | .str s,q =>
   (repeat walk_at "p1")
   try exact ⟨rfl,rfl,rfl⟩
  | .ins c fs,⟨p,hp⟩ =>
   cases hp
   (repeat walk_at "p1")
   try exact ⟨rfl,rfl,rfl⟩
  | .cel _,⟨_,h⟩=>cases h
  | .ty _,⟨_,h⟩=>cases h
  | .cls _,⟨_,h⟩=>cases h
  | .scr _,⟨_,h⟩=>cases h
  | .exn _ _,⟨_,h⟩=>cases h
  | .own _,⟨_,h⟩=>cases h
  | .don _,⟨_,h⟩=>cases h
theorem jQS {v:PV} {h:AH} (q:RnD 4 v):(wI [v] h).post (fun r h'=>r=v∧h'=h) NE:=by
 unfold wI
 exact jYH 4 v h q
theorem jXT {v:PV} {xs:List PV} {h:AH} (ev:v=.lst xs∨v=.tup xs) (q:∀ x∈xs,RnD 4 x):(jCD [v] h).post (fun r h'=>r=.lst xs∧h'=h) NE:=by
 unfold jCD
 rw [yBT]
 unfold jSW
 refine jCX [some v,none] rfl ?_
 have it:∀ (x0 x:PV) (P:PV→S→Prop),RnD 4 x→P x ⟨[some x0,some x],h⟩→(vI 1 wI (jE (jK 1) jR) ⟨[some x0,some x],h⟩).post P NE:=fun x0 x P hx hp=>by
  refine yX (jP (jU rfl (yE ⟨⟨rfl,by unfold yW; rw [List.all_cons,hx.no]; rfl⟩,uF (jQS hx) fun r h' z=>?_⟩)))
  obtain ⟨rfl,rfl⟩:=z
  exact hp
 rcases ev with rfl | rfl
 ·(repeat walk_at "p1")
  refine jEK (jCY (jU rfl ⟨_,rfl,rfl,id,fun x hm=>⟨_,by show (if isOwn x=true then none else _)=_; rw [(q x hm).no]; rfl,it _ x _ (q x hm) ⟨rfl,(q x hm).no,rfl,rfl⟩⟩,?_⟩))
  rw [List.map_id]
  exact ⟨rfl,rfl,rfl⟩
 ·(repeat walk_at "p1")
  refine jEK (jCY (jU rfl ⟨_,rfl,rfl,id,fun x hm=>⟨_,by show (if isOwn x=true then none else _)=_; rw [(q x hm).no]; rfl,it _ x _ (q x hm) ⟨rfl,(q x hm).no,rfl,rfl⟩⟩,?_⟩))
  rw [List.map_id]
  exact ⟨rfl,rfl,rfl⟩
def jEJ (p:SpecW) (wish:PV) (xs:List PV):PV:=.ins vK [jFC p,wish,.lst xs]
theorem yNL (p:SpecW) (n:Nat):RnD (n+1) (jFC p):=⟨p,rfl⟩
theorem jZG {p:SpecW} {wish:PV} {h:AH} {n:Nat} (q:RnD 4 wish) (hn:h[n]?=some (some (.ins vK []))):(zN [.cel n,jFC p,wish] h).post (fun r h'=>r=.non∧h'=h.set n (some (.ins vK [jFC p,wish]))) NE:=by
 unfold zN
 rw [jMZ]
 unfold jGQ
 refine jCX [some (.cel n),some (jFC p),some wish] rfl ?_
 have hl:n < h.length:=(List.getElem?_eq_some_iff.mp hn).1
 refine uD (jYL (yX (jP (jU rfl (yE ⟨⟨rfl,rfl⟩,uF (jQS (yNL p 3)) fun r h' z=>?_⟩)))))
 obtain ⟨rfl,rfl⟩:=z
 refine ⟨rfl,jU rfl ⟨n,_,_,_,rfl,hn,rfl,?_⟩⟩
 refine jYL (yX (jP (jU rfl (yE ⟨⟨rfl,by unfold yW; rw [List.all_cons,q.no]; rfl⟩,uF (jQS q) fun r h' z=>?_⟩))))
 obtain ⟨rfl,rfl⟩:=z
 refine ⟨q.no,jU rfl ⟨n,_,_,_,rfl,List.getElem?_set_self (by simpa using hl),rfl,?_⟩⟩
 rw [List.set_set]
 exact ⟨rfl,rfl⟩
theorem yCO {p:SpecW} {wish v:PV} {xs:List PV} {h:AH} {n:Nat} (q:RnD 4 wish) (ev:v=.lst xs∨v=.tup xs) (qx:∀ x∈xs,RnD 4 x) (hn:h[n]?=some (some (.ins vK []))):(yR [.cel n,jFC p,wish,v] h).post (fun r h'=>r=.non∧h'=h.set n (some (.ins vK [jFC p,wish,.lst xs]))) NE:=by
 unfold yR
 rw [jOA]
 unfold jHJ
 refine jCX [some (.cel n),some (jFC p),some wish,some v,none] rfl ?_
 have hl:n < h.length:=(List.getElem?_eq_some_iff.mp hn).1
 have ov:isOwn v=false:=by rcases ev with rfl | rfl <;> rfl
 refine uD (yVW rfl ⟨by unfold clsOf jLT; simp only [hn]; rfl,rfl⟩ (jP (jU rfl (jP (jU rfl (yE ⟨⟨by unfold yW; rw [List.all_cons,List.all_cons,q.no]; rfl,rfl,by unfold yW; rw [List.all_cons,List.all_cons,List.all_cons,q.no]; rfl⟩,uF (jZG q hn) fun r h' z=>?_⟩))))))
 obtain ⟨_,rfl⟩:=z
 refine jYL (yX (jP (jU rfl (yE ⟨⟨rfl,by unfold yW; rw [List.all_cons,ov]; rfl⟩,uF (jXT ev qx) fun r h' z=>?_⟩))))
 obtain ⟨rfl,rfl⟩:=z
 refine ⟨rfl,jU rfl ⟨n,_,_,_,rfl,List.getElem?_set_self (by simpa using hl),rfl,?_⟩⟩
 rw [List.set_set]
 exact ⟨rfl,rfl⟩
theorem jUF {P:PV→S→Prop} {E:PV→S→Prop} {s:S} {ma:MA} {p:SpecW} {xs:List PV} (h:(ma s).post (fun vs s1=>∃ wish v,vs=[jFC p,wish,v]∧RnD 4 wish∧(v=.lst xs∨v=.tup xs)∧(∀ x∈xs,RnD 4 x)∧P (jEJ p wish xs) s1) E) :
  (jOI vK 3 0 [0,1,2,3] [] 4 yR ma jR s).post P E:=by
 refine yPQ (p_mono h (fun vs s1 ⟨wish,v,e,q,ev,qx,hp⟩=>?_) fun _ _ z=>z)
 subst e
 have ov:isOwn v=false:=by rcases ev with rfl | rfl <;> rfl
 refine yE ⟨⟨⟨rfl,rfl⟩,by unfold yW; rw [List.all_cons,List.all_cons,List.all_cons,q.no,ov]; rfl,rfl⟩,⟨rfl,?_⟩,p_mono (yCO q ev qx (by rw [List.getElem?_append_right (Nat.le_refl _),Nat.sub_self]; rfl)) (fun r h' ⟨e1,e2⟩=>⟨e1,_,?_,?_,hp⟩) fun _ _ z=>z.elim⟩
 ·show yW [PV.cel s1.h.length,jFC p,wish,v]=true
  unfold yW; rw [List.all_cons,List.all_cons,List.all_cons,List.all_cons,q.no,ov]; rfl
 ·rw [e2]; simp
 ·show (jIS _ (jFC p)&&(jIS _ wish&&(jIS _ (PV.lst xs)&&true)))=true
  rw [jXE,q.cel]
  show (celsB _ xs&&true)=true
  rw [jKI fun x hx=>(qx x hx).cel]; rfl
end LW
set_option maxHeartbeats 4000000
namespace LW
open PySem PySem.Spec PyProof.Rows L2 Lp
theorem yOP {w:Nat} {h:AH} (hw:w < 6):((List.range (yO w)).map fun c=>uI [.str (wF w),stP w c] h)=(List.range (yO w)).map fun _=>.ok (.bl true) h:=by
 match w,hw with
 | 0,_=>kernel_rfl
 | 1,_=>kernel_rfl
 | 2,_=>kernel_rfl
 | 3,_=>kernel_rfl
 | 4,_=>kernel_rfl
 | 5,_=>kernel_rfl
 | w+6,h=>exact absurd h (by omega)
theorem jYS {w c:Nat} {h:AH} (hw:w < 6) (hc:c < yO w):uI [.str (wF w),stP w c] h=.ok (.bl true) h :=
 List.map_inj_left.mp (yOP (h:=h) hw) c (List.mem_range.mpr hc)
theorem yAH {w:Nat} {h:AH} (hw:w < 6):qY [.str (wF w)] h=.ok (.bl true) h:=by
 match w,hw with
 | 0,_=>kernel_rfl
 | 1,_=>kernel_rfl
 | 2,_=>kernel_rfl
 | 3,_=>kernel_rfl
 | 4,_=>kernel_rfl
 | 5,_=>kernel_rfl
 | w+6,h=>exact absurd h (by omega)
section
variable {α β:Type} {E:PV→S→Prop} {s:S}
theorem jUE {PA:List PV→S→Prop} {src:S→R S Sr} {t:Tg} {te:ME} {vs:List Nat}
  (h:(src s).post (fun r s1=>r.w=[]∧∃ (rs:List α) (f g:α→PV),r.xs=rs.map f∧(∀ a∈rs,isOwn (g a)=false∧∃ e1,uW t (f a) (jM s1.e vs)=some e1∧jM e1 vs=jM s1.e vs∧(te ⟨e1,s1.h⟩).post (fun y s3=>y=g a∧s3=⟨e1,s1.h⟩) NE)∧PA (rs.map g) ⟨jM s1.e vs,s1.h⟩) E) :
  (wW src t wN te vs s).post PA E:=by
 refine jHU (α:=α) (p_mono h (fun r s1 ⟨hw,rs,f,g,hx,hs,hp⟩=>⟨hw,rs,f,g,fun _=>true,hx,fun a ha=>?_,?_⟩) fun _ _ z=>z)
 ·obtain ⟨h1,e1,h2,h3,h4⟩:=hs a ha
  exact ⟨h1,e1,h2,jTR ⟨rfl,p_mono h4 (fun y s3 z=>⟨z.1,by rw [z.2]; exact h3,by rw [z.2]⟩) fun _ _ z=>z,h3,rfl⟩⟩
 ·rw [List.filter_eq_self.mpr fun _ _=>rfl]
  exact hp
end
def inL (L:List Nat) (c:Nat):Bool:=L.any fun d=>Nat.beq d c
def jHE (w:Nat) (p:SpecW) (L:List Nat):List Nat:=L.flatMap fun c=>(Fp w p c).map (·.2)
def yIH (w:Nat) (p:SpecW) (L:List Nat):Bool:=inL L 1&&(!inL L 0&&(jHE w p L).all (inL L))
theorem yXU (w lk:Nat) (s h b1 b2 b3:Bool) (c:Nat):(FW w lk s h b1 b2 b3 c).length≤20:=by
 cases c with
 | zero=>exact Nat.zero_le _
 | succ k =>
  refine Nat.le_trans (List.length_filter_le _ _) ?_
  split
  ·unfold jZZ; repeat' split
   all_goals simp
  ·unfold yPV; repeat' split
   all_goals simp
  ·unfold yEF; repeat' split
   all_goals simp
  ·unfold yXZ; repeat' split
   all_goals simp
  ·unfold jZZ; repeat' split
   all_goals simp
  ·unfold yPU; repeat' split
   all_goals simp
theorem jJE {α β:Type} {f:α→List β} {n:Nat}:∀ {L:List α},(∀ a∈L,(f a).length≤n)→(L.flatMap f).length≤n * L.length
 | [],_=>Nat.zero_le _
 | a :: L,h=>by
  rw [List.flatMap_cons,List.length_append,List.length_cons,Nat.mul_add,Nat.mul_one]
  have:=jJE (L:=L) fun b hb=>h b (List.mem_cons_of_mem _ hb)
  have:=h a (List.mem_cons_self ..)
  omega
theorem yON {w:Nat} {p:SpecW} {L:List Nat} (hw:w < 6) (k:p.Ok) (hL:∀ c∈L,c < yO w):∀ c∈jHE w p L,c < yO w:=fun c hc=>by
 obtain ⟨a,ha,hb⟩:=List.mem_flatMap.mp hc
 obtain ⟨x,hx,rfl⟩:=List.mem_map.mp hb
 exact yDZ hw k (hL a ha) x hx
def DIn (w:Nat) (acc:List (PV × PV)) (L:List Nat):Prop:=∀ c,c < yO w→(jHN acc (kap w c)).isSome=inL L c
theorem jXA {κ:NestedKey}:∀ {xs ys:List (PV × PV)},(jHN (xs++ys) κ).isSome=((jHN xs κ).isSome||(jHN ys κ).isSome)
 | [],_=>by simp [jHN]
 | x :: xs,ys=>by
  rw [List.cons_append]
  show (if jIV (nk x.1) κ=true then some x.2 else jHN (xs++ys) κ).isSome=((if jIV (nk x.1) κ=true then some x.2 else jHN xs κ).isSome||_)
  by_cases e:jIV (nk x.1) κ=true
  ·rw [if_pos e,if_pos e]; rfl
  ·rw [if_neg e,if_neg e]; exact jXA
theorem jTK {κ κ':NestedKey} {v:PV}:∀ {xs:List (PV × PV)},(jHN (jXX xs κ v) κ').isSome=(jHN xs κ').isSome
 | []=>rfl
 | x :: xs=>by
  have ih:=jTK (κ:=κ) (κ':=κ') (v:=v) (xs:=xs)
  unfold jXX at ih ⊢
  rw [List.map_cons]
  show (if jIV (nk (if jIV (nk x.1) κ=true then (x.1,v) else x).1) κ'=true then some (if jIV (nk x.1) κ=true then (x.1,v) else x).2 else jHN (xs.map fun kv=>if jIV (nk kv.1) κ=true then (kv.1,v) else kv) κ').isSome=(if jIV (nk x.1) κ'=true then some x.2 else jHN xs κ').isSome
  have e:(if jIV (nk x.1) κ=true then (x.1,v) else x).1=x.1:=by split <;> rfl
  rw [e]
  by_cases q:jIV (nk x.1) κ'=true
  ·rw [if_pos q,if_pos q]; rfl
  ·rw [if_neg q,if_neg q]; exact ih
theorem yFR {κ:NestedKey} {v:PV} {xs:List (PV × PV)}:(jXX xs κ v).length=xs.length:=by
 unfold jXX
 rw [List.length_map]
theorem DIn.put {w c:Nat} {acc:List (PV × PV)} {L:List Nat} {v:PV} (hw:w < 6) (hc:c < yO w) (d:DIn w acc L):DIn w (jTQ acc (stP w c) (kap w c) v) (L++[c]):=fun x hx=>by
 have e:inL (L++[c]) x=(inL L x||Nat.beq c x):=by unfold inL; rw [List.any_append,List.any_cons,List.any_nil,Bool.or_false]
 rw [e]
 unfold jTQ
 split
 ·rename_i q
  rw [jTK,d x hx]
  rw [d c hc] at q
  by_cases z:Nat.beq c x=true
  ·rw [← Nat.eq_of_beq_eq_true z,q]; rfl
  ·rw [Bool.eq_false_iff.mpr z,Bool.or_false]
 ·rw [jXA,d x hx]
  show (inL L x||(if jIV (nk (stP w c)) (kap w x)=true then some v else none).isSome)=_
  rw [kq hw hc hx]
  cases Nat.beq c x <;> rfl
theorem yNN {w c:Nat} {acc:List (PV × PV)} {v:PV}:(jTQ acc (stP w c) (kap w c) v).length≤acc.length+1:=by
 unfold jTQ
 split
 ·rw [yFR]; omega
 ·rw [List.length_append]; exact Nat.le_refl _
theorem yEY {w l n:Nat} {b:Bool} {h:AH} {acc:List (PV × PV)} (hw:w < 6) (hl:l < yO w) (en:h[n]?=some (some (.dic acc))):(jOV b h (stP w l) (.cel n)).or (jKX b h (stP w l) (.cel n))=none∧jVQ b h (stP w l) (.cel n)=some (.bl (b ^^ (jHN acc (kap w l)).isSome)):=by
 obtain ⟨xs,ex⟩:=jFK w l
 have t2:jHM h (.cel n)=none:=by
  show (match h[n]? with
   | some (some (.lst xs))=>(toDs xs).map PyData.list
   | _=>none)=none
  rw [en]
 have c1:yAE h (.cel n)=some acc:=by
  show (match h[n]? with
   | some (some (.dic ks))=>some ks
   | _=>none)=_
  rw [en]
 have s0:jOV b h (stP w l) (.cel n)=none:=by rw [ex]; rfl
 have s1:jKX b h (stP w l) (.cel n)=none:=by
  unfold jKX
  rw [t2]
  split
  ·rename_i q; cases q
  ·rename_i q; cases q
  ·rfl
 rw [s0,s1]
 refine ⟨rfl,?_⟩
 unfold jVQ atD
 rw [c1]
 simp only [tk hw hl,Option.map_some]
theorem yZY {w l n:Nat} {h:AH} {acc:List (PV × PV)} {L:List Nat} (hw:w < 6) (hl:l < yO w) (d:DIn w acc L) (en:h[n]?=some (some (.dic acc))):jZY h (stP w l) (.cel n)=some (.bl (!inL L l)):=by
 obtain ⟨e1,e2⟩:=yEY (b:=true) hw hl en
 show ((jOV true h (stP w l) (.cel n)).or (jKX true h (stP w l) (.cel n))).or (jVQ true h (stP w l) (.cel n))=_
 rw [e1,e2,d l hl]
 cases inL L l <;> rfl
theorem inD {w l n:Nat} {h:AH} {acc:List (PV × PV)} {L:List Nat} (hw:w < 6) (hl:l < yO w) (d:DIn w acc L) (en:h[n]?=some (some (.dic acc))):yBP h (stP w l) (.cel n)=some (.bl (inL L l)):=by
 obtain ⟨e1,e2⟩:=yEY (b:=false) hw hl en
 show ((jOV false h (stP w l) (.cel n)).or (jKX false h (stP w l) (.cel n))).or (jVQ false h (stP w l) (.cel n))=_
 rw [e1,e2,d l hl]
 cases inL L l <;> rfl
theorem jMI {w c i:Nat} {e:List (Option PV)}:uW (.n i) (stP w c) e=some (e.set i (some (stP w c))):=by
 show (if isOwn (stP w c)=true then none else _)=_
 rw [own_st]; rfl
theorem jTP {w i j:Nat} {x:Str × Nat} {e:List (Option PV)}:uW (.t [.n i,.n j]) (jOJ w x) e=some ((e.set i (some (.str x.1))).set j (some (stP w x.2))):=by
 obtain ⟨xs,exs⟩:=jFK w x.2
 unfold jOJ
 rw [exs]; rfl
theorem jRI {w:Nat} {p:SpecW} {L:List Nat} {h:AH} (hw:w < 6) (k:p.Ok) (hL:∀ c∈L,c < yO w) (hz:L.length≤300) :
  (yZ [jEJ p (.str (wF w)) (L.map (stP w))] h).post (fun v h'=>v=.bl (yIH w p L)∧∃ g,h'=h++g) NE:=by
 unfold yZ
 rw [jGU]
 unfold jEP
 refine jCX [some (jEJ p (.str (wF w)) (L.map (stP w))),none,none,none,none,none] rfl ?_
 have e1:jPY ifl "way" h (jEJ p (.str (wF w)) (L.map (stP w)))=some (jFC p):=rfl
 have e2:jPY ifl "wish" h (jEJ p (.str (wF w)) (L.map (stP w)))=some (.str (wF w)):=rfl
 have e3:jPY ifl "own_stands" h (jEJ p (.str (wF w)) (L.map (stP w)))=some (.lst (L.map (stP w))):=rfl
 have i1:jVS vJ h [jFC p,.cls vJ]=some (.bl true):=rfl
 refine uD (wZ (qI (uG (jBY (jBP (jP (jET (jU rfl ⟨_,e1,jP (p_c (yE ⟨_,i1,_,rfl,?_⟩))⟩))))))))
 refine zA rfl (qI (uG (jBY (yX (jP (jET (jU rfl ⟨_,e2,yE ⟨⟨rfl,rfl⟩,jLQ (yAH hw) ⟨_,rfl,?_⟩⟩⟩)))))))
 refine zA rfl (uG (jBY (jBP (jP (jET (jU rfl ⟨_,e3,jP (p_c (yE ⟨_,rfl,_,rfl,?_⟩))⟩))))))
 refine zA rfl (zB ?_)
 refine uD (wZ (uG (jBY (jBP (jP (jCK (jUE (α:=Nat) (jCY (jET (jU rfl ⟨_,e3,_,rfl,rfl,L,stP w,fun _=>.bl true,rfl,fun c hc=>⟨rfl,_,jMI,rfl,?_⟩,?_⟩))))))))))
 ·refine yX (jP (jET (jU rfl ⟨_,e2,jP (jU rfl (yE ⟨⟨rfl,by unfold yW; rw [List.all_cons,List.all_cons,own_st]; rfl⟩,jLQ (jYS hw (hL c hc)) ⟨rfl,rfl⟩⟩))⟩)))
 have at_:jHO h [.lst (L.map fun _=>PV.bl true)]=some (.bl true):=by
  have:=jMQ (h:=h) (L.map fun _=>PV.non)
  rw [List.map_map] at this
  exact this
 refine yE ⟨_,at_,_,rfl,zA rfl (zB ?_)⟩
 refine uD (wV (yYW (jCY (jET (jU rfl ⟨_,e3,_,rfl,fun j acc h'=>h'=h∧acc.length≤j∧DIn w acc (L.take j),rfl,⟨rfl,Nat.le_refl _,fun _ _=>rfl⟩,fun j x acc h' ex ⟨i1,i2,i3⟩=>?_,fun acc h' ⟨i1,i2,i3⟩=>?_⟩)))))
 ·subst i1
  have ex:(L.map (stP w))[j]?=some x:=ex
  rw [List.getElem?_map] at ex
  cases ec:L[j]? with
  | none=>rw [ec] at ex; cases ex
  | some c =>
   rw [ec] at ex
   obtain rfl:=Option.some.inj ex
   have hj:=(List.getElem?_eq_some_iff.mp ec).1
   have hc:=hL c (List.mem_of_getElem? ec)
   refine ⟨_,jMI,jTR ?_⟩
   rw [if_pos rfl]
   refine jU rfl (p_c ⟨kap w c,tk hw hc,rfl,by rw [sizeLine_eq]; omega,⟨rfl,Nat.le_trans yNN (by omega),?_⟩,rfl⟩)
   rw [jKA ec]
   exact i3.put hw hc
 subst i1
 have i3:DIn w acc L:=by
  have z:(L.map (stP w)).length=L.length:=List.length_map _
  have i3:DIn w acc (L.take (L.map (stP w)).length):=i3
  rw [z,List.take_length] at i3
  exact i3
 have en:(h'++[some (Cell.dic acc)])[h'.length]?=some (some (.dic acc)):=by simp
 refine ⟨rfl,?_⟩
 refine uD (wZ (qI (jCT (uE (yX (jP (jET (jU rfl ⟨_,rfl,yE ⟨⟨rfl,rfl⟩,jLQ (yHE hw) (jU rfl ⟨_,yZY hw (size1 hw) i3 en,_,rfl,?_⟩)⟩⟩))))))))
 unfold yIH
 cases q1:inL L 1 with
 | false=>exact zV rfl (zV rfl (kE (p_c ⟨rfl,rfl,_,rfl⟩)))
 | true =>
  refine zA rfl (jCT (uE (p_c (jU rfl ⟨_,inD (l:=0) hw (size0 hw) i3 en,_,rfl,?_⟩))))
  cases q0:inL L 0 with
  | true=>exact zV rfl (kE (p_c ⟨rfl,rfl,_,rfl⟩))
  | false =>
   refine zA rfl (zB ?_)
   refine uD (wV (jCK (yGG (α:=Nat) (β:=Str × Nat) (jCY (jET (jU rfl ⟨_,rfl,_,rfl,rfl,rfl,L,stP w,Fp w p,jOJ w,fun _ _=>true,fun _ x=>stP w x.2,rfl,fun c hc=>⟨_,jMI,jTR ⟨rfl,rfl⟩,rfl,rfl,?_,fun x hx=>⟨_,jTP,rfl,jTR ⟨rfl,rfl⟩,jU rfl ⟨rfl,own_st w _,rfl⟩⟩⟩,?_,?_⟩))))))
   ·refine jCY (yX (jP (jET (jU rfl ⟨_,rfl,jP (jET (jU rfl ⟨_,rfl,jP (jU rfl (yE ⟨⟨rfl,by unfold yW; rw [List.all_cons,List.all_cons,List.all_cons,own_st]; rfl⟩,jLQ (yQV k w hw c (hL c hc) _) ⟨_,rfl,rfl,rfl,rfl,rfl⟩⟩))⟩))⟩))))
   ·have e0:(L.flatMap fun a=>((Fp w p a).filter fun _=>true).map fun x=>stP w x.2)=(jHE w p L).map (stP w):=by
     unfold jHE
     rw [List.map_flatMap]
     refine congrArg (fun f=>L.flatMap f) (funext fun a=>?_)
     rw [List.filter_eq_self.mpr fun _ _=>rfl,List.map_map]; rfl
    rw [e0,List.length_map,sizeLine_eq]
    have:=jJE (f:=fun c=>(Fp w p c).map (·.2)) (n:=20) (L:=L) fun a _=>by rw [List.length_map]; exact yXU ..
    unfold jHE
    omega
   ·have e0:(L.flatMap fun a=>((Fp w p a).filter fun _=>true).map fun x=>stP w x.2)=(jHE w p L).map (stP w):=by
     unfold jHE
     rw [List.map_flatMap]
     refine congrArg (fun f=>L.flatMap f) (funext fun a=>?_)
     rw [List.filter_eq_self.mpr fun _ _=>rfl,List.map_map]; rfl
    rw [e0]
    have hM:=yON hw k hL
    refine ⟨rfl,kE (jBP (jP (jCK (jUE (α:=Nat) (jCY (jU rfl ⟨_,rfl,rfl,jHE w p L,stP w,fun c=>.bl (inL L c),rfl,fun c hc=>⟨rfl,_,jMI,rfl,?_⟩,?_⟩))))))⟩
    ·exact uE (jU rfl (jU rfl ⟨_,inD hw (hM c hc) i3 en,rfl,rfl⟩))
    ·have ea:jHO (h'++[some (Cell.dic acc)]) [.lst ((jHE w p L).map fun c=>PV.bl (inL L c))]=some (.bl ((jHE w p L).all (inL L))):=by
      have:=yBK (h:=h'++[some (Cell.dic acc)]) ((jHE w p L).map (inL L))
      rw [List.map_map,List.all_map] at this
      exact this
     exact yE ⟨_,ea,rfl,rfl,_,rfl⟩
end LW
set_option maxHeartbeats 4000000
namespace LW
open PySem PySem.Spec PyProof.Rows L2 Lp
theorem in_list {w l:Nat} {L:List Nat} {h:AH} (hw:w < 6) (hl:l < yO w) (hL:∀ c∈L,c < yO w):fIn h (stP w l) (.lst (L.map (stP w)))=some (.bl (inL L l)):=by
 obtain ⟨xs,ex⟩:=jFK w l
 have e1:=td hw hl
 have e2:=jLX hw hL
 have d1:=dd4 hw hl
 have d2:=jQX hw hL
 have ez:(L.map (dS w)).any (fun z=>PyData.eqv z (dS w l))=L.any fun c=>Nat.beq c l:=by
  rw [List.any_map]
  have:∀ (M:List Nat),(∀ c∈M,c < yO w)→M.any ((fun z=>PyData.eqv z (dS w l)) ∘ dS w)=M.any fun c=>Nat.beq c l:=by
   intro M
   induction M with
   | nil=>intro _; rfl
   | cons c M ih =>
    intro hM
    rw [List.any_cons,List.any_cons,ih fun c hc=>hM c (List.mem_cons_of_mem _ hc)]
    show (PyData.eqv (dS w c) (dS w l)||_)=_
    rw [dq hw (hM c (List.mem_cons_self ..)) hl]
  exact this L hL
 have t1:jHM h (stP w l)=some (dS w l):=by rw [← e1,ex]; rfl
 have t2:jHM h (.lst (L.map (stP w)))=some (.list (L.map (dS w))):=by
  show (toDs (L.map (stP w))).map PyData.list=_
  rw [e2]; rfl
 have s0:jOV false h (stP w l) (.lst (L.map (stP w)))=none:=by rw [ex]; rfl
 show (jOV false h (stP w l) (.lst (L.map (stP w)))).or (jKX false h (stP w l) (.lst (L.map (stP w))))=_
 rw [s0]
 unfold jKX
 rw [t1,t2]
 have o1:dOk (dS w l)=true:=decide_eq_true (by omega)
 have o2:dOk (.list (L.map (dS w)))=true:=decide_eq_true (by simp only [PyData.depth]; omega)
 simp only [o1,o2,Bool.and_self,if_true,ez,Bool.false_xor]
 rfl
theorem yWX {w:Nat} {M:List Nat} {h:AH} (hw:w < 6) (hM:∀ c∈M,c < yO w):fNe h (.lst (M.map (stP w))) (.lst [])=some (.bl (!M.isEmpty)):=by
 have t1:jHM h (.lst (M.map (stP w)))=some (.list (M.map (dS w))):=by
  show (toDs _).map PyData.list=_
  rw [jLX hw hM]; rfl
 have t0:jHM h (.lst [])=some (.list []):=rfl
 have o1:dOk (.list (M.map (dS w)))=true:=jXB (n:=4) (fun d hd=>by
  obtain ⟨y,hy,rfl⟩:=List.mem_map.mp hd
  exact dd4 hw (hM y hy)) (by decide)
 have o2:dOk (.list [])=true:=by decide +kernel
 unfold fNe
 rw [t1,t0]
 simp only [o1,o2,Bool.and_self,if_true]
 cases M <;> rfl
theorem yXM {w:Nat} {p:SpecW} {L:List Nat}:(jHE w p L).all (inL L)=L.all fun c=>(Fp w p c).all fun x=>inL L x.2:=by
 unfold jHE
 rw [List.all_flatMap]
 refine congrArg (fun f=>L.all f) (funext fun c=>?_)
 rw [List.all_map]; rfl
theorem yHJ {w:Nat} {p:SpecW} {L:List Nat} {h:AH} (hw:w < 6) (k:p.Ok) (hL:∀ c∈L,c < yO w) (hz:L.length≤300) :
  (uU [p.v,.str (wF w),.lst (L.map (stP w))] h).post (fun v h'=>v=.bl (yIH w p L)∧h'=h) NE:=by
 unfold uU
 rw [jMX]
 unfold jGO
 refine jCX [some p.v,some (.str (wF w)),some (.lst (L.map (stP w))),none,none,none] rfl ?_
 have n1:jKV h (stP w 1) (.lst (L.map (stP w)))=some (.bl (!inL L 1)):=jQV hw (size1 hw) hL
 have n0:fIn h (stP w 0) (.lst (L.map (stP w)))=some (.bl (inL L 0)):=in_list hw (size0 hw) hL
 refine uD (wZ (qI (jCT (uE (yX (jP (jU rfl (yE ⟨⟨rfl,rfl⟩,jLQ (jKE hw) (jU rfl ⟨_,n1,_,rfl,?_⟩)⟩))))))))
 unfold yIH
 cases q1:inL L 1 with
 | false=>exact zV rfl (zV rfl (kE (p_c ⟨rfl,rfl,rfl⟩)))
 | true =>
  refine zA rfl (jCT (uE (jAA (jP (p_c (yE ⟨⟨rfl,Nat.le_of_ble_eq_true rfl⟩,jU rfl ⟨_,n0,_,rfl,?_⟩⟩))))))
  cases q0:inL L 0 with
  | true=>exact zV rfl (kE (p_c ⟨rfl,rfl,rfl⟩))
  | false =>
   refine zA rfl (zB ?_)
   rw [yXM]
   refine uD (jQD (jCY (jU rfl ⟨_,rfl,rfl,rfl,by rw [sizeLine_eq]; show (L.map (stP w)).length≤_; rw [List.length_map]; omega,jQG (fun j s=>(∃ x:Option PV,s=⟨[some p.v,some (.str (wF w)),some (.lst (L.map (stP w))),x,none,none],h⟩)∧(L.take j).all (fun c=>(Fp w p c).all fun x=>inL L x.2)=true) ⟨⟨_,rfl⟩,rfl⟩ (fun j v s e i=>?_) fun s i=>?_⟩)))
   ·obtain ⟨⟨x3,rfl⟩,i⟩:=i
    have e:(L.map (stP w))[j]?=some v:=e
    rw [List.getElem?_map] at e
    cases ec:L[j]? with
    | none=>rw [ec] at e; cases e
    | some c =>
     rw [ec] at e
     obtain rfl:=Option.some.inj e
     have hc:=hL c (List.mem_of_getElem? ec)
     refine ⟨_,jMI,?_⟩
     dsimp only [List.set_cons_succ,List.set_cons_zero]
     have nn:∀ x∈Fp w p c,jKV h (stP w x.2) (.lst (L.map (stP w)))=some (.bl (!inL L x.2)):=fun x hx=>jQV hw (yDZ hw k hc x hx) hL
     have em:∀ (F:List (Str × Nat)),(F.map fun x=>stP w x.2)=(F.map (·.2)).map (stP w):=fun F=>by rw [List.map_map]; rfl
     have hM:∀ d∈((Fp w p c).filter fun x=>!inL L x.2).map (·.2),d < yO w:=fun d hd=>by
      obtain ⟨x,hx,rfl⟩:=List.mem_map.mp hd
      exact yDZ hw k hc x (List.mem_filter.mp hx).1
     refine wZ (jCT (uE (jCK (jHU (α:=Str × Nat) (jCY (yX (jP (jU rfl (jP (jU rfl (jP (jU rfl (yE ⟨⟨rfl,by unfold yW; rw [List.all_cons,List.all_cons,List.all_cons,own_st]; rfl⟩,jLQ (sl_all k w hw c hc _) ⟨_,rfl,rfl,Fp w p c,jOJ w,fun x=>stP w x.2,fun x=>!inL L x.2,rfl,fun x hx=>⟨own_st w _,_,jTP,jCT (uE (jU rfl (jU rfl ⟨_,nn x hx,_,rfl,rfl,jU rfl ⟨rfl,rfl,rfl⟩,rfl,rfl⟩)))⟩,?_⟩⟩)))))))))))))
     rw [em]
     refine zK (yE ⟨⟨rfl,Nat.le_of_ble_eq_true rfl⟩,_,yWX hw hM,_,rfl,?_⟩)
     have tk:(L.take (j+1)).all (fun c=>(Fp w p c).all fun x=>inL L x.2)=(Fp w p c).all fun x=>inL L x.2:=by
      rw [jKA ec,List.all_append,i,List.all_cons,List.all_nil,Bool.and_true,Bool.true_and]
     cases ef:((Fp w p c).filter fun x=>!inL L x.2) with
     | nil =>
      refine zA rfl (zB ⟨⟨_,rfl⟩,?_⟩)
      rw [tk,List.all_eq_true]
      intro x hx
      cases q:inL L x.2 with
      | true=>rfl
      | false =>
       have:=List.filter_eq_nil_iff.mp ef x hx
       rw [q] at this
       exact absurd rfl this
     | cons x M =>
      refine zV rfl (kE (p_c ⟨rfl,?_,rfl⟩))
      have hx:=List.mem_filter.mp (show x∈(Fp w p c).filter fun x=>!inL L x.2 by rw [ef]; exact List.mem_cons_self ..)
      have:(L.all fun c=>(Fp w p c).all fun x=>inL L x.2)=false:=by
       rw [List.all_eq_false]
       refine ⟨c,List.mem_of_getElem? ec,fun z=>?_⟩
       have z2:=List.all_eq_true.mp z x hx.1
       have h2:=hx.2
       rw [z2] at h2
       cases h2
      rw [this]; rfl
   ·obtain ⟨⟨x3,rfl⟩,i⟩:=i
    have z:(L.map (stP w)).length=L.length:=List.length_map _
    have i:(L.take (L.map (stP w)).length).all (fun c=>(Fp w p c).all fun x=>inL L x.2)=true:=i
    rw [z,List.take_length] at i
    rw [i]
    exact kE (p_c ⟨rfl,rfl,rfl⟩)
end LW
set_option maxHeartbeats 4000000
namespace LW
open PySem PySem.Spec PyProof.Rows L2 Lp
theorem yHG {h:AH} {xs:List PV} {n:Nat}:fSl h (.lst xs) (some ((n:Nat):Int)) none=some (.lst (xs.drop n)):=by
 show some (PV.lst (jGS xs (some ((n:Nat):Int)) none))=_
 unfold jGS
 rw [HT.sIx_nat,HT.sIx_none]
 congr 2
 by_cases hn:n≤xs.length
 ·rw [Nat.min_eq_left hn,List.take_of_length_le (by rw [List.length_drop]; omega)]
 ·rw [Nat.min_eq_right (by omega),List.drop_length,List.drop_of_length_le (by omega),List.take_nil]
theorem yBH {x:PV} {i:Nat} {e:List (Option PV)} (o:isOwn x=false):uW (.n i) x e=some (e.set i (some x)):=by
 show (if isOwn x=true then none else _)=_
 rw [o]; rfl
theorem yZT {h:AH} {n i:Nat} {xs:List PV} (e:h[n]?=some (some (.lst xs))):fSl h (.cel n) (some ((i:Nat):Int)) none=some (.lst (xs.drop i)):=by
 have e1:asL h (.cel n)=some xs:=by
  show (match h[n]? with
   | some (some (.lst xs))=>some xs
   | _=>none)=_
  rw [e]
 have e2:fSl h (.cel n) (some ((i:Nat):Int)) none=(asL h (.cel n)).map fun xs=>PV.lst (jGS xs (some ((i:Nat):Int)) none):=rfl
 rw [e2,e1]
 exact yHG (h:=h) (xs:=xs) (n:=i)
theorem yYO {h:AH} {n i:Nat} {xs:List PV} (e:h[n]?=some (some (.lst xs))):fSl h (.cel n) none (some ((i:Nat):Int))=some (.lst (xs.take i)):=by
 have e1:asL h (.cel n)=some xs:=by
  show (match h[n]? with
   | some (some (.lst xs))=>some xs
   | _=>none)=_
  rw [e]
 have e2:fSl h (.cel n) none (some ((i:Nat):Int))=(asL h (.cel n)).map fun xs=>PV.lst (jGS xs none (some ((i:Nat):Int))):=rfl
 rw [e2,e1]
 show some (PV.lst (jGS xs none (some ((i:Nat):Int))))=_
 unfold jGS
 rw [HT.sIx_nat,HT.sIx_none]
 simp
theorem yCR {w:Nat} {p:SpecW} {xs:List PV} {h:AH} (f:PV→Bool) (hw:w < 6) (hx:∀ x∈xs,isOwn x=false∧∀ h,uI [.str (wF w),x] h=.ok (.bl (f x)) h) (hf:(xs.map f).all (fun b=>b)=false) :
  (yZ [jEJ p (.str (wF w)) xs] h).post (fun v h'=>v=.bl false∧h'=h) NE:=by
 unfold yZ
 rw [jGU]
 unfold jEP
 refine jCX [some (jEJ p (.str (wF w)) xs),none,none,none,none,none] rfl ?_
 have e1:jPY ifl "way" h (jEJ p (.str (wF w)) xs)=some (jFC p):=rfl
 have e2:jPY ifl "wish" h (jEJ p (.str (wF w)) xs)=some (.str (wF w)):=rfl
 have e3:jPY ifl "own_stands" h (jEJ p (.str (wF w)) xs)=some (.lst xs):=rfl
 have i1:jVS vJ h [jFC p,.cls vJ]=some (.bl true):=rfl
 refine uD (wZ (qI (uG (jBY (jBP (jP (jET (jU rfl ⟨_,e1,jP (p_c (yE ⟨_,i1,_,rfl,?_⟩))⟩))))))))
 refine zA rfl (qI (uG (jBY (yX (jP (jET (jU rfl ⟨_,e2,yE ⟨⟨rfl,rfl⟩,jLQ (yAH hw) ⟨_,rfl,?_⟩⟩⟩)))))))
 refine zA rfl (uG (jBY (jBP (jP (jET (jU rfl ⟨_,e3,jP (p_c (yE ⟨_,rfl,_,rfl,?_⟩))⟩))))))
 refine zA rfl (zB ?_)
 refine uD (wZ (uG (jBY (jBP (jP (jCK (jUE (α:=PV) (jCY (jET (jU rfl ⟨_,e3,_,rfl,rfl,xs,id,fun x=>.bl (f x),(List.map_id _).symm,fun x hc=>⟨rfl,_,yBH (hx x hc).1,rfl,?_⟩,?_⟩))))))))))
 ·refine yX (jP (jET (jU rfl ⟨_,e2,jP (jU rfl (yE ⟨⟨rfl,by unfold yW; show (!isOwn (PV.str (wF w))&&(!isOwn x&&true))=true; rw [(hx x hc).1]; rfl⟩,jLQ ((hx x hc).2 _) ⟨rfl,rfl⟩⟩))⟩)))
 have at_:jHO h [.lst (xs.map fun x=>PV.bl (f x))]=some (.bl false):=by rw [all_map,hf]
 exact yE ⟨_,at_,_,rfl,zV rfl (kE (p_c ⟨rfl,rfl,rfl⟩))⟩
theorem jSG {p:SpecW} {wish:PV} {xs:List PV} {h:AH} (o:isOwn wish=false) (hw:∀ h,qY [wish] h=.ok (.bl false) h) :
  (yZ [jEJ p wish xs] h).post (fun v h'=>v=.bl false∧h'=h) NE:=by
 unfold yZ
 rw [jGU]
 unfold jEP
 refine jCX [some (jEJ p wish xs),none,none,none,none,none] rfl ?_
 have e1:jPY ifl "way" h (jEJ p wish xs)=some (jFC p):=rfl
 have e2:jPY ifl "wish" h (jEJ p wish xs)=some wish:=rfl
 have i1:jVS vJ h [jFC p,.cls vJ]=some (.bl true):=rfl
 refine uD (wZ (qI (uG (jBY (jBP (jP (jET (jU rfl ⟨_,e1,jP (p_c (yE ⟨_,i1,_,rfl,?_⟩))⟩))))))))
 refine zA rfl (qI (uG (jBY (yX (jP (jET (jU rfl ⟨_,e2,yE ⟨⟨rfl,by unfold yW; rw [List.all_cons,o]; rfl⟩,jLQ (hw _) ⟨_,rfl,?_⟩⟩⟩)))))))
 exact zV rfl (zV rfl (kE (p_c ⟨rfl,rfl,rfl⟩)))
def itS (w:Nat):List PV:=match w with
 | 0=>[.bl false,.bl false,.bl false,.bl false]
 | 1=>[.bl false,.bl false,.bl false,.bl false,.bl false]
 | 2=>[.bl false,.bl false,.bl false]
 | 3=>[.int 0,.bl false,.bl false,.bl false]
 | 4=>[.bl false,.bl false,.bl false,.bl false]
 | _=>[.bl false,.bl false]
def jTS (w:Nat):List PV:=[.non,.int 3,.tup [],.lst (itS w),.tup (itS w).dropLast,.str "broken", .tup [.bl true],.lst [.tup [.str "broken"]]]
theorem yOF {w:Nat} {h:AH} (hw:w < 6):((jTS w).map fun x=>uI [.str (wF w),x] h)=(jTS w).map fun _=>.ok (.bl false) h:=by
 match w,hw with
 | 0,_=>kernel_rfl
 | 1,_=>kernel_rfl
 | 2,_=>kernel_rfl
 | 3,_=>kernel_rfl
 | 4,_=>kernel_rfl
 | 5,_=>kernel_rfl
 | w+6,h=>exact absurd h (by omega)
theorem yEQ {w:Nat} {x:PV} (hw:w < 6) (hx:x∈jTS w) (h:AH):uI [.str (wF w),x] h=.ok (.bl false) h :=
 List.map_inj_left.mp (yOF (h:=h) hw) x hx
theorem yPZ {w:Nat} (hw:w < 6):stP w 1=.tup (itS w):=by
 match w,hw with
 | 0,_=>rfl
 | 1,_=>rfl
 | 2,_=>rfl
 | 3,_=>rfl
 | 4,_=>rfl
 | 5,_=>rfl
 | w+6,h=>exact absurd h (by omega)
theorem jWL {n:Nat} {x:PV} (h:x=.non∨(∃ b,x=.bl b)∨(∃ i,x=.int i)∨∃ s,x=.str s):RnD (n+1) x:=by
 rcases h with rfl | ⟨_,rfl⟩ | ⟨_,rfl⟩ | ⟨_,rfl⟩ <;> exact True.intro
theorem yEG (w c:Nat):∃ xs,stP w c=.tup xs∧xs.length≤10∧∀ x∈xs,x=.non∨(∃ b,x=.bl b)∨(∃ i,x=.int i)∨∃ s,x=.str s:=by
 unfold stP
 split
 ·refine ⟨_,rfl,Nat.le_of_ble_eq_true rfl,fun x hx=>?_⟩
  rcases List.mem_singleton.mp hx with rfl
  exact .inr (.inr (.inr ⟨_,rfl⟩))
 ·split <;> refine ⟨_,rfl,Nat.le_of_ble_eq_true rfl,fun x hx=>?_⟩ <;>
   (simp only [List.mem_cons,List.not_mem_nil,or_false] at hx; rcases hx with rfl | rfl | rfl | rfl | rfl <;> first | exact .inr (.inl ⟨_,rfl⟩) | exact .inr (.inr (.inl ⟨_,rfl⟩)))
theorem yEL (n w c:Nat):RnD (n+2) (stP w c):=by
 obtain ⟨xs,e,hl,h⟩:=yEG w c
 rw [e]
 exact ⟨by omega,fun x hx=>jWL (h x hx)⟩
theorem jUT {w:Nat} {x:PV} (hw:w < 6) (hx:x∈jTS w):RnD 4 x:=by
 have hs:∀ y∈itS w,RnD 3 y:=fun y hy=>by
  obtain ⟨xs,e,_,h⟩:=yEG w 1
  rw [yPZ hw] at e
  injection e with e
  subst e
  exact jWL (h y hy)
 have hl:(itS w).length≤1000:=by
  match w,hw with
  | 0,_=>decide
  | 1,_=>decide
  | 2,_=>decide
  | 3,_=>decide
  | 4,_=>decide
  | 5,_=>decide
  | w+6,h=>exact absurd h (by omega)
 simp only [jTS,List.mem_cons,List.not_mem_nil,or_false] at hx
 rcases hx with rfl | rfl | rfl | rfl | rfl | rfl | rfl | rfl
 ·exact True.intro
 ·exact True.intro
 ·exact ⟨by decide,fun _ h=>by cases h⟩
 ·exact ⟨hl,hs⟩
 ·exact ⟨by rw [List.length_dropLast]; omega,fun y hy=>hs y (List.dropLast_subset _ hy)⟩
 ·exact True.intro
 ·exact ⟨by decide,fun y hy=>by rcases List.mem_singleton.mp hy with rfl; exact True.intro⟩
 ·refine ⟨by decide,fun y hy=>?_⟩
  rcases List.mem_singleton.mp hy with rfl
  exact ⟨by decide,fun y hy=>by rcases List.mem_singleton.mp hy with rfl; exact True.intro⟩
theorem jUB {h:AH} {i:Nat} {xs:List PV}:fSl h (.lst xs) none (some ((i:Nat):Int))=some (.lst (xs.take i)):=by
 have:=yYO (h:=[some (.lst xs)]) (n:=0) (i:=i) (xs:=xs) rfl
 exact this
theorem jQQ {h:AH} {i:Nat} {xs:List PV}:fSl h (.lst xs) (some ((i:Nat):Int)) none=some (.lst (xs.drop i)):=by
 have:=yZT (h:=[some (.lst xs)]) (n:=0) (i:=i) (xs:=xs) rfl
 exact this
end LW
set_option maxHeartbeats 4000000
namespace LW
open PySem PySem.Spec PyProof.Rows L2 Lp
def jHQ (R:List Nat) (a:Nat):List (List Nat):=[R,R.reverse,R.take a++R.drop (a+1),R.drop 1,[],R++R.take a,R++[0]]
def jNN (R:List Nat) (a c d:Nat):List (List Nat):=[R++[c],[1],R.take a++[d,d]]
def stL (w:Nat) (L:List Nat):PV:=.lst (L.map (stP w))
theorem yYP {h:AH} {xs:List PV}:fSl h (.lst xs) (some 1) none=some (.lst (xs.drop 1)):=jQQ (i:=1)
theorem vAC {h:AH} {a:Nat}:uB h (.int (a:Nat)) (.int 1)=some (.int ((a+1:Nat):Int)):=rfl
theorem jIJ {h:AH} {a b:List PV} (hl:a.length+b.length≤1000):uB h (.lst a) (.lst b)=some (.lst (a++b)):=yHH (by rw [sizeLine_eq]; omega)
section
variable {w a:Nat} {R:List Nat} {e:List (Option PV)} {h:AH}
theorem jXO (e6:e[6]?=some (some (.lst (R.map (stP w))))) (e7:e[7]?=some (some (.int (a:Nat)))) (hz:R.length≤100) :
  (jAI (jE (jK 6) (jE (jZS (jK 6)) (jE (jZ uB (jIR (jK 6) jBR (jBQ (jK 7))) (jIR (jK 6) (jBQ (jZ uB (jK 7) (xEC (.int 1)))) jBR)) (jE (jIR (jK 6) (jBQ (xEC (.int 1))) jBR) (jE (jAI jR) (jE (jZ uB (jK 6) (jIR (jK 6) jBR (jBQ (jK 7)))) (jE (jZ uB (jK 6) (jAI (jE (jBF (jE (xEC (.str "broken")) jR)) jR))) jR))))))) ⟨e,h⟩).post (fun v s1=>v=.lst ((jHQ R a).map (stL w))∧s1=⟨e,h⟩) NE:=by
 have z1:((R.map (stP w)).take a).length+((R.map (stP w)).drop (a+1)).length≤1000:=by rw [List.length_take,List.length_drop,List.length_map]; omega
 have z2:(R.map (stP w)).length+((R.map (stP w)).take a).length≤1000:=by rw [List.length_take,List.length_map]; omega
 have z3:(R.map (stP w)).length+[PV.tup [PV.str "broken"]].length≤1000:=by rw [List.length_map]; show _+1≤_; omega
 refine zK (jP (jU e6 (jP (yYT (jU e6 ⟨_,rfl,jP (uE (jCU (jU e6 (vW (vU (jU e7 ⟨_,rfl,_,jUB,?_⟩))))))⟩)))))
 refine jCU (jU e6 (vU (uE (jU e7 (p_c ⟨_,vAC,_,rfl,vW ⟨_,jQQ,_,jIJ z1,?_⟩⟩)))))
 refine jP (jCU (jU e6 (vU (p_c ⟨_,rfl,vW ⟨_,yYP,?_⟩⟩))))
 refine jP (zK (yE ⟨⟨rfl,Nat.le_of_ble_eq_true rfl⟩,?_⟩))
 refine jP (uE (jU e6 (jCU (jU e6 (vW (vU (jU e7 ⟨_,rfl,_,jUB,_,jIJ z2,?_⟩)))))))
 refine jP (uE (jU e6 (zK (jP (jAA (jP (p_c (yE ⟨⟨rfl,Nat.le_of_ble_eq_true rfl⟩,yE ⟨⟨rfl,Nat.le_of_ble_eq_true rfl⟩,_,jIJ z3,?_⟩⟩))))))))
 refine yE ⟨⟨rfl,Nat.le_of_ble_eq_true rfl⟩,?_,rfl⟩
 simp only [jHQ,stL,List.map_cons,List.map_nil,List.map_append,List.map_take,List.map_drop,List.map_reverse]
 rfl
theorem mul2 {d:Nat}:jBZ h (.lst [stP w d]) (.int 2)=some (.lst [stP w d,stP w d]):=by
 obtain ⟨xs,ex⟩:=jFK w d
 rw [ex]; rfl
theorem jXN {g0:AH} {d:Nat} (hw:w < 6) (hg:0 < g0.length) (bg:BagAt g0 0 h) (e1:e[1]?=some (some (.cel 0))) (e5:e[5]?=some (some (.str (wF w)))) (e6:e[6]?=some (some (.lst (R.map (stP w))))) (e7:e[7]?=some (some (.int (a:Nat))))
  (e8:e[8]?=some (some (.lst ((jHQ R a).map (stL w))))) (hd:R[a]?=some d) (hz:R.length≤100) :
  (jZ uB (jK 8) (jAI (jE (jZ uB (jK 6) (jAI (jE (vI 2 uA (jE (jK 1) (jE (jK 5) jR))) jR))) (jE (jAI (jE (vI 1 yU (jE (jK 5) jR)) jR)) (jE (jZ uB (jIR (jK 6) jBR (jBQ (jK 7))) (jZ jBZ (jAI (jE (jZ fIx (jK 6) (jK 7)) jR)) (xEC (.int 2)))) jR)))) ⟨e,h⟩).post
   (fun v s1=>∃ c h',c < yO w∧v=.lst ((jHQ R a++jNN R a c d).map (stL w))∧s1=⟨e,h'⟩∧BagAt g0 0 h') NE:=by
 have one:∀ x:PV,isOwn x=false→yW [x]=true:=fun x o=>by unfold yW; rw [List.all_cons,o]; rfl
 refine uE (jU e8 (zK (jP (uE (jU e6 (zK (jP (yX (jP (jU e1 (jP (jU e5 (yE ⟨⟨rfl,rfl⟩,uF (jOY hw hg bg) fun v h' z=>?_⟩)))))))))))))
 obtain ⟨⟨c,_,hc,rfl⟩,bg⟩:=z
 have z1:(R.map (stP w)).length+[stP w c].length≤1000:=by rw [List.length_map]; show _+1≤_; omega
 refine yE ⟨⟨one _ (own_st w c),Nat.le_of_ble_eq_true rfl⟩,_,jIJ z1,?_⟩
 refine jP (zK (jP (yX (jP (jU e5 (yE ⟨⟨rfl,rfl⟩,jLQ (jKE hw) (yE ⟨⟨one _ (own_st w 1),Nat.le_of_ble_eq_true rfl⟩,?_⟩)⟩))))))
 have z2:((R.map (stP w)).take a).length+[stP w d,stP w d].length≤1000:=by rw [List.length_take,List.length_map]; show _+2≤_; omega
 have ix:∀ h,fIx h (.lst (R.map (stP w))) (.int (a:Nat))=some (stP w d):=fun h=>by
  show atI (R.map (stP w)) ((a:Nat):Int)=_
  exact jUO (by rw [List.getElem?_map,hd]; rfl)
 refine jP (uE (jCU (jU e6 (vW (vU (jU e7 ⟨_,rfl,_,jUB,uE (zK (jP (uE (jU e6 (jU e7 ⟨_,ix _,yE ⟨⟨one _ (own_st w d),Nat.le_of_ble_eq_true rfl⟩,p_c ⟨_,mul2,_,jIJ z2,?_⟩⟩⟩)))))⟩))))))
 have z3:((jHQ R a).map (stL w)).length+[PV.lst (R.map (stP w)++[stP w c]),PV.lst [stP w 1],PV.lst ((R.map (stP w)).take a++[stP w d,stP w d])].length≤1000:=by rw [List.length_map]; exact Nat.le_of_ble_eq_true rfl
 refine yE ⟨⟨rfl,Nat.le_of_ble_eq_true rfl⟩,_,jIJ z3,c,_,hc,?_,rfl,bg⟩
 simp only [jNN,stL,List.map_cons,List.map_nil,List.map_append,List.map_take]
end
theorem yOH {w:Nat} {L:List Nat} {h:AH} (hw:w < 6) (hL:∀ c∈L,c < yO w):fNe h (.lst (L.map (stP w))) (.lst (L.map (stP w)))=some (.bl false):=by
 have t1:jHM h (.lst (L.map (stP w)))=some (.list (L.map (dS w))):=by
  show (toDs _).map PyData.list=_
  rw [jLX hw hL]; rfl
 have o1:dOk (.list (L.map (dS w)))=true:=jXB (n:=4) (fun d hd=>by
  obtain ⟨y,hy,rfl⟩:=List.mem_map.mp hd
  exact dd4 hw (hL y hy)) (by decide)
 have ev:∀ M:List Nat,(∀ c∈M,c < yO w)→PyData.eqvAll (M.map (dS w)) (M.map (dS w))=true:=by
  intro M
  induction M with
  | nil=>intro _; simp [PyData.eqvAll]
  | cons c M ih =>
   intro hM
   have hc:=hM c (List.mem_cons_self ..)
   rw [List.map_cons,PyData.eqvAll,dq hw hc hc,ih fun x hx=>hM x (List.mem_cons_of_mem _ hx)]
   simp
 unfold fNe
 rw [t1]
 simp only [o1,Bool.and_self,if_true]
 rw [PyData.eqv,ev L hL]; rfl
theorem slm1T {w:Nat} {h:AH} (hw:w < 6):fSl h (.tup (itS w)) none (some (-1))=some (.tup (itS w).dropLast):=by
 match w,hw with
 | 0,_=>rfl
 | 1,_=>rfl
 | 2,_=>rfl
 | 3,_=>rfl
 | 4,_=>rfl
 | 5,_=>rfl
 | w+6,h=>exact absurd h (by omega)
theorem yWU {w:Nat} (hw:w < 6):yW (jTS w)=true:=rfl
def yDF (w:Nat):List PV:=[.non,.str "x", .int 3,.lst [.str (wF w)]]
theorem yPC {w:Nat} {x:PV} (hx:x∈yDF w) (h:AH):qY [x] h=.ok (.bl false) h:=by
 simp only [yDF,List.mem_cons,List.not_mem_nil,or_false] at hx
 rcases hx with rfl | rfl | rfl | rfl
 ·kernel_rfl
 ·kernel_rfl
 ·kernel_rfl
 ·kernel_rfl
theorem yBI {w:Nat} {x:PV} (hx:x∈yDF w):RnD 4 x:=by
 simp only [yDF,List.mem_cons,List.not_mem_nil,or_false] at hx
 rcases hx with rfl | rfl | rfl | rfl
 ·exact True.intro
 ·exact True.intro
 ·exact True.intro
 ·exact ⟨Nat.le_of_ble_eq_true rfl,fun y hy=>by rcases List.mem_singleton.mp hy with rfl; exact True.intro⟩
noncomputable def isF (w:Nat) (x:PV):Bool:=match uI [.str (wF w),x] [] with
 | .ok (.bl b) _=>b
 | _=>false
theorem yCS {w a:Nat} {p:SpecW} {R:List Nat} {o:PV} {h:AH} (hw:w < 6) (hR:∀ c∈R,c < yO w) (ho:o∈jTS w) :
  (yZ [jEJ p (.str (wF w)) ((R.map (stP w)).take a++[o]++(R.map (stP w)).drop a)] h).post (fun v h'=>v=.bl false∧h'=h) NE:=by
 have fs:∀ c,c < yO w→isF w (stP w c)=true:=fun c hc=>by unfold isF; rw [jYS hw hc]
 have fo:isF w o=false:=by unfold isF; rw [yEQ hw ho]
 have good:∀ x∈R.map (stP w),isOwn x=false∧∀ h,uI [.str (wF w),x] h=.ok (.bl (isF w x)) h:=fun x hx=>by
  obtain ⟨c,hc,rfl⟩:=List.mem_map.mp hx
  exact ⟨own_st w c,fun h=>by rw [fs c (hR c hc)]; exact jYS hw (hR c hc)⟩
 refine yCR (isF w) hw (fun x hx=>?_) ?_
 ·rcases List.mem_append.mp hx with hx | hx
  ·rcases List.mem_append.mp hx with hx | hx
   ·exact good x (List.mem_of_mem_take hx)
   ·rw [List.mem_singleton.mp hx]
    exact ⟨(jUT hw ho).no,fun h=>by rw [fo]; exact yEQ hw ho h⟩
  ·exact good x (List.mem_of_mem_drop hx)
 ·rw [List.map_append,List.map_append,List.all_append,List.all_append]
  show (_&&(isF w o&&true)&&_)=false
  rw [fo]
  simp
theorem yCM {w:Nat} {R tl:List Nat} {e:List (Option PV)} {h:AH} (hw:w < 6) (e6:e[6]?=some (some (.lst (R.map (stP w))))) (eR:R=1 :: tl) :
  (jAI (jE (xEC .non) (jE (xEC (.int 3)) (jE (jBF jR) (jE (xECB jKP (jE (jZ fIx (jK 6) (xEC (.int 0))) jR)) (jE (jIR (jZ fIx (jK 6) (xEC (.int 0))) jBR (jBQ (jZT (xEC (.int 1))))) (jE (xEC (.str "broken")) (jE (jBF (jE (xEC (.bl true)) jR)) (jE (jAI (jE (jBF (jE (xEC (.str "broken")) jR)) jR)) jR)))))))) ⟨e,h⟩).post (fun v s1=>v=.lst (jTS w)∧s1=⟨e,h⟩) NE:=by
 have ix:∀ h,fIx h (.lst (R.map (stP w))) (.int 0)=some (.tup (itS w)):=fun h=>by
  show atI (R.map (stP w)) ((0:Nat):Int)=_
  exact jUO (by rw [eR,List.map_cons,← yPZ hw]; rfl)
 refine zK (jP (p_c ?_))
 refine jP (p_c ?_)
 refine jP (jAA (yE ⟨⟨rfl,Nat.le_of_ble_eq_true rfl⟩,?_⟩))
 refine jP (jBP (jP (uE (jU e6 (p_c ⟨_,ix _,yE ⟨_,rfl,?_⟩⟩)))))
 refine jP (jCU (uE (jU e6 (p_c ⟨_,ix _,vW (vU (yYU (p_c ⟨_,rfl,_,rfl,_,slm1T hw,?_⟩)))⟩))))
 refine jP (p_c ?_)
 refine jP (jAA (jP (p_c (yE ⟨⟨rfl,Nat.le_of_ble_eq_true rfl⟩,?_⟩))))
 refine jP (zK (jP (jAA (jP (p_c (yE ⟨⟨rfl,Nat.le_of_ble_eq_true rfl⟩,yE ⟨⟨rfl,Nat.le_of_ble_eq_true rfl⟩,?_⟩⟩))))))
 exact yE ⟨⟨rfl,Nat.le_of_ble_eq_true rfl⟩,rfl,rfl⟩
end LW
set_option maxHeartbeats 4000000
namespace LW
open PySem PySem.Spec PyProof.Rows L2 Lp
theorem jXF {h h1 xs:AH} {n:Nat} (hn:n < h.length) (b:BagAt h n h1):BagAt (h++xs) n (h1++xs):=by
 obtain ⟨l,hb,rfl⟩:=b
 exact ⟨l,hb,by rw [List.set_append_left _ _ hn]⟩
def yPJ:List Nat:=[0,1,2,3,4,5]
theorem yII {w:Nat} (h:w∈yPJ):w < 6:=by simp [yPJ] at h; omega
theorem jUR {w:Nat} {R:List Nat} {a:Nat} (h:∀ c∈R,c < yO w):∀ c∈R.take a,c < yO w:=fun c hc=>h c (List.mem_of_mem_take hc)
theorem yGW {w a c d:Nat} {R:List Nat} (hw:w < 6) (h:∀ c∈R,c < yO w) (hc:c < yO w) (hd:d < yO w) (hz:R.length≤100):∀ L∈jHQ R a++jNN R a c d,(∀ x∈L,x < yO w)∧L.length≤300:=fun L hL=>by
 have app:∀ {A B:List Nat},(∀ x∈A,x < yO w)→(∀ x∈B,x < yO w)→∀ x∈A++B,x < yO w:=fun h1 h2 x hx=>by
  rcases List.mem_append.mp hx with q | q
  ·exact h1 x q
  ·exact h2 x q
 have one:∀ {e:Nat},e < yO w→∀ x∈[e],x < yO w:=fun he x hx=>by rw [List.mem_singleton.mp hx]; exact he
 simp only [jHQ,jNN,List.cons_append,List.nil_append,List.mem_cons,List.not_mem_nil,or_false] at hL
 rcases hL with rfl | rfl | rfl | rfl | rfl | rfl | rfl | rfl | rfl | rfl
 ·exact ⟨h,by omega⟩
 ·exact ⟨fun x hx=>h x (List.mem_reverse.mp hx),by rw [List.length_reverse]; omega⟩
 ·exact ⟨app (jUR h) fun x hx=>h x (List.mem_of_mem_drop hx),by rw [List.length_append,List.length_take,List.length_drop]; omega⟩
 ·exact ⟨fun x hx=>h x (List.mem_of_mem_drop hx),by rw [List.length_drop]; omega⟩
 ·exact ⟨fun x hx=>(by cases hx),by simp⟩
 ·exact ⟨app h (jUR h),by rw [List.length_append,List.length_take]; omega⟩
 ·exact ⟨app h (one (size0 hw)),by rw [List.length_append,List.length_singleton]; omega⟩
 ·exact ⟨app h (one hc),by rw [List.length_append,List.length_singleton]; omega⟩
 ·exact ⟨one (size1 hw),by simp⟩
 ·exact ⟨app (jUR h) (app (A:=[d]) (one hd) (one hd)),by rw [List.length_append,List.length_take]; simp; omega⟩
def InvL (ns:List Int) (s:S):Prop:=(∃ ys:List (Option PV),ys.length=16∧s.e=some (.scr (ns.map .int)) :: some (.cel 0) :: ys)∧∃ h0:AH,0 < h0.length∧BagAt h0 0 s.h
def InvM (ns:List Int) (p:SpecW) (s:S):Prop:=(∃ y2:Option PV,∃ ys:List (Option PV),ys.length=13∧s.e=some (.scr (ns.map .int)) :: some (.cel 0) :: y2 :: some p.v :: some (jFC p) :: ys)∧∃ h0:AH,0 < h0.length∧BagAt h0 0 s.h
theorem exp16 (ys:List (Option PV)) (h:ys.length=16):∃ a b c d e f g i j k l m n o p q,ys=[a,b,c,d,e,f,g,i,j,k,l,m,n,o,p,q] :=
 match ys,h with
 | [a,b,c,d,e,f,g,i,j,k,l,m,n,o,p,q],_=>⟨a,b,c,d,e,f,g,i,j,k,l,m,n,o,p,q,rfl⟩
theorem exp13 (ys:List (Option PV)) (h:ys.length=13):∃ a b c d e f g i j k l m n,ys=[a,b,c,d,e,f,g,i,j,k,l,m,n] :=
 match ys,h with
 | [a,b,c,d,e,f,g,i,j,k,l,m,n],_=>⟨a,b,c,d,e,f,g,i,j,k,l,m,n,rfl⟩
theorem yGY (ns:List Int) (h63:ns.length≤63) (hb:∀ z∈ns,Builtin.Int.intBits z≤1048576):∃ h',jOM [.scr (ns.map .int)] []=.ok (.bl true) h':=by
 suffices H:(jOM [.scr (ns.map .int)] []).post (fun v h'=>v=.bl true) NE by
  obtain ⟨v,h',e,rfl⟩:=yZV H
  exact ⟨h',e⟩
 unfold jOM
 rw [yQQ]
 unfold yEB
 rw [like_eq,of_eq,jPV]
 refine jCX (some (.scr (ns.map .int)) :: List.replicate 17 none) rfl ?_
 (repeat walk_at "p1")
 refine uF (open_spec h63) fun v h' z=>?_
 obtain ⟨rfl,b⟩:=z
 (repeat walk_at "p1")
 refine jQD (jYK ?_)
 (repeat walk_at "p1")
 refine ⟨by decide,rfl,rfl,by decide,jQG (fun _ s=>InvL ns s) ?_ (fun j v s e i=>?_) fun s i=>?_⟩
 ·exact ⟨⟨_,rfl,rfl⟩,[none],by decide,b⟩
 ·obtain ⟨turn,_,rfl⟩:=List.mem_map.mp (List.mem_of_getElem? e)
  obtain ⟨⟨ys,hl,he⟩,g0,hg,bg⟩:=i
  obtain ⟨y2,y3,y4,y5,y6,y7,y8,y9,y10,y11,y12,y13,y14,y15,y16,y17,rfl⟩:=exp16 ys hl
  obtain ⟨e0,h0⟩:=s
  simp only at he bg
  subst he
  refine ⟨_,rfl,?_⟩
  dsimp only [List.set_cons_succ,List.set_cons_zero]
  (repeat walk_at "p1")
  refine uF (yBX hg bg) fun v h' z=>?_
  obtain ⟨⟨p,kp,rfl⟩,bg⟩:=z
  (repeat walk_at "p1")
  refine uF (yFI kp) fun v h'' z=>?_
  obtain ⟨rfl,rfl⟩:=z
  (repeat walk_at "p1")
  have ew:∀ h,zE [] h=.ok (.lst (yPJ.map fun w=>.str (wF w))) h:=fun h=>by kernel_rfl
  refine jQD (jCY (jUW ⟨⟨rfl,rfl⟩,jLQ (ew _) ⟨_,rfl,rfl,rfl,by decide,jQG (fun _ s=>InvM ns p s) ?_ (fun j v s e i=>?_) fun s i=>?_⟩⟩))
  ·exact ⟨⟨_,_,rfl,rfl⟩,g0,hg,bg⟩
  ·obtain ⟨w,hw6,rfl⟩:=List.mem_map.mp (List.mem_of_getElem? e)
   have hw:=yII hw6
   obtain ⟨⟨z2,ys,hl,he⟩,g0,hg,bg⟩:=i
   obtain ⟨y5,y6,y7,y8,y9,y10,y11,y12,y13,y14,y15,y16,y17,rfl⟩:=exp13 ys hl
   obtain ⟨e0,h0⟩:=s
   simp only at he bg
   subst he
   obtain ⟨_,eb,_⟩:=ends hw kp
   have okL:LOk w (endL w p):=jVA (fun x hx=>by simp at hx; subst hx; exact size1 hw) eb
   refine ⟨_,rfl,?_⟩
   dsimp only [List.set_cons_succ,List.set_cons_zero]
   (repeat walk_at "p1")
   refine jHU (α:=Nat × Nat) (jCY (yX (jP (jU rfl (jP (jU rfl (yE ⟨⟨rfl,rfl⟩,uF (jSF hw kp eb) fun v h' z=>?_⟩)))))))
   obtain ⟨rfl,rfl⟩:=z
   refine ⟨_,rfl,rfl,endL w p,itL w,fun x=>stP w x.1,fun x=>!Nat.beq x.1 0,rfl,fun z hz=>⟨own_st w _,_,bind2,?_⟩,?_⟩
   ·refine jCT (uE (jU rfl (jAA (jP (p_c (yE ⟨⟨rfl,Nat.le_of_ble_eq_true rfl⟩,_,yOI hw (okL z hz),_,rfl,rfl,jU rfl ⟨rfl,rfl,rfl⟩,rfl,rfl⟩))))))
   have er:((endL w p).filter fun x=>!Nat.beq x.1 0).map (fun x=>stP w x.1)=(jKO w p).map (stP w):=by
    unfold jKO
    rw [List.filter_map,List.map_map]; rfl
   rw [er]
   have hR:∀ c∈jKO w p,c < yO w:=fun c hc=>(yGD hw kp c hc).1
   have hlen:=yGC hw kp
   obtain ⟨tl,eR⟩:=yCH hw kp
   have hpos:1≤(jKO w p).length:=by rw [eR]; simp
   generalize jKO w p=R at hR hlen eR hpos
   have hml:(R.map (stP w)).length=R.length:=List.length_map _
   dsimp only [jM,List.set_cons_succ,List.set_cons_zero]
   (repeat walk_at "p1")
   show (jLV [PV.cel 0,.int ((R.map (stP w)).length:Nat)] h').post _ _
   rw [hml]
   refine uF (jHT hg bg (k:=(R.length:Nat)) (by omega) (by omega)) fun v h1 z=>?_
   obtain ⟨⟨dz,rfl,hd0,hd1⟩,bg⟩:=z
   obtain ⟨a,rfl⟩:∃ a:Nat,dz=(a:Nat):=⟨dz.toNat,by omega⟩
   have ha:a < R.length:=by omega
   obtain ⟨d,hd⟩:∃ d,R[a]?=some d:=⟨R[a],List.getElem?_eq_getElem ha⟩
   have hdw:d < yO w:=hR d (List.mem_of_getElem? hd)
   refine ⟨rfl,?_⟩
   dsimp only [List.set_cons_succ,List.set_cons_zero]
   refine uD (wV (p_mono (jXO (w:=w) (a:=a) (R:=R) rfl rfl hlen) (fun v s1 z=>?_) fun _ _ z=>z.elim))
   obtain ⟨rfl,rfl⟩:=z
   refine ⟨rfl,?_⟩
   dsimp only [List.set_cons_succ,List.set_cons_zero]
   refine uD (wV (p_mono (jXN hw hg bg rfl rfl rfl rfl rfl hd hlen) (fun v s1 z=>?_) fun _ _ z=>z.elim))
   obtain ⟨c,h2,hc,rfl,rfl,bg⟩:=z
   refine ⟨rfl,?_⟩
   dsimp only [List.set_cons_succ,List.set_cons_zero]
   have LO:=yGW hw hR hc hdw hlen (a:=a)
   have hLl:(jHQ R a++jNN R a c d).length=10:=rfl
   generalize jHQ R a++jNN R a c d=LL at LO hLl
   refine uD (jQD (jCY (jU rfl ⟨_,rfl,rfl,rfl,by rw [sizeLine_eq]; show (LL.map (stL w)).length≤_; rw [List.length_map]; omega,jQG (fun _ s=>∃ (x9 x10 x11 x12:Option PV) (h1:AH),s=⟨[some (PV.scr (List.map PV.int ns)),some (PV.cel 0),z2,some p.v,some (jFC p),some (PV.str (wF w)),some (PV.lst (R.map (stP w))),some (.int (a:Nat)),some (.lst (LL.map (stL w))),x9,x10,x11,x12,y13,y14,none,none,y17],h1⟩∧∃ g:AH,0 < g.length∧BagAt g 0 h1) ?_ (fun j v s e i=>?_) fun s i=>?_⟩)))
   ·exact ⟨_,_,_,_,_,rfl,g0,hg,bg⟩
   ·obtain ⟨x9,x10,x11,x12,h1,rfl,g,hg,bg⟩:=i
    obtain ⟨L,hLm,rfl⟩:=List.mem_map.mp (List.mem_of_getElem? e)
    obtain ⟨hL,hz⟩:=LO L hLm
    have rn:∀ x∈L.map (stP w),RnD 4 x:=fun x hx=>by
     obtain ⟨y,_,rfl⟩:=List.mem_map.mp hx
     exact yEL 2 w y
    refine ⟨_,rfl,?_⟩
    dsimp only [List.set_cons_succ,List.set_cons_zero]
    unfold stL
    refine uD (wV (jBP (jP (jU rfl (yE ⟨_,rfl,rfl,?_⟩)))))
    dsimp only [List.set_cons_succ,List.set_cons_zero]
    refine uD (wV (jUF (p:=p) (xs:=L.map (stP w)) (jP (jU rfl (jP (jU rfl (jP (jU rfl (yE ⟨_,_,rfl,True.intro,.inl rfl,rn,rfl,?_⟩)))))))))
    dsimp only [List.set_cons_succ,List.set_cons_zero]
    refine uD (wV (yX (jP (jU rfl (jP (jU rfl (jP (jU rfl (yE ⟨⟨rfl,rfl⟩,uF (yHJ hw kp hL hz) fun v h' z=>?_⟩)))))))))
    obtain ⟨rfl,rfl⟩:=z
    refine ⟨rfl,?_⟩
    dsimp only [List.set_cons_succ,List.set_cons_zero]
    refine wZ (qI (uG (jBY (yX (jP (zK (jP (yDP (jU rfl ⟨⟨rfl,rfl⟩,yE (yE ⟨⟨⟨rfl,rfl⟩,rfl,rfl⟩,⟨rfl,rfl⟩,uF (jRI hw kp hL hz) fun v h' z=>?_⟩)⟩)))))))))
    obtain ⟨rfl,g1,rfl⟩:=z
    refine jP (yDP (jUF (p:=p) (xs:=L.map (stP w)) (jP (jU rfl (jP (jU rfl (jP (jBP (jP (jU rfl (yE ⟨_,rfl,yE ⟨_,_,rfl,True.intro,.inr rfl,rn,⟨rfl,rfl⟩,yE (yE ⟨⟨⟨rfl,rfl⟩,rfl,rfl⟩,⟨rfl,rfl⟩,uF (jRI hw kp hL hz) fun v h' z=>?_⟩)⟩⟩)))))))))))
    obtain ⟨rfl,g2,rfl⟩:=z
    refine yE ⟨⟨rfl,Nat.le_of_ble_eq_true rfl⟩,jP (zK (jP (jU rfl (jP (jU rfl (yE ⟨⟨rfl,Nat.le_of_ble_eq_true rfl⟩,yE ⟨⟨rfl,rfl⟩,uF (jWY (n:=7) rfl ?_) fun v h' z=>?_⟩⟩))))))⟩
    ·intro y hy
     simp only [List.mem_cons,List.not_mem_nil,or_false] at hy
     rcases hy with rfl | rfl <;> exact True.intro
    obtain ⟨rfl,rfl⟩:=z
    refine ⟨_,rfl,zA rfl (jCT (uE (jU rfl (jU rfl ⟨_,yOH hw hL,_,rfl,zA rfl (zB ?_)⟩))))⟩
    exact ⟨_,_,_,_,_,rfl,g++g1++g2,by rw [List.length_append,List.length_append]; omega,jXF (by rw [List.length_append]; omega) (jXF hg bg)⟩
   ·obtain ⟨x9,x10,x11,x12,h1,rfl,g,hg,bg⟩:=i
    refine uD (wV (yX (jP (jU rfl (jP (p_mono (yCM hw rfl eR) (fun v s1 z=>?_) fun _ _ z=>z.elim))))))
    obtain ⟨rfl,rfl⟩:=z
    refine yE ⟨⟨rfl,rfl⟩,uF (jYM hg bg (xs:=jTS w) (Nat.le_of_ble_eq_true rfl) (Nat.le_of_ble_eq_true rfl) (yWU hw)) fun o h2 z=>?_⟩
    obtain ⟨ho,bg⟩:=z
    have oo:=(jUT hw ho).no
    refine ⟨oo,?_⟩
    dsimp only [List.set_cons_succ,List.set_cons_zero]
    have rnR:∀ x∈R.map (stP w),RnD 4 x:=fun x hx=>by
     obtain ⟨y,_,rfl⟩:=List.mem_map.mp hx
     exact yEL 2 w y
    have rn1:∀ x∈(R.map (stP w)).take a++[o]++(R.map (stP w)).drop a,RnD 4 x:=fun x hx=>by
     rcases List.mem_append.mp hx with hx | hx
     ·rcases List.mem_append.mp hx with hx | hx
      ·exact rnR x (List.mem_of_mem_take hx)
      ·rw [List.mem_singleton.mp hx]; exact jUT hw ho
     ·exact rnR x (List.mem_of_mem_drop hx)
    have one:yW [o]=true:=by unfold yW; rw [List.all_cons,oo]; rfl
    have q1:((R.map (stP w)).take a).length+[o].length≤1000:=by rw [List.length_take,List.length_map]; show _+1≤_; omega
    have q2:((R.map (stP w)).take a++[o]).length+((R.map (stP w)).drop a).length≤1000:=by rw [List.length_append,List.length_take,List.length_drop,List.length_map]; show _+1+_≤_; omega
    refine uD (wV (zK (jP (jUF (p:=p) (xs:=(R.map (stP w)).take a++[o]++(R.map (stP w)).drop a) (jP (jU rfl (jP (jU rfl (jP (uE (uE (jCU (jU rfl (vW (vU (jU rfl ⟨_,rfl,_,jUB,?_⟩))))))))))))))))
    refine zK (jP (jU rfl (yE ⟨⟨one,Nat.le_of_ble_eq_true rfl⟩,_,jIJ q1,jCU (jU rfl (vU (jU rfl ⟨_,rfl,vW ⟨_,jQQ,_,jIJ q2,?_⟩⟩)))⟩)))
    refine yE ⟨_,_,rfl,True.intro,.inl rfl,rn1,?_⟩
    refine jP (jUF (p:=p) (xs:=R.map (stP w)) (jP (jU rfl (jP (yX (jP (jU rfl (jP (zK (jP (p_c (jP (p_c (jP (p_c (jP (zK (jP (jU rfl (yE ⟨⟨rfl,Nat.le_of_ble_eq_true rfl⟩,yE ⟨⟨rfl,Nat.le_of_ble_eq_true rfl⟩,?_⟩⟩))))))))))))))))))))
    refine yE ⟨⟨rfl,rfl⟩,uF (jYM hg bg (xs:=yDF w) (Nat.le_of_ble_eq_true rfl) (Nat.le_of_ble_eq_true rfl) rfl) fun u h3 z=>?_⟩
    obtain ⟨hu,bg⟩:=z
    have uo:=(yBI hu).no
    refine jP (jU rfl (yE ⟨_,_,rfl,yBI hu,.inl rfl,rnR,yE ⟨⟨rfl,Nat.le_of_ble_eq_true rfl⟩,rfl,?_⟩⟩))
    dsimp only [List.set_cons_succ,List.set_cons_zero]
    refine wZ (uG (jBY (yX (jP (jCK (jUE (α:=PV) (jCY (jU rfl ⟨_,rfl,rfl,[jEJ p (.str (wF w)) ((R.map (stP w)).take a++[o]++(R.map (stP w)).drop a),jEJ p u (R.map (stP w))],id,fun _=>.bl false,rfl,fun x hx=>⟨rfl,_,yBH (by simp only [List.mem_cons,List.not_mem_nil,or_false] at hx; rcases hx with rfl | rfl <;> rfl),rfl,?_⟩,?_⟩))))))))
    ·have hp:(yZ [x] h3).post (fun v h'=>v=.bl false∧h'=h3) NE:=by
      simp only [List.mem_cons,List.not_mem_nil,or_false] at hx
      rcases hx with rfl | rfl
      ·exact yCS hw hR ho
      ·exact jSG uo (yPC hu)
     have ci:clsOf h3 x=some vK∧isOwn x=false:=by
      simp only [List.mem_cons,List.not_mem_nil,or_false] at hx
      rcases hx with rfl | rfl <;> exact ⟨rfl,rfl⟩
     have sx:yW [x]=true:=by unfold yW; rw [List.all_cons,ci.2]; rfl
     refine yDP (jU rfl ⟨ci,yE (yE ⟨⟨⟨rfl,rfl⟩,rfl,rfl⟩,⟨rfl,sx⟩,uF hp fun v h' z=>?_⟩)⟩)
     obtain ⟨rfl,rfl⟩:=z
     exact ⟨rfl,rfl⟩
    ·refine jP (zK (jP (p_c (jP (p_c (yE ⟨⟨rfl,Nat.le_of_ble_eq_true rfl⟩,yE ⟨⟨rfl,rfl⟩,uF (jWY (n:=7) rfl ?_) fun v h' z=>?_⟩⟩))))))
     ·intro y hy
      simp only [List.mem_cons,List.not_mem_nil,or_false] at hy
      rcases hy with rfl | rfl <;> exact True.intro
     obtain ⟨rfl,rfl⟩:=z
     refine ⟨_,rfl,zA rfl (zB ?_)⟩
     exact ⟨⟨_,_,rfl,rfl⟩,g,hg,bg⟩
  ·obtain ⟨⟨z2,ys,hl,he⟩,g0,hg,bg⟩:=i
   obtain ⟨y5,y6,y7,y8,y9,y10,y11,y12,y13,y14,y15,y16,y17,rfl⟩:=exp13 ys hl
   exact ⟨⟨_,rfl,he⟩,g0,hg,bg⟩
 ·obtain ⟨⟨ys,hl,he⟩,g0,hg,bg⟩:=i
  obtain ⟨e0,h0⟩:=s
  (repeat walk_at "p1")
end LW
set_option maxHeartbeats 0
theorem PySem.Challenge.cw_latedrops_k28_whole_tables_of_stands_jud_holds : PySem.Challenge.rw_latedrops_k28_whole_tables_of_stands_jud.Holds := by
 exact LW.yZI LW.yGY

