import PyProof.Rows.All
import Wide.All
import OpenK.AllK
import Wide.FinOn
import HandS.ForMost
import HandS.Defaults
import HandS.MakeKw
import HandS.MakeKwOnly
import HandS.Exc
import HandS.IsInst
import HandS.Lambda
import HandS.Dict
import KE.KeyNested
import HandS.TupAny
import HandS.TupMul
import HandS.TupLe
import HandS.Style
import HandS.Deep
import HandS.Star
import HandS.Text
import HandS.Zip
import HandS.ExcOwn
import HandS.EndBits
import HandS.Head0
import HandS.Head1
import HandS.Head2
import HandS.HeadEnd
import HandS.HeadHook1
import HandS.HeadHook2
import HandS.ExcInit
import HandS.ExcInitHot
import HandS.Nested
import KE.KExcSuper
import KE.KSuper
import KE.KExcInit
import HandS.ExcField
import HandS.HotCalls
import KE.KTryMore
import HandS.HeadWalk
import HandS.HeadHook3
import KE.KUnpackStar
import HandS.ClsMeth
import KE.SortData
import HandS.Replace
import HandS.FStr
import HandS.OwnEq
import HandS.TupSets
import HandS.NamedTupSort
import HandS.Conv
import KE.KDictDisplayH
import HandS.SortKw
import KE.SortKeyHeap
import KE.KWithOwn
import HandS.Property
import HandS.MethStar
import HandS.DictComp
import KE.KDictCopyH
import KE.GoesEnum
import KE.GoesNew
import KE.GoesZip
import KE.GoesMore
import KE.KStateDown
import HandS.Finally
import HandS.ListEq
import OpenK.KOps
import PySem.Challenge.RW_latedrops_k40_whole_least_mends
set_option Elab.async false
set_option linter.all false
set_option maxRecDepth 100000
set_option maxHeartbeats 0
namespace Lp
open PySem PySem.Spec PyProof.Rows L2
inductive PV where
 | non | bl (b:Bool) | int (i:Int) | str (x:Str)
 | tup (xs:List PV) | lst (xs:List PV) | scr (xs:List PV) | own (xs:List PV)
 | dic (ks:List (PV × PV)) | don (ks:List (PV × PV))
 | ins (c:Nat) (fs:List PV) | cel (n:Nat) | exn (c:Nat) (fs:List PV)
 | ty (n:String) | cls (c:Nat)
inductive BT where
 | non | bl | int | str | tup | lst | dic
 deriving DecidableEq
def mkS (cs:List Nat):Str:=⟨cs.toArray⟩
end Lp
namespace Lp
open PySem PySem.Spec PyProof.Rows L2 LamX NdefX
def jVM:Obj→Bool
 | ⟨.none,none,.fields vs,sl⟩=>decide (vs.size=0)&&decide (sl.size=0)
 | _=>false
def yTL (g:Addr→Option Obj) (as:List Addr):List Addr:=as.filter fun a=>match g a with
 | some o=>jVM o
 | none=>false
def yTZ (g:Addr→Option Obj) (as:List Addr):List Addr:=as.filter fun a=>match g a with
 | some o=>!jVM o
 | none=>true
abbrev FactL:Type:=PySem.W.Frag→List Addr→Bool
abbrev FnL:Type:=Option (Str × Str × Arguments × FuncBody × Scope × Addr × List Str × Addr)
def fnL (K:PySem.W.Frag) (a:Addr):FnL:=match K.lookup a with
 | some ⟨_,_,.func fd,_⟩=>some (fd.name,fd.qualname,fd.params,fd.body,fd.scope,fd.globals,fd.closure.map (·.1),fd.builtins)
 | _=>none
structure DefL where
 at_:PySem.W.Frag→Addr
 name:Str
 qual:Str
 params:Arguments
 body:List Stmt
 scope:Scope
 cl:List Str:=[]
 dfl:List He.Dv:=[]
 kwd:List (Str × He.Dv):=[]
def DefL.val (d:DefL):FnL:=some (d.name,d.qual,d.params,.stmts d.body,d.scope,mainGlobals,d.cl,builtinsNs)
def DefL.ok (K:PySem.W.Frag) (d:DefL):Bool:=PySem.W.keepIn K (.ref (d.at_ K))&&(match K.lookup (d.at_ K) with
 | some ⟨_,_,.func fd,_⟩=>PySem.W.codeIn K fd.code d.qual&&(He.dflB K fd.defaults (d.dfl.map (He.Dv.v K))&&He.kwdB K fd.kwdefaults (d.kwd.map fun q=>(q.1,q.2.v K)))
 | _=>false)
def jRW (P:Program) (K:PySem.W.Frag) (a D:Addr):Bool:=match K.lookup a with
 | some ⟨_,_,.func fd,_⟩=>(match fd.code,fd.closure with
  | .ref c,[(_,cc)]=>(match K.lookup c with
   | some ⟨_,_,.fields vs,_⟩=>(match (vs[2]?:Option Value) with
    | some (.str file _)=>((P.main.file:Str) == file)
    | _=>false)
   | _=>false)&&(match K.lookup cc with
   | some ⟨_,_,.cell (some (.ref D')),_⟩=>decide (D'=D)
   | _=>false)
  | _,_=>false)&&((PySem.W.clsIn K D).isSome&&decide (PySem.W.nsIn K cStatics "thirdparty.any" = some none))
 | _=>false
def jRV (K:PySem.W.Frag) (B i newId:String) (bmB:List Value) (D:Addr):Bool:=PySem.W.excInitIn K D bmB newId&&(decide (PySem.W.ks_superIn K D D "__init__" = some (some (.builtin i)))&&(decide (PySem.W.subIn K (.ref D) (.type B)=some true)&&(decide (PySem.W.mroIn K D (.ref D)=some true)&&(PySem.W.excOver K D bmB &&
 ((match PySem.W.clsIn K D with
  | some cd=>cd.hasDict
  | none=>false)&&(decide (PySem.W.findIn K (.ref D) "__setattr__" = some (some (.builtin "object.__setattr__")))&&(decide (PySem.W.subIn K (.ref D) (.type "BaseException")=some true)&&(decide (PySem.W.typeIn K (.ref D)=some (.type "type"))&&PySem.W.keepIn K (.ref D)))))))))
def jNX (K:PySem.W.Frag) (C:Addr) (fs:List Str):Bool:=xfB K C&&fs.all fun f=>decide (PySem.W.findIn K (.ref C) f=some none)
def jCM (K:PySem.W.Frag) (a:Addr):Addr:=match K.lookup a with
 | some ⟨_,_,.func fd,_⟩=>(match fd.code with
  | .ref c=>c
  | _=>0)
 | _=>0
def jEH (K:PySem.W.Frag) (a:Addr):Addr:=match K.lookup (jCM K a) with
 | some ⟨_,_,.fields vs,_⟩=>(match (vs[11]?:Option Value) with
  | some (.ref P)=>P
  | _=>0)
 | _=>0
def jUJ (K:PySem.W.Frag) (T:List Addr) (a:Addr):Bool:=decide (jEH K a∈T)&&(decide (jCM K a≠jEH K a)&&(decide (mainGlobals≠jEH K a)&&((match K.lookup a with
 | some ⟨_,_,.func fd,_⟩=>(match fd.code with
  | .ref c=>true
  | _=>false)
 | _=>false)&&(match K.lookup (jCM K a) with
 | some ⟨.type c,_,.fields vs,_⟩=>decide (c = "code")&&((match (vs[11]?:Option Value) with
   | some (.ref _)=>true
   | _=>false)&&((match (vs[18]?:Option Value) with
   | some (.str _ _)=>true
   | _=>false)&&((match (vs[7]?:Option Value) with
   | some (.int _ _)=>true
   | _=>false)&&((match (vs[9]?:Option Value) with
   | some (.bool _)=>true
   | _=>false)&&(match (vs[10]?:Option Value) with
   | some (.int _ _)=>true
   | _=>false)))))
 | _=>false))))
def yBR (K:PySem.W.Frag) (ls:List ((PySem.W.Frag→Addr) × Str)):List (Addr × Str):=ls.map fun p=>(jEH K (p.1 K),p.2)
def ndT (K:PySem.W.Frag) (ls:List ((PySem.W.Frag→Addr) × Str)):Bool:=decide (((yBR K ls).map (·.1)).Nodup)
def jYY:Stmt→List Stmt
 | .ClassDef _ _ _ b _ _ _ _ _ _ _=>b
 | _=>[]
def jOB (K:PySem.W.Frag) (D f:Addr):Bool:=decide (PySem.W.findIn K (.ref D) "__init__" = some (some (.ref f)))&&decide (PySem.W.typeIn K (.ref f)=some (.type "function"))
def yUT (K:PySem.W.Frag) (a:Addr) (kv:List (Str × Str)):Bool:=He.valsB K a (kv.map fun q=>(q.1,He.Dv.str q.2))
def yED (K:PySem.W.Frag) (C:Addr) (f:Str) (vs:List He.Dv):Bool:=PySem.W.readsIn K C (.type "type")&&(decide (PySem.W.specialIn K (.ref C) "__getattribute__" = some (some (.builtin "type.__getattribute__")))&&(match PySem.W.findCls K (.ref C) (.type "type") f with
 | some (.val (.ref T))=>(match K.lookup T with
  | some ⟨.type c,_,.seq its _,_⟩=>decide (c = "tuple")&&(decide (its.size≤sizeLine)&&He.relAll (vs.map (He.Dv.v K)) its.toList)
  | _=>false)
 | _=>false))
def BT.all:List BT:=[.non,.bl,.int,.str,.tup,.lst,.dic]
end Lp
namespace Lp
open PySem PySem.Spec PyProof.Rows L2
structure SpecW where
 d:List Nat
 n:List Nat
 s:Bool
 h:Bool
 l:Str
def SpecW.fs (p:SpecW):List PV:=[.str (mkS p.d),.str (mkS p.n),.bl p.s,.bl p.h,.str p.l]
def SpecW.v (p:SpecW):PV:=.tup p.fs
def jQJ (K:PySem.W.Frag) (T:Addr) (vs:List He.Dv):Bool:=match K.lookup T with
 | some ⟨.type c,_,.seq its _,_⟩=>decide (c = "tuple")&&(decide (its.size≤sizeLine)&&He.relAll (vs.map (He.Dv.v K)) its.toList)
 | _=>false
end Lp
namespace Lp
open PySem PySem.Spec PyProof.Rows L2 LamX NdefX
def yIF (K:PySem.W.Frag) (a:Addr) (kv:List (Str × Int)):Bool:=He.valsB K a (kv.map fun q=>(q.1,He.Dv.int q.2))
end Lp
namespace LW
open PySem PySem.Spec PyProof.Rows L2 Lp LamX NdefX
abbrev Rw:PySem.W.OpenRow:=PySem.W.OpenLaw.row PySem.Challenge.rw_latedrops_k40_whole_least_mends
abbrev Pg:Program:=PySem.Challenge.pw_latedrops_k40_whole_least_mends
def top (i:Nat):Stmt:=PySem.Challenge.pw_latedrops_k40_whole_least_mends.main.body.getD i (.Pass ⟨0,0,0,0⟩)
def jHD:List (Str × Str):=[("t", "taken"),("r", "refused"),("m", "made")]
def jKP:List (Str × Int):=[("lands", 4),("heard", 4),("stays", 5),("still", 3),("returns", 4),("numbered", 2)]
abbrev jBA:Stmt:=(top 11)
abbrev zW:Stmt:=(top 12)
abbrev zB:Stmt:=(top 16)
abbrev qY:Stmt:=(top 17)
abbrev vQ:Stmt:=((jYY (top 34)).getD 3 (.Pass ⟨0,0,0,0⟩))
abbrev zV:Stmt:=(top 18)
abbrev vH:Stmt:=((jYY (top 34)).getD 4 (.Pass ⟨0,0,0,0⟩))
abbrev uL:Stmt:=(top 19)
abbrev uM:Stmt:=(top 20)
abbrev uK:Stmt:=(top 21)
abbrev zU:Stmt:=(top 22)
abbrev jAZ:Stmt:=(top 23)
abbrev qW:Stmt:=(top 24)
abbrev qX:Stmt:=(top 33)
abbrev uO:Stmt:=((jYY (top 34)).getD 2 (.Pass ⟨0,0,0,0⟩))
abbrev jBC:Stmt:=((jYY (top 34)).getD 5 (.Pass ⟨0,0,0,0⟩))
abbrev jCK:Stmt:=(top 27)
abbrev zA:Stmt:=(top 28)
abbrev vZ:Stmt:=(top 29)
abbrev uZ:Stmt:=(top 30)
abbrev kE:Stmt:=(top 36)
abbrev kJ:Stmt:=(top 37)
abbrev jBB:Stmt:=(top 38)
abbrev uR:Stmt:=(top 39)
abbrev wA:Stmt:=(top 40)
abbrev jCZ:Stmt:=(top 41)
abbrev uA:Stmt:=(top 42)
abbrev qZ:Stmt:=(top 43)
abbrev zE:Stmt:=(top 44)
abbrev jAA:Stmt:=(top 45)
abbrev vC:Stmt:=(top 46)
abbrev vP:Stmt:=(top 47)
abbrev vD:Stmt:=(top 48)
abbrev vG:Stmt:=(top 49)
abbrev vB:Stmt:=(top 50)
abbrev zX:Stmt:=(top 51)
abbrev zY:Stmt:=(top 52)
abbrev uN:Stmt:=(top 53)
abbrev zF:Stmt:=(top 54)
abbrev vJ:Stmt:=(top 55)
abbrev uB:Stmt:=(top 56)
abbrev vK:Stmt:=(top 57)
abbrev jGZ:Stmt:=(top 58)
end LW
namespace Lp
open PySem PySem.Spec PyProof.Rows L2
def frA (as:List Addr) (s:PySem.W.SharedT):PySem.W.Frag:=He.frG (HandSHeadRun.getT s) (yTZ (HandSHeadRun.getT s) as)
def tbA (as:List Addr) (s:PySem.W.SharedT):List Addr:=yTL (HandSHeadRun.getT s) as
open HandSHeadRun in
abbrev RunP {α:Type} (r:PySem.W.OpenRow) (f:PySem.W.SharedT→α) (v:α) (M:Nat) (w:World):Prop:=∀ os:OsState,
 (endF (stepQ (denQ tabQ) r.prog w) M r.prog w os).map f=some v
abbrev RunC3 (r:PySem.W.OpenRow) (as:List Addr) (fn:List DefL) (ts:List He.Tab) (M:Nat) (w:World):Prop:=RunP r (fun s=>((fn.all fun d=>d.ok (frA as s),fn.map fun d=>fnL (frA as s) (d.at_ (frA as s))),ts.map fun t=>He.dicW (frA as s) (t.1 (frA as s)))) ((true,fn.map DefL.val),ts.map fun t=>some (He.keysIn w.params t.2)) M w
open HandSHeadRun PySem.W PySem.Calls in
abbrev RunAB2 (r:PySem.W.OpenRow) (q:Program) (as:List Addr) (fa:List FactL) (loose:List PySem.Str) (M:Nat) (w:World):Prop:=RunP r (fun s=>((looksF r.prog (boot_heap w.params) s.abs,HandSHeadRun.seenQ q loose (importedModules r.prog.main.body) (fun s=>xlAt q [] s&&recOk r.toRowW.records s) s.abs),fa.all fun f=>f (frA as s) (tbA as s))) ((true,openGood q loose),true) M w
theorem pair_ofR {σ α β:Type} {o:Option σ} {f:σ→α} {g:σ→β} {a:α} {b:β} (h:o.map f=some a) (k:o.map g=some b):o.map (fun s=>(f s,g s))=some (a,b):=by
 cases o with
 |none=>cases h
 |some s=>
  injection h with h
  injection k with k
  subst h k
  rfl
open HandSHeadRun PySem.W PySem.Calls in
abbrev RunAB0 (r:PySem.W.OpenRow) (q:Program) (as:List Addr) (fa:List FactL) (loose:List PySem.Str) (M:Nat) (w:World):Prop:=RunP r (fun s=>(looksF r.prog (boot_heap w.params) s.abs,HandSHeadRun.seenQ q loose (importedModules r.prog.main.body) (fun s=>xlAt q [] s&&recOk r.toRowW.records s) s.abs)) (true,openGood q loose) M w
open HandSHeadRun PySem.W PySem.Calls in
abbrev RunF0 (r:PySem.W.OpenRow) (as:List Addr) (fa:List FactL) (M:Nat) (w:World):Prop:=RunP r (fun s=>fa.all fun f=>f (frA as s) (tbA as s)) true M w
end Lp
namespace LW
open PySem PySem.Spec PyProof.Rows L2 Lp LamX NdefX
def lsT:List ((PySem.W.Frag→Addr) × Str):=[(fun K=>He.ga K "sets_of_mends", ("sets_of_mends" : Str) ++ ".<locals>." ++ "<lambda>"),(fun K=>He.ga K "law", ("law" : Str) ++ ".<locals>." ++ "<lambda>")]
def jMD:DefL:=⟨fun K=>He.ga K "is_wish", "is_wish", "is_wish", defArgs jBA,defBody jBA,defScope jBA,[],[],[]⟩
def jGJ:DefL:=⟨fun K=>He.ga K "check_wish", "check_wish", "check_wish", defArgs zW,defBody zW,defScope zW,[],[],[]⟩
def jFH:DefL:=⟨fun K=>He.ga K "first_stand", "first_stand", "first_stand", defArgs zB,defBody zB,defScope zB,[],[],[]⟩
def jJL:DefL:=⟨fun K=>He.ga K "is_stand", "is_stand", "is_stand", defArgs qY,defBody qY,defScope qY,[],[],[]⟩
def jCS:DefL:=⟨fun K=>He.ma K (He.ga K "Way") "drop_answer", "drop_answer", "Way.drop_answer", defArgs vQ,defBody vQ,defScope vQ,[],[],[]⟩
def jGI:DefL:=⟨fun K=>He.ga K "drop_steps", "drop_steps", "drop_steps", defArgs zV,defBody zV,defScope zV,[],[],[]⟩
def jBK:DefL:=⟨fun K=>He.ma K (He.ga K "Way") "number_answer", "number_answer", "Way.number_answer", defArgs vH,defBody vH,defScope vH,[],[],[]⟩
def jER:DefL:=⟨fun K=>He.ga K "number_steps", "number_steps", "number_steps", defArgs uL,defBody uL,defScope uL,[],[],[]⟩
def jES:DefL:=⟨fun K=>He.ga K "landed_steps", "landed_steps", "landed_steps", defArgs uM,defBody uM,defScope uM,[],[],[]⟩
def jEQ:DefL:=⟨fun K=>He.ga K "return_steps", "return_steps", "return_steps", defArgs uK,defBody uK,defScope uK,[],[],[]⟩
def jGH:DefL:=⟨fun K=>He.ga K "steps_from", "steps_from", "steps_from", defArgs zU,defBody zU,defScope zU,[],[],[]⟩
def jMC:DefL:=⟨fun K=>He.ga K "reached", "reached", "reached", defArgs jAZ,defBody jAZ,defScope jAZ,[],[],[]⟩
def jJJ:DefL:=⟨fun K=>He.ga K "shortest", "shortest", "shortest", defArgs qW,defBody qW,defScope qW,[],[],[]⟩
def jJK:DefL:=⟨fun K=>He.ga K "is_table", "is_table", "is_table", defArgs qX,defBody qX,defScope qX,[],[],[]⟩
def vY:DefL:=⟨fun K=>He.ma K (He.ga K "Way") "__init__", "__init__", "Way.__init__", defArgs uO,defBody uO,defScope uO,[],[He.Dv.str "tttttttt", He.Dv.str "tttt"],[("stretches", He.Dv.bl false),("hidden", He.Dv.bl false),("lock", He.Dv.str "none")]⟩
def qJ:DefL:=⟨fun K=>He.ma K (He.ga K "Way") "but", "but", "Way.but", defArgs jBC,defBody jBC,defScope jBC,[],[],[("drops", He.Dv.non),("numbers", He.Dv.non),("stretches", He.Dv.non),("hidden", He.Dv.non),("lock", He.Dv.non)]⟩
def jOQ:DefL:=⟨fun K=>He.ga K "mended", "mended", "mended", defArgs jCK,defBody jCK,defScope jCK,[],[],[]⟩
def jFG:DefL:=⟨fun K=>He.ga K "kept_wishes", "kept_wishes", "kept_wishes", defArgs zA,defBody zA,defScope zA,[],[],[]⟩
def jEE:DefL:=⟨fun K=>He.ga K "sets_of_mends", "sets_of_mends", "sets_of_mends", defArgs vZ,defBody vZ,defScope vZ,[],[],[]⟩
def jFF:DefL:=⟨fun K=>He.ga K "least_mends", "least_mends", "least_mends", defArgs uZ,defBody uZ,defScope uZ,[],[],[]⟩
def jHZ:DefL:=⟨fun K=>He.ga K "_law_open", "_law_open", "_law_open", defArgs kE,defBody kE,defScope kE,[],[],[]⟩
def jIB:DefL:=⟨fun K=>He.ga K "_law_draw", "_law_draw", "_law_draw", defArgs kJ,defBody kJ,defScope kJ,[],[],[]⟩
def jME:DefL:=⟨fun K=>He.ga K "_law_of", "_law_of", "_law_of", defArgs jBB,defBody jBB,defScope jBB,[],[],[]⟩
def jIA:DefL:=⟨fun K=>He.ga K "_law_like", "_law_like", "_law_like", defArgs uR,defBody uR,defScope uR,[],[],[]⟩
def jGM:DefL:=⟨fun K=>He.ga K "_law_field", "_law_field", "_law_field", defArgs wA,defBody wA,defScope wA,[],[],[]⟩
def jJN:DefL:=⟨fun K=>He.ga K "_law_try", "_law_try", "_law_try", defArgs jCZ,defBody jCZ,defScope jCZ,[],[],[]⟩
def jDO:DefL:=⟨fun K=>He.ga K "_law_some_spec", "_law_some_spec", "_law_some_spec", defArgs uA,defBody uA,defScope uA,[],[],[]⟩
def jJM:DefL:=⟨fun K=>He.ga K "_law_way", "_law_way", "_law_way", defArgs qZ,defBody qZ,defScope qZ,[],[],[]⟩
def jFI:DefL:=⟨fun K=>He.ga K "_law_wishes", "_law_wishes", "_law_wishes", defArgs zE,defBody zE,defScope zE,[],[],[]⟩
def jJO:DefL:=⟨fun K=>He.ga K "_law_put", "_law_put", "_law_put", defArgs jAA,defBody jAA,defScope jAA,[],[],[]⟩
def jBH:DefL:=⟨fun K=>He.ga K "_law_number_taken", "_law_number_taken", "_law_number_taken", defArgs vC,defBody vC,defScope vC,[],[],[]⟩
def jCR:DefL:=⟨fun K=>He.ga K "_law_drop_steps", "_law_drop_steps", "_law_drop_steps", defArgs vP,defBody vP,defScope vP,[],[],[]⟩
def jBI:DefL:=⟨fun K=>He.ga K "_law_number_steps", "_law_number_steps", "_law_number_steps", defArgs vD,defBody vD,defScope vD,[],[],[]⟩
def jBJ:DefL:=⟨fun K=>He.ga K "_law_landed_steps", "_law_landed_steps", "_law_landed_steps", defArgs vG,defBody vG,defScope vG,[],[],[]⟩
def jBG:DefL:=⟨fun K=>He.ga K "_law_return_steps", "_law_return_steps", "_law_return_steps", defArgs vB,defBody vB,defScope vB,[],[],[]⟩
def jGK:DefL:=⟨fun K=>He.ga K "_law_steps", "_law_steps", "_law_steps", defArgs zX,defBody zX,defScope zX,[],[],[]⟩
def jGL:DefL:=⟨fun K=>He.ga K "_law_first", "_law_first", "_law_first", defArgs zY,defBody zY,defScope zY,[],[],[]⟩
def jET:DefL:=⟨fun K=>He.ga K "_law_reached", "_law_reached", "_law_reached", defArgs uN,defBody uN,defScope uN,[],[],[]⟩
def jFJ:DefL:=⟨fun K=>He.ga K "_law_fewest", "_law_fewest", "_law_fewest", defArgs zF,defBody zF,defScope zF,[],[],[]⟩
def jCF:DefL:=⟨fun K=>He.ga K "_law_mended_spec", "_law_mended_spec", "_law_mended_spec", defArgs vJ,defBody vJ,defScope vJ,[],[],[]⟩
def jDP:DefL:=⟨fun K=>He.ga K "_law_mend_sets", "_law_mend_sets", "_law_mend_sets", defArgs uB,defBody uB,defScope uB,[],[],[]⟩
def jCG:DefL:=⟨fun K=>He.ga K "_law_least_mends", "_law_least_mends", "_law_least_mends", defArgs vK,defBody vK,defScope vK,[],[],[]⟩
def yEC:DefL:=⟨fun K=>He.ga K "law", "law", "law", defArgs jGZ,defBody jGZ,defScope jGZ,[],[],[]⟩
abbrev jAL:Stmt:=(jYY (top 4)).getD 0 (.Pass ⟨0,0,0,0⟩)
def jKE:DefL:=⟨fun K=>He.ma K (He.ga K "InvalidTable") "__init__", "__init__", "InvalidTable.__init__", defArgs jAL,defBody jAL,defScope jAL,["__class__"],[],[]⟩
abbrev jAC:Stmt:=(jYY (top 5)).getD 0 (.Pass ⟨0,0,0,0⟩)
def jIY:DefL:=⟨fun K=>He.ma K (He.ga K "InvalidOption") "__init__", "__init__", "InvalidOption.__init__", defArgs jAC,defBody jAC,defScope jAC,["__class__"],[],[]⟩
abbrev jBW:Stmt:=(jYY (top 6)).getD 0 (.Pass ⟨0,0,0,0⟩)
def jLG:DefL:=⟨fun K=>He.ma K (He.ga K "InvalidWish") "__init__", "__init__", "InvalidWish.__init__", defArgs jBW,defBody jBW,defScope jBW,["__class__"],[],[]⟩
abbrev jAM:Stmt:=(jYY (top 7)).getD 0 (.Pass ⟨0,0,0,0⟩)
def jKF:DefL:=⟨fun K=>He.ma K (He.ga K "InvalidStand") "__init__", "__init__", "InvalidStand.__init__", defArgs jAM,defBody jAM,defScope jAM,["__class__"],[],[]⟩
def fnT:List DefL:=[jMD,jGJ,jFH,jJL,jCS,jGI,jBK,jER,jES,jEQ,jGH,jMC,jJJ,jJK,vY,qJ,jOQ,jFG,jEE,jFF,jHZ,jIB,jME,jIA,jGM,jJN,jDO,jJM,jFI,jJO,jBH,jCR,jBI,jBJ,jBG,jGK,jGL,jET,jFJ,jCF,jDP,jCG,yEC,jKE,jIY,jLG,jKF]
def tsT:List He.Tab:=[(fun K=>He.ga K "WORDS", jHD.map (·.1)),(fun K=>He.ga K "SIZES", jKP.map (·.1))]
def faT:List FactL:=[(fun K _=>(He.Fa.glo "is_wish").ok K),
 (fun K _=>(He.Fa.glo "check_wish").ok K),
 (fun K _=>(He.Fa.glo "first_stand").ok K),
 (fun K _=>(He.Fa.glo "is_stand").ok K),
 (fun K _=>(He.Fa.glo "drop_steps").ok K),
 (fun K _=>(He.Fa.glo "number_steps").ok K),
 (fun K _=>(He.Fa.glo "landed_steps").ok K),
 (fun K _=>(He.Fa.glo "return_steps").ok K),
 (fun K _=>(He.Fa.glo "steps_from").ok K),
 (fun K _=>(He.Fa.glo "reached").ok K),
 (fun K _=>(He.Fa.glo "shortest").ok K),
 (fun K _=>(He.Fa.glo "is_table").ok K),
 (fun K _=>(He.Fa.glo "mended").ok K),
 (fun K _=>(He.Fa.glo "kept_wishes").ok K),
 (fun K _=>(He.Fa.glo "sets_of_mends").ok K),
 (fun K _=>(He.Fa.glo "least_mends").ok K),
 (fun K _=>(He.Fa.glo "_law_open").ok K),
 (fun K _=>(He.Fa.glo "_law_draw").ok K),
 (fun K _=>(He.Fa.glo "_law_of").ok K),
 (fun K _=>(He.Fa.glo "_law_like").ok K),
 (fun K _=>(He.Fa.glo "_law_field").ok K),
 (fun K _=>(He.Fa.glo "_law_try").ok K),
 (fun K _=>(He.Fa.glo "_law_some_spec").ok K),
 (fun K _=>(He.Fa.glo "_law_way").ok K),
 (fun K _=>(He.Fa.glo "_law_wishes").ok K),
 (fun K _=>(He.Fa.glo "_law_put").ok K),
 (fun K _=>(He.Fa.glo "_law_number_taken").ok K),
 (fun K _=>(He.Fa.glo "_law_drop_steps").ok K),
 (fun K _=>(He.Fa.glo "_law_number_steps").ok K),
 (fun K _=>(He.Fa.glo "_law_landed_steps").ok K),
 (fun K _=>(He.Fa.glo "_law_return_steps").ok K),
 (fun K _=>(He.Fa.glo "_law_steps").ok K),
 (fun K _=>(He.Fa.glo "_law_first").ok K),
 (fun K _=>(He.Fa.glo "_law_reached").ok K),
 (fun K _=>(He.Fa.glo "_law_fewest").ok K),
 (fun K _=>(He.Fa.glo "_law_mended_spec").ok K),
 (fun K _=>(He.Fa.glo "_law_mend_sets").ok K),
 (fun K _=>(He.Fa.glo "_law_least_mends").ok K),
 (fun K _=>(He.Fa.glo "law").ok K),
 (fun K _=>(He.Fa.free "all").ok K),
 (fun K _=>(He.Fa.free "any").ok K),
 (fun K _=>(He.Fa.free "bool").ok K),
 (fun K _=>(He.Fa.free "int").ok K),
 (fun K _=>(He.Fa.free "isinstance").ok K),
 (fun K _=>(He.Fa.free "len").ok K),
 (fun K _=>(He.Fa.free "list").ok K),
 (fun K _=>(He.Fa.free "range").ok K),
 (fun K _=>(He.Fa.free "sorted").ok K),
 (fun K _=>(He.Fa.free "str").ok K),
 (fun K _=>(He.Fa.free "tuple").ok K),
 (fun K _=>(He.Fa.free "zip").ok K),
 (fun K _=>(He.Fa.glo "DropError").ok K),
 (fun K _=>(He.Fa.glo "Missing").ok K),
 (fun K _=>(He.Fa.glo "NothingLeft").ok K),
 (fun K _=>(He.Fa.glo "InvalidTable").ok K),
 (fun K _=>jRV K "ValueError" "ValueError.__init__" "ValueError.__new__" [.type "ValueError", .type "Exception", .type "BaseException", .type "object"] (He.ga K "InvalidTable")),
 (fun K _=>jNX K (He.ga K "InvalidTable") ["code", "given"]),
 (fun K _=>jOB K (He.ga K "InvalidTable") (He.ma K (He.ga K "InvalidTable") "__init__")),
 (fun K _=>jRW Pg K (He.ma K (He.ga K "InvalidTable") "__init__") (He.ga K "InvalidTable")),
 (fun K _=>decide (PySem.W.exmAny K (.ref (He.ga K "InvalidTable")) [.ref (He.ga K "DropError"),.ref (He.ga K "Missing"),.ref (He.ga K "NothingLeft")]=some true)),
 (fun K _=>(He.Fa.glo "InvalidOption").ok K),
 (fun K _=>jRV K "ValueError" "ValueError.__init__" "ValueError.__new__" [.type "ValueError", .type "Exception", .type "BaseException", .type "object"] (He.ga K "InvalidOption")),
 (fun K _=>jNX K (He.ga K "InvalidOption") ["code", "word"]),
 (fun K _=>jOB K (He.ga K "InvalidOption") (He.ma K (He.ga K "InvalidOption") "__init__")),
 (fun K _=>jRW Pg K (He.ma K (He.ga K "InvalidOption") "__init__") (He.ga K "InvalidOption")),
 (fun K _=>decide (PySem.W.exmAny K (.ref (He.ga K "InvalidOption")) [.ref (He.ga K "DropError"),.ref (He.ga K "Missing"),.ref (He.ga K "NothingLeft")]=some true)),
 (fun K _=>(He.Fa.glo "InvalidWish").ok K),
 (fun K _=>jRV K "ValueError" "ValueError.__init__" "ValueError.__new__" [.type "ValueError", .type "Exception", .type "BaseException", .type "object"] (He.ga K "InvalidWish")),
 (fun K _=>jNX K (He.ga K "InvalidWish") ["code", "given"]),
 (fun K _=>jOB K (He.ga K "InvalidWish") (He.ma K (He.ga K "InvalidWish") "__init__")),
 (fun K _=>jRW Pg K (He.ma K (He.ga K "InvalidWish") "__init__") (He.ga K "InvalidWish")),
 (fun K _=>decide (PySem.W.exmAny K (.ref (He.ga K "InvalidWish")) [.ref (He.ga K "DropError"),.ref (He.ga K "Missing"),.ref (He.ga K "NothingLeft")]=some true)),
 (fun K _=>(He.Fa.glo "InvalidStand").ok K),
 (fun K _=>jRV K "ValueError" "ValueError.__init__" "ValueError.__new__" [.type "ValueError", .type "Exception", .type "BaseException", .type "object"] (He.ga K "InvalidStand")),
 (fun K _=>jNX K (He.ga K "InvalidStand") ["code", "given"]),
 (fun K _=>jOB K (He.ga K "InvalidStand") (He.ma K (He.ga K "InvalidStand") "__init__")),
 (fun K _=>jRW Pg K (He.ma K (He.ga K "InvalidStand") "__init__") (He.ga K "InvalidStand")),
 (fun K _=>decide (PySem.W.exmAny K (.ref (He.ga K "InvalidStand")) [.ref (He.ga K "DropError"),.ref (He.ga K "Missing"),.ref (He.ga K "NothingLeft")]=some true)),
 (fun K _=>(He.Fa.free "super").ok K),
 (fun K T=>jUJ K T (He.ga K "sets_of_mends")),
 (fun K T=>jUJ K T (He.ga K "law")),
 (fun K _=>ndT K lsT),
 (fun K _=>(He.Fa.glo "Way").ok K),
 (fun K _=>(He.Fa.cls "Way").ok K),
 (fun K _=>(He.Fa.noat "Way" "drops").ok K),
 (fun K _=>(He.Fa.noat "Way" "numbers").ok K),
 (fun K _=>(He.Fa.noat "Way" "stretches").ok K),
 (fun K _=>(He.Fa.noat "Way" "hidden").ok K),
 (fun K _=>(He.Fa.noat "Way" "lock").ok K),
 (fun K _=>(He.Fa.meth "Way" "drop_answer").ok K),
 (fun K _=>(He.Fa.meth "Way" "number_answer").ok K),
 (fun K _=>(He.Fa.mkr "Way").ok K),
 (fun K _=>(He.Fa.meth "Way" "but").ok K),
 (fun K _=>(He.Fa.glo "BROKEN").ok K),
 (fun K _=>jQJ K (He.ga K "BROKEN") [.str "broken"]),
 (fun K _=>(He.Fa.glo "WISHES").ok K),
 (fun K _=>jQJ K (He.ga K "WISHES") [.str "lands", .str "stays", .str "still", .str "returns", .str "heard", .str "numbered"]),
 (fun K _=>(He.Fa.glo "MENDS").ok K),
 (fun K _=>jQJ K (He.ga K "MENDS") [.str "hidden", .str "whole", .str "one", .str "all", .str "drops", .str "numbers"]),
 (fun K _=>yED K (He.ga K "Way") "LOCKS" [.str "none", .str "one", .str "all"]),
 (fun K _=>(He.Fa.glo "WORDS").ok K),
 (fun K _=>yUT K (He.ga K "WORDS") jHD),
 (fun K _=>(He.Fa.glo "SIZES").ok K),
 (fun K _=>yIF K (He.ga K "SIZES") jKP)]
def names0:List PySem.Str:=["DropError", "Missing", "NothingLeft", "InvalidTable", "InvalidOption", "InvalidWish", "InvalidStand", "InvalidText", "WISHES", "is_wish", "check_wish", "BROKEN", "SIZES", "first_stand", "is_stand", "drop_steps", "number_steps", "landed_steps", "return_steps", "steps_from", "reached", "shortest", "MENDS", "mended", "kept_wishes", "sets_of_mends", "least_mends", "WORDS", "is_table", "Way"]
def names1:List PySem.Str:=["_law_open", "_law_draw", "_law_of", "_law_like", "_law_field", "_law_try", "_law_some_spec", "_law_way", "_law_wishes", "_law_put", "_law_number_taken", "_law_drop_steps", "_law_number_steps", "_law_landed_steps", "_law_return_steps", "_law_steps", "_law_first", "_law_reached", "_law_fewest", "_law_mended_spec", "_law_mend_sets", "_law_least_mends"]
def jPJ:List PySem.Str:=names0++names1
abbrev qv:Program:=PySem.W.view Rw.prog [58]
def ad0:List Addr:=[3,2,183,24,102,144,81,123,242,37,59,184,168,265,342,360,426,469,379,459,440,486,372,481,476,433,419,367,353,412,464,447,391,452,386,398,405,0,182,203,191,196,270,175,254,215,491,264,249,208,234,222,259,241,227,23,101,143,80,122,36,58,341,359,425,468,378,458,439,485,371,480,475,432,418,366,352,411,463,446,390,451,385,397,404,181,202,190,195,269,174,253,214,490,263,248,207,233,221,258]
def ad1:List Addr:=[240,226,22,25,99,100,141,142,78,79,120,121,35,38,56,57,60,278,279,288,295,302,310,315,324,332,339,340,343,344,354,355,356,357,358,420,421,422,423,424,465,466,467,373,374,375,376,377,453,454,455,456,457,434,435,436,437,438,482,483,484,368,369,370,477,478,479,470,471,472,473,474,427,428,429,430,431,413,414,415,416,417,361,362,363,364,365,347,348,349,350,351,406,407,408,409,410,460,461,462]
def ad2:List Addr:=[441,442,443,444,445,387,388,389,448,449,450,380,381,382,383,384,392,393,394,395,396,399,400,401,402,403,176,177,178,179,180,197,198,199,200,201,185,186,187,188,189,192,193,194,266,267,268,169,170,171,172,173,250,251,252,209,210,211,212,213,487,488,489,260,261,262,243,244,245,246,247,204,205,206,228,229,230,231,232,216,217,218,219,220,255,256,257,235,236,237,238,239,223,224,225,98,87,140,129,77]
def ad3:List Addr:=[66,119,108,55,44,287,280,281,294,301,309,303,314,322,323,331,338,93,94,95,96,97,135,136,137,138,139,72,73,74,75,76,114,115,116,117,118,50,51,52,53,54,282,283,284,285,286,289,290,291,292,293,296,297,298,299,300,304,305,306,307,308,311,312,313,321,325,326,327,328,329,330,333,334,335,336,337,316,317,318,319,320]
def adT:List Addr:=ad0++ad1++ad2++ad3
theorem yZYa (w:World):RunAB0 Rw qv adT faT jPJ 8000 (w.withFollow "special-get-raises" false):=by
 intro os
 kernel_rfl
theorem yZYb (w:World):RunF0 Rw adT faT 8000 (w.withFollow "special-get-raises" false):=by
 intro os
 kernel_rfl
theorem yZY (w:World):RunAB2 Rw qv adT faT jPJ 8000 (w.withFollow "special-get-raises" false):=fun os=>pair_ofR (yZYa w os) (yZYb w os)
theorem yZZ (w:World):RunC3 Rw adT fnT tsT 8000 (w.withFollow "special-get-raises" false):=by
 intro os
 kernel_rfl
theorem yZWa (w:World):RunAB0 Rw qv adT faT jPJ 8000 (w.withFollow "special-get-raises" true):=by
 intro os
 kernel_rfl
theorem yZWb (w:World):RunF0 Rw adT faT 8000 (w.withFollow "special-get-raises" true):=by
 intro os
 kernel_rfl
theorem yZW (w:World):RunAB2 Rw qv adT faT jPJ 8000 (w.withFollow "special-get-raises" true):=fun os=>pair_ofR (yZWa w os) (yZWb w os)
theorem yZX (w:World):RunC3 Rw adT fnT tsT 8000 (w.withFollow "special-get-raises" true):=by
 intro os
 kernel_rfl
end LW
set_option Elab.async false
set_option linter.all false
set_option maxRecDepth 100000
set_option maxHeartbeats 4000000
namespace Lp
open PySem PySem.Spec PyProof.Rows L2
mutual
def peq:PV→PV→Bool
 | .non,y=>match y with | .non=>true | _=>false
 | .bl a,y=>match y with | .bl b=>a == b | _=>false
 | .int a,y=>match y with | .int b=>decide (a=b) | _=>false
 | .str a,y=>match y with | .str b=>decide (a=b) | _=>false
 | .tup a,y=>match y with | .tup b=>peqs a b | _=>false
 | .lst a,y=>match y with | .lst b=>peqs a b | _=>false
 | .scr a,y=>match y with | .scr b=>peqs a b | _=>false
 | .own a,y=>match y with | .own b=>peqs a b | _=>false
 | .dic a,y=>match y with | .dic b=>peqp a b | _=>false
 | .don a,y=>match y with | .don b=>peqp a b | _=>false
 | .ins c a,y=>match y with | .ins d b=>decide (c=d)&&peqs a b | _=>false
 | .cel a,y=>match y with | .cel b=>decide (a=b) | _=>false
 | .exn c a,y=>match y with | .exn d b=>decide (c=d)&&peqs a b | _=>false
 | .ty a,y=>match y with | .ty b=>decide (a=b) | _=>false
 | .cls a,y=>match y with | .cls b=>decide (a=b) | _=>false
def peqs:List PV→List PV→Bool
 | [],y=>match y with | []=>true | _=>false
 | a :: r,y=>match y with | b :: t=>peq a b&&peqs r t | _=>false
def peqp:List (PV × PV)→List (PV × PV)→Bool
 | [],y=>match y with | []=>true | _=>false
 | a :: r,y=>match y with | b :: t=>peqq a b&&peqp r t | _=>false
def peqq:PV × PV→PV × PV→Bool
 | (a,b),y=>peq a y.1&&peq b y.2
end
mutual
theorem jWY:∀ (x y:PV),peq x y=true→x=y
 | .non,y,h=>by
  unfold peq at h
  split at h
  ·rfl
  ·cases h
 | .bl a,y,h=>by
  unfold peq at h
  split at h
  ·exact congrArg PV.bl (eq_of_beq h)
  ·cases h
 | .int a,y,h=>by
  unfold peq at h
  split at h
  ·exact congrArg PV.int (of_decide_eq_true h)
  ·cases h
 | .str a,y,h=>by
  unfold peq at h
  split at h
  ·exact congrArg PV.str (of_decide_eq_true h)
  ·cases h
 | .cel a,y,h=>by
  unfold peq at h
  split at h
  ·exact congrArg PV.cel (of_decide_eq_true h)
  ·cases h
 | .ty a,y,h=>by
  unfold peq at h
  split at h
  ·exact congrArg PV.ty (of_decide_eq_true h)
  ·cases h
 | .cls a,y,h=>by
  unfold peq at h
  split at h
  ·exact congrArg PV.cls (of_decide_eq_true h)
  ·cases h
 | .tup a,y,h=>by
  unfold peq at h
  split at h
  ·exact congrArg PV.tup (peqs_of _ _ h)
  ·cases h
 | .lst a,y,h=>by
  unfold peq at h
  split at h
  ·exact congrArg PV.lst (peqs_of _ _ h)
  ·cases h
 | .scr a,y,h=>by
  unfold peq at h
  split at h
  ·exact congrArg PV.scr (peqs_of _ _ h)
  ·cases h
 | .own a,y,h=>by
  unfold peq at h
  split at h
  ·exact congrArg PV.own (peqs_of _ _ h)
  ·cases h
 | .dic a,y,h=>by
  unfold peq at h
  split at h
  ·exact congrArg PV.dic (peqp_of _ _ h)
  ·cases h
 | .don a,y,h=>by
  unfold peq at h
  split at h
  ·exact congrArg PV.don (peqp_of _ _ h)
  ·cases h
 | .ins c a,y,h=>by
  unfold peq at h
  split at h
  ·have h:=Bool.and_eq_true_iff.mp h; rw [of_decide_eq_true h.1,peqs_of _ _ h.2]
  ·cases h
 | .exn c a,y,h=>by
  unfold peq at h
  split at h
  ·have h:=Bool.and_eq_true_iff.mp h; rw [of_decide_eq_true h.1,peqs_of _ _ h.2]
  ·cases h
theorem peqs_of:∀ (x y:List PV),peqs x y=true→x=y
 | [],y,h=>by
  unfold peqs at h
  split at h
  ·rfl
  ·cases h
 | a :: r,y,h=>by
  unfold peqs at h
  split at h
  ·have h:=Bool.and_eq_true_iff.mp h; rw [jWY _ _ h.1,peqs_of _ _ h.2]
  ·cases h
theorem peqp_of:∀ (x y:List (PV × PV)),peqp x y=true→x=y
 | [],y,h=>by
  unfold peqp at h
  split at h
  ·rfl
  ·cases h
 | a :: r,y,h=>by
  unfold peqp at h
  split at h
  ·have h:=Bool.and_eq_true_iff.mp h; rw [peqq_of _ _ h.1,peqp_of _ _ h.2]
  ·cases h
theorem peqq_of:∀ (x y:PV × PV),peqq x y=true→x=y
 | (a,b),y,h=>by
  unfold peqq at h
  have h:=Bool.and_eq_true_iff.mp h
  have h1:=jWY _ _ h.1
  have h2:=jWY _ _ h.2
  rw [h1,h2]
end
mutual
theorem jOP:∀ x:PV,peq x x=true
 | .non=>by unfold peq; rfl
 | .bl a=>by unfold peq; simp
 | .int a=>by unfold peq; exact decide_eq_true rfl
 | .str a=>by unfold peq; exact decide_eq_true rfl
 | .cel a=>by unfold peq; exact decide_eq_true rfl
 | .ty a=>by unfold peq; exact decide_eq_true rfl
 | .cls a=>by unfold peq; exact decide_eq_true rfl
 | .tup a=>by unfold peq; exact peqs_self a
 | .lst a=>by unfold peq; exact peqs_self a
 | .scr a=>by unfold peq; exact peqs_self a
 | .own a=>by unfold peq; exact peqs_self a
 | .dic a=>by unfold peq; exact peqp_self a
 | .don a=>by unfold peq; exact peqp_self a
 | .ins c a=>by unfold peq; exact Bool.and_eq_true_iff.mpr ⟨decide_eq_true rfl,peqs_self a⟩
 | .exn c a=>by unfold peq; exact Bool.and_eq_true_iff.mpr ⟨decide_eq_true rfl,peqs_self a⟩
theorem peqs_self:∀ x:List PV,peqs x x=true
 | []=>by unfold peqs; rfl
 | a :: r=>by unfold peqs; exact Bool.and_eq_true_iff.mpr ⟨jOP a,peqs_self r⟩
theorem peqp_self:∀ x:List (PV × PV),peqp x x=true
 | []=>by unfold peqp; rfl
 | a :: r=>by unfold peqp; exact Bool.and_eq_true_iff.mpr ⟨peqq_self a,peqp_self r⟩
theorem peqq_self:∀ x:PV × PV,peqq x x=true
 | (a,b)=>by unfold peqq; exact Bool.and_eq_true_iff.mpr ⟨jOP a,jOP b⟩
end
instance:DecidableEq PV:=fun a b=>match h:peq a b with
 | true=>.isTrue (jWY _ _ h)
 | false=>.isFalse fun e=>by rw [e,jOP] at h; cases h
inductive Cell where
 | lst (xs:List PV) | dic (ks:List (PV × PV)) | ins (c:Nat) (fs:List PV)
 | dik (ks:List (L2.Key × PV))
def ceq:Cell→Cell→Bool
 | .lst x,.lst y=>peqs x y
 | .dic x,.dic y=>peqp x y
 | .ins c x,.ins d y=>decide (c=d)&&peqs x y
 | .dik x,.dik y=>decide (x=y)
 | _,_=>false
theorem vCE:∀ (a b:Cell),ceq a b=true→a=b
 | .lst x,.lst y,h=>congrArg Cell.lst (peqs_of x y h)
 | .dic x,.dic y,h=>congrArg Cell.dic (peqp_of x y h)
 | .ins c x,.ins d y,h=>by
  have h:=Bool.and_eq_true_iff.mp h
  rw [of_decide_eq_true h.1,peqs_of _ _ h.2]
 | .dik x,.dik y,h=>congrArg Cell.dik (of_decide_eq_true h)
 | .lst _,.dic _,h=>by cases h
 | .lst _,.ins _ _,h=>by cases h
 | .lst _,.dik _,h=>by cases h
 | .dic _,.lst _,h=>by cases h
 | .dic _,.ins _ _,h=>by cases h
 | .dic _,.dik _,h=>by cases h
 | .ins _ _,.lst _,h=>by cases h
 | .ins _ _,.dic _,h=>by cases h
 | .ins _ _,.dik _,h=>by cases h
 | .dik _,.lst _,h=>by cases h
 | .dik _,.dic _,h=>by cases h
 | .dik _,.ins _ _,h=>by cases h
theorem yLZ:∀ a:Cell,ceq a a=true
 | .lst x=>peqs_self x
 | .dic x=>peqp_self x
 | .ins c x=>Bool.and_eq_true_iff.mpr ⟨decide_eq_true rfl,peqs_self x⟩
 | .dik x=>decide_eq_true rfl
instance:DecidableEq Cell:=fun a b=>match h:ceq a b with
 | true=>.isTrue (vCE _ _ h)
 | false=>.isFalse fun e=>by rw [e,yLZ] at h; cases h
abbrev AH:=List (Option Cell)
structure S where
 e:List (Option PV)
 h:AH
inductive R (τ:Type) (α:Type) where
 | ok (a:α) (s:τ) | exc (x:PV) (s:τ) | bad
def R.bind {τ α β:Type} (r:R τ α) (f:α→τ→R τ β):R τ β:=match r with
 | .ok a s=>f a s
 | .exc x s=>.exc x s
 | .bad=>.bad
@[simp] theorem R.bind_ok {τ α β:Type} (a:α) (s:τ) (f:α→τ→R τ β):(R.ok a s).bind f=f a s:=rfl
@[simp] theorem R.bind_exc {τ α β:Type} (x:PV) (s:τ) (f:α→τ→R τ β):(R.exc x s:R τ α).bind f=.exc x s:=rfl
@[simp] theorem R.bind_bad {τ α β:Type} (f:α→τ→R τ β):(R.bad:R τ α).bind f=.bad:=rfl
def R.post {τ α:Type} (r:R τ α) (P:α→τ→Prop) (E:PV→τ→Prop):Prop:=match r with
 | .ok a s=>P a s
 | .exc x s=>E x s
 | .bad=>False
theorem R.post_bind {τ α β:Type} {r:R τ α} {f:α→τ→R τ β} {P:β→τ→Prop} {E:PV→τ→Prop} (h:(r.bind f).post P E):r.post (fun a s=>(f a s).post P E) E:=by
 cases r with
 | ok a s=>exact h
 | exc x s=>exact h
 | bad=>exact h
theorem R.post_mono {τ α:Type} {r:R τ α} {P P':α→τ→Prop} {E E':PV→τ→Prop} (h:r.post P E) (hp:∀ a s,P a s→P' a s) (he:∀ x s,E x s→E' x s):r.post P' E':=by
 cases r with
 | ok a s=>exact hp _ _ h
 | exc x s=>exact he _ _ h
 | bad=>exact h
structure Bs where
 K:PySem.W.Frag
 cad:Nat→Addr
 fld:Nat→List Str
 T:List (Addr × Str)
 w:World
 xn:Option (Addr × Nat × Addr):=none
structure Wd where
 F:Hp
 m:List Addr
def TupAt (B:Bs) (W:Wd) (a:Addr) (vs:List V):Prop:=W.F a=some (.tup vs) ∨
 ∃ (o:Obj) (its:Array Value) (n:Nat),B.K.lookup a=some o∧o.cls=.type "tuple" ∧ o.data=.seq its n∧its.size≤sizeLine∧Vals vs its.toList
def ScrAt (B:Bs) (W:Wd) (a:Addr) (vs:List V):Prop:=((W.F a=some (.lst vs)∨∃ o,W.F a=some (.frz o (.lst vs)))∧vs.length≤sizeLine) ∨
 ∃ (o:Obj) (its:Array Value) (n:Nat),B.K.lookup a=some o∧o.cls=.type "list" ∧ o.dict=none∧o.data=.seq its n∧its.size≤sizeLine∧Vals vs its.toList
def SOk (x:Str):Prop:=PyData.strOk x=true∧x.length≤sizeLine
mutual
inductive Rep (B:Bs) (W:Wd):PV→V→Prop where
 | non:Rep B W .non .non
 | bl (b:Bool):Rep B W (.bl b) (.bl b)
 | int (i:Int):Rep B W (.int i) (.int i)
 | str (x:Str) (h:SOk x):Rep B W (.str x) (.str x)
 | ty (n:String):Rep B W (.ty n) (.ty n)
 | cls (c:Nat):Rep B W (.cls c) (.ref (B.cad c))
 | cel {n:Nat} {a:Addr} (h:W.m[n]?=some a):Rep B W (.cel n) (.ref a)
 | tup {xs:List PV} {a:Addr} {vs:List V} (h:TupAt B W a vs) (r:Reps B W xs vs):Rep B W (.tup xs) (.ref a)
 | lst {xs:List PV} {a:Addr} {vs:List V} (h:W.F a=some (.lst vs)) (r:Reps B W xs vs):Rep B W (.lst xs) (.ref a)
 | scr {xs:List PV} {a:Addr} {vs:List V} (h:ScrAt B W a vs) (r:Reps B W xs vs):Rep B W (.scr xs) (.ref a)
 | ins {c:Nat} {fs:List PV} {a dx:Addr} {vs:List V} (h:W.F a=some (.ins (B.cad c) dx ((B.fld c).zip vs))) (hl:vs.length≤(B.fld c).length) (r:Reps B W fs vs):Rep B W (.ins c fs) (.ref a)
 | exn {c:Nat} {fs:List PV} {a dd:Addr} {vs:List V} (hx:B.xn=some (a,c,dd)) (h:W.F dd=some (.xd ((B.fld c).zip vs))) (hl:vs.length=(B.fld c).length) (r:Reps B W fs vs):Rep B W (.exn c fs) (.ref a)
inductive Reps (B:Bs) (W:Wd):List PV→List V→Prop where
 | nil:Reps B W [] []
 | cons {x:PV} {v:V} {xs:List PV} {vs:List V} (h:Rep B W x v) (t:Reps B W xs vs):Reps B W (x :: xs) (v :: vs)
end
structure Wd.Le (W W':Wd):Prop where
 F:∀ a o,W.F a=some o→W'.F a=some o
 m:W.m <+: W'.m
theorem Wd.Le.refl (W:Wd):W.Le W:=⟨fun _ _ h=>h,List.prefix_refl _⟩
theorem Wd.Le.trans {W W1 W2:Wd} (a:W.Le W1) (b:W1.Le W2):W.Le W2:=⟨fun c o h=>b.F c o (a.F c o h),a.m.trans b.m⟩
theorem Wd.Le.at {W W':Wd} (l:W.Le W') {n:Nat} {a:Addr} (h:W.m[n]?=some a):W'.m[n]?=some a:=by
 obtain ⟨t,e⟩:=l.m
 rw [← e,List.getElem?_append_left (List.getElem?_eq_some_iff.mp h).1]
 exact h
mutual
theorem Rep.mono {B:Bs} {W W':Wd} (l:W.Le W'):∀ {x:PV} {v:V},Rep B W x v→Rep B W' x v
 | _,_,.non=>.non
 | _,_,.bl b=>.bl b
 | _,_,.int i=>.int i
 | _,_,.str x h=>.str x h
 | _,_,.ty n=>.ty n
 | _,_,.cls c=>.cls c
 | _,_,.cel h=>.cel (l.at h)
 | _,_,.tup h r=>.tup (h.imp (l.F _ _) fun z=>z) (Reps.mono l r)
 | _,_,.lst h r=>.lst (l.F _ _ h) (Reps.mono l r)
 | _,_,.scr h r=>.scr (h.imp (fun ⟨e,z⟩=>⟨e.imp (l.F _ _) fun ⟨o,e⟩=>⟨o,l.F _ _ e⟩,z⟩) fun z=>z) (Reps.mono l r)
 | _,_,.ins h hl r=>.ins (l.F _ _ h) hl (Reps.mono l r)
 | _,_,.exn hx h hl r=>.exn hx (l.F _ _ h) hl (Reps.mono l r)
theorem Reps.mono {B:Bs} {W W':Wd} (l:W.Le W'):∀ {xs:List PV} {vs:List V},Reps B W xs vs→Reps B W' xs vs
 | _,_,.nil=>.nil
 | _,_,.cons h t=>.cons (Rep.mono l h) (Reps.mono l t)
end
section
variable {B:Bs} {W:Wd}
theorem Reps.length:∀ {xs:List PV} {vs:List V},Reps B W xs vs→xs.length=vs.length
 | _,_,.nil=>rfl
 | _,_,.cons _ t=>congrArg Nat.succ (Reps.length t)
theorem Reps.append:∀ {xs ys:List PV} {vs ws:List V},Reps B W xs vs→Reps B W ys ws→Reps B W (xs++ys) (vs++ws)
 | _,_,_,_,.nil,s=>s
 | _,_,_,_,.cons r t,s=>.cons r (Reps.append t s)
theorem Reps.get:∀ {xs:List PV} {vs:List V} {i:Nat} {x:PV},Reps B W xs vs→xs[i]?=some x→∃ v,vs[i]?=some v∧Rep B W x v
 | _,_,_,_,.nil,e=>by simp at e
 | _,_,0,_,.cons r _,e=>by simp at e; subst e; exact ⟨_,rfl,r⟩
 | _,_,i+1,x,.cons _ t,e=>by
  obtain ⟨u,h1,h2⟩:=Reps.get (i:=i) (x:=x) t (by simpa using e)
  exact ⟨u,by simpa using h1,h2⟩
theorem Reps.set {x:PV} {v:V} (r:Rep B W x v):∀ {xs:List PV} {vs:List V} (i:Nat),Reps B W xs vs→Reps B W (xs.set i x) (vs.set i v)
 | _,_,_,.nil=>.nil
 | _,_,0,.cons _ t=>.cons r t
 | _,_,i+1,.cons q t=>.cons q (Reps.set r i t)
theorem Reps.take:∀ {xs:List PV} {vs:List V} (n:Nat),Reps B W xs vs→Reps B W (xs.take n) (vs.take n)
 | _,_,0,_=>.nil
 | _,_,_+1,.nil=>.nil
 | _,_,n+1,.cons r t=>.cons r (Reps.take n t)
theorem Reps.drop:∀ {xs:List PV} {vs:List V} (n:Nat),Reps B W xs vs→Reps B W (xs.drop n) (vs.drop n)
 | _,_,0,r=>r
 | _,_,_+1,.nil=>.nil
 | _,_,n+1,.cons _ t=>Reps.drop n t
theorem Reps.one {x:PV} {v:V} (r:Rep B W x v):Reps B W [x] [v]:=.cons r .nil
theorem Reps.rep {xs:List PV} {vs:List V} (h:Reps B W xs vs):∀ k:Nat,Reps B W (List.replicate k xs).flatten (List.replicate k vs).flatten
 | 0=>.nil
 | k+1=>by
  rw [List.replicate_succ,List.replicate_succ,List.flatten_cons,List.flatten_cons]
  exact h.append (Reps.rep h k)
theorem Reps.reverse:∀ {xs:List PV} {vs:List V},Reps B W xs vs→Reps B W xs.reverse vs.reverse
 | _,_,.nil=>.nil
 | _,_,.cons r t=>by rw [List.reverse_cons,List.reverse_cons]; exact (Reps.reverse t).append (.one r)
end
mutual
def nk:PV→Option NestedKey
 | .non=>some .none
 | .bl b=>some (.num (if b=true then 1 else 0))
 | .int i=>some (.num i)
 | .str x=>some (.text x)
 | .tup xs=>(nks xs).map .tup
 | .lst _=>none
 | .scr _=>none
 | .own _=>none
 | .dic _=>none
 | .don _=>none
 | .ins _ _=>none
 | .cel _=>none
 | .exn _ _=>none
 | .ty _=>none
 | .cls _=>none
def nks:List PV→Option (List NestedKey)
 | []=>some []
 | x :: xs=>match nk x,nks xs with
  | some k,some ks=>some (k :: ks)
  | _,_=>none
end
def DicO (w:World) (a:Addr) (L:List (NestedKey × Addr × Value)):HO:=.ext fun h=>(a == sysModules)=false∧∃ (o:Obj) (es:Array DictEntry) (ep:Nat),h.get? a=some o∧o.ExactDict∧o.data=.dict es ep∧es.toList=L.map (fun x=>⟨x.1.hash w,.ref x.2.1,x.2.2⟩)∧(L.map (·.1)).Nodup
inductive DRel (B:Bs) (W:Wd):List (PV × PV)→List (NestedKey × Addr × Value)→Prop where
 | nil:DRel B W [] []
 | cons {k v:PV} {κ:NestedKey} {b:Addr} {u:Value} {y:V} {ks:List (PV × PV)} {L:List (NestedKey × Addr × Value)} (h1:nk k=some κ) (h2:κ.depth≤8) (h3:Rep B W k (.ref b)) (h4:Rep B W v y) (h5:RelV y u) (t:DRel B W ks L):DRel B W ((k,v) :: ks) ((κ,b,u) :: L)
theorem DRel.mono {B:Bs} {W W':Wd} (l:W.Le W') {ks:List (PV × PV)} {L:List (NestedKey × Addr × Value)} (r:DRel B W ks L):DRel B W' ks L:=by
 induction r with
 | nil=>exact .nil
 | cons h1 h2 h3 h4 h5 _ ih=>exact .cons h1 h2 (h3.mono l) (h4.mono l) h5 ih
theorem yCJ {w:World} {a:Addr} {L:List (NestedKey × Addr × Value)}:∀ c q,DicO w a L≠LamX.CodeO c q:=fun c q z=>by
  unfold DicO LamX.CodeO at z
  injection z with z
  have e:=congrFun z ⟨Array.replicate (c+1) { cls:=.none,data:=.fields #[.none,.str q 0] },{}⟩
  have r:∃ (oc:Obj) (vs:Array Value) (t:Tok),Heap.get? ⟨Array.replicate (c+1) { cls:=.none,data:=.fields #[.none,.str q 0] },{}⟩ c=some oc∧oc.data=.fields vs∧vs[1]?=some (.str q t):=by
    refine ⟨{ cls:=.none,data:=.fields #[.none,.str q 0] },_,0,?_,rfl,rfl⟩
    unfold Heap.get?
    simp
  rw [← e] at r
  obtain ⟨_,o,es,ep,h1,_,h3,_⟩:=r
  unfold Heap.get? at h1
  rw [Array.getElem?_replicate] at h1
  by_cases ha:a < c+1
  · rw [if_pos ha] at h1
    cases h1
    cases h3
  · rw [if_neg ha] at h1
    cases h1
def DicR (B:Bs) (W:Wd) (H:Hp) (a:Addr) (ks:List (PV × PV)):Prop:=∃ L,H a=some (DicO B.w a L)∧L.length≤sizeLine∧DRel B W ks L
def DikR (B:Bs) (W:Wd) (H:Hp) (a:Addr) (ks:List (L2.Key × PV)):Prop:=∃ kvs:List (L2.Key × V),H a=some (.dK kvs)∧(ks.map (·.1)=kvs.map (·.1)∧kvs.length≤sizeLine)∧Reps B W (ks.map (·.2)) (kvs.map (·.2))
def Live (W:Wd) (h:AH) (a:Addr):Prop:=∃ (n:Nat) (c:Cell),h[n]?=some (some c)∧W.m[n]?=some a
def CellR (B:Bs) (W:Wd) (H:Hp) (a:Addr):Cell→Prop
 | .lst xs=>∃ vs,H a=some (.lst vs)∧Reps B W xs vs
 | .dic ks=>DicR B W H a ks
 | .dik ks=>DikR B W H a ks
 | .ins c fs=>∃ dx vs,H a=some (.ins (B.cad c) dx ((B.fld c).zip vs))∧vs.length≤(B.fld c).length∧Reps B W fs vs
def SzO:HO→Prop
 | .lst vs=>vs.length≤sizeLine
 | .tup vs=>vs.length≤sizeLine
 | .tbl _=>False
 | _=>True
def NT (o:HO):Prop:=∀ ps,o≠.tbl ps
theorem SzO.nt {o:HO} (h:SzO o):NT o:=fun ps e=>by rw [e] at h; exact h
theorem jCB {vs:List V}:NT (.lst vs):=fun _ z=>nomatch z
theorem vBJ {vs:List V}:NT (.tup vs):=fun _ z=>nomatch z
theorem yCI {a b:Addr} {fs:List (Str × V)}:NT (.ins a b fs):=fun _ z=>nomatch z
def FG (o:Option HO):Prop:=∃ u,o=some u∧NT u∧∀ c q,u≠LamX.CodeO c q
theorem FG.ne {o:Option HO} (f:FG o):o≠none:=let ⟨_,e,_⟩:=f; by rw [e]; exact fun z=>nomatch z
theorem FG.lst {o:Option HO} {vs:List V} (e:o=some (.lst vs)):FG o:=⟨_,e,jCB,fun _ _ z=>by unfold LamX.CodeO at z; cases z⟩
structure HRel (B:Bs) (W:Wd) (h:AH) (H:Hp):Prop where
 agree:∀ a o,W.F a=some o→H a=some o
 len:W.m.length=h.length
 nd:W.m.Nodup
 mt:∀ a∈W.m,H a≠none
 hz:∀ a o,H a=some o→NT o→SzO o
 fz:∀ a o,W.F a=some o→NT o
 tb:LamX.Tabs B.T H
 cell:∀ (n:Nat) (c:Cell) (a:Addr),h[n]?=some (some c)→W.m[n]?=some a→W.F a=none∧CellR B W H a c
structure Step (W:Wd) (h:AH) (H:Hp) (W':Wd) (h':AH) (H':Hp):Prop where
 le:W.Le W'
 hl:h.length≤h'.length
 dead:∀ (n:Nat) (c:Cell),n < h.length→h'[n]?=some (some c)→∃ c0,h[n]?=some (some c0)
 keep:∀ a o,H a=some o→NT o→¬ Live W h a→H' a=some o
 tr:∀ a,H' a=none→H a=none
 fgrow:∀ a,W.F a=none→FG (H a)→¬ Live W h a→W'.F a=none
 hm:W'.m.length=h'.length
 mnew:∀ (n:Nat) (a:Addr),h.length≤n→W'.m[n]?=some a→H a=none
section
variable {B:Bs} {W W' W1:Wd} {h h' h1:AH} {H H' H1:Hp}
theorem Step.refl (r:HRel B W h H):Step W h H W h H:=⟨.refl W,Nat.le_refl _,fun n c _ e=>⟨c,e⟩,fun _ _ e _ _=>e,fun _ e=>e,fun _ e _ _=>e,r.len,fun n a hn e=>by
 have:=(List.getElem?_eq_some_iff.mp e).1
 rw [r.len] at this; omega⟩
theorem Live.back (s:Step W h H W1 h1 H1) (r:W.m.length=h.length) {a:Addr} (l:Live W1 h1 a) (e:H a≠none):Live W h a:=by
 obtain ⟨n,c,e1,e2⟩:=l
 by_cases hn:n < h.length
 ·obtain ⟨c0,e0⟩:=s.dead n c hn e1
  have hm:n < W.m.length:=by omega
  have q:=s.le.at (List.getElem?_eq_getElem hm)
  rw [e2] at q
  cases q
  exact ⟨n,c0,e0,List.getElem?_eq_getElem hm⟩
 ·exact absurd (s.mnew n a (by omega) e2) e
theorem Step.trans (r:W.m.length=h.length) (a:Step W h H W1 h1 H1) (b:Step W1 h1 H1 W' h' H'):Step W h H W' h' H' where
 le:=a.le.trans b.le
 hl:=Nat.le_trans a.hl b.hl
 dead:=fun n c hn e=>by
  obtain ⟨c1,e1⟩:=b.dead n c (Nat.lt_of_lt_of_le hn a.hl) e
  exact a.dead n c1 hn e1
 keep:=fun x o e nt nl=>b.keep x o (a.keep x o e nt nl) nt fun l=>nl (l.back a r (by rw [e]; exact fun z=>nomatch z))
 tr:=fun x e=>a.tr x (b.tr x e)
 fgrow:=fun x e ne nl=>b.fgrow x (a.fgrow x e ne nl) (let ⟨u,e1,nt,nx⟩:=ne; ⟨u,a.keep x u e1 nt nl,nt,nx⟩) fun l=>nl (l.back a r ne.ne)
 hm:=b.hm
 mnew:=fun n x hn e=>by
  by_cases h1':h1.length≤n
  ·exact a.tr x (b.mnew n x h1' e)
  ·have hm:n < W1.m.length:=by rw [a.hm]; omega
   have q:=b.le.at (List.getElem?_eq_getElem hm)
   rw [e] at q
   cases q
   exact a.mnew n _ hn (List.getElem?_eq_getElem hm)
end
end Lp
set_option maxHeartbeats 4000000
namespace Lp
open PySem PySem.Spec PyProof.Rows L2
def isOwn:PV→Bool
 | .own _=>true
 | .don _=>true
 | _=>false
def DonR (B:Bs) (W:Wd) (ks:List (PV × PV)) (v:V):Prop:=∃ (a:Addr) (vs:List V) (o:Obj),v=.ref a∧W.F a=some (.frz o (.tup vs))∧o.dict=none∧vs.length≤sizeLine∧Reps B W (ks.map (·.1)) vs
theorem DonR.mono {B:Bs} {W W':Wd} {ks:List (PV × PV)} {v:V} (l:W.Le W') (r:DonR B W ks v):DonR B W' ks v :=
 let ⟨a,vs,o,e1,e2,e3,e4,e5⟩:=r
 ⟨a,vs,o,e1,l.F _ _ e2,e3,e4,e5.mono l⟩
def SlotR (B:Bs) (W:Wd) (H H0:Hp) (x:PV) (v:V):Prop:=match x with
 | .own xs=>∃ a vs,v=.ref a∧H a=some (.lst vs)∧Reps B W xs vs∧W.F a=none∧a∉W.m∧H0 a=none
 | .don ks=>DonR B W ks v
 | x=>Rep B W x v
def RepT (B:Bs) (W:Wd) (H:Hp) (x:PV) (v:V):Prop:=match x with
 | .own xs=>∃ a vs,v=.ref a∧H a=some (.lst vs)∧Reps B W xs vs∧a∉W.m
 | .don ks=>DonR B W ks v
 | x=>Rep B W x v
def RepTs (B:Bs) (W:Wd) (H:Hp):List PV→List V→Prop
 | [],[]=>True
 | x :: xs,v :: vs=>RepT B W H x v∧RepTs B W H xs vs
 | _,_=>False
structure Ent where
 W:Wd
 h:AH
 H:Hp
 len:W.m.length=h.length
 P:Wd
structure Rel (B:Bs) (N:Ent) (W:Wd) (s:S) (σ:L2.St) (H:Hp):Prop where
 hr:HRel B W s.h H
 st:Step N.W N.h N.H W s.h H
 len:σ.length=s.e.length
 env:∀ (i:Nat) (x:PV),s.e[i]?=some (some x)→∃ v,σ[i]?=some (some v)∧SlotR B W H N.H x v
 dis:∀ (i j:Nat) (x y:PV) (a:Addr),i≠j→s.e[i]?=some (some x)→s.e[j]?=some (some y)→isOwn x=true→isOwn y=true→σ[i]?=some (some (.ref a))→σ[j]?=some (some (.ref a))→False
 pin:N.P.Le W
theorem Rep.slot {B:Bs} {W:Wd} {H H0:Hp} {x:PV} {v:V} (r:Rep B W x v):SlotR B W H H0 x v:=by
 cases r <;> (first | exact .non | exact .bl _ | exact .int _ | (rename_i h; exact .str _ h) | exact .ty _ | exact .cls _ | (rename_i h; exact .cel h) | skip)
 ·rename_i h r; exact Rep.tup h r
 ·rename_i h r; exact Rep.lst h r
 ·rename_i h r; exact Rep.scr h r
 ·rename_i h hl r; exact Rep.ins h hl r
 ·rename_i hx h hl r; exact Rep.exn hx h hl r
theorem Rep.hand {B:Bs} {W:Wd} {H:Hp} {x:PV} {v:V} (r:Rep B W x v):RepT B W H x v:=by
 cases r <;> (first | exact .non | exact .bl _ | exact .int _ | (rename_i h; exact .str _ h) | exact .ty _ | exact .cls _ | (rename_i h; exact .cel h) | skip)
 ·rename_i h r; exact Rep.tup h r
 ·rename_i h r; exact Rep.lst h r
 ·rename_i h r; exact Rep.scr h r
 ·rename_i h hl r; exact Rep.ins h hl r
 ·rename_i hx h hl r; exact Rep.exn hx h hl r
theorem SlotR.hand {B:Bs} {W:Wd} {H H0:Hp} {x:PV} {v:V} (r:SlotR B W H H0 x v):RepT B W H x v:=by
 cases x with
 | own xs =>
  obtain ⟨a,vs,e,h,r,_,nm,_⟩:=r
  exact ⟨a,vs,e,h,r,nm⟩
 | don ks=>exact r
 | _=>exact r
theorem RepT.rep {B:Bs} {W:Wd} {H:Hp} {x:PV} {v:V} (r:RepT B W H x v) (o:isOwn x=false):Rep B W x v:=by
 cases x with
 | own xs=>cases o
 | don ks=>cases o
 | _=>exact r
section
variable {B:Bs} {N:Ent} {W W':Wd} {s s':S} {σ:L2.St} {H H':Hp}
theorem Rel.slen (r:Rel B N W s σ H):W.m.length=s.h.length:=r.hr.len
theorem Live.mem {W:Wd} {h:AH} {a:Addr} (l:Live W h a):a∈W.m:=let ⟨_,_,_,e⟩:=l; List.mem_of_getElem? e
theorem Step.notm {W W':Wd} {h h':AH} {H H':Hp} {a:Addr} (st:Step W h H W' h' H') (hl:W.m.length=h.length) (n:a∉W.m) (e:H a≠none):a∉W'.m:=fun z=>by
 obtain ⟨k,e1⟩:=List.mem_iff_getElem?.mp z
 by_cases hk:h.length≤k
 ·exact e (st.mnew k a hk e1)
 ·have hm:k < W.m.length:=by omega
  have q:=st.le.at (List.getElem?_eq_getElem hm)
  rw [e1] at q
  cases q
  exact n (List.getElem_mem hm)
theorem RepT.on {x:PV} {v:V} (hl:W.m.length=s.h.length) (st:Step W s.h H W' s'.h H') (r:RepT B W H x v):RepT B W' H' x v:=by
 cases x with
 | own xs =>
  obtain ⟨a,vs,e,h,r,n⟩:=r
  exact ⟨a,vs,e,st.keep _ _ h jCB fun l=>n l.mem,r.mono st.le,st.notm hl n (by rw [h]; exact fun z=>nomatch z)⟩
 | don ks=>exact DonR.mono st.le r
 | _=>exact Rep.mono st.le r
theorem RepTs.on (hl:W.m.length=s.h.length) (st:Step W s.h H W' s'.h H'):∀ {xs:List PV} {vs:List V},RepTs B W H xs vs→RepTs B W' H' xs vs
 | [],[],_=>trivial
 | x :: xs,v :: vs,⟨h,t⟩=>⟨h.on hl st,RepTs.on hl st t⟩
 | [],_ :: _,h=>h.elim
 | _ :: _,[],h=>h.elim
end
def ExcR (B:Bs) (H0:Hp) (W:Wd) (H:Hp) (x:PV) (cls:Value) (d:Option Addr):Prop :=
 ∃ (c:Nat) (fs:List PV) (dd:Addr) (vs:List V),x=.ins c fs∧cls=.ref (B.cad c)∧d=some dd∧H dd=some (.xd ((B.fld c).zip vs))∧vs.length=(B.fld c).length∧Reps B W fs vs∧(H0 dd=none∧W.F dd=none∧dd∉W.m)
theorem ExcR.old {B:Bs} {H0 H1:Hp} {W:Wd} {H:Hp} {x:PV} {cls:Value} {d:Option Addr} (e:ExcR B H0 W H x cls d) (h:∀ a,H0 a=none→H1 a=none):ExcR B H1 W H x cls d :=
 let ⟨c,fs,dd,vs,a1,a2,a3,a4,a5,a6,a7,a8⟩:=e
 ⟨c,fs,dd,vs,a1,a2,a3,a4,a5,a6,h _ a7,a8⟩
def Nw (H:Hp) (d:Option Addr):Prop:=∀ dd,d=some dd→H dd=none
theorem ExcR.nw {B:Bs} {H0:Hp} {W:Wd} {H:Hp} {x:PV} {cls:Value} {d:Option Addr} (e:ExcR B H0 W H x cls d):Nw H0 d:=fun dd ed=>by
 obtain ⟨c,fs,dd',vs,a1,a2,a3,a4,a5,a6,a7,a8⟩:=e
 rw [a3] at ed
 cases ed
 exact a7
abbrev ME:=S→R S PV
structure StepE (W:Wd) (s:S) (H:Hp) (W':Wd) (s':S) (H':Hp):Prop where
 st:Step W s.h H W' s'.h H'
 eo:∀ (i:Nat) (x:PV),s'.e[i]?=some (some x)→isOwn x=true→s.e[i]?=some (some x)
theorem StepE.refl {B:Bs} {W:Wd} {s:S} {H:Hp} (r:HRel B W s.h H):StepE W s H W s H:=⟨Step.refl r,fun _ _ e _=>e⟩
theorem StepE.trans {W W1 W2:Wd} {s s1 s2:S} {H H1 H2:Hp} (hl:W.m.length=s.h.length) (a:StepE W s H W1 s1 H1) (b:StepE W1 s1 H1 W2 s2 H2):StepE W s H W2 s2 H2:=⟨a.st.trans hl b.st,fun i x e o=>a.eo i x (b.eo i x e o) o⟩
def Post (B:Bs) (N:Ent) (WX:WX) {α:Type} (W:Wd) (s:S) (H:Hp) (σ:L2.St) (r:R S α) (P:α→Wd→S→Hp→Prop):Prop:=r.post
 (fun v s'=>∀ W' H',Rel B N W' s' σ H'→StepE W s H W' s' H'→P v W' s' H')
 (fun x s'=>∀ W' H' cls d,Rel B N W' s' σ H'→StepE W s H W' s' H'→ExcR B N.H W' H' x cls d→Nw H d→WX cls d σ H')
section
variable {B:Bs} {N:Ent} {WX:WX} {α β:Type} {W W1:Wd} {s s1:S} {H H1:Hp} {σ:L2.St}
theorem Post.from {r:R S α} {P:α→Wd→S→Hp→Prop} (hl:W.m.length=s.h.length) (st:StepE W s H W1 s1 H1) (q:Post B N WX W s H σ r P):Post B N WX W1 s1 H1 σ r P :=
 R.post_mono q (fun _ _ q W' H' r' st'=>q W' H' r' (st.trans hl st')) fun _ _ q W' H' cls d r' st' e nw=>q W' H' cls d r' (st.trans hl st') e fun dd ed=>st.st.tr _ (nw dd ed)
theorem Post.mono {r:R S α} {P P':α→Wd→S→Hp→Prop} (q:Post B N WX W s H σ r P) (k:∀ v W' s' H',Rel B N W' s' σ H'→StepE W s H W' s' H'→P v W' s' H'→P' v W' s' H'):Post B N WX W s H σ r P' :=
 R.post_mono q (fun _ _ q W' H' r' st'=>k _ _ _ _ r' st' (q W' H' r' st')) fun _ _ q=>q
theorem Post.bind {r:R S α} {f:α→S→R S β} {P:β→Wd→S→Hp→Prop} (hl:W.m.length=s.h.length) (q:Post B N WX W s H σ (r.bind f) P):Post B N WX W s H σ r fun v W' s' H'=>Post B N WX W' s' H' σ (f v s') P :=
 R.post_mono (R.post_bind q) (fun _ _ q W' H' r' st'=>Post.from hl st' q) fun _ _ q=>q
theorem Post.ok {v:α} {P:α→Wd→S→Hp→Prop} (r:Rel B N W s σ H) (q:Post B N WX W s H σ (.ok v s) P):P v W s H:=q W H r (StepE.refl r.hr)
end
def tE (B:Bs) (N:Ent) (WX:WX) (m:ME):TE:=fun σ H Q=>∃ W s,Rel B N W s σ H∧Post B N WX W s H σ (m s) fun v W' _ H'=>∀ v',RepT B W' H' v v'→Q v' H'
def tT (B:Bs) (N:Ent) (WX:WX) (m:S→R S Bool):TT:=fun σ H Q=>∃ W s,Rel B N W s σ H∧Post B N WX W s H σ (m s) fun v _ _ H'=>Q v H'
def tA (B:Bs) (N:Ent) (WX:WX) (m:S→R S (List PV)):TA:=fun σ H Q=>∃ W s,Rel B N W s σ H∧Post B N WX W s H σ (m s) fun v W' _ H'=>∀ v',RepTs B W' H' v v'→Q v' H'
abbrev SimE (X:Cx) (B:Bs) (N:Ent) (WX:WX) (e:Expr) (m:ME):Prop:=PE X e (tE B N WX m)
abbrev SimT (X:Cx) (B:Bs) (N:Ent) (WX:WX) (e:Expr) (m:S→R S Bool):Prop:=PT X e (tT B N WX m)
abbrev SimW (X:Cx) (B:Bs) (N:Ent) (WX:WX) (e:Expr) (m:S→R S Bool):Prop:=PW X e (tT B N WX m)
abbrev SimA (X:Cx) (B:Bs) (N:Ent) (WX:WX) (es:List Expr) (m:S→R S (List PV)):Prop:=PA X es (tA B N WX m)
theorem _root_.L2.PE.imp {X:Cx} {e:Expr} {t t':TE} (h:PE X e t) (w:∀ σ H Q,t' σ H Q→t σ H Q):PE X e t':=⟨fun pins s σ H Q I q=>h.run pins s σ H Q I (w _ _ _ q)⟩
theorem _root_.L2.PT.imp {X:Cx} {e:Expr} {t t':TT} (h:PT X e t) (w:∀ σ H Q,t' σ H Q→t σ H Q):PT X e t':=⟨fun pins s σ H Q I q=>h.run pins s σ H Q I (w _ _ _ q)⟩
theorem _root_.L2.PW.imp {X:Cx} {e:Expr} {t t':TT} (h:PW X e t) (w:∀ σ H Q,t' σ H Q→t σ H Q):PW X e t':=⟨fun wh pins s σ H Q I q=>h.run wh pins s σ H Q I (w _ _ _ q)⟩
theorem _root_.L2.PA.imp {X:Cx} {e:List Expr} {t t':TA} (h:PA X e t) (w:∀ σ H Q,t' σ H Q→t σ H Q):PA X e t':=⟨fun p pins s σ H Q I q=>h.run p pins s σ H Q I (w _ _ _ q)⟩
theorem _root_.L2.PS.imp {X:Cx} {e:Stmt} {t t':TS} (h:PS X e t) (w:∀ D σ H,t' D σ H→t D σ H):PS X e t':=⟨fun pins s σ H D I q=>h.run pins s σ H D I (w _ _ _ q)⟩
theorem _root_.L2.PSs.imp {X:Cx} {e:List Stmt} {t t':TS} (h:PSs X e t) (w:∀ D σ H,t' D σ H→t D σ H):PSs X e t':=⟨fun pins s σ H D I q=>h.run pins s σ H D I (w _ _ _ q)⟩
def jE (i:Nat):ME:=fun s=>match s.e[i]? with
 | some (some v)=>.ok v s
 | _=>.bad
def eC (v:PV):ME:=fun s=>.ok v s
section
variable {X:Cx} {B:Bs} {N:Ent} {WX:WX}
theorem jB {i:Nat} {x:Str} {pos:Pos} (hN:X.N[i]?=some x) (hv:Vis X.env.scope x) (hd:(x == ("__debug__" : Str))=false) (hcd:(x == ("__classdict__" : Str))=false):SimE X B N WX (.Name x pos) (jE i) :=
 (pe_var hN hv hd hcd).imp fun σ H Q ⟨W,s,r,h⟩=>by
  unfold jE at h
  split at h
  ·rename_i v e
   obtain ⟨v',e',sl⟩:=r.env i v e
   exact ⟨v',e',h.ok r v' sl.hand⟩
  ·exact h.elim
theorem jSA {e:Expr} {x:PV} {v:V} (h:PE X e (tC v)) (rx:∀ W,Rep B W x v):SimE X B N WX e (eC x) :=
 h.imp fun σ H Q ⟨W,s,r,h⟩=>h.ok r v (rx W).hand
theorem jL {i:Int} {j pos}:SimE X B N WX (.Constant (.int i) j pos) (eC (.int i)):=jSA pe_int fun _=>.int i
theorem yL {b:Bool} {j pos}:SimE X B N WX (.Constant (.bool b) j pos) (eC (.bl b)):=jSA pe_bl fun _=>.bl b
theorem jAR {j pos}:SimE X B N WX (.Constant .none j pos) (eC .non):=jSA pe_non fun _=>.non
theorem jK {x:Str} {j pos} (h:SOk x):SimE X B N WX (.Constant (.str x) j pos) (eC (.str x)):=jSA pe_str fun _=>.str x h
end
def jO (f:AH→PV→PV→Option PV) (a b:ME):ME:=fun s=>(a s).bind fun x s1=>(b s1).bind fun y s2=>match f s2.h x y with
 | some z=>.ok z s2
 | none=>.bad
section
variable {X:Cx} {B:Bs} {N:Ent} {WX:WX} {a b:Expr} {ma mb:ME} {pos:Pos}
theorem two {f:PV→PV→S→R S PV} {σ:L2.St} {H:Hp} {Q:VK} (h:tE B N WX (fun s=>(ma s).bind fun x s1=>(mb s1).bind fun y s2=>f x y s2) σ H Q) {k:V→V→Hp→Prop}
  (hk:∀ W2 s2 H2 x y x' y',Rel B N W2 s2 σ H2→RepT B W2 H2 x x'→RepT B W2 H2 y y'→Post B N WX W2 s2 H2 σ (f x y s2) (fun u W' _ H'=>∀ u',RepT B W' H' u u'→Q u' H')→k x' y' H2) :
  tE B N WX ma σ H fun x' H1=>tE B N WX mb σ H1 fun y' H2=>k x' y' H2:=by
 obtain ⟨W,s,r,h⟩:=h
 refine ⟨W,s,r,(h.bind r.slen).mono fun x W1 s1 H1 r1 _ q x' rx=>⟨W1,s1,r1,(q.bind r1.slen).mono fun y W2 s2 H2 r2 st2 q y' ry=>?_⟩⟩
 exact hk W2 s2 H2 x y x' y' r2 (rx.on r1.slen st2.st) ry q
end
def asL (h:AH):PV→Option (List PV)
 | .lst xs=>some xs
 | .own xs=>some xs
 | .scr xs=>some xs
 | .cel n=>match h[n]? with
  | some (some (.lst xs))=>some xs
  | _=>none
 | _=>none
def tru (h:AH):PV→Option Bool
 | .non=>some false
 | .bl b=>some b
 | .int i=>some (i != 0)
 | .str x=>some ((x.length:Int) != 0)
 | .tup xs=>some (!xs.isEmpty)
 | x=>(asL h x).map fun xs=>!xs.isEmpty
section
variable {X:Cx} {B:Bs} {N:Ent} {WX:WX} {W:Wd} {h:AH} {H:Hp}
theorem jKN (hr:HRel B W h H) {x:PV} {x':V} {xs:List PV} (rx:RepT B W H x x') (e:asL h x=some xs):∃ a vs,x'=.ref a∧SqL B.K H a vs∧Reps B W xs vs:=by
 cases x with
 | lst ys =>
  cases e
  cases (show Rep B W (.lst _) x' from rx) with
  | lst h r=>exact ⟨_,_,rfl,.inl (.inl (hr.agree _ _ h)),r⟩
 | scr ys =>
  cases e
  cases (show Rep B W (.scr _) x' from rx) with
  | scr h r=>exact ⟨_,_,rfl,h.imp (fun ⟨e,_⟩=>e.imp (hr.agree _ _) fun ⟨o,e⟩=>⟨o,hr.agree _ _ e⟩) fun z=>z,r⟩
 | own ys =>
  cases e
  obtain ⟨a,vs,rfl,h,r,_⟩:=rx
  exact ⟨a,vs,rfl,.inl (.inl h),r⟩
 | cel n =>
  cases (show Rep B W (.cel n) x' from rx) with
  | cel h1 =>
   unfold asL at e
   dsimp only at e
   split at e
   ·rename_i ys q
    cases e
    obtain ⟨_,vs,h2,r⟩:=hr.cell n _ _ q h1
    exact ⟨_,vs,rfl,.inl (.inl h2),r⟩
   ·cases e
 | _=>cases e
theorem jXK (hr:HRel B W h H) {x:PV} {x':V} {xs:List PV} (rx:RepT B W H x x') (e:asL h x=some xs):xs.length≤sizeLine:=by
 cases x with
 | lst ys =>
  cases e
  cases (show Rep B W (.lst _) x' from rx) with
  | lst h r=>rw [r.length]; exact hr.hz _ _ (hr.agree _ _ h) jCB
 | scr ys =>
  cases e
  cases (show Rep B W (.scr _) x' from rx) with
  | scr h r =>
   rw [r.length]
   rcases h with ⟨_,z⟩ | ⟨o,its,n,_,_,_,_,z,q⟩
   ·exact z
   ·rw [q.length,Array.length_toList]; exact z
 | own ys =>
  cases e
  obtain ⟨a,vs,rfl,h,r,_⟩:=rx
  rw [r.length]; exact hr.hz _ _ h jCB
 | cel n =>
  cases (show Rep B W (.cel n) x' from rx) with
  | cel h1 =>
   unfold asL at e
   dsimp only at e
   split at e
   ·rename_i ys q
    cases e
    obtain ⟨_,vs,h2,r⟩:=hr.cell n _ _ q h1
    rw [r.length]; exact hr.hz _ _ h2 jCB
   ·cases e
 | _=>cases e
theorem jNG (hK:X.K=B.K) {a:Addr} {vs:List V} (h:SqL B.K H a vs):SqL X.K H a vs:=hK ▸ h
theorem jGY (hK:X.K=B.K) (hr:HRel B W h H) {x':V} {xs:List PV} (rx:Rep B W (.tup xs) x'):∃ a vs,x'=.ref a∧SqT X.K H a vs∧Reps B W xs vs:=by
 cases rx with
 | tup h r =>
  refine ⟨_,_,rfl,?_,r⟩
  rcases h with h | ⟨o,its,n,h1,h2,h3,h4,h5⟩
  ·exact .inl (.inl (hr.agree _ _ h))
  ·exact .inr ⟨o,its,n,hK ▸ h1,h2,h3,h4,h5⟩
theorem jZR {xs:List PV} {vs:List V} (r:Reps B W xs vs):(!xs.isEmpty)=!vs.isEmpty:=by
 cases r <;> rfl
theorem yMM (hK:X.K=B.K) (hr:HRel B W h H) {x:PV} {x':V} {b:Bool} (rx:RepT B W H x x') (e:tru h x=some b):TruV X.K x' H b:=by
 have fin:∀ xs,asL h x=some xs→b=!xs.isEmpty→TruV X.K x' H b:=fun xs e1 e2=>by
  obtain ⟨a,vs,rfl,h1,r⟩:=jKN hr rx e1
  exact .inl ⟨vs,jNG hK h1,by rw [e2,jZR r]⟩
 cases x with
 | non=>cases (show Rep B W .non x' from rx); cases e; exact rfl
 | bl c=>cases (show Rep B W (.bl c) x' from rx); cases e; exact rfl
 | int i=>cases (show Rep B W (.int i) x' from rx); cases e; exact rfl
 | str y =>
  cases (show Rep B W (.str y) x' from rx) with
  | str _ hy =>
   cases e
   exact ⟨hy.2,rfl⟩
 | tup xs =>
  obtain ⟨a,vs,rfl,h1,r⟩:=jGY hK hr (show Rep B W (.tup xs) x' from rx)
  cases e
  exact .inr (.inl ⟨vs,h1,jZR r⟩)
 | lst ys=>cases e; exact fin ys rfl rfl
 | scr ys=>cases e; exact fin ys rfl rfl
 | own ys=>cases e; exact fin ys rfl rfl
 | cel n =>
  have e':(asL h (.cel n)).map (fun xs=>!xs.isEmpty)=some b:=e
  cases q:asL h (.cel n) with
  | none=>rw [q] at e'; cases e'
  | some xs =>
   rw [q] at e'
   cases e'
   exact fin xs q rfl
 | _=>cases e
end
def tM (m:ME):S→R S Bool:=fun s=>(m s).bind fun v s1=>match tru s1.h v with
 | some b=>.ok b s1
 | none=>.bad
def andM (a b:S→R S Bool):S→R S Bool:=fun s=>(a s).bind fun c s1=>if c=true then b s1 else .ok false s1
def orM (a b:S→R S Bool):S→R S Bool:=fun s=>(a s).bind fun c s1=>if c=true then .ok true s1 else b s1
def jIE (a:S→R S Bool):S→R S Bool:=fun s=>(a s).bind fun c s1=>.ok (!c) s1
def ifM (c:S→R S Bool) (a b:ME):ME:=fun s=>(c s).bind fun k s1=>if k=true then a s1 else b s1
def bM (m:ME):S→R S Bool:=fun s=>(m s).bind fun v s1=>match v with
 | .bl b=>.ok b s1
 | _=>.bad
section
variable {X:Cx} {B:Bs} {N:Ent} {WX:WX} {a b c:Expr} {rest:List Expr} {ma mb:ME} {ta tb:S→R S Bool} {pos:Pos}
theorem yM (hK:X.K=B.K) (ha:SimE X B N WX a ma) (he:∀ whole,isTrue a X.env whole=(do let v ← whole; standAt a.pos; holding [v] (truthy v))):SimT X B N WX a (tM ma) :=
 (pt_truth ha he).imp fun σ H Q ⟨W,s,r,h⟩=>⟨W,s,r,(h.bind r.slen).mono fun v W1 s1 H1 r1 _ q v' rv=>by
  split at q
  ·rename_i k e
   exact ⟨k,yMM hK r1.hr rv e,q.ok r1⟩
  ·exact q.elim⟩
theorem vDE {ma:ME} {σ:L2.St} {H:Hp} {Q:Bool→Hp→Prop} (h:tT B N WX (bM ma) σ H Q):tE B N WX ma σ H fun x H1=>∃ c,x=.bl c∧Q c H1:=by
 obtain ⟨W,s,r,h⟩:=h
 refine ⟨W,s,r,(h.bind r.slen).mono fun v W1 s1 H1 r1 _ q v' rv=>?_⟩
 cases v with
 | bl c =>
  cases (show Rep B W1 (.bl c) v' from rv)
  exact ⟨c,rfl,q.ok r1⟩
 | _=>exact q.elim
theorem yMN {σ:L2.St} {H:Hp} {Q:Bool→Hp→Prop} (h:tT B N WX (andM ta tb) σ H Q):tAnd (tT B N WX ta) (tT B N WX tb) σ H Q:=by
 obtain ⟨W,s,r,h⟩:=h
 refine ⟨W,s,r,(h.bind r.slen).mono fun c W1 s1 H1 r1 _ q=>?_⟩
 cases c with
 | true=>exact iteT ⟨W1,s1,r1,q⟩
 | false=>exact iteF (q.ok r1)
theorem yVA {σ:L2.St} {H:Hp} {Q:Bool→Hp→Prop} (h:tT B N WX (orM ta tb) σ H Q):tOr (tT B N WX ta) (tT B N WX tb) σ H Q:=by
 obtain ⟨W,s,r,h⟩:=h
 refine ⟨W,s,r,(h.bind r.slen).mono fun c W1 s1 H1 r1 _ q=>?_⟩
 cases c with
 | true=>exact iteT (q.ok r1)
 | false=>exact iteF ⟨W1,s1,r1,q⟩
theorem jBU (ha:SimT X B N WX a ta):SimW X B N WX (.BoolOp .And [a] pos) ta:=pw_and1 ha
theorem jFK (ha:SimT X B N WX a ta):SimW X B N WX (.BoolOp .Or [a] pos) ta:=pw_or1 ha
theorem qN (ha:SimT X B N WX a ta) (hb:SimW X B N WX (.BoolOp .And (b :: rest) pos) tb):SimW X B N WX (.BoolOp .And (a :: b :: rest) pos) (andM ta tb):=(pw_and ha hb).imp fun _ _ _ h=>yMN h
theorem jGC (ha:SimT X B N WX a ta) (hb:SimW X B N WX (.BoolOp .Or (b :: rest) pos) tb):SimW X B N WX (.BoolOp .Or (a :: b :: rest) pos) (orM ta tb):=(pw_or ha hb).imp fun _ _ _ h=>yVA h
theorem uP {op:BoolOp} {es:List Expr} (h:SimW X B N WX (.BoolOp op es pos) ta):SimT X B N WX (.BoolOp op es pos) ta:=h.pt
theorem wQ (ha:SimT X B N WX a ta):SimT X B N WX (.UnaryOp .Not a pos) (jIE ta):=(pt_not ha).imp fun σ H Q ⟨W,s,r,h⟩=>⟨W,s,r,(h.bind r.slen).mono fun c W1 s1 H1 r1 _ q=>q.ok r1⟩
theorem vU (hc:SimT X B N WX c ta) (ha:SimE X B N WX a ma) (hb:SimE X B N WX b mb):SimE X B N WX (.IfExp c a b pos) (ifM ta ma mb) :=
 (pe_ifExp hc ha hb).imp fun σ H Q ⟨W,s,r,h⟩=>⟨W,s,r,(h.bind r.slen).mono fun k W1 s1 H1 r1 _ q=>by
  cases k with
  | true=>exact iteT ⟨W1,s1,r1,q⟩
  | false=>exact iteF ⟨W1,s1,r1,q⟩⟩
def jGR (a b:ME):ME:=fun s=>(a s).bind fun v s1=>match v with
 | .bl true=>b s1
 | .bl false=>.ok (.bl false) s1
 | _=>.bad
def orV (a b:ME):ME:=fun s=>(a s).bind fun v s1=>match v with
 | .bl true=>.ok (.bl true) s1
 | .bl false=>b s1
 | _=>.bad
def jYV (a:ME):ME:=fun s=>(a s).bind fun v s1=>match v with
 | .bl k=>.ok (.bl (!k)) s1
 | _=>.bad
theorem wN {op:BoolOp} (ha:SimE X B N WX a ma):SimE X B N WX (.BoolOp op [a] pos) ma:=pe_one ha
theorem jAS (ha:SimE X B N WX a ma) (hb:SimE X B N WX (.BoolOp .And (b :: rest) pos) mb):SimE X B N WX (.BoolOp .And (a :: b :: rest) pos) (jGR ma mb) :=
 (pe_and ha hb).imp fun σ H Q ⟨W,s,r,h⟩=>⟨W,s,r,(h.bind r.slen).mono fun v W1 s1 H1 r1 _ q v' rv=>by
  cases v with
  | bl k =>
   cases (show Rep B W1 (.bl k) v' from rv)
   cases k with
   | true=>exact ⟨true,rfl,iteT ⟨W1,s1,r1,q⟩⟩
   | false=>exact ⟨false,rfl,iteF (q.ok r1 _ (Rep.bl false).hand)⟩
  | _=>exact q.elim⟩
theorem jJC (ha:SimE X B N WX a ma) (hb:SimE X B N WX (.BoolOp .Or (b :: rest) pos) mb):SimE X B N WX (.BoolOp .Or (a :: b :: rest) pos) (orV ma mb) :=
 (pe_or ha hb).imp fun σ H Q ⟨W,s,r,h⟩=>⟨W,s,r,(h.bind r.slen).mono fun v W1 s1 H1 r1 _ q v' rv=>by
  cases v with
  | bl k =>
   cases (show Rep B W1 (.bl k) v' from rv)
   cases k with
   | true=>exact ⟨true,rfl,iteT (q.ok r1 _ (Rep.bl true).hand)⟩
   | false=>exact ⟨false,rfl,iteF ⟨W1,s1,r1,q⟩⟩
  | _=>exact q.elim⟩
theorem jOE (ha:SimE X B N WX a ma):SimE X B N WX (.UnaryOp .Not a pos) (jYV ma) :=
 (pe_not ha).imp fun σ H Q ⟨W,s,r,h⟩=>⟨W,s,r,(h.bind r.slen).mono fun v W1 s1 H1 r1 _ q v' rv=>by
  cases v with
  | bl k =>
   cases (show Rep B W1 (.bl k) v' from rv)
   exact ⟨k,rfl,q.ok r1 _ (Rep.bl (!k)).hand⟩
  | _=>exact q.elim⟩
end
end Lp
set_option maxHeartbeats 4000000
namespace Lp
open PySem PySem.Spec PyProof.Rows L2
inductive Grow:Wd→Hp→Wd→Hp→Prop where
 | refl (W:Wd) (H:Hp):Grow W H W H
 | new {W:Wd} {H:Hp} {p:Addr} {o:HO} (hp:H p=none) (ho:SzO o):Grow W H ⟨upd W.F p o,W.m⟩ (upd H p o)
section
variable {B:Bs} {N:Ent} {W W':Wd} {h:AH} {s:S} {σ:L2.St} {H H':Hp} {p:Addr} {o:HO}
theorem HRel.fnone (r:HRel B W h H) (hp:H p=none):W.F p=none:=by
 cases e:W.F p with
 | none=>rfl
 | some o=>rw [r.agree _ _ e] at hp; cases hp
theorem jCX (hF:W.F p=none):W.Le ⟨upd W.F p o,W.m⟩:=⟨fun a u e=>by
 show upd W.F p o a=some u
 rw [upd_ne (ne_of_none e hF)]; exact e,List.prefix_refl _⟩
theorem CellR.mono {c:Cell} {a:Addr} (l:W.Le W') (hH:∀ u,H a=some u→H' a=some u) (r:CellR B W H a c):CellR B W' H' a c:=by
 cases c with
 | lst xs=>obtain ⟨vs,h1,h2⟩:=r; exact ⟨vs,hH _ h1,h2.mono l⟩
 | dic ks=>obtain ⟨L,h1,h2,h3⟩:=r; exact ⟨L,hH _ h1,h2,h3.mono l⟩
 | dik ks=>obtain ⟨L,h1,h2,h3⟩:=r; exact ⟨L,hH _ h1,h2,h3.mono l⟩
 | ins c fs=>obtain ⟨dx,vs,h1,h2,h3⟩:=r; exact ⟨dx,vs,hH _ h1,h2,h3.mono l⟩
theorem jSV {T:List (Addr × Str)} (t:LamX.Tabs T H) (hp:H p=none):LamX.Tabs T (upd H p o):=t.ext fun b u e=>by rw [upd_ne (ne_of_none e hp)]; exact e
theorem jOC {T:List (Addr × Str)} {a:Addr} {o0:HO} (t:LamX.Tabs T H) (ha:H a=some o0) (nt:NT o0) (nc:∀ c q,o0≠LamX.CodeO c q):LamX.Tabs T (upd H a o):=fun p hp=>by
 obtain ⟨ps,h1,h2,h3⟩:=t p hp
 refine ⟨ps,by rw [upd_ne fun z=>nt ps (by rw [z,ha] at h1; exact Option.some.inj h1)]; exact h1,h2,fun pos cv hc=>?_⟩
 obtain ⟨c,e1,e2⟩:=h3 pos cv hc
 exact ⟨c,e1,by rw [upd_ne fun z=>nc c p.2 (by rw [z,ha] at e2; rw [z]; exact Option.some.inj e2)]; exact e2⟩
theorem yIW {vs:List V}:∀ c q,HO.lst vs≠LamX.CodeO c q:=fun c q z=>by unfold LamX.CodeO at z; cases z
theorem vDX {ks:List (L2.Key × V)}:∀ c q,HO.dK ks≠LamX.CodeO c q:=fun c q z=>by unfold LamX.CodeO at z; cases z
theorem yTW {ks:List (L2.Key × V)}:NT (.dK ks):=fun _ z=>nomatch z
theorem jPI {w:World} {a:Addr} {L:List (NestedKey × Addr × Value)}:NT (DicO w a L):=fun _ z=>by unfold DicO at z; cases z
theorem vBL {a b:Addr} {fs:List (Str × V)}:∀ c q,HO.ins a b fs≠LamX.CodeO c q:=fun c q z=>by unfold LamX.CodeO at z; cases z
theorem yLP (r:HRel B W h H) (hp:H p=none) (ho:SzO o):HRel B ⟨upd W.F p o,W.m⟩ h (upd H p o):=by
 have hF:=r.fnone hp
 refine ⟨fun a u e=>?_,r.len,r.nd,fun a hm=>?_,fun a u e nt=>?_,fun a u e=>?_,jSV r.tb hp,fun n c a e1 e2=>?_⟩
 ·by_cases ha:a=p
  ·subst ha
   have e:upd W.F a o a=some u:=e
   rw [upd_same] at e
   rw [upd_same]; exact e
  ·have e:upd W.F p o a=some u:=e
   rw [upd_ne ha] at e
   rw [upd_ne ha]; exact r.agree _ _ e
 ·have ha:a≠p:=fun z=>r.mt a hm (by rw [z]; exact hp)
  rw [upd_ne ha]; exact r.mt a hm
 ·by_cases ha:a=p
  ·rw [ha,upd_same] at e
   cases e
   exact ho
  ·rw [upd_ne ha] at e
   exact r.hz a u e nt
 ·by_cases ha:a=p
  ·have e:upd W.F p o a=some u:=e
   rw [ha,upd_same] at e
   cases e
   exact ho.nt
  ·have e:upd W.F p o a=some u:=e
   rw [upd_ne ha] at e
   exact r.fz a u e
 ·obtain ⟨h1,h2⟩:=r.cell n c a e1 e2
  have ha:a≠p:=by
   cases c with
   | lst xs=>obtain ⟨vs,h,_⟩:=h2; exact ne_of_none h hp
   | dic ks=>obtain ⟨L,h,_⟩:=h2; exact ne_of_none h hp
   | dik ks=>obtain ⟨L,h,_⟩:=h2; exact ne_of_none h hp
   | ins c fs=>obtain ⟨dx,vs,h,_⟩:=h2; exact ne_of_none h hp
  exact ⟨by show upd W.F p o a=none; rw [upd_ne ha]; exact h1,h2.mono (jCX hF) fun u e=>by rw [upd_ne ha]; exact e⟩
theorem jHC (r:HRel B W h H) (hp:H p=none):Step W h H ⟨upd W.F p o,W.m⟩ h (upd H p o):=by
 have hF:=r.fnone hp
 refine ⟨jCX hF,Nat.le_refl _,fun n c _ e=>⟨c,e⟩,fun a u e _ _=>by rw [upd_ne (ne_of_none e hp)]; exact e,fun a e=>?_,fun a e ne _=>?_,r.len,fun n a hn e=>?_⟩
 ·by_cases ha:a=p
  ·subst ha; exact hp
  ·rw [upd_ne ha] at e; exact e
 ·have ha:a≠p:=fun z=>ne.ne (z ▸ hp)
  show upd W.F p o a=none
  rw [upd_ne ha]; exact e
 ·have e:W.m[n]?=some a:=e
  have:=(List.getElem?_eq_some_iff.mp e).1
  rw [r.len] at this
  omega
theorem SlotR.mono {x:PV} {v:V} {H0:Hp} (l:W.Le W') (hm:W'.m=W.m) (hH:∀ a u,H a=some u→H' a=some u) (hF:∀ a,W.F a=none→H a≠none→W'.F a=none) (r:SlotR B W H H0 x v):SlotR B W' H' H0 x v:=by
 cases x with
 | own xs =>
  obtain ⟨a,vs,e,h,r,f,nm,h0⟩:=r
  exact ⟨a,vs,e,hH _ _ h,r.mono l,hF a f (by rw [h]; exact fun z=>nomatch z),by rw [hm]; exact nm,h0⟩
 | don ks=>exact DonR.mono l r
 | _=>exact Rep.mono l r
theorem jLT (r:Rel B N W s σ H) (hp:H p=none) (ho:SzO o):Rel B N ⟨upd W.F p o,W.m⟩ s σ (upd H p o) :=
 ⟨yLP r.hr hp ho,r.st.trans N.len (jHC r.hr hp),r.len,fun i x e=>by
  obtain ⟨v,e',sl⟩:=r.env i x e
  refine ⟨v,e',sl.mono (jCX (r.hr.fnone hp)) rfl (fun a u q=>by rw [upd_ne (ne_of_none q hp)]; exact q) fun a q ne=>?_⟩
  show upd W.F p o a=none
  have ha:a≠p:=fun z=>ne (by rw [z]; exact hp)
  rw [upd_ne ha]; exact q,r.dis,r.pin.trans (jCX (r.hr.fnone hp))⟩
theorem Grow.rel (g:Grow W H W' H') (r:Rel B N W s σ H):Rel B N W' s σ H':=by
 cases g with
 | refl=>exact r
 | new hp ho=>exact jLT r hp ho
theorem Grow.step (g:Grow W H W' H') (r:HRel B W h H):Step W h H W' h H':=by
 cases g with
 | refl=>exact Step.refl r
 | new hp _=>exact jHC r hp
theorem Grow.stepE (g:Grow W H W' H') (r:HRel B W s.h H):StepE W s H W' s H':=⟨g.step r,fun _ _ e _=>e⟩
theorem jDA {xs:List PV} {vs:List V} (hF:W.F p=none) (r:Reps B W xs vs):Rep B ⟨upd W.F p (.tup vs),W.m⟩ (.tup xs) (.ref p):=.tup (.inl upd_same) (r.mono (jCX hF))
theorem jEM {xs:List PV} {vs:List V} (hF:W.F p=none) (r:Reps B W xs vs):Rep B ⟨upd W.F p (.lst vs),W.m⟩ (.lst xs) (.ref p):=.lst upd_same (r.mono (jCX hF))
end
def OpSem (X:Cx) (B:Bs) (f:AH→PV→PV→Option PV) (r:R2):Prop:=∀ (W:Wd) (h:AH) (H:Hp) (x y z:PV) (x' y':V) (Q:VK),HRel B W h H→RepT B W H x x'→RepT B W H y y'→f h x y=some z →
 (∀ W' H' z',Grow W H W' H'→RepT B W' H' z z'→Q z' H')→r x' y' H Q
theorem OpSem.or {X:Cx} {B:Bs} {f g:AH→PV→PV→Option PV} {r r':R2} (a:OpSem X B f r) (b:OpSem X B g r'):OpSem X B (fun h x y=>(f h x y).or (g h x y)) (fun x y H Q=>r x y H Q∨r' x y H Q):=by
 intro W h H x y z x' y' Q hr rx ry e q
 have e:(f h x y).or (g h x y)=some z:=e
 cases ef:f h x y with
 | some z' =>
  rw [ef] at e
  cases e
  exact .inl (a W h H x y z x' y' Q hr rx ry ef q)
 | none =>
  rw [ef] at e
  exact .inr (b W h H x y z x' y' Q hr rx ry e q)
section
variable {X:Cx} {B:Bs} {N:Ent} {WX:WX} {a b:Expr} {ma mb:ME} {pos:Pos}
theorem jSN {f:AH→PV→PV→Option PV} {r:R2} (hf:OpSem X B f r) {W2:Wd} {s2:S} {σ:L2.St} {H2:Hp} {x y:PV} {x' y':V} {Q:VK} (r2:Rel B N W2 s2 σ H2) (rx:RepT B W2 H2 x x') (ry:RepT B W2 H2 y y')
  (q:Post B N WX W2 s2 H2 σ (match f s2.h x y with | some z=>R.ok z s2 | none=>.bad) fun u W' _ H'=>∀ u',RepT B W' H' u u'→Q u' H'):r x' y' H2 Q:=by
 split at q
 ·rename_i z e
  exact hf W2 s2.h H2 x y z x' y' Q r2.hr rx ry e fun W' H' z' g rz=>q W' H' (g.rel r2) (g.stepE r2.hr) z' rz
 ·exact q.elim
theorem jSM {op:Operator} {r:R2} {f:AH→PV→PV→Option PV} (ho:OpR X (binaryOp op) r) (hf:OpSem X B f r) (ha:SimE X B N WX a ma) (hb:SimE X B N WX b mb):SimE X B N WX (.BinOp a op b pos) (jO f ma mb) :=
 (pe_op ho ha hb).imp fun σ H Q h=>two h fun W2 s2 H2 x y x' y' r2 rx ry q=>jSN hf r2 rx ry q
theorem yJY {op:CmpOp} {r:R2} {f:AH→PV→PV→Option PV} (ho:OpR X (compareOp op) r) (hf:OpSem X B f r) (ha:SimE X B N WX a ma) (hb:SimE X B N WX b mb) (hm:behindInMarks op b=false):SimE X B N WX (.Compare a [op] [b] pos) (jO f ma mb) :=
 (pe_cmpR ho ha hb hm).imp fun σ H Q h=>two h fun W2 s2 H2 x y x' y' r2 rx ry q=>jSN hf r2 rx ry q
theorem yGF {op:CmpOp} {r:R2} {f:AH→PV→PV→Option PV} (ho:OpR X (compareOp op) r) (hf:OpSem X B f r) (ha:SimE X B N WX a ma) (hb:SimE X B N WX b mb) (hm:behindInMarks op b=false):SimT X B N WX (.Compare a [op] [b] pos) (bM (jO f ma mb)) :=
 (pt_cmpR ho ha hb hm).imp fun σ H Q h=>two (vDE h) fun W2 s2 H2 x y x' y' r2 rx ry q=>jSN hf r2 rx ry q
end
def fI (g:Int→Int→Option Int):AH→PV→PV→Option PV:=fun _ x y=>match x,y with
 | .int i,.int j=>(g i j).map .int
 | _,_=>none
def fIB (g:Int→Int→Bool):AH→PV→PV→Option PV:=fun _ x y=>match x,y with
 | .int i,.int j=>some (.bl (g i j))
 | _,_=>none
section
variable {X:Cx} {B:Bs} {W:Wd} {H:Hp}
theorem jAT {i:Int} {v:V} (r:RepT B W H (.int i) v):v=.int i:=by cases (show Rep B W (.int i) v from r); rfl
theorem yCE {b:Bool} {v:V} (r:RepT B W H (.bl b) v):v=.bl b:=by cases (show Rep B W (.bl b) v from r); rfl
theorem jXS {v:V} (r:RepT B W H .non v):v=.non:=by cases (show Rep B W .non v from r); rfl
theorem jEO {x:Str} {v:V} (r:RepT B W H (.str x) v):v=.str x∧SOk x:=by
 cases (show Rep B W (.str x) v from r) with
 | str _ h=>exact ⟨rfl,h⟩
theorem yDW {g:Int→Int→Option Int} {C:Int→Int→Prop} {f:Int→Int→Int} (hg:∀ i j k,g i j=some k→C i j∧f i j=k):OpSem X B (fI g) (rI C fun i j=>.int (f i j)):=by
 intro W h H x y z x' y' Q hr rx ry e q
 unfold fI at e
 split at e
 ·rename_i i j
  cases eg:g i j with
  | none=>rw [eg] at e; cases e
  | some k =>
   rw [eg] at e
   cases e
   obtain ⟨c,ek⟩:=hg i j k eg
   exact ⟨i,j,jAT rx,jAT ry,c,q W H _ (.refl W H) (by show RepT B W H (.int k) (.int (f i j)); rw [ek]; exact (Rep.int k).hand)⟩
 ·cases e
theorem yZS {f:Int→Int→Int}:OpSem X B (fI fun i j=>some (f i j)) (rI0 fun i j=>.int (f i j)):=by
 intro W h H x y z x' y' Q hr rx ry e q
 unfold fI at e
 split at e
 ·rename_i i j
  cases e
  exact ⟨i,j,jAT rx,jAT ry,q W H _ (.refl W H) (Rep.int _).hand⟩
 ·cases e
theorem jWX {g:Int→Int→Bool}:OpSem X B (fIB g) (rI0 fun i j=>.bl (g i j)):=by
 intro W h H x y z x' y' Q hr rx ry e q
 unfold fIB at e
 split at e
 ·rename_i i j
  cases e
  exact ⟨i,j,jAT rx,jAT ry,q W H _ (.refl W H) (Rep.bl _).hand⟩
 ·cases e
end
def yBT (i j:Int):Option Int:=if (i.natAbs < 18446744073709551616)∨(j.natAbs < 18446744073709551616) then some (i * j) else none
def jZH (i j:Int):Option Int:=if j≠0∧j.natAbs < 1073741824 then some (i.fdiv j) else none
def yHU (i j:Int):Option Int:=if j≠0 then some (i.fmod j) else none
def yUK (i j:Int):Option Int:=if 0≤j∧j≤1000∧i.natAbs < 18446744073709551616 then some (i ^ j.toNat) else none
theorem ySJ:∀ i j k,yBT i j=some k→CMul i j∧i * j=k:=fun i j k e=>by
 unfold yBT at e
 split at e
 ·rename_i h
  refine ⟨?_,Option.some.inj e⟩
  unfold CMul
  rcases h with h | h
  ·exact .inl (by omega)
  ·exact .inr (by omega)
 ·cases e
theorem yLS:∀ i j k,jZH i j=some k→CDivN i j∧i.fdiv j=k:=fun i j k e=>by
 unfold jZH at e
 split at e
 ·rename_i h
  exact ⟨h,Option.some.inj e⟩
 ·cases e
theorem ySK:∀ i j k,yHU i j=some k→j≠0∧i.fmod j=k:=fun i j k e=>by
 unfold yHU at e
 split at e
 ·rename_i h
  exact ⟨h,Option.some.inj e⟩
 ·cases e
theorem yRN:∀ i j k,yUK i j=some k→CPow i j∧i ^ j.toNat=k:=fun i j k e=>by
 unfold yUK at e
 split at e
 ·rename_i h
  exact ⟨⟨h.1,by omega,by have:=h.2.2; omega⟩,Option.some.inj e⟩
 ·cases e
def yID:AH→PV→PV→Option PV:=fun _ x y=>match x,y with
 | .str i,.str j=>if i.length+j.length≤sizeLine then some (.str (i++j)) else none
 | _,_=>none
def asM (h:AH):PV→Option (List PV)
 | .lst xs=>some xs
 | .own xs=>some xs
 | .cel n=>match h[n]? with
  | some (some (.lst xs))=>some xs
  | _=>none
 | _=>none
def yIE:AH→PV→PV→Option PV:=fun h x y=>match asM h x,asM h y with
 | some xs,some ys=>if xs.length+ys.length≤sizeLine then some (.lst (xs++ys)) else none
 | _,_=>none
def yIC:AH→PV→PV→Option PV:=fun _ x y=>match x,y with
 | .tup xs,.tup ys=>if xs.length+ys.length≤sizeLine then some (.tup (xs++ys)) else none
 | _,_=>none
def yIB:AH→PV→PV→Option PV:=fun h x y=>match asM h x,y with
 | some xs,.int k=>if k.natAbs < 1000000∧xs.length * k.toNat≤sizeLine then some (.lst (List.replicate k.toNat xs).flatten) else none
 | _,_=>none
section
variable {X:Cx} {B:Bs} {W:Wd} {h:AH} {H:Hp}
theorem jPP (hr:HRel B W h H) {x:PV} {x':V} {xs:List PV} (rx:RepT B W H x x') (e:asM h x=some xs):∃ a vs,x'=.ref a∧H a=some (.lst vs)∧Reps B W xs vs:=by
 cases x with
 | lst ys =>
  cases e
  cases (show Rep B W (.lst _) x' from rx) with
  | lst h r=>exact ⟨_,_,rfl,hr.agree _ _ h,r⟩
 | own ys =>
  cases e
  obtain ⟨a,vs,rfl,h,r,_⟩:=rx
  exact ⟨a,vs,rfl,h,r⟩
 | cel n =>
  cases (show Rep B W (.cel n) x' from rx) with
  | cel h1 =>
   unfold asM at e
   dsimp only at e
   split at e
   ·rename_i ys q
    cases e
    obtain ⟨_,vs,h2,r⟩:=hr.cell n _ _ q h1
    exact ⟨_,vs,rfl,h2,r⟩
   ·cases e
 | _=>cases e
theorem yCU {i j:Str} (a:SOk i) (b:SOk j) (h:i.length+j.length≤sizeLine):SOk (i++j):=by
 have e:(i++j).cps=i.cps++j.cps:=rfl
 refine ⟨?_,?_⟩
 ·show (i++j).cps.all (· < 0x110000)=true
  rw [e,Array.all_append]
  rw [show i.cps.all (· < 0x110000)=true from a.1,show j.cps.all (· < 0x110000)=true from b.1]
  rfl
 ·show (i++j).cps.size≤sizeLine
  rw [e,Array.size_append]
  exact h
theorem yKH:OpSem X B yID (fun x y H Q=>∃ i j,x=.str i∧y=.str j∧i.length+j.length≤sizeLine∧Q (.str (i++j)) H):=by
 intro W h H x y z x' y' Q hr rx ry e q
 unfold yID at e
 split at e
 ·rename_i i j
  split at e
  ·rename_i hz
   cases e
   obtain ⟨e1,k1⟩:=jEO rx
   obtain ⟨e2,k2⟩:=jEO ry
   exact ⟨i,j,e1,e2,hz,q W H _ (.refl W H) (Rep.str _ (yCU k1 k2 hz)).hand⟩
  ·cases e
 ·cases e
theorem yKI:OpSem X B yIE rCat:=by
 intro W h H x y z x' y' Q hr rx ry e q
 unfold yIE at e
 split at e
 ·rename_i xs ys ex ey
  split at e
  ·rename_i hz
   cases e
   obtain ⟨a,vs,rfl,ha,ra⟩:=jPP hr rx ex
   obtain ⟨b,ws,rfl,hb,rb⟩:=jPP hr ry ey
   refine ⟨a,b,vs,ws,rfl,rfl,ha,hb,by rw [← ra.length,← rb.length]; exact hz,fun p hp=>q _ _ _ (.new hp (by show (vs++ws).length≤sizeLine; rw [List.length_append,← ra.length,← rb.length]; exact hz)) ?_⟩
   exact (jEM (hr.fnone hp) (ra.append rb)).hand
  ·cases e
 ·cases e
theorem yKG (hK:X.K=B.K):OpSem X B yIC (rCatA X.K):=by
 intro W h H x y z x' y' Q hr rx ry e q
 unfold yIC at e
 split at e
 ·rename_i xs ys
  split at e
  ·rename_i hz
   cases e
   obtain ⟨a,vs,rfl,ha,ra⟩:=jGY hK hr (show Rep B W (.tup xs) x' from rx)
   obtain ⟨b,ws,rfl,hb,rb⟩:=jGY hK hr (show Rep B W (.tup ys) y' from ry)
   refine ⟨a,b,vs,ws,rfl,rfl,ha,hb,by rw [← ra.length,← rb.length]; exact hz,fun z=>?_,fun _ z=>?_,fun _ _ p hp=>q _ _ _ (.new hp (by show (vs++ws).length≤sizeLine; rw [List.length_append,← ra.length,← rb.length]; exact hz)) ?_⟩
   ·subst z
    have e0:xs=[]:=List.length_eq_zero_iff.mp ra.length
    subst e0
    exact q W H _ (.refl W H) ry
   ·subst z
    have e0:ys=[]:=List.length_eq_zero_iff.mp rb.length
    subst e0
    rw [List.append_nil] at q
    exact q W H _ (.refl W H) rx
   ·exact (jDA (hr.fnone hp) (ra.append rb)).hand
  ·cases e
 ·cases e
theorem yAJ {α:Type} (xs:List α) (k:Nat):(List.replicate k xs).flatten.length=xs.length * k:=by
 rw [List.length_flatten,List.map_replicate,List.sum_replicate_nat,Nat.mul_comm]
theorem yKB:OpSem X B yIB rRep:=by
 intro W h H x y z x' y' Q hr rx ry e q
 unfold yIB at e
 split at e
 ·rename_i xs k ex
  split at e
  ·rename_i hz
   cases e
   obtain ⟨a,vs,rfl,ha,ra⟩:=jPP hr rx ex
   refine ⟨a,k,vs,rfl,jAT ry,ha,by omega,by omega,by rw [← ra.length]; exact hz.2,fun p hp=>q _ _ _ (.new hp (by show (List.replicate k.toNat vs).flatten.length≤sizeLine; rw [yAJ,← ra.length]; exact hz.2)) ?_⟩
   exact (jEM (hr.fnone hp) (ra.rep _)).hand
  ·cases e
 ·cases e
end
mutual
def toD:PV→Option PyData
 | .non=>some .none
 | .bl b=>some (.bool b)
 | .int i=>some (.int i)
 | .str x=>some (.str x)
 | .tup xs=>(toDs xs).map .tuple
 | .lst xs=>(toDs xs).map .list
 | _=>none
def toDs:List PV→Option (List PyData)
 | []=>some []
 | x :: xs=>match toD x,toDs xs with
  | some d,some ds=>some (d :: ds)
  | _,_=>none
end
def jHS (h:AH) (x:PV):Option PyData:=match x with
 | .own xs=>(toDs xs).map .list
 | .cel n=>match h[n]? with
  | some (some (.lst xs))=>(toDs xs).map .list
  | _=>none
 | x=>toD x
def dOk (d:PyData):Bool:=decide (d.depth≤64)
def fEq:AH→PV→PV→Option PV:=fun h x y=>match jHS h x,jHS h y with
 | some d,some e=>if dOk d&&dOk e then some (.bl (PyData.eqv d e)) else none
 | _,_=>none
def fNe:AH→PV→PV→Option PV:=fun h x y=>match jHS h x,jHS h y with
 | some d,some e=>if dOk d&&dOk e then some (.bl (!PyData.eqv d e)) else none
 | _,_=>none
section
variable {X:Cx} {B:Bs} {W:Wd} {h:AH} {H:Hp}
mutual
theorem jSL (hK:X.K=B.K) (hr:HRel B W h H):∀ {x:PV} {v:V} {d:PyData},Rep B W x v→toD x=some d→Dp X.K H v d∧d.canLay0=true
 | _,_,_,.non,e=>by cases e; exact ⟨.non,rfl⟩
 | _,_,_,.bl b,e=>by cases e; exact ⟨.bl b,rfl⟩
 | _,_,_,.int i,e=>by cases e; exact ⟨.int i,rfl⟩
 | _,_,_,.str x k,e=>by cases e; exact ⟨.str x,by simpa [PyData.canLay0] using k.1⟩
 | _,_,_,.ty n,e=>by simp [toD] at e
 | _,_,_,.cls c,e=>by simp [toD] at e
 | _,_,_,.cel h,e=>by simp [toD] at e
 | _,_,_,.ins h1 h2 h3,e=>by simp [toD] at e
 | .tup xs,_,_,.tup h1 r,e=>by
  rw [toD] at e
  cases q:toDs xs with
  | none=>rw [q] at e; cases e
  | some ds =>
   rw [q] at e
   cases e
   obtain ⟨h2,h3⟩:=toDs_dp hK hr r q
   refine ⟨.tup ?_ h2,by simpa [PyData.canLay0] using h3⟩
   rcases h1 with h1 | ⟨o,its,n,k1,k2,k3,k4,k5⟩
   ·exact .inl (.inl (hr.agree _ _ h1))
   ·exact .inr ⟨o,its,n,hK ▸ k1,k2,k3,k4,k5⟩
 | .lst xs,_,_,.lst h1 r,e=>by
  rw [toD] at e
  cases q:toDs xs with
  | none=>rw [q] at e; cases e
  | some ds =>
   rw [q] at e
   cases e
   obtain ⟨h2,h3⟩:=toDs_dp hK hr r q
   exact ⟨.lst (.inl (.inl (hr.agree _ _ h1))) h2,by simpa [PyData.canLay0] using h3⟩
 | .scr xs,_,_,.scr h1 r,e=>by simp [toD] at e
theorem toDs_dp (hK:X.K=B.K) (hr:HRel B W h H):∀ {xs:List PV} {vs:List V} {ds:List PyData},Reps B W xs vs→toDs xs=some ds→DpAll X.K H vs ds∧PyData.canLayAll0 ds=true
 | _,_,_,.nil,e=>by cases e; exact ⟨.nil,rfl⟩
 | x :: xs,_,_,.cons r t,e=>by
  rw [toDs] at e
  cases q1:toD x with
  | none=>rw [q1] at e; cases e
  | some d =>
   cases q2:toDs xs with
   | none=>rw [q1,q2] at e; cases e
   | some ds =>
    rw [q1,q2] at e
    cases e
    obtain ⟨a1,a2⟩:=jSL hK hr r q1
    obtain ⟨b1,b2⟩:=toDs_dp hK hr t q2
    exact ⟨.cons a1 b1,by simp [PyData.canLayAll0,a2,b2]⟩
end
theorem jEC (hK:X.K=B.K) (hr:HRel B W h H) {x:PV} {v:V} {d:PyData} (r:RepT B W H x v) (e:jHS h x=some d):Dp X.K H v d∧d.canLay0=true:=by
 have fin:∀ (xs:List PV) (a:Addr) (vs:List V),v=.ref a→H a=some (.lst vs)→Reps B W xs vs→(toDs xs).map PyData.list=some d→Dp X.K H v d∧d.canLay0=true:=fun xs a vs ev ha ra e=>by
  cases q:toDs xs with
  | none=>rw [q] at e; cases e
  | some ds =>
   rw [q] at e
   cases e
   obtain ⟨h2,h3⟩:=toDs_dp hK hr ra q
   rw [ev]
   exact ⟨.lst (.inl (.inl ha)) h2,by simpa [PyData.canLay0] using h3⟩
 cases x with
 | own xs =>
  obtain ⟨a,vs,ev,ha,ra,_⟩:=r
  exact fin xs a vs ev ha ra e
 | cel n =>
  unfold jHS at e
  dsimp only at e
  split at e
  ·rename_i xs q
   obtain ⟨a,vs,ev,ha,ra⟩:=jPP (x:=.cel n) (xs:=xs) hr r (by unfold asM; dsimp only; rw [q])
   exact fin xs a vs ev ha ra e
  ·cases e
 | don ks=>simp [jHS,toD] at e
 | _=>exact jSL hK hr r e
theorem qI {d:PyData} (a:d.canLay0=true) (b:dOk d=true):SeqAt.shaped d=true:=by
 unfold SeqAt.shaped
 rw [a]
 exact b
theorem yZR (hK:X.K=B.K):OpSem X B fEq (rEqD X.K):=by
 intro W h H x y z x' y' Q hr rx ry e q
 unfold fEq at e
 split at e
 ·rename_i d f ed ef
  split at e
  ·rename_i hz
   cases e
   obtain ⟨z1,z2⟩:=Bool.and_eq_true_iff.mp hz
   obtain ⟨a1,a2⟩:=jEC hK hr rx ed
   obtain ⟨b1,b2⟩:=jEC hK hr ry ef
   exact ⟨d,f,a1,b1,qI a2 z1,qI b2 z2,q W H _ (.refl W H) (Rep.bl _).hand⟩
  ·cases e
 ·cases e
theorem yZO (hK:X.K=B.K):OpSem X B fNe (rNeD X.K):=by
 intro W h H x y z x' y' Q hr rx ry e q
 unfold fNe at e
 split at e
 ·rename_i d f ed ef
  split at e
  ·rename_i hz
   cases e
   obtain ⟨z1,z2⟩:=Bool.and_eq_true_iff.mp hz
   obtain ⟨a1,a2⟩:=jEC hK hr rx ed
   obtain ⟨b1,b2⟩:=jEC hK hr ry ef
   exact ⟨d,f,a1,b1,qI a2 z1,qI b2 z2,q W H _ (.refl W H) (Rep.bl _).hand⟩
  ·cases e
 ·cases e
end
def isNon:PV→Bool
 | .non=>true
 | _=>false
def jDZ:AH→PV→PV→Option PV:=fun _ x y=>match y with
 | .non=>some (.bl (isNon x))
 | _=>none
def jVP:AH→PV→PV→Option PV:=fun _ x y=>match y with
 | .non=>some (.bl (!isNon x))
 | _=>none
section
variable {X:Cx} {B:Bs} {W:Wd} {h:AH} {H:Hp}
theorem jVY {x:PV} {v:V} (r:RepT B W H x v):decide (v=.non)=isNon x:=by
 cases x with
 | own xs=>obtain ⟨a,vs,rfl,_⟩:=r; rfl
 | don ks=>obtain ⟨a,vs,o,rfl,_⟩:=r; rfl
 | _=>cases r <;> rfl
theorem yRD:OpSem X B jDZ (fun x y H Q=>y=.non∧Q (.bl (decide (x=.non))) H):=by
 intro W h H x y z x' y' Q hr rx ry e q
 unfold jDZ at e
 split at e
 ·cases e
  refine ⟨jXS ry,?_⟩
  rw [jVY rx]
  exact q W H _ (.refl W H) (Rep.bl _).hand
 ·cases e
theorem yKC:OpSem X B jVP (fun x y H Q=>y=.non∧Q (.bl (!decide (x=.non))) H):=by
 intro W h H x y z x' y' Q hr rx ry e q
 unfold jVP at e
 split at e
 ·cases e
  refine ⟨jXS ry,?_⟩
  rw [jVY rx]
  exact q W H _ (.refl W H) (Rep.bl _).hand
 ·cases e
end
end Lp
set_option maxHeartbeats 4000000
namespace Lp
open PySem PySem.Spec PyProof.Rows L2
abbrev MA:=S→R S (List PV)
def jN:MA:=fun s=>.ok [] s
def jC (m:ME) (r:MA):MA:=fun s=>(m s).bind fun v s1=>(r s1).bind fun vs s2=>.ok (v :: vs) s2
def asS (h:AH) (x:PV):Option (List PV):=match x with
 | .tup xs=>some xs
 | x=>asL h x
def jKM (m:ME) (r:MA):MA:=fun s=>(m s).bind fun v s1=>match asS s1.h v with
 | some xs=>(r s1).bind fun vs s2=>.ok (xs++vs) s2
 | none=>.bad
section
variable {X:Cx} {B:Bs} {N:Ent} {WX:WX} {W:Wd} {h:AH} {H:Hp} {e:Expr} {es:List Expr} {m:ME} {ma:MA}
theorem RepTs.append:∀ {xs ys:List PV} {vs ws:List V},RepTs B W H xs vs→RepTs B W H ys ws→RepTs B W H (xs++ys) (vs++ws)
 | [],_,[],_,_,s=>s
 | _ :: _,_,_ :: _,_,⟨r,t⟩,s=>⟨r,RepTs.append t s⟩
 | [],_,_ :: _,_,h,_=>h.elim
 | _ :: _,_,[],_,h,_=>h.elim
theorem Reps.hand:∀ {xs:List PV} {vs:List V},Reps B W xs vs→RepTs B W H xs vs
 | _,_,.nil=>trivial
 | _,_,.cons r t=>⟨r.hand,Reps.hand t⟩
theorem RepTs.length:∀ {xs:List PV} {vs:List V},RepTs B W H xs vs→xs.length=vs.length
 | [],[],_=>rfl
 | _ :: _,_ :: _,⟨_,t⟩=>congrArg Nat.succ (RepTs.length t)
 | [],_ :: _,h=>h.elim
 | _ :: _,[],h=>h.elim
def vM (xs:List PV):Bool:=xs.all fun x=>!isOwn x
theorem RepTs.reps:∀ {xs:List PV} {vs:List V},RepTs B W H xs vs→vM xs=true→Reps B W xs vs
 | [],[],_,_=>.nil
 | x :: xs,_ :: _,⟨r,t⟩,o=>by
  unfold vM at o
  rw [List.all_cons] at o
  obtain ⟨o1,o2⟩:=Bool.and_eq_true_iff.mp o
  exact .cons (r.rep (by simpa using o1)) (RepTs.reps t o2)
 | [],_ :: _,h,_=>h.elim
 | _ :: _,[],h,_=>h.elim
theorem jD:SimA X B N WX [] jN:=pa_nil.imp fun σ H Q ⟨W,s,r,h⟩=>h.ok r [] trivial
theorem jA (he:SimE X B N WX e m) (hr:SimA X B N WX es ma) (hs:starEach (e :: es) X.env=(false,eval e X.env) :: starEach es X.env):SimA X B N WX (e :: es) (jC m ma) :=
 (pa_cons he hr hs).imp fun σ H Q ⟨W,s,r,h⟩=>⟨W,s,r,(h.bind r.slen).mono fun v W1 s1 H1 r1 _ q v' rv=>⟨W1,s1,r1,(q.bind r1.slen).mono fun vs W2 s2 H2 r2 st2 q vs' rvs =>
  q.ok r2 (v' :: vs') ⟨rv.on r1.slen st2.st,rvs⟩⟩⟩
theorem jSQ (hK:X.K=B.K) (hr:HRel B W h H) {x:PV} {x':V} {xs:List PV} (rx:RepT B W H x x') (e:asS h x=some xs):∃ a vs,x'=.ref a∧(SqT X.K H a vs∨SqL X.K H a vs)∧Reps B W xs vs:=by
 have fin:asL h x=some xs→∃ a vs,x'=.ref a∧(SqT X.K H a vs∨SqL X.K H a vs)∧Reps B W xs vs:=fun e=>by
  obtain ⟨a,vs,e1,h1,r1⟩:=jKN hr rx e
  exact ⟨a,vs,e1,.inr (jNG hK h1),r1⟩
 cases x with
 | tup ys =>
  cases e
  obtain ⟨a,vs,e1,h1,r1⟩:=jGY hK hr (show Rep B W (.tup _) x' from rx)
  exact ⟨a,vs,e1,.inl h1,r1⟩
 | _=>exact fin e
theorem jEJ {p:Pos} (hK:X.K=B.K) (he:SimE X B N WX e m) (hr:SimA X B N WX es ma) (hs:starEach (.Starred e p :: es) X.env=(true,eval e X.env) :: starEach es X.env):SimA X B N WX (.Starred e p :: es) (jKM m ma) :=
 (StX.pa_star he hr hs).imp fun σ H Q ⟨W,s,r,h⟩=>⟨W,s,r,(h.bind r.slen).mono fun v W1 s1 H1 r1 _ q v' rv=>by
  split at q
  ·rename_i xs ex
   obtain ⟨a,vs,rfl,h1,r2⟩:=jSQ hK r1.hr rv ex
   exact ⟨a,vs,rfl,h1,W1,s1,r1,(q.bind r1.slen).mono fun us W2 s2 H2 r3 st2 q us' rus=>q.ok r3 (vs++us') ((r2.mono st2.st.le).hand.append rus)⟩
  ·exact q.elim⟩
def yS (ma:MA):ME:=fun s=>(ma s).bind fun vs s1=>if vM vs&&decide (vs.length≤16777216) then .ok (.tup vs) s1 else .bad
def jAH (ma:MA):ME:=fun s=>(ma s).bind fun vs s1=>if vM vs&&decide (vs.length≤16777216) then .ok (.lst vs) s1 else .bad
theorem jQ {x1 pos} (ha:SimA X B N WX es ma):SimE X B N WX (.Tuple es x1 pos) (yS ma) :=
 (pe_tup ha).imp fun σ H Q ⟨W,s,r,h⟩=>⟨W,s,r,(h.bind r.slen).mono fun vs W1 s1 H1 r1 _ q vs' rvs=>by
  split at q
  ·rename_i c
   obtain ⟨c1,c2⟩:=Bool.and_eq_true_iff.mp c
   have rr:=rvs.reps c1
   refine ⟨by rw [← rr.length,sizeLine_eq]; exact of_decide_eq_true c2,fun p hp=>?_⟩
   have hsz:vs'.length≤sizeLine:=by rw [← rr.length,sizeLine_eq]; exact of_decide_eq_true c2
   exact q _ _ (jLT (o:=.tup vs') r1 hp hsz) ⟨jHC r1.hr hp,fun _ _ e _=>e⟩ _ (jDA (r1.hr.fnone hp) rr).hand
  ·exact q.elim⟩
theorem yW {pos} (ha:SimA X B N WX es ma):SimE X B N WX (.List es pos) (jAH ma) :=
 (pe_lst ha).imp fun σ H Q ⟨W,s,r,h⟩=>⟨W,s,r,(h.bind r.slen).mono fun vs W1 s1 H1 r1 _ q vs' rvs=>by
  split at q
  ·rename_i c
   obtain ⟨c1,c2⟩:=Bool.and_eq_true_iff.mp c
   have rr:=rvs.reps c1
   refine ⟨by rw [← rr.length,sizeLine_eq]; exact of_decide_eq_true c2,fun p hp=>?_⟩
   have hsz:vs'.length≤sizeLine:=by rw [← rr.length,sizeLine_eq]; exact of_decide_eq_true c2
   exact q _ _ (jLT (o:=.lst vs') r1 hp hsz) ⟨jHC r1.hr hp,fun _ _ e _=>e⟩ _ (jEM (r1.hr.fnone hp) rr).hand
  ·exact q.elim⟩
end
def fIx:AH→PV→PV→Option PV:=fun h x y=>match x,y with
 | .str z,.int i=>(atI z.cps.toList i).map fun c=>.str ⟨#[c]⟩
 | x,.int i=>match asS h x with
  | some xs=>atI xs i
  | none=>none
 | _,_=>none
section
variable {X:Cx} {B:Bs} {N:Ent} {WX:WX} {W:Wd} {h:AH} {H:Hp} {a b c:Expr} {ma mb mc:ME} {pos:Pos}
theorem yTF {xs:List PV} {vs:List V} {i:Int} {x:PV} (r:Reps B W xs vs) (e:atI xs i=some x):∃ v,atI vs i=some v∧Rep B W x v:=by
 unfold atI at e ⊢
 rw [← r.length]
 cases q:ixN xs.length i with
 | none=>rw [q] at e; cases e
 | some j =>
  rw [q] at e
  obtain ⟨v,e1,r1⟩:=r.get (show xs[j]?=some x from e)
  exact ⟨v,e1,r1⟩
theorem jXQ {z w:Str} (k:SOk z) (hl:w.length≤z.length) (hm:∀ c∈w.cps.toList,c∈z.cps.toList):SOk w:=by
 refine ⟨?_,Nat.le_trans hl k.2⟩
 have k1:z.cps.all (· < 0x110000)=true:=k.1
 show w.cps.all (· < 0x110000)=true
 rw [← Array.all_toList,List.all_eq_true] at k1 ⊢
 exact fun c hc=>k1 c (hm c hc)
theorem yTG {α:Type} {xs:List α} {i:Int} {x:α} (e:atI xs i=some x):x∈xs:=by
 unfold atI at e
 cases q:ixN xs.length i with
 | none=>rw [q] at e; cases e
 | some j =>
  rw [q] at e
  exact List.mem_of_getElem? (show xs[j]?=some x from e)
theorem yZP (hK:X.K=B.K):OpSem X B fIx (rIx X.K):=by
 intro W h H x y z x' y' Q hr rx ry e q
 have go:∀ (i:Int) (xs:List PV),asS h x=some xs→y=.int i→atI xs i=some z→rIx X.K x' y' H Q:=fun i xs ex ey ea=>by
  obtain ⟨a,vs,rfl,h1,r1⟩:=jSQ hK hr rx ex
  obtain ⟨v,e1,rv⟩:=yTF r1 ea
  subst ey
  rcases h1 with h1 | h1
  ·exact .inr (.inl ⟨a,vs,i,v,rfl,jAT ry,h1,e1,q W H v (.refl W H) rv.hand⟩)
  ·exact .inl ⟨a,vs,i,v,rfl,jAT ry,h1,e1,q W H v (.refl W H) rv.hand⟩
 unfold fIx at e
 split at e
 ·rename_i z0 i
  cases ea:atI z0.cps.toList i with
  | none=>rw [ea] at e; cases e
  | some c =>
   rw [ea] at e
   cases e
   obtain ⟨e1,k⟩:=jEO rx
   refine .inr (.inr ⟨z0,i,c,e1,jAT ry,k.2,ea,q W H _ (.refl W H) (Rep.str _ ?_).hand⟩)
   have hm:=yTG ea
   refine jXQ k ?_ fun d hd=>by
    have:d=c:=by simpa using hd
    rw [this]; exact hm
   show (#[c]:Array Nat).size≤z0.cps.size
   have:=List.length_pos_of_mem hm
   simp only [Array.length_toList] at this
   show 1≤z0.cps.size
   omega
 ·rename_i i _
  split at e
  ·rename_i xs ex
   exact go i xs ex rfl e
  ·cases e
 ·cases e
theorem yF (hK:X.K=B.K) (ha:SimE X B N WX a ma) (hb:SimE X B N WX b mb) (hs:PlainIx b):SimE X B N WX (.Subscript a b pos) (jO fIx ma mb) :=
 (pe_ix ix_seq ha hb hs).imp fun σ H Q h=>two h fun W2 s2 H2 x y x' y' r2 rx ry q=>jSN (yZP hK) r2 rx ry q
def jIG {α:Type} (xs:List α) (lo hi:Option Int):List α:=(xs.drop (HT.sIx xs.length 0 lo)).take (HT.sIx xs.length xs.length hi - HT.sIx xs.length 0 lo)
def jXH (z:Str) (lo hi:Option Int):Str:=⟨(jIG z.cps.toList lo hi).toArray⟩
def fSl (h:AH) (x:PV) (lo hi:Option Int):Option PV:=match x with
 | .str z=>some (.str (jXH z lo hi))
 | .tup xs=>some (.tup (jIG xs lo hi))
 | x=>(asL h x).map fun xs=>.lst (jIG xs lo hi)
def jJX:S→R S (Option Int):=fun s=>.ok none s
def jJW (m:ME):S→R S (Option Int):=fun s=>(m s).bind fun v s1=>match v with
 | .int i=>.ok (some i) s1
 | _=>.bad
def eSl (m:ME) (lo hi:S→R S (Option Int)):ME:=fun s=>(m s).bind fun v s1=>(lo s1).bind fun l s2=>(hi s2).bind fun u s3=>match fSl s3.h v l u with
 | some z=>.ok z s3
 | none=>.bad
def tO (B:Bs) (N:Ent) (WX:L2.WX) (m:S→R S (Option Int)):TO:=fun σ H Q=>∃ W s,Rel B N W s σ H∧Post B N WX W s H σ (m s) fun v _ _ H'=>Q v H'
abbrev SimO (X:Cx) (B:Bs) (N:Ent) (WX:L2.WX) (e:Option Expr) (m:S→R S (Option Int)):Prop:=PO X e (tO B N WX m)
theorem yJK {e:Option Expr} {t t':TO} (h:PO X e t) (w:∀ σ H Q,t' σ H Q→t σ H Q):PO X e t':=by
 constructor
 intro pins s σ H Q I q
 exact h.run pins s σ H Q I (w _ _ _ q)
theorem jDJ:SimO X B N WX none jJX:=yJK po_none fun σ H Q ⟨W,s,r,h⟩=>h.ok r
theorem jDI (ha:SimE X B N WX a ma):SimO X B N WX (some a) (jJW ma):=yJK (po_some ha) fun σ H Q ⟨W,s,r,h⟩=>⟨W,s,r,(h.bind r.slen).mono fun v W1 s1 H1 r1 _ q v' rv=>by
 cases v with
 | int i=>exact ⟨i,jAT rv,q.ok r1⟩
 | _=>exact q.elim⟩
theorem jWV (hr:HRel B W h H) {x':V} {xs:List PV} (rx:Rep B W (.tup xs) x'):xs.length≤sizeLine:=by
 cases rx with
 | tup h r =>
  rw [r.length]
  rcases h with h | ⟨o,its,n,_,_,_,z,q⟩
  ·exact hr.hz _ _ (hr.agree _ _ h) vBJ
  ·rw [q.length,Array.length_toList]; exact z
theorem vCI (hr:HRel B W h H) {x:PV} {x':V} {xs:List PV} (rx:RepT B W H x x') (e:asS h x=some xs):xs.length≤sizeLine:=by
 cases x with
 | tup ys=>cases e; exact jWV hr (show Rep B W (.tup _) x' from rx)
 | _=>exact jXK hr rx e
theorem jWK {xs:List PV} {vs:List V} (r:Reps B W xs vs) (lo hi:Option Int):Reps B W (jIG xs lo hi) (cutV vs lo hi):=by
 unfold jIG cutV
 rw [r.length]
 exact (r.drop _).take _
theorem yLV {α:Type} {xs:List α} {lo hi:Option Int} (h:HT.sIx xs.length 0 lo=0∧HT.sIx xs.length xs.length hi=xs.length):jIG xs lo hi=xs:=by
 unfold jIG
 rw [h.1,h.2]
 simp
theorem yTC (z:Str) (lo hi:Option Int):cutS z lo hi=jXH z lo hi:=by
 unfold cutS jXH jIG
 first | rfl | simp
theorem yXI (hK:X.K=B.K) {x z:PV} {x':V} {lo hi:Option Int} {Q:VK} (hr:HRel B W h H) (rx:RepT B W H x x') (e:fSl h x lo hi=some z) (q:∀ W' H' z',Grow W H W' H'→RepT B W' H' z z'→Q z' H') :
  rSlL X.K x' lo hi H Q∨rSlA X.K x' lo hi H Q∨rSlS x' lo hi H Q:=by
 have go:∀ xs,asL h x=some xs→z=.lst (jIG xs lo hi)→rSlL X.K x' lo hi H Q:=fun xs ex ez=>by
  obtain ⟨a,vs,rfl,h1,r1⟩:=jKN hr rx ex
  subst ez
  exact ⟨a,vs,rfl,jNG hK h1,fun p hp=>q _ _ _ (.new hp (Nat.le_trans (cutV_length _ _ _) (by rw [← r1.length]; exact jXK hr rx ex))) (jEM (hr.fnone hp) (jWK r1 lo hi)).hand⟩
 unfold fSl at e
 split at e
 ·rename_i y
  cases e
  obtain ⟨e1,k⟩:=jEO rx
  refine .inr (.inr ⟨y,e1,k.2,?_⟩)
  rw [yTC]
  refine q W H _ (.refl W H) (Rep.str _ (jXQ k ?_ fun c hc=>?_)).hand
  ·show (jIG y.cps.toList lo hi).toArray.size≤y.cps.size
   unfold jIG
   simp only [List.size_toArray,List.length_take,List.length_drop,Array.length_toList]
   omega
  ·have hc:c∈jIG y.cps.toList lo hi:=by simpa [jXH] using hc
   unfold jIG at hc
   exact List.mem_of_mem_drop (List.mem_of_mem_take hc)
 ·rename_i xs
  cases e
  obtain ⟨a,vs,rfl,h1,r1⟩:=jGY hK hr (show Rep B W (.tup xs) x' from rx)
  refine .inr (.inl ⟨a,vs,rfl,h1,fun z=>?_,fun _ p hp=>q _ _ _ (.new hp (Nat.le_trans (cutV_length _ _ _) (by rw [← r1.length]; exact jWV hr (show Rep B W (.tup xs) _ from rx)))) (jDA (hr.fnone hp) (jWK r1 lo hi)).hand⟩)
  rw [yLV (by rw [r1.length]; exact z)] at q
  exact q W H _ (.refl W H) rx
 ·cases ex:asL h x with
  | none=>rw [ex] at e; cases e
  | some xs =>
   rw [ex] at e
   exact .inl (go xs ex (Option.some.inj e).symm)
theorem jJB {lo hi:Option Expr} {ml mh:S→R S (Option Int)} {p2:Pos} (hK:X.K=B.K) (ha:SimE X B N WX a ma) (hl:SimO X B N WX lo ml) (hh:SimO X B N WX hi mh):SimE X B N WX (.Subscript a (.Slice lo hi none p2) pos) (eSl ma ml mh) :=
 (pe_slice (sl_list.or (sl_tupA.or sl_str)) ha hl hh).imp fun σ H Q ⟨W,s,r,h⟩=>⟨W,s,r,(h.bind r.slen).mono fun v W1 s1 H1 r1 _ q v' rv=>⟨W1,s1,r1,(q.bind r1.slen).mono fun l W2 s2 H2 r2 st2 q =>
  ⟨W2,s2,r2,(q.bind r2.slen).mono fun u W3 s3 H3 r3 st3 q=>by
   split at q
   ·rename_i z ez
    exact yXI hK r3.hr ((rv.on r1.slen st2.st).on r2.slen st3.st) ez fun W' H' z' g rz=>q W' H' (g.rel r3) (g.stepE r3.hr) z' rz
   ·exact q.elim⟩⟩⟩
def jPM (f g:AH→PV→PV→Option PV) (a b c:ME):ME:=fun s=>(a s).bind fun x s1=>(b s1).bind fun y s2=>match f s2.h x y with
 | some (.bl true)=>(c s2).bind fun w s3=>match g s3.h y w with
  | some z=>.ok z s3
  | none=>.bad
 | some (.bl false)=>.ok (.bl false) s2
 | _=>.bad
theorem yLY {f g:AH→PV→PV→Option PV} {r r':R2} (hf:OpSem X B f r) (hg:OpSem X B g r') {σ:L2.St} {H:Hp} {Q:VK} (h:tE B N WX (jPM f g ma mb mc) σ H Q) :
  tChain r r' (tE B N WX ma) (tE B N WX mb) (tE B N WX mc) σ H Q:=by
 obtain ⟨W,s,r,h⟩:=h
 refine ⟨W,s,r,(h.bind r.slen).mono fun x W1 s1 H1 r1 _ q x' rx=>⟨W1,s1,r1,(q.bind r1.slen).mono fun y W2 s2 H2 r2 st2 q y' ry=>?_⟩⟩
 have rx2:=rx.on r1.slen st2.st
 have h0:∃ b,f s2.h x y=some (.bl b):=by
  split at q
  ·rename_i e; exact ⟨true,e⟩
  ·rename_i e; exact ⟨false,e⟩
  ·exact q.elim
 obtain ⟨b,eb⟩:=h0
 refine hf W2 s2.h H2 x y _ x' y' _ r2.hr rx2 ry eb fun W3 H3 z' g3 rz=>?_
 refine ⟨b,yCE rz,?_⟩
 have r3:=g3.rel r2
 have st3:=g3.stepE (s:=s2) r2.hr
 cases b with
 | false =>
  rw [eb] at q
  exact iteF ((Post.from r2.slen st3 q).ok r3 _ (Rep.bl false).hand)
 | true =>
  rw [eb] at q
  refine iteT ⟨W3,s2,r3,((Post.from r2.slen st3 q).bind r3.slen).mono fun w W4 s4 H4 r4 st4 q w' rw'=>?_⟩
  exact jSN hg r4 ((ry.on r2.slen st3.st).on r3.slen st4.st) rw' q
theorem yGJ {op op':CmpOp} {r r':R2} {f g:AH→PV→PV→Option PV} (ho:OpR X (compareOp op) r) (ho':OpR X (compareOp op') r') (hf:OpSem X B f r) (hg:OpSem X B g r') (ha:SimE X B N WX a ma) (hb:SimE X B N WX b mb) (hc:SimE X B N WX c mc)
  (hm:lastMarks [op,op'] [b,c]=false):SimE X B N WX (.Compare a [op,op'] [b,c] pos) (jPM f g ma mb mc) :=
 (pe_chain ho ho' ha hb hc hm).imp fun σ H Q h=>yLY hf hg h
end
end Lp
set_option maxHeartbeats 4000000
namespace Lp
open PySem PySem.Spec PyProof.Rows L2
def jIZ (neg:Bool):AH→PV→PV→Option PV:=fun h x y=>match jHS h x,jHS h y with
 | some d,some (.list ds)=>if dOk d&&dOk (.list ds) then some (.bl (neg ^^ ds.any fun z=>PyData.eqv z d)) else none
 | some d,some (.tuple ds)=>if dOk d&&dOk (.tuple ds) then some (.bl (neg ^^ ds.any fun z=>PyData.eqv z d)) else none
 | _,_=>none
def jYU (K:PySem.W.Frag) (neg:Bool):R2:=fun x y H Q=>∃ d ds,Dp K H x d∧Dp K H y (.tuple ds)∧SeqAt.shaped d=true∧SeqAt.shaped (.tuple ds)=true∧Q (.bl (neg ^^ ds.any fun z=>PyData.eqv z d)) H
section
variable {X:Cx} {B:Bs}
theorem jZQ {A:Around} {ds:List PyData} {d:PyData} (h:SeqAt.shaped (.tuple ds)=true) (hu:A.units+66 < cLine):A.units+1+min (PyData.depthAll ds) d.depth < cLine:=by
 have h1:=SeqAt.depth_of_shaped h
 simp only [PyData.depth] at h1
 have h2:min (PyData.depthAll ds) d.depth≤PyData.depthAll ds:=Nat.min_le_left _ _
 omega
theorem vBF (hu:X.A.units+66 < cLine):OpR X (compareOp .In) (jYU X.K false):=by
 intro pins s σ H x y v u Q I rx ry h
 obtain ⟨d,ds,hd,he,sd,se,q⟩:=h
 obtain ⟨as,r1⟩:=Dp.reads I d x v hd rx
 obtain ⟨bs,r2⟩:=Dp.reads I (.tuple ds) y u he ry
 exact SeqAt.in_tuple_reads r2 r1 (SeqAt.canLay_of_shaped se) (SeqAt.canLay_of_shaped sd) (jZQ se hu) ⟨.bl _,H,I,by simp; rfl,q⟩
theorem ySG (hu:X.A.units+66 < cLine):OpR X (compareOp .NotIn) (jYU X.K true):=by
 intro pins s σ H x y v u Q I rx ry h
 obtain ⟨d,ds,hd,he,sd,se,q⟩:=h
 obtain ⟨as,r1⟩:=Dp.reads I d x v hd rx
 obtain ⟨bs,r2⟩:=Dp.reads I (.tuple ds) y u he ry
 exact SeqAt.notIn_tuple_reads r2 r1 (SeqAt.canLay_of_shaped se) (SeqAt.canLay_of_shaped sd) (jZQ se hu) ⟨.bl _,H,I,by simp; rfl,q⟩
def jYW (neg:Bool):AH→PV→PV→Option PV:=fun _ x y=>match x,y with
 | .str i,.str j=>match i.cps.toList with
  | [c]=>some (.bl (neg ^^ decide (c∈j.cps.toList)))
  | _=>some (.bl (neg ^^ !(Builtin.Str.occurrences j i 0 j.length 1).isEmpty))
 | _,_=>none
theorem yRE (hK:X.K=B.K):OpSem X B (jIZ false) (fun x y H Q=>rInD X.K x y H Q∨jYU X.K false x y H Q):=by
 intro W h H x y z x' y' Q hr rx ry e q
 unfold jIZ at e
 split at e
 ·rename_i d ds ed ef
  split at e
  ·rename_i hz
   cases e
   obtain ⟨z1,z2⟩:=Bool.and_eq_true_iff.mp hz
   obtain ⟨a1,a2⟩:=jEC hK hr rx ed
   obtain ⟨b1,b2⟩:=jEC hK hr ry ef
   exact .inl ⟨d,ds,a1,b1,qI a2 z1,qI b2 z2,q W H _ (.refl W H) (by simp only [Bool.false_xor]; exact (Rep.bl _).hand)⟩
  ·cases e
 ·rename_i d ds ed ef
  split at e
  ·rename_i hz
   cases e
   obtain ⟨z1,z2⟩:=Bool.and_eq_true_iff.mp hz
   obtain ⟨a1,a2⟩:=jEC hK hr rx ed
   obtain ⟨b1,b2⟩:=jEC hK hr ry ef
   exact .inr ⟨d,ds,a1,b1,qI a2 z1,qI b2 z2,q W H _ (.refl W H) (Rep.bl _).hand⟩
  ·cases e
 ·cases e
theorem yKD (hK:X.K=B.K):OpSem X B (jIZ true) (fun x y H Q=>rNotInD X.K x y H Q∨jYU X.K true x y H Q):=by
 intro W h H x y z x' y' Q hr rx ry e q
 unfold jIZ at e
 split at e
 ·rename_i d ds ed ef
  split at e
  ·rename_i hz
   cases e
   obtain ⟨z1,z2⟩:=Bool.and_eq_true_iff.mp hz
   obtain ⟨a1,a2⟩:=jEC hK hr rx ed
   obtain ⟨b1,b2⟩:=jEC hK hr ry ef
   exact .inl ⟨d,ds,a1,b1,qI a2 z1,qI b2 z2,q W H _ (.refl W H) (by simp only [Bool.true_xor]; exact (Rep.bl _).hand)⟩
  ·cases e
 ·rename_i d ds ed ef
  split at e
  ·rename_i hz
   cases e
   obtain ⟨z1,z2⟩:=Bool.and_eq_true_iff.mp hz
   obtain ⟨a1,a2⟩:=jEC hK hr rx ed
   obtain ⟨b1,b2⟩:=jEC hK hr ry ef
   exact .inr ⟨d,ds,a1,b1,qI a2 z1,qI b2 z2,q W H _ (.refl W H) (Rep.bl _).hand⟩
  ·cases e
 ·cases e
def rInS (neg:Bool):R2:=fun x y H Q=>∃ i j:Str,x=.str i∧y=.str j∧Q (.bl (neg ^^ !(Builtin.Str.occurrences j i 0 j.length 1).isEmpty)) H
theorem op_inS:OpR X (compareOp .In) (rInS false):=by
 intro pins s σ H x y v u Q I rx ry h
 obtain ⟨i,j,e1,e2,q⟩:=h
 exact op_in_str pins s σ H x y v u Q I rx ry ⟨i,j,e1,e2,by simpa using q⟩
theorem vEI:OpR X (compareOp .NotIn) (rInS true):=by
 intro pins s σ H x y v u Q I rx ry h
 obtain ⟨i,j,e1,e2,q⟩:=h
 exact L2.op_notin_str pins s σ H x y v u Q I rx ry ⟨i,j,e1,e2,by simpa using q⟩
theorem vEH {neg:Bool}:OpSem X B (jYW neg) (rInS neg):=by
 intro W h H x y z x' y' Q hr rx ry e q
 unfold jYW at e
 split at e
 ·rename_i i j
  refine ⟨i,j,(jEO rx).1,(jEO ry).1,?_⟩
  split at e
  ·rename_i c ec
   cases e
   have ei:i=⟨#[c]⟩:=by
    obtain ⟨a⟩:=i
    congr 1
    exact Array.toList_inj.mp ec
   subst ei
   have:=PySem.StrLaws.found_one j c
   rw [this]
   exact q W H _ (.refl W H) (Rep.bl _).hand
  ·cases e
   exact q W H _ (.refl W H) (Rep.bl _).hand
 ·cases e
end
def fIn:AH→PV→PV→Option PV:=fun h x y=>(jYW false h x y).or (jIZ false h x y)
def jIF:AH→PV→PV→Option PV:=fun h x y=>(jYW true h x y).or (jIZ true h x y)
section
variable {X:Cx} {B:Bs}
theorem vDS (hu:X.A.units+66 < cLine):OpR X (compareOp .In) (fun x y H Q=>rInS false x y H Q∨(rInD X.K x y H Q∨jYU X.K false x y H Q)):=op_inS.or ((op_inD (by omega)).or (vBF hu))
theorem yIV (hu:X.A.units+66 < cLine):OpR X (compareOp .NotIn) (fun x y H Q=>rInS true x y H Q∨(rNotInD X.K x y H Q∨jYU X.K true x y H Q)):=vEI.or ((op_notInD (by omega)).or (ySG hu))
theorem yZQ (hK:X.K=B.K):OpSem X B fIn (fun x y H Q=>rInS false x y H Q∨(rInD X.K x y H Q∨jYU X.K false x y H Q)):=vEH.or (yRE hK)
theorem yES (hK:X.K=B.K):OpSem X B jIF (fun x y H Q=>rInS true x y H Q∨(rNotInD X.K x y H Q∨jYU X.K true x y H Q)):=vEH.or (yKD hK)
end
def CallSem (X:Cx) (B:Bs) (f:AH→List PV→Option PV) (r:List V→Hp→VK→Prop):Prop:=∀ (W:Wd) (h:AH) (H:Hp) (xs:List PV) (z:PV) (xs':List V) (Q:VK),HRel B W h H→RepTs B W H xs xs'→f h xs=some z →
 (∀ W' H' z',Grow W H W' H'→RepT B W' H' z z'→Q z' H')→r xs' H Q
def eCB (f:AH→List PV→Option PV) (ma:MA):ME:=fun s=>(ma s).bind fun vs s1=>match f s1.h vs with
 | some z=>.ok z s1
 | none=>.bad
section
variable {X:Cx} {B:Bs} {N:Ent} {WX:L2.WX} {x:Str} {p pos:Pos} {e:Expr} {es:List Expr} {ma:MA} {id T:String} {f:AH→List PV→Option PV} {r:List V→Hp→VK→Prop}
theorem yJH (hf:CallSem X B f r) {σ:L2.St} {H:Hp} {Q:VK} (h:tE B N WX (eCB f ma) σ H Q):tCB r (tA B N WX ma) σ H Q:=by
 obtain ⟨W,s,r0,h⟩:=h
 refine ⟨W,s,r0,(h.bind r0.slen).mono fun vs W1 s1 H1 r1 _ q vs' rvs=>?_⟩
 split at q
 ·rename_i z ez
  exact hf W1 s1.h H1 vs z vs' Q r1.hr rvs ez fun W' H' z' g rz=>q W' H' (g.rel r1) (g.stepE r1.hr) z' rz
 ·exact q.elim
theorem yGL (hc:CallR X (.builtin id) r) (hf:CallSem X B f r) (hg:Gl X x) (hm:X.mg x=none) (hv:bootBuiltins x=some (.builtin id)) (ha:SimA X B N WX (e :: es) ma) (hn:x ≠ "__name__") (hdb:(x == ("__debug__" : Str))=false)
  (he:starEach (e :: es) X.env=(false,eval e X.env) :: starEach es X.env) (hpl:(backTo pos (starEach es X.env)).any (·.1)=false):SimE X B N WX (.Call (.Name x p) (e :: es) [] pos) (eCB f ma) :=
 (pe_callB hc hg hm hv ha hn hdb he hpl).imp fun σ H Q h=>yJH hf h
theorem yCX (hc:CallR X (.type T) r) (hf:CallSem X B f r) (hg:Gl X x) (hm:X.mg x=none) (hv:bootBuiltins x=some (.type T)) (ha:SimA X B N WX (e :: es) ma) (hn:x ≠ "__name__") (hdb:(x == ("__debug__" : Str))=false)
  (he:starEach (e :: es) X.env=(false,eval e X.env) :: starEach es X.env) (hpl:(backTo pos (starEach es X.env)).any (·.1)=false):SimE X B N WX (.Call (.Name x p) (e :: es) [] pos) (eCB f ma) :=
 (pe_callTy hc hg hm hv ha hn hdb he hpl).imp fun σ H Q h=>yJH hf h
end
def jDS:AH→List PV→Option PV:=fun h xs=>match xs with
 | [.str x]=>some (.int x.length)
 | [x]=>(asS h x).map fun ys=>.int ys.length
 | _=>none
def jEN:AH→List PV→Option PV:=fun _ xs=>match xs with
 | [.int i]=>some (.int i)
 | [.bl k]=>some (.int (if k then 1 else 0))
 | _=>none
def jWR:PV→Option Bool
 | .bl b=>some b
 | _=>none
def jKH:AH→List PV→Option PV:=fun h xs=>match xs with
 | [x]=>match asL h x with
  | some ys=>(ys.mapM jWR).map fun bs=>.bl (bs.all fun b=>b)
  | none=>none
 | _=>none
def yBX:AH→List PV→Option PV:=fun h xs=>match xs with
 | [x]=>match asL h x with
  | some ys=>(ys.mapM jWR).map fun bs=>.bl (bs.any fun b=>b)
  | none=>none
 | _=>none
def jSH:AH→List PV→Option PV:=fun h xs=>match xs with
 | [x]=>(asS h x).map .lst
 | _=>none
def jPO:AH→List PV→Option PV:=fun h xs=>match xs with
 | [x]=>(asS h x).map .tup
 | _=>none
section
variable {X:Cx} {B:Bs} {W:Wd} {h:AH} {H:Hp}
theorem repts1 {x:PV} {vs:List V} (r:RepTs B W H [x] vs):∃ v,vs=[v]∧RepT B W H x v:=by
 cases vs with
 | nil=>exact r.elim
 | cons v t =>
  obtain ⟨r1,r2⟩:=r
  cases t with
  | nil=>exact ⟨v,rfl,r1⟩
  | cons _ _=>exact r2.elim
theorem repts2 {x y:PV} {vs:List V} (r:RepTs B W H [x,y] vs):∃ v w,vs=[v,w]∧RepT B W H x v∧RepT B W H y w:=by
 cases vs with
 | nil=>exact r.elim
 | cons v t =>
  obtain ⟨r1,r2⟩:=r
  obtain ⟨w,rfl,r3⟩:=repts1 r2
  exact ⟨v,w,rfl,r1,r3⟩
theorem yRB (hK:X.K=B.K):CallSem X B jDS (fun xs H Q=>∃ x n,xs=[x]∧LenV X.K x H n∧Q (.int n) H):=by
 intro W h H xs z xs' Q hr rx e q
 unfold jDS at e
 split at e
 ·rename_i x
  cases e
  obtain ⟨v,rfl,r1⟩:=repts1 rx
  obtain ⟨rfl,k⟩:=jEO r1
  exact ⟨_,x.length,rfl,⟨k.2,rfl⟩,q W H _ (.refl W H) (Rep.int _).hand⟩
 ·rename_i x _
  obtain ⟨v,rfl,r1⟩:=repts1 rx
  cases ex:asS h x with
  | none=>rw [ex] at e; cases e
  | some ys =>
   rw [ex] at e
   cases e
   obtain ⟨a,vs,rfl,h1,r2⟩:=jSQ hK hr r1 ex
   refine ⟨_,ys.length,rfl,?_,q W H _ (.refl W H) (Rep.int _).hand⟩
   rcases h1 with h1 | h1
   ·exact .inr ⟨vs,h1,r2.length⟩
   ·exact .inl ⟨vs,h1,r2.length⟩
 ·cases e
theorem yKF:CallSem X B jEN (fun xs H Q=>(∃ i,xs=[.int i]∧Q (.int i) H)∨∃ k,xs=[.bl k]∧Q (.int (if k then 1 else 0)) H):=by
 intro W h H xs z xs' Q hr rx e q
 unfold jEN at e
 split at e
 ·rename_i i
  cases e
  obtain ⟨v,rfl,r1⟩:=repts1 rx
  exact .inl ⟨i,by rw [jAT r1],q W H _ (.refl W H) (Rep.int _).hand⟩
 ·rename_i k
  cases e
  obtain ⟨v,rfl,r1⟩:=repts1 rx
  exact .inr ⟨k,by rw [yCE r1],q W H _ (.refl W H) (Rep.int _).hand⟩
 ·cases e
theorem jSZ:∀ {ys:List PV} {vs:List V} {bs:List Bool},Reps B W ys vs→ys.mapM jWR=some bs→vs=bs.map V.bl
 | [],_,_,.nil,e=>by cases e; rfl
 | y :: ys,_,bs,.cons r t,e=>by
  rw [List.mapM_cons] at e
  cases y with
  | bl b =>
   cases eq:ys.mapM jWR with
   | none=>rw [eq] at e; cases e
   | some cs =>
    rw [eq] at e
    cases e
    cases r
    rw [jSZ t eq]
    rfl
  | _=>cases e
theorem yRH (hK:X.K=B.K):CallSem X B jKH (rAll X.K):=by
 intro W h H xs z xs' Q hr rx e q
 unfold jKH at e
 split at e
 ·rename_i x
  obtain ⟨v,rfl,r1⟩:=repts1 rx
  split at e
  ·rename_i ys ex
   obtain ⟨a,vs,rfl,h1,r2⟩:=jKN hr r1 ex
   cases eb:ys.mapM jWR with
   | none=>rw [eb] at e; cases e
   | some bs =>
    rw [eb] at e
    cases e
    refine ⟨a,bs,rfl,by rw [← jSZ r2 eb]; exact jNG hK h1,?_⟩
    have:(bs.all id)=(bs.all fun b=>b):=rfl
    rw [this]
    exact q W H _ (.refl W H) (Rep.bl _).hand
  ·cases e
 ·cases e
theorem yRG (hK:X.K=B.K):CallSem X B yBX (rAny X.K):=by
 intro W h H xs z xs' Q hr rx e q
 unfold yBX at e
 split at e
 ·rename_i x
  obtain ⟨v,rfl,r1⟩:=repts1 rx
  split at e
  ·rename_i ys ex
   obtain ⟨a,vs,rfl,h1,r2⟩:=jKN hr r1 ex
   cases eb:ys.mapM jWR with
   | none=>rw [eb] at e; cases e
   | some bs =>
    rw [eb] at e
    cases e
    refine ⟨a,bs,rfl,by rw [← jSZ r2 eb]; exact jNG hK h1,?_⟩
    have:(bs.any id)=(bs.any fun b=>b):=rfl
    rw [this]
    exact q W H _ (.refl W H) (Rep.bl _).hand
  ·cases e
 ·cases e
theorem yKE (hK:X.K=B.K):CallSem X B jSH (fun xs H Q=>∃ p ys,xs=[.ref p]∧(SqL X.K H p ys∨SqT X.K H p ys)∧∀ l,H l=none→Q (.ref l) (upd H l (.lst ys))):=by
 intro W h H xs z xs' Q hr rx e q
 unfold jSH at e
 split at e
 ·rename_i x
  obtain ⟨v,rfl,r1⟩:=repts1 rx
  cases ex:asS h x with
  | none=>rw [ex] at e; cases e
  | some ys =>
   rw [ex] at e
   cases e
   obtain ⟨a,vs,rfl,h1,r2⟩:=jSQ hK hr r1 ex
   exact ⟨a,vs,rfl,h1.symm,fun p hp=>q _ _ _ (.new hp (show vs.length≤sizeLine from by rw [← r2.length]; exact vCI hr r1 ex)) (jEM (hr.fnone hp) r2).hand⟩
 ·cases e
theorem yGM (hK:X.K=B.K):CallSem X B jPO (fun xs H Q=>∃ p ys,xs=[.ref p]∧((SqL X.K H p ys∧∀ l,H l=none→Q (.ref l) (upd H l (.tup ys)))∨(SqT X.K H p ys∧Q (.ref p) H))):=by
 intro W h H xs z xs' Q hr rx e q
 unfold jPO at e
 split at e
 ·rename_i x
  obtain ⟨v,rfl,r1⟩:=repts1 rx
  cases ex:asS h x with
  | none=>rw [ex] at e; cases e
  | some ys =>
   rw [ex] at e
   cases e
   have go:asL h x=some ys→∃ p zs,[v]=[.ref p]∧((SqL X.K H p zs∧∀ l,H l=none→Q (.ref l) (upd H l (.tup zs)))∨(SqT X.K H p zs∧Q (.ref p) H)):=fun ex=>by
    obtain ⟨a,vs,rfl,h1,r2⟩:=jKN hr r1 ex
    exact ⟨a,vs,rfl,.inl ⟨jNG hK h1,fun p hp=>q _ _ _ (.new hp (show SzO (.tup vs) from by show vs.length≤sizeLine; rw [← r2.length]; exact jXK hr r1 ex)) (jDA (hr.fnone hp) r2).hand⟩⟩
   cases x with
   | tup xs =>
    cases ex
    obtain ⟨a,vs,rfl,h1,r2⟩:=jGY hK hr (show Rep B W (.tup _) v from r1)
    exact ⟨a,vs,rfl,.inr ⟨h1,q W H _ (.refl W H) r1⟩⟩
   | _=>exact go ex
 ·cases e
end
end Lp
set_option maxHeartbeats 4000000
namespace Lp
open PySem PySem.Spec PyProof.Rows L2
structure Loose (N:Ent) (W:Wd) (s:S) (σ:L2.St) (p:Addr):Prop where
 F:W.F p=none
 m:p∉W.m
 o:∀ (i:Nat) (x:PV),s.e[i]?=some (some x)→isOwn x=true→σ[i]?≠some (some (.ref p))
 e:N.H p=none
section
variable {B:Bs} {N:Ent} {W W':Wd} {s s':S} {σ:L2.St} {H H':Hp} {p:Addr} {o:HO}
theorem CellR.off {c:Cell} {a:Addr} (r:CellR B W H a c) (ne:a≠p):CellR B W (upd H p o) a c:=r.mono (.refl W) (fun u e=>by rw [upd_ne ne]; exact e)
def Wr (H:Hp) (p:Addr):Prop:=H p=none∨∃ o0,H p=some o0∧NT o0∧∀ c q,o0≠LamX.CodeO c q
theorem yIK {vs:List V} (h:H p=some (.lst vs)):Wr H p:=.inr ⟨_,h,jCB,yIW⟩
theorem yJS {T:List (Addr × Str)} (t:LamX.Tabs T H) (h:Wr H p):LamX.Tabs T (upd H p o):=by
 rcases h with h | ⟨o0,h,nt,nc⟩
 ·exact jSV t h
 ·exact jOC t h nt nc
theorem jHY (r:Rel B N W s σ H) (l:Loose N W s σ p) (ho:SzO o) (wr:Wr H p):Rel B N W s σ (upd H p o):=by
 refine ⟨⟨fun a u e=>?_,r.hr.len,r.hr.nd,fun a hm=>?_,fun a u e nt=>?_,r.hr.fz,yJS r.hr.tb wr,fun n c a e1 e2=>?_⟩,?_,r.len,fun i x e=>?_,r.dis,r.pin⟩
 ·have ne:a≠p:=fun z=>by rw [z,l.F] at e; cases e
  rw [upd_ne ne]; exact r.hr.agree _ _ e
 ·have ne:a≠p:=fun z=>l.m (z ▸ hm)
  rw [upd_ne ne]; exact r.hr.mt a hm
 ·by_cases ha:a=p
  ·rw [ha,upd_same] at e
   cases e
   exact ho
  ·rw [upd_ne ha] at e
   exact r.hr.hz a u e nt
 ·obtain ⟨h1,h2⟩:=r.hr.cell n c a e1 e2
  exact ⟨h1,h2.off fun z=>l.m (z ▸ List.mem_of_getElem? e2)⟩
 ·have st:=r.st
  refine ⟨st.le,st.hl,st.dead,fun a u e nt nl=>?_,fun a e=>?_,fun a e ne nl=>?_,st.hm,st.mnew⟩
  ·have ne:a≠p:=fun z=>by rw [z,l.e] at e; cases e
   rw [upd_ne ne]; exact st.keep a u e nt nl
  ·by_cases ha:a=p
   ·rw [ha,upd_same] at e; cases e
   ·rw [upd_ne ha] at e; exact st.tr a e
  ·exact st.fgrow a e ne nl
 ·obtain ⟨v,e1,sl⟩:=r.env i x e
  refine ⟨v,e1,?_⟩
  cases x with
  | own xs =>
   obtain ⟨a,vs,rfl,h1,h2,h3,h4,h5⟩:=sl
   have ne:a≠p:=fun z=>l.o i _ e rfl (by rw [e1,z])
   exact ⟨a,vs,rfl,by rw [upd_ne ne]; exact h1,h2,h3,h4,h5⟩
  | don ks=>exact sl
  | _=>exact sl
theorem jZT (r:Rel B N W s σ H) (l:Loose N W s σ p) (hp:H p=some o) (nt:NT o):Rel B N ⟨upd W.F p o,W.m⟩ s σ H:=by
 have le:W.Le ⟨upd W.F p o,W.m⟩:=jCX l.F
 refine ⟨⟨fun a u e=>?_,r.hr.len,r.hr.nd,r.hr.mt,r.hr.hz,fun a u e=>?_,r.hr.tb,fun n c a e1 e2=>?_⟩,?_,r.len,fun i x e=>?_,r.dis,r.pin.trans le⟩
 ·by_cases ha:a=p
  ·have e:upd W.F p o a=some u:=e
   rw [ha,upd_same] at e
   rw [ha,hp]; exact e
  ·have e:upd W.F p o a=some u:=e
   rw [upd_ne ha] at e
   exact r.hr.agree _ _ e
 ·by_cases ha:a=p
  ·have e:upd W.F p o a=some u:=e
   rw [ha,upd_same] at e
   cases e
   exact nt
  ·have e:upd W.F p o a=some u:=e
   rw [upd_ne ha] at e
   exact r.hr.fz a u e
 ·obtain ⟨h1,h2⟩:=r.hr.cell n c a e1 e2
  have ne:a≠p:=fun z=>l.m (z ▸ List.mem_of_getElem? e2)
  exact ⟨by show upd W.F p o a=none; rw [upd_ne ne]; exact h1,h2.mono le fun _ z=>z⟩
 ·have st:=r.st
  refine ⟨st.le.trans le,st.hl,st.dead,st.keep,st.tr,fun a e ne nl=>?_,st.hm,st.mnew⟩
  have ha:a≠p:=fun z=>ne.ne (z ▸ l.e)
  show upd W.F p o a=none
  rw [upd_ne ha]; exact st.fgrow a e ne nl
 ·obtain ⟨v,e1,sl⟩:=r.env i x e
  refine ⟨v,e1,?_⟩
  cases x with
  | own xs =>
   obtain ⟨a,vs,rfl,h1,h2,h3,h4,h5⟩:=sl
   have ne:a≠p:=fun z=>l.o i _ e rfl (by rw [e1,z])
   exact ⟨a,vs,rfl,h1,h2.mono le,by show upd W.F p o a=none; rw [upd_ne ne]; exact h3,h4,h5⟩
  | don ks=>exact DonR.mono le sl
  | _=>exact Rep.mono le sl
theorem Rel.loose (r:Rel B N W s σ H) (hp:H p=none):Loose N W s σ p:=by
 refine ⟨r.hr.fnone hp,fun z=>r.hr.mt p z hp,fun i x e o q=>?_,r.st.tr _ hp⟩
 ·obtain ⟨v,e1,sl⟩:=r.env i x e
  rw [q] at e1
  cases e1
  cases x with
  | own xs =>
   obtain ⟨a,vs,e2,h1,_⟩:=sl
   cases e2
   rw [hp] at h1
   cases h1
  | don ks =>
   obtain ⟨a,vs,o',e2,h1,_⟩:=sl
   cases e2
   rw [r.hr.fnone hp] at h1
   cases h1
  | _=>cases o
theorem Loose.on (l:Loose N W s σ p) (hl:W.m.length=s.h.length) (st:StepE W s H W' s' H') (hp:FG (H p)):Loose N W' s' σ p :=
 ⟨st.st.fgrow p l.F hp fun z=>l.m z.mem,st.st.notm hl l.m hp.ne,fun i x e o=>l.o i x (st.eo i x e o) o,l.e⟩
theorem Loose.held (l:Loose N W s σ p) (st:StepE W s H W' s' H') (hp:H p=some o) (nt:NT o):H' p=some o:=st.st.keep p o hp nt fun z=>l.m z.mem
theorem StepE.put (st:StepE W s H W' s' H') (hp:H p=none) (hm:p∉W'.m):StepE W s H W' s' (upd H' p o):=by
 refine ⟨⟨st.st.le,st.st.hl,st.st.dead,fun a u e nt nl=>?_,fun a e=>?_,st.st.fgrow,st.st.hm,st.st.mnew⟩,st.eo⟩
 ·rw [upd_ne (ne_of_none e hp)]; exact st.st.keep a u e nt nl
 ·by_cases ha:a=p
  ·rw [ha,upd_same] at e; cases e
  ·rw [upd_ne ha] at e; exact st.st.tr a e
theorem StepE.keepNew (st:StepE W s H W' s' H') (hp:H p=none) (hF:W'.F p=none):StepE W s H ⟨upd W'.F p o,W'.m⟩ s' H':=by
 refine ⟨⟨st.st.le.trans (jCX hF),st.st.hl,st.st.dead,st.st.keep,st.st.tr,fun a e ne nl=>?_,st.st.hm,st.st.mnew⟩,st.eo⟩
 have ha:a≠p:=fun z=>ne.ne (z ▸ hp)
 show upd W'.F p o a=none
 rw [upd_ne ha]; exact st.st.fgrow a e ne nl
end
def jP (e:List (Option PV)):List Nat→List (Option PV)
 | []=>e
 | v :: vs=>(jP e vs).set v none
section
variable {B:Bs} {N:Ent} {W W':Wd} {s s':S} {σ:L2.St} {H H':Hp} {p:Addr} {o:HO}
theorem jJP (e:List (Option PV)):∀ vs:List Nat,(jP e vs).length=e.length
 | []=>rfl
 | v :: vs=>by unfold jP; rw [List.length_set,jJP e vs]
theorem jBT {e:List (Option PV)} {i:Nat} {x:PV}:∀ {vs:List Nat},(jP e vs)[i]?=some (some x)→e[i]?=some (some x)∧i∉vs
 | [],h=>⟨h,by simp⟩
 | v :: vs,h=>by
  unfold jP at h
  by_cases hi:v=i
  ·subst hi
   by_cases hv:v < (jP e vs).length
   ·rw [List.getElem?_set_self hv] at h; cases h
   ·rw [List.getElem?_eq_none (by simpa using hv)] at h; cases h
  ·rw [List.getElem?_set_ne hi] at h
   obtain ⟨h1,h2⟩:=jBT h
   exact ⟨h1,by simp only [List.mem_cons,not_or]; exact ⟨fun e=>hi e.symm,h2⟩⟩
theorem jFE {σ:L2.St} {i:Nat}:∀ {vs:List Nat},i∉vs→(wipe σ vs)[i]?=σ[i]?
 | [],_=>rfl
 | v :: vs,h=>by
  simp only [List.mem_cons,not_or] at h
  unfold wipe
  rw [List.getElem?_set_ne (fun e=>h.1 e.symm)]
  exact jFE h.2
theorem jSR {σ:L2.St} {i:Nat} {x:Option V}:∀ {vs:List Nat},i∈vs→wipe (σ.set i x) vs=wipe σ vs
 | [],h=>by cases h
 | v :: vs,h=>by
  unfold wipe
  by_cases hm:i∈vs
  ·rw [jSR hm]
  ·have hv:i=v:=by
    rcases List.mem_cons.mp h with z | z
    ·exact z
    ·exact absurd z hm
   subst hv
   have go:∀ ws:List Nat,i∉ws→wipe (σ.set i x) ws=(wipe σ ws).set i x:=by
    intro ws
    induction ws with
    | nil=>intro _; rfl
    | cons w ws ih =>
     intro hw
     simp only [List.mem_cons,not_or] at hw
     unfold wipe
     rw [ih hw.2,List.set_comm _ _ hw.1]
   rw [go vs hm,List.set_set]
theorem jED {i:Nat} {x:PV} {v:V} (r:Rel B N W s σ H) (rx:Rep B W x v):Rel B N W ⟨s.e.set i (some x),s.h⟩ (σ.set i (some v)) H:=by
 have nx:isOwn x=false:=by cases rx <;> rfl
 refine ⟨r.hr,r.st,by simp only [List.length_set]; exact r.len,fun j y e=>?_,fun j k y z a hjk e1 e2 o1 o2 s1 s2=>?_,r.pin⟩
 ·by_cases hj:i=j
  ·subst hj
   by_cases hi:i < s.e.length
   ·have e:(s.e.set i (some x))[i]?=some (some y):=e
    rw [List.getElem?_set_self hi] at e
    cases e
    exact ⟨v,List.getElem?_set_self (by rw [r.len]; exact hi),rx.slot⟩
   ·have e:(s.e.set i (some x))[i]?=some (some y):=e
    rw [List.getElem?_eq_none (by rw [List.length_set]; omega)] at e
    cases e
  ·have e:(s.e.set i (some x))[j]?=some (some y):=e
   rw [List.getElem?_set_ne hj] at e
   rw [List.getElem?_set_ne hj]
   exact r.env j y e
 ·have g:∀ (j:Nat) (y:PV),(s.e.set i (some x))[j]?=some (some y)→isOwn y=true→j≠i:=fun j y e o z=>by
   subst z
   by_cases hi:j < s.e.length
   ·rw [List.getElem?_set_self hi] at e
    cases e
    rw [nx] at o
    cases o
   ·rw [List.getElem?_eq_none (by rw [List.length_set]; omega)] at e
    cases e
  have hj:=g j y e1 o1
  have hk:=g k z e2 o2
  have e1:(s.e.set i (some x))[j]?=some (some y):=e1
  have e2:(s.e.set i (some x))[k]?=some (some z):=e2
  rw [List.getElem?_set_ne (Ne.symm hj)] at e1 s1
  rw [List.getElem?_set_ne (Ne.symm hk)] at e2 s2
  exact r.dis j k y z a hjk e1 e2 o1 o2 s1 s2
theorem yKM {vs:List Nat} (r:Rel B N W s σ H):Rel B N W ⟨jP s.e vs,s.h⟩ (wipe σ vs) H:=by
 refine ⟨r.hr,r.st,by simp only [jJP,wipe_length]; exact r.len,fun j y e=>?_,fun j k y z a hjk e1 e2 o1 o2 s1 s2=>?_,r.pin⟩
 ·obtain ⟨e1,hj⟩:=jBT e
  rw [jFE hj]
  exact r.env j y e1
 ·obtain ⟨f1,hj⟩:=jBT e1
  obtain ⟨f2,hk⟩:=jBT e2
  rw [jFE hj] at s1
  rw [jFE hk] at s2
  exact r.dis j k y z a hjk f1 f2 o1 o2 s1 s2
theorem jZU {σ2:L2.St} {vs:List Nat} (r:Rel B N W s σ2 H) (e:wipe σ2 vs=wipe σ vs):Rel B N W ⟨jP s.e vs,s.h⟩ σ H:=by
 have hlen:σ2.length=σ.length:=by
  have:=congrArg List.length e
  rw [wipe_length,wipe_length] at this
  exact this
 have g:∀ j,j∉vs→σ2[j]?=σ[j]?:=fun j hj=>by rw [← jFE (σ:=σ2) hj,e,jFE hj]
 refine ⟨r.hr,r.st,by simp only [jJP]; rw [← hlen]; exact r.len,fun j y e=>?_,fun j k y z a hjk e1 e2 o1 o2 s1 s2=>?_,r.pin⟩
 ·obtain ⟨e1,hj⟩:=jBT e
  rw [← g j hj]
  exact r.env j y e1
 ·obtain ⟨f1,hj⟩:=jBT e1
  obtain ⟨f2,hk⟩:=jBT e2
  rw [← g j hj] at s1
  rw [← g k hk] at s2
  exact r.dis j k y z a hjk f1 f2 o1 o2 s1 s2
end
inductive Tg where
 | n (i:Nat) | t (ts:List Tg)
mutual
def gT (K:PySem.W.Frag):Tg→TG
 | .n i=>gName i
 | .t ts=>gTup K ts.length (gTs K ts)
def gTs (K:PySem.W.Frag):List Tg→TGs
 | []=>gNil
 | t :: ts=>gCons (gT K t) (gTs K ts)
end
mutual
def zR:Tg→PV→List (Option PV)→Option (List (Option PV))
 | .n i,v,e=>if isOwn v then none else some (e.set i (some v))
 | .t ts,.tup xs,e=>bindTs ts xs e
 | .t _,_,_=>none
def bindTs:List Tg→List PV→List (Option PV)→Option (List (Option PV))
 | [],[],e=>some e
 | t :: ts,x :: xs,e=>match zR t x e with
  | some e1=>bindTs ts xs e1
  | none=>none
 | _,_,_=>none
end
mutual
def Tg.sl:Tg→List Nat
 | .n i=>[i]
 | .t ts=>Tg.sls ts
def Tg.sls:List Tg→List Nat
 | []=>[]
 | g :: gs=>g.sl++Tg.sls gs
end
section
variable {X:Cx} {B:Bs} {N:Ent} {W W':Wd} {s s':S} {σ:L2.St} {H H':Hp} {vs:List Nat}
theorem Reps.len_of {xs:List PV} {us:List V} (r:Reps B W xs us) {n:Nat} (h:xs.length=n):us.length=n:=by rw [← r.length]; exact h
mutual
theorem jTO:∀ {ts:List Tg} {xs:List PV} {e e':List (Option PV)},bindTs ts xs e=some e'→xs.length=ts.length
 | [],[],_,_,_=>rfl
 | [],_ :: _,_,_,h=>by simp [bindTs] at h
 | _ :: _,[],_,_,h=>by simp [bindTs] at h
 | t :: ts,x :: xs,e,e',h=>by
  rw [bindTs] at h
  cases q:zR t x e with
  | none=>rw [q] at h; cases h
  | some e1 =>
   rw [q] at h
   exact congrArg Nat.succ (jTO h)
end
mutual
theorem yEA (hK:X.K=B.K):∀ {t:Tg} {x:PV} {v:V} {s:S} {σ:L2.St} {e':List (Option PV)} {Q:L2.St→Hp→Prop},(∀ i∈t.sl,i∈vs)→Rel B N W s σ H→Rep B W x v→zR t x s.e=some e' →
  (∀ σ',Rel B N W ⟨e',s.h⟩ σ' H→wipe σ' vs=wipe σ vs→Q σ' H)→gT X.K t v σ H Q
 | .n i,x,v,s,σ,e',Q,hv,r,rx,hb,k=>by
  rw [zR] at hb
  split at hb
  ·cases hb
  ·cases hb
   exact k _ (jED r rx) (jSR (hv i (by simp [Tg.sl])))
 | .t ts,x,v,s,σ,e',Q,hv,r,rx,hb,k=>by
  cases x with
  | tup xs =>
   rw [zR] at hb
   obtain ⟨a,us,rfl,h1,ru⟩:=jGY hK r.hr rx
   exact ⟨a,us,rfl,h1,ru.len_of (jTO hb),gTs_ok hK (by rw [Tg.sl] at hv; exact hv) r ru hb k⟩
  | _=>simp [zR] at hb
theorem gTs_ok (hK:X.K=B.K):∀ {ts:List Tg} {xs:List PV} {us:List V} {s:S} {σ:L2.St} {e':List (Option PV)} {Q:L2.St→Hp→Prop},(∀ i∈Tg.sls ts,i∈vs)→Rel B N W s σ H→Reps B W xs us→bindTs ts xs s.e=some e' →
  (∀ σ',Rel B N W ⟨e',s.h⟩ σ' H→wipe σ' vs=wipe σ vs→Q σ' H)→gTs X.K ts us σ H Q
 | [],[],_,s,σ,e',Q,_,r,.nil,hb,k=>by
  rw [bindTs] at hb
  cases hb
  exact ⟨rfl,k σ r rfl⟩
 | [],_ :: _,_,_,_,_,_,_,_,_,hb,_=>by simp [bindTs] at hb
 | _ :: _,[],_,_,_,_,_,_,_,_,hb,_=>by simp [bindTs] at hb
 | t :: ts,x :: xs,_,s,σ,e',Q,hv,r,.cons rx rt,hb,k=>by
  rw [bindTs] at hb
  cases q:zR t x s.e with
  | none=>rw [q] at hb; cases hb
  | some e1 =>
   rw [q] at hb
   refine ⟨_,_,rfl,yEA hK (fun i hi=>hv i (by rw [Tg.sls]; exact List.mem_append_left _ hi)) r rx q fun σ1 r1 w1=>?_⟩
   exact gTs_ok hK (s:=⟨e1,s.h⟩) (fun i hi=>hv i (by rw [Tg.sls]; exact List.mem_append_right _ hi)) r1 rt hb fun σ2 r2 w2=>k σ2 r2 (w2.trans w1)
end
end
end Lp
set_option maxHeartbeats 4000000
namespace Lp
open PySem PySem.Spec PyProof.Rows L2
structure Sr where
 xs:List PV
 w:List (Nat × List PV)
 o:Bool
def wR (h:AH) (r:Sr):Prop:=∀ p∈r.w,h[p.1]?=some (some (.lst p.2))
instance {h:AH} {r:Sr}:Decidable (wR h r):=inferInstanceAs (Decidable (∀ p∈r.w,h[p.1]?=some (some (.lst p.2))))
structure Walks (B:Bs) (J:It) (r:Sr) (W:Wd) (s:S) (H:Hp):Prop where
 go:∀ (W':Wd) (s':S) (H':Hp),HRel B W' s'.h H'→W.Le W'→wR s'.h r→(r.o=true→Step W s.h H W' s'.h H')→∀ (i:Nat) (x:PV),r.xs[i]?=some x→J.go i H'∧∀ v H'',J.yld i H' v H''→∃ W'',Grow W' H' W'' H''∧Rep B W'' x v
 stop:∀ (W':Wd) (s':S) (H':Hp),HRel B W' s'.h H'→W.Le W'→wR s'.h r→(r.o=true→Step W s.h H W' s'.h H')→∀ i:Nat,r.xs.length≤i→J.stop i H'
def tI (B:Bs) (N:Ent) (WX:L2.WX) (m:S→R S Sr):TI:=fun σ H R=>∃ W s,Rel B N W s σ H∧Post B N WX W s H σ (m s) fun r W' s' H'=>wR s'.h r→r.xs.length≤sizeLine→∀ J,Walks B J r W' s' H'→R J H'
abbrev SimI (X:Cx) (B:Bs) (N:Ent) (WX:L2.WX) (tg:Expr) (e:Expr) (m:S→R S Sr):Prop:=PI X tg e (tI B N WX m)
theorem yJL {X:Cx} {tg e:Expr} {t t':TI} (h:PI X tg e t) (w:∀ σ H Q,t' σ H Q→t σ H Q):PI X tg e t':=⟨fun pins s σ H Q I q=>h.run pins s σ H Q I (w _ _ _ q)⟩
def srcOf (h:AH):PV→Option Sr
 | .str x=>some ⟨x.cps.toList.map fun c=>.str ⟨#[c]⟩,[],false⟩
 | .tup xs=>some ⟨xs,[],false⟩
 | .lst xs=>some ⟨xs,[],false⟩
 | .own xs=>some ⟨xs,[],true⟩
 | .cel n=>match h[n]? with
  | some (some (.lst xs))=>some ⟨xs,[(n,xs)],false⟩
  | _=>none
 | _=>none
def jDX (m:ME):S→R S Sr:=fun s=>(m s).bind fun v s1=>match srcOf s1.h v with
 | some r=>.ok r s1
 | none=>.bad
def jQK (m:MA):S→R S Sr:=fun s=>(m s).bind fun v s1=>match v with
 | [.int j]=>if j.natAbs≤16777216 then .ok ⟨(List.range j.toNat).map fun (k:Nat)=>.int k,[],false⟩ s1 else .bad
 | _=>.bad
def jIN (xs ys:List PV):List PV:=List.zipWith (fun x y=>.tup [x,y]) xs ys
def lsrc (h:AH):PV→Option Sr
 | .tup _=>none
 | .str _=>none
 | x=>srcOf h x
def yDV:PV→Option (List PV)
 | .tup xs=>some xs
 | _=>none
def yHT (m:MA):S→R S Sr:=fun s=>(m s).bind fun v s1=>match v with
 | [x,y]=>match yDV x,yDV y with
  | some xs,some ys=>.ok ⟨jIN xs ys,[],false⟩ s1
  | _,_=>match lsrc s1.h x,lsrc s1.h y with
   | some a,some b=>.ok ⟨jIN a.xs b.xs,a.w++b.w,a.o||b.o⟩ s1
   | _,_=>.bad
 | _=>.bad
theorem yFA {h:AH} {x:PV} {r:Sr} (e:lsrc h x=some r):srcOf h x=some r∧(∀ xs,x≠.tup xs)∧∀ y,x≠.str y:=by
 cases x with
 | tup xs=>cases e
 | str x=>cases e
 | _=>exact ⟨e,(fun _ z=>nomatch z),(fun _ z=>nomatch z)⟩
theorem jZL {x:PV} {xs:List PV} (e:yDV x=some xs):x=.tup xs:=by
 cases x with
 | tup ys=>cases e; rfl
 | _=>cases e
section
variable {X:Cx} {B:Bs} {N:Ent} {WX:L2.WX} {W W':Wd} {s s':S} {σ:L2.St} {H H':Hp} {tg e:Expr} {m:ME} {ma:MA}
theorem jEK {h:AH} {v:PV} {r:Sr} (e:srcOf h v=some r):wR h r:=by
 intro p hp
 cases v with
 | cel n =>
  unfold srcOf at e
  dsimp only at e
  split at e
  ·rename_i xs q
   cases e
   simp only [List.mem_singleton] at hp
   rw [hp]; exact q
  ·cases e
 | str x=>cases e; cases hp
 | tup x=>cases e; cases hp
 | lst x=>cases e; cases hp
 | own x=>cases e; cases hp
 | _=>cases e
theorem yIM {x:PV} {x':V} {r:Sr} {Wq:Wd} {hq:AH} {Hq:Hp} (hr:HRel B Wq hq Hq) (rx:RepT B Wq Hq x x') (e:srcOf hq x=some r) (nt:∀ xs,x≠.tup xs) (ns:∀ y,x≠.str y):r.xs.length≤sizeLine:=by
 refine jXK hr rx (xs:=r.xs) ?_
 cases x with
 | tup xs=>exact absurd rfl (nt xs)
 | str y=>exact absurd rfl (ns y)
 | lst xs=>cases e; rfl
 | own xs=>cases e; rfl
 | cel n =>
  unfold srcOf at e
  unfold asL
  dsimp only at e ⊢
  split at e
  ·cases e; rename_i q; first | rw [q] | rfl
  ·cases e
 | _=>cases e
theorem yUI {v:PV} {v':V} {r:Sr} (rx:RepT B W H v v') (e:srcOf s.h v=some r) (nt:∀ xs,v≠.tup xs) (ns:∀ x,v≠.str x) (hr0:HRel B W s.h H) :
  ∃ a,v'=.ref a∧∀ (W':Wd) (s':S) (H':Hp),HRel B W' s'.h H'→W.Le W'→wR s'.h r→(r.o=true→Step W s.h H W' s'.h H')→∃ vs,SqL X.K H' a vs∧Reps B W' r.xs vs:=by
 cases v with
 | tup xs=>exact absurd rfl (nt xs)
 | str x=>exact absurd rfl (ns x)
 | lst xs =>
  cases e
  cases (show Rep B W (.lst xs) v' from rx) with
  | lst h r=>exact ⟨_,rfl,fun W' s' H' hr le _ _=>⟨_,.inl (.inl (hr.agree _ _ (le.F _ _ h))),r.mono le⟩⟩
 | own xs =>
  cases e
  obtain ⟨a,vs,rfl,h,r,nm⟩:=rx
  exact ⟨a,rfl,fun W' s' H' hr le _ st=>⟨vs,.inl (.inl ((st rfl).keep _ _ h jCB fun z=>nm z.mem)),r.mono le⟩⟩
 | cel n =>
  cases (show Rep B W (.cel n) v' from rx) with
  | @cel _ a h =>
   unfold srcOf at e
   dsimp only at e
   split at e
   ·rename_i xs q
    cases e
    refine ⟨a,rfl,fun W' s' H' hr le st _=>?_⟩
    obtain ⟨_,vs,h2,r2⟩:=hr.cell n _ a (st (n,xs) (by simp)) (le.at h)
    exact ⟨vs,.inl (.inl h2),r2⟩
   ·cases e
 | _=>cases e
theorem jVW {xs:List PV} {vs:List V} (r:Reps B W xs vs) {i:Nat} (h:xs.length≤i):vs.length≤i:=by rw [← r.length]; exact h
theorem uI (hK:X.K=B.K) (he:SimE X B N WX e m):SimI X B N WX tg e (jDX m):=by
 refine ⟨fun pins sp σ H RR I h=>?_⟩
 obtain ⟨W,s,r,h⟩:=h
 have q:=h.bind r.slen
 cases em:m s with
 | bad=>rw [em] at q; exact q.elim
 | exc x s' =>
  refine (pi_list he).run pins sp σ H RR I ⟨W,s,r,?_⟩
  rw [em] at q ⊢
  exact q
 | ok v s1 =>
  rw [em] at q
  have done:∀ (P:V→Hp→Prop),(∀ W1 H1,Rel B N W1 s1 σ H1→StepE W s H W1 s1 H1→Post B N WX W1 s1 H1 σ (match srcOf s1.h v with | some r=>R.ok r s1 | none=>.bad) (fun r W' s' H'=>wR s'.h r→r.xs.length≤sizeLine→∀ J,Walks B J r W' s' H'→RR J H')→∀ v',RepT B W1 H1 v v'→P v' H1)→tE B N WX m σ H P:=fun P k=>by
   refine ⟨W,s,r,?_⟩
   rw [em]
   exact fun W1 H1 r1 st v' rv=>k W1 H1 r1 st (q W1 H1 r1 st) v' rv
  have lst:(∀ xs,v≠.tup xs)→(∀ x,v≠.str x)→iList X.K (tE B N WX m) σ H RR:=fun nt ns=>done _ fun W1 H1 r1 st q v' rv=>by
   split at q
   ·rename_i rr er
    obtain ⟨a,rfl,hl⟩:=yUI (X:=X) rv er nt ns r1.hr
    obtain ⟨vs,h1,hrv⟩:=hl W1 s1 H1 r1.hr (.refl _) (jEK er) fun _=>Step.refl r1.hr
    have k:=q.ok r1 (jEK er) (yIM r1.hr rv er nt ns)
    refine ⟨a,rfl,⟨vs,h1⟩,k _ ⟨fun W' s' H' hr le st2 so i x ex=>?_,fun W' s' H' hr le st2 so i hi=>?_⟩⟩
    ·obtain ⟨vs,h1,h2⟩:=hl W' s' H' hr le st2 so
     obtain ⟨u,e1,ru⟩:=h2.get ex
     refine ⟨⟨vs,u,h1,e1⟩,fun w H'' y=>?_⟩
     obtain ⟨rfl,y⟩:=y
     have:=y vs h1
     rw [e1] at this
     cases this
     exact ⟨W',.refl _ _,ru⟩
    ·obtain ⟨vs,h1,h2⟩:=hl W' s' H' hr le st2 so
     exact ⟨vs,h1,jVW h2 hi⟩
   ·exact q.elim
  cases v with
  | tup xs =>
   refine (pi_tup he).run pins sp σ H RR I (done _ fun W1 H1 r1 st q v' rv=>?_)
   have k0:=(show Post B N WX W1 s1 H1 σ (R.ok (Sr.mk xs [] false) s1) (fun r W' s' H'=>wR s'.h r→r.xs.length≤sizeLine→∀ J,Walks B J r W' s' H'→RR J H') from q).ok r1 (fun _ hp=>nomatch hp)
   cases (show Rep B W1 (.tup xs) v' from rv) with
   | @tup _ a vs h1 h2 =>
    have hl:∀ W' s' H',HRel B W' s' H'→W1.Le W'→SqT X.K H' a vs:=fun W' s' H' hr le=>by
     rcases h1 with h1 | ⟨o,its,n,k1,k2,k3,k4,k5⟩
     ·exact .inl (.inl (hr.agree _ _ (le.F _ _ h1)))
     ·exact .inr ⟨o,its,n,hK ▸ k1,k2,k3,k4,k5⟩
    have k:=k0 (by show xs.length≤sizeLine; exact jWV r1.hr (.tup h1 h2))
    refine ⟨a,rfl,⟨vs,hl W1 s1.h H1 r1.hr (.refl _)⟩,k _ ⟨fun W' s' H' hr le st2 so i x ex=>?_,fun W' s' H' hr le st2 so i hi=>?_⟩⟩
    ·obtain ⟨u,e1,ru⟩:=(h2.mono le).get ex
     refine ⟨⟨vs,u,hl W' s'.h H' hr le,e1⟩,fun w H'' y=>?_⟩
     obtain ⟨rfl,y⟩:=y
     have:=y vs (hl W' s'.h _ hr le)
     rw [e1] at this
     cases this
     exact ⟨W',.refl _ _,ru⟩
    ·exact ⟨vs,hl W' s'.h H' hr le,jVW h2 hi⟩
  | str x =>
   refine (pi_str he).run pins sp σ H RR I (done _ fun W1 H1 r1 st q v' rv=>?_)
   have k0:=(show Post B N WX W1 s1 H1 σ (R.ok (Sr.mk (x.cps.toList.map fun c=>.str ⟨#[c]⟩) [] false) s1) (fun r W' s' H'=>wR s'.h r→r.xs.length≤sizeLine→∀ J,Walks B J r W' s' H'→RR J H') from q).ok r1 (fun _ hp=>nomatch hp)
   obtain ⟨e1,kx⟩:=jEO rv
   have k:=k0 (by show (x.cps.toList.map fun c=>PV.str ⟨#[c]⟩).length≤sizeLine; rw [List.length_map,Array.length_toList]; exact kx.2)
   refine ⟨x,e1,k _ ⟨fun W' s' H' hr le st2 so i y ey=>?_,fun W' s' H' hr le st2 so i hi=>?_⟩⟩
   ·have ey:(x.cps.toList.map fun c=>PV.str ⟨#[c]⟩)[i]?=some y:=ey
    rw [List.getElem?_map] at ey
    cases ec:x.cps.toList[i]? with
    | none=>rw [ec] at ey; cases ey
    | some c =>
     rw [ec] at ey
     cases ey
     have hi:i < x.cps.size:=by simpa using (List.getElem?_eq_some_iff.mp ec).1
     refine ⟨hi,fun w H'' y=>?_⟩
     obtain ⟨rfl,d,e2,rfl⟩:=y
     have ed:d=c:=by
      have e3:x.cps.toList[i]?=x.cps[i]?:=by simp
      rw [e3,e2] at ec
      exact Option.some.inj ec
     subst ed
     refine ⟨W',.refl _ _,.str _ (jXQ kx ?_ fun z hz=>?_)⟩
     ·show 1≤x.cps.size
      omega
     ·have:z=d:=by simpa using hz
      rw [this]; exact List.mem_of_getElem? ec
   ·have hi:(x.cps.toList.map fun c=>PV.str ⟨#[c]⟩).length≤i:=hi
    rw [List.length_map,Array.length_toList] at hi
    exact hi
  | lst xs=>exact (pi_list he).run pins sp σ H RR I (lst (by intro _ z; cases z) (by intro _ z; cases z))
  | scr xs=>exact (pi_list he).run pins sp σ H RR I (lst (by intro _ z; cases z) (by intro _ z; cases z))
  | own xs=>exact (pi_list he).run pins sp σ H RR I (lst (by intro _ z; cases z) (by intro _ z; cases z))
  | cel xs=>exact (pi_list he).run pins sp σ H RR I (lst (by intro _ z; cases z) (by intro _ z; cases z))
  | _=>exact (pi_list he).run pins sp σ H RR I (lst (by intro _ z; cases z) (by intro _ z; cases z))
theorem jIP {a:Expr} {p pos:Pos} (hg:Gl X "range") (hm:X.mg "range" = none) (ha:SimA X B N WX [a] ma) (hs:starEach [a] X.env=[(false,eval a X.env)]):SimI X B N WX tg (.Call (.Name "range" p) [a] [] pos) (jQK ma) :=
 yJL (pi_range1 hg hm ha hs) fun σ H Q ⟨W,s,r,h⟩=>⟨W,s,r,(h.bind r.slen).mono fun v W1 s1 H1 r1 _ q v' rv=>by
  split at q
  ·rename_i j
   split at q
   ·rename_i hj
    obtain ⟨u,rfl,ru⟩:=repts1 rv
    have k:=q.ok r1 (fun _ hp=>nomatch hp) (by show ((List.range j.toNat).map fun (k:Nat)=>PV.int k).length≤sizeLine; rw [List.length_map,List.length_range,sizeLine_eq]; omega)
    refine ⟨j,by rw [jAT ru],by omega,by omega,k _ ⟨fun W' s' H' hr le st2 so i x ex=>?_,fun W' s' H' hr le st2 so i hi=>?_⟩⟩
    ·have ex:((List.range j.toNat).map fun (k:Nat)=>PV.int k)[i]?=some x:=ex
     rw [List.getElem?_map] at ex
     cases ei:(List.range j.toNat)[i]? with
     | none=>rw [ei] at ex; cases ex
     | some k =>
      rw [ei] at ex
      cases ex
      obtain ⟨h1,h2⟩:=List.getElem?_eq_some_iff.mp ei
      simp only [List.getElem_range] at h2
      simp only [List.length_range] at h1
      refine ⟨h1,fun w H'' y=>?_⟩
      obtain ⟨rfl,rfl⟩:=y
      exact ⟨W',.refl _ _,by rw [← h2]; simpa using Rep.int (i:Int)⟩
    ·have hi:((List.range j.toNat).map fun (k:Nat)=>PV.int k).length≤i:=hi
     rw [List.length_map,List.length_range] at hi
     exact hi
   ·exact q.elim
  ·exact q.elim⟩
theorem jWG {T:Addr} {x y:PV} {u v:V} {Wq:Wd} {Hq:Hp} {hq:AH} (hr:HRel B Wq hq Hq) (hT:Hq T=none) (rx:Rep B Wq x u) (ry:Rep B Wq y v):∃ W'',Grow Wq Hq W'' (upd Hq T (.tup [u,v]))∧Rep B W'' (.tup [x,y]) (.ref T) :=
 ⟨_,.new hT (by show 2≤sizeLine; decide),jDA (hr.fnone hT) (.cons rx (.cons ry .nil))⟩
theorem yEJ {h:AH} {a b:Sr} {zs:List PV} {o:Bool} (st:wR h ⟨zs,a.w++b.w,o⟩):wR h a:=fun p hp=>st p (List.mem_append_left _ hp)
theorem yEI {h:AH} {a b:Sr} {zs:List PV} {o:Bool} (st:wR h ⟨zs,a.w++b.w,o⟩):wR h b:=fun p hp=>st p (List.mem_append_right _ hp)
theorem yIH {xs ys:List PV} {vs ws:List V} {Wq:Wd} {Hq:Hp} {hq:AH} {i:Nat} {z:PV} (hr:HRel B Wq hq Hq) (h2:Reps B Wq xs vs) (h4:Reps B Wq ys ws) (ez:(jIN xs ys)[i]?=some z) :
  ∃ x y u v,xs[i]?=some x∧ys[i]?=some y∧vs[i]?=some u∧ws[i]?=some v∧Rep B Wq x u∧Rep B Wq y v∧z=.tup [x,y]:=by
 unfold jIN at ez
 rw [List.getElem?_zipWith] at ez
 cases ex:xs[i]? with
 | none=>rw [ex] at ez; cases ez
 | some x =>
  cases ey:ys[i]? with
  | none=>rw [ex,ey] at ez; cases ez
  | some y =>
   rw [ex,ey] at ez
   cases ez
   obtain ⟨u,e1,ru⟩:=h2.get ex
   obtain ⟨v,e2,rv⟩:=h4.get ey
   exact ⟨x,y,u,v,rfl,rfl,e1,e2,ru,rv,rfl⟩
theorem yQQ {a b:Expr} {p pos tpos:Pos} {elts:List Expr} {kk:Nat} (hK:X.K=B.K) (hg:Gl X "zip") (hm:X.mg "zip" = none) (ha:SimA X B N WX [a,b] ma) (hs:starEach [a,b] X.env=[(false,eval a X.env),(false,eval b X.env)]) (hs2:starEach [b] X.env=[(false,eval b X.env)]) (hpl:(backTo pos (starEach [b] X.env)).any (·.1)=false):SimI X B N WX (.Tuple elts kk tpos) (.Call (.Name "zip" p) [a,b] [] pos) (yHT ma) :=
 yJL (RZ.pi_zipA hg hm ha (by rw [hs,hs2]) hpl) fun σ H Q ⟨W,s,r,h⟩=>⟨W,s,r,(h.bind r.slen).mono fun v W1 s1 H1 r1 _ q v' rv=>by
  split at q
  ·rename_i x y
   obtain ⟨u,u2,rfl,ru,ru2⟩:=repts2 rv
   split at q
   ·rename_i xs ys ex ey
    have ex:=jZL ex
    have ey:=jZL ey
    subst ex ey
    have k0:=q.ok r1 (fun _ hp=>nomatch hp)
    cases (show Rep B W1 (.tup xs) u from ru) with
    | @tup _ a vs h1 h2 =>
     cases (show Rep B W1 (.tup ys) u2 from ru2) with
     | @tup _ b ws h3 h4 =>
      have hl:∀ {a:Addr} {vs:List V},TupAt B W1 a vs→∀ W' s' H',HRel B W' s' H'→W1.Le W'→SqT X.K H' a vs:=fun h1 W' s' H' hr le=>by
       rcases h1 with h1 | ⟨o,its,n,k1,k2,k3,k4,k5⟩
       ·exact .inl (.inl (hr.agree _ _ (le.F _ _ h1)))
       ·exact .inr ⟨o,its,n,hK ▸ k1,k2,k3,k4,k5⟩
      have k:=k0 (by
       have:=jWV r1.hr (.tup h1 h2)
       show (jIN xs ys).length≤sizeLine
       unfold jIN
       rw [List.length_zipWith]
       omega)
      refine ⟨a,b,vs,ws,rfl,.inr ⟨hl h1 _ _ _ r1.hr (.refl _),hl h3 _ _ _ r1.hr (.refl _),k _ ⟨fun W' s' H' hr le st2 so i z ez=>?_,fun W' s' H' hr le st2 so i hi=>?_⟩⟩⟩
      ·obtain ⟨x,y,u,v,e1,e2,e3,e4,rx,ry,rfl⟩:=yIH hr (h2.mono le) (h4.mono le) ez
       refine ⟨⟨vs,ws,u,v,hl h1 _ _ _ hr le,hl h3 _ _ _ hr le,e3,e4⟩,fun w H'' yl=>?_⟩
       obtain ⟨T,w1,w2,rfl,hT,rfl,y3,y4⟩:=yl
       have t1:=y3 vs (hl h1 _ _ _ hr le)
       have t2:=y4 ws (hl h3 _ _ _ hr le)
       rw [e3] at t1
       rw [e4] at t2
       cases t1
       cases t2
       exact jWG hr hT rx ry
      ·refine ⟨vs,ws,hl h1 _ _ _ hr le,hl h3 _ _ _ hr le,?_⟩
       have hi:(jIN xs ys).length≤i:=hi
       unfold jIN at hi
       rw [List.length_zipWith,h2.length,h4.length] at hi
       omega
   ·split at q
    ·rename_i ra rb ea eb
     obtain ⟨ea,nt,ns⟩:=yFA ea
     obtain ⟨eb,nt2,ns2⟩:=yFA eb
     obtain ⟨a,rfl,hl⟩:=yUI (X:=X) ru ea nt ns r1.hr
     obtain ⟨b,rfl,hl2⟩:=yUI (X:=X) ru2 eb nt2 ns2 r1.hr
     have oa:∀ {Z:Prop},((ra.o||rb.o)=true→Z)→ra.o=true→Z:=fun f e=>f (by rw [e]; rfl)
     have ob:∀ {Z:Prop},((ra.o||rb.o)=true→Z)→rb.o=true→Z:=fun f e=>f (by rw [e,Bool.or_true])
     obtain ⟨vs0,h10,hr10⟩:=hl W1 s1 H1 r1.hr (.refl _) (jEK ea) fun _=>Step.refl r1.hr
     obtain ⟨ws0,h30,_⟩:=hl2 W1 s1 H1 r1.hr (.refl _) (jEK eb) fun _=>Step.refl r1.hr
     have k:=q.ok r1 (fun p hp=>(List.mem_append.mp hp).elim (jEK ea p) (jEK eb p)) (by
      have:=yIM r1.hr ru ea nt ns
      show (jIN ra.xs rb.xs).length≤sizeLine
      unfold jIN
      rw [List.length_zipWith]
      omega)
     refine ⟨a,b,vs0,ws0,rfl,.inl ⟨h10,h30,k _ ⟨fun W' s' H' hr le st2 so i z ez=>?_,fun W' s' H' hr le st2 so i hi=>?_⟩⟩⟩
     ·obtain ⟨vs,h1,h2⟩:=hl W' s' H' hr le (yEJ st2) (oa so)
      obtain ⟨ws,h3,h4⟩:=hl2 W' s' H' hr le (yEI st2) (ob so)
      obtain ⟨x,y,u,v,e1,e2,e3,e4,rx,ry,rfl⟩:=yIH hr h2 h4 ez
      refine ⟨⟨vs,ws,u,v,h1,h3,e3,e4⟩,fun w H'' yl=>?_⟩
      obtain ⟨T,w1,w2,rfl,hT,rfl,y3,y4⟩:=yl
      have t1:=y3 vs h1
      have t2:=y4 ws h3
      rw [e3] at t1
      rw [e4] at t2
      cases t1
      cases t2
      exact jWG hr hT rx ry
     ·obtain ⟨vs,h1,h2⟩:=hl W' s' H' hr le (yEJ st2) (oa so)
      obtain ⟨ws,h3,h4⟩:=hl2 W' s' H' hr le (yEI st2) (ob so)
      refine ⟨vs,ws,h1,h3,?_⟩
      have hi:(jIN ra.xs rb.xs).length≤i:=hi
      unfold jIN at hi
      rw [List.length_zipWith,h2.length,h4.length] at hi
      omega
    ·exact q.elim
  ·exact q.elim⟩
end
def jAO:S→R S Bool:=fun s=>.ok true s
section
variable {X:Cx} {B:Bs} {N:Ent} {WX:L2.WX}
def SimTs (X:Cx) (B:Bs) (N:Ent) (WX:L2.WX) (ifs:List Expr) (m:S→R S Bool):Prop:=PTs X ifs (tT B N WX m)
theorem yTJ {ifs:List Expr} {t t':TT} (h:PTs X ifs t) (w:∀ σ H Q,t' σ H Q→t σ H Q):PTs X ifs t':=⟨fun pins s σ H Q I q=>h.run pins s σ H Q I (w _ _ _ q)⟩
theorem wU:SimTs X B N WX [] jAO:=yTJ pts_nil fun σ H Q ⟨W,s,r,h⟩=>h.ok r
theorem jEI {c:Expr} {m:S→R S Bool} (h:SimT X B N WX c m):SimTs X B N WX [c] m:=pts_one h
end
def R.nx {τ α:Type} (r:R τ α):R τ α:=match r with
 | .ok a s=>.ok a s
 | _=>.bad
@[simp] theorem R.nx_ok {τ α:Type} (a:α) (s:τ):(R.ok a s).nx=.ok a s:=rfl
@[simp] theorem R.nx_bad {τ α:Type}:(R.bad:R τ α).nx=.bad:=rfl
theorem R.post_nx {τ α:Type} {r:R τ α} {P:α→τ→Prop} {E E':PV→τ→Prop} (h:r.nx.post P E):r.post P E':=by
 cases r with
 | ok a s=>exact h
 | exc x s=>exact h.elim
 | bad=>exact h
def jRZ (t:Tg) (tt:S→R S Bool) (te:ME) (vs:List Nat) (x:PV) (acc:List PV):S→R S (List PV):=fun s=>match zR t x (jP s.e vs) with
 | some e1=>(tt ⟨e1,s.h⟩).nx.bind fun b s2=>if b=true then (te s2).nx.bind fun y s3=>if isOwn y=true then .bad else .ok (acc++[y]) ⟨jP s3.e vs,s3.h⟩ else .ok acc ⟨jP s2.e vs,s2.h⟩
 | none=>.bad
noncomputable def jGV (r:Sr) (t:Tg) (tt:S→R S Bool) (te:ME) (vs:List Nat):List PV→List PV→S→R S (List PV)
 | [],acc,s=>.ok acc s
 | x :: xs,acc,s=>(jRZ t tt te vs x acc s).bind fun acc' s'=>if wR s'.h r then jGV r t tt te vs xs acc' s' else .bad
noncomputable def zQ (src:S→R S Sr) (t:Tg) (tt:S→R S Bool) (te:ME) (vs:List Nat):S→R S (List PV):=fun s=>(src s).bind fun r s1=>jGV r t tt te vs r.xs [] ⟨jP s1.e vs,s1.h⟩
def R.Nx {τ α:Type}:R τ α→Prop
 | .exc _ _=>False
 | _=>True
theorem R.Nx.bind {τ α β:Type} {r:R τ α} {f:α→τ→R τ β} (h:r.Nx) (k:∀ a s,(f a s).Nx):(r.bind f).Nx:=by
 cases r with
 | ok a s=>exact k a s
 | exc x s=>exact h
 | bad=>exact trivial
theorem R.nx_Nx {τ α:Type} (r:R τ α):r.nx.Nx:=by cases r <;> exact trivial
theorem R.post_of_nx {τ α:Type} {r:R τ α} {P:α→τ→Prop} {E E':PV→τ→Prop} (n:r.Nx) (h:r.post P E):r.post P E':=by
 cases r with
 | ok a s=>exact h
 | exc x s=>exact n.elim
 | bad=>exact h
theorem yJV (t:Tg) (tt:S→R S Bool) (te:ME) (vs:List Nat) (x:PV) (acc:List PV) (s:S):(jRZ t tt te vs x acc s).Nx:=by
 unfold jRZ
 split
 ·refine (R.nx_Nx _).bind fun b s2=>?_
  split
  ·refine (R.nx_Nx _).bind fun y s3=>?_
   split <;> exact trivial
  ·exact trivial
 ·exact trivial
theorem yAA (r:Sr) (t:Tg) (tt:S→R S Bool) (te:ME) (vs:List Nat):∀ (xs acc:List PV) (s:S),(jGV r t tt te vs xs acc s).Nx
 | [],_,_=>trivial
 | x :: xs,acc,s=>by
  unfold jGV
  refine (yJV t tt te vs x acc s).bind fun acc' s'=>?_
  split
  ·exact yAA r t tt te vs xs acc' s'
  ·exact trivial
section
variable {X:Cx} {B:Bs} {N:Ent} {WX:L2.WX} {W W':Wd} {s s':S} {σ:L2.St} {H H':Hp}
def tN (B:Bs) (N:Ent) (WX:L2.WX) (m:S→R S (List PV)):TE:=fun σ H Q=>∃ W s,Rel B N W s σ H∧Post B N WX W s H σ (m s) fun xs W' s' H'=>∀ p vs,H p=none→Loose N W' s' σ p→H' p=some (.lst vs)→Reps B W' xs vs→Q (.ref p) H'
abbrev SimN (X:Cx) (B:Bs) (N:Ent) (WX:L2.WX) (e:Expr) (m:S→R S (List PV)):Prop:=PE X e (tN B N WX m)
def shN (m:S→R S (List PV)):ME:=fun s=>(m s).bind fun xs s1=>.ok (.lst xs) s1
theorem yTO {m:S→R S (List PV)} {Q:VK} (h:tE B N WX (shN m) σ H Q):tN B N WX m σ H Q:=by
 obtain ⟨W,s,r,h⟩:=h
 refine ⟨W,s,r,R.post_mono (R.post_bind h) (fun xs s1 q W1 H1 r1 st p vs hp l hH rv=>?_) fun x s1 q=>q⟩
 exact q _ H1 (jZT r1 l hH jCB) (st.keepNew hp l.F) _ (Rep.lst upd_same (rv.mono (jCX l.F))).hand
theorem SimN.sh {e:Expr} {m:S→R S (List PV)} (h:SimN X B N WX e m):SimE X B N WX e (shN m):=h.imp fun _ _ _ h=>yTO h
theorem yLX {σ:L2.St}:∀ vs:List Nat,wipe (wipe σ vs) vs=wipe σ vs:=fun vs=>by
 have key:∀ (us:List Nat),(∀ u∈us,u∈vs)→wipe (wipe σ us) vs=wipe σ vs:=by
  intro us
  induction us with
  | nil=>intro _; rfl
  | cons u us ih =>
   intro h
   show wipe ((wipe σ us).set u none) vs=wipe σ vs
   rw [jSR (h u (by simp))]
   exact ih fun w hw=>h w (List.mem_cons_of_mem _ hw)
 exact key vs fun _ h=>h
mutual
theorem jPX:∀ {t:Tg} {x:PV} {e e':List (Option PV)},zR t x e=some e'→∀ (i:Nat) (y:PV),e'[i]?=some (some y)→isOwn y=true→e[i]?=some (some y)
 | .n j,x,e,e',h,i,y,e1,o=>by
  rw [zR] at h
  split at h
  ·cases h
  ·rename_i hx
   cases h
   by_cases hj:j=i
   ·subst hj
    by_cases hl:j < e.length
    ·rw [List.getElem?_set_self hl] at e1
     cases e1
     exact absurd o hx
    ·rw [List.getElem?_eq_none (by rw [List.length_set]; omega)] at e1
     cases e1
   ·rw [List.getElem?_set_ne hj] at e1
    exact e1
 | .t ts,x,e,e',h,i,y,e1,o=>by
  cases x with
  | tup xs=>rw [zR] at h; exact bindTs_own h i y e1 o
  | _=>simp [zR] at h
theorem bindTs_own:∀ {ts:List Tg} {xs:List PV} {e e':List (Option PV)},bindTs ts xs e=some e'→∀ (i:Nat) (y:PV),e'[i]?=some (some y)→isOwn y=true→e[i]?=some (some y)
 | [],[],e,e',h,i,y,e1,o=>by rw [bindTs] at h; cases h; exact e1
 | [],_ :: _,_,_,h,_,_,_,_=>by simp [bindTs] at h
 | _ :: _,[],_,_,h,_,_,_,_=>by simp [bindTs] at h
 | t :: ts,x :: xs,e,e',h,i,y,e1,o=>by
  rw [bindTs] at h
  cases q:zR t x e with
  | none=>rw [q] at h; cases h
  | some e2 =>
   rw [q] at h
   exact jPX q i y (bindTs_own h i y e1 o) o
end
theorem jTF {vs:List Nat} (st:StepE W s H W' s' H'):StepE W s H W' ⟨jP s'.e vs,s'.h⟩ H':=⟨st.st,fun i x e o=>st.eo i x (jBT e).1 o⟩
theorem yCT {t:Tg} {x:PV} {vs:List Nat} {e1:List (Option PV)} (st:StepE W s H W' s' H') (hb:zR t x (jP s'.e vs)=some e1):StepE W s H W' ⟨e1,s'.h⟩ H':=⟨st.st,fun i x e o=>st.eo i x (jBT (jPX hb i x e o)).1 o⟩
theorem yDG {t:Tg} {x:PV} {vs:List Nat} {e1:List (Option PV)} {p:Addr} {σ2:L2.St} (l:Loose N W s σ p) (hb:zR t x (jP s.e vs)=some e1) (hw:wipe σ2 vs=wipe σ vs):Loose N W ⟨e1,s.h⟩ σ2 p :=
 ⟨l.F,l.m,fun i x e o z=>by
  obtain ⟨e2,hi⟩:=jBT (jPX hb i x e o)
  have:σ2[i]?=σ[i]?:=by rw [← jFE (σ:=σ2) hi,hw,jFE hi]
  rw [this] at z
  exact l.o i x e2 o z,l.e⟩
theorem yDH {vs:List Nat} {p:Addr} {σ2:L2.St} (l:Loose N W s σ2 p) (hw:wipe σ2 vs=wipe σ vs):Loose N W ⟨jP s.e vs,s.h⟩ σ p :=
 ⟨l.F,l.m,fun i x e o z=>by
  obtain ⟨e2,hi⟩:=jBT e
  have:σ2[i]?=σ[i]?:=by rw [← jFE (σ:=σ2) hi,hw,jFE hi]
  rw [← this] at z
  exact l.o i x e2 o z,l.e⟩
abbrev WF:L2.WX:=fun _ _ _ _=>False
theorem yHG {r:Sr} {t:Tg} {tt:S→R S Bool} {te:ME} {vs:List Nat} {J:It} {W1:Wd} {s0 s1:S} {H1:Hp} {D:Addr} {Q:VK} {Pf:List PV→Wd→S→Hp→Prop} (hK:X.K=B.K) (hv:∀ i∈t.sl,i∈vs)
  (r1:Rel B N W1 s1 σ H1) (wk:Walks B J r W1 s0 H1) (e0:s0.h=s1.h) (st0:wR s1.h r) (hD:H1 D=none) (hline:r.xs.length≤sizeLine)
  (q:Post B N WF W1 s1 H1 σ (jGV r t tt te vs r.xs [] s1) Pf) (fin:∀ xs av W' s' H',Rel B N W' s' σ H'→StepE W1 s1 H1 W' s' H'→Pf xs W' s' H'→Loose N W' s' σ D→H' D=some (.lst av)→Reps B W' xs av→Q (.ref D) H') :
  ∃ Wm:Nat→Nat→Hp→Prop,(∃ m,Wm 0 m (upd H1 D (.lst [])))∧∀ i m H,Wm i m H →
   (J.stop i H∧Q (.ref D) H)∨(J.go i H∧∃ Nx:Hp→Prop,(∀ H',Nx H'→∃ m',m' < m∧Wm (i+1) m' H')∧∀ x H',J.yld i H x H'→gT X.K t x (wipe σ vs) H' fun σ2 H2=>wipe σ2 vs=wipe σ vs∧tT B N WF tt σ2 H2 fun b H3 =>
    if b=true then tE B N WF te σ2 H3 fun y H4=>∃ acc,H4 D=some (.lst acc)∧acc.length < sizeLine∧Nx (upd H4 D (.lst (acc++[y]))) else Nx H3):=by
 -- what holds ahead of turn i
 let Iv:Nat→Hp→Prop:=fun i H=>∃ W' s' acc av,Rel B N W' s' σ H∧StepE W1 s1 H1 W' s' H∧Loose N W' s' σ D∧H D=some (.lst av)∧Reps B W' acc av∧acc.length≤i∧i≤r.xs.length∧wR s'.h r ∧
  Post B N WF W1 s1 H1 σ (jGV r t tt te vs (r.xs.drop i) acc s') Pf
 refine ⟨fun i m H=>m=r.xs.length - i∧Iv i H,⟨r.xs.length,rfl,W1,s1,[],[],jHY r1 (r1.loose hD) (Nat.zero_le _) (.inl hD),(StepE.refl r1.hr).put hD (r1.loose hD).m,r1.loose hD,upd_same,.nil,Nat.le_refl _,Nat.zero_le _,st0,by simpa using q⟩,?_⟩
 rintro i m H ⟨rfl,W',s',acc,av,r',st',l',hDv,ra,hacc,hi,sl',q'⟩
 have own_st:r.o=true→Step W1 s0.h H1 W' s'.h H:=fun _=>by rw [e0]; exact st'.st
 by_cases hlt:i < r.xs.length
 ·refine .inr ?_
  have ex:=List.getElem?_eq_getElem hlt
  obtain ⟨g1,g2⟩:=wk.go W' s' H r'.hr st'.st.le sl' own_st i _ ex
  refine ⟨g1,fun H'=>Iv (i+1) H',fun H' hv'=>⟨r.xs.length - (i+1),by omega,rfl,hv'⟩,fun v H2 y=>?_⟩
  obtain ⟨W2,gr,rx⟩:=g2 v H2 y
  rw [List.drop_eq_getElem_cons hlt] at q'
  have q2:=R.post_bind (show ((jRZ t tt te vs r.xs[i] acc s').bind fun acc' s'=>if wR s'.h r then jGV r t tt te vs (r.xs.drop (i+1)) acc' s' else .bad).post _ _ from q')
  have r2:=gr.rel r'
  have st2:=st'.trans r1.slen (gr.stepE r'.hr)
  have l2:=l'.on r'.slen (gr.stepE r'.hr) (.lst hDv)
  have d2:=l'.held (gr.stepE r'.hr) hDv jCB
  unfold jRZ at q2
  cases eb:zR t r.xs[i] (jP s'.e vs) with
  | none=>rw [eb] at q2; exact q2.elim
  | some e1 =>
   rw [eb] at q2
   refine yEA hK (vs:=vs) (s:=⟨jP s'.e vs,s'.h⟩) hv (yKM r2) rx eb fun σ2 r3 w3=>?_
   have w3:wipe σ2 vs=wipe σ vs:=w3.trans (yLX vs)
   have st3:StepE W1 s1 H1 W2 ⟨e1,s'.h⟩ H2:=yCT st2 eb
   have l3:Loose N W2 ⟨e1,s'.h⟩ σ2 D:=yDG l2 eb w3
   refine ⟨w3,W2,⟨e1,s'.h⟩,r3,R.post_mono (R.post_nx (E':=fun _ _=>False) (R.post_bind q2)) (fun b s4 q4 W4 H4 r4 st4=>?_) fun x s4 q4=>q4.elim⟩
   have l4:=l3.on r3.slen st4 (.lst d2)
   have d4:=l3.held st4 d2 jCB
   have st14:=st3.trans r1.slen st4
   have go:∀ {acc':List PV} {av':List V} {W5:Wd} {s5:S} {H5:Hp},Rel B N W5 s5 σ2 H5→StepE W1 s1 H1 W5 s5 H5→Loose N W5 s5 σ2 D→H5 D=some (.lst av')→Reps B W5 acc' av'→acc'.length≤i+1 →
     (if wR s5.h r then jGV r t tt te vs (r.xs.drop (i+1)) acc' ⟨jP s5.e vs,s5.h⟩ else R.bad).post (fun v s'=>∀ W' H',Rel B N W' s' σ H'→StepE W1 s1 H1 W' s' H'→Pf v W' s' H') (fun x s'=>∀ W' H' cls d,Rel B N W' s' σ H'→StepE W1 s1 H1 W' s' H'→ExcR B N.H W' H' x cls d→Nw H1 d→WF cls d σ H') →
     Iv (i+1) H5:=fun {acc' av' W5 s5 H5} r5 st5 l5 d5 ra5 h5 q5=>by
    split at q5
    ·rename_i hst
     exact ⟨W5,⟨jP s5.e vs,s5.h⟩,acc',av',jZU r5 w3,jTF st5,yDH l5 w3,d5,ra5,h5,hlt,hst,q5⟩
    ·exact q5.elim
   cases b with
   | false =>
    refine iteF (go r4 st14 l4 d4 (ra.mono (gr.stepE r'.hr).st.le |>.mono st4.st.le) (by omega) ?_)
    exact q4
   | true =>
    refine iteT ⟨W4,s4,r4,R.post_mono (R.post_nx (E':=fun _ _=>False) (R.post_bind (show ((te s4).nx.bind fun y s3=>if isOwn y=true then R.bad else R.ok (acc++[y]) ⟨jP s3.e vs,s3.h⟩).post _ _ from q4))) (fun y s5 q5 W5 H5 r5 st5 y' ry=>?_) fun x s5 q5=>q5.elim⟩
    ·split at q5
     ·exact q5.elim
     ·rename_i oy
      have l5:=l4.on r4.slen st5 (.lst d4)
      have d5:=l4.held st5 d4 jCB
      have ra5:Reps B W5 acc av:=((ra.mono (gr.stepE r'.hr).st.le).mono st4.st.le).mono st5.st.le
      refine ⟨av,d5,by rw [← ra5.length]; omega,?_⟩
      have st15:=st14.trans r1.slen st5
      exact go (jHY r5 l5 (by show (av++[y']).length≤sizeLine; rw [List.length_append,List.length_singleton,← ra5.length]; omega) (yIK d5)) (st15.put hD l5.m) l5 upd_same (ra5.append (.one (ry.rep (by simpa using oy)))) (by rw [List.length_append,List.length_singleton]; omega) q5
 ·refine .inl ⟨wk.stop W' s' H r'.hr st'.st.le sl' own_st i (by omega),?_⟩
  have hn:r.xs.drop i=[]:=List.drop_eq_nil_of_le (by omega)
  rw [hn] at q'
  exact fin acc av W' s' H r' st' (q' W' H r' st') l' hDv ra
theorem yFD {src:S→R S Sr} {t:Tg} {tt:S→R S Bool} {te:ME} {vs:List Nat} {Q:VK} (hK:X.K=B.K) (hv:∀ i∈t.sl,i∈vs) (h:tN B N WX (zQ src t tt te vs) σ H Q) :
  tLc (tI B N WX src) (gT X.K t) (tT B N WF tt) (tE B N WF te) vs σ H Q:=by
 obtain ⟨W,s,r0,h⟩:=h
 refine ⟨W,s,r0,R.post_mono (R.post_bind h) (fun r s1 q W1 H1 r1 st1 still hline J wk D hD=>?_) fun x s1 q=>q⟩
 have rw1:Rel B N W1 ⟨jP s1.e vs,s1.h⟩ σ H1:=jZU r1 rfl
 have q':Post B N WF W1 ⟨jP s1.e vs,s1.h⟩ H1 σ (jGV r t tt te vs r.xs [] ⟨jP s1.e vs,s1.h⟩) fun xs W' s' H'=>∀ p us,H p=none→Loose N W' s' σ p→H' p=some (.lst us)→Reps B W' xs us→Q (.ref p) H':=by
  have nx:=yAA r t tt te vs r.xs [] ⟨jP s1.e vs,s1.h⟩
  refine R.post_of_nx nx (R.post_mono q (fun xs s2 q W2 H2 r2 st2=>q W2 H2 r2 ((jTF st1).trans r0.slen st2)) fun x s2 q=>trivial)
 exact yHG hK hv rw1 wk rfl still hD hline q' fun xs av W' s' H' r' st' k l hH rv=>k D av (st1.st.tr _ hD) l hH rv
theorem jAJ {elt tg iter:Expr} {ifs:List Expr} {scope:Scope} {own:List (Str × Nat)} {pos:Pos} {src:S→R S Sr} {t:Tg} {tt:S→R S Bool} {te:ME} (hK:X.K=B.K) (hc:X.calm=true) (hN:X.N.Nodup) (hi:SimI X B N WX tg iter src) (ok:BlkOk X.N X.env.scope scope own)
  (hv:∀ i∈t.sl,i∈own.map (·.2))
  (hg:∀ (s:Shared) (H:Hp) (C:Addr) (cl:List (Str × Addr)) (fp:List Addr),PG (X.blk s H scope (compEnvC scope cl C X.env) fp) tg (gT X.K t)) (ht:∀ (s:Shared) (H:Hp) (C:Addr) (cl:List (Str × Addr)) (fp:List Addr),SimTs (X.blk s H scope (compEnvC scope cl C X.env) fp) B N WF ifs tt)
  (he:∀ (s:Shared) (H:Hp) (C:Addr) (cl:List (Str × Addr)) (fp:List Addr),SimE (X.blk s H scope (compEnvC scope cl C X.env) fp) B N WF elt te) (hs:∀ x,foldedSetIterable iter X.env x=pure x) :
  SimN X B N WX (.ListComp elt [⟨tg,iter,ifs,0⟩] scope pos) (zQ src t tt te (own.map (·.2))) :=
 (pe_lc hc hN hi ok hg ht he hs).imp fun σ H Q h=>yFD hK hv h
theorem yX {K:PySem.W.Frag} {e:Expr} {i:Nat} (h:PG X e (gName i)):PG X e (gT K (.n i)):=by
 rw [gT]; exact h
theorem jFY {es:List Expr} {k:Nat} {ts:List Tg} {pos:Pos} (hc:X.calm=true) (h:PGs X es (gTs X.K ts)) (hn:(assignEach es X.env).length=ts.length) (hst:(assignEach es X.env).findIdx? (·.1)=none):PG X (.Tuple es k pos) (gT X.K (.t ts)):=by
 rw [gT]; exact pg_tup hc h hn hst
theorem qO {K:PySem.W.Frag}:PGs X [] (gTs K []):=by
 rw [gTs]; exact pgs_nil
theorem yI {K:PySem.W.Frag} {e:Expr} {es:List Expr} {t:Tg} {ts:List Tg} (h1:PG X e (gT K t)) (h2:PGs X es (gTs K ts)) (hs:(assignEach (e :: es) X.env).map (·.2)=assign e X.env :: (assignEach es X.env).map (·.2)):PGs X (e :: es) (gTs K (t :: ts)):=by
 rw [gTs]; exact pgs_cons h1 h2 hs
end
end Lp
set_option maxHeartbeats 4000000
namespace Lp
open PySem PySem.Spec PyProof.Rows L2
inductive Fl where
 | nx | rt (v:PV) | bk | ct
abbrev MS:=S→R S Fl
def PostS (B:Bs) (N:Ent) (WX:L2.WX) (D:Ends) (r:R S Fl):Prop:=r.post
 (fun f s'=>match f with
  | .nx=>∀ W' σ' H',Rel B N W' s' σ' H'→D.nx σ' H'
  | .rt v=>∀ W' σ' H' v',Rel B N W' s' σ' H'→Rep B W' v v'→D.rt v' H'
  | .bk=>∀ W' σ' H',Rel B N W' s' σ' H'→D.bk σ' H'
  | .ct=>∀ W' σ' H',Rel B N W' s' σ' H'→D.ct σ' H')
 (fun x s'=>∀ W' σ' H' cls d,Rel B N W' s' σ' H'→ExcR B N.H W' H' x cls d→WX cls d σ' H')
def tS (B:Bs) (N:Ent) (WX:L2.WX) (m:MS):TS:=fun D σ H=>∃ W s,Rel B N W s σ H∧PostS B N WX D (m s)
abbrev SimS (X:Cx) (B:Bs) (N:Ent) (WX:L2.WX) (st:Stmt) (m:MS):Prop:=PS X st (tS B N WX m)
abbrev SimSs (X:Cx) (B:Bs) (N:Ent) (WX:L2.WX) (st:List Stmt) (m:MS):Prop:=PSs X st (tS B N WX m)
section
variable {X:Cx} {B:Bs} {N:Ent} {WX:L2.WX} {W W':Wd} {s s':S} {σ:L2.St} {H H':Hp} {D:Ends} {α:Type}
theorem PostS.bindE {r:R S α} {f:α→S→R S Fl} (h:PostS B N WX D (r.bind f)):Post B N WX W s H σ r fun v W' s' H'=>PostS B N WX D (f v s') :=
 R.post_mono (R.post_bind h) (fun _ _ q W' H' _ _=>q) fun _ _ q W' H' cls d r' _ e _=>q W' σ H' cls d r' e
end
def uC:MS:=fun s=>.ok .nx s
def yE (a b:MS):MS:=fun s=>(a s).bind fun f s1=>match f with
 | .nx=>b s1
 | f=>.ok f s1
def jMV (m:ME):MS:=fun s=>(m s).bind fun _ s1=>.ok .nx s1
def uV (m:ME):MS:=fun s=>(m s).bind fun v s1=>if isOwn v=true then .bad else .ok (.rt v) s1
def yTQ:MS:=fun s=>.ok (.rt .non) s
def sIf (c:S→R S Bool) (a b:MS):MS:=fun s=>(c s).bind fun k s1=>if k=true then a s1 else b s1
def uW (i:Nat) (m:ME):MS:=fun s=>(m s).bind fun v s1=>if isOwn v=true then .bad else .ok .nx ⟨s1.e.set i (some v),s1.h⟩
def jGT (i:Nat) (m:S→R S (List PV)):MS:=fun s=>(m s).bind fun xs s1=>.ok .nx ⟨s1.e.set i (some (.own xs)),s1.h⟩
def jMW (t:Tg) (m:ME):MS:=fun s=>(m s).bind fun v s1=>match zR t v s1.e with
 | some e1=>if isOwn v=true then .bad else .ok .nx ⟨e1,s1.h⟩
 | none=>.bad
section
variable {X:Cx} {B:Bs} {N:Ent} {WX:L2.WX} {W W':Wd} {s s':S} {σ:L2.St} {H H':Hp} {st:Stmt} {rest:List Stmt} {ma mb:MS} {e c:Expr} {m:ME} {mc:S→R S Bool} {pos:Pos}
theorem jU:SimSs X B N WX [] uC:=pss_nil.imp fun D σ H ⟨W,s,r,h⟩=>h W σ H r
theorem jH (h:SimS X B N WX st ma):SimSs X B N WX [st] ma:=pss_one h
theorem jF (h1:SimS X B N WX st ma) (h2:SimSs X B N WX rest mb):SimSs X B N WX (st :: rest) (yE ma mb) :=
 (pss_cons h1 h2).imp fun D σ H ⟨W,s,r,h⟩=>⟨W,s,r,R.post_mono (R.post_bind h) (fun f s1 q=>by
  cases f with
  | nx=>exact fun W' σ' H' r'=>⟨W',s1,r',q⟩
  | rt v=>exact q
  | bk=>exact q
  | ct=>exact q) fun x s1 q=>q⟩
theorem jFB (he:SimE X B N WX e m) (hs:swapsWith e none pos.line X.env=pure false):SimS X B N WX (.Expr e pos) (jMV m) :=
 (ps_expr he hs).imp fun D σ H ⟨W,s,r,h⟩=>⟨W,s,r,h.bindE.mono fun v W1 s1 H1 r1 _ q v' rv=>q W1 σ H1 r1⟩
theorem jZ (he:SimE X B N WX e m):SimS X B N WX (.Return (some e) pos) (uV m) :=
 (ps_ret he).imp fun D σ H ⟨W,s,r,h⟩=>⟨W,s,r,h.bindE.mono fun v W1 s1 H1 r1 _ q v' rv=>by
  split at q
  ·exact q.elim
  ·rename_i o
   exact q W1 σ H1 v' r1 (rv.rep (by simpa using o))⟩
theorem jW {a b:List Stmt} (hc:SimT X B N WX c mc) (ha:SimSs X B N WX a ma) (hb:SimSs X B N WX b mb):SimS X B N WX (.If c a b pos) (sIf mc ma mb) :=
 (ps_if hc ha hb).imp fun D σ H ⟨W,s,r,h⟩=>⟨W,s,r,h.bindE.mono fun k W1 s1 H1 r1 _ q=>by
  cases k with
  | true=>exact iteT ⟨W1,s1,r1,q⟩
  | false=>exact iteF ⟨W1,s1,r1,q⟩⟩
theorem yFO {i:Nat} {D:Ends} {v:PV} {v':V} {W1:Wd} {s1:S} {H1:Hp} (r1:Rel B N W1 s1 σ H1) (rv:RepT B W1 H1 v v') (q:PostS B N WX D (if isOwn v=true then R.bad else R.ok Fl.nx ⟨s1.e.set i (some v),s1.h⟩)):D.nx (σ.set i (some v')) H1:=by
 split at q
 ·exact q.elim
 ·rename_i o
  exact q W1 _ H1 (jED r1 (rv.rep (by simpa using o)))
theorem yC {i:Nat} {x:Str} {pos':Pos} (hN:X.N.Nodup) (hi:X.N[i]?=some x) (hx:Loc X.env.scope x) (he:SimE X B N WX e m) (hs:swapsWith e (some (.Name x pos')) pos.line X.env=pure false) (hf:X.fn x=true∨X.env.scope.names.lookup x=some .local) :
  SimS X B N WX (.Assign [.Name x pos'] e pos) (uW i m) :=
 (ps_set hN hi hx he hs hf).imp fun D σ H ⟨W,s,r,h⟩=>⟨W,s,r,h.bindE.mono fun v W1 s1 H1 r1 _ q v' rv=>yFO r1 rv q⟩
theorem jRS {i:Nat} {p:Addr} {xs:List PV} {vs:List V} {σ':L2.St} (r:Rel B N W s σ H) (hl:σ'.length=σ.length) (hj:∀ j,j≠i→σ'[j]?=σ[j]?) (hi:σ'[i]?=some (some (.ref p))∨s.e.length≤i)
  (l:W.F p=none∧p∉W.m∧(∀ (j:Nat) (x:PV),j≠i→s.e[j]?=some (some x)→isOwn x=true→σ[j]?≠some (some (.ref p)))∧N.H p=none) (hp:H p=some (.lst vs)) (rv:Reps B W xs vs):Rel B N W ⟨s.e.set i (some (.own xs)),s.h⟩ σ' H:=by
 obtain ⟨l1,l2,l3,l4⟩:=l
 have at_:∀ (j:Nat) (y:PV),(s.e.set i (some (.own xs)))[j]?=some (some y)→(j=i∧y=.own xs∧i < s.e.length)∨(j≠i∧s.e[j]?=some (some y)):=fun j y e=>by
  by_cases hji:i=j
  ·subst hji
   by_cases hb:i < s.e.length
   ·rw [List.getElem?_set_self hb] at e
    cases e
    exact .inl ⟨rfl,rfl,hb⟩
   ·rw [List.getElem?_eq_none (by rw [List.length_set]; omega)] at e
    cases e
  ·rw [List.getElem?_set_ne hji] at e
   exact .inr ⟨fun z=>hji z.symm,e⟩
 refine ⟨r.hr,r.st,by rw [hl,r.len]; simp,fun j y e=>?_,fun j k y z a hjk e1 e2 o1 o2 s1 s2=>?_,r.pin⟩
 ·rcases at_ j y e with ⟨rfl,rfl,hb⟩ | ⟨ne,e⟩
  ·rcases hi with hi | hi
   ·exact ⟨_,hi,p,vs,rfl,hp,rv,l1,l2,l4⟩
   ·omega
  ·rw [hj j ne]
   exact r.env j y e
 ·rcases at_ j y e1 with ⟨rfl,rfl,hb⟩ | ⟨ne,f1⟩
  ·rcases at_ k z e2 with ⟨rfl,_,_⟩ | ⟨ne2,f2⟩
   ·exact hjk rfl
   ·rcases hi with hi | hi
    ·rw [hi] at s1
     cases s1
     rw [hj k ne2] at s2
     exact l3 k z ne2 f2 o2 s2
    ·omega
  ·rcases at_ k z e2 with ⟨rfl,rfl,hb⟩ | ⟨ne2,f2⟩
   ·rcases hi with hi | hi
    ·rw [hi] at s2
     cases s2
     rw [hj j ne] at s1
     exact l3 j y ne f1 o1 s1
    ·omega
   ·rw [hj j ne] at s1
    rw [hj k ne2] at s2
    exact r.dis j k y z a hjk f1 f2 o1 o2 s1 s2
theorem yHO {i:Nat} {mn:S→R S (List PV)} {D:Ends} (h:tS B N WX (jGT i mn) D σ H):tN B N WX mn σ H fun x H1=>D.nx (σ.set i (some x)) H1:=by
 obtain ⟨W,s,r,h⟩:=h
 refine ⟨W,s,r,h.bindE.mono fun xs W1 s1 H1 r1 _ q p vs hp l hH rv=>q W1 _ H1 (jRS r1 (by simp) (fun j hj=>by rw [List.getElem?_set_ne (Ne.symm hj)]) ?_ ⟨l.F,l.m,fun j x _ e o=>l.o j x e o,l.e⟩ hH rv)⟩
 by_cases hb:i < s1.e.length
 ·exact .inl (List.getElem?_set_self (by rw [r1.len]; exact hb))
 ·exact .inr (by omega)
theorem jBV {i:Nat} {x:Str} {pos':Pos} {mn:S→R S (List PV)} (hN:X.N.Nodup) (hi:X.N[i]?=some x) (hx:Loc X.env.scope x) (he:SimN X B N WX e mn) (hs:swapsWith e (some (.Name x pos')) pos.line X.env=pure false) (hf:X.fn x=true∨X.env.scope.names.lookup x=some .local) :
  SimS X B N WX (.Assign [.Name x pos'] e pos) (jGT i mn) :=
 (ps_set hN hi hx he hs hf).imp fun D σ H h=>yHO h
theorem vCH {i:Nat} {mn:S→R S (List PV)} {D:Ends} (h:tS B N WX (uW i (shN mn)) D σ H):tE B N WX (shN mn) σ H fun x H1=>D.nx (σ.set i (some x)) H1:=by
 obtain ⟨W,s,r,h⟩:=h
 exact ⟨W,s,r,h.bindE.mono fun v W1 s1 H1 r1 _ q v' rv=>yFO r1 rv q⟩
theorem yCW {i:Nat} {y:Str} {py:Pos} {elt tg iter:Expr} {ifs:List Expr} {scope:Scope} {own:List (Str × Nat)} {spos:Pos} {src:S→R S Sr} {t:Tg} {tt:S→R S Bool} {te:ME} (hK:X.K=B.K) (hc:X.calm=true) (hN:X.N.Nodup) (hy:X.N[i]?=some y) (hyl:X.env.scope.names.lookup y=some .local)
  (hsw:swapsWith (.ListComp elt [⟨tg,iter,ifs,0⟩] scope pos) (some (.Name y py)) spos.line X.env=pure true) (hi:SimI X B N WX tg iter src) (ok:BlkOk X.N X.env.scope scope own) (hv:∀ i∈t.sl,i∈own.map (·.2))
  (hg:∀ (s:Shared) (H:Hp) (C:Addr) (cl:List (Str × Addr)) (fp:List Addr),PG (X.blk s H scope (compEnvC scope cl C X.env) fp) tg (gT X.K t)) (ht:∀ (s:Shared) (H:Hp) (C:Addr) (cl:List (Str × Addr)) (fp:List Addr),SimTs (X.blk s H scope (compEnvC scope cl C X.env) fp) B N WF ifs tt)
  (he:∀ (s:Shared) (H:Hp) (C:Addr) (cl:List (Str × Addr)) (fp:List Addr),SimE (X.blk s H scope (compEnvC scope cl C X.env) fp) B N WF elt te) (hs:∀ x,foldedSetIterable iter X.env x=pure x) :
  SimS X B N WX (.Assign [.Name y py] (.ListComp elt [⟨tg,iter,ifs,0⟩] scope pos) spos) (uW i (shN (zQ src t tt te (own.map (·.2))))) :=
 (ps_setLc hc hN hy hyl hsw hi ok hg ht he hs).imp fun D σ H h=>yFD hK hv (yTO (vCH h))
theorem jFC {tg:Expr} {t:Tg} (hK:X.K=B.K) (he:SimE X B N WX e m) (hg:PG X tg (gT X.K t)) (hs:swapsWithSole [tg] e pos.line X.env=pure false) (hw:swappedStores [tg] e X.env=pure none) (h1:(assignEach [tg] X.env).map (·.2)=[assign tg X.env]) :
  SimS X B N WX (.Assign [tg] e pos) (jMW t m) :=
 (ps_asg he hg hs hw h1).imp fun D σ H ⟨W,s,r,h⟩=>⟨W,s,r,h.bindE.mono fun v W1 s1 H1 r1 _ q v' rv=>by
  split at q
  ·rename_i e1 eb
   split at q
   ·exact q.elim
   ·rename_i o
    exact yEA hK (vs:=t.sl) (fun i hi=>hi) r1 (rv.rep (by simpa using o)) eb fun σ' r' _=>q W1 σ' H1 r'
  ·exact q.elim⟩
def yFR (i j:Nat) (ma:MA):MS:=fun s=>(ma s).bind fun vs s1=>match vs with
 | [v,w]=>if isOwn v=true∨isOwn w=true then .bad else .ok .nx ⟨(s1.e.set i (some v)).set j (some w),s1.h⟩
 | _=>.bad
theorem jSX {i j:Nat} {x y:Str} {a b:Expr} {mz:MA} {px py pt:Pos} {kt k2 pt2} (hc:X.calm=true) (hN:X.N.Nodup) (hi:X.N[i]?=some x) (hj:X.N[j]?=some y) (hij:i≠j)
  (hx:X.env.scope.names.lookup x=some .local) (hy:X.env.scope.names.lookup y=some .local) (ha:SimA X B N WX [a,b] mz)
  (hw:swappedStores [.Tuple [.Name x px,.Name y py] kt pt] (.Tuple [a,b] k2 pt2) X.env=pure (some [x,y]))
  (hs:swapsWithSole [.Tuple [.Name x px,.Name y py] kt pt] (.Tuple [a,b] k2 pt2) pos.line X.env=pure false) :
  SimS X B N WX (.Assign [.Tuple [.Name x px,.Name y py] kt pt] (.Tuple [a,b] k2 pt2) pos) (yFR i j mz) :=
 (ps_par hc hN hi hj hij hx hy ha hw hs).imp fun D σ H ⟨W,s,r,h⟩=>⟨W,s,r,h.bindE.mono fun vs W1 s1 H1 r1 _ q vs' rv=>by
  split at q
  ·rename_i v w
   obtain ⟨v',w',rfl,rv1,rv2⟩:=repts2 rv
   split at q
   ·exact q.elim
   ·rename_i o
    simp only [not_or] at o
    refine ⟨v',w',rfl,q W1 _ H1 (jED (jED r1 (rv1.rep (by simpa using o.1))) (rv2.rep (by simpa using o.2)))⟩
  ·exact q.elim⟩
theorem yRJ {i:Nat} {xs:List PV} (r:Rel B N W s σ H) (e:s.e[i]?=some (some (.own xs))):∃ p vs,σ[i]?=some (some (.ref p))∧H p=some (.lst vs)∧Reps B W xs vs∧W.F p=none∧p∉W.m∧N.H p=none ∧
  Rel B N ⟨upd W.F p (.lst vs),W.m⟩ ⟨s.e.set i (some (.lst xs)),s.h⟩ σ H:=by
 obtain ⟨v,e1,p,vs,rfl,hH,rv,hF,hm,h0⟩:=r.env i _ e
 have hi:i < s.e.length:=(List.getElem?_eq_some_iff.mp e).1
 refine ⟨p,vs,e1,hH,rv,hF,hm,h0,?_⟩
 -- first the slot is cleared
 have rc:Rel B N W ⟨s.e.set i none,s.h⟩ σ H:=by
  refine ⟨r.hr,r.st,by rw [r.len]; simp,fun j y ej=>?_,fun j k y z a hjk f1 f2 o1 o2 s1 s2=>?_,r.pin⟩
  ·by_cases hj:i=j
   ·subst hj
    rw [List.getElem?_set_self hi] at ej
    cases ej
   ·rw [List.getElem?_set_ne hj] at ej
    exact r.env j y ej
  ·have g:∀ (j:Nat) (y:PV),(s.e.set i none)[j]?=some (some y)→s.e[j]?=some (some y):=fun j y f=>by
    by_cases hj:i=j
    ·subst hj
     rw [List.getElem?_set_self hi] at f
     cases f
    ·rw [List.getElem?_set_ne hj] at f
     exact f
   exact r.dis j k y z a hjk (g j y f1) (g k z f2) o1 o2 s1 s2
 have lc:Loose N W ⟨s.e.set i none,s.h⟩ σ p:=⟨hF,hm,fun j y f o z=>by
  by_cases hj:i=j
  ·subst hj
   have f:(s.e.set i none)[i]?=some (some y):=f
   rw [List.getElem?_set_self hi] at f
   cases f
  ·have f:(s.e.set i none)[j]?=some (some y):=f
   rw [List.getElem?_set_ne hj] at f
   exact r.dis i j _ y p hj e f rfl o e1 z,h0⟩
 have rk:=jZT rc lc hH jCB
 have rs:=jED (i:=i) rk (Rep.lst (xs:=xs) (vs:=vs) upd_same (rv.mono (jCX hF)))
 have es:σ.set i (some (.ref p))=σ:=by
  apply List.ext_getElem?
  intro j
  by_cases hj:i=j
  ·subst hj
   rw [List.getElem?_set_self (by rw [r.len]; exact hi),e1]
  ·rw [List.getElem?_set_ne hj]
 rw [es] at rs
 simpa using rs
end
end Lp
set_option maxHeartbeats 4000000
namespace Lp
open PySem PySem.Spec PyProof.Rows L2
section
variable {B:Bs} {N:Ent} {W W':Wd} {s s':S} {σ:L2.St} {H H':Hp} {h':AH}
theorem jBR (r:Rel B N W s σ H) (hr':HRel B W' h' H') (st:Step W s.h H W' h' H'):Rel B N W' ⟨s.e,h'⟩ σ H':=by
 refine ⟨hr',r.st.trans N.len st,r.len,fun i x e=>?_,r.dis,r.pin.trans st.le⟩
 obtain ⟨v,e1,sl⟩:=r.env i x e
 refine ⟨v,e1,?_⟩
 cases x with
 | own xs =>
  obtain ⟨a,vs,rfl,hH,rv,hF,hm,h0⟩:=sl
  have nl:¬ Live W s.h a:=fun l=>hm l.mem
  have ne:H a≠none:=by rw [hH]; exact fun z=>nomatch z
  exact ⟨a,vs,rfl,st.keep _ _ hH jCB nl,rv.mono st.le,st.fgrow a hF (.lst hH) nl,st.notm r.slen hm ne,h0⟩
 | don ks=>exact DonR.mono st.le sl
 | _=>exact Rep.mono st.le sl
theorem jEP {s:S} (st:Step W s.h H W' h' H'):StepE W s H W' ⟨s.e,h'⟩ H':=⟨st,fun _ _ e _=>e⟩
end
abbrev MF:=List PV→AH→R AH PV
def spF (B:Bs) (n:Nat) (m:MF):Sp:=fun vs H Q E=>∃ W h xs,HRel B W h H∧Reps B W xs vs∧xs.length=n∧(m xs h).post
 (fun v h'=>∀ W' H' v',HRel B W' h' H'→Step W h H W' h' H'→Rep B W' v v'→Q v' H')
 (fun x h'=>∀ W' H' cls d,HRel B W' h' H'→Step W h H W' h' H'→ExcR B H W' H' x cls d→E cls d H')
def mkF (k:Nat) (mb:MS):MF:=fun xs h=>match mb ⟨xs.map some++List.replicate k none,h⟩ with
 | .ok (.rt v) s=>.ok v s.h
 | .ok .nx s=>.ok .non s.h
 | .ok _ _=>.bad
 | .exc x s=>.exc x s.h
 | .bad=>.bad
theorem Rep.no {B:Bs} {W:Wd} {x:PV} {v:V} (r:Rep B W x v):isOwn x=false:=by cases r <;> rfl
theorem Reps.no {B:Bs} {W:Wd}:∀ {xs:List PV} {vs:List V},Reps B W xs vs→∀ x∈xs,isOwn x=false
 | _,_,.nil,_,h=>by cases h
 | _,_,.cons r t,x,h=>by
  rcases List.mem_cons.mp h with rfl | h
  ·exact r.no
  ·exact Reps.no t x h
theorem jPQ {B:Bs} {W:Wd} {h:AH} {H:Hp} {xs:List PV} {vs:List V} {k:Nat} (hr:HRel B W h H) (r:Reps B W xs vs) :
  Rel B ⟨W,h,H,hr.len,W⟩ W ⟨xs.map some++List.replicate k none,h⟩ (vs.map some++List.replicate k none) H:=by
 have at_:∀ (i:Nat) (x:PV),(xs.map some++List.replicate k none)[i]?=some (some x)→xs[i]?=some x:=fun i x e=>by
  by_cases hi:i < (xs.map some).length
  ·rw [List.getElem?_append_left hi,List.getElem?_map] at e
   cases q:xs[i]? with
   | none=>rw [q] at e; cases e
   | some y=>rw [q] at e; cases e; rfl
  ·rw [List.getElem?_append_right (by omega)] at e
   rw [List.getElem?_replicate] at e
   split at e <;> cases e
 refine ⟨hr,Step.refl hr,by simp [r.length],fun i x e=>?_,fun i j x y a hij e1 e2 o1 o2 s1 s2=>?_,.refl W⟩
 ·obtain ⟨v,ev,rv⟩:=r.get (at_ i x e)
  refine ⟨v,?_,rv.slot⟩
  rw [List.getElem?_append_left (by rw [List.length_map]; exact (List.getElem?_eq_some_iff.mp ev).1),List.getElem?_map,ev]
  rfl
 ·rw [r.no x (List.mem_of_getElem? (at_ i x e1))] at o1
  cases o1
structure Bdy (X:Cx) (E:XK) (k:Nat):Prop where
 tk:Takes X fun c d _ H=>E c d H
 pa:PassesOwn (model X.prog X.w) X.A X.env X.xe
 rm:Room k X.A
theorem fn_ok {P:Program} {w:World} {K:PySem.W.Frag} {mg:Str→Option Value} {base:Heap} {x qual:Str} {params:Arguments} {body:List Stmt} {scope:Scope} {dvs:List V} {kws:List (Str × V)} {f:Addr} {fd:FuncData} {names ps:List Str} {k n kk:Nat} {B:Bs} {mb:MS}
  (F:FunD K x qual params body scope dvs kws f fd) (S:FnScope names ps scope) (hn:ps.length=n) (hk:names.length - n=kk)
  (hb:∀ (cdv:Value) (A:Around) (outer:List Env) (s:Shared) (H:Hp) (E:XK) (N:Ent),Bdy (cxOf (L2.CX P w) P w K mg base names qual scope f cdv A outer s H E) E k →
   SimSs (cxOf (L2.CX P w) P w K mg base names qual scope f cdv A outer s H E) B N (fun c d _ H=>E c d H) body mb):FnOk P w K mg base (L2.CX P w) (k+1) f fd ps (spF B n (mkF kk mb)):=by
 refine F.ok S (fun vs H Q E ⟨W,h,xs,hr,r,e,_⟩=>by rw [hn,← e,r.length]) fun cdv A outer s H vs Q E hr ⟨W,h,xs,hrel,r,e,q⟩=>?_
 have bd:Bdy (cxOf (L2.CX P w) P w K mg base names qual scope f cdv A outer s H E) E k:=⟨takes_of rfl rfl rfl rfl,passes_of rfl,hr⟩
 refine ⟨_,hb cdv A outer s H E ⟨W,h,H,hrel.len,W⟩ bd,W,⟨xs.map some++List.replicate kk none,h⟩,?_,?_⟩
 ·have:=jPQ (k:=kk) hrel r
  unfold L2.start
  rw [show names.length - vs.length=kk by rw [← r.length,e,hk]]
  exact this
 ·unfold PostS
  unfold mkF at q
  split at q
  ·rename_i v s1 e1
   rw [e1]
   exact fun W' σ' H' v' r' rv=>q W' H' v' r'.hr r'.st rv
  ·rename_i s1 e1
   rw [e1]
   exact fun W' σ' H' r'=>q W' H' .non r'.hr r'.st .non
  ·exact q.elim
  ·rename_i x1 s1 e1
   rw [e1]
   exact fun W' σ' H' cls d r' ex=>q W' H' cls d r'.hr r'.st ex
  ·exact q.elim
def lift (r:R AH PV) (e:List (Option PV)):R S PV:=match r with
 | .ok v h=>.ok v ⟨e,h⟩
 | .exc x h=>.exc x ⟨e,h⟩
 | .bad=>.bad
def jGW (n:Nat) (m:MF) (vs:List PV):ME:=fun s=>if vs.length=n∧vM vs=true then lift (m vs s.h) s.e else .bad
def yO (n:Nat) (m:MF) (ma:MA):ME:=fun s=>(ma s).bind fun vs s1=>jGW n m vs s1
def pick {α:Type} (ix:List Nat) (l:List α):List α:=ix.filterMap (l[·]?)
structure Fn (P:Program) (w:World) (K:PySem.W.Frag) (mg:Str→Option Value) (base:Heap) (B:Bs) (k:Nat) (x:Str) (n:Nat) (m:MF):Prop where
 ex:∃ f fd ps,FnOk P w K mg base (L2.CX P w) k f fd ps (spF B n m)∧mg x=some (.ref f)∧PySem.W.keepIn K (.ref f)=true∧Binds K fd ps []
structure FnK (P:Program) (w:World) (K:PySem.W.Frag) (mg:Str→Option Value) (base:Heap) (B:Bs) (k:Nat) (x:Str) (n0:Nat) (ks:List Str) (ix:List Nat) (n:Nat) (m:MF):Prop where
 ex:∃ f fd ps,FnOk P w K mg base (L2.CX P w) k f fd ps (spF B n m)∧mg x=some (.ref f)∧PySem.W.keepIn K (.ref f)=true∧KBn K fd ps n0 ks (fun us ws=>pick ix (us++ws)) fun vs zs=>pick ix (vs++zs)
section
variable {P:Program} {w:World} {K:PySem.W.Frag} {mg:Str→Option Value} {base:Heap} {B:Bs} {j k n n0:Nat} {x:Str} {m:MF} {ks:List Str} {ix:List Nat}
theorem Fn.mono (F:Fn P w K mg base B j x n m) (h:j≤k):Fn P w K mg base B k x n m :=
 let ⟨f,fd,ps,a,b⟩:=F.ex
 ⟨f,fd,ps,a.mono h,b⟩
theorem FnK.mono (F:FnK P w K mg base B j x n0 ks ix n m) (h:j≤k):FnK P w K mg base B k x n0 ks ix n m :=
 let ⟨f,fd,ps,a,b⟩:=F.ex
 ⟨f,fd,ps,a.mono h,b⟩
theorem jZJ:∀ {vs:List V} {us:List Value} {i:Nat},Vals vs us→(∃ v u,vs[i]?=some v∧us[i]?=some u∧RelV v u)∨(vs[i]?=none∧us[i]?=none)
 | _,_,_,.nil=>.inr ⟨rfl,rfl⟩
 | _,_,0,.cons r _=>.inl ⟨_,_,rfl,rfl,r⟩
 | _,_,i+1,.cons _ t=>by simpa using jZJ (i:=i) t
theorem jIT {vs:List V} {us:List Value} (r:Vals vs us):∀ ix:List Nat,Vals (pick ix vs) (pick ix us)
 | []=>.nil
 | i :: ix=>by
  unfold pick
  rcases jZJ (i:=i) r with ⟨v,u,e1,e2,q⟩ | ⟨e1,e2⟩
  ·rw [List.filterMap_cons_some e1,List.filterMap_cons_some e2]
   exact .cons q (jIT r ix)
  ·rw [List.filterMap_cons_none e1,List.filterMap_cons_none e2]
   exact jIT r ix
theorem jGO {W:Wd} {xs:List PV} {vs:List V} (r:Reps B W xs vs):∀ ix:List Nat,Reps B W (pick ix xs) (pick ix vs)
 | []=>.nil
 | i :: ix=>by
  unfold pick
  cases e1:xs[i]? with
  | some x =>
   obtain ⟨v,e2,q⟩:=r.get e1
   rw [List.filterMap_cons_some e1,List.filterMap_cons_some e2]
   exact .cons q (jGO r ix)
  | none =>
   have e2:vs[i]?=none:=by
    rw [List.getElem?_eq_none_iff] at e1 ⊢
    rw [← r.length]; exact e1
   rw [List.filterMap_cons_none e1,List.filterMap_cons_none e2]
   exact jGO r ix
theorem yIY {qual:Str} {params:Arguments} {body:List Stmt} {scope:Scope} {kws:List (Str × V)} {f:Addr} {fd:FuncData} {ps:List Str} (F:FunD K x qual params body scope [] kws f fd)
  (h:∀ (kV doc pm:Value) (an:Option Addr) (cdv ct:Value) (us ws:List Value),us.length=n0→ws.length=ks.length→bindArgs (PySem.W.fnOf x qual params body scope .none kV doc pm an cdv ct) ⟨us,ks.zip ws⟩=pure (ps.zip (pick ix (us++ws)))) :
  KBn K fd ps n0 ks (fun us ws=>pick ix (us++ws)) fun vs zs=>pick ix (vs++zs):=by
 obtain ⟨oc,od,dV,kV,doc,pm,an,cdv,ct,osl,rfl,lk,hcd,hD,hK⟩:=F.ex
 rcases hD with ⟨_,rfl⟩ | ⟨e,_⟩
 ·exact ⟨fun s us ws _ l1 l2=>.of_eq (h kV doc pm an cdv ct us ws l1 l2),fun r1 r2=>jIT (r1.append r2) ix⟩
 ·exact absurd rfl e
end
section
variable {X:Cx} {B:Bs} {N:Ent} {WX:L2.WX} {W W':Wd} {s s':S} {σ:L2.St} {H H':Hp} {e:Expr} {es:List Expr} {ma mk:MA} {me:ME} {p pos kpos:Pos} {x:Str} {k n n0:Nat} {m:MF} {kws:List Keyword} {nm:Option Str} {ks:List Str} {ix:List Nat} {E:XK}
theorem jKQ {vs:List PV} {vs':List V} {Q:VK} (r:Rel B N W s σ H) (rv:Reps B W vs vs') (q:Post B N WX W s H σ (jGW n m vs s) fun u W' _ H'=>∀ u',RepT B W' H' u u'→Q u' H') :
  spF B n m vs' H Q fun c d H=>WX c d σ H:=by
 unfold jGW at q
 split at q
 ·rename_i hc
  refine ⟨W,s.h,vs,r.hr,rv,hc.1,?_⟩
  unfold lift at q
  split at q
  ·rename_i v h e
   rw [e]
   exact fun W' H' v' hr' st ru=>q W' H' (jBR r hr' st) (jEP st) v' ru.hand
  ·rename_i y h e
   rw [e]
   exact fun W' H' cls d hr' st ex=>q W' H' cls d (jBR r hr' st) (jEP st) (ex.old r.st.tr) ex.nw
  ·exact q.elim
 ·exact q.elim
theorem yAP {vs:List PV} {P:PV→Wd→S→Hp→Prop} (q:Post B N WX W s H σ (jGW n m vs s) P):vM vs=true:=by
 unfold jGW at q
 split at q
 ·rename_i hc; exact hc.2
 ·exact q.elim
theorem jV (F:Fn X.prog X.w X.K X.mg X.base B k x n m) (tk:Takes X WX) (hr:Room k X.A) (hg:Gl X x) (ha:SimA X B N WX (e :: es) ma) (hdb:(x == ("__debug__" : Str))=false)
  (he:starEach (e :: es) X.env=(false,eval e X.env) :: starEach es X.env) (hpl:(backTo pos (starEach es X.env)).any (·.1)=false):SimE X B N WX (.Call (.Name x p) (e :: es) [] pos) (yO n m ma):=by
 obtain ⟨f,fd,ps,F1,hm,hk,hb⟩:=F.ex
 exact (pe_callS (E:=WE WX) F1 hr hg hm hk hb (fun σ=>passAt tk σ) ha hdb he hpl).imp fun σ H Q ⟨W,s,r,h⟩=>⟨W,s,r,(h.bind r.slen).mono fun vs W1 s1 H1 r1 _ q vs' rv=>jKQ r1 (rv.reps (yAP q)) q⟩
theorem jLZ (F:Fn X.prog X.w X.K X.mg X.base B k x n m) (tk:Takes X fun c d _ H=>E c d H) (hr:Room k X.A) (hg:Gl X x) (hdb:(x == ("__debug__" : Str))=false):SimE X B N (fun c d _ H=>E c d H) (.Call (.Name x p) [] [] pos) (jGW n m []):=by
 obtain ⟨f,fd,ps,F1,hm,hk,hb⟩:=F.ex
 exact (pe_call0 (E:=E) F1 hr hg hm hk hb .nil (passes_call tk fun _ _ _ _ h=>h) hdb).imp fun σ H Q ⟨W,s,r,h⟩=>jKQ (vs:=[]) r .nil h
abbrev SimK (X:Cx) (B:Bs) (N:Ent) (WX:L2.WX) (kws:List Keyword) (m:MA):Prop:=PK X kws (tA B N WX m)
theorem _root_.L2.PK.imp {X:Cx} {e:List Keyword} {t t':TA} (h:PK X e t) (w:∀ σ H Q,t' σ H Q→t σ H Q):PK X e t':=⟨fun p pins s σ H Q I q=>h.run p pins s σ H Q I (w _ _ _ q)⟩
theorem qH:SimK X B N WX [] jN:=pk_nil.imp fun σ H Q ⟨W,s,r,h⟩=>h.ok r [] trivial
theorem wV (he:SimE X B N WX e me) (hr:SimK X B N WX kws mk):SimK X B N WX (⟨nm,e,kpos⟩ :: kws) (jC me mk) :=
 (pk_cons he hr).imp fun σ H Q ⟨W,s,r,h⟩=>⟨W,s,r,(h.bind r.slen).mono fun v W1 s1 H1 r1 _ q v' rv=>⟨W1,s1,r1,(q.bind r1.slen).mono fun vs W2 s2 H2 r2 st2 q2 vs' rvs=>q2.ok r2 (v' :: vs') ⟨rv.on r1.slen st2.st,rvs⟩⟩⟩
def jSO (n0 nk:Nat) (ix:List Nat) (n:Nat) (m:MF) (ma mk:MA):ME:=fun s=>(ma s).bind fun vs s1=>(mk s1).bind fun zs s2=>if (vs.length=n0∧zs.length=nk)∧vM vs=true∧vM zs=true then jGW n m (pick ix (vs++zs)) s2 else .bad
theorem yHI {nk:Nat} (hl:ks.length=nk) {σ:L2.St} {H:Hp} {Q:VK} (h:tE B N (fun c d _ H=>E c d H) (jSO n0 nk ix n m ma mk) σ H Q):tCallN n0 ks.length (spF B n m) (fun vs zs=>pick ix (vs++zs)) E (tA B N (fun c d _ H=>E c d H) ma) (tA B N (fun c d _ H=>E c d H) mk) σ H Q:=by
 obtain ⟨W,s,r,h⟩:=h
 refine ⟨W,s,r,(h.bind r.slen).mono fun vs W1 s1 H1 r1 _ q vs' rv=>⟨W1,s1,r1,(q.bind r1.slen).mono fun zs W2 s2 H2 r2 st2 q2 zs' rz=>?_⟩⟩
 split at q2
 ·rename_i hc
  have r1':=(rv.reps hc.2.1).mono st2.st.le
  have r2':=rz.reps hc.2.2
  exact ⟨by rw [← r1'.length]; exact hc.1.1,by rw [← r2'.length,hl]; exact hc.1.2,jKQ r2 (jGO (r1'.append r2') ix) q2⟩
 ·exact q2.elim
theorem yCY {nk:Nat} (F:FnK X.prog X.w X.K X.mg X.base B k x 0 ks ix n m) (tk:Takes X fun c d _ H=>E c d H) (hr:Room k X.A) (hg:Gl X x) (hkw:SimK X B N (fun c d _ H=>E c d H) kws mk)
  (hl:ks.length=nk) (hall:(backToKw pos (keywordEach kws X.env)).all (·.1.isSome)=true) (hks:(backToKw pos (keywordEach kws X.env)).filterMap (·.1)=ks) (hdb:(x == ("__debug__" : Str))=false)
  (hpl:((backTo pos (starEach [] X.env)).any (·.1)||(backToKw pos (keywordEach kws X.env)).any (·.1.isNone))=false) :
  SimE X B N (fun c d _ H=>E c d H) (.Call (.Name x p) [] kws pos) (jSO 0 nk ix n m jN mk):=by
 obtain ⟨f,fd,ps,F1,hm,hk,hb⟩:=F.ex
 refine ⟨fun pins s σ H Q I h=>?_⟩
 refine wpAny_Call_Name_kw (ld_glob I hg hm ?_ hdb)
 obtain ⟨W,s1,r,h⟩:=yHI hl h
 have h:=h.ok r [] trivial
 refine PySem.W.callWith_KW0 (h₀:=X.base) I.ok.mod.kin hk hall ?_ hpl
 refine thn (hkw.run pos pins s σ H _ I h) fun ws s2 ⟨zs,H2,I2,rz,l1,l2,q2⟩=>⟨I2.kIn,?_⟩
 rw [hks]
 exact run_fnN (us:=[]) (vs:=[]) F1 hr hb (passes_call tk fun _ _ _ _ h=>h) I2 .nil rz rfl l2 q2
end
end Lp
set_option maxHeartbeats 4000000
namespace Lp
open PySem PySem.Spec PyProof.Rows L2
def Ent.at (N:Ent) (W:Wd):Ent:=⟨N.W,N.h,N.H,N.len,W⟩
section
variable {B:Bs} {N:Ent} {W W':Wd} {s s':S} {σ:L2.St} {H H':Hp}
theorem Rel.pinAt (r:Rel B N W s σ H):Rel B (N.at W) W s σ H:=⟨r.hr,r.st,r.len,r.env,r.dis,.refl W⟩
theorem Rel.unpin (r:Rel B (N.at W) W' s σ H) (l:N.P.Le W):Rel B N W' s σ H:=⟨r.hr,r.st,r.len,r.env,r.dis,l.trans r.pin⟩
end
noncomputable def jEB (r:Sr) (t:Tg) (body:MS):List PV→MS
 | [],s=>if wR s.h r then .ok .nx s else .bad
 | x :: xs,s=>if wR s.h r then match zR t x s.e with
   | some e1=>(body ⟨e1,s.h⟩).bind fun f s'=>match f with
    | .nx=>jEB r t body xs s'
    | .ct=>jEB r t body xs s'
    | .bk=>.ok .nx s'
    | .rt v=>.ok (.rt v) s'
   | none=>.bad
  else .bad
noncomputable def jMH (src:S→R S Sr) (t:Tg) (body:MS):MS:=fun s=>(src s).bind fun r s1=>if r.o=true∨sizeLine < r.xs.length then .bad else jEB r t body r.xs s1
section
variable {X:Cx} {B:Bs} {N:Ent} {WX:L2.WX} {W W':Wd} {s s':S} {σ:L2.St} {H H':Hp} {tg iter:Expr} {body:List Stmt} {mb:MS} {src:S→R S Sr} {t:Tg} {pos:Pos}
theorem yRM {st:List Stmt} (h:∀ N,SimSs X B N WX st mb):PSs X st (fun D σ H=>∃ N,tS B N WX mb D σ H):=⟨fun pins s σ H D I ⟨N,q⟩=>(h N).run pins s σ H D I q⟩
theorem PostS.unpin {D:Ends} {r:R S Fl} (l:N.P.Le W) (q:PostS B N WX D r):PostS B (N.at W) WX D r:=R.post_mono q (fun f s' q=>by
  cases f with
  | nx=>exact fun W' σ' H' r'=>q W' σ' H' (r'.unpin l)
  | rt v=>exact fun W' σ' H' v' r'=>q W' σ' H' v' (r'.unpin l)
  | bk=>exact fun W' σ' H' r'=>q W' σ' H' (r'.unpin l)
  | ct=>exact fun W' σ' H' r'=>q W' σ' H' (r'.unpin l)) fun x s' q W' σ' H' cls d r'=>q W' σ' H' cls d (r'.unpin l)
theorem jBP (hp:PassesOwn (model X.prog X.w) X.A X.env X.xe) (hK:X.K=B.K) (hc:X.calm=true) (hi:SimI X B N WX tg iter src) (hg:PG X tg (gT X.K t)) (hb:∀ N,SimSs X B N WX body mb) (hs:∀ x,foldedSetIterable iter X.env x=pure x) :
  SimS X B N WX (.For tg iter body [] pos) (jMH src t mb) :=
 (ps_for hp hc hi hg (yRM hb) hs).imp fun D σ H ⟨W,s,r,h⟩=>by
  refine ⟨W,s,r,h.bindE.mono fun rr W1 s1 H1 r1 _ q st hz J wk=>?_⟩
  split at q
  ·exact q.elim
  ·rename_i ho
   simp only [not_or] at ho
   have no:rr.o=true→∀ {P:Prop},P:=fun z=>absurd z ho.1
   refine ⟨fun i m σ' H'=>m=rr.xs.length - i∧i≤rr.xs.length∧∃ W' s',Rel B (N.at W1) W' s' σ' H'∧PostS B (N.at W1) WX D (jEB rr t mb (rr.xs.drop i) s'),⟨_,rfl,Nat.zero_le _,W1,s1,r1.pinAt,q.unpin r1.pin⟩,?_⟩
   rintro i m σ' H' ⟨rfl,hi,W',s',r',q'⟩
   by_cases hl:i < rr.xs.length
   ·right
    rw [List.drop_eq_getElem_cons hl] at q'
    unfold jEB at q'
    split at q'
    ·rename_i st'
     obtain ⟨g1,g2⟩:=wk.go W' s' H' r'.hr r'.pin st' (fun z=>no z) i rr.xs[i] (List.getElem?_eq_getElem hl)
     refine ⟨g1,fun σ2 H2=>(rr.xs.length - (i+1)=rr.xs.length - (i+1))∧i+1≤rr.xs.length∧∃ W' s',Rel B (N.at W1) W' s' σ2 H2∧PostS B (N.at W1) WX D (jEB rr t mb (rr.xs.drop (i+1)) s'),fun σ2 H2 z=>⟨_,by omega,z⟩,fun x H2 y=>?_⟩
     obtain ⟨W2,gr,rx⟩:=g2 x H2 y
     split at q'
     ·rename_i e1 eb
      refine yEA hK (vs:=t.sl) (fun i hi=>hi) (gr.rel r') rx eb fun σ3 r3 _=>⟨N.at W1,W2,⟨e1,s'.h⟩,r3,R.post_mono (R.post_bind q') (fun f s4 q4=>?_) fun x s4 q4=>q4⟩
      cases f with
      | nx=>exact fun W5 σ5 H5 r5=>⟨rfl,hl,W5,s4,r5,q4⟩
      | ct=>exact fun W5 σ5 H5 r5=>⟨rfl,hl,W5,s4,r5,q4⟩
      | bk=>exact q4
      | rt v=>exact q4
     ·exact q'.elim
    ·exact q'.elim
   ·left
    rw [List.drop_eq_nil_of_le (by omega)] at q'
    unfold jEB at q'
    split at q'
    ·rename_i st'
     exact ⟨wk.stop W' s' H' r'.hr r'.pin st' (fun z=>no z) i (by omega),q' W' σ' H' r'⟩
    ·exact q'.elim
end
section
variable {B:Bs} {N:Ent} {W W':Wd} {s s':S} {σ:L2.St} {h h':AH} {H H':Hp} {n:Nat} {c c':Cell} {a p:Addr} {o:HO}
theorem yIQ {α:Type} {l:List (Option α)} {n m:Nat} {c:α} {x:α} (e:(l.set n (some c))[m]?=some (some x)):(m=n∧x=c)∨(m≠n∧l[m]?=some (some x)):=by
 by_cases hm:n=m
 ·subst hm
  by_cases hl:n < l.length
  ·rw [List.getElem?_set_self hl] at e
   cases e
   exact .inl ⟨rfl,rfl⟩
  ·rw [List.getElem?_eq_none (by rw [List.length_set]; omega)] at e
   cases e
 ·rw [List.getElem?_set_ne hm] at e
  exact .inr ⟨fun z=>hm z.symm,e⟩
theorem jMB (hr:HRel B W h H) (e:h[n]?=some (some c)) (em:W.m[n]?=some a) (ho:SzO o) (hc:CellR B W (upd H a o) a c'):HRel B W (h.set n (some c')) (upd H a o):=by
 have hF:=(hr.cell n c a e em).1
 refine ⟨fun b u e1=>?_,by rw [List.length_set]; exact hr.len,hr.nd,fun b hb=>?_,fun b u e1 nt=>?_,hr.fz,?_,fun m c1 b e1 e2=>?_⟩
 ·have ne:b≠a:=fun z=>by rw [z,hF] at e1; cases e1
  rw [upd_ne ne]; exact hr.agree _ _ e1
 ·by_cases hba:b=a
  ·rw [hba,upd_same]; exact fun z=>nomatch z
  ·rw [upd_ne hba]; exact hr.mt b hb
 ·by_cases hba:b=a
  ·rw [hba,upd_same] at e1; cases e1; exact ho
  ·rw [upd_ne hba] at e1; exact hr.hz b u e1 nt
 ·have q:=(hr.cell n c a e em).2
  cases c with
  | lst xs=>obtain ⟨vs,q,_⟩:=q; exact jOC hr.tb q jCB yIW
  | dic ks=>obtain ⟨L,q,_⟩:=q; exact jOC hr.tb q jPI yCJ
  | dik ks=>obtain ⟨L,q,_⟩:=q; exact jOC hr.tb q yTW vDX
  | ins c fs=>obtain ⟨dx,vs,q,_⟩:=q; exact jOC hr.tb q yCI vBL
 ·rcases yIQ e1 with ⟨rfl,rfl⟩ | ⟨hm,e3⟩
  ·rw [em] at e2; cases e2
   exact ⟨hF,hc⟩
  ·have ne:b≠a:=fun z=>by
    subst z
    have i1:=(List.getElem?_eq_some_iff.mp e2).1
    have i2:=(List.getElem?_eq_some_iff.mp em).1
    exact hm ((List.getElem?_inj i1 hr.nd).mp (e2.trans em.symm))
   obtain ⟨h1,h2⟩:=hr.cell m c1 b e3 e2
   exact ⟨h1,h2.off ne⟩
theorem jLX (hr:HRel B W h H) (e:h[n]?=some (some c)) (em:W.m[n]?=some a):Step W h H W (h.set n (some c')) (upd H a o):=by
 refine ⟨.refl W,by rw [List.length_set]; exact Nat.le_refl _,fun m c1 hm e1=>?_,fun b u e1 _ nl=>?_,fun b e1=>?_,fun b e1 _ _=>e1,by rw [List.length_set]; exact hr.len,fun m b hm e1=>?_⟩
 ·rcases yIQ e1 with ⟨rfl,rfl⟩ | ⟨_,e3⟩
  ·exact ⟨_,e⟩
  ·exact ⟨_,e3⟩
 ·have ne:b≠a:=fun z=>nl (z ▸ ⟨n,c,e,em⟩)
  rw [upd_ne ne]; exact e1
 ·by_cases hba:b=a
  ·rw [hba,upd_same] at e1; cases e1
  ·rw [upd_ne hba] at e1; exact e1
 ·have:=(List.getElem?_eq_some_iff.mp e1).1
  rw [hr.len] at this; omega
theorem jGE:W.Le ⟨W.F,W.m++[p]⟩:=⟨fun _ _ e=>e,List.prefix_append _ _⟩
theorem jOD {α:Type} {l:List α} {x y:α} {n:Nat} (e:(l++[x])[n]?=some y):(n < l.length∧l[n]?=some y)∨(n=l.length∧y=x):=by
 by_cases hn:n < l.length
 ·rw [List.getElem?_append_left hn] at e
  exact .inl ⟨hn,e⟩
 ·rw [List.getElem?_append_right (by omega)] at e
  by_cases h0:n - l.length=0
  ·rw [h0] at e
   cases e
   exact .inr ⟨by omega,rfl⟩
  ·obtain ⟨m,hm⟩:=Nat.exists_eq_succ_of_ne_zero h0
   rw [hm] at e
   simp at e
theorem jWE (hr:HRel B W h H) (hF:W.F p=none) (hm:p∉W.m) (hp:H p≠none) (hc:CellR B W H p c):HRel B ⟨W.F,W.m++[p]⟩ (h++[some c]) H:=by
 refine ⟨hr.agree,by simp [hr.len],?_,fun b hb=>?_,hr.hz,hr.fz,hr.tb,fun m c1 b e1 e2=>?_⟩
 ·rw [List.nodup_append]
  exact ⟨hr.nd,by simp,fun x hx y hy e=>hm (by simp at hy; rw [← hy,← e]; exact hx)⟩
 ·rcases List.mem_append.mp hb with hb | hb
  ·exact hr.mt b hb
  ·simp at hb; rw [hb]; exact hp
 ·have e2:(W.m++[p])[m]?=some b:=e2
  rcases jOD e1 with ⟨hn,e3⟩ | ⟨rfl,e3⟩
  ·rcases jOD e2 with ⟨_,e4⟩ | ⟨e4,_⟩
   ·obtain ⟨h1,h2⟩:=hr.cell m c1 b e3 e4
    exact ⟨h1,h2.mono jGE fun _ z=>z⟩
   ·rw [hr.len] at e4; omega
  ·cases e3
   rcases jOD e2 with ⟨hn,_⟩ | ⟨_,rfl⟩
   ·rw [hr.len] at hn; omega
   ·exact ⟨hF,hc.mono jGE fun _ z=>z⟩
theorem Step.snoc {H0:Hp} {W0:Wd} {h0:AH} (st:Step W0 h0 H0 W h H) (hp:H0 p=none):Step W0 h0 H0 ⟨W.F,W.m++[p]⟩ (h++[some c]) H:=by
 refine ⟨st.le.trans jGE,by rw [List.length_append]; exact Nat.le_trans st.hl (Nat.le_add_right _ _),fun m c1 hm e=>?_,st.keep,st.tr,st.fgrow,by simp [st.hm],fun m b hm e=>?_⟩
 ·rw [List.getElem?_append_left (Nat.lt_of_lt_of_le hm st.hl)] at e
  exact st.dead m c1 hm e
 ·rcases jOD e with ⟨_,e4⟩ | ⟨_,rfl⟩
  ·exact st.mnew m b hm e4
  ·exact hp
theorem jZS (r:Rel B N W s σ H) (l:Loose N W s σ p) (hp:H p≠none) (hc:CellR B W H p c):Rel B N ⟨W.F,W.m++[p]⟩ ⟨s.e,s.h++[some c]⟩ σ H:=by
 refine ⟨jWE r.hr l.F l.m hp hc,r.st.snoc l.e,r.len,fun i x e=>?_,r.dis,r.pin.trans jGE⟩
 obtain ⟨v,e1,sl⟩:=r.env i x e
 refine ⟨v,e1,?_⟩
 cases x with
 | own xs =>
  obtain ⟨b,vs,rfl,h1,h2,h3,h4,h5⟩:=sl
  refine ⟨b,vs,rfl,h1,h2.mono jGE,h3,fun z=>?_,h5⟩
  rcases List.mem_append.mp z with z | z
  ·exact h4 z
  ·simp at z
   subst z
   exact l.o i _ e rfl e1
 | don ks=>exact DonR.mono jGE sl
 | _=>exact Rep.mono jGE sl
end
def jWP (mn:S→R S (List PV)):ME:=fun s=>(mn s).bind fun xs s1=>.ok (.cel s1.h.length) ⟨s1.e,s1.h++[some (.lst xs)]⟩
section
variable {X:Cx} {B:Bs} {N:Ent} {WX:L2.WX} {W W':Wd} {s s':S} {σ:L2.St} {H H':Hp} {e o i:Expr} {es:List Expr} {mn:S→R S (List PV)} {ma:MA} {m mo mi:ME} {pos:Pos}
theorem jLS (h:SimN X B N WX e mn):SimE X B N WX e (jWP mn):=h.imp fun σ H Q ⟨W,s,r,h⟩=>⟨W,s,r,R.post_mono (R.post_bind h) (fun xs s1 q W1 H1 r1 st p vs hp l hH rv=>by
 have ne:H1 p≠none:=by rw [hH]; exact fun z=>nomatch z
 have r2:=jZS (c:=.lst xs) r1 l ne ⟨vs,hH,rv⟩
 exact q _ H1 r2 ⟨st.st.snoc hp,st.eo⟩ _ (Rep.cel (by show (W1.m++[p])[s1.h.length]?=some p; rw [← r1.hr.len]; simp)).hand) fun x s1 q=>q⟩
def jHT (ma:MA):S→R S (List PV):=fun s=>(ma s).bind fun vs s1=>if vM vs=true∧vs.length≤sizeLine then .ok vs s1 else .bad
theorem wC (ha:SimA X B N WX es ma):SimN X B N WX (.List es pos) (jHT ma) :=
 (pe_lst ha).imp fun σ H Q ⟨W,s,r,h⟩=>⟨W,s,r,R.post_mono (R.post_bind h) (fun vs s1 q W1 H1 r1 st vs' rv=>by
  split at q
  ·rename_i hc
   have rv':=rv.reps hc.1
   have hz:vs'.length≤sizeLine:=by rw [← rv'.length]; exact hc.2
   refine ⟨hz,fun p hp=>?_⟩
   have l:=r1.loose hp
   have hp0:H p=none:=st.st.tr _ hp
   exact q W1 _ (jHY r1 l (o:=.lst vs') hz (.inl hp)) (st.put hp0 l.m) p vs' hp0 l upd_same rv'
  ·exact q.elim) fun x s1 q=>q⟩
end
end Lp
set_option maxHeartbeats 4000000
namespace Lp
open PySem PySem.Spec PyProof.Rows L2
section
variable {B:Bs} {N:Ent} {W W':Wd} {s s':S} {σ:L2.St} {H H':Hp} {i:Nat} {xs:List PV}
theorem yGR (r:Rel B N W s σ H) (e:s.e[i]?=some (some (.own xs))):∃ p vs,σ[i]?=some (some (.ref p))∧H p=some (.lst vs)∧Reps B W xs vs∧Rel B N W ⟨s.e.set i none,s.h⟩ σ H∧Loose N W ⟨s.e.set i none,s.h⟩ σ p:=by
 obtain ⟨v,e1,p,vs,rfl,hH,rv,hF,hm,h0⟩:=r.env i _ e
 have g:∀ (j:Nat) (y:PV),(s.e.set i none)[j]?=some (some y)→j≠i∧s.e[j]?=some (some y):=fun j y f=>by
  by_cases hj:i=j
  ·subst hj
   by_cases hl:i < s.e.length
   ·rw [List.getElem?_set_self hl] at f; cases f
   ·rw [List.getElem?_eq_none (by rw [List.length_set]; omega)] at f; cases f
  ·rw [List.getElem?_set_ne hj] at f
   exact ⟨fun z=>hj z.symm,f⟩
 refine ⟨p,vs,e1,hH,rv,⟨r.hr,r.st,by rw [r.len]; simp,fun j y ej=>r.env j y (g j y ej).2,fun j k y z a hjk f1 f2 o1 o2 s1 s2=>r.dis j k y z a hjk (g j y f1).2 (g k z f2).2 o1 o2 s1 s2,r.pin⟩,hF,hm,fun j y f o z=>?_,h0⟩
 obtain ⟨ne,f'⟩:=g j y f
 exact r.dis i j _ y p (Ne.symm ne) e f' rfl o e1 z
theorem yDD (r:Rel B N W s σ H) (e:s.e[i]?=some (some (.own xs))):∃ p vs,σ[i]?=some (some (.ref p))∧H p=some (.lst vs)∧Reps B W xs vs ∧
  ∀ ys us,Reps B W ys us→us.length≤sizeLine→Rel B N W ⟨s.e.set i (some (.own ys)),s.h⟩ σ (upd H p (.lst us)):=by
 obtain ⟨p,vs,e1,hH,rv,rc,lc⟩:=yGR r e
 refine ⟨p,vs,e1,hH,rv,fun ys us ru hz=>?_⟩
 have r2:=jHY rc lc (o:=.lst us) hz (yIK hH)
 have:=jRS (i:=i) (p:=p) (xs:=ys) (vs:=us) (σ':=σ) r2 rfl (fun _ _=>rfl) (.inl e1) ⟨lc.F,lc.m,fun j x _ f o=>lc.o j x f o,lc.e⟩ upd_same ru
 simpa using this
end
def yFQ (xs:List PV) (k:PV) (v:PV):Option (List PV):=match k with
 | .int j=>if isOwn v=true then none else (ixN xs.length j).map fun q=>xs.set q v
 | _=>none
def jCI (h:AH) (n:Nat):Option (List PV):=match h[n]? with
 | some (some (.lst xs))=>some xs
 | _=>none
def yFX:PV→Option Nat
 | .cel n=>some n
 | _=>none
def jGS (mv mo mi:ME):MS:=fun s=>(mv s).bind fun v s1=>(mo s1).bind fun o s2=>(mi s2).bind fun k s3=>match yFX o with
 | some n=>match jCI s3.h n with
  | some xs=>match yFQ xs k v with
   | some ys=>.ok .nx ⟨s3.e,s3.h.set n (some (.lst ys))⟩
   | none=>.bad
  | none=>.bad
 | none=>.bad
def ownAt (e:List (Option PV)) (i:Nat):Option (List PV):=match e[i]? with
 | some (some (.own xs))=>some xs
 | _=>none
def jNZ (xs:List PV) (v:PV):Option (List PV):=if isOwn v=true∨sizeLine≤xs.length then none else some (xs++[v])
def jKL (mo me:ME):ME:=fun s=>(mo s).bind fun o s1=>match yFX o with
 | some n=>match jCI s1.h n with
  | some _=>(me s1).bind fun v s2=>match jCI s2.h n with
   | some xs=>match jNZ xs v with
    | some ys=>.ok .non ⟨s2.e,s2.h.set n (some (.lst ys))⟩
    | none=>.bad
   | none=>.bad
  | none=>.bad
 | none=>.bad
def wY (i:Nat) (me:ME):MS:=fun s=>match ownAt s.e i with
 | some _=>(me s).bind fun v s1=>match ownAt s1.e i with
  | some xs=>match jNZ xs v with
   | some ys=>.ok .nx ⟨s1.e.set i (some (.own ys)),s1.h⟩
   | none=>.bad
  | none=>.bad
 | none=>.bad
theorem jIR {h:AH} {n:Nat} {xs:List PV} (e:jCI h n=some xs):h[n]?=some (some (.lst xs)):=by
 unfold jCI at e
 split at e
 ·rename_i ys q; cases e; exact q
 ·cases e
theorem yFL {x:PV} {n:Nat} (e:yFX x=some n):x=.cel n:=by
 unfold yFX at e
 split at e
 ·cases e; rfl
 ·cases e
theorem jZX {e:List (Option PV)} {i:Nat} {xs:List PV} (h:ownAt e i=some xs):e[i]?=some (some (.own xs)):=by
 unfold ownAt at h
 split at h
 ·rename_i ys q; cases h; exact q
 ·cases h
theorem yQZ {xs ys:List PV} {k v:PV} (e:yFQ xs k v=some ys):∃ j q,k=.int j∧isOwn v=false∧ixN xs.length j=some q∧ys=xs.set q v:=by
 unfold yFQ at e
 split at e
 ·rename_i j
  split at e
  ·cases e
  ·rename_i o
   cases q:ixN xs.length j with
   | none=>rw [q] at e; cases e
   | some m=>rw [q] at e; cases e; exact ⟨j,m,rfl,by simpa using o,q,rfl⟩
 ·cases e
theorem yFP {xs ys:List PV} {v:PV} (e:jNZ xs v=some ys):isOwn v=false∧xs.length < sizeLine∧ys=xs++[v]:=by
 unfold jNZ at e
 split at e
 ·cases e
 ·rename_i o
  cases e
  simp only [not_or] at o
  exact ⟨by simpa using o.1,by omega,rfl⟩
section
variable {X:Cx} {B:Bs} {N:Ent} {WX:L2.WX} {W W':Wd} {s s':S} {σ:L2.St} {H H':Hp} {e o ie:Expr} {mv mo mi me:ME} {pos tpos apos cpos npos:Pos} {x:Str} {i:Nat}
theorem jGD {n:Nat} {v:V} (r:RepT B W H (.cel n) v):∃ a,v=.ref a∧W.m[n]?=some a:=by
 cases (show Rep B W (.cel n) v from r) with
 | cel h=>exact ⟨_,rfl,h⟩
theorem yAM {n:Nat} {a:Addr} {xs ys:List PV} {us:List V} (r:Rel B N W s σ H) (e:jCI s.h n=some xs) (em:W.m[n]?=some a) (ru:Reps B W ys us) (hz:us.length≤sizeLine):Rel B N W ⟨s.e,s.h.set n (some (.lst ys))⟩ σ (upd H a (.lst us))∧StepE W s H W ⟨s.e,s.h.set n (some (.lst ys))⟩ (upd H a (.lst us)):=by
 have hr2:=jMB (c':=.lst ys) r.hr (jIR e) em (o:=.lst us) hz ⟨us,upd_same,ru⟩
 have st:=jLX (c':=.lst ys) (o:=.lst us) r.hr (jIR e) em
 exact ⟨jBR r hr2 st,jEP st⟩
theorem jGN (hv:SimE X B N WX e mv) (ho:SimE X B N WX o mo) (hi:SimE X B N WX ie mi)
  (ha:∀ v,assign (.Subscript o ie tpos) X.env v=(do
   let ov ← holding [v] (eval o X.env)
   let iv ← holding [v,ov] (eval ie X.env)
   standAt tpos
   holding [v,ov,iv] (setItem ov iv v)
   release [v,ov,iv] []))
  (hs:swapsWithSole [.Subscript o ie tpos] e pos.line X.env=pure false) (hw:swappedStores [.Subscript o ie tpos] e X.env=pure none) (h1:(assignEach [.Subscript o ie tpos] X.env).map (·.2)=[assign (.Subscript o ie tpos) X.env]) :
  SimS X B N WX (.Assign [.Subscript o ie tpos] e pos) (jGS mv mo mi) :=
 (ps_asg hv (pg_sub ho hi set_list ha) hs hw h1).imp fun D σ H ⟨W,s,r,h⟩=>⟨W,s,r,h.bindE.mono fun v W1 s1 H1 r1 _ q v' rv=>⟨W1,s1,r1,q.bindE.mono fun ov W2 s2 H2 r2 st2 q o' ro=>⟨W2,s2,r2,q.bindE.mono fun k W3 s3 H3 r3 st3 q3 k' rk=>by
  split at q3
  ·rename_i n en
   split at q3
   ·rename_i xs ex
    split at q3
    ·rename_i ys ey
     obtain ⟨j,m,rfl,ov1,e3,rfl⟩:=yQZ ey
     obtain rfl:=yFL en
     obtain ⟨a,rfl,em⟩:=jGD (ro.on r2.slen st3.st)
     obtain ⟨_,vs,hH,rvs⟩:=r3.hr.cell n _ a (jIR ex) em
     have rv3:=((rv.on r1.slen st2.st).on r2.slen st3.st).rep ov1
     have hz:(vs.set m v').length≤sizeLine:=by rw [List.length_set]; exact r3.hr.hz a _ hH jCB
     refine ⟨a,vs,j,m,rfl,jAT rk,hH,by rw [← rvs.length]; exact e3,?_⟩
     exact q3 W3 σ _ (yAM r3 ex em (rvs.set rv3 m) hz).1
    ·exact q3.elim
   ·exact q3.elim
  ·exact q3.elim⟩⟩⟩
theorem jOO (ho:SimE X B N WX o mo) (he:SimE X B N WX e me) (hbase:attributeBase o "append" X.env (eval o X.env)=eval o X.env)
  (hfew:((backTo cpos (starEach [e] X.env)).all (fun x=>!x.1)&&(backToKw cpos (keywordEach [] X.env)).all (fun x=>x.1.isSome)&&decide (([e]:List Expr).length+([]:List Keyword).length+(if ([]:List Keyword).isEmpty then 0 else 1) < 30))=true)
  (hline:(apos.endLine == cpos.line)=true) (hs:starEach [e] X.env=(false,eval e X.env) :: starEach [] X.env) (hplain:(backTo cpos (starEach [] X.env)).any (·.1)=false) :
  SimE X B N WX (.Call (.Attribute o "append" apos) [e] [] cpos) (jKL mo me) :=
 (pe_bm PySem.F.plainAttrs_list PySem.F.slot_list_append PySem.F.type_list_append mt_append ho (pa_cons he pa_nil hs) hbase hfew hline hs hplain).imp fun σ H Q ⟨W,s,r,h⟩=>⟨W,s,r,(h.bind r.slen).mono fun o1 W1 s1 H1 r1 _ q o' ro=>by
  split at q
  ·rename_i n en
   obtain rfl:=yFL en
   obtain ⟨a,rfl,em⟩:=jGD ro
   split at q
   ·rename_i xs0 e0
    obtain ⟨_,vs0,hH0,_⟩:=r1.hr.cell n _ a (jIR e0) em
    refine ⟨.inl ⟨rfl,vs0,.inl (.inl hH0)⟩,W1,s1,r1,(q.bind r1.slen).mono fun v W2 s2 H2 r2 st2 q v' rv=>?_⟩
    split at q
    ·rename_i xs ex
     split at q
     ·rename_i ys ey
      obtain ⟨ov1,hz,rfl⟩:=yFP ey
      have em2:=st2.st.le.at em
      obtain ⟨_,vs,hH,rvs⟩:=r2.hr.cell n _ a (jIR ex) em2
      have hz':vs.length < sizeLine:=by rw [← rvs.length]; exact hz
      refine ⟨a,vs,v',rfl,rfl,hH,hz',?_⟩
      obtain ⟨r3,st3⟩:=yAM r2 ex em2 (rvs.append (.one (rv.rep ov1))) (by rw [List.length_append]; exact hz')
      exact q W2 _ r3 st3 .non Rep.non.hand
     ·exact q.elim
    ·exact q.elim
   ·exact q.elim
  ·exact q.elim⟩
theorem yV (hN:X.N[i]?=some x) (hx:Vis X.env.scope x) (hd:(x == ("__debug__" : Str))=false) (hcd:(x == ("__classdict__" : Str))=false) (he:SimE X B N WX e me) (hbase:attributeBase (.Name x npos) "append" X.env (eval (.Name x npos) X.env)=eval (.Name x npos) X.env)
  (hfew:((backTo cpos (starEach [e] X.env)).all (fun x=>!x.1)&&(backToKw cpos (keywordEach [] X.env)).all (fun x=>x.1.isSome)&&decide (([e]:List Expr).length+([]:List Keyword).length+(if ([]:List Keyword).isEmpty then 0 else 1) < 30))=true)
  (hline:(apos.endLine == cpos.line)=true) (hs:starEach [e] X.env=(false,eval e X.env) :: starEach [] X.env) (hplain:(backTo cpos (starEach [] X.env)).any (·.1)=false)
  (hsw:swapsWith (.Call (.Attribute (.Name x npos) "append" apos) [e] [] cpos) none pos.line X.env=pure false) :
  SimS X B N WX (.Expr (.Call (.Attribute (.Name x npos) "append" apos) [e] [] cpos) pos) (wY i me) :=
 (ps_expr (pe_bm PySem.F.plainAttrs_list PySem.F.slot_list_append PySem.F.type_list_append mt_append (pe_var hN hx hd hcd) (pa_cons he pa_nil hs) hbase hfew hline hs hplain) hsw).imp fun D σ H ⟨W,s,r,h⟩=>by
  unfold wY at h
  split at h
  ·rename_i xs0 e0
   obtain ⟨ov,eo,p0,vs0,rfl,hH0,_⟩:=r.env i _ (jZX e0)
   refine ⟨_,eo,.inl ⟨rfl,vs0,.inl (.inl hH0)⟩,W,s,r,h.bindE.mono fun v W2 s2 H2 r2 st2 q v' rv=>?_⟩
   split at q
   ·rename_i xs ex
    split at q
    ·rename_i ys ey
     obtain ⟨ov1,hz,rfl⟩:=yFP ey
     obtain ⟨p,vs,e1,hH,rvs,fin⟩:=yDD r2 (jZX ex)
     rw [e1] at eo
     cases eo
     have hz':vs.length < sizeLine:=by rw [← rvs.length]; exact hz
     exact ⟨_,vs,v',rfl,rfl,hH,hz',q W2 σ _ (fin _ _ (rvs.append (.one (rv.rep ov1))) (by rw [List.length_append]; exact hz'))⟩
    ·exact q.elim
   ·exact q.elim
  ·exact h.elim
end
def MethS (X:Cx) (B:Bs) (f:AH→Str→List PV→Option PV) (r:V→List V→Hp→VK→Prop):Prop:=∀ (W:Wd) (h:AH) (H:Hp) (x:Str) (xs:List PV) (z:PV) (xs':List V) (Q:VK),HRel B W h H→SOk x→RepTs B W H xs xs'→f h x xs=some z →
 (∀ W' H' z',Grow W H W' H'→RepT B W' H' z z'→Q z' H')→r (.str x) xs' H Q
def strN:PV→Option Str
 | .str x=>some x
 | _=>none
def eMS (f:AH→Str→List PV→Option PV) (mo:ME) (ma:MA):ME:=fun s=>(mo s).bind fun o s1=>match strN o with
 | some x=>(ma s1).bind fun vs s2=>match f s2.h x vs with
  | some z=>.ok z s2
  | none=>.bad
 | none=>.bad
section
variable {X:Cx} {B:Bs} {N:Ent} {WX:L2.WX} {W W':Wd} {s s':S} {σ:L2.St} {H H':Hp} {o e:Expr} {es:List Expr} {mo:ME} {ma:MA} {name:Str} {apos cpos:Pos} {id:String} {r:V→List V→Hp→VK→Prop} {f:AH→Str→List PV→Option PV}
theorem yEH {x:PV} {y:Str} (e:strN x=some y):x=.str y:=by
 unfold strN at e
 split at e
 ·cases e; rfl
 ·cases e
theorem yIO (slot:Slot "str" name id) (hty:typeOf (.builtin id)=pure (.type "method_descriptor")) (hm:MtR X id r) (hf:MethS X B f r) (ho:SimE X B N WX o mo) (ha:SimA X B N WX (e :: es) ma) (hbase:attributeBase o name X.env (eval o X.env)=eval o X.env)
  (hfew:((backTo cpos (starEach (e :: es) X.env)).all (fun x=>!x.1)&&(backToKw cpos (keywordEach [] X.env)).all (fun x=>x.1.isSome)
   && decide ((e :: es).length+([]:List Keyword).length+(if ([]:List Keyword).isEmpty then 0 else 1) < 30))=true)
  (hline:(apos.endLine == cpos.line)=true) (hs:starEach (e :: es) X.env=(false,eval e X.env) :: starEach es X.env) (hplain:(backTo cpos (starEach es X.env)).any (·.1)=false) :
  SimE X B N WX (.Call (.Attribute o name apos) (e :: es) [] cpos) (eMS f mo ma) :=
 (pe_bm PySem.F.plainAttrs_str slot hty hm ho ha hbase hfew hline hs hplain).imp fun σ H Q ⟨W,s,r0,h⟩=>⟨W,s,r0,(h.bind r0.slen).mono fun o1 W1 s1 H1 r1 _ q o' ro=>by
  split at q
  ·rename_i x ex
   obtain rfl:=yEH ex
   obtain ⟨rfl,hx⟩:=jEO ro
   refine ⟨rfl,W1,s1,r1,(q.bind r1.slen).mono fun vs W2 s2 H2 r2 st2 q vs' rvs=>?_⟩
   split at q
   ·rename_i z ez
    exact hf W2 s2.h H2 x vs z vs' Q r2.hr hx rvs ez fun W' H' z' g rz=>q W' H' (g.rel r2) (g.stepE r2.hr) z' rz
   ·exact q.elim
  ·exact q.elim⟩
end
def strsOf (xs:List PV):Option (List Str):=xs.mapM strN
def jQM:AH→Str→List PV→Option PV:=fun h x xs=>match xs with
 | [y]=>(asS h y).bind fun zs=>(strsOf zs).bind fun ys=>if (ys.map (·.length)).sum+ys.length * x.length≤16777216∧PyData.strOk (Txt.join x ys)=true∧(Txt.join x ys).length≤sizeLine then some (.str (Txt.join x ys)) else none
 | _=>none
theorem jVS {B:Bs} {W:Wd}:∀ {ys:List PV} {vs:List V} {bs:List Str},Reps B W ys vs→strsOf ys=some bs→vs=bs.map V.str
 | _,_,bs,.nil,e=>by
  simp [strsOf] at e; subst e; rfl
 | x :: xs,_,bs,.cons (v:=v) r t,e=>by
  unfold strsOf at e
  rw [List.mapM_cons] at e
  cases q:strN x with
  | none=>rw [q] at e; cases e
  | some y =>
   rw [q] at e
   cases q2:xs.mapM strN with
   | none=>rw [q2] at e; cases e
   | some zs =>
    rw [q2] at e
    cases e
    obtain rfl:=yEH q
    rw [jVS t (show strsOf xs=some zs from q2)]
    cases r
    rfl
theorem jZP {X:Cx} {B:Bs} (hK:X.K=B.K):MethS X B jQM (fun x xs H Q=>∃ a p,∃ ys:List Str,x=.str a∧xs=[.ref p]∧(SqL X.K H p (ys.map V.str)∨SqT X.K H p (ys.map V.str))∧(ys.map (·.length)).sum+ys.length * a.length≤16777216∧Q (.str (Txt.join a ys)) H):=by
 intro W h H x xs z xs' Q hr hx rxs e q
 unfold jQM at e
 split at e
 ·rename_i y
  obtain ⟨v,rfl,rv⟩:=repts1 rxs
  cases q1:asS h y with
  | none=>rw [q1] at e; cases e
  | some zs =>
   rw [q1] at e
   cases q2:strsOf zs with
   | none =>
    have e:(strsOf zs).bind _=some z:=e
    rw [q2] at e; cases e
   | some ys =>
    have e:(strsOf zs).bind _=some z:=e
    rw [q2] at e
    have e:(if _ then _ else _)=some z:=e
    split at e
    ·rename_i hz
     cases e
     obtain ⟨a,vs,rfl,hs,rvs⟩:=jSQ hK hr rv q1
     have:=jVS rvs q2
     subst this
     exact ⟨x,a,ys,rfl,rfl,hs.symm,hz.1,q W H _ (.refl W H) (Rep.str _ ⟨hz.2.1,hz.2.2⟩).hand⟩
    ·cases e
 ·cases e
def BT.nm:BT→String
 | .non => "NoneType" | .bl => "bool" | .int => "int" | .str => "str" | .tup => "tuple" | .lst => "list" | .dic => "dict"
def BT.of (n:String):Option BT:=if n = "bool" then some .bl else if n = "int" then some .int else if n = "str" then some .str else if n = "tuple" then some .tup else if n = "list" then some .lst else if n = "dict" then some .dic else none
@[simp] theorem BT.of_bool:BT.of "bool" = some .bl:=rfl
@[simp] theorem BT.of_int:BT.of "int" = some .int:=rfl
@[simp] theorem BT.of_str:BT.of "str" = some .str:=rfl
@[simp] theorem BT.of_tuple:BT.of "tuple" = some .tup:=rfl
@[simp] theorem BT.of_list:BT.of "list" = some .lst:=rfl
@[simp] theorem BT.of_dict:BT.of "dict" = some .dic:=rfl
def subT:BT→BT→Bool
 | .bl,.int=>true
 | .non,.non=>true
 | .bl,.bl=>true
 | .int,.int=>true
 | .str,.str=>true
 | .tup,.tup=>true
 | .lst,.lst=>true
 | .dic,.dic=>true
 | _,_=>false
theorem BT.of_nm {n:String} {t:BT} (e:BT.of n=some t):n=t.nm:=by
 unfold BT.of at e
 repeat (split at e; · (rename_i h; cases e; exact h))
 cases e
theorem yFF:∀ {a b:BT},b≠.non→kitB a.nm b.nm=some (subT a b):=fun {a b} h=>by
 cases b <;> (first | exact absurd rfl h | skip) <;> cases a <;> decide +kernel
theorem BT.of_ne {n:String} {t:BT} (e:BT.of n=some t):t≠.non:=by
 unfold BT.of at e
 repeat (split at e; · (cases e; exact fun z=>nomatch z))
 cases e
def tyN (h:AH):PV→Option BT
 | .non=>some .non
 | .bl _=>some .bl
 | .int _=>some .int
 | .str _=>some .str
 | .tup _=>some .tup
 | x=>(asL h x).map fun _=>.lst
def jMU:List PV→Option (List BT)
 | []=>some []
 | .ty n :: xs=>(BT.of n).bind fun t=>(jMU xs).map fun ts=>t :: ts
 | _=>none
def wZ:AH→List PV→Option PV:=fun h xs=>match xs with
 | [x,.ty n]=>(tyN h x).bind fun t=>(BT.of n).map fun u=>.bl (subT t u)
 | [x,.tup cs]=>(tyN h x).bind fun t=>(jMU cs).map fun us=>.bl (us.any (subT t))
 | _=>none
section
variable {X:Cx} {B:Bs} {W:Wd} {h:AH} {H:Hp}
theorem yCC (hK:X.K=B.K) (hr:HRel B W h H) {x:PV} {x':V} {t:BT} (rx:RepT B W H x x') (e:tyN h x=some t):TyX X.K H x' (.type t.nm):=by
 have fin:(asL h x).map (fun _=>BT.lst)=some t→TyX X.K H x' (.type t.nm):=fun e=>by
  cases q:asL h x with
  | none=>rw [q] at e; cases e
  | some xs =>
   rw [q] at e; cases e
   obtain ⟨a,vs,rfl,h1,_⟩:=jKN hr rx q
   rcases h1 with (h1 | ⟨o,h1⟩) | ⟨o,its,n,h1,h2,_⟩
   ·exact .base (.lst h1)
   ·exact .base (.frz h1)
   ·exact .kList (hK ▸ h1) h2
 cases x with
 | non=>cases e; rw [jXS rx]; exact .base .non
 | bl b=>cases e; rw [yCE rx]; exact .base (.bl b)
 | int i=>cases e; rw [jAT rx]; exact .base (.int i)
 | str y=>cases e; rw [(jEO rx).1]; exact .base (.str y)
 | tup xs =>
  cases e
  cases (show Rep B W (.tup xs) x' from rx) with
  | tup h1 r =>
   rcases h1 with h1 | ⟨o,its,n,h1,h2,_⟩
   ·exact .base (.tup (hr.agree _ _ h1))
   ·exact .kTuple (hK ▸ h1) h2
 | _=>exact fin e
theorem jZK:∀ {cs:List PV} {vs:List V} {us:List BT},Reps B W cs vs→jMU cs=some us→(∀ u∈us,u≠.non)∧Paired ClsV vs (us.map fun u=>.type u.nm)
 | _,_,us,.nil,e=>by cases e; exact ⟨fun _ h=>(by cases h),.nil⟩
 | .ty n :: cs,_,us,.cons r t,e=>by
  rw [jMU] at e
  cases q:BT.of n with
  | none=>rw [q] at e; cases e
  | some b =>
   rw [q] at e
   cases q2:jMU cs with
   | none=>have e:(jMU cs).map _=some us:=e; rw [q2] at e; cases e
   | some bs =>
    have e:(jMU cs).map _=some us:=e
    rw [q2] at e
    cases e
    obtain ⟨h1,h2⟩:=jZK t q2
    cases r
    refine ⟨fun u hu=>?_,?_⟩
    ·rcases List.mem_cons.mp hu with rfl | hu
     ·exact BT.of_ne q
     ·exact h1 u hu
    ·rw [BT.of_nm q]
     exact .cons (.ty _) h2
 | .non :: _,_,_,.cons _ _,e=>by cases e
 | .bl _ :: _,_,_,.cons _ _,e=>by cases e
 | .int _ :: _,_,_,.cons _ _,e=>by cases e
 | .str _ :: _,_,_,.cons _ _,e=>by cases e
 | .tup _ :: _,_,_,.cons _ _,e=>by cases e
 | .lst _ :: _,_,_,.cons _ _,e=>by cases e
 | .scr _ :: _,_,_,.cons _ _,e=>by cases e
 | .own _ :: _,_,_,.cons _ _,e=>by cases e
 | .dic _ :: _,_,_,.cons _ _,e=>by cases e
 | .don _ :: _,_,_,.cons _ _,e=>by cases e
 | .ins _ _ :: _,_,_,.cons _ _,e=>by cases e
 | .cel _ :: _,_,_,.cons _ _,e=>by cases e
 | .cls _ :: _,_,_,.cons _ _,e=>by cases e
theorem jPU {K:PySem.W.Frag} {t:BT}:∀ {us:List BT},(∀ u∈us,u≠.non)→PySem.W.kitAny K (.type t.nm) (us.map fun u=>.type u.nm)=some (us.any (subT t))
 | [],_=>rfl
 | u :: us,h=>by
  have h1:PySem.W.kitOne K (.type t.nm) (.type u.nm)=some (subT t u):=kit_ty (yFF (h u (by simp)))
  have h2:=jPU (K:=K) (t:=t) (us:=us) fun v hv=>h v (List.mem_cons_of_mem _ hv)
  rw [List.map_cons,List.any_cons]
  exact kitAny_cons h1 (fun e=>by rw [e,Bool.false_or]; exact h2) (fun e=>by rw [e,Bool.true_or])
theorem yMK {us:List BT}:∀ {vs:List V} {ws:List Value},Paired ClsV vs (us.map fun u=>.type u.nm)→Vals vs ws→ws=us.map fun u=>.type u.nm:=fun a b=>ClsV.all a b
abbrev yTS (K:PySem.W.Frag):List V→Hp→VK→Prop:=fun xs H Q=>rIsi K xs H Q∨rIsiT K xs H Q∨rIsiK K xs H Q
theorem yHH:CallR X (.builtin "isinstance") (yTS X.K):=fun pins s σ H xs us Q I r h=>h.elim (call_isi pins s σ H xs us Q I r) fun h=>h.elim (call_isiT pins s σ H xs us Q I r) (call_isiK pins s σ H xs us Q I r)
theorem yRC (hK:X.K=B.K):CallSem X B wZ (yTS X.K):=by
 intro W h H xs z xs' Q hr rxs e q
 unfold wZ at e
 split at e
 ·rename_i x n
  obtain ⟨v,w,rfl,rv,rw'⟩:=repts2 rxs
  cases q1:tyN h x with
  | none=>rw [q1] at e; cases e
  | some t =>
   rw [q1] at e
   have e:(BT.of n).map _=some z:=e
   cases q2:BT.of n with
   | none=>rw [q2] at e; cases e
   | some u =>
    rw [q2] at e
    cases e
    cases (show Rep B W (.ty n) w from rw')
    refine .inl ⟨v,.ty n,_,.type n,subT t u,rfl,.ty n,yCC hK hr rv q1,?_,q W H _ (.refl W H) (Rep.bl _).hand⟩
    rw [BT.of_nm q2]
    exact kit_ty (yFF (BT.of_ne q2))
 ·rename_i x cs
  obtain ⟨v,w,rfl,rv,rw'⟩:=repts2 rxs
  cases q1:tyN h x with
  | none=>rw [q1] at e; cases e
  | some t =>
   rw [q1] at e
   have e:(jMU cs).map _=some z:=e
   cases q2:jMU cs with
   | none=>rw [q2] at e; cases e
   | some us =>
    rw [q2] at e
    cases e
    cases (show Rep B W (.tup cs) w from rw') with
    | tup h1 r =>
     obtain ⟨k1,k2⟩:=jZK r q2
     rcases h1 with h1 | ⟨o,its,m,h1,h2,h3,h4,h5⟩
     ·exact .inr (.inl ⟨v,_,_,_,us.map fun u=>.type u.nm,_,rfl,hr.agree _ _ h1,k2,yCC hK hr rv q1,jPU k1,q W H _ (.refl W H) (Rep.bl _).hand⟩)
     ·have e5:=yMK k2 h5
      obtain ⟨oc,od,dt,sl⟩:=o
      simp only at h2 h3
      subst h2 h3
      refine .inr (.inr ⟨v,_,od,us.map fun u=>.type u.nm,m,sl,_,_,rfl,?_,yCC hK hr rv q1,jPU k1,q W H _ (.refl W H) (Rep.bl _).hand⟩)
      rw [hK,h1,← e5]
 ·cases e
theorem jAI {N:Ent} {WX:L2.WX} {x:Str} {T:String} {pos:Pos} (hg:Gl X x) (hm:X.mg x=none) (hv:bootBuiltins x=some (.type T)) (hn:x ≠ "__name__") (hdb:(x == ("__debug__" : Str))=false):SimE X B N WX (.Name x pos) (eC (.ty T)) :=
 jSA (pe_bltn (v:=.ty T) hg hm hv rfl hn hdb) fun _=>.ty T
end
end Lp
set_option maxHeartbeats 4000000
namespace Lp
open PySem PySem.Spec PyProof.Rows L2
def intsOf (xs:List PV):Option (List Int):=xs.mapM fun x=>match x with
 | .int i=>some i
 | _=>none
theorem jPV {B:Bs} {W:Wd}:∀ {ys:List PV} {vs:List V} {bs:List Int},Reps B W ys vs→intsOf ys=some bs→vs=bs.map V.int
 | _,_,bs,.nil,e=>by
  simp [intsOf] at e; subst e; rfl
 | x :: xs,_,bs,.cons (v:=v) r t,e=>by
  unfold intsOf at e
  rw [List.mapM_cons] at e
  cases x with
  | int i =>
   cases q2:xs.mapM (fun x=>match x with | PV.int i=>some i | _=>none) with
   | none=>rw [q2] at e; cases e
   | some zs =>
    rw [q2] at e
    cases e
    rw [jPV t (show intsOf xs=some zs from q2)]
    cases r
    rfl
  | _=>cases e
def yHZ (g:List Int→List Int→Bool):AH→PV→PV→Option PV:=fun _ x y=>match x,y with
 | .tup xs,.tup ys=>match intsOf xs,intsOf ys with
  | some ns,some ms=>some (.bl (g ns ms))
  | _,_=>none
 | _,_=>none
def yIA:AH→PV→PV→Option PV:=fun _ x y=>match x,y with
 | .tup xs,.int k=>if xs≠[]∧2≤k∧k≤1000∧xs.length≤1000 then some (.tup (List.replicate k.toNat xs).flatten) else none
 | _,_=>none
section
variable {X:Cx} {B:Bs}
theorem yGN (hK:X.K=B.K):OpSem X B (yHZ HT.lexLt) (rLtT X.K):=by
 intro W h H x y z x' y' Q hr rx ry e q
 unfold yHZ at e
 split at e
 ·rename_i xs ys
  split at e
  ·rename_i ns ms e1 e2
   cases e
   obtain ⟨a,vs,rfl,h1,r1⟩:=jGY hK hr (show Rep B W (.tup xs) x' from rx)
   obtain ⟨b,us,rfl,h2,r2⟩:=jGY hK hr (show Rep B W (.tup ys) y' from ry)
   rw [jPV r1 e1] at h1
   rw [jPV r2 e2] at h2
   exact ⟨a,b,ns,ms,rfl,rfl,h1,h2,q W H _ (.refl W H) (Rep.bl _).hand⟩
  ·cases e
 ·cases e
theorem yKA (hK:X.K=B.K):OpSem X B yIA (rRepT X.K):=by
 intro W h H x y z x' y' Q hr rx ry e q
 unfold yIA at e
 split at e
 ·rename_i xs k
  split at e
  ·rename_i hz
   cases e
   obtain ⟨a,vs,rfl,h1,r1⟩:=jGY hK hr (show Rep B W (.tup xs) x' from rx)
   have hl:=r1.length
   have l2:vs.length≤1000:=by omega
   refine ⟨a,k,vs,rfl,jAT ry,h1,fun z=>hz.1 (by rw [z] at hl; exact List.length_eq_zero_iff.mp hl),hz.2.1,hz.2.2.1,l2,fun p hp=>?_⟩
   refine q _ _ _ (.new hp ?_) (jDA (hr.fnone hp) (r1.rep k.toNat)).hand
   show (List.replicate k.toNat vs).flatten.length≤sizeLine
   rw [yAJ]
   have h3:k.toNat≤1000:=by have:=hz.2.2.1; omega
   have h4:vs.length * k.toNat≤1000 * 1000:=Nat.mul_le_mul l2 h3
   have h5:1000 * 1000≤sizeLine:=by decide
   omega
  ·cases e
 ·cases e
def zH:AH→PV→PV→Option PV:=fun h x y=>match x,y with
 | .int i,.int j=>some (.int (i+j))
 | .str _,_=>yID h x y
 | .tup _,_=>yIC h x y
 | _,_=>yIE h x y
def rAdd (K:PySem.W.Frag):R2:=fun x y H Q=>rI0 (fun i j=>.int (i+j)) x y H Q∨(∃ i j,x=.str i∧y=.str j∧i.length+j.length≤sizeLine∧Q (.str (i++j)) H)∨rCatA K x y H Q∨rCat x y H Q
theorem vDU:OpR X (binaryOp .Add) (rAdd X.K):=op_add.or (op_add_str.or (op_catA.or op_cat))
theorem yZU (hK:X.K=B.K):OpSem X B zH (rAdd X.K):=by
 intro W h H x y z x' y' Q hr rx ry e q
 unfold zH at e
 split at e
 ·exact .inl (yZS (X:=X) (f:=fun i j=>i+j) W h H _ _ z x' y' Q hr rx ry e q)
 ·exact .inr (.inl (yKH (X:=X) (B:=B) W h H _ _ z x' y' Q hr rx ry e q))
 ·exact .inr (.inr (.inl (yKG hK W h H _ _ z x' y' Q hr rx ry e q)))
 ·exact .inr (.inr (.inr (yKI (X:=X) W h H _ _ z x' y' Q hr rx ry e q)))
def jDY:AH→PV→PV→Option PV:=fun h x y=>match x,y with
 | .int _,_=>fI yBT h x y
 | .tup _,_=>yIA h x y
 | _,_=>yIB h x y
def vCM (K:PySem.W.Frag):R2:=fun x y H Q=>rI CMul (fun i j=>.int (i * j)) x y H Q∨rRepT K x y H Q∨rRep x y H Q
theorem vDT:OpR X (binaryOp .Mult) (vCM X.K):=op_mul.or (op_repT.or op_rep)
theorem yZT (hK:X.K=B.K):OpSem X B jDY (vCM X.K):=by
 intro W h H x y z x' y' Q hr rx ry e q
 unfold jDY at e
 split at e
 ·exact .inl (yDW (X:=X) ySJ W h H _ _ z x' y' Q hr rx ry e q)
 ·exact .inr (.inl (yKA hK W h H _ _ z x' y' Q hr rx ry e q))
 ·exact .inr (.inr (yKB (X:=X) W h H _ _ z x' y' Q hr rx ry e q))
def jYX:AH→PV→PV→Option PV:=fI jZH
def jKI:AH→PV→PV→Option PV:=fI yHU
def yMH:AH→PV→PV→Option PV:=fI yUK
def fLt:AH→PV→PV→Option PV:=fun h x y=>match x,y with
 | .int i,.int j=>some (.bl (decide (i < j)))
 | _,_=>yHZ HT.lexLt h x y
def rLt (K:PySem.W.Frag):R2:=fun x y H Q=>rI0 (fun i j=>.bl (decide (i < j))) x y H Q∨rLtT K x y H Q
theorem vEP (hu:X.A.units < cLine):OpR X (compareOp .Lt) (rLt X.K):=op_lt.or (op_ltT hu)
theorem vDH (hK:X.K=B.K):OpSem X B fLt (rLt X.K):=by
 intro W h H x y z x' y' Q hr rx ry e q
 unfold fLt at e
 split at e
 ·exact .inl (jWX (X:=X) (g:=fun i j=>decide (i < j)) W h H _ _ z x' y' Q hr rx ry e q)
 ·exact .inr (yGN hK W h H _ _ z x' y' Q hr rx ry e q)
def fLe:AH→PV→PV→Option PV:=fIB fun i j=>decide (i≤j)
def fGt:AH→PV→PV→Option PV:=fIB fun i j=>decide (j < i)
def fGe:AH→PV→PV→Option PV:=fIB fun i j=>decide (j≤i)
end
section
variable {X:Cx} {B:Bs} {N:Ent} {WX:L2.WX} {a b:Expr} {ma mb:ME} {pos:Pos} {k:Nat}
theorem uE (hK:X.K=B.K) (ha:SimE X B N WX a ma) (hb:SimE X B N WX b mb):SimE X B N WX (.BinOp a .Add b pos) (jO zH ma mb):=jSM vDU (yZU hK) ha hb
theorem jCC (hK:X.K=B.K) (ha:SimE X B N WX a ma) (hb:SimE X B N WX b mb):SimE X B N WX (.BinOp a .Mult b pos) (jO jDY ma mb):=jSM vDT (yZT hK) ha hb
theorem yEQ (ha:SimE X B N WX a ma) (hb:SimE X B N WX b mb):SimE X B N WX (.BinOp a .FloorDiv b pos) (jO jYX ma mb):=jSM op_fdivN (yDW yLS) ha hb
theorem jOF (ha:SimE X B N WX a ma) (hb:SimE X B N WX b mb):SimE X B N WX (.BinOp a .Mod b pos) (jO jKI ma mb):=jSM op_modN (yDW (f:=fun i j=>i.fmod j) ySK) ha hb
theorem yQS (ha:SimE X B N WX a ma) (hb:SimE X B N WX b mb):SimE X B N WX (.BinOp a .Pow b pos) (jO yMH ma mb):=jSM op_pow (yDW yRN) ha hb
structure CmpOk (X:Cx) (B:Bs) (op:CmpOp) (f:AH→PV→PV→Option PV):Prop where
 ex:∃ r:R2,OpR X (compareOp op) r∧OpSem X B f r
abbrev U9 (A:Around):Prop:=A.units+200 < cLine
theorem _root_.L2.Room.u9 {k:Nat} {A:Around} (r:Room k A):U9 A:=by have:=r.un; show A.units+200 < cLine; omega
theorem vO (hK:X.K=B.K) (hr:U9 X.A):CmpOk X B .Eq fEq:=⟨_,op_eqD (Nat.lt_of_le_of_lt (by omega) hr),yZR hK⟩
theorem jBO (hK:X.K=B.K) (hr:U9 X.A):CmpOk X B .NotEq fNe:=⟨_,op_neD (Nat.lt_of_le_of_lt (by omega) hr),yZO hK⟩
theorem yIG (hK:X.K=B.K) (hr:U9 X.A):CmpOk X B .Lt fLt:=⟨_,vEP (Nat.lt_of_le_of_lt (by omega) hr),vDH hK⟩
theorem yUF:CmpOk X B .LtE fLe:=⟨_,op_le,jWX⟩
theorem yUG:CmpOk X B .Gt fGt:=⟨_,op_gt,jWX⟩
theorem vEF:CmpOk X B .GtE fGe:=⟨_,op_ge,jWX⟩
theorem jHB:CmpOk X B .Is jDZ:=⟨_,op_isN,yRD⟩
theorem yTD:CmpOk X B .IsNot jVP:=⟨_,op_notN,yKC⟩
theorem jDR (hK:X.K=B.K) (hr:U9 X.A):CmpOk X B .In fIn:=⟨_,vDS (by have hr:X.A.units+200 < cLine:=hr; omega),yZQ hK⟩
theorem jPN (hK:X.K=B.K) (hr:U9 X.A):CmpOk X B .NotIn jIF:=⟨_,yIV (by have hr:X.A.units+200 < cLine:=hr; omega),yES hK⟩
variable {op op':CmpOp} {f g:AH→PV→PV→Option PV} {c:Expr} {mc:ME}
theorem qD (o:CmpOk X B op f) (ha:SimE X B N WX a ma) (hb:SimE X B N WX b mb) (hm:behindInMarks op b=false):SimE X B N WX (.Compare a [op] [b] pos) (jO f ma mb):=by
 obtain ⟨r,h1,h2⟩:=o.ex
 exact yJY h1 h2 ha hb hm
theorem jR (o:CmpOk X B op f) (ha:SimE X B N WX a ma) (hb:SimE X B N WX b mb) (hm:behindInMarks op b=false):SimT X B N WX (.Compare a [op] [b] pos) (bM (jO f ma mb)):=by
 obtain ⟨r,h1,h2⟩:=o.ex
 exact yGF h1 h2 ha hb hm
theorem yZN (o:CmpOk X B op f) (o':CmpOk X B op' g) (ha:SimE X B N WX a ma) (hb:SimE X B N WX b mb) (hc:SimE X B N WX c mc) (hm:lastMarks [op,op'] [b,c]=false):SimE X B N WX (.Compare a [op,op'] [b,c] pos) (jPM f g ma mb mc):=by
 obtain ⟨r,h1,h2⟩:=o.ex
 obtain ⟨r',h3,h4⟩:=o'.ex
 exact yGJ h1 h3 h2 h4 ha hb hc hm
structure BiOk (X:Cx) (B:Bs) (x:Str) (f:AH→List PV→Option PV):Prop where
 ex:∃ (v:Value) (r:List V→Hp→VK→Prop),bootBuiltins x=some v∧CallR X v r∧CallSem X B f r∧((∃ id,v=.builtin id)∨∃ T,v=.type T)
variable {x:Str} {p:Pos} {e:Expr} {es:List Expr} {ma:MA} {fb:AH→List PV→Option PV}
theorem yP (o:BiOk X B x fb) (hg:Gl X x) (hm:X.mg x=none) (ha:SimA X B N WX (e :: es) ma) (hn:x ≠ "__name__") (hdb:(x == ("__debug__" : Str))=false)
  (he:starEach (e :: es) X.env=(false,eval e X.env) :: starEach es X.env) (hpl:(backTo pos (starEach es X.env)).any (·.1)=false):SimE X B N WX (.Call (.Name x p) (e :: es) [] pos) (eCB fb ma):=by
 obtain ⟨v,r,h1,h2,h3,h4⟩:=o.ex
 rcases h4 with ⟨id,rfl⟩ | ⟨T,rfl⟩
 ·exact yGL h2 h3 hg hm h1 ha hn hdb he hpl
 ·exact yCX h2 h3 hg hm h1 ha hn hdb he hpl
theorem boot_all:bootBuiltins "all" = some (.builtin "all"):=by decide +kernel
theorem boot_any:bootBuiltins "any" = some (.builtin "any"):=by decide +kernel
theorem jAY (hK:X.K=B.K):BiOk X B "isinstance" wZ:=⟨_,_,PyProof.Rows.boot_isinstance,yHH,yRC hK,.inl ⟨_,rfl⟩⟩
theorem bi_len (hK:X.K=B.K):BiOk X B "len" jDS:=⟨_,_,PySem.boot_len,call_len,yRB hK,.inl ⟨_,rfl⟩⟩
theorem jSP (hK:X.K=B.K) (hc:X.calm=true):BiOk X B "all" jKH:=⟨_,_,boot_all,cr_all hc,yRH hK,.inl ⟨_,rfl⟩⟩
theorem vCF (hK:X.K=B.K) (hc:X.calm=true):BiOk X B "any" yBX:=⟨_,_,boot_any,cr_any hc,yRG hK,.inl ⟨_,rfl⟩⟩
theorem jCY:BiOk X B "int" jEN:=⟨_,_,PyProof.Rows.boot_int,call_int1,yKF,.inr ⟨_,rfl⟩⟩
theorem yFM (hK:X.K=B.K):BiOk X B "list" jSH:=⟨_,_,PyProof.Rows.boot_list,call_list_of,yKE hK,.inr ⟨_,rfl⟩⟩
theorem yAQ (hK:X.K=B.K):BiOk X B "tuple" jPO:=⟨_,_,PyProof.Rows.boot_tuple,call_tuple_of,yGM hK,.inr ⟨_,rfl⟩⟩
end
end Lp
set_option maxHeartbeats 4000000
namespace Lp
open PySem PySem.Spec PyProof.Rows L2
def vCL (x:Str):Bool:=PyData.strOk x&&decide (x.length≤sizeLine)
theorem jJ {x:Str} (h:vCL x=true):SOk x:=by
 obtain ⟨a,b⟩:=Bool.and_eq_true_iff.mp h
 exact ⟨a,of_decide_eq_true b⟩
theorem jHX (X:Cx) (u:Value) (s:Shared) (x:XE X WF u s):X.xe u s:=by
 obtain ⟨a,B,sI,pins,σ,H,cls,d,e,I,nb,up,sky,na,os,ag,w⟩:=x
 exact w.elim
def vCX (N:List Str) (sc scope:Scope) (own:List (Str × Nat)):Bool:=(match scope.kind with | .function=>true | _=>false)&&(scope.names.all (fun y=>decide (scope.names.lookup y.1=some y.2))&&(own.all (fun p=>decide (N[p.2]?=some p.1)) &&
 (scope.names.all (fun y=>!decide (y.2=.free)||(decide (sc.names.lookup y.1=some .cell)||decide (sc.names.lookup y.1=some .free)))&&scope.names.all fun y=>!(decide (y.2=.local)||decide (y.2=.cell))||(decide (y.1∈own.map (·.1))||!decide (y.1∈N)))))
theorem jAG {N:List Str} {sc scope:Scope} {own:List (Str × Nat)} (h:vCX N sc scope own=true):BlkOk N sc scope own:=by
 unfold vCX at h
 simp only [Bool.and_eq_true,List.all_eq_true,Bool.or_eq_true,Bool.not_eq_true',decide_eq_true_eq,decide_eq_false_iff_not] at h
 obtain ⟨h1,h2,h3,h4,h5⟩:=h
 refine ⟨?_,h2,h3,fun y hy e=>?_,fun y hy e=>?_⟩
 ·split at h1
  ·assumption
  ·cases h1
 ·exact (h4 y hy).resolve_left fun z=>z e
 ·exact (h5 y hy).resolve_left fun z=>by rcases e with e | e <;> rw [e] at z <;> simp at z
end Lp
set_option maxHeartbeats 4000000
namespace Lp
open PySem PySem.Spec PyProof.Rows L2
theorem jVX {B:Bs} {W:Wd}:∀ ns:List Int,Reps B W (ns.map PV.int) (ns.map V.int)
 | []=>.nil
 | n :: ns=>.cons (.int n) (jVX ns)
def HzO (H:Hp):Prop:=∀ b o,H b=some o→NT o→SzO o
theorem yIX {B:Bs} {W:Wd} {m:MF} {ns:List Int} {H:Hp} {a:Addr} (hz:HzO H) (hT:LamX.Tabs B.T H) (hm:W.m=[]) (ag:∀ b o,W.F b=some o→H b=some o) (nt:∀ b o,W.F b=some o→NT o) (sc:ScrAt B W a (ns.map V.int))
  (h:∃ h',m [.scr (ns.map .int)] []=.ok (.bl true) h'):spF B 1 m [.ref a] H (fun v _=>v=.bl true) fun _ _ _=>False:=by
 refine ⟨W,[],[.scr (ns.map .int)],⟨ag,by rw [hm]; rfl,by rw [hm]; exact List.nodup_nil,fun _ z=>(by rw [hm] at z; cases z),hz,nt,hT,fun n c b e=>(by cases e)⟩,.cons (.scr sc (jVX ns)) .nil,rfl,?_⟩
 obtain ⟨h',e⟩:=h
 rw [e]
 intro W' H' v' _ _ rv
 cases rv
 rfl
theorem vBP {B:Bs} {m:MF} {ns:List Int} {H:Hp} {a:Addr} (hz:HzO H) (hT:LamX.Tabs B.T H) (hl:ns.length≤sizeLine) (hS:SqL B.K H a (ns.map V.int)) (h:∃ h',m [.scr (ns.map .int)] []=.ok (.bl true) h') :
  spF B 1 m [.ref a] H (fun v _=>v=.bl true) fun _ _ _=>False:=by
 have hl':(ns.map V.int).length≤sizeLine:=by rw [List.length_map]; exact hl
 have one:∀ o,H a=some o→NT o→ScrAt B ⟨fun b=>if b=a then some o else none,[]⟩ a (ns.map V.int)→spF B 1 m [.ref a] H (fun v _=>v=.bl true) fun _ _ _=>False:=fun o e nt sc=>by
  have at_:∀ b u,(if b=a then some o else none)=some u→b=a∧u=o:=fun b u z=>by
   split at z
   ·rename_i hb; cases z; exact ⟨hb,rfl⟩
   ·cases z
  exact yIX hz hT rfl (fun b u z=>by obtain ⟨rfl,rfl⟩:=at_ b u z; exact e) (fun b u z=>by obtain ⟨rfl,rfl⟩:=at_ b u z; exact nt) sc h
 rcases hS with (q | ⟨o,q⟩) | q
 ·exact one _ q jCB (.inl ⟨.inl (if_pos rfl),hl'⟩)
 ·exact one _ q (fun _ z=>nomatch z) (.inl ⟨.inr ⟨o,if_pos rfl⟩,hl'⟩)
 ·exact yIX (W:=⟨fun _=>none,[]⟩) hz hT rfl (fun _ _ z=>nomatch z) (fun _ _ z=>nomatch z) (.inr q) h
def spZ (n:Nat) (sp:Sp):Sp:=fun vs H Q E=>vs.length=n∧(HzO H→sp vs H Q E)
theorem vBV {P:Program} {w:World} {K:PySem.W.Frag} {mg:Str→Option Value} {base:Heap} {x qual:Str} {params:Arguments} {body:List Stmt} {scope:Scope} {dvs:List V} {kws:List (Str × V)} {f:Addr} {fd:FuncData} {names ps:List Str} {k n:Nat} {B:Bs}
  (F:FunD K x qual params body scope dvs kws f fd) (S:FnScope names ps scope):FnOk P w K mg base (L2.CX P w) (k+1) f fd ps (spF B n fun _ _=>.bad) :=
 F.ok S (fun vs H Q E ⟨_,_,_,_,_,_,z⟩=>z.elim) fun _ _ _ _ _ _ _ _ _ ⟨_,_,_,_,_,_,z⟩=>z.elim
theorem vBS {P:Program} {w:World} {H:Hp} {h:Heap} (x:HOk P w H h):HzO H:=fun b o e nt=>by
 have q:=x b o e
 cases o with
 | lst vs=>exact q.1
 | tup vs=>exact q.1
 | tbl ps=>exact absurd rfl (nt ps)
 | _=>trivial
theorem yVD {P:Program} {w:World} {K:PySem.W.Frag} {mg:Str→Option Value} {base:Heap} {CX:CXT} {k n:Nat} {f:Addr} {fd:FuncData} {ps:List Str} {sp:Sp} (F:FnOk P w K mg base CX k f fd ps sp) (hn:ps.length=n):FnOk P w K mg base CX k f fd ps (spZ n sp) :=
 ⟨fun vs H Q E q=>by rw [q.1,hn],fun A outer s H args us vs Q E hr e0 hb hv q=>F.run A outer s H args us vs Q E hr e0 hb hv (q.2 (vBS e0.hok))⟩
end Lp
set_option maxHeartbeats 4000000
namespace Lp
open PySem PySem.Spec PyProof.Rows L2
section
variable {τ α β:Type} {P:α→τ→Prop} {E:PV→τ→Prop}
theorem yFU {a:α} {s:τ} (h:P a s):(R.ok a s).post P E:=h
theorem jY {r:R τ α} {f:α→τ→R τ β} {Q:β→τ→Prop} (h:r.post (fun a s=>(f a s).post Q E) E):(r.bind f).post Q E:=by
 cases r with
 | ok a s=>exact h
 | exc x s=>exact h
 | bad=>exact h
theorem yMG {r:R τ α} {a:α} {s:τ} (e:r=.ok a s) (h:P a s):r.post P E:=by rw [e]; exact h
theorem p_mono {r:R τ α} {P':α→τ→Prop} {E':PV→τ→Prop} (h:r.post P' E') (k:∀ a s,P' a s→P a s) (k':∀ x s,E' x s→E x s):r.post P E:=R.post_mono h k k'
def NE {τ:Type}:PV→τ→Prop:=fun _ _=>False
theorem yZ {r:R τ α} {P':α→τ→Prop} (h:r.post P' NE) (k:∀ a s,P' a s→P a s):r.post P E:=R.post_mono h k fun _ _ z=>z.elim
theorem vEM {r:R τ α} (h:r.post P NE):∃ a s,r=.ok a s∧P a s:=by
 cases r with
 | ok a s=>exact ⟨a,s,rfl,h⟩
 | exc x s=>exact h.elim
 | bad=>exact h.elim
end
def br0 (c:Bool) (A C:Prop):Prop:=match c with
 | true=>A
 | false=>C
@[irreducible] def br (c:Bool) (A C:Prop):Prop:=br0 c A C
theorem jGX:br=br0:=by
 funext c A C
 unfold br
 rfl
theorem jGQ {c:Bool} {A C:Prop} (h1:c=true→A) (h2:c=false→C):br c A C:=by
 rw [jGX]
 cases c
 ·exact h2 rfl
 ·exact h1 rfl
theorem wJ {c:Bool} {A C:Prop} (e:c=true) (h:A):br c A C:=by rw [jGX]; subst e; exact h
theorem qC {c:Bool} {A C:Prop} (e:c=false) (h:C):br c A C:=by rw [jGX]; subst e; exact h
section
variable {P:PV→S→Prop} {PB:Bool→S→Prop} {PA:List PV→S→Prop} {PO:Option Int→S→Prop} {PF:Fl→S→Prop} {E:PV→S→Prop} {s:S}
variable {a b c m:ME} {ma:MA} {ta tb:S→R S Bool} {f g:AH→PV→PV→Option PV} {v:PV} {i:Nat}
theorem vAP (e:s.e[i]?=some (some v)) (h:P v s):(jE i s).post P E:=by unfold jE; rw [e]; exact h
theorem vEN (h:P v s):(eC v s).post P E:=h
theorem vBC (h:(a s).post (fun x s1=>(b s1).post (fun y s2=>∃ z,f s2.h x y=some z∧P z s2) E) E):(jO f a b s).post P E :=
 jY (p_mono h (fun x s1 q=>jY (p_mono q (fun y s2 ⟨z,e,q⟩=>by simp only [e]; exact q) fun _ _ z=>z)) fun _ _ z=>z)
theorem vAX (h:PA [] s):(jN s).post PA E:=h
theorem ySA (h:(a s).post (fun v s1=>(ma s1).post (fun vs s2=>PA (v :: vs) s2) E) E):(jC a ma s).post PA E :=
 jY (p_mono h (fun x s1 q=>jY q) fun _ _ z=>z)
theorem yRT (h:(a s).post (fun v s1=>∃ xs,asS s1.h v=some xs∧(ma s1).post (fun vs s2=>PA (xs++vs) s2) E) E):(jKM a ma s).post PA E :=
 jY (p_mono h (fun x s1 ⟨xs,e,q⟩=>by simp only [e]; exact jY q) fun _ _ z=>z)
theorem vAQ (h:(ma s).post (fun vs s1=>(vM vs=true∧vs.length≤16777216)∧P (.tup vs) s1) E):(yS ma s).post P E :=
 jY (p_mono h (fun vs s1 ⟨⟨h1,h2⟩,q⟩=>by rw [h1,decide_eq_true h2]; exact q) fun _ _ z=>z)
theorem vAY (h:(ma s).post (fun vs s1=>(vM vs=true∧vs.length≤16777216)∧P (.lst vs) s1) E):(jAH ma s).post P E :=
 jY (p_mono h (fun vs s1 ⟨⟨h1,h2⟩,q⟩=>by rw [h1,decide_eq_true h2]; exact q) fun _ _ z=>z)
theorem yRZ (h:(ma s).post (fun vs s1=>(vM vs=true∧vs.length≤sizeLine)∧PA vs s1) E):(jHT ma s).post PA E :=
 jY (p_mono h (fun vs s1 ⟨h1,q⟩=>by simp only [if_pos h1]; exact q) fun _ _ z=>z)
theorem vDO {mn:S→R S (List PV)} (h:(mn s).post (fun xs s1=>P (.lst xs) s1) E):(shN mn s).post P E:=jY h
theorem vBB {mn:S→R S (List PV)} (h:(mn s).post (fun xs s1=>P (.cel s1.h.length) ⟨s1.e,s1.h++[some (.lst xs)]⟩) E):(jWP mn s).post P E:=jY h
theorem vDQ {fb:AH→List PV→Option PV} (h:(ma s).post (fun vs s1=>∃ z,fb s1.h vs=some z∧P z s1) E):(eCB fb ma s).post P E :=
 jY (p_mono h (fun vs s1 ⟨z,e,q⟩=>by simp only [e]; exact q) fun _ _ z=>z)
theorem yKV (h:(a s).post (fun x s1=>(b s1).post (fun y s2=>∃ k,f s2.h x y=some (.bl k)∧br0 k ((c s2).post (fun w s3=>∃ z,g s3.h y w=some z∧P z s3) E) (P (.bl false) s2)) E) E):(jPM f g a b c s).post P E :=
 jY (p_mono h (fun x s1 q=>jY (p_mono q (fun y s2 ⟨k,e,q⟩=>by
  simp only [e]
  cases k with
  | true=>exact jY (p_mono q (fun w s3 ⟨z,e,q⟩=>by simp only [e]; exact q) fun _ _ z=>z)
  | false=>exact q) fun _ _ z=>z)) fun _ _ z=>z)
theorem yKT (h:PO none s):(jJX s).post PO E:=h
theorem yKS (h:(a s).post (fun v s1=>∃ i,v=.int i∧PO (some i) s1) E):(jJW a s).post PO E :=
 jY (p_mono h (fun v s1 ⟨i,e,q⟩=>by subst e; exact q) fun _ _ z=>z)
theorem vDN {lo hi:S→R S (Option Int)} (h:(a s).post (fun v s1=>(lo s1).post (fun l s2=>(hi s2).post (fun u s3=>∃ z,fSl s3.h v l u=some z∧P z s3) E) E) E):(eSl a lo hi s).post P E :=
 jY (p_mono h (fun x s1 q=>jY (p_mono q (fun y s2 q=>jY (p_mono q (fun u s3 ⟨z,e,q⟩=>by simp only [e]; exact q) fun _ _ z=>z)) fun _ _ z=>z)) fun _ _ z=>z)
theorem jTB {n:Nat} {mf:MF} {vs:List PV} (h:(vs.length=n∧vM vs=true)∧(mf vs s.h).post (fun v h=>P v ⟨s.e,h⟩) (fun x h=>E x ⟨s.e,h⟩)):(jGW n mf vs s).post P E:=by
 unfold jGW
 rw [if_pos h.1]
 unfold lift
 have q:=h.2
 split <;> rename_i e <;> rw [e] at q <;> exact q
theorem ySB {n:Nat} {mf:MF} (h:(ma s).post (fun vs s1=>(vs.length=n∧vM vs=true)∧(mf vs s1.h).post (fun v h=>P v ⟨s1.e,h⟩) (fun x h=>E x ⟨s1.e,h⟩)) E):(yO n mf ma s).post P E :=
 jY (p_mono h (fun vs s1 q=>jTB q) fun _ _ z=>z)
theorem yKW {n0 nk n:Nat} {ix:List Nat} {mf:MF} {mk:MA} (h:(ma s).post (fun vs s1=>(mk s1).post (fun zs s2=>((vs.length=n0∧zs.length=nk)∧vM vs=true∧vM zs=true)∧((pick ix (vs++zs)).length=n∧vM (pick ix (vs++zs))=true) ∧
  (mf (pick ix (vs++zs)) s2.h).post (fun v h=>P v ⟨s2.e,h⟩) (fun x h=>E x ⟨s2.e,h⟩)) E) E):(jSO n0 nk ix n mf ma mk s).post P E :=
 jY (p_mono h (fun vs s1 q=>jY (p_mono q (fun zs s2 q=>by simp only [if_pos q.1]; exact jTB q.2) fun _ _ z=>z)) fun _ _ z=>z)
theorem ySE (h:(a s).post (fun v s1=>∃ k,v=.bl k∧br0 k ((b s1).post P E) (P (.bl false) s1)) E):(jGR a b s).post P E :=
 jY (p_mono h (fun v s1 ⟨k,e,q⟩=>by subst e; cases k <;> exact q) fun _ _ z=>z)
theorem vAV (h:(a s).post (fun v s1=>∃ k,v=.bl k∧br0 k (P (.bl true) s1) ((b s1).post P E)) E):(orV a b s).post P E :=
 jY (p_mono h (fun v s1 ⟨k,e,q⟩=>by subst e; cases k <;> exact q) fun _ _ z=>z)
theorem yRX (h:(a s).post (fun v s1=>∃ k,v=.bl k∧P (.bl (!k)) s1) E):(jYV a s).post P E :=
 jY (p_mono h (fun v s1 ⟨k,e,q⟩=>by subst e; exact q) fun _ _ z=>z)
theorem vAZ (h:(ta s).post (fun k s1=>br0 k ((a s1).post P E) ((b s1).post P E)) E):(ifM ta a b s).post P E :=
 jY (p_mono h (fun k s1 q=>by cases k <;> exact q) fun _ _ z=>z)
theorem vDM (h:(a s).post (fun v s1=>∃ k,tru s1.h v=some k∧PB k s1) E):(tM a s).post PB E :=
 jY (p_mono h (fun v s1 ⟨k,e,q⟩=>by simp only [e]; exact q) fun _ _ z=>z)
theorem vDR (h:(a s).post (fun v s1=>∃ k,v=.bl k∧PB k s1) E):(bM a s).post PB E :=
 jY (p_mono h (fun v s1 ⟨k,e,q⟩=>by subst e; exact q) fun _ _ z=>z)
theorem ySF (h:(ta s).post (fun k s1=>br0 k ((tb s1).post PB E) (PB false s1)) E):(andM ta tb s).post PB E :=
 jY (p_mono h (fun k s1 q=>by cases k <;> exact q) fun _ _ z=>z)
theorem vAW (h:(ta s).post (fun k s1=>br0 k (PB true s1) ((tb s1).post PB E)) E):(orM ta tb s).post PB E :=
 jY (p_mono h (fun k s1 q=>by cases k <;> exact q) fun _ _ z=>z)
theorem yRY (h:(ta s).post (fun k s1=>PB (!k) s1) E):(jIE ta s).post PB E:=jY h
theorem vDP {fm:AH→Str→List PV→Option PV} (h:(a s).post (fun o s1=>∃ x,o=.str x∧(ma s1).post (fun vs s2=>∃ z,fm s2.h x vs=some z∧P z s2) E) E):(eMS fm a ma s).post P E :=
 jY (p_mono h (fun o s1 ⟨x,e,q⟩=>by subst e; exact jY (p_mono q (fun vs s2 ⟨z,e,q⟩=>by simp only [e]; exact q) fun _ _ z=>z)) fun _ _ z=>z)
variable {x y:MS}
theorem yRU (h:PF .nx s):(uC s).post PF E:=h
theorem vAS (h:(x s).post (fun fl s1=>match fl with | .nx=>(y s1).post PF E | fl=>PF fl s1) E):(yE x y s).post PF E :=
 jY (p_mono h (fun fl s1 q=>by cases fl <;> exact q) fun _ _ z=>z)
theorem yKR (h:(a s).post (fun _ s1=>PF .nx s1) E):(jMV a s).post PF E:=jY h
theorem vAT (h:(a s).post (fun v s1=>isOwn v=false∧PF (.rt v) s1) E):(uV a s).post PF E :=
 jY (p_mono h (fun v s1 ⟨e,q⟩=>by rw [e]; exact q) fun _ _ z=>z)
theorem yRW (h:PF (.rt .non) s):(yTQ s).post PF E:=h
theorem vAR (h:(ta s).post (fun k s1=>br0 k ((x s1).post PF E) ((y s1).post PF E)) E):(sIf ta x y s).post PF E :=
 jY (p_mono h (fun k s1 q=>by cases k <;> exact q) fun _ _ z=>z)
theorem vBD (h:(a s).post (fun v s1=>isOwn v=false∧PF .nx ⟨s1.e.set i (some v),s1.h⟩) E):(uW i a s).post PF E :=
 jY (p_mono h (fun v s1 ⟨e,q⟩=>by rw [e]; exact q) fun _ _ z=>z)
theorem ySD {mn:S→R S (List PV)} (h:(mn s).post (fun v s1=>PF .nx ⟨s1.e.set i (some (.own v)),s1.h⟩) E):(jGT i mn s).post PF E:=jY h
theorem ySC {t:Tg} (h:(a s).post (fun v s1=>isOwn v=false∧∃ e1,zR t v s1.e=some e1∧PF .nx ⟨e1,s1.h⟩) E):(jMW t a s).post PF E :=
 jY (p_mono h (fun v s1 ⟨e,e1,e2,q⟩=>by simp only [e2,e]; exact q) fun _ _ z=>z)
theorem vAU {j:Nat} (h:(ma s).post (fun vs s1=>∃ v w,vs=[v,w]∧(isOwn v=false∧isOwn w=false)∧PF .nx ⟨(s1.e.set i (some v)).set j (some w),s1.h⟩) E):(yFR i j ma s).post PF E :=
 jY (p_mono h (fun vs s1 ⟨v,w,e,⟨e1,e2⟩,q⟩=>by subst e; simp only [e1,e2]; exact q) fun _ _ z=>z)
theorem yRV (h:(a s).post (fun v s1=>(b s1).post (fun o s2=>(c s2).post (fun k s3=>∃ n xs ys,o=.cel n∧jCI s3.h n=some xs∧yFQ xs k v=some ys∧PF .nx ⟨s3.e,s3.h.set n (some (.lst ys))⟩) E) E) E):(jGS a b c s).post PF E :=
 jY (p_mono h (fun v s1 q=>jY (p_mono q (fun o s2 q2=>jY (p_mono q2 (fun k s3 ⟨n,xs,ys,e1,e2,e3,q3⟩=>by subst e1; simp only [yFX,e2,e3]; exact q3) fun _ _ z=>z)) fun _ _ z=>z)) fun _ _ z=>z)
theorem jCW {k:Nat} {mb:MS} {xs:List PV} {h:AH} (e0:List (Option PV)) (he:xs.map some++List.replicate k none=e0) {Q:PV→AH→Prop} {E:PV→AH→Prop} (q:(mb ⟨e0,h⟩).post (fun fl s=>match fl with
  | .rt v=>Q v s.h
  | .nx=>Q .non s.h
  | _=>False) (fun x s=>E x s.h)):(mkF k mb xs h).post Q E:=by
 subst he
 unfold mkF
 cases e:mb ⟨xs.map some++List.replicate k none,h⟩ with
 | ok fl s =>
  rw [e] at q
  cases fl <;> exact q
 | exc x s=>rw [e] at q; exact q
 | bad=>rw [e] at q; exact q
theorem jXP {h:AH} {r:Sr} (hr:r.w=[]):wR h r:=fun p hp=>by rw [hr] at hp; cases hp
theorem jLW {h:AH} {xs:List PV} {o:Bool}:wR h ⟨xs,[],o⟩:=fun _ hp=>by cases hp
theorem jJE {xs:List PV} {t:Tg} (I:Nat→S→Prop) (h0:I 0 s) (hs:∀ (j:Nat) (v:PV) (s:S),xs[j]?=some v→I j s→∃ e1,zR t v s.e=some e1∧(x ⟨e1,s.h⟩).post (fun fl s'=>match fl with
  | .nx=>I (j+1) s'
  | .ct=>I (j+1) s'
  | .bk=>PF .nx s'
  | .rt v=>PF (.rt v) s') E) (hn:∀ s,I xs.length s→PF .nx s) {o:Bool}:(jEB ⟨xs,[],o⟩ t x xs s).post PF E:=by
 have go:∀ (ys:List PV) (r:Sr) (j:Nat) (s:S),r.w=[]→(∀ k,ys[k]?=xs[j+k]?)→j+ys.length=xs.length→I j s→(jEB r t x ys s).post PF E:=by
  intro ys
  induction ys with
  | nil =>
   intro r j s hr hy hl hI
   unfold jEB
   rw [if_pos (jXP hr)]
   exact hn s (by rw [← hl]; exact hI)
  | cons y ys ih =>
   intro r j s hr hy hl hI
   unfold jEB
   rw [if_pos (jXP hr)]
   obtain ⟨e1,eb,q⟩:=hs j y s (by have:=hy 0; simpa using this.symm) hI
   rw [eb]
   refine jY (p_mono q (fun fl s' q=>?_) fun _ _ z=>z)
   have nxt:I (j+1) s'→(jEB r t x ys s').post PF E:=fun hI=>ih r (j+1) s' hr (fun k=>by have:=hy (k+1); simp only [List.getElem?_cons_succ] at this; rw [this]; congr 1; omega) (by simp only [List.length_cons] at hl; omega) hI
   cases fl with
   | nx=>exact nxt q
   | ct=>exact nxt q
   | bk=>exact q
   | rt v=>exact q
 exact go xs _ 0 s rfl (fun k=>by simp) (by simp) h0
theorem vBA {src:S→R S Sr} {t:Tg} (h:(src s).post (fun r s1=>r.w=[]∧r.o=false∧r.xs.length≤sizeLine∧(jEB ⟨r.xs,[],false⟩ t x r.xs s1).post PF E) E):(jMH src t x s).post PF E :=
 jY (p_mono h (fun r s1 ⟨e1,e2,e3,q⟩=>by
  obtain ⟨xs,w,o⟩:=r
  simp only at e1 e2 e3 q
  subst e1 e2
  simp only [Bool.false_eq_true,false_or,if_neg (Nat.not_lt.mpr e3)]
  exact q) fun _ _ z=>z)
theorem vBE {m:ME} {PS:Sr→S→Prop} (h:(m s).post (fun v s1=>∃ r,srcOf s1.h v=some r∧PS r s1) E):(jDX m s).post PS E :=
 jY (p_mono h (fun v s1 ⟨z,e,q⟩=>by simp only [e]; exact q) fun _ _ z=>z)
theorem yKU {src:S→R S Sr} {t:Tg} {tt:S→R S Bool} {te:ME} {vs:List Nat}
  (h:(src s).post (fun r s1=>r.w=[]∧∃ I:Nat→List PV→AH→Prop,I 0 [] s1.h∧(∀ (j:Nat) (v:PV) (acc:List PV) (h:AH),r.xs[j]?=some v→I j acc h→∃ e1,zR t v (jP s1.e vs)=some e1 ∧
   (tt ⟨e1,h⟩).post (fun k s2=>br0 k ((te s2).post (fun y s3=>isOwn y=false∧jP s3.e vs=jP s1.e vs∧I (j+1) (acc++[y]) s3.h) NE) (jP s2.e vs=jP s1.e vs∧I (j+1) acc s2.h)) NE)∧∀ acc h,I r.xs.length acc h→PA acc ⟨jP s1.e vs,h⟩) E):(zQ src t tt te vs s).post PA E:=by
 refine jY (p_mono h (fun r s1 ⟨hw,I,h0,hs,hn⟩=>?_) fun _ _ z=>z)
 have ww:jP (jP s1.e vs) vs=jP s1.e vs:=by
  have key:∀ (us:List Nat) (e:List (Option PV)),(∀ u∈us,u∈vs)→jP (jP e us) vs=jP e vs:=by
   intro us e
   induction us with
   | nil=>intro _; rfl
   | cons u us ih =>
    intro hu
    show jP ((jP e us).set u none) vs=jP e vs
    have:∀ (l:List (Option PV)) (ws:List Nat),u∈ws→jP (l.set u none) ws=jP l ws:=by
     intro l ws
     induction ws with
     | nil=>intro z; cases z
     | cons w ws ih2 =>
      intro z
      show (jP (l.set u none) ws).set w none=(jP l ws).set w none
      by_cases hm:u∈ws
      ·rw [ih2 hm]
      ·have hw:u=w:=by
        rcases List.mem_cons.mp z with z | z
        ·exact z
        ·exact absurd z hm
       subst hw
       have go:∀ zs:List Nat,u∉zs→jP (l.set u none) zs=(jP l zs).set u none:=by
        intro zs
        induction zs with
        | nil=>intro _; rfl
        | cons y zs ih3 =>
         intro hy
         simp only [List.mem_cons,not_or] at hy
         show (jP (l.set u none) zs).set y none=((jP l zs).set y none).set u none
         rw [ih3 hy.2,List.set_comm _ _ hy.1]
       rw [go ws hm,List.set_set]
    rw [this _ _ (hu u (by simp))]
    exact ih fun w hw=>hu w (List.mem_cons_of_mem _ hw)
  exact key vs _ fun _ h=>h
 have go:∀ (ys:List PV) (j:Nat) (acc:List PV) (h:AH) (e:List (Option PV)),jP e vs=jP s1.e vs→(∀ k,ys[k]?=r.xs[j+k]?)→j+ys.length=r.xs.length→I j acc h→(ys=[]→e=jP s1.e vs)→(jGV r t tt te vs ys acc ⟨e,h⟩).post PA E:=by
  intro ys
  induction ys with
  | nil =>
   intro j acc h e he hy hl hI hz
   unfold jGV
   rw [hz rfl]
   exact hn acc h (by rw [← hl]; exact hI)
  | cons y ys ih =>
   intro j acc h e he hy hl hI hz
   unfold jGV
   obtain ⟨e1,eb,q⟩:=hs j y acc h (by have:=hy 0; simpa using this.symm) hI
   unfold jRZ
   simp only [he,eb]
   have nx:∀ {α:Type} {r:R S α} {P:α→S→Prop},r.post P NE→r.nx.post P NE:=fun {α r P} z=>by
    cases r with
    | ok a s=>exact z
    | exc x s=>exact z.elim
    | bad=>exact z.elim
   refine jY (yZ (P':=fun acc' s'=>s'.e=jP s1.e vs∧I (j+1) acc' s'.h) (jY (p_mono (nx q) (fun k s2 q=>?_) fun _ _ z=>z)) fun acc' s' ⟨q1,q2⟩=>?_)
   ·cases k with
    | true =>
     rw [if_pos rfl]
     refine jY (p_mono (nx q) (fun v s3 ⟨o,q1,q2⟩=>?_) fun _ _ z=>z)
     rw [o]
     exact ⟨q1,q2⟩
    | false =>
     rw [if_neg (by decide)]
     exact q
   ·rw [if_pos (jXP hw)]
    obtain ⟨e',h'⟩:=s'
    simp only at q1 q2
    subst q1
    exact ih (j+1) acc' h' _ ww (fun k=>by have:=hy (k+1); simp only [List.getElem?_cons_succ] at this; rw [this]; congr 1; omega) (by simp only [List.length_cons] at hl; omega) q2 fun _=>rfl
 exact go r.xs 0 [] s1.h _ ww (fun k=>by simp) (by simp) h0 fun _=>rfl
end
@[irreducible] def jM (i:Nat):ME:=jE i
@[irreducible] def xEC (v:PV):ME:=eC v
@[irreducible] def jX (f:AH→PV→PV→Option PV) (a b:ME):ME:=jO f a b
@[irreducible] def jT:MA:=jN
@[irreducible] def jG (m:ME) (r:MA):MA:=jC m r
@[irreducible] def yCB (m:ME) (r:MA):MA:=jKM m r
@[irreducible] def jBN (ma:MA):ME:=yS ma
@[irreducible] def jCV (ma:MA):ME:=jAH ma
@[irreducible] def jOA (ma:MA):S→R S (List PV):=jHT ma
@[irreducible] def jMF (m:S→R S (List PV)):ME:=shN m
@[irreducible] def jQH (m:S→R S (List PV)):ME:=jWP m
@[irreducible] def xECB (f:AH→List PV→Option PV) (ma:MA):ME:=eCB f ma
@[irreducible] def yEE (f g:AH→PV→PV→Option PV) (a b c:ME):ME:=jPM f g a b c
@[irreducible] def jSK:S→R S (Option Int):=jJX
@[irreducible] def jSJ (m:ME):S→R S (Option Int):=jJW m
@[irreducible] def yHQ (m:ME) (lo hi:S→R S (Option Int)):ME:=eSl m lo hi
@[irreducible] def jPH (n:Nat) (m:MF) (vs:List PV):ME:=jGW n m vs
@[irreducible] def vN (n:Nat) (m:MF) (ma:MA):ME:=yO n m ma
@[irreducible] def jXN (n0 nk:Nat) (ix:List Nat) (n:Nat) (m:MF) (ma mk:MA):ME:=jSO n0 nk ix n m ma mk
@[irreducible] def jVF (a b:ME):ME:=jGR a b
@[irreducible] def yMD (a b:ME):ME:=orV a b
@[irreducible] def yTK (a:ME):ME:=jYV a
@[irreducible] def jMG (c:S→R S Bool) (a b:ME):ME:=ifM c a b
@[irreducible] def xTM (m:ME):S→R S Bool:=tM m
@[irreducible] def xBM (m:ME):S→R S Bool:=bM m
@[irreducible] def jZA (a b:S→R S Bool):S→R S Bool:=Lp.andM a b
@[irreducible] def jUI (a b:S→R S Bool):S→R S Bool:=Lp.orM a b
@[irreducible] def jMT (a:S→R S Bool):S→R S Bool:=Lp.jIE a
@[irreducible] def yME (f:AH→Str→List PV→Option PV) (mo:ME) (ma:MA):ME:=eMS f mo ma
@[irreducible] def jBM:MS:=uC
@[irreducible] def vA (a b:MS):MS:=yE a b
@[irreducible] def jNF (m:ME):MS:=jMV m
@[irreducible] def jBL (m:ME):MS:=uV m
@[irreducible] def yIJ:MS:=yTQ
@[irreducible] def jEX (c:S→R S Bool) (a b:MS):MS:=sIf c a b
@[irreducible] def jAD (i:Nat) (m:ME):MS:=uW i m
@[irreducible] def yCA (i:Nat) (m:S→R S (List PV)):MS:=jGT i m
@[irreducible] def jSI (t:Tg) (m:ME):MS:=jMW t m
@[irreducible] def yHW (i j:Nat) (ma:MA):MS:=yFR i j ma
@[irreducible] def jJA (mv mo mi:ME):MS:=jGS mv mo mi
@[irreducible] noncomputable def jJV (src:S→R S Sr) (t:Tg) (body:MS):MS:=jMH src t body
@[irreducible] def jDQ (m:ME):S→R S Sr:=jDX m
@[irreducible] noncomputable def zG (src:S→R S Sr) (t:Tg) (tt:S→R S Bool) (te:ME) (vs:List Nat):S→R S (List PV):=zQ src t tt te vs
section
variable {P:PV→S→Prop} {PB:Bool→S→Prop} {PA:List PV→S→Prop} {PO:Option Int→S→Prop} {PF:Fl→S→Prop} {E:PV→S→Prop} {s:S}
variable {a b c m:ME} {ma:MA} {ta tb:S→R S Bool} {f g:AH→PV→PV→Option PV} {v:PV} {i:Nat} {x y:MS}
theorem yH (e:s.e[i]?=some (some v)) (h:P v s):(jM i s).post P E:=by
 unfold jM
 exact vAP e h
theorem p_c (h:P v s):(xEC v s).post P E:=by
 unfold xEC
 exact vEN h
theorem uX (h:(a s).post (fun x s1=>(b s1).post (fun y s2=>∃ z,f s2.h x y=some z∧P z s2) E) E):(jX f a b s).post P E:=by
 unfold jX
 exact vBC h
theorem vW (h:PA [] s):(jT s).post PA E:=by
 unfold jT
 exact vAX h
theorem yK (h:(a s).post (fun v s1=>(ma s1).post (fun vs s2=>PA (v :: vs) s2) E) E):(jG a ma s).post PA E:=by
 unfold jG
 exact ySA h
theorem vAH (h:(a s).post (fun v s1=>∃ xs,asS s1.h v=some xs∧(ma s1).post (fun vs s2=>PA (xs++vs) s2) E) E):(yCB a ma s).post PA E:=by
 unfold yCB
 exact yRT h
theorem jBD (h:(ma s).post (fun vs s1=>(vM vs=true∧vs.length≤16777216)∧P (.tup vs) s1) E):(jBN ma s).post P E:=by
 unfold jBN
 exact vAQ h
theorem jBE (h:(ma s).post (fun vs s1=>(vM vs=true∧vs.length≤16777216)∧P (.lst vs) s1) E):(jCV ma s).post P E:=by
 unfold jCV
 exact vAY h
theorem jNH (h:(ma s).post (fun vs s1=>(vM vs=true∧vs.length≤sizeLine)∧PA vs s1) E):(jOA ma s).post PA E:=by
 unfold jOA
 exact yRZ h
theorem jCU {mn:S→R S (List PV)} (h:(mn s).post (fun xs s1=>P (.lst xs) s1) E):(jMF mn s).post P E:=by
 unfold jMF
 exact vDO h
theorem jVL {mn:S→R S (List PV)} (h:(mn s).post (fun xs s1=>P (.cel s1.h.length) ⟨s1.e,s1.h++[some (.lst xs)]⟩) E):(jQH mn s).post P E:=by
 unfold jQH
 exact vBB h
theorem jEZ {fb:AH→List PV→Option PV} (h:(ma s).post (fun vs s1=>∃ z,fb s1.h vs=some z∧P z s1) E):(xECB fb ma s).post P E:=by
 unfold xECB
 exact vDQ h
theorem zN (h:(a s).post (fun x s1=>(b s1).post (fun y s2=>∃ k,f s2.h x y=some (.bl k)∧br k ((c s2).post (fun w s3=>∃ z,g s3.h y w=some z∧P z s3) E) (P (.bl false) s2)) E) E):(yEE f g a b c s).post P E:=by
 unfold yEE
 simp only [jGX] at h
 exact yKV h
theorem zM (h:PO none s):(jSK s).post PO E:=by
 unfold jSK
 exact yKT h
theorem zL (h:(a s).post (fun v s1=>∃ i,v=.int i∧PO (some i) s1) E):(jSJ a s).post PO E:=by
 unfold jSJ
 exact yKS h
theorem jGB {lo hi:S→R S (Option Int)} (h:(a s).post (fun v s1=>(lo s1).post (fun l s2=>(hi s2).post (fun u s3=>∃ z,fSl s3.h v l u=some z∧P z s3) E) E) E):(yHQ a lo hi s).post P E:=by
 unfold yHQ
 exact vDN h
theorem jRT {n:Nat} {mf:MF} {vs:List PV} (h:(vs.length=n∧vM vs=true)∧(mf vs s.h).post (fun v h=>P v ⟨s.e,h⟩) (fun x h=>E x ⟨s.e,h⟩)):(jPH n mf vs s).post P E:=by
 unfold jPH
 exact jTB h
theorem uD {n:Nat} {mf:MF} (h:(ma s).post (fun vs s1=>(vs.length=n∧vM vs=true)∧(mf vs s1.h).post (fun v h=>P v ⟨s1.e,h⟩) (fun x h=>E x ⟨s1.e,h⟩)) E):(vN n mf ma s).post P E:=by
 unfold vN
 exact ySB h
theorem zP {n0 nk n:Nat} {ix:List Nat} {mf:MF} {mk:MA} (h:(ma s).post (fun vs s1=>(mk s1).post (fun zs s2=>((vs.length=n0∧zs.length=nk)∧vM vs=true∧vM zs=true)∧((pick ix (vs++zs)).length=n∧vM (pick ix (vs++zs))=true) ∧
  (mf (pick ix (vs++zs)) s2.h).post (fun v h=>P v ⟨s2.e,h⟩) (fun x h=>E x ⟨s2.e,h⟩)) E) E):(jXN n0 nk ix n mf ma mk s).post P E:=by
 unfold jXN
 exact yKW h
theorem qM (h:(a s).post (fun v s1=>∃ k,v=.bl k∧br k ((b s1).post P E) (P (.bl false) s1)) E):(jVF a b s).post P E:=by
 unfold jVF
 simp only [jGX] at h
 exact ySE h
theorem jCH (h:(a s).post (fun v s1=>∃ k,v=.bl k∧br k (P (.bl true) s1) ((b s1).post P E)) E):(yMD a b s).post P E:=by
 unfold yMD
 simp only [jGX] at h
 exact vAV h
theorem qT (h:(a s).post (fun v s1=>∃ k,v=.bl k∧P (.bl (!k)) s1) E):(yTK a s).post P E:=by
 unfold yTK
 exact yRX h
theorem jCA (h:(ta s).post (fun k s1=>br k ((a s1).post P E) ((b s1).post P E)) E):(jMG ta a b s).post P E:=by
 unfold jMG
 simp only [jGX] at h
 exact vAZ h
theorem jEY (h:(a s).post (fun v s1=>∃ k,tru s1.h v=some k∧PB k s1) E):(xTM a s).post PB E:=by
 unfold xTM
 exact vDM h
theorem jCT (h:(a s).post (fun v s1=>∃ k,v=.bl k∧PB k s1) E):(xBM a s).post PB E:=by
 unfold xBM
 exact vDR h
theorem qU (h:(ta s).post (fun k s1=>br k ((tb s1).post PB E) (PB false s1)) E):(jZA ta tb s).post PB E:=by
 unfold jZA
 simp only [jGX] at h
 exact ySF h
theorem jCP (h:(ta s).post (fun k s1=>br k (PB true s1) ((tb s1).post PB E)) E):(jUI ta tb s).post PB E:=by
 unfold jUI
 simp only [jGX] at h
 exact vAW h
theorem qG (h:(ta s).post (fun k s1=>PB (!k) s1) E):(jMT ta s).post PB E:=by
 unfold jMT
 exact yRY h
theorem vCO {fm:AH→Str→List PV→Option PV} (h:(a s).post (fun o s1=>∃ x,o=.str x∧(ma s1).post (fun vs s2=>∃ z,fm s2.h x vs=some z∧P z s2) E) E):(yME fm a ma s).post P E:=by
 unfold yME
 exact vDP h
theorem wB (h:PF .nx s):(jBM s).post PF E:=by
 unfold jBM
 exact yRU h
theorem uH (h:(x s).post (fun fl s1=>match fl with | .nx=>(y s1).post PF E | fl=>PF fl s1) E):(vA x y s).post PF E:=by
 unfold vA
 exact vAS h
theorem uJ (h:(a s).post (fun _ s1=>PF .nx s1) E):(jNF a s).post PF E:=by
 unfold jNF
 exact yKR h
theorem jAF (h:(a s).post (fun v s1=>isOwn v=false∧PF (.rt v) s1) E):(jBL a s).post PF E:=by
 unfold jBL
 exact vAT h
theorem qR (h:PF (.rt .non) s):(yIJ s).post PF E:=by
 unfold yIJ
 exact yRW h
theorem jAE (h:(ta s).post (fun k s1=>br k ((x s1).post PF E) ((y s1).post PF E)) E):(jEX ta x y s).post PF E:=by
 unfold jEX
 simp only [jGX] at h
 exact vAR h
theorem wL (h:(a s).post (fun v s1=>isOwn v=false∧PF .nx ⟨s1.e.set i (some v),s1.h⟩) E):(jAD i a s).post PF E:=by
 unfold jAD
 exact vBD h
theorem vAO {mn:S→R S (List PV)} (h:(mn s).post (fun v s1=>PF .nx ⟨s1.e.set i (some (.own v)),s1.h⟩) E):(yCA i mn s).post PF E:=by
 unfold yCA
 exact ySD h
theorem yCG {t:Tg} (h:(a s).post (fun v s1=>isOwn v=false∧∃ e1,zR t v s1.e=some e1∧PF .nx ⟨e1,s1.h⟩) E):(jSI t a s).post PF E:=by
 unfold jSI
 exact ySC h
theorem jCO {j:Nat} (h:(ma s).post (fun vs s1=>∃ v w,vs=[v,w]∧(isOwn v=false∧isOwn w=false)∧PF .nx ⟨(s1.e.set i (some v)).set j (some w),s1.h⟩) E):(yHW i j ma s).post PF E:=by
 unfold yHW
 exact vAU h
theorem vAI (h:(a s).post (fun v s1=>(b s1).post (fun o s2=>(c s2).post (fun k s3=>∃ n xs ys,o=.cel n∧jCI s3.h n=some xs∧yFQ xs k v=some ys∧PF .nx ⟨s3.e,s3.h.set n (some (.lst ys))⟩) E) E) E):(jJA a b c s).post PF E:=by
 unfold jJA
 exact yRV h
theorem jKJ {src:S→R S Sr} {t:Tg} (h:(src s).post (fun r s1=>r.w=[]∧r.o=false∧r.xs.length≤sizeLine∧(jEB ⟨r.xs,[],false⟩ t x r.xs s1).post PF E) E):(jJV src t x s).post PF E:=by
 unfold jJV
 exact vBA h
theorem jEA {m:ME} {PS:Sr→S→Prop} (h:(m s).post (fun v s1=>∃ r,srcOf s1.h v=some r∧PS r s1) E):(jDQ m s).post PS E:=by
 unfold jDQ
 exact vBE h
theorem jJG {src:S→R S Sr} {t:Tg} {tt:S→R S Bool} {te:ME} {vs:List Nat}
  (h:(src s).post (fun r s1=>r.w=[]∧∃ I:Nat→List PV→AH→Prop,I 0 [] s1.h∧(∀ (j:Nat) (v:PV) (acc:List PV) (h:AH),r.xs[j]?=some v→I j acc h→∃ e1,zR t v (jP s1.e vs)=some e1 ∧
   (tt ⟨e1,h⟩).post (fun k s2=>br k ((te s2).post (fun y s3=>isOwn y=false∧jP s3.e vs=jP s1.e vs∧I (j+1) (acc++[y]) s3.h) NE) (jP s2.e vs=jP s1.e vs∧I (j+1) acc s2.h)) NE)∧∀ acc h,I r.xs.length acc h→PA acc ⟨jP s1.e vs,h⟩) E):(zG src t tt te vs s).post PA E:=by
 unfold zG
 simp only [jGX] at h
 exact yKU h
end
end Lp
set_option maxHeartbeats 4000000
namespace Lp
open PySem PySem.Spec PyProof.Rows L2
def Bag (l:List PV):Prop:=∃ (ns:List Int) (i c sd t:Int),l=[.lst (ns.map .int),.int i,.int c,.int sd,.int t]∧0≤i∧0≤c∧0≤sd∧sd < 2147483587
theorem jDL {h:AH} {n:Nat} {l:List PV} (hn:n < h.length):jCI (h.set n (some (.lst l))) n=some l:=by
 unfold jCI
 rw [List.getElem?_set_self hn]
theorem jGF {h:AH} {n:Nat} {l:List PV} {i:Int} {z:PV} (e:jCI h n=some l) (e2:atI l i=some z):fIx h (.cel n) (.int i)=some z:=by
 have q:=jIR e
 unfold fIx
 show (match asS h (.cel n) with | some xs=>atI xs i | none=>none)=some z
 have:asS h (.cel n)=some l:=by
  unfold asS asL
  simp only [q]
 rw [this]
 exact e2
theorem qQ {PF:Fl→S→Prop} {E:PV→S→Prop} {a b c:ME} {s:S} (q:(a s).post (fun v s1=>(b s1).post (fun o s2=>(c s2).post (fun k s3=>∃ (n:Nat) (h:AH) (l ys:List PV),o=.cel n∧n < h.length∧s3.h=h.set n (some (.lst l))∧yFQ l k v=some ys∧PF .nx ⟨s3.e,h.set n (some (.lst ys))⟩) E) E) E) :
  (jJA a b c s).post PF E :=
 vAI (p_mono q (fun v s1 q=>p_mono q (fun o s2 q=>p_mono q (fun k s3 ⟨n,h,l,ys,e1,e2,e3,e4,q⟩=>⟨n,l,ys,e1,by rw [e3]; exact jDL e2,e4,by rw [e3,List.set_set]; exact q⟩) fun _ _ z=>z) fun _ _ z=>z) fun _ _ z=>z)
theorem yMC {ns:List Int} {i:Int} (h0:0≤i) (h1:i < ns.length):∃ k,atI (ns.map PV.int) i=some (.int k):=by
 unfold atI ixN
 rw [if_pos h0,List.length_map,if_pos h1]
 show ∃ k,(ns.map PV.int)[i.toNat]?=some (.int k)
 rw [List.getElem?_map,List.getElem?_eq_getElem (by omega)]
 exact ⟨_,rfl⟩
theorem vBM {i j:Int} (h:j.natAbs < 18446744073709551616):yBT i j=some (i * j):=if_pos (.inr h)
theorem vBN {i j:Int} (h:i.natAbs < 18446744073709551616):yBT i j=some (i * j):=if_pos (.inl h)
theorem yCN {h:AH} {i j:Int} (hj:j.natAbs < 18446744073709551616):jDY h (.int i) (.int j)=some (.int (i * j)):=by
 show (yBT i j).map PV.int=_
 rw [vBM hj]; rfl
theorem vBX {h:AH} {i j:Int} (hj:i.natAbs < 18446744073709551616):jDY h (.int i) (.int j)=some (.int (i * j)):=by
 show (yBT i j).map PV.int=_
 rw [vBN hj]; rfl
theorem jXC {h:AH} {i j:Int} (hj:j≠0):jKI h (.int i) (.int j)=some (.int (i.fmod j)):=by
 show (yHU i j).map PV.int=_
 unfold yHU
 rw [if_pos hj]; rfl
theorem yJC {h:AH} {i j:Int} (hj:j≠0) (h2:j.natAbs < 1073741824):jYX h (.int i) (.int j)=some (.int (i.fdiv j)):=by
 show (jZH i j).map PV.int=_
 unfold jZH
 rw [if_pos ⟨hj,h2⟩]; rfl
theorem jOK (i j:Int):PyData.eqv (.int i) (.int j)=decide (i=j):=rfl
theorem jJI {a b:Int} (h:0 < b):0≤a.fmod b∧a.fmod b < b:=⟨Int.fmod_nonneg_of_pos a h,Int.fmod_lt_of_pos a h⟩
noncomputable def yJF:MS:=(yE (sIf (andM (bM (jO fEq (jO fIx (jE 0) (eC (.int 2))) (eC (.int 0)))) (bM (jO fLt (jO fIx (jE 0) (eC (.int 1))) (eCB jDS (jC (jO fIx (jE 0) (eC (.int 0))) jN))))) (yE (uW 2 (jO fIx (jO fIx (jE 0) (eC (.int 0))) (jO fIx (jE 0) (eC (.int 1)))))
 (yE (jGS (jO zH (jO fIx (jE 0) (eC (.int 1))) (eC (.int 1))) (jE 0) (eC (.int 1)))
 (yE (jGS (ifM (bM (jO fGe (jE 2) (jO yMH (eC (.int 10)) (eC (.int 18))))) (jE 2) (eC (.int 0))) (jE 0) (eC (.int 2)))
 (jGS (jO jKI (eCB jEN (jC (jO zH (jO zH (jO jDY (jO fIx (jE 0) (eC (.int 3))) (eC (.int 40031))) (jO jDY (jO jKI (eCB jEN (jC (jE 2) jN)) (eC (.int 2147483549))) (eC (.int 331)))) (eC (.int 2011))) jN)) (eC (.int 2147483587))) (jE 0) (eC (.int 3)))))) uC)
 (yE (sIf (bM (jO fGt (jO fIx (jE 0) (eC (.int 2))) (eC (.int 0)))) (yE (uW 3 (jO jKI (eCB jEN (jC (jO fIx (jE 0) (eC (.int 2))) jN)) (jE 1)))
 (yE (jGS (jO jYX (jO fIx (jE 0) (eC (.int 2))) (jE 1)) (jE 0) (eC (.int 2)))
 (uV (jE 3)))) uC)
 (yE (jGS (jO zH (jO fIx (jE 0) (eC (.int 4))) (eC (.int 1))) (jE 0) (eC (.int 4)))
 (yE (uW 4 (jO fIx (jE 0) (eC (.int 3))))
 (yE (jGS (jO jKI (eCB jEN (jC (jO zH (jO zH (jO zH (jO jDY (jE 4) (jE 4)) (jO jDY (eC (.int 65071)) (jE 4))) (jO jDY (eC (.int 6673)) (jO fIx (jE 0) (eC (.int 4))))) (eC (.int 40013))) jN)) (eC (.int 2147483587))) (jE 0) (eC (.int 3)))
 (uV (jO jKI (eCB jEN (jC (jO zH (jO zH (jO jYX (jO fIx (jE 0) (eC (.int 3))) (eC (.int 61))) (jO jDY (jE 4) (eC (.int 32009)))) (jO fIx (jE 0) (eC (.int 4)))) jN)) (jE 1))))))))
noncomputable def yJE:MS:=(vA (jEX (jZA (xBM (jX fEq (jX fIx (jM 0) (xEC (.int 2))) (xEC (.int 0)))) (xBM (jX fLt (jX fIx (jM 0) (xEC (.int 1))) (xECB jDS (jG (jX fIx (jM 0) (xEC (.int 0))) jT))))) (vA (jAD 2 (jX fIx (jX fIx (jM 0) (xEC (.int 0))) (jX fIx (jM 0) (xEC (.int 1)))))
 (vA (jJA (jX zH (jX fIx (jM 0) (xEC (.int 1))) (xEC (.int 1))) (jM 0) (xEC (.int 1)))
 (vA (jJA (jMG (xBM (jX fGe (jM 2) (jX yMH (xEC (.int 10)) (xEC (.int 18))))) (jM 2) (xEC (.int 0))) (jM 0) (xEC (.int 2)))
 (jJA (jX jKI (xECB jEN (jG (jX zH (jX zH (jX jDY (jX fIx (jM 0) (xEC (.int 3))) (xEC (.int 40031))) (jX jDY (jX jKI (xECB jEN (jG (jM 2) jT)) (xEC (.int 2147483549))) (xEC (.int 331)))) (xEC (.int 2011))) jT)) (xEC (.int 2147483587))) (jM 0) (xEC (.int 3)))))) jBM)
 (vA (jEX (xBM (jX fGt (jX fIx (jM 0) (xEC (.int 2))) (xEC (.int 0)))) (vA (jAD 3 (jX jKI (xECB jEN (jG (jX fIx (jM 0) (xEC (.int 2))) jT)) (jM 1)))
 (vA (jJA (jX jYX (jX fIx (jM 0) (xEC (.int 2))) (jM 1)) (jM 0) (xEC (.int 2)))
 (jBL (jM 3)))) jBM)
 (vA (jJA (jX zH (jX fIx (jM 0) (xEC (.int 4))) (xEC (.int 1))) (jM 0) (xEC (.int 4)))
 (vA (jAD 4 (jX fIx (jM 0) (xEC (.int 3))))
 (vA (jJA (jX jKI (xECB jEN (jG (jX zH (jX zH (jX zH (jX jDY (jM 4) (jM 4)) (jX jDY (xEC (.int 65071)) (jM 4))) (jX jDY (xEC (.int 6673)) (jX fIx (jM 0) (xEC (.int 4))))) (xEC (.int 40013))) jT)) (xEC (.int 2147483587))) (jM 0) (xEC (.int 3)))
 (jBL (jX jKI (xECB jEN (jG (jX zH (jX zH (jX jYX (jX fIx (jM 0) (xEC (.int 3))) (xEC (.int 61))) (jX jDY (jM 4) (xEC (.int 32009)))) (jX fIx (jM 0) (xEC (.int 4)))) jT)) (jM 1))))))))
theorem ySY:yJF=yJE:=by kernel_rfl
@[irreducible] noncomputable def jSG:MF:=mkF 3 yJF
section
theorem yHB {h:AH} {n:Nat} {l:List PV} (hn:n < h.length) (b:Bag l) {k:Int} (hk:1≤k) (hk2:k < 1073741824) :
  (jSG [.cel n,.int k] (h.set n (some (.lst l)))).post (fun v h'=>∃ d l',v=.int d∧0≤d∧d < k∧Bag l'∧h'=h.set n (some (.lst l'))) NE:=by
 obtain ⟨ns,i,c,sd,t,rfl,h1,h2,h3,h4⟩:=b
 unfold jSG
 rw [ySY]
 unfold yJE
 refine jCW [some (.cel n),some (.int k),none,none,none] rfl (uH (yZ (P':=fun fl s1=>fl=.nx∧∃ l' x,Bag l'∧s1=⟨[some (.cel n),some (.int k),x,none,none],h.set n (some (.lst l'))⟩) ?_ ?_))
 ·(repeat (first | refine yH rfl ?_ | refine p_c ?_ | refine uX ?_ | refine yK ?_ | refine vW ?_ | refine uH ?_ | refine wL ?_ | refine jAE ?_ | refine jAF ?_ | refine jCT ?_ | refine jEY ?_ | refine jEZ ?_ | refine qU ?_ | refine jCP ?_ | refine qG ?_ | refine zN ?_ | refine qM ?_ | refine jCH ?_ | refine qT ?_ | refine jCA ?_ | refine jBD ?_ | refine jBE ?_ | refine uD ?_ | refine zP ?_ | refine ⟨⟨⟨rfl,rfl⟩,rfl,rfl⟩,⟨rfl,rfl⟩,?_⟩ | refine qQ ?_ | refine jGB ?_ | refine zL ?_ | refine zM ?_ | refine wB ?_ | refine uJ ?_ | refine qR ?_ | refine jCO ?_ | refine jCU ?_ | refine wJ rfl ?_ | refine qC rfl ?_ | refine ⟨_,rfl,?_⟩ | refine ⟨⟨rfl,rfl⟩,?_⟩ | refine ⟨⟨rfl,Nat.le_of_ble_eq_true rfl⟩,?_⟩ | refine ⟨_,_,_,_,rfl,hn,rfl,rfl,?_⟩ | (refine ⟨_,_,rfl,⟨rfl,rfl⟩,?_⟩; try dsimp only [jP,List.set_cons_succ,List.set_cons_zero]) | (refine ⟨rfl,?_⟩; try dsimp only [jP,List.set_cons_succ,List.set_cons_zero]) | refine ⟨_,jGF (jDL hn) rfl,?_⟩))
  refine jGQ (fun hc=>?_) fun hc=>?_
  ·(repeat (first | refine yH rfl ?_ | refine p_c ?_ | refine uX ?_ | refine yK ?_ | refine vW ?_ | refine uH ?_ | refine wL ?_ | refine jAE ?_ | refine jAF ?_ | refine jCT ?_ | refine jEY ?_ | refine jEZ ?_ | refine qU ?_ | refine jCP ?_ | refine qG ?_ | refine zN ?_ | refine qM ?_ | refine jCH ?_ | refine qT ?_ | refine jCA ?_ | refine jBD ?_ | refine jBE ?_ | refine uD ?_ | refine zP ?_ | refine ⟨⟨⟨rfl,rfl⟩,rfl,rfl⟩,⟨rfl,rfl⟩,?_⟩ | refine qQ ?_ | refine jGB ?_ | refine zL ?_ | refine zM ?_ | refine wB ?_ | refine uJ ?_ | refine qR ?_ | refine jCO ?_ | refine jCU ?_ | refine wJ rfl ?_ | refine qC rfl ?_ | refine ⟨_,rfl,?_⟩ | refine ⟨⟨rfl,rfl⟩,?_⟩ | refine ⟨⟨rfl,Nat.le_of_ble_eq_true rfl⟩,?_⟩ | refine ⟨_,_,_,_,rfl,hn,rfl,rfl,?_⟩ | (refine ⟨_,_,rfl,⟨rfl,rfl⟩,?_⟩; try dsimp only [jP,List.set_cons_succ,List.set_cons_zero]) | (refine ⟨rfl,?_⟩; try dsimp only [jP,List.set_cons_succ,List.set_cons_zero]) | refine ⟨_,jGF (jDL hn) rfl,?_⟩))
   refine jGQ (fun hi=>?_) fun hi=>?_
   ·have hi:i < (((ns.map PV.int).length:Nat):Int):=of_decide_eq_true hi
    obtain ⟨q,eq⟩:=yMC h1 (by simpa using hi)
    (repeat (first | refine yH rfl ?_ | refine p_c ?_ | refine uX ?_ | refine yK ?_ | refine vW ?_ | refine uH ?_ | refine wL ?_ | refine jAE ?_ | refine jAF ?_ | refine jCT ?_ | refine jEY ?_ | refine jEZ ?_ | refine qU ?_ | refine jCP ?_ | refine qG ?_ | refine zN ?_ | refine qM ?_ | refine jCH ?_ | refine qT ?_ | refine jCA ?_ | refine jBD ?_ | refine jBE ?_ | refine uD ?_ | refine zP ?_ | refine ⟨⟨⟨rfl,rfl⟩,rfl,rfl⟩,⟨rfl,rfl⟩,?_⟩ | refine qQ ?_ | refine jGB ?_ | refine zL ?_ | refine zM ?_ | refine wB ?_ | refine uJ ?_ | refine qR ?_ | refine jCO ?_ | refine jCU ?_ | refine wJ rfl ?_ | refine qC rfl ?_ | refine ⟨_,rfl,?_⟩ | refine ⟨⟨rfl,rfl⟩,?_⟩ | refine ⟨⟨rfl,Nat.le_of_ble_eq_true rfl⟩,?_⟩ | refine ⟨_,_,_,_,rfl,hn,rfl,rfl,?_⟩ | (refine ⟨_,_,rfl,⟨rfl,rfl⟩,?_⟩; try dsimp only [jP,List.set_cons_succ,List.set_cons_zero]) | (refine ⟨rfl,?_⟩; try dsimp only [jP,List.set_cons_succ,List.set_cons_zero]) | refine ⟨_,jGF (jDL hn) rfl,?_⟩ | refine ⟨_,eq,?_⟩))
    have fin:=@jJI
    refine jGQ (fun hq=>?_) fun hq=>?_
    ·have hq:(10:Int) ^ 18≤q:=of_decide_eq_true hq
     (repeat (first | refine yH rfl ?_ | refine p_c ?_ | refine uX ?_ | refine yK ?_ | refine vW ?_ | refine uH ?_ | refine wL ?_ | refine jAE ?_ | refine jAF ?_ | refine jCT ?_ | refine jEY ?_ | refine jEZ ?_ | refine qU ?_ | refine jCP ?_ | refine qG ?_ | refine zN ?_ | refine qM ?_ | refine jCH ?_ | refine qT ?_ | refine jCA ?_ | refine jBD ?_ | refine jBE ?_ | refine uD ?_ | refine zP ?_ | refine ⟨⟨⟨rfl,rfl⟩,rfl,rfl⟩,⟨rfl,rfl⟩,?_⟩ | refine qQ ?_ | refine jGB ?_ | refine zL ?_ | refine zM ?_ | refine wB ?_ | refine uJ ?_ | refine qR ?_ | refine jCO ?_ | refine jCU ?_ | refine wJ rfl ?_ | refine qC rfl ?_ | refine ⟨_,rfl,?_⟩ | refine ⟨⟨rfl,rfl⟩,?_⟩ | refine ⟨⟨rfl,Nat.le_of_ble_eq_true rfl⟩,?_⟩ | refine ⟨_,_,_,_,rfl,hn,rfl,rfl,?_⟩ | (refine ⟨_,_,rfl,⟨rfl,rfl⟩,?_⟩; try dsimp only [jP,List.set_cons_succ,List.set_cons_zero]) | (refine ⟨rfl,?_⟩; try dsimp only [jP,List.set_cons_succ,List.set_cons_zero]) | refine ⟨_,jGF (jDL hn) rfl,?_⟩ | refine ⟨_,eq,?_⟩ | refine ⟨_,yCN (by decide),?_⟩ | refine ⟨_,jXC (by decide),?_⟩))
     refine ⟨_,some _,⟨ns,i+1,q,_,t,rfl,by omega,by omega,(fin (by decide)).1,(fin (by decide)).2⟩,rfl⟩
    ·(repeat (first | refine yH rfl ?_ | refine p_c ?_ | refine uX ?_ | refine yK ?_ | refine vW ?_ | refine uH ?_ | refine wL ?_ | refine jAE ?_ | refine jAF ?_ | refine jCT ?_ | refine jEY ?_ | refine jEZ ?_ | refine qU ?_ | refine jCP ?_ | refine qG ?_ | refine zN ?_ | refine qM ?_ | refine jCH ?_ | refine qT ?_ | refine jCA ?_ | refine jBD ?_ | refine jBE ?_ | refine uD ?_ | refine zP ?_ | refine ⟨⟨⟨rfl,rfl⟩,rfl,rfl⟩,⟨rfl,rfl⟩,?_⟩ | refine qQ ?_ | refine jGB ?_ | refine zL ?_ | refine zM ?_ | refine wB ?_ | refine uJ ?_ | refine qR ?_ | refine jCO ?_ | refine jCU ?_ | refine wJ rfl ?_ | refine qC rfl ?_ | refine ⟨_,rfl,?_⟩ | refine ⟨⟨rfl,rfl⟩,?_⟩ | refine ⟨⟨rfl,Nat.le_of_ble_eq_true rfl⟩,?_⟩ | refine ⟨_,_,_,_,rfl,hn,rfl,rfl,?_⟩ | (refine ⟨_,_,rfl,⟨rfl,rfl⟩,?_⟩; try dsimp only [jP,List.set_cons_succ,List.set_cons_zero]) | (refine ⟨rfl,?_⟩; try dsimp only [jP,List.set_cons_succ,List.set_cons_zero]) | refine ⟨_,jGF (jDL hn) rfl,?_⟩ | refine ⟨_,eq,?_⟩ | refine ⟨_,yCN (by decide),?_⟩ | refine ⟨_,jXC (by decide),?_⟩))
     refine ⟨_,some _,⟨ns,i+1,0,_,t,rfl,by omega,by omega,(fin (by decide)).1,(fin (by decide)).2⟩,rfl⟩
   ·(repeat (first | refine yH rfl ?_ | refine p_c ?_ | refine uX ?_ | refine yK ?_ | refine vW ?_ | refine uH ?_ | refine wL ?_ | refine jAE ?_ | refine jAF ?_ | refine jCT ?_ | refine jEY ?_ | refine jEZ ?_ | refine qU ?_ | refine jCP ?_ | refine qG ?_ | refine zN ?_ | refine qM ?_ | refine jCH ?_ | refine qT ?_ | refine jCA ?_ | refine jBD ?_ | refine jBE ?_ | refine uD ?_ | refine zP ?_ | refine ⟨⟨⟨rfl,rfl⟩,rfl,rfl⟩,⟨rfl,rfl⟩,?_⟩ | refine qQ ?_ | refine jGB ?_ | refine zL ?_ | refine zM ?_ | refine wB ?_ | refine uJ ?_ | refine qR ?_ | refine jCO ?_ | refine jCU ?_ | refine wJ rfl ?_ | refine qC rfl ?_ | refine ⟨_,rfl,?_⟩ | refine ⟨⟨rfl,rfl⟩,?_⟩ | refine ⟨⟨rfl,Nat.le_of_ble_eq_true rfl⟩,?_⟩ | refine ⟨_,_,_,_,rfl,hn,rfl,rfl,?_⟩ | (refine ⟨_,_,rfl,⟨rfl,rfl⟩,?_⟩; try dsimp only [jP,List.set_cons_succ,List.set_cons_zero]) | (refine ⟨rfl,?_⟩; try dsimp only [jP,List.set_cons_succ,List.set_cons_zero])))
    exact ⟨_,none,⟨ns,i,c,sd,t,rfl,h1,h2,h3,h4⟩,rfl⟩
  ·(repeat (first | refine yH rfl ?_ | refine p_c ?_ | refine uX ?_ | refine yK ?_ | refine vW ?_ | refine uH ?_ | refine wL ?_ | refine jAE ?_ | refine jAF ?_ | refine jCT ?_ | refine jEY ?_ | refine jEZ ?_ | refine qU ?_ | refine jCP ?_ | refine qG ?_ | refine zN ?_ | refine qM ?_ | refine jCH ?_ | refine qT ?_ | refine jCA ?_ | refine jBD ?_ | refine jBE ?_ | refine uD ?_ | refine zP ?_ | refine ⟨⟨⟨rfl,rfl⟩,rfl,rfl⟩,⟨rfl,rfl⟩,?_⟩ | refine qQ ?_ | refine jGB ?_ | refine zL ?_ | refine zM ?_ | refine wB ?_ | refine uJ ?_ | refine qR ?_ | refine jCO ?_ | refine jCU ?_ | refine wJ rfl ?_ | refine qC rfl ?_ | refine ⟨_,rfl,?_⟩ | refine ⟨⟨rfl,rfl⟩,?_⟩ | refine ⟨⟨rfl,Nat.le_of_ble_eq_true rfl⟩,?_⟩ | refine ⟨_,_,_,_,rfl,hn,rfl,rfl,?_⟩ | (refine ⟨_,_,rfl,⟨rfl,rfl⟩,?_⟩; try dsimp only [jP,List.set_cons_succ,List.set_cons_zero]) | (refine ⟨rfl,?_⟩; try dsimp only [jP,List.set_cons_succ,List.set_cons_zero])))
   exact ⟨_,none,⟨ns,i,c,sd,t,rfl,h1,h2,h3,h4⟩,rfl⟩
 ·rintro fl s1 ⟨rfl,l',x,⟨ns,i,c,sd,t,rfl,h1,h2,h3,h4⟩,rfl⟩
  dsimp only
  (repeat (first | refine yH rfl ?_ | refine p_c ?_ | refine uX ?_ | refine yK ?_ | refine vW ?_ | refine uH ?_ | refine wL ?_ | refine jAE ?_ | refine jAF ?_ | refine jCT ?_ | refine jEY ?_ | refine jEZ ?_ | refine qU ?_ | refine jCP ?_ | refine qG ?_ | refine zN ?_ | refine qM ?_ | refine jCH ?_ | refine qT ?_ | refine jCA ?_ | refine jBD ?_ | refine jBE ?_ | refine uD ?_ | refine zP ?_ | refine ⟨⟨⟨rfl,rfl⟩,rfl,rfl⟩,⟨rfl,rfl⟩,?_⟩ | refine qQ ?_ | refine jGB ?_ | refine zL ?_ | refine zM ?_ | refine wB ?_ | refine uJ ?_ | refine qR ?_ | refine jCO ?_ | refine jCU ?_ | refine wJ rfl ?_ | refine qC rfl ?_ | refine ⟨_,rfl,?_⟩ | refine ⟨⟨rfl,rfl⟩,?_⟩ | refine ⟨⟨rfl,Nat.le_of_ble_eq_true rfl⟩,?_⟩ | refine ⟨_,_,_,_,rfl,hn,rfl,rfl,?_⟩ | (refine ⟨_,_,rfl,⟨rfl,rfl⟩,?_⟩; try dsimp only [jP,List.set_cons_succ,List.set_cons_zero]) | (refine ⟨rfl,?_⟩; try dsimp only [jP,List.set_cons_succ,List.set_cons_zero]) | refine ⟨_,jGF (jDL hn) rfl,?_⟩))
  refine jGQ (fun hc=>?_) fun hc=>?_
  ·have hc:(0:Int) < c:=of_decide_eq_true hc
   (repeat (first | refine yH rfl ?_ | refine p_c ?_ | refine uX ?_ | refine yK ?_ | refine vW ?_ | refine uH ?_ | refine wL ?_ | refine jAE ?_ | refine jAF ?_ | refine jCT ?_ | refine jEY ?_ | refine jEZ ?_ | refine qU ?_ | refine jCP ?_ | refine qG ?_ | refine zN ?_ | refine qM ?_ | refine jCH ?_ | refine qT ?_ | refine jCA ?_ | refine jBD ?_ | refine jBE ?_ | refine uD ?_ | refine zP ?_ | refine ⟨⟨⟨rfl,rfl⟩,rfl,rfl⟩,⟨rfl,rfl⟩,?_⟩ | refine qQ ?_ | refine jGB ?_ | refine zL ?_ | refine zM ?_ | refine wB ?_ | refine uJ ?_ | refine qR ?_ | refine jCO ?_ | refine jCU ?_ | refine wJ rfl ?_ | refine qC rfl ?_ | refine ⟨_,rfl,?_⟩ | refine ⟨⟨rfl,rfl⟩,?_⟩ | refine ⟨⟨rfl,Nat.le_of_ble_eq_true rfl⟩,?_⟩ | refine ⟨_,_,_,_,rfl,hn,rfl,rfl,?_⟩ | (refine ⟨_,_,rfl,⟨rfl,rfl⟩,?_⟩; try dsimp only [jP,List.set_cons_succ,List.set_cons_zero]) | (refine ⟨rfl,?_⟩; try dsimp only [jP,List.set_cons_succ,List.set_cons_zero]) | refine ⟨_,jGF (jDL hn) rfl,?_⟩ | refine ⟨_,jXC (by omega),?_⟩ | refine ⟨_,yJC (by omega) (by omega),?_⟩))
   refine ⟨_,_,rfl,(jJI (by omega)).1,(jJI (by omega)).2,⟨ns,i,_,sd,t,rfl,h1,?_,h3,h4⟩,rfl⟩
   exact Int.fdiv_nonneg (by omega) (by omega)
  ·(repeat (first | refine yH rfl ?_ | refine p_c ?_ | refine uX ?_ | refine yK ?_ | refine vW ?_ | refine uH ?_ | refine wL ?_ | refine jAE ?_ | refine jAF ?_ | refine jCT ?_ | refine jEY ?_ | refine jEZ ?_ | refine qU ?_ | refine jCP ?_ | refine qG ?_ | refine zN ?_ | refine qM ?_ | refine jCH ?_ | refine qT ?_ | refine jCA ?_ | refine jBD ?_ | refine jBE ?_ | refine uD ?_ | refine zP ?_ | refine ⟨⟨⟨rfl,rfl⟩,rfl,rfl⟩,⟨rfl,rfl⟩,?_⟩ | refine qQ ?_ | refine jGB ?_ | refine zL ?_ | refine zM ?_ | refine wB ?_ | refine uJ ?_ | refine qR ?_ | refine jCO ?_ | refine jCU ?_ | refine wJ rfl ?_ | refine qC rfl ?_ | refine ⟨_,rfl,?_⟩ | refine ⟨⟨rfl,rfl⟩,?_⟩ | refine ⟨⟨rfl,Nat.le_of_ble_eq_true rfl⟩,?_⟩ | refine ⟨_,_,_,_,rfl,hn,rfl,rfl,?_⟩ | (refine ⟨_,_,rfl,⟨rfl,rfl⟩,?_⟩; try dsimp only [jP,List.set_cons_succ,List.set_cons_zero]) | (refine ⟨rfl,?_⟩; try dsimp only [jP,List.set_cons_succ,List.set_cons_zero]) | refine ⟨_,jGF (jDL hn) rfl,?_⟩ | refine ⟨_,jXC (by omega),?_⟩ | refine ⟨_,yJC (by omega) (by omega),?_⟩ | refine ⟨_,vBX (by omega),?_⟩ | refine ⟨_,yCN (by omega),?_⟩))
   exact ⟨_,_,rfl,(jJI (by omega)).1,(jJI (by omega)).2,⟨ns,i,c,_,_,rfl,h1,h2,(jJI (by decide)).1,(jJI (by decide)).2⟩,rfl⟩
end
end Lp
set_option maxHeartbeats 4000000
namespace Lp
open PySem PySem.Spec PyProof.Rows L2
noncomputable def vCP:MS:=(uV (jO fIx (jE 1) (yO 2 jSG (jC (jE 0) (jC (eCB jDS (jC (jE 1) jN)) jN)))))
noncomputable def yUM:MS:=(jBL (jX fIx (jM 1) (vN 2 jSG (jG (jM 0) (jG (xECB jDS (jG (jM 1) jT)) jT)))))
theorem yTU:vCP=yUM:=by kernel_rfl
@[irreducible] noncomputable def ofM:MF:=mkF 0 vCP
def BagAt (h:AH) (n:Nat) (h':AH):Prop:=∃ l,Bag l∧h'=h.set n (some (.lst l))
section
theorem jLU {h h1:AH} {n:Nat} (hn:n < h.length) (b:BagAt h n h1) {k:Int} (hk:1≤k) (hk2:k < 1073741824):(jSG [.cel n,.int k] h1).post (fun v h'=>(∃ d,v=.int d∧0≤d∧d < k)∧BagAt h n h') NE:=by
 obtain ⟨l,b,rfl⟩:=b
 exact p_mono (yHB hn b hk hk2) (fun v h' ⟨d,l',e,h1,h2,b,e'⟩=>⟨⟨d,e,h1,h2⟩,l',b,e'⟩) fun _ _ z=>z
theorem yJJ {α:Type} {xs:List α} {d:Int} (h0:0≤d) (h1:d < xs.length):∃ x,atI xs d=some x∧x∈xs:=by
 unfold atI ixN
 rw [if_pos h0,if_pos h1]
 have:d.toNat < xs.length:=by omega
 exact ⟨xs[d.toNat],by show xs[d.toNat]?=_; exact List.getElem?_eq_getElem this,List.getElem_mem this⟩
theorem yFI {h:AH} {x:Str} {i:Int}:fIx h (.str x) (.int i)=(atI x.cps.toList i).map fun c=>.str ⟨#[c]⟩:=rfl
theorem yCH {h h1:AH} {n:Nat} (hn:n < h.length) (b:BagAt h n h1) {xs:List PV} (h0:1≤xs.length) (h2:xs.length < 1073741824) (hs:vM xs=true) :
  (ofM [.cel n,.lst xs] h1).post (fun v h'=>v∈xs∧BagAt h n h') NE:=by
 unfold ofM
 rw [yTU]
 unfold yUM
 refine jCW [some (.cel n),some (.lst xs)] rfl ?_
 (repeat (first | refine yH rfl ?_ | refine p_c ?_ | refine uX ?_ | refine yK ?_ | refine vW ?_ | refine uH ?_ | refine wL ?_ | refine jAE ?_ | refine jAF ?_ | refine jCT ?_ | refine jEY ?_ | refine jEZ ?_ | refine qU ?_ | refine jCP ?_ | refine qG ?_ | refine zN ?_ | refine qM ?_ | refine jCH ?_ | refine qT ?_ | refine jCA ?_ | refine jBD ?_ | refine jBE ?_ | refine uD ?_ | refine zP ?_ | refine ⟨⟨⟨rfl,rfl⟩,rfl,rfl⟩,⟨rfl,rfl⟩,?_⟩ | refine qQ ?_ | refine jGB ?_ | refine zL ?_ | refine zM ?_ | refine wB ?_ | refine uJ ?_ | refine qR ?_ | refine jCO ?_ | refine jCU ?_ | refine wJ rfl ?_ | refine qC rfl ?_ | refine ⟨_,rfl,?_⟩ | refine ⟨⟨rfl,rfl⟩,?_⟩ | refine ⟨⟨rfl,Nat.le_of_ble_eq_true rfl⟩,?_⟩ | refine ⟨_,_,_,_,rfl,hn,rfl,rfl,?_⟩ | (refine ⟨_,_,rfl,⟨rfl,rfl⟩,?_⟩; try dsimp only [jP,List.set_cons_succ,List.set_cons_zero]) | (refine ⟨rfl,?_⟩; try dsimp only [jP,List.set_cons_succ,List.set_cons_zero])))
 refine yZ (jLU hn b (k:=(xs.length:Int)) (by omega) (by omega)) fun v h' ⟨⟨d,e,d0,d1⟩,b'⟩=>?_
 subst e
 obtain ⟨x,ex,hx⟩:=yJJ (xs:=xs) d0 (by simpa using d1)
 refine ⟨x,ex,?_,hx,b'⟩
 unfold vM at hs
 have:=List.all_eq_true.mp hs x hx
 simpa using this
theorem vBG {h h1:AH} {n:Nat} (hn:n < h.length) (b:BagAt h n h1) {x:Str} (h0:1≤x.length) (h2:x.length < 1073741824) :
  (ofM [.cel n,.str x] h1).post (fun v h'=>(∃ c∈x.cps.toList,v=.str ⟨#[c]⟩)∧BagAt h n h') NE:=by
 unfold ofM
 rw [yTU]
 unfold yUM
 refine jCW [some (.cel n),some (.str x)] rfl ?_
 (repeat (first | refine yH rfl ?_ | refine p_c ?_ | refine uX ?_ | refine yK ?_ | refine vW ?_ | refine uH ?_ | refine wL ?_ | refine jAE ?_ | refine jAF ?_ | refine jCT ?_ | refine jEY ?_ | refine jEZ ?_ | refine qU ?_ | refine jCP ?_ | refine qG ?_ | refine zN ?_ | refine qM ?_ | refine jCH ?_ | refine qT ?_ | refine jCA ?_ | refine jBD ?_ | refine jBE ?_ | refine uD ?_ | refine zP ?_ | refine ⟨⟨⟨rfl,rfl⟩,rfl,rfl⟩,⟨rfl,rfl⟩,?_⟩ | refine qQ ?_ | refine jGB ?_ | refine zL ?_ | refine zM ?_ | refine wB ?_ | refine uJ ?_ | refine qR ?_ | refine jCO ?_ | refine jCU ?_ | refine wJ rfl ?_ | refine qC rfl ?_ | refine ⟨_,rfl,?_⟩ | refine ⟨⟨rfl,rfl⟩,?_⟩ | refine ⟨⟨rfl,Nat.le_of_ble_eq_true rfl⟩,?_⟩ | refine ⟨_,_,_,_,rfl,hn,rfl,rfl,?_⟩ | (refine ⟨_,_,rfl,⟨rfl,rfl⟩,?_⟩; try dsimp only [jP,List.set_cons_succ,List.set_cons_zero]) | (refine ⟨rfl,?_⟩; try dsimp only [jP,List.set_cons_succ,List.set_cons_zero])))
 refine yZ (jLU hn b (k:=(x.length:Int)) (by omega) (by omega)) fun v h' ⟨⟨d,e,d0,d1⟩,b'⟩=>?_
 subst e
 obtain ⟨c,ec,hc⟩:=yJJ (xs:=x.cps.toList) d0 (by simpa [Str.length] using d1)
 refine ⟨.str ⟨#[c]⟩,by rw [yFI,ec]; rfl,rfl,⟨c,hc,rfl⟩,b'⟩
end
end Lp
set_option maxHeartbeats 4000000
namespace Lp
open PySem PySem.Spec PyProof.Rows L2
def Pl:PV→Prop
 | .non=>True
 | .bl _=>True
 | .int _=>True
 | .str _=>True
 | .tup _=>True
 | .lst _=>True
 | _=>False
def tyP:PV→BT
 | .non=>.non
 | .bl _=>.bl
 | .int _=>.int
 | .str _=>.str
 | .tup _=>.tup
 | _=>.lst
theorem yUV {v:PV} (p:Pl v) (h:AH):tyN h v=some (tyP v):=by cases v <;> first | rfl | exact p.elim
theorem vAD {v:PV} (p:Pl v):isOwn v=false:=by cases v <;> first | rfl | exact p.elim
theorem yUC {h:AH} {v:PV} {u:BT} {n:String} (p:Pl v) (e2:BT.of n=some u):wZ h [v,.ty n]=some (.bl (subT (tyP v) u)):=by
 show ((tyN h v).bind fun t=>(BT.of n).map fun u=>PV.bl (subT t u))=_
 rw [yUV p,e2]; rfl
theorem jFA {α:Type} {xs:List α} {j:Nat} {x:α} (e:xs[j]?=some x):xs.take (j+1)=xs.take j++[x]:=by
 obtain ⟨h,rfl⟩:=List.getElem?_eq_some_iff.mp e
 rw [List.take_succ,List.getElem?_eq_getElem h]; rfl
theorem jZY (bs:List Bool):(bs.map PV.bl).mapM jWR=some bs:=by
 induction bs with
 | nil=>rfl
 | cons b bs ih=>rw [List.map_cons,List.mapM_cons,ih]; rfl
theorem jYE {h:AH} (bs:List Bool):jKH h [.lst (bs.map PV.bl)]=some (.bl (bs.all fun b=>b)):=by
 show ((bs.map PV.bl).mapM jWR).map _=_
 rw [jZY]; rfl
theorem yTH {h:AH} (bs:List Bool):yBX h [.lst (bs.map PV.bl)]=some (.bl (bs.any fun b=>b)):=by
 show ((bs.map PV.bl).mapM jWR).map _=_
 rw [jZY]; rfl
theorem all_map {h:AH} {xs:List PV} (f:PV→Bool):jKH h [.lst (xs.map fun v=>.bl (f v))]=some (.bl ((xs.map f).all fun b=>b)):=by
 rw [show (xs.map fun v=>PV.bl (f v))=(xs.map f).map PV.bl by rw [List.map_map]; rfl]
 exact jYE _
section
variable {PA:List PV→S→Prop} {E:PV→S→Prop} {s:S}
theorem jPR {src:S→R S Sr} {t:Tg} {te:ME} {vs:List Nat}
  (h:(src s).post (fun r s1=>r.w=[]∧∃ f:PV→PV,(∀ v∈r.xs,∃ e1,zR t v (jP s1.e vs)=some e1∧(te ⟨e1,s1.h⟩).post (fun y s3=>y=f v∧isOwn y=false∧jP s3.e vs=jP s1.e vs∧s3.h=s1.h) NE)∧PA (r.xs.map f) ⟨jP s1.e vs,s1.h⟩) E) :
  (zG src t jAO te vs s).post PA E:=by
 refine jJG (p_mono h (fun r s1 ⟨hw,f,hs,hn⟩=>⟨hw,fun j acc h=>acc=(r.xs.take j).map f∧h=s1.h,⟨rfl,rfl⟩,fun j v acc h e ⟨i1,i2⟩=>?_,fun acc h ⟨i1,i2⟩=>?_⟩) fun _ _ z=>z)
 ·obtain ⟨e1,eb,q⟩:=hs v (List.mem_of_getElem? e)
  subst i2
  refine ⟨e1,eb,yFU (wJ rfl (p_mono q (fun y s3 ⟨ey,o,w,eh⟩=>⟨o,w,?_,eh⟩) fun _ _ z=>z))⟩
  rw [jFA e,List.map_append,i1,ey]; rfl
 ·rw [i1,i2,List.take_length]; exact hn
end
end Lp
set_option maxHeartbeats 4000000
namespace Lp
open PySem PySem.Spec PyProof.Rows L2
@[irreducible] def jNE (m:MA):S→R S Sr:=jQK m
@[irreducible] def jYZ (m:MA):S→R S Sr:=yHT m
noncomputable def jSE (m:MF):MS:=(yE (sIf (tM (eCB wZ (jC (jE 1) (jC (yS (jC (eC (.ty "list")) (jC (eC (.ty "tuple")) jN))) jN)))) (yE (sIf (orM (bM (jO fNe (eCB wZ (jC (jE 0) (jC (eC (.ty "list")) jN))) (eCB wZ (jC (jE 1) (jC (eC (.ty "list")) jN))))) (bM (jO fNe (eCB wZ (jC (jE 0) (jC (eC (.ty "tuple")) jN))) (eCB wZ (jC (jE 1) (jC (eC (.ty "tuple")) jN)))))) (uV (eC (.bl false))) uC)
 (uV (jGR (jO fEq (eCB jDS (jC (jE 0) jN)) (eCB jDS (jC (jE 1) jN))) (eCB jKH (jC (shN (zQ (yHT (jC (jE 0) (jC (jE 1) jN))) (.t [(.n 2),(.n 3)]) jAO (yO 2 m (jC (jE 2) (jC (jE 3) jN))) [2,3])) jN))))) uC)
 (yE (sIf (orM (bM (jO jDZ (jE 1) (eC .non))) (bM (jO jDZ (jE 0) (eC .non)))) (uV (jGR (jO jDZ (jE 1) (eC .non)) (jO jDZ (jE 0) (eC .non)))) uC)
 (yE (sIf (orM (bM (jO fNe (eCB wZ (jC (jE 0) (jC (eC (.ty "bool")) jN))) (eCB wZ (jC (jE 1) (jC (eC (.ty "bool")) jN))))) (bM (jO fNe (eCB wZ (jC (jE 0) (jC (eC (.ty "int")) jN))) (eCB wZ (jC (jE 1) (jC (eC (.ty "int")) jN)))))) (uV (eC (.bl false))) uC)
 (uV (jGR (jO fEq (eCB wZ (jC (jE 0) (jC (eC (.ty "str")) jN))) (eCB wZ (jC (jE 1) (jC (eC (.ty "str")) jN)))) (jO fEq (jE 0) (jE 1)))))))
noncomputable def yDZ (m:MF):MS:=(vA (jEX (xTM (xECB wZ (jG (jM 1) (jG (jBN (jG (xEC (.ty "list")) (jG (xEC (.ty "tuple")) jT))) jT)))) (vA (jEX (jUI (xBM (jX fNe (xECB wZ (jG (jM 0) (jG (xEC (.ty "list")) jT))) (xECB wZ (jG (jM 1) (jG (xEC (.ty "list")) jT))))) (xBM (jX fNe (xECB wZ (jG (jM 0) (jG (xEC (.ty "tuple")) jT))) (xECB wZ (jG (jM 1) (jG (xEC (.ty "tuple")) jT)))))) (jBL (xEC (.bl false))) jBM)
 (jBL (jVF (jX fEq (xECB jDS (jG (jM 0) jT)) (xECB jDS (jG (jM 1) jT))) (xECB jKH (jG (jMF (zG (jYZ (jG (jM 0) (jG (jM 1) jT))) (.t [(.n 2),(.n 3)]) jAO (vN 2 m (jG (jM 2) (jG (jM 3) jT))) [2,3])) jT))))) jBM)
 (vA (jEX (jUI (xBM (jX jDZ (jM 1) (xEC .non))) (xBM (jX jDZ (jM 0) (xEC .non)))) (jBL (jVF (jX jDZ (jM 1) (xEC .non)) (jX jDZ (jM 0) (xEC .non)))) jBM)
 (vA (jEX (jUI (xBM (jX fNe (xECB wZ (jG (jM 0) (jG (xEC (.ty "bool")) jT))) (xECB wZ (jG (jM 1) (jG (xEC (.ty "bool")) jT))))) (xBM (jX fNe (xECB wZ (jG (jM 0) (jG (xEC (.ty "int")) jT))) (xECB wZ (jG (jM 1) (jG (xEC (.ty "int")) jT)))))) (jBL (xEC (.bl false))) jBM)
 (jBL (jVF (jX fEq (xECB wZ (jG (jM 0) (jG (xEC (.ty "str")) jT))) (xECB wZ (jG (jM 1) (jG (xEC (.ty "str")) jT)))) (jX fEq (jM 0) (jM 1)))))))
theorem jXX (m:MF):jSE m=yDZ m:=by kernel_rfl
noncomputable def jPK:Nat→MF
 | 0=>fun _ _=>.bad
 | n+1=>mkF 2 (jSE (jPK n))
@[irreducible] noncomputable def jSD (n:Nat):MF:=jPK n
def DPl:Nat→PV→Prop
 | _,.non=>True
 | _,.bl _=>True
 | _,.int _=>True
 | _,.str _=>True
 | n+1,.tup xs=>∀ x∈xs,DPl n x
 | n+1,.lst xs=>∀ x∈xs,DPl n x
 | _,_=>False
theorem DPl.pl:∀ {n:Nat} {v:PV},DPl n v→Pl v:=fun {n v} h=>by
 cases n <;> cases v <;> first | trivial | exact h.elim
theorem jYN (i:Int):PyData.eqv (.int i) (.int i)=true:=by rw [jOK]; simp
theorem jYB (x y:Str):PyData.eqv (.str x) (.str y)=decide (x=y):=by
 first | rfl | (simp [PyData.eqv]; done) | (show (x == y)=_; rfl)
theorem yLT (x y:Bool):PyData.eqv (.bool x) (.bool y)=decide (x=y):=by
 cases x <;> cases y <;> rfl
section
variable {P:PV→S→Prop} {PS:Sr→S→Prop} {E:PV→S→Prop} {s:S} {ma:MA}
theorem yTT (h:(ma s).post (fun vs s1=>(∃ xs ys,vs=[.tup xs,.tup ys]∧PS ⟨jIN xs ys,[],false⟩ s1)∨∃ xs ys,vs=[.lst xs,.lst ys]∧PS ⟨jIN xs ys,[],false⟩ s1) E):(jYZ ma s).post PS E:=by
 unfold jYZ
 exact jY (p_mono h (fun vs s1 q=>by
  rcases q with ⟨xs,ys,rfl,q⟩ | ⟨xs,ys,rfl,q⟩
  ·exact q
  ·exact q) fun _ _ z=>z)
theorem yCF (h:(ma s).post (fun vs s1=>∃ j,vs=[.int j]∧j.natAbs≤16777216∧PS ⟨(List.range j.toNat).map fun (k:Nat)=>.int k,[],false⟩ s1) E):(jNE ma s).post PS E:=by
 unfold jNE
 exact jY (p_mono h (fun vs s1 ⟨j,e,hj,q⟩=>by subst e; simp only [if_pos hj]; exact q) fun _ _ z=>z)
theorem yRQ {x:MS} {PF:Fl→S→Prop} {xs:List PV} {i:Nat} {o:Bool} (hi:i < s.e.length) (hs:∀ v∈xs,isOwn v=false∧(x ⟨s.e.set i (some v),s.h⟩).post (fun fl s'=>fl=.nx∧s'=⟨s.e.set i (some v),s.h⟩) E) (hn:∀ z,PF .nx ⟨s.e.set i z,s.h⟩):(jEB ⟨xs,[],o⟩ (.n i) x xs s).post PF E:=by
 refine jJE (fun _ s'=>∃ z,s'=⟨s.e.set i z,s.h⟩) ⟨s.e[i],by rw [List.set_getElem_self]⟩ (fun j v s' e ⟨z,es⟩=>?_) fun s' ⟨z,es⟩=>?_
 ·obtain ⟨h1,h2⟩:=hs v (List.mem_of_getElem? e)
  subst es
  refine ⟨s.e.set i (some v),by show (if isOwn v=true then none else some ((s.e.set i z).set i (some v)))=_; rw [h1,List.set_set]; rfl,?_⟩
  refine p_mono h2 (fun fl s'' ⟨q1,q2⟩=>?_) fun _ _ z=>z
  subst q1
  exact ⟨_,q2⟩
 ·subst es
  exact hn z
theorem zip_self {xs:List PV} {v:PV} (h:v∈jIN xs xs):∃ x∈xs,v=.tup [x,x]:=by
 unfold jIN at h
 induction xs with
 | nil=>cases h
 | cons y ys ih =>
  rw [List.zipWith_cons_cons] at h
  rcases List.mem_cons.mp h with h | h
  ·exact ⟨y,by simp,h⟩
  ·obtain ⟨x,hx,e⟩:=ih h
   exact ⟨x,List.mem_cons_of_mem _ hx,e⟩
end
section
theorem jOS {h:AH} (xs:List PV):jKH h [.lst (xs.map fun _=>PV.bl true)]=some (.bl true):=by
 rw [all_map fun _=>true]
 congr 2
 rw [List.all_eq_true]
 intro x hx
 obtain ⟨_,_,rfl⟩:=List.mem_map.mp hx
 rfl
theorem jOI {m:MF} {v:PV} {h:AH} (d:DPl 0 v):(mkF 2 (jSE m) [v,v] h).post (fun r h'=>r=.bl true∧h'=h) NE:=by
 rw [jXX]
 unfold yDZ
 refine jCW [some v,some v,none,none] rfl ?_
 cases v with
 | non=>(repeat (first | refine yH rfl ?_ | refine p_c ?_ | refine uX ?_ | refine yK ?_ | refine vW ?_ | refine uH ?_ | refine wL ?_ | refine jAE ?_ | refine jAF ?_ | refine jCT ?_ | refine jEY ?_ | refine jEZ ?_ | refine qU ?_ | refine jCP ?_ | refine qG ?_ | refine zN ?_ | refine qM ?_ | refine jCH ?_ | refine qT ?_ | refine jCA ?_ | refine jBD ?_ | refine jBE ?_ | refine uD ?_ | refine zP ?_ | refine ⟨⟨⟨rfl,rfl⟩,rfl,rfl⟩,⟨rfl,rfl⟩,?_⟩ | refine qQ ?_ | refine jGB ?_ | refine zL ?_ | refine zM ?_ | refine wB ?_ | refine uJ ?_ | refine qR ?_ | refine jCO ?_ | refine jCU ?_ | refine wJ rfl ?_ | refine qC rfl ?_ | refine ⟨_,rfl,?_⟩ | refine ⟨⟨rfl,rfl⟩,?_⟩ | refine ⟨⟨rfl,Nat.le_of_ble_eq_true rfl⟩,?_⟩ | refine ⟨_,_,_,_,rfl,hn,rfl,rfl,?_⟩ | (refine ⟨_,_,rfl,⟨rfl,rfl⟩,?_⟩; try dsimp only [jP,List.set_cons_succ,List.set_cons_zero]) | (refine ⟨rfl,?_⟩; try dsimp only [jP,List.set_cons_succ,List.set_cons_zero])))
 | bl b =>
  (repeat (first | refine yH rfl ?_ | refine p_c ?_ | refine uX ?_ | refine yK ?_ | refine vW ?_ | refine uH ?_ | refine wL ?_ | refine jAE ?_ | refine jAF ?_ | refine jCT ?_ | refine jEY ?_ | refine jEZ ?_ | refine qU ?_ | refine jCP ?_ | refine qG ?_ | refine zN ?_ | refine qM ?_ | refine jCH ?_ | refine qT ?_ | refine jCA ?_ | refine jBD ?_ | refine jBE ?_ | refine uD ?_ | refine zP ?_ | refine ⟨⟨⟨rfl,rfl⟩,rfl,rfl⟩,⟨rfl,rfl⟩,?_⟩ | refine qQ ?_ | refine jGB ?_ | refine zL ?_ | refine zM ?_ | refine wB ?_ | refine uJ ?_ | refine qR ?_ | refine jCO ?_ | refine jCU ?_ | refine wJ rfl ?_ | refine qC rfl ?_ | refine ⟨_,rfl,?_⟩ | refine ⟨⟨rfl,rfl⟩,?_⟩ | refine ⟨⟨rfl,Nat.le_of_ble_eq_true rfl⟩,?_⟩ | refine ⟨_,_,_,_,rfl,hn,rfl,rfl,?_⟩ | (refine ⟨_,_,rfl,⟨rfl,rfl⟩,?_⟩; try dsimp only [jP,List.set_cons_succ,List.set_cons_zero]) | (refine ⟨rfl,?_⟩; try dsimp only [jP,List.set_cons_succ,List.set_cons_zero])))
  exact ⟨by rw [yLT,decide_eq_true rfl],rfl⟩
 | int i =>
  (repeat (first | refine yH rfl ?_ | refine p_c ?_ | refine uX ?_ | refine yK ?_ | refine vW ?_ | refine uH ?_ | refine wL ?_ | refine jAE ?_ | refine jAF ?_ | refine jCT ?_ | refine jEY ?_ | refine jEZ ?_ | refine qU ?_ | refine jCP ?_ | refine qG ?_ | refine zN ?_ | refine qM ?_ | refine jCH ?_ | refine qT ?_ | refine jCA ?_ | refine jBD ?_ | refine jBE ?_ | refine uD ?_ | refine zP ?_ | refine ⟨⟨⟨rfl,rfl⟩,rfl,rfl⟩,⟨rfl,rfl⟩,?_⟩ | refine qQ ?_ | refine jGB ?_ | refine zL ?_ | refine zM ?_ | refine wB ?_ | refine uJ ?_ | refine qR ?_ | refine jCO ?_ | refine jCU ?_ | refine wJ rfl ?_ | refine qC rfl ?_ | refine ⟨_,rfl,?_⟩ | refine ⟨⟨rfl,rfl⟩,?_⟩ | refine ⟨⟨rfl,Nat.le_of_ble_eq_true rfl⟩,?_⟩ | refine ⟨_,_,_,_,rfl,hn,rfl,rfl,?_⟩ | (refine ⟨_,_,rfl,⟨rfl,rfl⟩,?_⟩; try dsimp only [jP,List.set_cons_succ,List.set_cons_zero]) | (refine ⟨rfl,?_⟩; try dsimp only [jP,List.set_cons_succ,List.set_cons_zero])))
  exact ⟨by rw [jOK,decide_eq_true rfl],rfl⟩
 | str x =>
  (repeat (first | refine yH rfl ?_ | refine p_c ?_ | refine uX ?_ | refine yK ?_ | refine vW ?_ | refine uH ?_ | refine wL ?_ | refine jAE ?_ | refine jAF ?_ | refine jCT ?_ | refine jEY ?_ | refine jEZ ?_ | refine qU ?_ | refine jCP ?_ | refine qG ?_ | refine zN ?_ | refine qM ?_ | refine jCH ?_ | refine qT ?_ | refine jCA ?_ | refine jBD ?_ | refine jBE ?_ | refine uD ?_ | refine zP ?_ | refine ⟨⟨⟨rfl,rfl⟩,rfl,rfl⟩,⟨rfl,rfl⟩,?_⟩ | refine qQ ?_ | refine jGB ?_ | refine zL ?_ | refine zM ?_ | refine wB ?_ | refine uJ ?_ | refine qR ?_ | refine jCO ?_ | refine jCU ?_ | refine wJ rfl ?_ | refine qC rfl ?_ | refine ⟨_,rfl,?_⟩ | refine ⟨⟨rfl,rfl⟩,?_⟩ | refine ⟨⟨rfl,Nat.le_of_ble_eq_true rfl⟩,?_⟩ | refine ⟨_,_,_,_,rfl,hn,rfl,rfl,?_⟩ | (refine ⟨_,_,rfl,⟨rfl,rfl⟩,?_⟩; try dsimp only [jP,List.set_cons_succ,List.set_cons_zero]) | (refine ⟨rfl,?_⟩; try dsimp only [jP,List.set_cons_succ,List.set_cons_zero])))
  exact ⟨by rw [jYB,decide_eq_true rfl],rfl⟩
 | _=>exact d.elim
theorem yFB {m:MF} {v:PV} {xs:List PV} {h:AH} (hv:v=.tup xs∨v=.lst xs) (hp:∀ x∈xs,Pl x) (ih:∀ x∈xs,(m [x,x] h).post (fun r h'=>r=.bl true∧h'=h) NE) :
  (mkF 2 (jSE m) [v,v] h).post (fun r h'=>r=.bl true∧h'=h) NE:=by
 have item:∀ (w:PV),w∈jIN xs xs→∀ (u:PV),Pl u→∃ e1,zR (.t [(.n 2),(.n 3)]) w (jP [some u,some u,none,none] [2,3])=some e1 ∧
   (vN 2 m (jG (jM 2) (jG (jM 3) jT)) ⟨e1,h⟩).post (fun y s3=>y=(fun _=>PV.bl true) w∧isOwn y=false∧jP s3.e [2,3]=jP [some u,some u,none,none] [2,3]∧s3.h=h) NE:=fun w hw u pu=>by
  obtain ⟨x,hx,rfl⟩:=zip_self hw
  have ox:isOwn x=false:=vAD (hp x hx)
  refine ⟨[some u,some u,some x,some x],by simp [zR,bindTs,jP,ox],?_⟩
  (repeat (first | refine yH rfl ?_ | refine p_c ?_ | refine uX ?_ | refine yK ?_ | refine vW ?_ | refine uH ?_ | refine wL ?_ | refine jAE ?_ | refine jAF ?_ | refine jCT ?_ | refine jEY ?_ | refine jEZ ?_ | refine qU ?_ | refine jCP ?_ | refine qG ?_ | refine zN ?_ | refine qM ?_ | refine jCH ?_ | refine qT ?_ | refine jCA ?_ | refine jBD ?_ | refine jBE ?_ | refine uD ?_ | refine zP ?_ | refine ⟨⟨⟨rfl,rfl⟩,rfl,rfl⟩,⟨rfl,rfl⟩,?_⟩ | refine qQ ?_ | refine jGB ?_ | refine zL ?_ | refine zM ?_ | refine wB ?_ | refine uJ ?_ | refine qR ?_ | refine jCO ?_ | refine jCU ?_ | refine wJ rfl ?_ | refine qC rfl ?_ | refine ⟨_,rfl,?_⟩ | refine ⟨⟨rfl,rfl⟩,?_⟩ | refine ⟨⟨rfl,Nat.le_of_ble_eq_true rfl⟩,?_⟩ | refine ⟨_,_,_,_,rfl,hn,rfl,rfl,?_⟩ | (refine ⟨_,_,rfl,⟨rfl,rfl⟩,?_⟩; try dsimp only [jP,List.set_cons_succ,List.set_cons_zero]) | (refine ⟨rfl,?_⟩; try dsimp only [jP,List.set_cons_succ,List.set_cons_zero]) | refine ⟨⟨rfl,by simp [vM,ox]⟩,yZ (ih x hx) fun r h' z=>?_⟩))
  obtain ⟨rfl,rfl⟩:=z
  exact ⟨rfl,rfl,rfl,rfl⟩
 rw [jXX]
 unfold yDZ
 refine jCW [some v,some v,none,none] rfl ?_
 rcases hv with rfl | rfl
 ·(repeat (first | refine yH rfl ?_ | refine p_c ?_ | refine uX ?_ | refine yK ?_ | refine vW ?_ | refine uH ?_ | refine wL ?_ | refine jAE ?_ | refine jAF ?_ | refine jCT ?_ | refine jEY ?_ | refine jEZ ?_ | refine qU ?_ | refine jCP ?_ | refine qG ?_ | refine zN ?_ | refine qM ?_ | refine jCH ?_ | refine qT ?_ | refine jCA ?_ | refine jBD ?_ | refine jBE ?_ | refine uD ?_ | refine zP ?_ | refine ⟨⟨⟨rfl,rfl⟩,rfl,rfl⟩,⟨rfl,rfl⟩,?_⟩ | refine qQ ?_ | refine jGB ?_ | refine zL ?_ | refine zM ?_ | refine wB ?_ | refine uJ ?_ | refine qR ?_ | refine jCO ?_ | refine jCU ?_ | refine wJ rfl ?_ | refine qC rfl ?_ | refine ⟨_,rfl,?_⟩ | refine ⟨⟨rfl,rfl⟩,?_⟩ | refine ⟨⟨rfl,Nat.le_of_ble_eq_true rfl⟩,?_⟩ | refine ⟨_,_,_,_,rfl,hn,rfl,rfl,?_⟩ | (refine ⟨_,_,rfl,⟨rfl,rfl⟩,?_⟩; try dsimp only [jP,List.set_cons_succ,List.set_cons_zero]) | (refine ⟨rfl,?_⟩; try dsimp only [jP,List.set_cons_succ,List.set_cons_zero])))
  refine wJ (by show PyData.eqv (.int _) (.int _)=true; rw [jOK,decide_eq_true rfl]) ?_
  (repeat (first | refine yH rfl ?_ | refine p_c ?_ | refine uX ?_ | refine yK ?_ | refine vW ?_ | refine uH ?_ | refine wL ?_ | refine jAE ?_ | refine jAF ?_ | refine jCT ?_ | refine jEY ?_ | refine jEZ ?_ | refine qU ?_ | refine jCP ?_ | refine qG ?_ | refine zN ?_ | refine qM ?_ | refine jCH ?_ | refine qT ?_ | refine jCA ?_ | refine jBD ?_ | refine jBE ?_ | refine uD ?_ | refine zP ?_ | refine ⟨⟨⟨rfl,rfl⟩,rfl,rfl⟩,⟨rfl,rfl⟩,?_⟩ | refine qQ ?_ | refine jGB ?_ | refine zL ?_ | refine zM ?_ | refine wB ?_ | refine uJ ?_ | refine qR ?_ | refine jCO ?_ | refine jCU ?_ | refine wJ rfl ?_ | refine qC rfl ?_ | refine ⟨_,rfl,?_⟩ | refine ⟨⟨rfl,rfl⟩,?_⟩ | refine ⟨⟨rfl,Nat.le_of_ble_eq_true rfl⟩,?_⟩ | refine ⟨_,_,_,_,rfl,hn,rfl,rfl,?_⟩ | (refine ⟨_,_,rfl,⟨rfl,rfl⟩,?_⟩; try dsimp only [jP,List.set_cons_succ,List.set_cons_zero]) | (refine ⟨rfl,?_⟩; try dsimp only [jP,List.set_cons_succ,List.set_cons_zero])))
  refine jPR (yTT (yK (yH rfl (yK (yH rfl (vW (.inl ⟨xs,xs,rfl,rfl,fun _=>.bl true,fun w hw=>item w hw _ trivial,?_⟩)))))))
  (repeat (first | refine yH rfl ?_ | refine p_c ?_ | refine uX ?_ | refine yK ?_ | refine vW ?_ | refine uH ?_ | refine wL ?_ | refine jAE ?_ | refine jAF ?_ | refine jCT ?_ | refine jEY ?_ | refine jEZ ?_ | refine qU ?_ | refine jCP ?_ | refine qG ?_ | refine zN ?_ | refine qM ?_ | refine jCH ?_ | refine qT ?_ | refine jCA ?_ | refine jBD ?_ | refine jBE ?_ | refine uD ?_ | refine zP ?_ | refine ⟨⟨⟨rfl,rfl⟩,rfl,rfl⟩,⟨rfl,rfl⟩,?_⟩ | refine qQ ?_ | refine jGB ?_ | refine zL ?_ | refine zM ?_ | refine wB ?_ | refine uJ ?_ | refine qR ?_ | refine jCO ?_ | refine jCU ?_ | refine wJ rfl ?_ | refine qC rfl ?_ | refine ⟨_,rfl,?_⟩ | refine ⟨⟨rfl,rfl⟩,?_⟩ | refine ⟨⟨rfl,Nat.le_of_ble_eq_true rfl⟩,?_⟩ | refine ⟨_,_,_,_,rfl,hn,rfl,rfl,?_⟩ | (refine ⟨_,_,rfl,⟨rfl,rfl⟩,?_⟩; try dsimp only [jP,List.set_cons_succ,List.set_cons_zero]) | (refine ⟨rfl,?_⟩; try dsimp only [jP,List.set_cons_succ,List.set_cons_zero]) | refine ⟨_,jOS _,?_⟩))
 ·(repeat (first | refine yH rfl ?_ | refine p_c ?_ | refine uX ?_ | refine yK ?_ | refine vW ?_ | refine uH ?_ | refine wL ?_ | refine jAE ?_ | refine jAF ?_ | refine jCT ?_ | refine jEY ?_ | refine jEZ ?_ | refine qU ?_ | refine jCP ?_ | refine qG ?_ | refine zN ?_ | refine qM ?_ | refine jCH ?_ | refine qT ?_ | refine jCA ?_ | refine jBD ?_ | refine jBE ?_ | refine uD ?_ | refine zP ?_ | refine ⟨⟨⟨rfl,rfl⟩,rfl,rfl⟩,⟨rfl,rfl⟩,?_⟩ | refine qQ ?_ | refine jGB ?_ | refine zL ?_ | refine zM ?_ | refine wB ?_ | refine uJ ?_ | refine qR ?_ | refine jCO ?_ | refine jCU ?_ | refine wJ rfl ?_ | refine qC rfl ?_ | refine ⟨_,rfl,?_⟩ | refine ⟨⟨rfl,rfl⟩,?_⟩ | refine ⟨⟨rfl,Nat.le_of_ble_eq_true rfl⟩,?_⟩ | refine ⟨_,_,_,_,rfl,hn,rfl,rfl,?_⟩ | (refine ⟨_,_,rfl,⟨rfl,rfl⟩,?_⟩; try dsimp only [jP,List.set_cons_succ,List.set_cons_zero]) | (refine ⟨rfl,?_⟩; try dsimp only [jP,List.set_cons_succ,List.set_cons_zero])))
  refine wJ (by show PyData.eqv (.int _) (.int _)=true; rw [jOK,decide_eq_true rfl]) ?_
  (repeat (first | refine yH rfl ?_ | refine p_c ?_ | refine uX ?_ | refine yK ?_ | refine vW ?_ | refine uH ?_ | refine wL ?_ | refine jAE ?_ | refine jAF ?_ | refine jCT ?_ | refine jEY ?_ | refine jEZ ?_ | refine qU ?_ | refine jCP ?_ | refine qG ?_ | refine zN ?_ | refine qM ?_ | refine jCH ?_ | refine qT ?_ | refine jCA ?_ | refine jBD ?_ | refine jBE ?_ | refine uD ?_ | refine zP ?_ | refine ⟨⟨⟨rfl,rfl⟩,rfl,rfl⟩,⟨rfl,rfl⟩,?_⟩ | refine qQ ?_ | refine jGB ?_ | refine zL ?_ | refine zM ?_ | refine wB ?_ | refine uJ ?_ | refine qR ?_ | refine jCO ?_ | refine jCU ?_ | refine wJ rfl ?_ | refine qC rfl ?_ | refine ⟨_,rfl,?_⟩ | refine ⟨⟨rfl,rfl⟩,?_⟩ | refine ⟨⟨rfl,Nat.le_of_ble_eq_true rfl⟩,?_⟩ | refine ⟨_,_,_,_,rfl,hn,rfl,rfl,?_⟩ | (refine ⟨_,_,rfl,⟨rfl,rfl⟩,?_⟩; try dsimp only [jP,List.set_cons_succ,List.set_cons_zero]) | (refine ⟨rfl,?_⟩; try dsimp only [jP,List.set_cons_succ,List.set_cons_zero])))
  refine jPR (yTT (yK (yH rfl (yK (yH rfl (vW (.inr ⟨xs,xs,rfl,rfl,fun _=>.bl true,fun w hw=>item w hw _ trivial,?_⟩)))))))
  (repeat (first | refine yH rfl ?_ | refine p_c ?_ | refine uX ?_ | refine yK ?_ | refine vW ?_ | refine uH ?_ | refine wL ?_ | refine jAE ?_ | refine jAF ?_ | refine jCT ?_ | refine jEY ?_ | refine jEZ ?_ | refine qU ?_ | refine jCP ?_ | refine qG ?_ | refine zN ?_ | refine qM ?_ | refine jCH ?_ | refine qT ?_ | refine jCA ?_ | refine jBD ?_ | refine jBE ?_ | refine uD ?_ | refine zP ?_ | refine ⟨⟨⟨rfl,rfl⟩,rfl,rfl⟩,⟨rfl,rfl⟩,?_⟩ | refine qQ ?_ | refine jGB ?_ | refine zL ?_ | refine zM ?_ | refine wB ?_ | refine uJ ?_ | refine qR ?_ | refine jCO ?_ | refine jCU ?_ | refine wJ rfl ?_ | refine qC rfl ?_ | refine ⟨_,rfl,?_⟩ | refine ⟨⟨rfl,rfl⟩,?_⟩ | refine ⟨⟨rfl,Nat.le_of_ble_eq_true rfl⟩,?_⟩ | refine ⟨_,_,_,_,rfl,hn,rfl,rfl,?_⟩ | (refine ⟨_,_,rfl,⟨rfl,rfl⟩,?_⟩; try dsimp only [jP,List.set_cons_succ,List.set_cons_zero]) | (refine ⟨rfl,?_⟩; try dsimp only [jP,List.set_cons_succ,List.set_cons_zero]) | refine ⟨_,jOS _,?_⟩))
theorem jHE:∀ (n:Nat) {v:PV} {h:AH},DPl n v→(jPK (n+1) [v,v] h).post (fun r h'=>r=.bl true∧h'=h) NE
 | 0,v,h,d=>jOI d
 | n+1,v,h,d=>by
  cases v with
  | tup xs=>exact yFB (.inl rfl) (fun x hx=>DPl.pl (d x hx)) fun x hx=>jHE n (d x hx)
  | lst xs=>exact yFB (.inr rfl) (fun x hx=>DPl.pl (d x hx)) fun x hx=>jHE n (d x hx)
  | non=>exact jOI trivial
  | bl b=>exact jOI trivial
  | int i=>exact jOI trivial
  | str x=>exact jOI trivial
  | _=>exact d.elim
theorem yGW {n:Nat} {v:PV} {h:AH} (d:DPl n v):(jSD (n+1) [v,v] h).post (fun r h'=>r=.bl true∧h'=h) NE:=by
 unfold jSD
 exact jHE n d
theorem yLI {n:Nat} {a b:PV} {h:AH} (e:a=b) (d:DPl n b):(jSD (n+1) [a,b] h).post (fun r h'=>r=.bl true∧h'=h) NE:=by
 subst e; exact yGW d
end
end Lp
set_option maxHeartbeats 4000000
namespace Lp
open PySem PySem.Spec PyProof.Rows L2
theorem ySL (cs:List Nat):(mkS cs).cps.toList=cs:=rfl
theorem jOH (cs:List Nat):(mkS cs).length=cs.length:=by show cs.toArray.size=_; simp
theorem jXU (a b:List Nat):mkS a++mkS b=mkS (a++b):=by
 show (⟨a.toArray++b.toArray⟩:Str)=⟨(a++b).toArray⟩
 rw [List.append_toArray]
theorem ySU {h:AH} {a b:List Nat} (z:a.length+b.length≤sizeLine):zH h (.str (mkS a)) (.str (mkS b))=some (.str (mkS (a++b))):=by
 show (if (mkS a).length+(mkS b).length≤sizeLine then some (PV.str (mkS a++mkS b)) else none)=_
 rw [jOH,jOH,if_pos z,jXU]
theorem yFZ (cs:List Nat):strsOf (cs.map fun c=>PV.str (mkS [c]))=some (cs.map fun c=>mkS [c]):=by
 unfold strsOf
 induction cs with
 | nil=>rfl
 | cons c cs ih=>rw [List.map_cons,List.mapM_cons,ih]; rfl
theorem join_ones:∀ cs:List Nat,Txt.join (mkS []) (cs.map fun c=>mkS [c])=mkS cs:=fun cs=>by
 rw [TL.join_eq]
 induction cs with
 | nil=>rfl
 | cons c cs ih =>
  cases cs with
  | nil=>rfl
  | cons d ds =>
   show mkS [c]++mkS []++Str.join (mkS []) ((d :: ds).map fun c=>mkS [c])=_
   rw [ih,jXU,jXU]; rfl
theorem yXH {cs:List Nat} (h:∀ c∈cs,c < 1114112):PyData.strOk (mkS cs)=true:=by
 show (cs.toArray.all fun c=>decide (c < 0x110000))=true
 rw [List.all_toArray]
 rw [List.all_eq_true]
 exact fun c hc=>decide_eq_true (h c hc)
theorem yDE {h:AH} {cs:List Nat} (z:cs.length≤16777216) (hc:∀ c∈cs,c < 1114112):jQM h (mkS []) [.lst (cs.map fun c=>.str (mkS [c]))]=some (.str (mkS cs)):=by
 show (strsOf (cs.map fun c=>PV.str (mkS [c]))).bind _=_
 rw [yFZ]
 show (if _ then _ else _)=_
 rw [join_ones]
 rw [if_pos]
 refine ⟨?_,yXH hc,?_⟩
 ·have e1:((cs.map fun c=>mkS [c]).map (·.length)).sum=cs.length:=by
   clear z hc
   induction cs with
   | nil=>rfl
   | cons c cs ih=>rw [List.map_cons,List.map_cons,List.sum_cons,ih]; show 1+cs.length=cs.length+1; omega
  rw [e1]
  show cs.length+_ * 0≤_
  omega
 ·rw [jOH]
  have:16777216≤sizeLine:=by decide
  omega
theorem vCC {α:Type} {xs:List α} {i:Int} (h0:0≤i) (h1:i≤xs.length):jIG xs none (some i)=xs.take i.toNat:=by
 unfold jIG
 have e1:HT.sIx xs.length 0 none=0:=rfl
 have e2:HT.sIx xs.length xs.length (some i)=i.toNat:=by
  unfold HT.sIx
  simp only
  split <;> omega
 rw [e1,e2,List.drop_zero,Nat.sub_zero]
theorem yLU {α:Type} {xs:List α} {i:Int} (h0:0≤i) (h1:i≤xs.length):jIG xs (some i) none=xs.drop i.toNat:=by
 unfold jIG
 have e1:HT.sIx xs.length 0 (some i)=i.toNat:=by
  unfold HT.sIx
  simp only
  split <;> omega
 have e2:HT.sIx xs.length xs.length none=xs.length:=rfl
 rw [e1,e2]
 rw [List.take_of_length_le (by rw [List.length_drop]; omega)]
end Lp
set_option maxHeartbeats 4000000
namespace Lp
open PySem PySem.Spec PyProof.Rows L2
abbrev FL:=Nat→List Str
structure ClsF (K:PySem.W.Frag) (B:Bs) (fl:FL):Prop where
 fld:∀ c,fl c≠[]→B.fld c=fl c
 cls:∀ c f,f∈fl c→Cls K (B.cad c)∧NoAttr K (B.cad c) f
 few:∀ c,(fl c).length < 1000
 nd:∀ c,(fl c).Nodup
theorem ClsF.at_ {K:PySem.W.Frag} {B:Bs} {fl:FL} (C:ClsF K B fl) {c:Nat} {f:Str} (h:f∈fl c):B.fld c=fl c:=C.fld c fun z=>by rw [z] at h; cases h
def jVN (h:AH):PV→Option (Nat × List PV)
 | .ins c fs=>some (c,fs)
 | .cel n=>match h[n]? with
  | some (some (.ins c fs))=>some (c,fs)
  | _=>none
 | _=>none
def yUP (fl:FL) (f:Str) (h:AH) (o:PV):Option PV:=(jVN h o).bind fun p=>((fl p.1).zip p.2).lookup f
def jFQ (fl:FL) (f:Str) (mo:ME):ME:=fun s=>(mo s).bind fun o s1=>match yUP fl f s1.h o with
 | some v=>.ok v s1
 | none=>.bad
def yHS (ns:List Str) (f:Str) (v:PV) (fs:List PV):Option (List PV):=if fs.length < ns.idxOf f then none else if ns.idxOf f < ns.length then some (if ns.idxOf f < fs.length then fs.set (ns.idxOf f) v else fs++[v]) else none
section
variable {X:Cx} {B:Bs} {N:Ent} {WX:L2.WX} {W W':Wd} {s s':S} {h:AH} {σ:L2.St} {H H':Hp} {e o:Expr} {mo mv:ME} {f:Str} {fl:FL} {pos pos':Pos}
theorem yIZ (hr:HRel B W h H) {x:PV} {x':V} {c:Nat} {fs:List PV} (rx:RepT B W H x x') (e:jVN h x=some (c,fs)):∃ a dx vs,x'=.ref a∧H a=some (.ins (B.cad c) dx ((B.fld c).zip vs))∧vs.length≤(B.fld c).length∧Reps B W fs vs:=by
 cases x with
 | ins c' fs' =>
  cases e
  cases (show Rep B W (.ins c fs) x' from rx) with
  | ins h hl r=>exact ⟨_,_,_,rfl,hr.agree _ _ h,hl,r⟩
 | cel n =>
  cases (show Rep B W (.cel n) x' from rx) with
  | cel h1 =>
   unfold jVN at e
   dsimp only at e
   split at e
   ·rename_i c' fs' q
    cases e
    obtain ⟨_,dx,vs,h2,hl,r⟩:=hr.cell n _ _ q h1
    exact ⟨_,dx,vs,rfl,h2,hl,r⟩
   ·cases e
 | _=>cases e
theorem jLA:∀ {ns:List Str} {fs:List PV} {vs:List V} {v:PV},Reps B W fs vs→(ns.zip fs).lookup f=some v→∃ v',(ns.zip vs).lookup f=some v'∧Rep B W v v'∧f∈ns
 | [],_,_,_,_,e=>by simp at e
 | n :: ns,_,_,_,.nil,e=>by simp at e
 | n :: ns,x :: xs,u :: us,v,.cons r t,e=>by
  rw [List.zip_cons_cons,List.lookup_cons] at e
  rw [List.zip_cons_cons,List.lookup_cons]
  cases q:f == n with
  | true =>
   rw [q] at e
   cases e
   exact ⟨u,rfl,r,by rw [beq_iff_eq.mp q]; simp⟩
  | false =>
   rw [q] at e
   obtain ⟨v',e1,r1,m⟩:=jLA t e
   exact ⟨v',e1,r1,List.mem_cons_of_mem _ m⟩
theorem wO (C:ClsF X.K B fl) (he:SimE X B N WX o mo) (hb:attributeBase o f X.env (eval o X.env)=eval o X.env):SimE X B N WX (.Attribute o f pos) (jFQ fl f mo) :=
 (pe_fld he hb).imp fun σ H Q ⟨W,s,r,h⟩=>⟨W,s,r,(h.bind r.slen).mono fun v W1 s1 H1 r1 _ q v' rv=>by
  split at q
  ·rename_i u eu
   unfold yUP at eu
   cases ei:jVN s1.h v with
   | none=>rw [ei] at eu; cases eu
   | some p =>
    obtain ⟨c,fs⟩:=p
    rw [ei] at eu
    have eu:((fl c).zip fs).lookup f=some u:=eu
    obtain ⟨a,dx,vs,rfl,hH,hl,rs⟩:=yIZ r1.hr rv ei
    obtain ⟨u',e1,r2,m⟩:=jLA rs eu
    have cc:=C.cls c f m
    exact ⟨a,_,dx,_,u',rfl,hH,cc.1,cc.2,by rw [C.at_ m]; exact e1,q.ok r1 u' r2.hand⟩
  ·exact q.elim⟩
theorem jZW {v:V}:∀ {ns:List Str} {vs:List V},ns.Nodup→vs.length≤ns.length→ns.idxOf f≤vs.length→ns.idxOf f < ns.length →
  putF f v (ns.zip vs)=ns.zip (if ns.idxOf f < vs.length then vs.set (ns.idxOf f) v else vs++[v])
 | [],_,_,_,_,h=>by simp at h
 | n :: ns,vs,nd,hl,h1,h2=>by
  by_cases hn:n=f
  ·subst hn
   have e0:(n :: ns).idxOf n=0:=by simp [List.idxOf_cons]
   rw [e0]
   cases vs with
   | nil=>simp [putF]
   | cons u us =>
    rw [if_pos (by simp)]
    show (if n=n then (n,v) :: ns.zip us else _)=_
    rw [if_pos rfl]; rfl
  ·have e0:(n :: ns).idxOf f=ns.idxOf f+1:=by rw [List.idxOf_cons,show (n == f)=false from beq_false_of_ne hn]; rfl
   rw [e0] at h1 h2 ⊢
   cases vs with
   | nil=>simp at h1
   | cons u us =>
    have ih:=jZW (v:=v) (ns:=ns) (vs:=us) (List.nodup_cons.mp nd).2 (by simpa using hl) (by simpa using h1) (by simpa using h2)
    show (if n=f then _ else (n,u) :: putF f v (ns.zip us))=_
    rw [if_neg hn,ih]
    by_cases h3:ns.idxOf f < us.length
    ·rw [if_pos h3,if_pos (by simpa using h3)]; rfl
    ·rw [if_neg h3,if_neg (by simpa using h3)]; rfl
end
section
variable {X:Cx} {B:Bs} {N:Ent} {WX:L2.WX} {W W':Wd} {s s':S} {h:AH} {σ:L2.St} {H H':Hp} {e o:Expr} {mo mv:ME} {f:Str} {fl:FL} {pos pos':Pos}
theorem yRA {ns:List Str} {v:PV} {fs gs:List PV} (e:yHS ns f v fs=some gs):ns.idxOf f≤fs.length∧ns.idxOf f < ns.length∧gs=if ns.idxOf f < fs.length then fs.set (ns.idxOf f) v else fs++[v]:=by
 unfold yHS at e
 split at e
 ·cases e
 ·split at e
  ·rename_i h1 h2
   cases e
   exact ⟨by omega,h2,rfl⟩
  ·cases e
theorem ySS (C:ClsF X.K B fl) {n c:Nat} {fs gs:List PV} {v:PV} {v':V} {a:Addr} (r:Rel B N W s σ H) (en:s.h[n]?=some (some (.ins c fs))) (em:W.m[n]?=some a) (rv:Rep B W v v') (eg:yHS (fl c) f v fs=some gs) :
  ∃ dx vs,H a=some (.ins (B.cad c) dx ((fl c).zip vs))∧Cls X.K (B.cad c)∧NoAttr X.K (B.cad c) f∧((fl c).zip vs).length < 1000 ∧
   Rel B N W ⟨s.e,s.h.set n (some (.ins c gs))⟩ σ (upd H a (.ins (B.cad c) dx (putF f v' ((fl c).zip vs))))∧StepE W s H W ⟨s.e,s.h.set n (some (.ins c gs))⟩ (upd H a (.ins (B.cad c) dx (putF f v' ((fl c).zip vs)))):=by
 obtain ⟨hF,dx,vs,hH,hl,rs⟩:=r.hr.cell n _ a en em
 obtain ⟨g1,g2,g3⟩:=yRA eg
 have hm:f∈fl c:=by
  have:=List.idxOf_lt_length_iff.mp g2
  exact this
 have Cf:=C.at_ hm
 rw [Cf] at hH hl
 have cc:=C.cls c f hm
 have hlen:=rs.length
 have lz:((fl c).zip vs).length < 1000:=by
  rw [List.length_zip]
  have:=C.few c
  omega
 have ep:=jZW (v:=v') (C.nd c) hl (by rw [← hlen]; exact g1) g2
 refine ⟨dx,vs,hH,cc.1,cc.2,lz,?_⟩
 have hc:CellR B W (upd H a (.ins (B.cad c) dx (putF f v' ((fl c).zip vs)))) a (.ins c gs):=by
  refine ⟨dx,(if (fl c).idxOf f < vs.length then vs.set ((fl c).idxOf f) v' else vs++[v']),by rw [upd_same,Cf,ep],?_,?_⟩
  ·rw [Cf]
   split
   ·rw [List.length_set]; exact hl
   ·rw [List.length_append,List.length_singleton]; omega
  ·rw [g3,hlen]
   split
   ·exact rs.set rv _
   ·exact rs.append (.one rv)
 have hr2:=jMB (c':=.ins c gs) r.hr en em (o:=.ins (B.cad c) dx (putF f v' ((fl c).zip vs))) trivial hc
 have st:=jLX (c':=.ins c gs) (o:=.ins (B.cad c) dx (putF f v' ((fl c).zip vs))) r.hr en em
 exact ⟨jBR r hr2 st,jEP st⟩
end
end Lp
set_option maxHeartbeats 4000000
namespace Lp
open PySem PySem.Spec PyProof.Rows L2
section
variable {B:Bs} {W W1 W2:Wd} {h h1 h2:AH} {H H1 H2:Hp} {p x dx:Addr} {o:HO} {c:Nat} {C:Cell}
theorem jTN (hr:HRel B W h H) (hp:H p=none) (ho:SzO o):HRel B W h (upd H p o):=by
 refine ⟨fun a u e=>?_,hr.len,hr.nd,fun a hm=>?_,fun a u e nt=>?_,hr.fz,jSV hr.tb hp,fun n c a e1 e2=>?_⟩
 ·have ne:a≠p:=fun z=>by rw [z,hr.fnone hp] at e; cases e
  rw [upd_ne ne]; exact hr.agree _ _ e
 ·by_cases ha:a=p
  ·rw [ha,upd_same]; exact fun z=>nomatch z
  ·rw [upd_ne ha]; exact hr.mt a hm
 ·by_cases ha:a=p
  ·rw [ha,upd_same] at e; cases e; exact ho
  ·rw [upd_ne ha] at e; exact hr.hz a u e nt
 ·obtain ⟨g1,g2⟩:=hr.cell n c a e1 e2
  exact ⟨g1,g2.off fun z=>hr.mt a (List.mem_of_getElem? e2) (by rw [z]; exact hp)⟩
theorem Step.loose (st:Step W h H W1 h1 H1) (hp:H p=none):Step W h H W1 h1 (upd H1 p o):=by
 refine ⟨st.le,st.hl,st.dead,fun a u e nt nl=>?_,fun a e=>?_,st.fgrow,st.hm,st.mnew⟩
 ·rw [upd_ne (ne_of_none e hp)]; exact st.keep a u e nt nl
 ·by_cases ha:a=p
  ·rw [ha,upd_same] at e; cases e
  ·rw [upd_ne ha] at e; exact st.tr a e
theorem yLG (hr:HRel B W h H) (hx:H x=none) (hd:H dx=none) (ne:dx≠x) :
  HRel B ⟨W.F,W.m++[x]⟩ (h++[some (.ins c [])]) (upd (upd H dx (.own x)) x (.ins (B.cad c) dx []))∧Step W h H ⟨W.F,W.m++[x]⟩ (h++[some (.ins c [])]) (upd (upd H dx (.own x)) x (.ins (B.cad c) dx [])):=by
 have a1:=jTN (o:=.own x) hr hd trivial
 have hx1:upd H dx (.own x) x=none:=by rw [upd_ne (Ne.symm ne)]; exact hx
 have a2:=jTN (o:=.ins (B.cad c) dx []) a1 hx1 trivial
 refine ⟨jWE a2 (hr.fnone hx) (fun z=>hr.mt x z hx) (by rw [upd_same]; exact fun z=>nomatch z) ⟨dx,[],by rw [upd_same]; simp,Nat.zero_le _,.nil⟩,?_⟩
 exact (((Step.refl hr).loose hd).loose hx).snoc hx
end
mutual
def jRX (n:Nat):PV→Bool
 | .cel k=>decide (k < n)
 | .tup xs=>celsB n xs
 | .lst xs=>celsB n xs
 | .scr xs=>celsB n xs
 | .ins _ fs=>celsB n fs
 | .exn _ fs=>celsB n fs
 | _=>true
def celsB (n:Nat):List PV→Bool
 | []=>true
 | x :: xs=>jRX n x&&celsB n xs
end
section
variable {B:Bs}
mutual
theorem Rep.cels {W:Wd}:∀ {x:PV} {v:V},Rep B W x v→jRX W.m.length x=true
 | _,_,.non=>rfl
 | _,_,.bl _=>rfl
 | _,_,.int _=>rfl
 | _,_,.str _ _=>rfl
 | _,_,.ty _=>rfl
 | _,_,.cls _=>rfl
 | _,_,.cel h=>decide_eq_true (List.getElem?_eq_some_iff.mp h).1
 | _,_,.tup _ r=>Reps.cels r
 | _,_,.lst _ r=>Reps.cels r
 | _,_,.scr _ r=>Reps.cels r
 | _,_,.ins _ _ r=>Reps.cels r
 | _,_,.exn _ _ _ r=>Reps.cels r
theorem Reps.cels {W:Wd}:∀ {xs:List PV} {vs:List V},Reps B W xs vs→celsB W.m.length xs=true
 | _,_,.nil=>rfl
 | _,_,.cons h t=>by
  show (jRX _ _&&celsB _ _)=true
  rw [Rep.cels h,Reps.cels t]; rfl
end
mutual
theorem Rep.cut {W:Wd} {n:Nat}:∀ {x:PV} {v:V},Rep B W x v→jRX n x=true→Rep B ⟨W.F,W.m.take n⟩ x v
 | _,_,.non,_=>.non
 | _,_,.bl b,_=>.bl b
 | _,_,.int i,_=>.int i
 | _,_,.str x h,_=>.str x h
 | _,_,.ty n,_=>.ty n
 | _,_,.cls c,_=>.cls c
 | _,_,.cel h,e=>.cel (by show (W.m.take n)[_]?=_; rw [List.getElem?_take_of_lt (of_decide_eq_true e)]; exact h)
 | _,_,.tup h r,e=>.tup h (Reps.cut r e)
 | _,_,.lst h r,e=>.lst h (Reps.cut r e)
 | _,_,.scr h r,e=>.scr h (Reps.cut r e)
 | _,_,.ins h hl r,e=>.ins h hl (Reps.cut r e)
 | _,_,.exn hx h hl r,e=>.exn hx h hl (Reps.cut r e)
theorem Reps.cut {W:Wd} {n:Nat}:∀ {xs:List PV} {vs:List V},Reps B W xs vs→celsB n xs=true→Reps B ⟨W.F,W.m.take n⟩ xs vs
 | _,_,.nil,_=>.nil
 | _,_,.cons h t,e=>by
  obtain ⟨e1,e2⟩:=Bool.and_eq_true_iff.mp (show (jRX _ _&&celsB _ _)=true from e)
  exact .cons (Rep.cut h e1) (Reps.cut t e2)
end
theorem DRel.cels {W:Wd} {ks:List (PV × PV)} {L:List (NestedKey × Addr × Value)} (r:DRel B W ks L):(celsB W.m.length (ks.map (·.1))&&celsB W.m.length (ks.map (·.2)))=true:=by
 induction r with
 | nil=>rfl
 | cons h1 h2 h3 h4 h5 _ ih =>
  obtain ⟨i1,i2⟩:=Bool.and_eq_true_iff.mp ih
  refine Bool.and_eq_true_iff.mpr ⟨?_,?_⟩
  ·show (jRX _ _&&celsB _ _)=true
   rw [h3.cels,i1]; rfl
  ·show (jRX _ _&&celsB _ _)=true
   rw [h4.cels,i2]; rfl
theorem DRel.cut {W:Wd} {n:Nat} {ks:List (PV × PV)} {L:List (NestedKey × Addr × Value)} (r:DRel B W ks L):celsB n (ks.map (·.1))=true→celsB n (ks.map (·.2))=true→DRel B ⟨W.F,W.m.take n⟩ ks L:=by
 induction r with
 | nil=>exact fun _ _=>.nil
 | cons h1 h2 h3 h4 h5 _ ih =>
  intro e1 e2
  obtain ⟨a1,a2⟩:=Bool.and_eq_true_iff.mp (show (jRX _ _&&celsB _ _)=true from e1)
  obtain ⟨b1,b2⟩:=Bool.and_eq_true_iff.mp (show (jRX _ _&&celsB _ _)=true from e2)
  exact .cons h1 h2 (h3.cut a1) (h4.cut b1) h5 (ih a2 b2)
def vCW (n:Nat):Cell→Bool
 | .lst xs=>celsB n xs
 | .dic ks=>celsB n (ks.map (·.1))&&celsB n (ks.map (·.2))
 | .ins _ fs=>celsB n fs
 | .dik ks=>celsB n (ks.map (·.2))
variable {W W1 W2:Wd} {h h1 h2:AH} {H H1 H2:Hp} {p x dx:Addr} {o:HO} {c:Nat} {C:Cell}
theorem CellR.cels {a:Addr} (r:CellR B W H a C):vCW W.m.length C=true:=by
 cases C with
 | lst xs=>obtain ⟨vs,_,q⟩:=r; exact q.cels
 | dic ks=>obtain ⟨L,_,_,q⟩:=r; exact q.cels
 | dik ks=>obtain ⟨L,_,_,q⟩:=r; exact q.cels
 | ins c fs=>obtain ⟨_,vs,_,_,q⟩:=r; exact q.cels
theorem CellR.cut {a:Addr} {n:Nat} (r:CellR B W H a C) (e:vCW n C=true):CellR B ⟨W.F,W.m.take n⟩ H a C:=by
 cases C with
 | lst xs=>obtain ⟨vs,q1,q⟩:=r; exact ⟨vs,q1,q.cut e⟩
 | dic ks=>obtain ⟨L,q1,q2,q⟩:=r; obtain ⟨e1,e2⟩:=Bool.and_eq_true_iff.mp e; exact ⟨L,q1,q2,q.cut e1 e2⟩
 | dik ks=>obtain ⟨L,q1,q2,q⟩:=r; exact ⟨L,q1,q2,q.cut e⟩
 | ins c fs=>obtain ⟨d,vs,q1,q2,q⟩:=r; exact ⟨d,vs,q1,q2,q.cut e⟩
theorem jZZ (hr:HRel B W h H) (hx:H x=none) (hr2:HRel B W2 (h++[some C]) H2) (st:Step ⟨W.F,W.m++[x]⟩ (h++[some (.ins c [])]) H1 W2 (h++[some C]) H2) (hk:∀ a o,H a=some o→H1 a=some o) (ht:∀ a,H1 a=none→H a=none) :
  W2.m=W.m++[x]∧HRel B ⟨W2.F,W.m⟩ h H2∧Step W h H ⟨W2.F,W.m⟩ h H2:=by
 have em:W2.m=W.m++[x]:=by
  obtain ⟨t,e⟩:=st.le.m
  have hl:=hr2.len
  rw [← e] at hl
  simp only [List.length_append,List.length_singleton,hr.len] at hl
  have:t=[]:=List.length_eq_zero_iff.mp (by omega)
  rw [← e,this,List.append_nil]
 have et:W2.m.take h.length=W.m:=by rw [em,← hr.len,List.take_left']; rfl
 have live:∀ a,H a≠none→Live ⟨W.F,W.m++[x]⟩ (h++[some (.ins c [])]) a→Live W h a:=fun a ne l=>by
  obtain ⟨n,c1,e1,e2⟩:=l
  have e2:(W.m++[x])[n]?=some a:=e2
  rcases jOD e2 with ⟨hn,e3⟩ | ⟨_,rfl⟩
  ·rw [hr.len] at hn
   rw [List.getElem?_append_left hn] at e1
   exact ⟨n,c1,e1,e3⟩
  ·exact absurd hx ne
 refine ⟨em,⟨hr2.agree,hr.len,hr.nd,fun a hm=>hr2.mt a (by rw [em]; exact List.mem_append_left _ hm),hr2.hz,hr2.fz,hr2.tb,fun m c1 a e1 e2=>?_⟩,⟨⟨st.le.F,List.prefix_refl _⟩,Nat.le_refl _,fun n c1 _ e=>⟨c1,e⟩,fun a u e nt nl=>?_,fun a e=>ht a (st.tr a e),fun a e ne nl=>?_,hr.len,fun n a hn e=>?_⟩⟩
 ·have hm:m < h.length:=(List.getElem?_eq_some_iff.mp e1).1
  have e2:W.m[m]?=some a:=e2
  obtain ⟨g1,g2⟩:=hr2.cell m c1 a (by rw [List.getElem?_append_left hm]; exact e1) (by rw [em,List.getElem?_append_left (by rw [hr.len]; exact hm)]; exact e2)
  have q:=g2.cut (n:=h.length) (by rw [← hr.len]; exact CellR.cels (hr.cell m c1 a e1 e2).2)
  rw [et] at q
  exact ⟨g1,q⟩
 ·exact st.keep a u (hk a u e) nt fun l=>nl (live a (by rw [e]; exact fun z=>nomatch z) l)
 ·exact st.fgrow a e (let ⟨u,e1,nt,nx⟩:=ne; ⟨u,hk a u e1,nt,nx⟩) fun l=>nl (live a ne.ne l)
 ·have:=(List.getElem?_eq_some_iff.mp (show W.m[n]?=some a from e)).1
  rw [hr.len] at this; omega
end
section
variable {B:Bs} {W W1 W2:Wd} {h h1 h2:AH} {H H1 H2:Hp} {p x dx:Addr} {o:HO} {c:Nat} {C:Cell}
theorem jWF (hr:HRel B W h H) (hF:W.F p=none) (hm:p∉W.m) (hp:H p=some o) (nt:NT o):HRel B ⟨upd W.F p o,W.m⟩ h H:=by
 refine ⟨fun a u e=>?_,hr.len,hr.nd,hr.mt,hr.hz,fun a u e=>?_,hr.tb,fun n c a e1 e2=>?_⟩
 ·by_cases ha:a=p
  ·have e:upd W.F p o a=some u:=e
   rw [ha,upd_same] at e
   rw [ha,hp]; exact e
  ·have e:upd W.F p o a=some u:=e
   rw [upd_ne ha] at e
   exact hr.agree _ _ e
 ·by_cases ha:a=p
  ·have e:upd W.F p o a=some u:=e
   rw [ha,upd_same] at e
   cases e
   exact nt
  ·have e:upd W.F p o a=some u:=e
   rw [upd_ne ha] at e
   exact hr.fz a u e
 ·obtain ⟨g1,g2⟩:=hr.cell n c a e1 e2
  have ne:a≠p:=fun z=>hm (z ▸ List.mem_of_getElem? e2)
  exact ⟨by show upd W.F p o a=none; rw [upd_ne ne]; exact g1,g2.mono (jCX hF) fun _ z=>z⟩
theorem Step.keepNew (st:Step W h H W1 h1 H1) (hp:H p=none) (hF:W1.F p=none):Step W h H ⟨upd W1.F p o,W1.m⟩ h1 H1 :=
 ⟨st.le.trans (jCX hF),st.hl,st.dead,st.keep,st.tr,fun a e ne nl=>by
  have ha:a≠p:=fun z=>ne.ne (z ▸ hp)
  show upd W1.F p o a=none
  rw [upd_ne ha]; exact st.fgrow a e ne nl,st.hm,st.mnew⟩
end
instance decIns {h h2:AH} {c n:Nat}:Decidable (∃ fs,h2=h++[some (.ins c fs)]∧celsB n fs=true) :=
 match e:h2[h.length]? with
 | some (some (.ins c' fs))=>if q:h2=h++[some (.ins c fs)]∧celsB n fs=true then .isTrue ⟨fs,q⟩ else .isFalse fun ⟨fs',q'⟩=>by
   obtain ⟨rfl,q2⟩:=q'
   rw [List.getElem?_append_right (Nat.le_refl _),Nat.sub_self] at e
   cases e
   exact q ⟨rfl,q2⟩
 | some (some (.lst _))=>.isFalse fun ⟨fs',q',_⟩=>by rw [q',List.getElem?_append_right (Nat.le_refl _),Nat.sub_self] at e; cases e
 | some (some (.dic _))=>.isFalse fun ⟨fs',q',_⟩=>by rw [q',List.getElem?_append_right (Nat.le_refl _),Nat.sub_self] at e; cases e
 | some (some (.dik _))=>.isFalse fun ⟨fs',q',_⟩=>by rw [q',List.getElem?_append_right (Nat.le_refl _),Nat.sub_self] at e; cases e
 | some none=>.isFalse fun ⟨fs',q',_⟩=>by rw [q',List.getElem?_append_right (Nat.le_refl _),Nat.sub_self] at e; cases e
 | none=>.isFalse fun ⟨fs',q',_⟩=>by rw [q',List.getElem?_append_right (Nat.le_refl _),Nat.sub_self] at e; cases e
instance decOne {h h2:AH}:Decidable (∃ C,h2=h++[some C]) :=
 match e:h2[h.length]? with
 | some (some C)=>if q:h2=h++[some C] then .isTrue ⟨C,q⟩ else .isFalse fun ⟨C',q'⟩=>by
   subst q'
   rw [List.getElem?_append_right (Nat.le_refl _),Nat.sub_self] at e
   cases e
   exact q rfl
 | some none=>.isFalse fun ⟨fs',q'⟩=>by rw [q',List.getElem?_append_right (Nat.le_refl _),Nat.sub_self] at e; cases e
 | none=>.isFalse fun ⟨fs',q'⟩=>by rw [q',List.getElem?_append_right (Nat.le_refl _),Nat.sub_self] at e; cases e
noncomputable def mkH (fz:Bool) (c n:Nat) (m:MF) (vs:List PV→List PV) (s:S):R S PV :=
 if (vs [.cel s.h.length]).length=n∧vM (vs [.cel s.h.length])=true then match m (vs [.cel s.h.length]) (s.h++[some (.ins c [])]) with
  | .ok .non h2=>if fz=true then (if ∃ fs,h2=s.h++[some (.ins c fs)]∧celsB s.h.length fs=true then match h2[s.h.length]? with
    | some (some (.ins _ fs))=>.ok (.ins c fs) s
    | _=>.bad else .bad) else .ok (.cel s.h.length) ⟨s.e,h2⟩
  | .ok _ _=>.bad
  | .exc y h2=>if (∃ C,h2=s.h++[some C])∧jRX s.h.length y=true then .exc y s else .bad
  | .bad=>.bad
 else .bad
structure MkC (P:Program) (w:World) (K:PySem.W.Frag) (mg:Str→Option Value) (base:Heap) (B:Bs) (k:Nat) (x:Str) (c n0:Nat) (ks:List Str) (g:List PV→List PV→List PV) (n:Nat) (m:MF):Prop where
 ex:∃ f fd ps gW gV,Mk K (B.cad c) f∧FnOk P w K mg base (L2.CX P w) k f fd ps (spF B n m)∧mg x=some (.ref (B.cad c))∧KBn K fd ps (n0+1) ks gW gV ∧
  ∀ (W:Wd) (xs ys:List PV) (vs zs:List V),Reps B W xs vs→Reps B W ys zs→Reps B W (g xs ys) (gV vs zs)
noncomputable def eMk (fz:Bool) (c n0 nk n:Nat) (g:List PV→List PV→List PV) (m:MF) (ma mk:MA):ME:=fun s=>(ma s).bind fun vs s1=>(mk s1).bind fun zs s2=>if (vs.length=n0∧zs.length=nk)∧vM vs=true∧vM zs=true then mkH fz c n m (fun self=>g (self++vs) zs) s2 else .bad
section
variable {X:Cx} {B:Bs} {N:Ent} {W W':Wd} {s s':S} {σ:L2.St} {H H':Hp} {e:Expr} {es:List Expr} {ma mk:MA} {p pos:Pos} {x:Str} {k n n0 c:Nat} {m:MF} {kws:List Keyword} {ks:List Str} {E:XK} {fz:Bool} {g:List PV→List PV→List PV}
theorem vBO {vs zs:List PV} {vs' zs':List V} {gV:List V→List V→List V} {Q:VK} (hg:∀ (W:Wd) (xs ys:List PV) (vs zs:List V),Reps B W xs vs→Reps B W ys zs→Reps B W (g xs ys) (gV vs zs))
  (r:Rel B N W s σ H) (rv:Reps B W vs vs') (rz:Reps B W zs zs') (q:Post B N (fun c d _ H=>E c d H) W s H σ (mkH fz c n m (fun self=>g (self++vs) zs) s) fun u W' _ H'=>∀ u',RepT B W' H' u u'→Q u' H') :
  ∀ x dx,H x=none→H dx=none→dx≠x→spF B n m (gV (.ref x :: vs') zs') (upd (upd H dx (.own x)) x (.ins (B.cad c) dx [])) (fun v H2=>v=.non∧Q (.ref x) H2) E:=by
 intro x dx hx hd ne
 obtain ⟨hr1,st1⟩:=yLG (c:=c) r.hr hx hd ne
 unfold mkH at q
 split at q
 ·rename_i hc
  have hk:∀ a o,H a=some o→upd (upd H dx (.own x)) x (.ins (B.cad c) dx []) a=some o:=fun a o e=>by rw [upd_ne (ne_of_none e hx),upd_ne (ne_of_none e hd)]; exact e
  have ht:∀ a,upd (upd H dx (.own x)) x (.ins (B.cad c) dx []) a=none→H a=none:=fun a e=>st1.tr a e
  have self:Rep B ⟨W.F,W.m++[x]⟩ (.cel s.h.length) (.ref x):=.cel (by show (W.m++[x])[s.h.length]?=some x; rw [← r.hr.len]; simp)
  refine ⟨_,_,g ([PV.cel s.h.length]++vs) zs,hr1,hg _ _ _ _ _ (.cons self (rv.mono jGE)) (rz.mono jGE),hc.1,?_⟩
  cases em:m (g ([PV.cel s.h.length]++vs) zs) (s.h++[some (Cell.ins c [])]) with
  | bad=>simp only [em] at q; exact q.elim
  | exc y h2 =>
   simp only [em] at q
   intro W2 H2 cls d hr2 st2 ex
   split at q
   ·rename_i hy
    obtain ⟨⟨C,rfl⟩,cy⟩:=hy
    obtain ⟨em2,hr3,st3⟩:=jZZ r.hr hx hr2 st2 hk ht
    have nw:Nw H d:=fun dd ed=>ht _ (ex.nw dd ed)
    refine q _ H2 cls d (jBR r hr3 st3) (jEP st3) ?_ nw
    obtain ⟨c',fs,dd,us,rfl,rfl,rfl,e1,e2,e3,e4,e5,e6⟩:=ex
    refine ⟨c',fs,dd,us,rfl,rfl,rfl,e1,e2,?_,r.st.tr _ (ht _ e4),e5,fun z=>e6 (by rw [em2]; exact List.mem_append_left _ z)⟩
    have:=e3.cut (n:=s.h.length) cy
    rw [show W2.m.take s.h.length=W.m by rw [em2,← r.hr.len,List.take_left']; rfl] at this
    exact this
   ·exact q.elim
  | ok v h2 =>
   cases v with
   | non =>
    simp only [em] at q
    intro W2 H2 v' hr2 st2 rv'
    cases rv'
    refine ⟨rfl,?_⟩
    cases fz with
    | false =>
     have q:Post B N (fun c d _ H=>E c d H) W s H σ (R.ok (PV.cel s.h.length) ⟨s.e,h2⟩) (fun u W' _ H'=>∀ u',RepT B W' H' u u'→Q u' H'):=q
     have st:=st1.trans r.slen st2
     have e1:W2.m[s.h.length]?=some x:=st2.le.at (by show (W.m++[x])[s.h.length]?=some x; rw [← r.hr.len]; simp)
     exact q W2 H2 (jBR r hr2 st) (jEP st) (.ref x) (Rep.hand (x:=PV.cel s.h.length) (.cel e1))
    | true =>
     rw [if_pos rfl] at q
     split at q
     ·rename_i hy
      obtain ⟨fs,rfl,cf⟩:=hy
      have e0:(s.h++[some (Cell.ins c fs)])[s.h.length]?=some (some (.ins c fs)):=by simp
      rw [e0] at q
      obtain ⟨em2,hr3,st3⟩:=jZZ r.hr hx hr2 st2 hk ht
      obtain ⟨gF,dx',us,g1,g2,g3⟩:=hr2.cell s.h.length _ x e0 (by rw [em2,← r.hr.len]; simp)
      have g3':=g3.cut (n:=s.h.length) cf
      rw [show W2.m.take s.h.length=W.m by rw [em2,← r.hr.len,List.take_left']; rfl] at g3'
      have nx:x∉W.m:=fun z=>r.hr.mt x z hx
      have hr4:=jWF hr3 gF nx g1 yCI
      have st4:=st3.keepNew (o:=.ins (B.cad c) dx' ((B.fld c).zip us)) hx gF
      have g3n:Reps B ⟨upd W2.F x (.ins (B.cad c) dx' ((B.fld c).zip us)),W.m⟩ fs us:=g3'.mono (W:=⟨W2.F,W.m⟩) (jCX (W:=⟨W2.F,W.m⟩) gF)
      exact q _ H2 (jBR r hr4 st4) (jEP st4) (.ref x) (Rep.hand (x:=PV.ins c fs) (.ins upd_same g2 g3n))
     ·exact q.elim
   | _=>simp only [em] at q; exact q.elim
 ·exact q.elim
theorem yEY {nk:Nat} (hl:ks.length=nk) {gV:List V→List V→List V} (hg:∀ (W:Wd) (xs ys:List PV) (vs zs:List V),Reps B W xs vs→Reps B W ys zs→Reps B W (g xs ys) (gV vs zs)) {Q:VK} (h:tE B N (fun c d _ H=>E c d H) (eMk fz c n0 nk n g m ma mk) σ H Q) :
  tMakeK (B.cad c) n0 ks.length (spF B n m) gV E (tA B N (fun c d _ H=>E c d H) ma) (tA B N (fun c d _ H=>E c d H) mk) σ H Q:=by
 obtain ⟨W,s,r,h⟩:=h
 refine ⟨W,s,r,(h.bind r.slen).mono fun vs W1 s1 H1 r1 _ q vs' rv=>⟨W1,s1,r1,(q.bind r1.slen).mono fun zs W2 s2 H2 r2 st2 q2 zs' rz=>?_⟩⟩
 split at q2
 ·rename_i hc
  have r1':=(rv.reps hc.2.1).mono st2.st.le
  have r2':=rz.reps hc.2.2
  exact ⟨by rw [← r1'.length]; exact hc.1.1,by rw [← r2'.length,hl]; exact hc.1.2,vBO hg r2 r1' r2' q2⟩
 ·exact q2.elim
theorem yZL {nk:Nat} (F:MkC X.prog X.w X.K X.mg X.base B k x c n0 ks g n m) (tk:Takes X fun c d _ H=>E c d H) (hr:Room (k+1) X.A) (hg:Gl X x) (ha:SimA X B N (fun c d _ H=>E c d H) (e :: es) ma) (hkw:SimK X B N (fun c d _ H=>E c d H) kws mk) (hl:ks.length=nk)
  (hall:(backToKw pos (keywordEach kws X.env)).all (·.1.isSome)=true) (hks:(backToKw pos (keywordEach kws X.env)).filterMap (·.1)=ks) (hdb:(x == ("__debug__" : Str))=false)
  (he:starEach (e :: es) X.env=(false,eval e X.env) :: starEach es X.env) (hpl:((backTo pos (starEach (e :: es) X.env)).any (·.1)||(backToKw pos (keywordEach kws X.env)).any (·.1.isNone))=false) :
  SimE X B N (fun c d _ H=>E c d H) (.Call (.Name x p) (e :: es) kws pos) (eMk fz c n0 nk n g m ma mk):=by
 obtain ⟨f,fd,ps,gW,gV,M,F1,hm,hb,hv⟩:=F.ex
 exact (pe_makeK M F1 hr hg hm hb (passes_call tk fun _ _ _ _ h=>h) ha hkw hall hks hdb he hpl).imp fun σ H Q h=>yEY hl hv h
theorem yQU {nk:Nat} (F:MkC X.prog X.w X.K X.mg X.base B k x c 0 ks g n m) (tk:Takes X fun c d _ H=>E c d H) (hr:Room (k+1) X.A) (hg:Gl X x) (hkw:SimK X B N (fun c d _ H=>E c d H) kws mk) (hl:ks.length=nk)
  (hall:(backToKw pos (keywordEach kws X.env)).all (·.1.isSome)=true) (hks:(backToKw pos (keywordEach kws X.env)).filterMap (·.1)=ks) (hdb:(x == ("__debug__" : Str))=false)
  (hpl:((backTo pos (starEach [] X.env)).any (·.1)||(backToKw pos (keywordEach kws X.env)).any (·.1.isNone))=false) :
  SimE X B N (fun c d _ H=>E c d H) (.Call (.Name x p) [] kws pos) (eMk fz c 0 nk n g m jN mk):=by
 obtain ⟨f,fd,ps,gW,gV,M,F1,hm,hb,hv⟩:=F.ex
 exact (pe_makeK0 M F1 hr hg hm hb (passes_call tk fun _ _ _ _ h=>h) hkw hall hks hdb hpl).imp fun σ H Q h=>by
  have q:=yEY (ma:=jN) hl hv h
  obtain ⟨W,s,r,q⟩:=q
  exact q.ok r [] trivial
end
end Lp
set_option maxHeartbeats 4000000
namespace Lp
open PySem PySem.Spec PyProof.Rows L2
def yUH (C:Addr) (m:Str) (n nk:Nat) (sp:Sp) (gV:List V→List V→List V) (E:XK) (ta:TE) (t tk:TA):TE:=fun σ H Q=>ta σ H fun x H1=>∃ a dx fs,x=.ref a∧H1 a=some (.ins C dx fs)∧fs.lookup m=none ∧
 t σ H1 fun vs H2=>tk σ H2 fun zs H3=>vs.length=n∧zs.length=nk∧sp (gV (x :: vs) zs) H3 Q E
section
variable {X:Cx} {CX:CXT} {k n:Nat} {f C:Addr} {fd:FuncData} {ps ks:List Str} {sp:Sp} {E:XK} {m:Str} {pos apos:Pos} {e o:Expr} {es:List Expr} {kws:List Keyword} {ta:TE} {t tk:TA} {g:List Value→List Value→List Value} {gV:List V→List V→List V}
theorem vAF {pl:Sem Bool} (he:PE X o ta) (c:Cls X.K C) (hm:Meth X.K C m f) (F:FnOk X.prog X.w X.K X.mg X.base CX k f fd ps sp) (hr:Room k X.A) (hb:KBn X.K fd ps (n+1) ks g gV) (hx:Passes CX X E) (ha:PA X (e :: es) t) (hkw:PK X kws tk)
  (hall:(backToKw pos (keywordEach kws X.env)).all (·.1.isSome)=true) (hks:(backToKw pos (keywordEach kws X.env)).filterMap (·.1)=ks) (hst:starEach (e :: es) X.env=(false,eval e X.env) :: starEach es X.env)
  (hpl:((backTo pos (starEach (e :: es) X.env)).any (·.1)||(backToKw pos (keywordEach kws X.env)).any (·.1.isNone))=false)
  (ht:eval (.Call (.Attribute o m apos) (e :: es) kws pos) X.env=(do
   let ov ← eval o X.env
   standAt apos.atName
   let (f,first) ← holding [ov] (getMethod ov m pl)
   callWith pos f first (backTo pos (starEach (e :: es) X.env)) (backToKw pos (keywordEach kws X.env)))):PE X (.Call (.Attribute o m apos) (e :: es) kws pos) (yUH C m n ks.length sp gV E ta t tk):=by
 refine ⟨fun pins s σ H Q I h=>?_⟩
 refine PySem.W.methodCall_KW (pl:=pl) (thn (he.run pins s σ H _ I h) fun u s1 ⟨x,H1,I1,rx,a,dx,fs,ex,ea,l,q⟩=>?_) ht
 subst ex
 obtain rfl:u=Value.ref a:=rx
 refine getmeth_ok I1 ea c hm l ?_
 refine PySem.W.callWith_KW (first:=[.ref a]) (h₀:=X.base) I.ok.mod.kin hm.kp hall (thn (ha.run pos pins s1 σ H1 _ I1 q) fun us s2 ⟨vs,H2,I2,r,q2⟩=>?_) hpl hst
 refine thn (hkw.run pos pins s2 σ H2 _ I2 q2) fun ws s3 ⟨zs,H3,I3,rz,l1,l2,q3⟩=>⟨I3.kIn,?_⟩
 rw [hks]
 exact run_fnN (us:=.ref a :: us) (vs:=.ref a :: vs) F hr hb hx I3 (.cons rfl r) rz (by rw [List.length_cons,l1]) l2 q3
theorem yRO {pl:Sem Bool} (he:PE X o ta) (c:Cls X.K C) (hm:Meth X.K C m f) (F:FnOk X.prog X.w X.K X.mg X.base CX k f fd ps sp) (hr:Room k X.A) (hb:KBn X.K fd ps 1 ks g gV) (hx:Passes CX X E) (hkw:PK X kws tk)
  (hall:(backToKw pos (keywordEach kws X.env)).all (·.1.isSome)=true) (hks:(backToKw pos (keywordEach kws X.env)).filterMap (·.1)=ks)
  (hpl:((backTo pos (starEach [] X.env)).any (·.1)||(backToKw pos (keywordEach kws X.env)).any (·.1.isNone))=false)
  (ht:eval (.Call (.Attribute o m apos) [] kws pos) X.env=(do
   let ov ← eval o X.env
   standAt apos.atName
   let (f,first) ← holding [ov] (getMethod ov m pl)
   callWith pos f first (backTo pos (starEach [] X.env)) (backToKw pos (keywordEach kws X.env)))):PE X (.Call (.Attribute o m apos) [] kws pos) (yUH C m 0 ks.length sp gV E ta tNil tk):=by
 refine ⟨fun pins s σ H Q I h=>?_⟩
 refine PySem.W.methodCall_KW (pl:=pl) (thn (he.run pins s σ H _ I h) fun u s1 ⟨x,H1,I1,rx,a,dx,fs,ex,ea,l,q⟩=>?_) ht
 subst ex
 obtain rfl:u=Value.ref a:=rx
 refine getmeth_ok I1 ea c hm l ?_
 refine PySem.W.callWith_KW0 (first:=[.ref a]) (h₀:=X.base) I.ok.mod.kin hm.kp hall ?_ hpl
 refine thn (hkw.run pos pins s1 σ H1 _ I1 q) fun ws s3 ⟨zs,H3,I3,rz,l1,l2,q3⟩=>⟨I3.kIn,?_⟩
 rw [hks]
 exact run_fnN (us:=[.ref a]) (vs:=[.ref a]) F hr hb hx I3 (.cons rfl .nil) rz rfl l2 q3
end
structure Me (P:Program) (w:World) (K:PySem.W.Frag) (mg:Str→Option Value) (base:Heap) (B:Bs) (k:Nat) (c:Nat) (x:Str) (n0:Nat) (ks:List Str) (g:List PV→List PV→List PV) (n:Nat) (m:MF):Prop where
 ex:∃ f fd ps gW gV,Meth K (B.cad c) x f∧FnOk P w K mg base (L2.CX P w) k f fd ps (spF B n m)∧KBn K fd ps (n0+1) ks gW gV ∧
  ∀ (W:Wd) (xs ys:List PV) (vs zs:List V),Reps B W xs vs→Reps B W ys zs→Reps B W (g xs ys) (gV vs zs)
theorem Me.mono {P:Program} {w:World} {K:PySem.W.Frag} {mg:Str→Option Value} {base:Heap} {B:Bs} {j k:Nat} {c:Nat} {x:Str} {n0:Nat} {ks:List Str} {g:List PV→List PV→List PV} {n:Nat} {m:MF} (F:Me P w K mg base B j c x n0 ks g n m) (h:j≤k):Me P w K mg base B k c x n0 ks g n m :=
 let ⟨f,fd,ps,gW,gV,a,b,d⟩:=F.ex
 ⟨f,fd,ps,gW,gV,a,b.mono h,d⟩
theorem MkC.mono {P:Program} {w:World} {K:PySem.W.Frag} {mg:Str→Option Value} {base:Heap} {B:Bs} {j k:Nat} {c:Nat} {x:Str} {n0:Nat} {ks:List Str} {g:List PV→List PV→List PV} {n:Nat} {m:MF} (F:MkC P w K mg base B j x c n0 ks g n m) (h:j≤k):MkC P w K mg base B k x c n0 ks g n m :=
 let ⟨f,fd,ps,gW,gV,a,b,d⟩:=F.ex
 ⟨f,fd,ps,gW,gV,a,b.mono h,d⟩
def clsOf (h:AH) (o:PV):Option Nat:=(jVN h o).map (·.1)
def eMe (c n0 nk n:Nat) (g:List PV→List PV→List PV) (m:MF) (mo:ME) (ma mk:MA):ME:=fun s=>(mo s).bind fun o s1=>match clsOf s1.h o with
 | some c'=>if c'=c∧isOwn o=false then (ma s1).bind fun vs s2=>(mk s2).bind fun zs s3=>if (vs.length=n0∧zs.length=nk)∧vM vs=true∧vM zs=true then jGW n m (g (o :: vs) zs) s3 else .bad else .bad
 | none=>.bad
section
variable {X:Cx} {B:Bs} {N:Ent} {W W':Wd} {s s':S} {σ:L2.St} {H H':Hp} {e o:Expr} {es:List Expr} {mo:ME} {ma mk:MA} {pos apos:Pos} {x:Str} {k n n0 nk c:Nat} {m:MF} {kws:List Keyword} {ks:List Str} {E:XK} {g:List PV→List PV→List PV} {fl:FL}
theorem jZI:∀ {ns:List Str} {vs:List V},x∉ns→(ns.zip vs).lookup x=none
 | [],_,_=>rfl
 | n :: ns,[],_=>rfl
 | n :: ns,v :: vs,h=>by
  simp only [List.mem_cons,not_or] at h
  rw [List.zip_cons_cons,List.lookup_cons,show (x == n)=false from beq_false_of_ne h.1]
  exact jZI h.2
theorem yEZ {gV:List V→List V→List V} (hx:x∉B.fld c) (hl:ks.length=nk) (hg:∀ (W:Wd) (xs ys:List PV) (vs zs:List V),Reps B W xs vs→Reps B W ys zs→Reps B W (g xs ys) (gV vs zs)) {Q:VK} (h:tE B N (fun c d _ H=>E c d H) (eMe c n0 nk n g m mo ma mk) σ H Q) :
  yUH (B.cad c) x n0 ks.length (spF B n m) gV E (tE B N (fun c d _ H=>E c d H) mo) (tA B N (fun c d _ H=>E c d H) ma) (tA B N (fun c d _ H=>E c d H) mk) σ H Q:=by
 obtain ⟨W,s,r,h⟩:=h
 refine ⟨W,s,r,(h.bind r.slen).mono fun o1 W0 s0 H0 r0 _ q0 o' ro=>?_⟩
 split at q0
 ·rename_i c' ec
  split at q0
  ·rename_i hc0
   obtain ⟨rfl,ow⟩:=hc0
   unfold clsOf at ec
   cases ei:jVN s0.h o1 with
   | none=>rw [ei] at ec; cases ec
   | some p =>
    obtain ⟨c1,fs⟩:=p
    rw [ei] at ec
    cases ec
    obtain ⟨a,dx,vs,rfl,hH,hle,rs⟩:=yIZ r0.hr ro ei
    refine ⟨a,dx,_,rfl,hH,jZI hx,W0,s0,r0,(q0.bind r0.slen).mono fun us W1 s1 H1 r1 st1 q us' ru=>⟨W1,s1,r1,(q.bind r1.slen).mono fun zs W2 s2 H2 r2 st2 q2 zs' rz=>?_⟩⟩
    split at q2
    ·rename_i hc
     have r1':=(ru.reps hc.2.1).mono st2.st.le
     have r2':=rz.reps hc.2.2
     have ro':=((ro.on r0.slen st1.st).on r1.slen st2.st).rep ow
     exact ⟨by rw [← r1'.length]; exact hc.1.1,by rw [← r2'.length,hl]; exact hc.1.2,jKQ r2 (hg _ _ _ _ _ (.cons ro' r1') r2') q2⟩
    ·exact q2.elim
  ·exact q0.elim
 ·exact q0.elim
theorem yZM {pl:Sem Bool} (F:Me X.prog X.w X.K X.mg X.base B k c x n0 ks g n m) (hc:Cls X.K (B.cad c)) (hx:x∉B.fld c) (tk:Takes X fun c d _ H=>E c d H) (hr:Room k X.A) (ho:SimE X B N (fun c d _ H=>E c d H) o mo)
  (ha:SimA X B N (fun c d _ H=>E c d H) (e :: es) ma) (hkw:SimK X B N (fun c d _ H=>E c d H) kws mk) (hl:ks.length=nk)
  (hall:(backToKw pos (keywordEach kws X.env)).all (·.1.isSome)=true) (hks:(backToKw pos (keywordEach kws X.env)).filterMap (·.1)=ks) (he:starEach (e :: es) X.env=(false,eval e X.env) :: starEach es X.env)
  (hpl:((backTo pos (starEach (e :: es) X.env)).any (·.1)||(backToKw pos (keywordEach kws X.env)).any (·.1.isNone))=false)
  (ht:eval (.Call (.Attribute o x apos) (e :: es) kws pos) X.env=(do
   let ov ← eval o X.env
   standAt apos.atName
   let (f,first) ← holding [ov] (getMethod ov x pl)
   callWith pos f first (backTo pos (starEach (e :: es) X.env)) (backToKw pos (keywordEach kws X.env)))):SimE X B N (fun c d _ H=>E c d H) (.Call (.Attribute o x apos) (e :: es) kws pos) (eMe c n0 nk n g m mo ma mk):=by
 obtain ⟨f,fd,ps,gW,gV,M,F1,hb,hg⟩:=F.ex
 exact (vAF ho hc M F1 hr hb (passes_call tk fun _ _ _ _ h=>h) ha hkw hall hks he hpl ht).imp fun σ H Q h=>yEZ hx hl hg h
theorem yQV {pl:Sem Bool} (F:Me X.prog X.w X.K X.mg X.base B k c x 0 ks g n m) (hc:Cls X.K (B.cad c)) (hx:x∉B.fld c) (tk:Takes X fun c d _ H=>E c d H) (hr:Room k X.A) (ho:SimE X B N (fun c d _ H=>E c d H) o mo)
  (hkw:SimK X B N (fun c d _ H=>E c d H) kws mk) (hl:ks.length=nk)
  (hall:(backToKw pos (keywordEach kws X.env)).all (·.1.isSome)=true) (hks:(backToKw pos (keywordEach kws X.env)).filterMap (·.1)=ks)
  (hpl:((backTo pos (starEach [] X.env)).any (·.1)||(backToKw pos (keywordEach kws X.env)).any (·.1.isNone))=false)
  (ht:eval (.Call (.Attribute o x apos) [] kws pos) X.env=(do
   let ov ← eval o X.env
   standAt apos.atName
   let (f,first) ← holding [ov] (getMethod ov x pl)
   callWith pos f first (backTo pos (starEach [] X.env)) (backToKw pos (keywordEach kws X.env)))):SimE X B N (fun c d _ H=>E c d H) (.Call (.Attribute o x apos) [] kws pos) (eMe c 0 nk n g m mo jN mk):=by
 obtain ⟨f,fd,ps,gW,gV,M,F1,hb,hg⟩:=F.ex
 refine (yRO ho hc M F1 hr hb (passes_call tk fun _ _ _ _ h=>h) hkw hall hks hpl ht).imp fun σ H Q h=>?_
 obtain ⟨W,s,r,q⟩:=yEZ (ma:=jN) hx hl hg h
 refine ⟨W,s,r,q.mono fun o1 W1 s1 H1 r1 _ z o' ro=>?_⟩
 obtain ⟨a,dx,fs,e1,e2,e3,z⟩:=z o' ro
 obtain ⟨W2,s2,r2,z⟩:=z
 exact ⟨a,dx,fs,e1,e2,e3,z.ok r2 [] trivial⟩
end
end Lp
set_option maxHeartbeats 4000000
namespace Lp
open PySem PySem.Spec PyProof.Rows L2 LamX
def LamH (H H1:Hp) (P c1:Addr) (q:Str):Prop:=H1=H∨∃ ps ps1,H P=some (.tbl ps)∧H c1=none∧H1=upd (upd H P (.tbl ps1)) c1 (CodeO c1 q)
theorem yEX {c:Addr} {q:Str}:NT (CodeO c q):=codeO_ne
theorem jVR {T:List (Addr × Str)} {H:Hp} {P c1:Addr} {q:Str} {pos:Pos} {ps:Array Value} (t:Tabs T H) (hm:(P,q)∈T) (hu:∀ p∈T,p.1=P→p.2=q) (hP:H P=some (.tbl ps)) (hc:H c1=none) :
  Tabs T (upd (upd H P (.tbl (ps++#[rawInt pos.line,rawInt pos.col,.ref c1]))) c1 (CodeO c1 q)):=by
 have old:∀ b o,H b=some o→NT o→upd (upd H P (.tbl (ps++#[rawInt pos.line,rawInt pos.col,.ref c1]))) c1 (CodeO c1 q) b=some o:=fun b o e n=>by
  have n1:b≠P:=fun z=>n ps (by rw [z,hP] at e; exact (Option.some.inj e).symm)
  rw [upd_ne (ne_of_none e hc),upd_ne n1]; exact e
 intro p hp
 obtain ⟨ps0,e0,tr,am⟩:=t p hp
 by_cases h:p.1=P
 ·have e0':=e0
  rw [h,hP] at e0'
  cases e0'
  refine ⟨_,by rw [h,upd_ne (ne_of_none hP hc),upd_same],?_,fun pos' cv z=>?_⟩
  ·rw [Array.toList_append]; exact PySem.TriplesOk_snoc _ _ _ _ tr
  ·rw [Array.toList_append] at z
   rcases among_app _ tr z with z | z
   ·obtain ⟨c0,f1,f2⟩:=am pos' cv z
    exact ⟨c0,f1,old _ _ f2 yEX⟩
   ·exact ⟨c1,z,by rw [upd_same,hu p hp h]⟩
 ·refine ⟨ps0,by rw [upd_ne (ne_of_none e0 hc),upd_ne h]; exact e0,tr,fun pos' cv z=>?_⟩
  obtain ⟨c0,f1,f2⟩:=am pos' cv z
  exact ⟨c0,f1,old _ _ f2 yEX⟩
section
variable {X:Cx} {pins:List (Addr × Obj)} {σ:L2.St} {H:Hp} {s:Shared}
theorem jWB (I:Inv X pins σ H s) {f:Addr} (hf:s.heap.objs.size≤f):f∉frs X.stack:=fun z=>by
 rcases List.mem_cons.mp (I.stkSub f z) with e | e
 ·have h1:=I.lt
  rw [← e] at h1
  exact absurd (Nat.lt_of_lt_of_le h1 hf) (Nat.lt_irrefl f)
 ·exact I.nofs hf e
abbrev lamO (X:Cx) (params:Arguments) (body:Expr) (scope:Scope) (pm:Value) (c1:Addr) (ctv:Value):Obj:=PySem.W.kla_obj "<lambda>" (X.env.qual ++ "<lambda>") params body scope (cloFrom X.env.cells scope.names []) pm c1 ctv
theorem ySM {T:List (Addr × Str)} {c P:Addr} {params:Arguments} {body:Expr} {scope:Scope} {pos:Pos} {E Q:Value→Shared→Prop} (I:Inv X pins σ H s) (B:TabB X.base X.mg c P) (hc:X.env.code=.ref c)
  (hm:(P,X.env.qual ++ "<lambda>")∈T) (hu:∀ p∈T,p.1=P→p.2=X.env.qual ++ "<lambda>") (t:Tabs T H) (hd:defaultsOf params X.env=([],[])) (hf:∀ y∈scope.names,y.2=.free→∃ c,X.env.cells.lookup y.1=some c)
  (k:∀ (f c1:Addr) (pm ctv:Value) (H1:Hp) (s1:Shared),Inv X pins σ H1 s1→LamH H H1 P c1 (X.env.qual ++ "<lambda>")→Tabs T H1→s1.heap.get? f=some (lamO X params body scope pm c1 ctv)→H1 f=none→f∉frs X.stack →
   H1 c1=some (CodeO c1 (X.env.qual ++ "<lambda>"))→Q (.ref f) s1):wpAny (model X.prog X.w) X.A (eval (.Lambda params body scope pos) X.env) Q E s:=by
 obtain ⟨ps,eP,tr,am⟩:=t _ hm
 have gP:s.heap.get? P=some (PySem.W.tabObj ps):=I.hok P _ eP
 have ltP:=Heap.lt_size gP
 have cl:=closure_ok hf
 have ns:=I.mod.glob.keeps I.bk
 have cd:=B.code.keeps I.bk
 have bb:=B.bm.keeps I.bk
 refine PySem.W.kla_eval hd ?_
 cases e:codeAmong pos ps.toList with
 | some cv =>
  obtain ⟨c1,rfl,o1⟩:=am pos cv e
  exact PySem.W.kla_makeFunctionHit cl I.ok.glob ns hc cd gP tr e bb fun ctv h1 tk hx sz =>
   k _ c1 _ ctv H _ (I.kept (h':=h1.push (lamO X params body scope ((X.mg "__name__").getD .none) c1 ctv)) (t':=tk) fun b o z=>Heap.get?_push_of_some _ (hx b o z)) (.inl rfl) t (Heap.get?_push_size _ rfl) (I.hok.fresh sz) (jWB I sz) o1
 | none =>
  refine PySem.W.kla_makeFunction cl I.ok.glob ns hc cd gP tr e B.gP bb fun c1 ctv h1 tk hx ge lt rc tb=>?_
  obtain ⟨c2,oc,vs,tq,z,g1,g2,g3⟩:=rc
  cases z
  have sz:s.heap.objs.size≤h1.objs.size:=by omega
  have n1:H c1=none:=I.hok.fresh ge
  have J:=inv_table (t':=tk) (h':=h1.push (lamO X params body scope ((X.mg "__name__").getD .none) c1 ctv)) I eP (fun b o n z=>Heap.get?_push_of_some _ (hx b o n z)) (Heap.get?_push_of_some _ tb) ge ⟨oc,vs,tq,Heap.get?_push_of_some _ g1,g2,g3⟩
  refine k _ c1 _ ctv _ _ J (.inr ⟨ps,_,eP,n1,rfl⟩) (jVR t hm hu eP n1) (Heap.get?_push_size _ rfl) ?_ (jWB I sz) upd_same
  rw [upd_ne (Nat.ne_of_gt lt),upd_ne (Nat.ne_of_gt (Nat.lt_of_lt_of_le ltP sz))]
  exact I.hok.fresh sz
end
section
variable {B:Bs} {W:Wd} {h:AH} {H H1:Hp} {P c1:Addr} {q:Str}
theorem LamH.old (l:LamH H H1 P c1 q) {b:Addr} {o:HO} (e:H b=some o) (n:NT o):H1 b=some o:=by
 rcases l with rfl | ⟨ps,ps1,eP,ec,rfl⟩
 ·exact e
 ·rw [upd_ne (ne_of_none e ec),upd_ne fun z=>n ps (by rw [z,eP] at e; exact (Option.some.inj e).symm)]; exact e
theorem LamH.none (l:LamH H H1 P c1 q) {b:Addr} (e:H1 b=none):H b=none:=by
 rcases l with rfl | ⟨ps,ps1,eP,ec,rfl⟩
 ·exact e
 ·by_cases h1:b=c1
  ·rw [h1,upd_same] at e; cases e
  ·rw [upd_ne h1] at e
   by_cases h2:b=P
   ·rw [h2,upd_same] at e; cases e
   ·rw [upd_ne h2] at e; exact e
theorem LamH.new (l:LamH H H1 P c1 q) {b:Addr} {o:HO} (e:H1 b=some o):H b=some o∨(∃ ps,o=.tbl ps)∨o=CodeO c1 q:=by
 rcases l with rfl | ⟨ps,ps1,eP,ec,rfl⟩
 ·exact .inl e
 ·by_cases h1:b=c1
  ·rw [h1,upd_same] at e; cases e; exact .inr (.inr rfl)
  ·rw [upd_ne h1] at e
   by_cases h2:b=P
   ·rw [h2,upd_same] at e; cases e; exact .inr (.inl ⟨_,rfl⟩)
   ·rw [upd_ne h2] at e; exact .inl e
theorem yAI (hr:HRel B W h H) (l:LamH H H1 P c1 q) (t:Tabs B.T H1):HRel B W h H1:=by
 refine ⟨fun a o e=>l.old (hr.agree a o e) (hr.fz a o e),hr.len,hr.nd,fun a ha z=>hr.mt a ha (l.none z),fun a o e nt=>?_,hr.fz,t,fun n c a e1 e2=>?_⟩
 ·rcases l.new e with z | ⟨ps,rfl⟩ | rfl
  ·exact hr.hz a o z nt
  ·exact absurd rfl (nt ps)
  ·trivial
 ·obtain ⟨g1,g2⟩:=hr.cell n c a e1 e2
  refine ⟨g1,?_⟩
  cases c with
  | lst xs=>obtain ⟨vs,h1,h2⟩:=g2; exact ⟨vs,l.old h1 jCB,h2⟩
  | dic ks=>obtain ⟨L,h1,h2,h3⟩:=g2; exact ⟨L,l.old h1 jPI,h2,h3⟩
  | dik ks=>obtain ⟨L,h1,h2,h3⟩:=g2; exact ⟨L,l.old h1 yTW,h2,h3⟩
  | ins c fs=>obtain ⟨dx,vs,h1,h2,h3⟩:=g2; exact ⟨dx,vs,l.old h1 yCI,h2,h3⟩
theorem jSW (hr:HRel B W h H) (l:LamH H H1 P c1 q):Step W h H W h H1 :=
 ⟨.refl W,Nat.le_refl _,fun n c _ e=>⟨c,e⟩,fun a o e nt _=>l.old e nt,fun a e=>l.none e,fun a e _ _=>e,hr.len,fun n a hn e=>by
  have:=(List.getElem?_eq_some_iff.mp e).1
  rw [hr.len] at this; omega⟩
end
end Lp
set_option maxHeartbeats 4000000
namespace Lp
open PySem PySem.Spec PyProof.Rows L2 LamX NdefX
section
open PySem.W
variable {prog:Program} {w:World} {A:Around} {E:Value→Shared→Prop} {s:Shared} {K:Frag} {x C D u:Addr} {ox:Obj} {odx:Option Obj} {B i newId:String} {bmB:List Value}
theorem yMO {so:Addr} {pl:Sem Bool} {cd:ClassData} {Q:Value × List Value→Shared→Prop} (KF:KxsFacts B i) (X:K.In s.heap) (hso:s.heap.get? so=some (ks_superObj D x C)) (I:InstAt s.heap x ox C odx) (ho:nsIn K cStatics "thirdparty.any" = some none)
  (hc:clsIn K C=some cd) (hm:ks_superIn K C D "__init__" = some (some (.builtin i))) (hB:subIn K (.ref C) (.type B)=some true)
  (h:Q (.ref s.heap.objs.size,[]) { s with heap:=s.heap.push (kxs_mw i x),toks:=s.toks+1 }):wpAny (model prog w) A (getMethod (.ref so) "__init__" pl) Q E s:=by
 have hI:Looks (model prog w) s.heap (isInstance (.ref x) (.type B)) true:=I.type.andThen (looks_subIn X hB)
 obtain ⟨hh,g,d,t,os⟩:=s
 unfold ks_superIn at hm
 rw [hc] at hm
 exact kxs_getMethod KF hso (looks_opaque X ho) (l₀:=cd.mro) (fun A Q E s k q=>wpAny_bind ((looks_clsIn X hc) A _ E s k (wpAny_pure q))) rfl X hm hI (ks_ne X I hc) rfl h
theorem yJU {t:Addr} {rest:List Value} {Q:Value→Shared→Prop} (FB:ExcBaseFacts B newId i bmB) (X:K.In s.heap) (q:excInitIn K C bmB newId=true) (hu:s.heap.get? u=some (kxs_mw i x)) (he:s.heap.get? x=some (excObj C t none .none)) (hz:rest.length≤sizeLine)
  (fin:∀ h' t',(∀ b o,b≠x→s.heap.get? b=some o→h'.get? b=some o)→h'.get? x=some (excObj C t' none .none)→Q .none { s with heap:=h' }) :
  wpAny (model prog w) A (call (.ref u) rest) Q E s:=by
 obtain ⟨nm,N',qn,bs,bm,hdct,sn,sub,ab,col,dd,k0,k1,k2,k3,k5,hC,hT⟩:=excInit_of X q
 obtain ⟨hh,g,d,tk,os⟩:=s
 refine wpAny_call (codeAny_of_tree ?_)
 show wpAny _ A.in1 (callAny (.ref u) ⟨rest,[]⟩) _ _ _
 simp only [callAny]
 refine wpAny_bind (wpAny_load hu ?_)
 simp only [kxs_mw,show (Value.type "method-wrapper" == Value.type "method" || Value.type "method-wrapper" == Value.type "builtin_function_or_method" || Value.type "method-wrapper" == Value.type "method-wrapper")=true by decide,if_true]
 refine KFB.if_so (by decide) ?_
 refine wpAny_bind (check_bound_init FB.toExcCallFacts hC he rfl ?_)
 refine wpAny_bind (wpAny_pure (wpAny_pure ?_))
 refine ⟨plainId_quiet FB.init.plain _,codeAny_builtin FB.initEntry ?_⟩
 exact exc_init_tree (cls:=.ref C) (t0:=t) (dv:=none) (c2:=.none) (c3:=.none) (b4:=.bool false) he hz fun h' k e' _=>fin h' _ k e'
end
structure SupF (P:Program) (K:PySem.W.Frag) (D:Addr) (qual:Str) (params:Arguments) (body:List Stmt) (scope:Scope) (f cc cda:Addr) (fd:FuncData):Prop where
 fn:∃ (oc:Value) (od:Option Addr) (dV kV doc pm:Value) (an:Option Addr) (ct:Value) (osl:Array (Option Value)),fd=PySem.W.ksFn "__init__" qual params body scope dV kV doc pm an (.ref cda) ct cc∧K.lookup f=some ⟨oc,od,.func fd,osl⟩
 code:PySem.W.codeIn K (.ref cda) qual=true
 file:∃ (ccl:Value) (cdd:Option Addr) (vs:Array Value) (ccs:Array (Option Value)) (file:Str) (tf:Tok),K.lookup cda=some ⟨ccl,cdd,.fields vs,ccs⟩∧vs[2]?=some (.str file tf)∧((P.main.file:Str) == file)=true
 cell:∃ (cl:Value) (cld:Option Addr) (csl:Array (Option Value)),K.lookup cc=some ⟨cl,cld,.cell (some (.ref D)),csl⟩
 cls:∃ cd,PySem.W.clsIn K D=some cd
 sta:PySem.W.nsIn K cStatics "thirdparty.any" = some none
 self:∃ ar:Arg,(params.posonlyargs++params.args).head?=some ar∧ar.arg=("self" : Str)
 hs:scope.names.lookup ("super" : Str)=some .globalImplicit
 hc:scope.names.lookup ("__class__" : Str)=some .free
 hl:scope.names.lookup ("self" : Str)=some .local
 top:(P.main.scope.names.lookup ("super" : Str)).isSome=false
structure SupC (K:PySem.W.Frag) (B i newId:String) (bmB:List Value) (C D:Addr):Prop where
 ini:PySem.W.excInitIn K C bmB newId=true
 sup:PySem.W.ks_superIn K C D "__init__" = some (some (.builtin i))
 sub:PySem.W.subIn K (.ref C) (.type B)=some true
 mro:PySem.W.mroIn K C (.ref D)=some true
section
variable {P:Program} {w:World} {K:PySem.W.Frag} {mg:Str→Option Value} {base:Heap} {CX:CXT} {D f cc cda C a:Addr} {qual:Str} {params:Arguments} {body:List Stmt} {scope:Scope} {fd:FuncData} {A:Around} {outer:List Env} {s0 s:Shared} {H H0:Hp} {E:XK} {N:List Str} {pins:List (Addr × Obj)} {σ:L2.St}
variable {B i newId:String} {bmB:List Value} {TEXT:Str} {j:Nat} {p0 p1 p2 p3 cp ap:Pos}
abbrev jCN (qual:Str) (params:Arguments) (body:List Stmt) (scope:Scope) (cc cda:Addr):NF:=⟨"__init__", qual,params,body,scope,[("__class__", cc)],cda⟩
theorem yJT {pl:Sem Bool} {body':List Stmt} {E':Value→Shared→Prop} {R:Flow→Shared→Prop} (S:SupF P K D qual params body scope f cc cda fd) (T:SupC K B i newId bmB C D) (KF:PySem.W.KxsFacts B i) (FB:ExcBaseFacts B newId i bmB) (hsu:mg "super" = none)
  (I:Inv (ncx CX P w K mg base N (jCN qual params body scope cc cda) f A outer s0 H0 E) pins σ H s) (hN:N[0]?=some ("self" : Str)) (h0:σ[0]?=some (some (.ref a))) (ha:H a=some (exo a C none))
  (ht:eval (.Call (.Attribute (.Call (.Name "super" p0) [] [] p1) "__init__" ap) [.Constant (.str TEXT) j cp] [] p2) (envF (jCN qual params body scope cc cda) f s0.heap.objs.size)=(do
   let ov ← attributeBase (.Call (.Name "super" p0) [] [] p1) "__init__" (envF (jCN qual params body scope cc cda) f s0.heap.objs.size) (eval (.Call (.Name "super" p0) [] [] p1) (envF (jCN qual params body scope cc cda) f s0.heap.objs.size))
   standAt ap.atName
   let (f1,first) ← holding [ov] (getMethod ov "__init__" pl)
   callWith p2 f1 first (backTo p2 (starEach [.Constant (.str TEXT) j cp] (envF (jCN qual params body scope cc cda) f s0.heap.objs.size))) []))
  (h:∀ s',Inv (ncx CX P w K mg base N (jCN qual params body scope cc cda) f A outer s0 H0 E) pins σ H s'→R .next s') :
  _root_.PySem.wpAt (model P w) (A.deeper (envF (jCN qual params body scope cc cda) f s0.heap.objs.size)) (.func body' (envF (jCN qual params body scope cc cda) f s0.heap.objs.size))
   (exec (.Expr (.Call (.Attribute (.Call (.Name "super" p0) [] [] p1) "__init__" ap) [.Constant (.str TEXT) j cp] [] p2) p3) (envF (jCN qual params body scope cc cda) f s0.heap.objs.size)) R E' s:=by
 obtain ⟨oc,od,dV,kV,doc,pm,an,ct,osl,rfl,lk⟩:=S.fn
 obtain ⟨ccl,cdd,vs,ccs,file,tf,lc,hvs,hfile⟩:=S.file
 obtain ⟨cl,cld,csl,lcc⟩:=S.cell
 obtain ⟨cdD,hD⟩:=S.cls
 obtain ⟨ar,hp,har⟩:=S.self
 have X:=I.kIn
 have X:K.In s.heap:=X
 obtain ⟨oD,hD1,hD2⟩:∃ oD,s.heap.get? D=some oD∧oD.data=.cls cdD:=by
  unfold PySem.W.clsIn at hD
  split at hD
  ·rename_i c d cd' sl ho
   cases hD
   exact ⟨_,X _ _ ho,rfl⟩
  ·cases hD
 obtain ⟨t1,hx⟩:=exo_at I.hok ha
 have hcC:∃ cd,PySem.W.clsIn K C=some cd:=by
  have q:=T.mro
  unfold PySem.W.mroIn at q
  cases e:PySem.W.clsIn K C with
  | none=>rw [e] at q; cases q
  | some cd=>exact ⟨cd,rfl⟩
 obtain ⟨cdC,hcC⟩:=hcC
 have Ins:∀ {h':Heap},h'.get? a=some (PySem.W.excObj C t1 none .none)→PySem.W.InstAt h' a (PySem.W.excObj C t1 none .none) C none:=fun e=>⟨e,rfl,rfl,trivial⟩
 have hint:interactive (envF (jCN qual params body scope cc cda) f s0.heap.objs.size)=false:=by
  have hk:scope.kind=.function:=I.ok.kind
  unfold interactive
  simp [hk]
 refine PySem.ks_wpAt_Expr_any ?_ hint
 refine PySem.ks_wpAt_MethodCall (pl:=pl) ?_ ht
 refine PySem.ks_wpAt_super_base (env:=envF (jCN qual params body scope cc cda) f s0.heap.objs.size) S.hs S.hc rfl rfl (X _ _ lk) rfl hp rfl (X _ _ lc) rfl hvs hfile S.top ?_
 obtain ⟨mb,b1,b2⟩:=I.mod.blt
 have b1:base.Ns builtinsNs mb:=b1
 refine PySem.W.ks_loadName_global I.ok.kind S.hs (Calls.loadGlobal_builtin (env:=envF (jCN qual params body scope cc cda) f s0.heap.objs.size) (I.mod.glob.keeps I.bk) hsu (b1.keeps I.bk) ((b2 _ (by decide)).trans (show bootBuiltins "super" = some (.type "super") by decide +kernel)) ⟨rfl,?_⟩)
 refine wpAny_loadName_free I.ok.kind S.hc rfl ⟨_,X _ _ lcc,rfl⟩ ?_
 obtain ⟨m,hns,hl⟩:=I.loc
 obtain ⟨u,ru,lu⟩:=hl 0 "self" _ hN h0 (.inl S.hl)
 obtain rfl:u=Value.ref a:=ru
 have hm:m ("self" : Str)=some (.ref a):=by
  rcases lu with ⟨_,z⟩ | ⟨z,_⟩
  ·exact z
  ·have z:scope.names.lookup ("self" : Str)=some .cell∨scope.names.lookup ("self" : Str)=some .free:=z
   rw [S.hl] at z
   rcases z with z | z <;> cases z
 rw [har]
 refine wpAny_loadName_local I.ok.kind S.hl hns hm ?_
 have I0:=I
 obtain ⟨hh,g,d,t,os⟩:=s
 refine PySem.ks_wpAny_isType_cls hD1 hD2 ⟨rfl,?_⟩
 refine PySem.ks_wpAny_call_super hD1 hD2 hx rfl (fun c z=>nomatch z) (PySem.W.looks_mroIn X T.mro) (fun h1 e1 k1=>?_)
 have I1:=I.kept (h':=h1) (t':=t) k1
 refine yMO (s:=⟨h1,g,d,t,os⟩) (pl:=_) KF I1.kIn e1 (Ins (k1 _ _ hx)) S.sta hcC T.sup T.sub ?_
 have k2:∀ b o,h1.get? b=some o→(h1.push (PySem.W.kxs_mw i a)).get? b=some o:=fun b o e=>Heap.get?_push_of_some _ e
 have I2:=I1.kept (h':=h1.push (PySem.W.kxs_mw i a)) (t':=t+1) k2
 have hu:(h1.push (PySem.W.kxs_mw i a)).get? h1.objs.size=some (PySem.W.kxs_mw i a):=Heap.get?_push_at rfl rfl
 refine PySem.W.kxs_callWith (i:=i) (x:=a) rfl ?_
 refine Calls.evalArgs_plain ?_
 refine Calls.spliced_cons (Calls.Constant_str (pos:=cp) (k:=j) ?_)
 refine Calls.spliced_nil ⟨hu,?_⟩
 refine yJU (s:=⟨h1.push (PySem.W.kxs_mw i a),g,d,t+1+1,os⟩) FB I2.kIn T.ini hu (k2 _ _ (k1 _ _ hx)) (by rw [sizeLine_eq]; exact Nat.le_of_ble_eq_true rfl) fun h' t' k' e'=>?_
 have J:=(I2.tok (t+1+1)).write (h':=h') (t':=t+1+1) (x:=a) (e:=a) (o:=exo a C none) (by rw [ha]; exact True.intro) (.inl rfl) k' ⟨_,e'⟩ (exo_ok e')
 have eu:upd H a (exo a C none)=H:=by
  funext b
  by_cases hb:b=a
  ·rw [hb,upd_same,ha]
  ·rw [upd_ne hb]
 rw [eu] at J
 exact h _ J
theorem yVB {st0:Stmt} {rest:List Stmt} {sp:Sp} {k:Nat} {ps N:List Str} (S:SupF P K D qual params (st0 :: rest) scope f cc cda fd) (KF:PySem.W.KxsFacts B i) (FB:ExcBaseFacts B newId i bmB) (hsu:mg "super" = none) (sc:NScope N ps ["__class__"] scope)
    (hps:ps[0]?=some ("self" : Str)) (e0:st0=.Expr (.Call (.Attribute (.Call (.Name "super" p0) [] [] p1) "__init__" ap) [.Constant (.str TEXT) j cp] [] p2) p3)
    (ht:∀ L:Addr,∃ pl:Sem Bool,eval (.Call (.Attribute (.Call (.Name "super" p0) [] [] p1) "__init__" ap) [.Constant (.str TEXT) j cp] [] p2) (envF (jCN qual params (st0 :: rest) scope cc cda) f L)=(do
      let ov ← attributeBase (.Call (.Name "super" p0) [] [] p1) "__init__" (envF (jCN qual params (st0 :: rest) scope cc cda) f L) (eval (.Call (.Name "super" p0) [] [] p1) (envF (jCN qual params (st0 :: rest) scope cc cda) f L))
      standAt ap.atName
      let (f1,first) ← holding [ov] (getMethod ov "__init__" pl)
      callWith p2 f1 first (backTo p2 (starEach [.Constant (.str TEXT) j cp] (envF (jCN qual params (st0 :: rest) scope cc cda) f L))) []))
    (hsp:∀ vs H Q E,sp vs H Q E→vs.length=ps.length∧∃ (a C:Addr) (us:List V),vs=.ref a :: us∧H a=some (exo a C none)∧SupC K B i newId bmB C D)
    (hbody:∀ (A:Around) (outer:List Env) (s:Shared) (H:Hp) (vs:List V) (Q:VK) (E:XK),Room k (A.deeper (envF (jCN qual params (st0 :: rest) scope cc cda) f s.heap.objs.size))→sp vs H Q E →
      ∃ t,PSs (ncx CX P w K mg base N (jCN qual params (st0 :: rest) scope cc cda) f A outer s H E) rest t∧t { nx:=fun _ H'=>Q .non H',rt:=Q } (startF N vs [some (.ref D)]) H) :
    FnOk P w K mg base CX (k+1) f fd ps sp:=by
  refine ⟨fun vs H Q E q=>(hsp vs H Q E q).1,fun A outer s H args us vs Q E hr e1 hb r q=>?_⟩
  obtain ⟨hl,a,C,us',rfl,ha,T⟩:=hsp _ _ _ _ q
  have S0:=S
  obtain ⟨oc,od,dV,kV,doc,pm,an,ct,osl,rfl,lk⟩:=S.fn
  obtain ⟨cl,cld,csl,lcc⟩:=S.cell
  have KX:K.In s.heap:=e1.mod.kin.keeps fun b o e=>(e1.bs b o e).1
  have lim:s.heap.NoLimit:=e1.mod.nolimit.keeps fun b o e=>(e1.bs b o e).1
  have hcc0:H cc=none:=(e1.bs cc _ (e1.mod.kin _ _ lcc)).2
  have CA:CellsAt [(("__class__" : Str),cc)] ["__class__"] [some (.ref D)] s.heap H:=by
    have one:∀ (y:Str) (c:Addr),([(("__class__" : Str),cc)]:List (Str × Addr)).lookup y=some c→y = "__class__" ∧ c=cc:=fun y c e=>by
      rw [List.lookup_cons] at e
      split at e
      · rename_i z; cases e; exact ⟨beq_iff_eq.mp z,rfl⟩
      · cases e
    refine ⟨rfl,fun y c e=>?_,fun x y c e1 e2=>?_,fun i y e=>?_⟩
    · obtain ⟨_,rfl⟩:=one y c e
      exact ⟨hcc0,_,_,KX _ _ lcc,rfl⟩
    · rw [(one x c e1).1,(one y c e2).1]
    · cases i with
      | zero =>
        cases e
        refine ⟨cc,rfl,fun v ev=>?_⟩
        cases ev
        exact ⟨.ref D,rfl,_,KX _ _ lcc,rfl⟩
      | succ i=>simp at e
  have hk:scope.kind=.function:=sc.kind
  refine PySem.ks_codeAny_call_defAt (fd:=PySem.W.ksFn "__init__" qual params (st0 :: rest) scope dV kV doc pm an (.ref cda) ct cc) (body:=st0 :: rest) (binds:=ps.zip us) hr.depth (KX _ _ lk) rfl lim (PySem.W.codeRec_of KX S.code) rfl hb sc.nocell (fun ⟨n,_⟩ hy=>sc.par n (List.of_mem_zip hy).1) (fun h₁ hns kp=>?_) sc.co sc.gen hk
  have I:Inv (ncx CX P w K mg base N (jCN qual params (st0 :: rest) scope cc cda) f A outer s H E) [] (startF N (.ref a :: us') [some (.ref D)]) H { s with heap:=h₁,toks:=s.toks+(ps.zip us).length }:=inv_startN sc hr.hd e1 hl r CA hns kp
  obtain ⟨pl,ht⟩:=ht s.heap.objs.size
  show _root_.PySem.wpAt (model P w) (A.deeper (envF (jCN qual params (st0 :: rest) scope cc cda) f s.heap.objs.size)) (.func (st0 :: rest) (envF (jCN qual params (st0 :: rest) scope cc cda) f s.heap.objs.size)) (execs (st0 :: rest) (envF (jCN qual params (st0 :: rest) scope cc cda) f s.heap.objs.size)) _ _ _
  refine PySem.ks_wpAt_execs_cons ?_
  have hN:N[0]?=some ("self" : Str):=by
    have q:=sc.pre
    have:(N.take (ps.length+(["__class__"]:List Str).length))[0]?=(ps++(["__class__"]:List Str))[0]?:=by rw [q]
    rw [List.getElem?_take_of_lt (by simp)] at this
    rw [this,List.getElem?_append_left (by rw [← hl]; simp)]
    exact hps
  subst e0
  refine yJT (R:=_) S0 T KF FB hsu I hN rfl ha ht fun s' J=>?_
  obtain ⟨t,hp,hq⟩:=hbody A outer s H _ Q E (hr.deeper _) q
  refine wpAt_of_wpAny (wpAny_mono (hp.run [] s' _ H _ J hq) (fun fl s2 hs=>?_) fun _ _ z=>z)
  cases fl with
  | ret u =>
    obtain ⟨v,σ',H',J,rv,q⟩:=hs
    exact ⟨v,H',J.os,J.bare,J.base,J.hok,rv,q⟩
  | next =>
    obtain ⟨σ',H',J,q⟩:=hs
    exact ⟨V.non,H',J.os,J.bare,J.base,J.hok,rfl,q⟩
  | brk =>
    obtain ⟨_,_,_,q⟩:=hs
    exact False.elim q
  | cont =>
    obtain ⟨_,_,_,q⟩:=hs
    exact False.elim q
end
end Lp
set_option maxHeartbeats 4000000
namespace Lp
open PySem PySem.Spec PyProof.Rows L2 LamX NdefX
structure OexB (K:PySem.W.Frag) (bmB:List Value) (C:Addr):Prop where
 over:PySem.W.excOver K C bmB=true
 hd:∃ cd,PySem.W.clsIn K C=some cd∧cd.hasDict=true
 sa:PySem.W.findIn K (.ref C) "__setattr__" = some (some (.builtin "object.__setattr__"))
section
open PySem.W Builtin Builtin.ObjectAttr
variable {prog:Program} {w:World} {A:Around} {R:Result→Shared→Prop} {hp:Heap} {g:Array GenState} {d:Drawn} {t:Nat} {os:OsState} {K:Frag} {bmB:List Value} {B:String} {C x dx:Addr} {name:Str} {tk:Tok} {v:Value}
theorem jZN (ha:findIn K (.ref C) name=some none):takerIn K C name=some none:=by
 unfold takerIn
 rw [ha]; rfl
theorem yLA {t1:Addr} (SF:StoreFacts B bmB "object.__setattr__" "object") (O:OexB K bmB C) (X:K.In hp) (hx:hp.get? x=some (excObj C t1 none .none)) (ha:findIn K (.ref C) name=some none)
    (hq:∀ h' tk' dx,(∀ b o,b≠x→hp.get? b=some o→h'.get? b=some o)→hp.objs.size≤dx→dx≠x→h'.get? x=some (excObj C t1 (some dx) .none)→h'.Ns1 dx (fun y=>if y=name then some v else none)→R (.ok (.ret .none)) ⟨h',g,d,tk',os⟩) :
    codeAny (model prog w) A (.call (.builtin "object.__setattr__") ⟨[.ref x,.str name tk,v],[]⟩) R ⟨hp,g,d,t,os⟩:=by
  obtain ⟨cd,hcd,hh⟩:=O.hd
  have xs:x≠hp.objs.size:=Nat.ne_of_lt (Heap.lt_size hx)
  have hcls:Looks (model prog w) hp (classData C) cd:=looks_clsIn X hcd
  refine osa_openX (ox:=excObj C t1 none .none) (od:=none) SF X ⟨hx,rfl,rfl,trivial⟩ O.over (jZN ha) fun b=>?_
  obtain ⟨nm,bs,mro,ns,qn,hd,sn,sb,ab,col,del⟩:=cd
  dsimp only at hh
  subst hh
  dsimp only
  unfold storeInOwnDict ownDictForStores
  repeat (first | with_reducible refine HandSPX.store_in_new ?_ ?_ | with_reducible refine wpAny_loadPart_at hx ?_ | with_reducible refine hcls.at ?_ | wp_step)
  · have e0:=(Heap.get?_update_ne _ _ _ (fun o=>{ o with dict:=some hp.objs.size }) xs.symm).trans (Heap.get?_push_at (h:=hp) (o:={ cls:=.type "dict", data:=.dict #[] }) rfl rfl)
    exact ⟨_,#[],_,e0,rfl,fun e he=>absurd he (by simp),fun _=>rfl⟩
  · intro h' tk' hn' hs
    have hx1:(hp.push { cls:=.type "dict", data:=.dict #[] }).get? x=some (excObj C t1 none .none):=Heap.get?_push_of_some _ hx
    refine hq h' tk' hp.objs.size (fun b o hb ho=>?_) (Nat.le_refl _) xs.symm ((hs.2 x xs).trans (Heap.get?_update_self _ hx1 rfl)) hn'
    refine (hs.2 b (Nat.ne_of_lt (Heap.lt_size ho))).trans ?_
    exact (Heap.get?_update_ne _ _ _ _ hb).trans (Heap.get?_push_of_some _ ho)
theorem yKZ {t1:Addr} {m0:Str→Option Value} {nl:List Str} (SF:StoreFacts B bmB "object.__setattr__" "object") (O:OexB K bmB C) (X:K.In hp) (hx:hp.get? x=some (excObj C t1 (some dx) .none)) (hns:hp.Ns1 dx m0) (hw:Within m0 nl) (hz:nl.length≤1000) (ha:findIn K (.ref C) name=some none)
  (hq:∀ h' tk',(∀ b o,b≠dx→hp.get? b=some o→h'.get? b=some o)→h'.Ns1 dx (fun y=>if y=name then some v else m0 y)→R (.ok (.ret .none)) ⟨h',g,d,tk',os⟩) :
  codeAny (model prog w) A (.call (.builtin "object.__setattr__") ⟨[.ref x,.str name tk,v],[]⟩) R ⟨hp,g,d,t,os⟩:=by
 obtain ⟨cd,hcd,hh⟩:=O.hd
 obtain ⟨oD,esD,epD,hoD,hdD,_⟩:=hns.count hw
 have hcls:Looks (model prog w) hp (classData C) cd:=looks_clsIn X hcd
 refine osa_openX (ox:=excObj C t1 (some dx) .none) (od:=some oD) SF X ⟨hx,rfl,rfl,hoD⟩ O.over (jZN ha) fun b=>?_
 obtain ⟨nm,bs,mro,ns,qn,hd,sn,sb,ab,col,del⟩:=cd
 dsimp only at hh
 subst hh
 dsimp only
 unfold storeInOwnDict ownDictForStores
 repeat (first | with_reducible refine OEX.store_in_old hns hw hz ?_ | with_reducible refine wpAny_loadPart_at hx ?_ | with_reducible refine hcls.at ?_ | wp_step)
 intro h' tk' hn' hs
 exact hq h' tk' (fun b o hb ho=>(hs.2 b hb).trans ho) hn'
end
section
variable {X:Cx} {pins:List (Addr × Obj)} {σ:L2.St} {H:Hp} {s:Shared} {a C dx:Addr} {f:Str} {y:V} {u:Value} {fs:List (Str × V)} {Q:Unit→Shared→Prop} {E:Value→Shared→Prop} {A:Around} {bmB:List Value} {B:String}
theorem yKY (SF:StoreFacts B bmB "object.__setattr__" "object") (T:OexB X.K bmB C) (I:Inv X pins σ H s) (e:H a=some (exo a C none)) (hno:PySem.W.findIn X.K (.ref C) f=some none) (ry:RelV y u)
  (h:∀ dx s',H dx=none→dx≠a→Inv X pins σ (upd (upd H dx (exd dx [(f,y)])) a (exo a C (some dx))) s'→Q () s'):wpAny (model X.prog X.w) A (setAttr (.ref a) f u) Q E s:=by
 obtain ⟨t1,ho⟩:=exo_at I.hok e
 obtain ⟨hp,g,d,t,os⟩:=s
 refine PySem.W.set_plain I.kIn (ox:=PySem.W.excObj C t1 none .none) (od:=none) ⟨ho,rfl,rfl,trivial⟩ T.sa ?_
 refine yLA SF T I.kIn ho hno fun h' tk' dx k dn dne hx hn=>?_
 have hnd:H dx=none:=I.hok.fresh dn
 have nd:∀ {b:Addr} {o:Obj},hp.get? b=some o→b≠dx:=fun {b o} q z=>Nat.lt_irrefl _ (Nat.lt_of_lt_of_le (z ▸ Heap.lt_size q) dn)
 have na:∀ {b:Addr},H b=none→b≠a:=fun {b} n z=>by
  rw [z,e] at n
  cases n
 have k1:∀ {b:Addr} {o:Obj},H b=none→hp.get? b=some o→h'.get? b=some o:=fun {b o} n q=>k b o (na n) q
 have U:Un X.fs [] H (upd (upd H dx (exd dx [(f,y)])) a (exo a C (some dx))) hp h':=by
  refine ⟨fun b o q n _ _=>k1 n q,fun b o q n _ _=>⟨o.slots,k1 n q⟩,fun b o q n _=>?_,fun b o q _=>?_,fun b xs q=>?_,fun b o v q=>?_,fun b ps q=>⟨#[],?_⟩⟩
  ·rw [upd_ne (na n),upd_ne (nd q)]; exact n
  ·by_cases hb:b=a
   ·subst hb; exact ⟨_,hx⟩
   ·exact ⟨o,k b o hb q⟩
  ·rw [upd_ne (at_ne e q exo_tup),upd_ne (ne_of_none q hnd)]; exact q
  ·rw [upd_ne (at_ne e q exo_frz),upd_ne (ne_of_none q hnd)]; exact q
  ·rw [upd_ne (at_ne e q exo_tbl),upd_ne (ne_of_none q hnd),q,Array.append_empty]
 refine h dx _ hnd dne (I.un (t':=tk') U fun b o q=>?_)
 by_cases hb:b=a
 ·subst hb
  rw [upd_same] at q
  cases q
  exact exo_ok hx
 rw [upd_ne hb] at q
 by_cases hd:b=dx
 ·subst hd
  rw [upd_same] at q
  cases q
  exact exd_ok hn (relO_put (fs:=[]) ry fun g=>True.intro)
 rw [upd_ne hd] at q
 refine (I.hok b o q).stay (fun c v hc z=>k c v ?_ z) (fun c hc=>?_) fun c xs hc=>?_
 ·rcases hc with rfl | hc
  ·exact hb
  ·exact at_ne e hc exo_own
 ·rw [upd_ne (at_ne e hc exo_own),upd_ne (ne_of_none hc hnd)]; exact hc
 ·rw [upd_ne (at_ne e hc exo_tup),upd_ne (ne_of_none hc hnd)]; exact hc
theorem yKX (SF:StoreFacts B bmB "object.__setattr__" "object") (T:OexB X.K bmB C) (I:Inv X pins σ H s) (e:H a=some (exo a C (some dx))) (ed:H dx=some (exd dx fs)) (hl:fs.length≤900) (hno:PySem.W.findIn X.K (.ref C) f=some none) (ry:RelV y u)
  (h:∀ s',Inv X pins σ (upd H dx (exd dx ((f,y) :: fs))) s'→Q () s'):wpAny (model X.prog X.w) A (setAttr (.ref a) f u) Q E s:=by
 obtain ⟨t1,ho⟩:=exo_at I.hok e
 obtain ⟨mA,hns,rel⟩:=exd_at I.hok ed
 have hw:=within_of rel
 obtain ⟨hp,g,d,t,os⟩:=s
 obtain ⟨oD,_,_,hoD,_,_⟩:=hns.count hw
 refine PySem.W.set_plain I.kIn (ox:=PySem.W.excObj C t1 (some dx) .none) (od:=some oD) ⟨ho,rfl,rfl,hoD⟩ T.sa ?_
 refine yKZ SF T I.kIn ho hns hw (by rw [List.length_map]; omega) hno fun h' tk' k hn=>?_
 have hd:∃ o,h'.get? dx=some o:=let ⟨o,_,_,e',_⟩:=hn; ⟨o,e'⟩
 have J:=I.write (t':=tk') (x:=dx) (e:=dx) (o:=exd dx ((f,y) :: fs)) (by rw [ed]; exact True.intro) (.inl rfl) k hd (exd_ok hn (relO_put ry rel))
 exact h _ J
end
def vDC (K:PySem.W.Frag) (bmB:List Value) (f:Str) (to te:TE):TS:=fun D σ H=>te σ H fun y H1=>to σ H1 fun x H2=>∃ a C:Addr,x=.ref a∧OexB K bmB C∧PySem.W.findIn K (.ref C) f=some none ∧
 ((H2 a=some (exo a C none)∧∀ dx,H2 dx=none→dx≠a→D.nx σ (upd (upd H2 dx (exd dx [(f,y)])) a (exo a C (some dx)))) ∨
  ∃ (dx:Addr) (fs:List (Str × V)),H2 a=some (exo a C (some dx))∧H2 dx=some (exd dx fs)∧fs.length≤900∧D.nx σ (upd H2 dx (exd dx ((f,y) :: fs))))
theorem yEU {X:Cx} {o e:Expr} {to te:TE} {f:Str} {p' pos:Pos} {bmB:List Value} {B:String} (SF:StoreFacts B bmB "object.__setattr__" "object") (ho:PE X o to) (he:PE X e te) (hs:swapsWith e (some (.Attribute o f p')) pos.line X.env=pure false:=by rfl) :
  PS X (.Assign [.Attribute o f p'] e pos) (vDC X.K bmB f to te):=by
 refine ⟨fun pins s σ H D I h=>plainObj_wpAny_Assign_Attribute (thn (he.run pins s σ H _ I h) fun v s1 ⟨y,H1,I1,r1,q1⟩=>thn (ho.run pins s1 σ H1 _ I1 q1) fun u s2 ⟨x,H2,I2,r2,a,C,ex,T,hno,q⟩=>?_) hs⟩
 subst ex
 obtain rfl:u=Value.ref a:=r2
 rcases q with ⟨ea,q⟩ | ⟨dx,fs,ea,ed,hl,q⟩
 ·exact yKY SF T I2 ea hno r1 fun dx s' n ne J=>⟨σ,_,J,q dx n ne⟩
 ·exact yKX SF T I2 ea ed hl hno r1 fun s' J=>⟨σ,_,J,q⟩
end Lp
set_option maxHeartbeats 4000000
namespace Lp
open PySem PySem.Spec PyProof.Rows L2 LamX NdefX
def jZB (C:Addr) (n:Nat) (fs:List V→List (Str × V)):Sp:=fun vs H Q E=>∃ (a:Addr) (us:List V),vs=.ref a :: us∧us.length=n∧H a=some (exo a C none) ∧
 ∀ (dx:Addr) (H':Hp),H dx=none→dx≠a→H' a=some (exo a C (some dx))→H' dx=some (exd dx (fs us))→(∀ b,b≠a→b≠dx→H' b=H b)→Q .non H'
section
variable {P:Program} {w:World} {K:PySem.W.Frag} {mg:Str→Option Value} {base:Heap} {CX:CXT} {D f cc cda a:Addr} {qual:Str} {params:Arguments} {body:List Stmt} {scope:Scope} {fd:FuncData} {k:Nat}
variable {B i newId:String} {bmB:List Value} {TEXT f1 f2 x1 x2:Str} {st0:Stmt} {j j2:Nat} {p0 p1 p2 p3 cp ap q0 q1 q2 q3 r0 r1 r2 r3 t0 t1 t2 t3:Pos}
abbrev jRY (TEXT:Str) (j:Nat) (p0 p1 p2 p3 cp ap:Pos):Stmt:=.Expr (.Call (.Attribute (.Call (.Name "super" p0) [] [] p1) "__init__" ap) [.Constant (.str TEXT) j cp] [] p2) p3
def SupEv (TEXT:Str) (j:Nat) (p0 p1 p2 cp ap:Pos) (env:Env):Prop:=∃ pl:Sem Bool,eval (.Call (.Attribute (.Call (.Name "super" p0) [] [] p1) "__init__" ap) [.Constant (.str TEXT) j cp] [] p2) env=(do
   let ov ← attributeBase (.Call (.Name "super" p0) [] [] p1) "__init__" env (eval (.Call (.Name "super" p0) [] [] p1) env)
   standAt ap.atName
   let (f1,first) ← holding [ov] (getMethod ov "__init__" pl)
   callWith p2 f1 first (backTo p2 (starEach [.Constant (.str TEXT) j cp] env)) [])
theorem ySP {n:Nat} {fs:List V→List (Str × V)} {ps:List Str} (hps:ps.length=n+1) (T:SupC K B i newId bmB D D):∀ vs H Q E,jZB D n fs vs H Q E→vs.length=ps.length∧∃ (a C:Addr) (us:List V),vs=.ref a :: us∧H a=some (exo a C none)∧SupC K B i newId bmB C D :=
 fun vs H Q E ⟨a,us,e,hl,ha,_⟩=>⟨by rw [e,List.length_cons,hl,hps],a,D,us,e,ha,T⟩
structure OstR (a dx:Addr) (H H':Hp) (C:Addr) (fs:List (Str × V)):Prop where
 hd:H dx=none
 ne:dx≠a
 at_:H' a=some (exo a C (some dx))
 dd:H' dx=some (exd dx fs)
 keep:∀ b,b≠a→b≠dx→H' b=H b
theorem OstR.first {H:Hp} {C dx:Addr} {g:Str} {y:V} (n:H dx=none) (ne:dx≠a):OstR a dx H (upd (upd H dx (exd dx [(g,y)])) a (exo a C (some dx))) C [(g,y)] :=
 ⟨n,ne,upd_same,by rw [upd_ne ne,upd_same],fun b h1 h2=>by rw [upd_ne h1,upd_ne h2]⟩
theorem OstR.next {H H':Hp} {C dx:Addr} {g:Str} {y:V} {fs:List (Str × V)} (r:OstR a dx H H' C fs):OstR a dx H (upd H' dx (exd dx ((g,y) :: fs))) C ((g,y) :: fs) :=
 ⟨r.hd,r.ne,by rw [upd_ne (Ne.symm r.ne)]; exact r.at_,upd_same,fun b h1 h2=>by rw [upd_ne h2]; exact r.keep b h1 h2⟩
structure BltX (B i newId:String) (bmB:List Value):Prop where
 kx:PySem.W.KxsFacts B i
 ba:ExcBaseFacts B newId i bmB
 st:StoreFacts B bmB "object.__setattr__" "object"
theorem jXI:BltX "ValueError" "ValueError.__init__" "ValueError.__new__" [.type "ValueError", .type "Exception", .type "BaseException", .type "object"]:=⟨PySem.W.kxs_ValueError,PySem.F.excBase_ValueError,PySem.F.store_ValueError⟩
structure VeC (K:PySem.W.Frag) (B i newId:String) (bmB:List Value) (D:Addr):Prop where
 sup:SupC K B i newId bmB D D
 oex:OexB K bmB D
 exC:PySem.W.subIn K (.ref D) (.type "BaseException")=some true
 tyC:PySem.W.typeIn K (.ref D)=some (.type "type")
 kC:PySem.W.keepIn K (.ref D)=true
theorem ini1 (S:SupF P K D qual params [jRY TEXT j p0 p1 p2 p3 cp ap,.Assign [.Attribute (.Name "self" q0) f1 q1] (.Name x1 q2) q3,.Assign [.Attribute (.Name "self" t0) "code" t1] (.Constant (.str TEXT) j2 t2) t3] scope f cc cda fd) (G:BltX B i newId bmB) (V:VeC K B i newId bmB D) (hsu:mg "super" = none)
  (sc:NScope ["self", x1,"__class__"] ["self", x1] ["__class__"] scope)
  (ht:∀ L:Addr,SupEv TEXT j p0 p1 p2 cp ap (envF (jCN qual params [jRY TEXT j p0 p1 p2 p3 cp ap,.Assign [.Attribute (.Name "self" q0) f1 q1] (.Name x1 q2) q3,.Assign [.Attribute (.Name "self" t0) "code" t1] (.Constant (.str TEXT) j2 t2) t3] scope cc cda) f L))
  (hx:(x1 == ("__debug__" : Str))=false) (hx2:(x1 == ("__classdict__" : Str))=false) (n1:PySem.W.findIn K (.ref D) f1=some none) (nc:PySem.W.findIn K (.ref D) "code" = some none) :
  FnOk P w K mg base CX (k+1) f fd ["self", x1] (jZB D 1 fun us=>[("code", .str TEXT),(f1,us.headD .non)]):=by
 refine yVB S G.kx G.ba hsu sc rfl rfl ht (ySP rfl V.sup) fun A outer s H vs Q E hr ⟨a,us,e,hl,ha,q⟩=>?_
 subst e
 obtain ⟨v,rfl⟩:=List.length_eq_one_iff.mp hl
 refine ⟨_,pss_cons (yEU G.st (pe_var (i:=0) rfl (.inl (sc.par _ (by simp))) rfl rfl) (pe_var (i:=1) rfl (.inl (sc.par _ (by simp))) hx hx2)) (pss_one (yEU G.st (pe_var (i:=0) rfl (.inl (sc.par _ (by simp))) rfl rfl) pe_str)),?_⟩
 refine ⟨v,rfl,.ref a,rfl,a,D,rfl,V.oex,n1,.inl ⟨ha,fun dx n ne=>?_⟩⟩
 have o:=OstR.first (C:=D) (g:=f1) (y:=v) n ne
 refine ⟨.ref a,rfl,a,D,rfl,V.oex,nc,.inr ⟨dx,_,o.at_,o.dd,by simp,?_⟩⟩
 have o2:=o.next (g := "code") (y:=.str TEXT)
 exact q dx _ n ne o2.at_ o2.dd o2.keep
end
section
variable {X:Cx} {N:Ent} {WX:L2.WX} {CX:CXT} {C fI:Addr} {fd:FuncData} {ps:List Str} {k n:Nat} {B i newId:String} {bmB:List Value} {fs:List V→List (Str × V)} {x:Str} {p pos:Pos} {e:Expr} {es:List Expr} {ta:TA}
structure ExcK (P:Program) (w:World) (K:PySem.W.Frag) (mg:Str→Option Value) (base:Heap) (k:Nat) (x:Str) (C:Addr) (n:Nat) (fs:List V→List (Str × V)):Prop where
 ex:∃ B i newId bmB fI fd ps,BltX B i newId bmB∧VeC K B i newId bmB C∧PySem.W.findIn K (.ref C) "__init__" = some (some (.ref fI))∧PySem.W.typeIn K (.ref fI)=some (.type "function")∧FnOk P w K mg base (L2.CX P w) k fI fd ps (jZB C n fs)∧Binds K fd ps []∧mg x=some (.ref C)
theorem ExcK.mono {P:Program} {w:World} {K:PySem.W.Frag} {mg:Str→Option Value} {base:Heap} {j:Nat} (F:ExcK P w K mg base j x C n fs) (h:j≤k):ExcK P w K mg base k x C n fs :=
 let ⟨B,i,ne,bm,fI,fd,ps,a,b,c,d,e,f⟩:=F.ex
 ⟨B,i,ne,bm,fI,fd,ps,a,b,c,d,e.mono h,f⟩
def vEJ (C:Addr) (n:Nat) (fs:List V→List (Str × V)) (ta:TA):L2.St→Hp→XK→Prop:=fun σ H Q=>ta σ H fun vs H1=>vs.length=n∧n≤1000∧∀ d,H1 d=none→Q (.ref C) (some d) (upd H1 d (.xd (fs vs)))
theorem ySV {pins:List (Addr × Obj)} {σ:L2.St} {H:Hp} {s:Shared} {Q:XK} {us:List Value} {vs:List V} (F:ExcK X.prog X.w X.K X.mg X.base k x C n fs) (hr:Room (k+1) X.A) (hx:Passes (L2.CX X.prog X.w) X (fun _ _ _=>False)) (I:Inv X pins σ H s) (r:Vals vs us) (hn:vs.length=n) (h1:n≤1000)
  (q:∀ d,H d=none→Q (.ref C) (some d) (upd H d (.xd (fs vs)))):wpAny (model X.prog X.w) X.A (call (.ref C) us) (MkP X pins σ Q) X.xe s:=by
 obtain ⟨B,i,newId,bmB,fI,fd,ps,G,V,iC,tI,F1,hb,hm⟩:=F.ex
 obtain ⟨nm,N',qn,bs,bm,hdct,sn,sub,ab,col,dd,k0,k1,k2,k3,k5,hC,hT⟩:=PySem.W.excInit_of I.kIn V.sup.ini
 obtain ⟨hp,g,dr,tk,os⟩:=s
 have hsz:hp.objs.size≤hp.objs.size+1:=Nat.le_succ _
 have na:H (hp.objs.size+1)=none:=I.hok.fresh hsz
 have kk:∀ b o,hp.get? b=some o→((hp.push (PySem.W.kdv_tup us)).push (PySem.HandSPX.excO C hp.objs.size)).get? b=some o:=fun b o e=>Heap.get?_push_of_some _ (Heap.get?_push_of_some _ e)
 have ge:((hp.push (PySem.W.kdv_tup us)).push (PySem.HandSPX.excO C hp.objs.size)).get? (hp.objs.size+1)=some (PySem.HandSPX.excO C hp.objs.size):=by heap_get
 have I2:=I.laid (t':=tk) (a:=hp.objs.size+1) (o:=exo (hp.objs.size+1) C none) (h':=(hp.push (PySem.W.kdv_tup us)).push (PySem.HandSPX.excO C hp.objs.size)) kk hsz (exo_ok ge)
 have sp:jZB C n fs (.ref (hp.objs.size+1) :: vs) (upd H (hp.objs.size+1) (exo (hp.objs.size+1) C none))
   (fun v H2=>v=.non∧∃ d,H2 (hp.objs.size+1)=some (exo (hp.objs.size+1) C (some d))∧H2 d=some (exd d (fs vs))∧H d=none∧d≠hp.objs.size+1∧∀ b,b≠hp.objs.size+1→b≠d→H2 b=H b) (fun _ _ _=>False) :=
  ⟨_,vs,rfl,hn,upd_same,fun dx H' n1 n2 e1 e2 e3=>⟨rfl,dx,e1,e2,by rw [upd_ne n2] at n1; exact n1,n2,fun b h1 h2=>by rw [e3 b h1 h2,upd_ne h1]⟩⟩
 have r2:Vals (L2.V.ref (hp.objs.size+1) :: vs) (Value.ref (hp.objs.size+1) :: us):=.cons rfl r
 have hl:(Value.ref (hp.objs.size+1) :: us).length=ps.length:=by rw [← r2.length]; exact F1.len _ _ _ _ sp
 have hz:us.length≤sizeLine:=by rw [← r.length,hn,sizeLine_eq]; omega
 refine wpAny_call (PySem.HandSPX.call_own G.ba hT hC (PySem.W.looks_findIn I.kIn iC) (fun self=>PySem.W.bind_fn I.kIn self tI) hz ?_)
 have hbb:=hb ⟨(hp.push (PySem.W.kdv_tup us)).push (PySem.HandSPX.excO C hp.objs.size),g,dr,tk,os⟩ (Value.ref (hp.objs.size+1) :: us) I2.kIn (by rw [List.append_nil]; exact hl)
 rw [List.append_nil] at hbb
 refine codeAny_mono (F1.run _ X.stack _ _ _ _ _ _ (fun _ _ _=>False) (hr.make C us []) (I2.env0.make C us []) hbb r2 sp) fun r s' hq=>?_
 cases r with
 | error er=>exact hx pins σ _ _ er s' I2 hq
 | ok fl =>
  cases fl with
  | ret u =>
   obtain ⟨v,H2,os2,bare2,un2,hok2,rv,ev,d,ea,ed,hd1,hda,keep⟩:=hq
   subst ev
   obtain ⟨h2,g2,d2,t2,os'⟩:=s'
   have eH:upd (del H2 (hp.objs.size+1)) d (.xd (fs vs))=upd H d (.xd (fs vs)):=by
    funext b
    by_cases hbd:b=d
    ·rw [hbd,upd_same,upd_same]
    ·rw [upd_ne hbd,upd_ne hbd]
     by_cases hba:b=hp.objs.size+1
     ·rw [hba,del_same,na]
     ·rw [del_ne hba,keep b hba hbd]
   exact ⟨rv,mk_end (raises_own V.exC V.tyC) I hsz kk un2 hok2 os2 bare2 ea ed hd1 (by rw [eH]; exact q d hd1)⟩
  | next=>exact False.elim hq
  | brk=>exact False.elim hq
  | cont=>exact False.elim hq
theorem pmk_exc (F:ExcK X.prog X.w X.K X.mg X.base k x C n fs) (hr:Room (k+1) X.A) (hx:Passes (L2.CX X.prog X.w) X (fun _ _ _=>False)) (hg:Gl X x) (ha:PA X (e :: es) ta)
  (hdb:(x == ("__debug__" : Str))=false:=by decide) (he:starEach (e :: es) X.env=(false,eval e X.env) :: starEach es X.env:=by rfl) (hpl:(backTo pos (starEach es X.env)).any (·.1)=false:=by rfl) :
  PMk X (.Call (.Name x p) (e :: es) [] pos) (vEJ C n fs ta):=by
 intro pins s σ H Q I h
 obtain ⟨B,i,newId,bmB,fI,fd,ps,G,V,iC,tI,F1,hb,hm⟩:=id F.ex
 refine wpAny_Call_Name_kw (ld_glob I hg hm ?_ hdb)
 refine PySem.W.callWith_K (h₀:=X.base) I.ok.mod.kin V.kC (thn (ha.run pos pins s σ H _ I h) fun us s1 ⟨vs,H1,I1,r1,hn,hz,q1⟩=>⟨I1.kIn,?_⟩) he hpl
 exact ySV F hr hx I1 r1 hn hz q1
end
structure ExcC (P:Program) (w:World) (K:PySem.W.Frag) (mg:Str→Option Value) (base:Heap) (B:Bs) (k:Nat) (x:Str) (c n:Nat) (fv:List PV→List PV):Prop where
 ex:∃ fs,ExcK P w K mg base k x (B.cad c) n fs∧n≤1000∧∀ (W:Wd) (xs:List PV) (vs:List V),Reps B W xs vs→xs.length=n→∃ us,fs vs=(B.fld c).zip us∧us.length=(B.fld c).length∧Reps B W (fv xs) us
theorem ExcC.mono {P:Program} {w:World} {K:PySem.W.Frag} {mg:Str→Option Value} {base:Heap} {B:Bs} {j k:Nat} {x:Str} {c n:Nat} {fv:List PV→List PV} (F:ExcC P w K mg base B j x c n fv) (h:j≤k):ExcC P w K mg base B k x c n fv :=
 let ⟨fs,a,b⟩:=F.ex
 ⟨fs,a.mono h,b⟩
def jJD (c n:Nat) (fv:List PV→List PV) (ma:MA):MS:=fun s=>(ma s).bind fun vs s1=>if vs.length=n∧vM vs=true then .exc (.ins c (fv vs)) s1 else .bad
section
variable {X:Cx} {B:Bs} {N:Ent} {WX:L2.WX} {x:Str} {c n k:Nat} {fv:List PV→List PV} {ma:MA} {e:Expr} {es:List Expr} {p pos pos':Pos} {W:Wd} {s:S} {σ:L2.St} {H:Hp}
theorem yGS {vs:List PV} {vs':List V} {D:Ends} {fs:List V→List (Str × V)} (hf:∀ (W:Wd) (xs:List PV) (vs:List V),Reps B W xs vs→xs.length=n→∃ us,fs vs=(B.fld c).zip us∧us.length=(B.fld c).length∧Reps B W (fv xs) us)
  (r:Rel B N W s σ H) (rv:RepTs B W H vs vs') (q:PostS B N WX D (if vs.length=n∧vM vs=true then R.exc (.ins c (fv vs)) s else R.bad)):vs'.length=n∧∀ d,H d=none→WX (.ref (B.cad c)) (some d) σ (upd H d (.xd (fs vs'))):=by
 split at q
 ·rename_i hc
  have rr:=rv.reps hc.2
  refine ⟨by rw [← rr.length]; exact hc.1,fun d hd=>?_⟩
  obtain ⟨us,e1,e2,e3⟩:=hf W vs vs' rr hc.1
  have r2:=jHY (o:=.xd (fs vs')) r (r.loose hd) trivial (.inl hd)
  exact q W σ _ _ _ r2 ⟨c,fv vs,d,us,rfl,rfl,rfl,by rw [upd_same,e1],e2,e3,r.st.tr _ hd,r.hr.fnone hd,fun z=>r.hr.mt _ z hd⟩
 ·exact q.elim
theorem yLD {X:Cx}:Takes X (fun _ _ _ _=>False):=takes0
theorem yCV (F:ExcC X.prog X.w X.K X.mg X.base B k x c n fv) (hc:X.calm=true) (tk:Takes X WX) (hr:Room (k+1) X.A) (hg:Gl X x) (ha:SimA X B N WX (e :: es) ma) (hdb:(x == ("__debug__" : Str))=false)
  (he:starEach (e :: es) X.env=(false,eval e X.env) :: starEach es X.env) (hpl:(backTo pos (starEach es X.env)).any (·.1)=false):SimS X B N WX (.Raise (some (.Call (.Name x p) (e :: es) [] pos)) none pos') (jJD c n fv ma):=by
 obtain ⟨fs,F1,hn,hf⟩:=F.ex
 exact (ps_raise hc tk (pmk_exc F1 hr (passes_call yLD fun _ _ _ _ h=>h) hg ha hdb he hpl)).imp fun D σ H ⟨W,s,r,h⟩=>⟨W,s,r,h.bindE.mono fun vs W1 s1 H1 r1 _ q vs' rv=>by
  obtain ⟨q1,q2⟩:=yGS hf r1 rv q
  exact ⟨q1,hn,q2⟩⟩
end
end Lp
set_option maxHeartbeats 4000000
namespace Lp
open PySem PySem.Spec PyProof.Rows L2 LamX NdefX
theorem yDN {B:Heap} {l:List Env} {e:Addr} {Z:Obj→Prop} {h h':Heap} (R:HandSPX.FlyingZ B l e Z h) (k:∀ b o,h.get? b=some o→h'.get? b=some o):HandSPX.FlyingZ B l e Z h':=by
 obtain ⟨f1,f2,f3,oe,vs,T,oT,ts,he,hz,hd,h1,hn,hne,hT,hdT,h3⟩:=R
 exact ⟨fun b o q=>k b o (f1 b o q),f2,f3.of_keeps fun b o q _=>⟨o,k b o q,rfl⟩,oe,vs,T,oT,ts,k _ _ he,hz,hd,h1,hn,hne,k _ _ hT,hdT,h3⟩
structure TestX (X:Cx) (t:Expr) (cs:List Value):Prop where
 run:∀ (a:Addr) (pn pins:List (Addr × Obj)) (σ:L2.St) (H:Hp) (s:Shared) (cls:Value) (b:Bool) (Q:Bool→Shared→Prop) (E:Value→Shared→Prop),Inv (X.suite a pn) pins σ H s→PySem.W.Looks (model X.prog X.w) s.heap (typeOf (.ref a)) cls→PySem.W.exmAny X.K cls cs=some b →
  (∀ h',(∀ q o,s.heap.get? q=some o→h'.get? q=some o)→Q b { s with heap:=h' }) →
  wpAny (model X.prog X.w) (X.A.mark (some (.ref a))) (eval t X.env) (fun c s₁=>wpAny (model X.prog X.w) (X.A.mark (some (.ref a))) (excMatches (.ref a) c) Q E s₁) E s
section
variable {X:Cx} {x1 x2 x3:Str} {c1 c2 c3:Value} {p1 p2 p3 tp:Pos} {kk:Nat}
theorem jXT {a:Addr} {pn pins:List (Addr × Obj)} {σ:L2.St} {H:Hp} {s:Shared} {Q E:Value→Shared→Prop} (n:Names X x1 c1) (I:Inv (X.suite a pn) pins σ H s) (q:Q c1 s):wpAny (model X.prog X.w) (X.A.mark (some (.ref a))) (eval (.Name x1 p1) X.env) Q E s:=by
 obtain ⟨hg,hd,hm | ⟨hm,hv,hn⟩⟩:=n
 ·exact ld_glob (X:=X.suite a pn) I hg hm q hd
 ·exact ld_blt (X:=X.suite a pn) I hg hm hv q hn hd
theorem yCS (n1:Names X x1 c1) (n2:Names X x2 c2) (n3:Names X x3 c3):TestX X (.Tuple [.Name x1 p1,.Name x2 p2,.Name x3 p3] kk tp) [c1,c2,c3]:=by
  refine ⟨fun a pn pins σ H s cls b Q E I LT hb q=>?_⟩
  have kp:∀ q o,s.heap.get? q=some o→(s.heap.push { cls:=.type "tuple", data:=.seq [c1,c2,c3].toArray }).get? q=some o:=fun _ _ z=>Heap.get?_push_of_some _ z
  refine wpAny_Tuple (wpAny_items_cons (jXT n1 I (wpAny_items_cons (jXT n2 I (wpAny_items_cons (jXT n3 I (wpAny_items_nil ⟨by size_fits,?_⟩)))))))
  exact (PySem.W.exm_tup3 (I.kIn.keeps kp) (LT.keeps kp) (Heap.get?_push_size s.heap rfl) hb).here (q _ kp)
end
def yHR (K:PySem.W.Frag) (cs:List Value) (i:Nat) (ts:Addr→Value→Option Addr→TS) (D:Ends):WX:=fun cls d σ H=>PySem.W.exmAny K cls cs=some true ∧
  ∀ a,H a=none→ts a cls d { nx:=fun σ' H'=>D.nx (σ'.set i none) H',rt:=D.rt,bk:=fun σ' H'=>D.bk (σ'.set i none) H',ct:=fun σ' H'=>D.ct (σ'.set i none) H' } (σ.set i (some (.ref a))) H
section
variable {X:Cx} {n:Str} {t:Expr} {cs:List Value} {i:Nat} {body suite:List Stmt} {b₀:Stmt} {pos pos':Pos} {tb:WX→TS} {ts:Addr→Value→Option Addr→TS}
theorem yGT (hs:X.stack=X.env :: X.outer) (hf:X.env.frame=some X.env.locals) (hN:X.N.Nodup) (hi:X.N[i]?=some n) (hln:X.env.kindOf n=some .local) (T:TestX X t cs)
  (hb:∀ (W:WX) (pn:List (Addr × Obj)) (xe:Value→Shared→Prop),Takes (X.tr pn xe) W→PassesOwn (model X.prog X.w) X.A X.env xe→PSs (X.tr pn xe) body (tb W))
  (hsu:∀ (a:Addr) (oe:Obj) (cls:Value) (d:Option Addr) (pn:List (Addr × Obj)),Zc cls d oe→(∃ vs,oe.data=.fields vs)→PSs (X.suite a ((a,oe) :: pn)) (b₀ :: suite) (ts a cls d)) :
  PS X (.Try body [.ExceptHandler (some t) (some n) (b₀ :: suite) pos'] [] [] pos) (fun D σ H=>tb (yHR X.K cs i ts D) D σ H):=by
 refine ⟨fun pins s σ H D I h=>wpAny_Try_except ?_⟩
 have ok:=I.ok
 have fr0:X.A.frames=some (X.env :: X.outer):=by rw [ok.frames,hs]
 refine wpAny_mono ((hb (yHR X.K cs i ts D) (X.pn++pins) _ (fun u s' xx=>?_) PassesOwn.looking).run [] s σ H D (I.toTry (fun e s₁=>wpAny (model X.prog X.w) X.A (noteFrame e X.env) (fun _ s₂=>wpAny (model X.prog X.w) X.A (setFlight e none) (fun _ s₃ =>
  wpAny (model X.prog X.w) X.A (handleBy e X.env [.ExceptHandler (some t) (some n) (b₀ :: suite) pos']) (SP X pins D) X.xe s₃) X.xe s₂) X.xe s₁)) h) (fun f s1 q=>?_) (fun e s1 z=>z)
 ·obtain ⟨a,B,sI,pins',σ',H',cls,d,rfl,J',nb,up,sky,na,os,ag,hm,yes⟩:=xx
  have Jn:Inv X pins σ' H' sI:=J'.ofTry ok
  have sk:Sky B (X.env :: X.outer) a (Zc cls d) X.env.locals s'.heap:=by rw [← hs]; exact sky
  show wpAny (model X.prog X.w) X.A (noteFrame (.ref a) X.env) _ _ _
  refine Sky.land Zc.steady fr0 hf sk fun g3 fz uz=>?_
  have J3:Inv X pins σ' H' { s' with heap:=g3 }:=Jn.landed nb fz.1 (up.trans uz) os ag
  obtain ⟨oe,ws,ge,hz,hd⟩:=fz.there
  have out:a∉frs (X.env :: X.outer):=fun hm=>by
   obtain ⟨_,o',e',hnf⟩:=fz.2.2.1.mem hm
   rw [ge] at e'
   cases e'
   exact hnf _ hd
  have nL:a≠X.env.locals:=fun z=>out (List.mem_filterMap.mpr ⟨X.env,List.mem_cons_self,by rw [hf,z]⟩)
  have nF:a∉X.fs:=fun hm=>by
   obtain ⟨e,he,q⟩:=List.mem_filterMap.mp hm
   exact out (List.mem_filterMap.mpr ⟨e,List.mem_cons_of_mem _ he,q⟩)
  refine wpAny_handleBy_cons (codeAny_handlers_test ?_) (by intro q; cases q)
  refine T.run a _ _ _ _ _ cls true _ _ (J3.suite ge hd na nL nF) (fun A Q E s k q=>wpAny_typeOf_ref (k _ _ ge) (by rw [hz.1]; exact q)) hm fun g4 k4=>?_
  have fz4:=yDN fz k4
  have u4:s'.heap.UpToSlots g4:=uz.trans (Heap.UpToSlots.of_keeps k4)
  refine codeAny_handlers_suite_as (HandSPX.lands_againZ fz4 fun g5 fz5 u5=>?_)
  have J5:Inv X pins σ' H' { s' with heap:=g5 }:=Jn.landed nb fz5.1 ((up.trans u4).trans u5) os ag
  obtain ⟨oe5,ws5,ge5,hz5,hd5⟩:=fz5.there
  refine store_ok (X:=X.suite a ((a,oe5) :: (X.pn++pins))) (v:=.ref a) (J5.suite ge5 hd5 na nL nF) hN hi (.inl hln) rfl (fun s5 S5=>?_) (.inr hln)
  refine wpAny_mono ((hsu a oe5 cls d (X.pn++pins) hz5 ⟨_,hd5⟩).run [] s5 _ H' _ S5 (yes a na)) (fun f s6 hsp=>?_) (fun _ _ z=>False.elim z)
  have leave:∀ {σ6:L2.St} {H6:Hp} {Q:Shared→Prop},Inv (X.suite a ((a,oe5) :: (X.pn++pins))) [] σ6 H6 s6→(∀ s7,Inv X pins (σ6.set i none) H6 s7→Q s7) →
    wpAny (model X.prog X.w) X.A (do bindName X.env n .none; unbindBehindTheSuite X.env n pos') (fun _ s7=>Q s7) X.xe s6:=fun S6 hq=>gone_ok (S6.unsuite ok) hN hi hln hq
  cases f with
  | next=>obtain ⟨σ6,H6,S6,q6⟩:=hsp; exact leave S6 fun s7 J7=>⟨_,_,J7,q6⟩
  | brk=>obtain ⟨σ6,H6,S6,q6⟩:=hsp; exact leave S6 fun s7 J7=>⟨_,_,J7,q6⟩
  | cont=>obtain ⟨σ6,H6,S6,q6⟩:=hsp; exact leave S6 fun s7 J7=>⟨_,_,J7,q6⟩
  | ret u=>obtain ⟨v6,σ6,H6,S6,r6,q6⟩:=hsp; exact leave S6 fun s7 J7=>⟨_,_,_,J7,r6,q6⟩
 ·cases f with
  | next=>obtain ⟨σ',H',K',q⟩:=q; exact wpAny_execs_nil ⟨σ',H',K'.ofTry ok,q⟩
  | brk=>obtain ⟨σ',H',K',q⟩:=q; exact ⟨σ',H',K'.ofTry ok,q⟩
  | cont=>obtain ⟨σ',H',K',q⟩:=q; exact ⟨σ',H',K'.ofTry ok,q⟩
  | ret u=>obtain ⟨v,σ',H',K',r,q⟩:=q; exact ⟨v,σ',H',K'.ofTry ok,r,q⟩
end
end Lp
set_option maxHeartbeats 4000000
namespace Lp
open PySem PySem.Spec PyProof.Rows L2 LamX NdefX
abbrev Bs.with (B:Bs) (x:Addr × Nat × Addr):Bs:={ B with xn:=some x }
mutual
def noX:PV→Bool
 | .exn _ _=>false
 | .tup xs=>noXs xs
 | .lst xs=>noXs xs
 | .scr xs=>noXs xs
 | .ins _ fs=>noXs fs
 | _=>true
def noXs:List PV→Bool
 | []=>true
 | x :: xs=>noX x&&noXs xs
end
section
variable {B:Bs} {x:Addr × Nat × Addr}
mutual
theorem Rep.up {W:Wd} (h0:B.xn=none):∀ {y:PV} {v:V},Rep B W y v→Rep (B.with x) W y v
 | _,_,.non=>.non
 | _,_,.bl b=>.bl b
 | _,_,.int i=>.int i
 | _,_,.str s h=>.str s h
 | _,_,.ty n=>.ty n
 | _,_,.cls c=>.cls (B:=B.with x) c
 | _,_,.cel h=>.cel h
 | _,_,.tup h r=>.tup h (Reps.up h0 r)
 | _,_,.lst h r=>.lst h (Reps.up h0 r)
 | _,_,.scr h r=>.scr h (Reps.up h0 r)
 | _,_,.ins h hl r=>.ins (B:=B.with x) h hl (Reps.up h0 r)
 | _,_,.exn hx _ _ _=>by rw [h0] at hx; cases hx
theorem Reps.up {W:Wd} (h0:B.xn=none):∀ {ys:List PV} {vs:List V},Reps B W ys vs→Reps (B.with x) W ys vs
 | _,_,.nil=>.nil
 | _,_,.cons h t=>.cons (Rep.up h0 h) (Reps.up h0 t)
end
mutual
theorem Rep.down {W:Wd}:∀ {y:PV} {v:V},Rep (B.with x) W y v→noX y=true→Rep B W y v
 | _,_,.non,_=>.non
 | _,_,.bl b,_=>.bl b
 | _,_,.int i,_=>.int i
 | _,_,.str s h,_=>.str s h
 | _,_,.ty n,_=>.ty n
 | _,_,.cls c,_=>.cls (B:=B) c
 | _,_,.cel h,_=>.cel h
 | _,_,.tup h r,e=>.tup h (Reps.down r e)
 | _,_,.lst h r,e=>.lst h (Reps.down r e)
 | _,_,.scr h r,e=>.scr h (Reps.down r e)
 | _,_,.ins h hl r,e=>.ins (B:=B) h hl (Reps.down r e)
 | _,_,.exn _ _ _ _,e=>by cases e
theorem Reps.down {W:Wd}:∀ {ys:List PV} {vs:List V},Reps (B.with x) W ys vs→noXs ys=true→Reps B W ys vs
 | _,_,.nil,_=>.nil
 | _,_,.cons h t,e=>by
  obtain ⟨e1,e2⟩:=Bool.and_eq_true_iff.mp (show (noX _&&noXs _)=true from e)
  exact .cons (Rep.down h e1) (Reps.down t e2)
end
mutual
theorem Rep.noX {W:Wd} (h0:B.xn=none):∀ {y:PV} {v:V},Rep B W y v→noX y=true
 | _,_,.non=>rfl
 | _,_,.bl b=>rfl
 | _,_,.int i=>rfl
 | _,_,.str s h=>rfl
 | _,_,.ty n=>rfl
 | _,_,.cls c=>rfl
 | _,_,.cel h=>rfl
 | _,_,.tup h r=>Reps.noX h0 r
 | _,_,.lst h r=>Reps.noX h0 r
 | _,_,.scr h r=>Reps.noX h0 r
 | _,_,.ins h hl r=>Reps.noX h0 r
 | _,_,.exn hx _ _ _=>by rw [h0] at hx; cases hx
theorem Reps.noX {W:Wd} (h0:B.xn=none):∀ {ys:List PV} {vs:List V},Reps B W ys vs→noXs ys=true
 | _,_,.nil=>rfl
 | _,_,.cons h t=>by
  show (Lp.noX _&&noXs _)=true
  rw [Rep.noX h0 h,Reps.noX h0 t]; rfl
end
variable {N:Ent} {W W1:Wd} {h:AH} {H H1:Hp} {s:S} {σ:L2.St}
theorem DRel.up {ks:List (PV × PV)} {L:List (NestedKey × Addr × Value)} (h0:B.xn=none) (r:DRel B W ks L):DRel (B.with x) W ks L:=by
 induction r with
 | nil=>exact .nil
 | cons h1 h2 h3 h4 h5 _ ih=>exact .cons h1 h2 (h3.up h0) (h4.up h0) h5 ih
theorem DRel.down {ks:List (PV × PV)} {L L':List (NestedKey × Addr × Value)} (r:DRel (B.with x) W1 ks L) (r0:DRel B W ks L') (h0:B.xn=none):DRel B W1 ks L:=by
 induction r generalizing L' with
 | nil=>exact .nil
 | cons h1 h2 h3 h4 h5 _ ih =>
  cases r0 with
  | cons g1 g2 g3 g4 g5 t=>exact .cons h1 h2 (h3.down (g3.noX h0)) (h4.down (g4.noX h0)) h5 (ih t)
theorem CellR.up {a:Addr} {c:Cell} (h0:B.xn=none) (r:CellR B W H a c):CellR (B.with x) W H a c:=by
 cases c with
 | lst xs=>obtain ⟨vs,h1,h2⟩:=r; exact ⟨vs,h1,h2.up h0⟩
 | dic ks=>obtain ⟨L,h1,h2,h3⟩:=r; exact ⟨L,h1,h2,h3.up h0⟩
 | dik ks=>obtain ⟨L,h1,h2,h3⟩:=r; exact ⟨L,h1,h2,h3.up h0⟩
 | ins c fs=>obtain ⟨dx,vs,h1,h2,h3⟩:=r; exact ⟨dx,vs,h1,h2,h3.up h0⟩
theorem HRel.up (h0:B.xn=none) (r:HRel B W h H):HRel (B.with x) W h H :=
 ⟨r.agree,r.len,r.nd,r.mt,r.hz,r.fz,r.tb,fun n c a e1 e2=>let ⟨g1,g2⟩:=r.cell n c a e1 e2; ⟨g1,g2.up h0⟩⟩
theorem HRel.down (h0:B.xn=none) (r0:HRel B W h H) (r:HRel (B.with x) W1 h H1) (em:W1.m=W.m):HRel B W1 h H1 :=
 ⟨r.agree,r.len,r.nd,r.mt,r.hz,r.fz,r.tb,fun n c a e1 e2=>by
  obtain ⟨g1,g2⟩:=r.cell n c a e1 e2
  obtain ⟨_,g3⟩:=r0.cell n c a e1 (em ▸ e2)
  refine ⟨g1,?_⟩
  cases c with
  | lst xs=>obtain ⟨vs,h1,h2⟩:=g2; obtain ⟨_,_,h4⟩:=g3; exact ⟨vs,h1,h2.down (h4.noX h0)⟩
  | dic ks=>obtain ⟨L,h1,h2,h3⟩:=g2; obtain ⟨_,_,_,h4⟩:=g3; exact ⟨L,h1,h2,h3.down h4 h0⟩
  | dik ks=>obtain ⟨L,h1,h2,h3⟩:=g2; obtain ⟨_,_,_,h4⟩:=g3; exact ⟨L,h1,h2,h3.down (h4.noX h0)⟩
  | ins c fs=>obtain ⟨dx,vs,h1,h2,h3⟩:=g2; obtain ⟨_,_,_,_,h4⟩:=g3; exact ⟨dx,vs,h1,h2,h3.down (h4.noX h0)⟩⟩
theorem SlotR.up {y:PV} {v:V} {H0:Hp} (h0:B.xn=none) (r:SlotR B W H H0 y v):SlotR (B.with x) W H H0 y v:=by
 cases y with
 | own xs=>obtain ⟨a,vs,e,h1,h2,h3⟩:=r; exact ⟨a,vs,e,h1,h2.up h0,h3⟩
 | don ks=>obtain ⟨a,vs,o,e1,e2,e3,e4,e5⟩:=r; exact ⟨a,vs,o,e1,e2,e3,e4,e5.up h0⟩
 | _=>exact Rep.up h0 r
theorem Rel.up (h0:B.xn=none) (r:Rel B N W s σ H):Rel (B.with x) N W s σ H :=
 ⟨r.hr.up h0,r.st,r.len,fun i y e=>let ⟨v,e1,sl⟩:=r.env i y e; ⟨v,e1,sl.up h0⟩,r.dis,r.pin⟩
end
def eXf (fl:FL) (f:Str) (mo:ME):ME:=fun s=>(mo s).bind fun o s1=>match o with
 | .exn c fs=>match ((fl c).zip fs).lookup f with
  | some v=>.ok v s1
  | none=>.bad
 | _=>.bad
structure HasX (X:Cx) (B:Bs):Prop where
 at_:∀ a c dd,B.xn=some (a,c,dd)→∃ oe,(a,oe)∈X.pn∧Zc (.ref (B.cad c)) (some dd) oe∧∃ vs,oe.data=.fields vs
structure XClsF (K:PySem.W.Frag) (B:Bs) (fl:FL):Prop where
 fld:∀ c,fl c≠[]→B.fld c=fl c
 cls:∀ c f,f∈fl c→XfC K (B.cad c)∧PySem.W.findIn K (.ref (B.cad c)) f=some none
section
variable {X:Cx} {B:Bs} {N:Ent} {WX:L2.WX} {W:Wd} {s:S} {σ:L2.St} {H:Hp} {e o:Expr} {mo:ME} {f:Str} {fl:FL} {pos:Pos}
theorem qP (HX:HasX X B) (C:XClsF X.K B fl) (he:SimE X B N WX o mo) (hb:attributeBase o f X.env (eval o X.env)=eval o X.env):SimE X B N WX (.Attribute o f pos) (eXf fl f mo):=by
 refine ⟨fun pins s σ H Q I ⟨W,s0,r,h⟩=>?_⟩
 refine attr_of hb (thn (he.run pins s σ H (fun v' H1=>∃ W1 s1 v,Rel B N W1 s1 σ H1∧StepE W s0 H W1 s1 H1∧RepT B W1 H1 v v'∧Post B N WX W1 s1 H1 σ (match v with
  | .exn c fs=>match ((fl c).zip fs).lookup f with
   | some v=>R.ok v s1
   | none=>.bad
  | _=>.bad) fun u W' _ H'=>∀ u',RepT B W' H' u u'→Q u' H') I ⟨W,s0,r,(h.bind r.slen).mono fun v W1 s1 H1 r1 st q v' rv=>⟨W1,s1,v,r1,st,rv,q⟩⟩) fun u s1 hh=>?_)
 obtain ⟨x,H1,I1,rx,W1,s2,v,r1,st,rv,q⟩:=hh
 split at q
 ·rename_i c fs
  split at q
  ·rename_i y ey
   cases (show Rep B W1 (.exn c fs) x from rv) with
   | exn hx hF hl rs =>
    rename_i a dd vs
    obtain rfl:u=Value.ref a:=rx
    obtain ⟨oe,hp,hz,ws,hd⟩:=HX.at_ a c dd hx
    obtain ⟨y',e1,ry,m⟩:=jLA rs ey
    obtain ⟨T,hno⟩:=C.cls c f m
    have ea:H1 dd=some (.xd ((B.fld c).zip vs)):=r1.hr.agree _ _ hF
    rw [C.fld c fun z=>by rw [z] at m; cases m] at ea
    obtain ⟨ha,_⟩:=I1.pin (a,oe) (List.mem_append_left _ hp)
    have hx:ObjOk X.prog X.w H1 s1.heap dd (.xd ((fl c).zip vs)):=I1.hok dd _ ea
    obtain ⟨mA,hns,hr⟩:=hx
    obtain ⟨od,ho,hl2⟩:=lookIn_ns hns
    obtain ⟨u,hu,ru⟩:=RelO.some_of (v:=y') (o:=mA f) (by rw [← e1]; exact hr f)
    have J:PySem.W.InstAt s1.heap a oe (B.cad c) (some od):=⟨ha,hz.1,by unfold PySem.W.notCls; rw [hd] <;> rfl,by rw [hz.2]; exact ho⟩
    exact HandSPX.exc_get I1.kIn J T.ga T.gg T.exC (PySem.W.findObj_own T.hdC hno rfl (by rw [hl2,hu])) (handed_of ru) ⟨y',H1,I1.tok _,ru,q.ok r1 y' ry.hand⟩
  ·exact q.elim
 ·exact q.elim
end
structure FnX (P:Program) (w:World) (K:PySem.W.Frag) (mg:Str→Option Value) (base:Heap) (B:Bs) (k:Nat) (x:Str) (n:Nat) (m:MF):Prop where
 ex:∃ f fd ps,mg x=some (.ref f)∧PySem.W.keepIn K (.ref f)=true∧Binds K fd ps []∧ps.length=n ∧
  ∀ (A:Around) (outer:List Env) (s:Shared) (H:Hp) (args:Args) (us:List Value) (vs:List V) (Q:VK) (E:XK) (p:Addr × Obj) (c:Nat) (dd:Addr),L2H.RoomH k A→L2H.PinOk outer H s p→Zc (.ref (B.cad c)) (some dd) p.2→(∃ ws,p.2.data=.fields ws)→Env0 P w K mg base A outer s H→BindsTo s fd args (ps.zip us)→Vals vs us →
   spF (B.with (p.1,c,dd)) n m vs H Q E→codeAny (model P w) A (.call (.ref f) args) (CR (L2.CX P w) outer P w H s Q E) s
theorem FnX.mono {P:Program} {w:World} {K:PySem.W.Frag} {mg:Str→Option Value} {base:Heap} {B:Bs} {j k:Nat} {x:Str} {n:Nat} {m:MF} (F:FnX P w K mg base B j x n m) (h:j≤k):FnX P w K mg base B k x n m :=
 let ⟨f,fd,ps,a,b,c,d,e⟩:=F.ex
 ⟨f,fd,ps,a,b,c,d,fun A outer s H args us vs Q E p c dd r=>e A outer s H args us vs Q E p c dd (r.mono h)⟩
structure BdyX (X:Cx) (B:Bs) (E:XK) (k:Nat):Prop where
 tk:Takes X fun c d _ H=>E c d H
 pa:PassesOwn (model X.prog X.w) X.A X.env X.xe
 rm:L2H.RoomH k X.A
 hx:HasX X B
theorem vBU {P:Program} {w:World} {K:PySem.W.Frag} {mg:Str→Option Value} {base:Heap} {x qual:Str} {params:Arguments} {body:List Stmt} {scope:Scope} {dvs:List V} {kws:List (Str × V)} {f:Addr} {fd:FuncData} {names ps:List Str} {k n kk:Nat} {B:Bs} {mb:MS}
    (F:FunD K x qual params body scope dvs kws f fd) (S:FnScope names ps scope) (hm:mg x=some (.ref f)) (hbi:Binds K fd ps []) (hn:ps.length=n) (hk:names.length - n=kk)
    (hb:∀ (cdv:Value) (A:Around) (outer:List Env) (s:Shared) (H:Hp) (E:XK) (N:Ent) (p:Addr × Obj) (c:Nat) (dd:Addr),BdyX (L2H.cxH (L2.CX P w) P w K mg base names qual scope f cdv A outer s H E p) (B.with (p.1,c,dd)) E k →
      SimSs (L2H.cxH (L2.CX P w) P w K mg base names qual scope f cdv A outer s H E p) (B.with (p.1,c,dd)) N (fun c d _ H=>E c d H) body mb):FnX P w K mg base B (k+1) x n (mkF kk mb):=by
  refine ⟨f,fd,ps,hm,F.kp,hbi,hn,fun A outer s H args us vs Q E p c dd hr hpin hz hd e0 hbt r hsp=>?_⟩
  obtain ⟨oc,od,dV,kV,doc,pm,an,cdv,ct,osl,rfl,lk,hcd,_,_⟩:=F.ex
  obtain ⟨W,h,xs,hrel,rr,el,q⟩:=hsp
  have hl:vs.length=ps.length:=by rw [hn,← el,rr.length]
  have KX:K.In s.heap:=e0.mod.kin.keeps fun b o e=>(e0.bs b o e).1
  have lim:s.heap.NoLimit:=e0.mod.nolimit.keeps fun b o e=>(e0.bs b o e).1
  have kinds:∀ y∈ps.zip us,scope.names.lookup y.1=some .local∨(scope.names.lookup y.1=some .cell∧((cellsFrom (s.heap.objs.size+1) scope.names []).lookup y.1).isSome=true):=fun ⟨n,v⟩ hy=>(S.par n (List.of_mem_zip hy).1).imp id fun q=>⟨q,PySem.W.cellsFrom_some _ _ _ (.inl q)⟩
  refine codeAny_call_function hr.depth (KX _ _ lk) rfl S.co S.gen rfl (PySem.W.codeRec_of KX hcd) (hbt _ _ _ _ (wpAny_newFunctionEnv_cells S.kind kinds fun env he s1 xx=>?_))
  subst he
  refine ⟨lim.keeps xx.toInCall.keep,codeAny_func ?_⟩
  have I:=L2H.inv_startH (CX:=L2.CX P w) (E:=E) (cd:=cdv) (qual:=qual) (f:=f) S hpin e0 hl r xx
  have bd:BdyX (L2H.cxH (L2.CX P w) P w K mg base names qual scope f cdv A outer s H E p) (B.with (p.1,c,dd)) E k:=⟨takes_of rfl rfl rfl rfl,passes_of rfl,hr.deeper _,⟨fun a c' dd' e=>by cases e; exact ⟨p.2,List.mem_singleton.mpr rfl,hz,hd⟩⟩⟩
  have st:=jPQ (k:=kk) hrel rr
  have hq:tS (B.with (p.1,c,dd)) ⟨W,h,H,hrel.len,W⟩ (fun c d _ H=>E c d H) mb { nx:=fun _ H'=>Q .non H',rt:=Q } (L2.start names vs) H:=by
    refine ⟨W,⟨xs.map some++List.replicate kk none,h⟩,?_,?_⟩
    · unfold L2.start
      rw [show names.length - vs.length=kk by rw [← rr.length,el,hk]]
      exact st
    · unfold PostS
      unfold mkF at q
      split at q
      · rename_i v s1 e1
        rw [e1]
        exact fun W' σ' H' v' r' rv=>q W' H' v' r'.hr r'.st rv
      · rename_i s1 e1
        rw [e1]
        exact fun W' σ' H' r'=>q W' H' .non r'.hr r'.st .non
      · exact q.elim
      · rename_i x1 s1 e1
        rw [e1]
        exact fun W' σ' H' cls d r' ex=>q W' H' cls d r'.hr r'.st ex
      · exact q.elim
  refine wpAny_mono ((hb cdv A outer s H E ⟨W,h,H,hrel.len,W⟩ p c dd bd).run [] s1 _ H _ I hq) (fun fl s' hs=>?_) fun e s' hs=>hs
  cases fl with
  | ret u =>
    obtain ⟨v,σ',H',J,rv,q⟩:=hs
    exact ⟨v,H',J.os,J.bare,J.base,J.hok,rv,q⟩
  | next =>
    obtain ⟨σ',H',J,q⟩:=hs
    exact ⟨V.non,H',J.os,J.bare,J.base,J.hok,rfl,q⟩
  | brk =>
    obtain ⟨_,_,_,q⟩:=hs
    exact False.elim q
  | cont =>
    obtain ⟨_,_,_,q⟩:=hs
    exact False.elim q
section
variable {X:Cx} {B:Bs} {N:Ent} {WX:L2.WX} {x:Str} {c n k:Nat} {m:MF} {ma:MA} {e:Expr} {es:List Expr} {p pos:Pos} {y:Addr × Nat × Addr}
theorem yGK (F:FnX X.prog X.w X.K X.mg X.base B k x n m) (HX:HasX X (B.with y)) (tk:Takes X WX) (hr:L2H.RoomH k X.A) (hg:Gl X x) (ha:SimA X (B.with y) N WX (e :: es) ma) (hdb:(x == ("__debug__" : Str))=false)
  (he:starEach (e :: es) X.env=(false,eval e X.env) :: starEach es X.env) (hpl:(backTo pos (starEach es X.env)).any (·.1)=false):SimE X (B.with y) N WX (.Call (.Name x p) (e :: es) [] pos) (yO n m ma):=by
 obtain ⟨f,fd,ps,hm,hk,hb,hn,run⟩:=F.ex
 refine ⟨fun pins s σ H Q I ⟨W,s0,r,h⟩=>?_⟩
 refine wpAny_Call_Name_kw (ld_glob I hg hm ?_ hdb)
 refine PySem.W.callWith_K (h₀:=X.base) I.ok.mod.kin hk (thn (ha.run pos pins s σ H (fun vs' H1=>spF (B.with y) n m vs' H1 Q fun c d H=>WX c d σ H) I ⟨W,s0,r,(h.bind r.slen).mono fun vs W1 s1 H1 r1 _ q vs' rv=>jKQ r1 (rv.reps (yAP q)) q⟩) fun us s1 ⟨vs,H1,I1,rv2,q⟩=>⟨I1.kIn,?_⟩) he hpl
 show wpAny _ _ (call (.ref f) us) _ _ _
 obtain ⟨a,c,dd⟩:=y
 obtain ⟨oe,hp,hz,hd⟩:=HX.at_ a c dd rfl
 have hl:us.length=ps.length:=by
  obtain ⟨_,_,xs,_,rr,el,_⟩:=q
  rw [← rv2.length,hn,← el,rr.length]
 have b:=hb s1 us I1.kIn (by rw [List.append_nil]; exact hl)
 rw [List.append_nil] at b
 have P1:=I1.pin (a,oe) (List.mem_append_left _ hp)
 refine wpAny_call (codeAny_mono (run X.A X.stack s1 H1 ⟨us,[]⟩ us vs Q _ (a,oe) c dd hr ⟨P1.1,P1.2.1,fun hm=>(List.mem_cons.mp (I1.stkSub a hm)).elim P1.2.2.1 P1.2.2.2.1,P1.2.2.2.2⟩ hz hd I1.env0 b rv2 q) fun r s' hq=>?_)
 cases r with
 | error e=>exact passAt tk σ pins H1 s1 e s' I1 hq
 | ok fl =>
  cases fl with
  | ret u=>exact I1.after hq
  | next=>exact False.elim hq
  | brk=>exact False.elim hq
  | cont=>exact False.elim hq
end
end Lp
set_option maxHeartbeats 4000000
namespace Lp
open PySem PySem.Spec PyProof.Rows L2 LamX NdefX
noncomputable def yBW (okc:Nat→Bool) (ms:MS) (ml:ME):ME:=fun s=>match ml s with
 | .ok v s1=>if isOwn v=true then .bad else .ok (.tup [.str "", v]) ⟨s.e,s1.h⟩
 | .exc x s1=>match x with
  | .ins c fs=>if okc c=true then (match ms ⟨[none,some (.exn c fs)],s1.h⟩ with
   | .ok (.rt v) s2=>if noX v=true∧s2.h=s1.h then .ok v ⟨s.e,s1.h⟩ else .bad
   | _=>.bad) else .bad
  | _=>.bad
 | .bad=>.bad
section
variable {X:Cx} {B:Bs} {N:Ent} {WX:L2.WX} {W:Wd} {s:S} {σ σZ:L2.St} {H:Hp} {ms:MS} {ml:ME} {okc:Nat→Bool} {cs:List Value}
theorem vAA (h0:HRel B W s.h H) (hl:σZ.length=2) (N2:Ent) (e1:N2.W=W) (e2:N2.h=s.h) (e3:N2.H=H) (e4:N2.P=W):Rel B N2 W ⟨[none,none],s.h⟩ σZ H:=by
 obtain ⟨w,h,hh,l,p⟩:=N2
 simp only at e1 e2 e3 e4
 subst e1 e2 e3 e4
 have no:∀ (j:Nat) (x:PV),([none,none]:List (Option PV))[j]?=some (some x)→False:=fun j x e=>by
  have:=List.mem_of_getElem? e
  simp at this
 exact ⟨h0,Step.refl h0,by simpa using hl,fun j x e=>(no j x e).elim,fun j k x y a _ e=>(no j x e).elim,.refl _⟩
noncomputable def yIL (ms:MS) (c:Nat) (fs:List PV) (e:List (Option PV)) (h:AH):R S PV:=match ms ⟨[none,some (.exn c fs)],h⟩ with
 | .ok (.rt v) s2=>if noX v=true∧s2.h=h then .ok v ⟨e,h⟩ else .bad
 | _=>.bad
theorem ySX:yBW okc ms ml=fun s=>match ml s with
 | .ok v s1=>if isOwn v=true then R.bad else .ok (.tup [.str "", v]) ⟨s.e,s1.h⟩
 | .exc (.ins c fs) s1=>if okc c=true then yIL ms c fs s.e s1.h else .bad
 | _=>.bad:=by
 funext s
 unfold yBW
 cases ml s with
 | ok v s1=>rfl
 | bad=>rfl
 | exc x s1=>cases x <;> rfl
theorem yJQ {K:PySem.W.Frag} {D:Ends} (hB:B.xn=none) (hm:∀ c,okc c=true→PySem.W.exmAny K (.ref (B.cad c)) cs=some true) (r:Rel B N W s σ H) {Q:VK} (h:Post B N WX W s H σ (yBW okc ms ml s) fun u W' _ H'=>∀ u',RepT B W' H' u u'→Q u' H') (hD:∀ v H',Q v H'→D.rt v H') :
  tE B N (fun cls d _ H'=>∀ σ':L2.St,σ'.length=2→yHR K cs 1 (fun a cls d D σ H=>∃ (N':Ent) (c:Nat) (dd:Addr),cls=.ref (B.cad c)∧d=some dd∧tS (B.with (a,c,dd)) N' (fun _ _ _ _=>False) ms D σ H) D cls d σ' H') ml σ H
   fun v' H'=>([V.str "", v']:List V).length≤sizeLine∧∀ p,H' p=none→D.rt (.ref p) (upd H' p (.tup [.str "", v'])):=by
 refine ⟨W,s,r,?_⟩
 rw [ySX] at h
 unfold Post at h ⊢
 cases e:ml s with
 | bad=>simp only [e] at h; exact h.elim
 | ok v s1 =>
  simp only [e] at h
  intro W' H' r1 st v' rv
  refine ⟨by show 2≤sizeLine; rw [sizeLine_eq]; exact Nat.le_of_ble_eq_true rfl,fun p hp=>?_⟩
  refine hD _ _ ?_
  split at h
  ·exact h.elim
  ·rename_i ow
   have rr:=rv.rep (by simpa using ow)
   have r2:=jBR r r1.hr st.st
   have r3:=jLT (o:=.tup [.str "", v']) r2 hp (by show 2≤sizeLine; rw [sizeLine_eq]; exact Nat.le_of_ble_eq_true rfl)
   have st3:StepE W s H ⟨upd W'.F p (.tup [.str "", v']),W'.m⟩ ⟨s.e,s1.h⟩ (upd H' p (.tup [.str "", v'])):=⟨st.st.trans r.slen (jHC r1.hr hp),fun _ _ e _=>e⟩
   exact h _ _ r3 st3 _ (jDA (r1.hr.fnone hp) (.cons (.str _ ⟨by decide +kernel,by decide +kernel⟩) (.cons rr .nil))).hand
 | exc x s1 =>
  simp only [e] at h
  intro W' H' cls d r1 st ex nw σ' hl
  obtain ⟨c,fs,dd,vs,rfl,rfl,rfl,e1,e2,e3,e4,e5,e6⟩:=ex
  dsimp only at h
  split at h
  ·rename_i oc
   refine ⟨hm c oc,fun a ha=>?_⟩
   -- the exception's dict stands still from now on
   have nd:H dd=none:=nw dd rfl
   have nt:NT (.xd ((B.fld c).zip vs)):=fun _ z=>nomatch z
   have hr1:=jWF r1.hr e5 e6 e1 nt
   have st1:Step W s.h H ⟨upd W'.F dd (.xd ((B.fld c).zip vs)),W'.m⟩ s1.h H':=st.st.keepNew nd e5
   have rx:Rep (B.with (a,c,dd)) ⟨upd W'.F dd (.xd ((B.fld c).zip vs)),W'.m⟩ (.exn c fs) (.ref a):=Rep.exn (B:=B.with (a,c,dd)) rfl upd_same e2 ((e3.mono (jCX e5)).up hB)
   generalize (⟨upd W'.F dd (.xd ((B.fld c).zip vs)),W'.m⟩:Wd)=W1 at hr1 st1 rx
   have ri:=vAA (σZ:=σ') (s:=⟨s.e,s1.h⟩) (hr1.up (x:=(a,c,dd)) hB) hl ⟨W1,s1.h,H',hr1.len,W1⟩ rfl rfl rfl rfl
   refine ⟨⟨W1,s1.h,H',hr1.len,W1⟩,c,dd,rfl,rfl,W1,⟨[none,some (.exn c fs)],s1.h⟩,jED (i:=1) ri rx,?_⟩
   unfold PostS
   unfold yIL at h
   cases e9:ms ⟨[none,some (.exn c fs)],s1.h⟩ with
   | bad=>rw [e9] at h; exact h.elim
   | exc x2 s2=>rw [e9] at h; exact h.elim
   | ok fl s2 =>
    rw [e9] at h
    cases fl with
    | rt v =>
     intro W2 σ2 H2 v' r2 rv
     dsimp only at h
     split at h
     ·rename_i hc
      obtain ⟨nv,eh⟩:=hc
      obtain ⟨e3',h3⟩:=s2
      simp only at eh
      subst eh
      have em:W2.m=W1.m:=by
       obtain ⟨t,et⟩:=r2.pin.m
       have l1:=hr1.len
       have l2:=r2.hr.len
       have et:W1.m++t=W2.m:=et
       rw [← et,List.length_append] at l2
       have l2:W1.m.length+t.length=s1.h.length:=l2
       have:t=[]:=List.length_eq_zero_iff.mp (by omega)
       rw [← et,this,List.append_nil]
      have hr2:=HRel.down hB hr1 r2.hr em
      have st2:Step W1 s1.h H' W2 s1.h H2:=r2.st
      have stf:=st1.trans r.slen st2
      exact hD _ _ (h W2 H2 (jBR r hr2 stf) (jEP stf) v' (rv.down nv).hand)
     ·exact h.elim
    | nx=>exact h.elim
    | bk=>exact h.elim
    | ct=>exact h.elim
  ·exact h.elim
end
structure TryF (P:Program) (w:World) (K:PySem.W.Frag) (mg:Str→Option Value) (base:Heap) (B:Bs) (k:Nat) (x:Str) (okc:Nat→Bool) (ms:MS):Prop where
 ex:∃ (g:Addr) (oc:Value) (od:Option Addr) (pg:Arguments) (bg:List Stmt) (sg:Scope) (dV kV doc pm cdv ct:Value) (an:Option Addr) (osl:Array (Option Value)) (cs:List Value),
  mg x=some (.ref g)∧PySem.W.keepIn K (.ref g)=true∧K.lookup g=some ⟨oc,od,.func (PySem.W.fnOf x x pg bg sg dV kV doc pm an cdv ct),osl⟩∧PySem.W.codeIn K cdv x=true∧L2.Binds K (PySem.W.fnOf x x pg bg sg dV kV doc pm an cdv ct) ["_law_ask"] []∧FnScope ["_law_ask", "_law_e"] ["_law_ask"] sg∧Vis sg "_law_ask" ∧
  (∀ c,okc c=true→PySem.W.exmAny K (.ref (B.cad c)) cs=some true) ∧
  ∀ (A:Around) (outer:List Env) (s:Shared) (H:Hp),Room k (A.deeper (envOfC x sg s.heap.objs.size g cdv)) →
   ∀ (tl:XK→Hp→VK→Prop) (f:Addr),(∀ (W:L2.WX) (pn:List (Addr × Obj)) (xe:Value→Shared→Prop) (E:XK) (p1 p2:Pos),Takes ((cxOf C8.CX0 P w K mg base ["_law_ask", "_law_e"] x sg g cdv A outer s H C8.E0).tr pn xe) W→(∀ cls d σ' H',E cls d H'→W cls d σ' H') →
    PE ((cxOf C8.CX0 P w K mg base ["_law_ask", "_law_e"] x sg g cdv A outer s H C8.E0).tr pn xe) (.Call (.Name "_law_ask" p1) [] [] p2) (fun σZ HZ Q=>σZ[0]?=some (some (.ref f))∧tl E HZ Q)) →
   ∃ t,PSs (cxOf C8.CX0 P w K mg base ["_law_ask", "_law_e"] x sg g cdv A outer s H C8.E0) bg t∧∀ (D:Ends) (σ:L2.St) (H:Hp),σ.length=2→σ[0]?=some (some (.ref f)) →
    tl (fun cls d H'=>∀ σ':L2.St,σ'.length=2→yHR K cs 1 (fun a cls d D σ H=>∃ (N':Ent) (c:Nat) (dd:Addr),cls=.ref (B.cad c)∧d=some dd∧tS (B.with (a,c,dd)) N' (fun _ _ _ _=>False) ms D σ H) D cls d σ' H') H (fun v' H'=>([V.str "", v']:List V).length≤sizeLine∧∀ p,H' p=none→D.rt (.ref p) (upd H' p (.tup [.str "", v'])))→t D σ H
section
variable {P:Program} {w:World} {K:PySem.W.Frag} {mg:Str→Option Value} {base:Heap} {B:Bs} {k:Nat} {x:Str} {sg:Scope} {g:Addr} {cdv:Value} {A:Around} {outer:List Env} {s:Shared} {H:Hp} {okc:Nat→Bool} {ms:MS} {cs:List Value} {f:Addr} {tl:XK→Hp→VK→Prop}
variable {tt:Expr} {b₀:Stmt} {suite:List Stmt} {j k1:Nat} {q1 q2 q2' q3 q4 q5 q6 q7:Pos}
theorem yJR (hN:(["_law_ask", "_law_e"]:List Str).Nodup) (he:sg.names.lookup ("_law_e" : Str)=some .local) (T:TestX (cxOf C8.CX0 P w K mg base ["_law_ask", "_law_e"] x sg g cdv A outer s H C8.E0) tt cs)
  (act:∀ (W:L2.WX) (pn:List (Addr × Obj)) (xe:Value→Shared→Prop) (E:XK) (p1 p2:Pos),Takes ((cxOf C8.CX0 P w K mg base ["_law_ask", "_law_e"] x sg g cdv A outer s H C8.E0).tr pn xe) W→(∀ cls d σ' H',E cls d H'→W cls d σ' H') →
    PE ((cxOf C8.CX0 P w K mg base ["_law_ask", "_law_e"] x sg g cdv A outer s H C8.E0).tr pn xe) (.Call (.Name "_law_ask" p1) [] [] p2) (fun σZ HZ Q=>σZ[0]?=some (some (.ref f))∧tl E HZ Q))
  (hsu:∀ (a:Addr) (oe:Obj) (c:Nat) (dd:Addr) (pn:List (Addr × Obj)) (N':Ent),HasX ((cxOf C8.CX0 P w K mg base ["_law_ask", "_law_e"] x sg g cdv A outer s H C8.E0).suite a ((a,oe) :: pn)) (B.with (a,c,dd)) →
   SimSs ((cxOf C8.CX0 P w K mg base ["_law_ask", "_law_e"] x sg g cdv A outer s H C8.E0).suite a ((a,oe) :: pn)) (B.with (a,c,dd)) N' (fun _ _ _ _=>False) (b₀ :: suite) ms) :
  ∃ t,PSs (cxOf C8.CX0 P w K mg base ["_law_ask", "_law_e"] x sg g cdv A outer s H C8.E0) [.Try [.Return (some (.Tuple [.Constant (.str "") j q1,.Call (.Name "_law_ask" q2) [] [] q2'] k1 q3)) q4] [.ExceptHandler (some tt) (some "_law_e") (b₀ :: suite) q5] [] [] q6] t∧∀ (D:Ends) (σ:L2.St) (H:Hp),σ.length=2→σ[0]?=some (some (.ref f)) →
    tl (fun cls d H'=>∀ σ':L2.St,σ'.length=2→yHR K cs 1 (fun a cls d D σ H=>∃ (N':Ent) (c:Nat) (dd:Addr),cls=.ref (B.cad c)∧d=some dd∧tS (B.with (a,c,dd)) N' (fun _ _ _ _=>False) ms D σ H) D cls d σ' H') H (fun v' H'=>([V.str "", v']:List V).length≤sizeLine∧∀ p,H' p=none→D.rt (.ref p) (upd H' p (.tup [.str "", v'])))→t D σ H:=by
 refine ⟨_,pss_one (yGT (tb:=fun W D σ H=>∃ E:XK,(∀ cls d H',E cls d H'→∀ σ':L2.St,σ'.length=2→W cls d σ' H')∧σ[0]?=some (some (.ref f))∧tl E H (fun v' H'=>([V.str "", v']:List V).length≤sizeLine∧∀ p,H' p=none→D.rt (.ref p) (upd H' p (.tup [.str "", v']))))
  (ts:=fun a cls d D σ H=>∃ (N':Ent) (c:Nat) (dd:Addr),cls=.ref (B.cad c)∧d=some dd∧tS (B.with (a,c,dd)) N' (fun _ _ _ _=>False) ms D σ H) (i:=1) rfl rfl hN rfl he T (fun W pn xe tk pa=>?_) fun a oe cls d pn hz hd=>?_),fun D σ H hl h0 h=>⟨_,fun cls d H' q=>q,h0,h⟩⟩
 ·-- the wish told of frames of two slots
  have tk2:Takes ((cxOf C8.CX0 P w K mg base ["_law_ask", "_law_e"] x sg g cdv A outer s H C8.E0).tr pn xe) (fun cls d σ H=>σ.length=2→W cls d σ H):=fun u s' ⟨a,B,sI,pins,σ,H,cls,d,e,I,nb,up,sky,na,os,ag,w⟩=>tk u s' ⟨a,B,sI,pins,σ,H,cls,d,e,I,nb,up,sky,na,os,ag,w I.len⟩
  refine ⟨fun pins s2 σ H D I ⟨E,hE,h0,h⟩=>?_⟩
  refine (pss_one (ps_ret (pos:=q4) (pe_tup (x1:=k1) (pos:=q3) (pa_cons (pe_str (j:=j) (pos:=q1)) (pa_cons (act _ pn xe E q2 q2' tk2 fun cls d σ' H' q hl=>hE cls d H' q σ' hl) pa_nil))))).run pins s2 σ H D I ?_
  refine ⟨h0,?_⟩
  exact h
 ·refine ⟨fun pins s2 σ H D I ⟨N',c,dd,e1,e2,h⟩=>?_⟩
  subst e1
  subst e2
  refine (hsu a oe c dd pn N' ⟨fun a' c' dd' e=>?_⟩).run pins s2 σ H D I h
  cases e
  exact ⟨oe,List.mem_cons_self,hz,hd⟩
end
structure LamT (X:Cx) (B:Bs):Prop where
 ex:∃ c P,TabB X.base X.mg c P∧X.env.code=.ref c∧(P,X.env.qual ++ "<lambda>")∈B.T∧∀ p∈B.T,p.1=P→p.2=X.env.qual ++ "<lambda>"
section
variable {X:Cx} {B:Bs} {N:Ent} {WX:L2.WX} {k j:Nat} {x:Str} {okc:Nat→Bool} {ms:MS} {ml:ME} {params:Arguments} {body:Expr} {scope:Scope} {p lpos pos:Pos}
theorem yQR (F:TryF X.prog X.w X.K X.mg X.base B k x okc ms) (hB:B.xn=none) (LT:LamT X B) (hr:Room (k+1) X.A) (hg:Gl X x) (L:LamS X.env.scope scope) (hdef:defaultsOf params X.env=([],[]))
    (hbind:∀ (q:Str) (cl:List (Str × Addr)) (pm cv ctv:Value),bindArgs (PySem.W.kla_fn "<lambda>" q params body scope cl pm cv ctv) ⟨[],[]⟩=pure [])
    (hbody:∀ (A:Around) (outer:List Env) (s:Shared) (H:Hp) (E:XK) (f c':Addr),Room j (A.deeper (lamEnv X scope s.heap.objs.size f c'))→Takes (lamCx X A outer s H E scope f c') (fun c d _ H=>E c d H)→SimE (lamCx X A outer s H E scope f c') B N (fun c d _ H=>E c d H) body ml) (hjk:j+1≤k)
    (hdb:(x == ("__debug__" : Str))=false:=by decide) :
    SimE X B N WX (.Call (.Name x p) [.Lambda params body scope lpos] [] pos) (yBW okc ms ml):=by
  refine ⟨fun pins s σ H Q I h=>?_⟩
  obtain ⟨g,oc,od,pg,bg,sg,dV,kV,doc,pm,cdv,ct,an,osl,cs,hm,hk,lk,hcg,hb,Sg,hva,hok,giv⟩:=F.ex
  obtain ⟨c,P,TB,hcode,hmT,hu⟩:=LT.ex
  obtain ⟨W,s0,r,h⟩:=h
  refine wpAny_Call_Name_kw (ld_glob I hg hm ?_ hdb)
  refine PySem.W.callWith_K (h₀:=X.base) I.ok.mod.kin hk ?_ (by rfl) (by rfl)
  show wpAny _ _ (spliced ((false,eval (.Lambda params body scope lpos) X.env) :: backTo pos (starEach [] X.env))) _ _ s
  refine Calls.spliced_cons (ySM I TB hcode hmT hu r.hr.tb hdef (L.has I.ok) fun f c1 pm' ctv H1 s1 I1 lh T1 hf hfn hfr hco=>?_)
  refine Calls.spliced_nil ⟨I1.kIn,?_⟩
  have r1:=jBR r (yAI r.hr lh T1) (jSW r.hr lh)
  have h1:=Post.from r.slen (jEP (jSW r.hr lh)) h
  have rc:codeAny (model X.prog X.w) X.A (.call (.ref g) ⟨[.ref f],[]⟩) (CR C8.CX0 X.stack X.prog X.w H1 s1 Q C8.E0) s1:=by
    refine run_ofS (N:=["_law_ask", "_law_e"]) (ps:=["_law_ask"]) (us:=[.ref f]) (vs:=[.ref f]) lk hcg Sg hr I1.env0 (hb s1 [.ref f] I1.kIn rfl) (.cons rfl .nil) rfl fun hr'=>?_
    obtain ⟨t,ht,hq⟩:=giv X.A X.stack s1 H1 hr' (fun E HZ Q'=>HZ c1=some (CodeO c1 (X.env.qual ++ "<lambda>"))∧tE B N (fun c d _ H=>E c d H) ml σ HZ Q') f fun W pn xe E p1 p2 tk hW =>
      pe_act (i:=0) I1 L hf hfn hfr (hbind _ _ _ _ _) tk hW (hr'.mono hjk) (fun A outer s H hr2=>hbody A outer s H E f c1 hr2 (takes_of rfl rfl rfl rfl)) rfl hva rfl rfl
    refine ⟨t,ht,hq _ _ _ rfl rfl ⟨hco,?_⟩⟩
    exact yJQ (D:={ nx:=fun _ H'=>Q .non H',rt:=Q }) hB hok r1 h1 fun _ _ q=>q
  refine wpAny_call (codeAny_mono rc fun r s2 hq=>?_)
  cases r with
  | error e=>exact (show False from hq).elim
  | ok fl =>
    cases fl with
    | ret u=>exact I1.after hq
    | next=>exact False.elim hq
    | brk=>exact False.elim hq
    | cont=>exact False.elim hq
end
end Lp
set_option maxHeartbeats 4000000
namespace Lp
open PySem PySem.Spec PyProof.Rows L2 LamX NdefX
theorem yLO {o:Obj} (h:jVM o=true):o={ cls:=.none,data:=.fields #[] }:=by
  unfold jVM at h
  split at h
  · rename_i vs sl
    obtain ⟨h1,h2⟩:=Bool.and_eq_true_iff.mp h
    rw [Array.eq_empty_of_size_eq_zero (of_decide_eq_true h1),Array.eq_empty_of_size_eq_zero (of_decide_eq_true h2)]
  · cases h
theorem yCM {g:Addr→Option Obj} {a:Addr}:∀ {as:List Addr},a∉as→(He.frG g as).lookup a=none
 | [],_=>rfl
 | b :: r,h=>by
  simp only [List.mem_cons,not_or] at h
  unfold He.frG
  cases e:g b with
  | none =>
   rw [List.filterMap_cons,e]
   exact yCM h.2
  | some o =>
   rw [List.filterMap_cons,e]
   show (((b,o) :: He.frG g r).lookup a)=none
   rw [List.lookup_cons,show (a == b)=false from beq_false_of_ne h.1]
   exact yCM h.2
section
variable {K:PySem.W.Frag} {d:DefL}
theorem DefL.get (e:fnL K (d.at_ K)=d.val) (c:d.ok K=true):PySem.W.keepIn K (.ref (d.at_ K))=true∧∃ (oc:Value) (od:Option Addr) (fd:FuncData) (osl:Array (Option Value)),K.lookup (d.at_ K)=some ⟨oc,od,.func fd,osl⟩ ∧
  PySem.W.codeIn K fd.code d.qual=true∧DflV K fd.defaults (d.dfl.map (He.Dv.v K))∧KwdV K fd.kwdefaults (d.kwd.map fun q=>(q.1,q.2.v K)) ∧
  fd.name=d.name∧fd.qualname=d.qual∧fd.params=d.params∧fd.body=.stmts d.body∧fd.scope=d.scope∧fd.globals=mainGlobals∧fd.closure.map (·.1)=d.cl∧fd.builtins=builtinsNs:=by
 obtain ⟨kp,c2⟩:=Bool.and_eq_true_iff.mp c
 refine ⟨kp,?_⟩
 unfold fnL at e
 cases q:K.lookup (d.at_ K) with
 | none=>rw [q] at c2; cases c2
 | some o =>
  obtain ⟨oc,od,dt,osl⟩:=o
  rw [q] at c2 e
  cases dt with
  | func fd =>
   have e2:(some (fd.name,fd.qualname,fd.params,fd.body,fd.scope,fd.globals,fd.closure.map (·.1),fd.builtins):FnL)=some (d.name,d.qual,d.params,.stmts d.body,d.scope,mainGlobals,d.cl,builtinsNs):=e
   simp only [Option.some.injEq,Prod.mk.injEq] at e2
   obtain ⟨h1,h2,h3,h4,h5,h6,h7,h8⟩:=e2
   obtain ⟨k1,k2⟩:=Bool.and_eq_true_iff.mp (show (PySem.W.codeIn K fd.code d.qual&&(He.dflB K fd.defaults (d.dfl.map (He.Dv.v K))&&He.kwdB K fd.kwdefaults (d.kwd.map fun q=>(q.1,q.2.v K))))=true from c2)
   obtain ⟨k3,k4⟩:=Bool.and_eq_true_iff.mp k2
   exact ⟨oc,od,fd,osl,rfl,k1,He.dflB_ok k3,He.kwdB_ok k4,h1,h2,h3,h4,h5,h6,h7,h8⟩
  | _=>cases c2
theorem DefL.funD (e:fnL K (d.at_ K)=d.val) (c:d.ok K=true) (hc:d.cl=[]):∃ fd,FunD K d.name d.qual d.params d.body d.scope (d.dfl.map (He.Dv.v K)) (d.kwd.map fun q=>(q.1,q.2.v K)) (d.at_ K) fd:=by
 obtain ⟨kp,oc,od,fd,osl,lk,k1,k2,k3,h1,h2,h3,h4,h5,h6,h7,h8⟩:=d.get e c
 obtain ⟨n1,n2,n3,n4,n5,n6,n7,n8,n9,n10,n11,n12,n13,n14,n15⟩:=fd
 simp only at h1 h2 h3 h4 h5 h6 h7 h8 k1 k2 k3
 rw [hc,List.map_eq_nil_iff] at h7
 subst h1 h2 h3 h4 h5 h6 h7 h8
 exact ⟨_,⟨oc,od,n8,n9,n10,n11,n12,n13,n14,osl,rfl,lk,k1,k2,k3⟩,kp⟩
theorem DefL.sup {P:Program} {D:Addr} (e:fnL K (d.at_ K)=d.val) (c:d.ok K=true) (hc:d.cl=[("__class__" : Str)]) (hn:d.name = "__init__") (hb:jRW P K (d.at_ K) D=true)
  (self:∃ ar:Arg,(d.params.posonlyargs++d.params.args).head?=some ar∧ar.arg=("self" : Str)) (hs:d.scope.names.lookup ("super" : Str)=some .globalImplicit) (hcl:d.scope.names.lookup ("__class__" : Str)=some .free) (hl:d.scope.names.lookup ("self" : Str)=some .local)
  (top:(P.main.scope.names.lookup ("super" : Str)).isSome=false):∃ cc cda fd,SupF P K D d.qual d.params d.body d.scope (d.at_ K) cc cda fd∧∃ (oc:Value) (od:Option Addr) (dV kV doc pm:Value) (an:Option Addr) (ct:Value) (osl:Array (Option Value)),fd=PySem.W.ksFn "__init__" d.qual d.params d.body d.scope dV kV doc pm an (.ref cda) ct cc∧DflV K dV (d.dfl.map (He.Dv.v K)):=by
 obtain ⟨kp,oc,od,fd,osl,lk,k1,k2,k3,h1,h2,h3,h4,h5,h6,h7,h8⟩:=d.get e c
 unfold jRW at hb
 rw [lk] at hb
 obtain ⟨n1,n2,n3,n4,n5,n6,n7,n8,n9,n10,n11,n12,n13,n14,n15⟩:=fd
 simp only at h1 h2 h3 h4 h5 h6 h7 h8 k1 k2 k3
 rw [hc] at h7
 rw [hn] at h1
 obtain ⟨p,rfl,hp⟩:=List.map_eq_singleton_iff.mp h7
 obtain ⟨pn,cc⟩:=p
 have hp:pn = "__class__" := hp
 subst hp
 dsimp only at hb
 obtain ⟨hb1,hb2⟩:=Bool.and_eq_true_iff.mp hb
 obtain ⟨hb2,hb3⟩:=Bool.and_eq_true_iff.mp hb2
 cases n13 with
 | ref cda =>
  dsimp only at hb1
  obtain ⟨f1,f2⟩:=Bool.and_eq_true_iff.mp hb1
  have hfile:∃ (ccl:Value) (cdd:Option Addr) (vs:Array Value) (ccs:Array (Option Value)) (file:Str) (tf:Tok),K.lookup cda=some ⟨ccl,cdd,.fields vs,ccs⟩∧vs[2]?=some (.str file tf)∧((P.main.file:Str) == file)=true:=by
   split at f1
   ·rename_i ccl cdd vs ccs q
    split at f1
    ·rename_i file tf q2
     exact ⟨ccl,cdd,vs,ccs,file,tf,q,q2,f1⟩
    ·cases f1
   ·cases f1
  have hcell:∃ (cl:Value) (cld:Option Addr) (csl:Array (Option Value)),K.lookup cc=some ⟨cl,cld,.cell (some (.ref D)),csl⟩:=by
   split at f2
   ·rename_i cl cld D' csl q
    have:=of_decide_eq_true f2
    subst this
    exact ⟨cl,cld,csl,q⟩
   ·cases f2
  subst h1 h2 h3 h4 h5 h6 h8
  refine ⟨cc,cda,_,⟨⟨oc,od,n8,n9,n10,n11,n12,n14,osl,rfl,lk⟩,k1,hfile,hcell,?_,of_decide_eq_true hb3,self,hs,hcl,hl,top⟩,oc,od,n8,n9,n10,n11,n12,n14,osl,rfl,k2⟩
  cases z:PySem.W.clsIn K D with
  | none=>rw [z] at hb2; cases hb2
  | some cd=>exact ⟨cd,rfl⟩
 | _=>cases hb1
end
theorem yMJ {K:PySem.W.Frag} {B i newId:String} {bmB:List Value} {D:Addr} (h:jRV K B i newId bmB D=true):VeC K B i newId bmB D:=by
 unfold jRV at h
 simp only [Bool.and_eq_true,decide_eq_true_eq] at h
 obtain ⟨h1,h2,h3,h4,h5,h6,h7,h8,h9,h10⟩:=h
 refine ⟨⟨h1,h2,h3,h4⟩,⟨h5,?_,h7⟩,h8,h9,h10⟩
 split at h6
 ·rename_i cd q; exact ⟨cd,q,h6⟩
 ·cases h6
theorem jLR {K:PySem.W.Frag} {C:Addr} {fs:List Str} (h:jNX K C fs=true) {f:Str} (hf:f∈fs):XfC K C∧PySem.W.findIn K (.ref C) f=some none:=by
 obtain ⟨h1,h2⟩:=Bool.and_eq_true_iff.mp h
 exact ⟨xfB_ok h1,of_decide_eq_true (List.all_eq_true.mp h2 f hf)⟩
theorem jXO {K:PySem.W.Frag} {T:List Addr} {a:Addr} (b:jUJ K T a=true):jEH K a∈T∧mainGlobals≠jEH K a∧(∀ {fd:FuncData} {oc:Value} {od:Option Addr} {osl:Array (Option Value)},K.lookup a=some ⟨oc,od,.func fd,osl⟩→fd.code=.ref (jCM K a))∧∀ h:Heap,K.In h→PySem.W.CodeHd h (jCM K a) (jEH K a):=by
 unfold jUJ at b
 simp only [Bool.and_eq_true,decide_eq_true_eq] at b
 obtain ⟨b1,b2,b3,b4,b5⟩:=b
 refine ⟨b1,b3,fun {fd oc od osl} lk=>?_,fun h X=>?_⟩
 ·unfold jCM
  rw [lk] at b4 ⊢
  dsimp only at b4 ⊢
  cases e:fd.code with
  | ref c=>rfl
  | _=>rw [e] at b4; cases b4
 ·split at b5
  ·rename_i c od vs sl q
   simp only [Bool.and_eq_true,decide_eq_true_eq] at b5
   obtain ⟨rfl,c1,c2,c3,c4,c5⟩:=b5
   have hP:jEH K a=(match (vs[11]?:Option Value) with
    | some (.ref P)=>P
    | _=>0):=by
    unfold jEH
    rw [q]
   obtain ⟨P,e1⟩:∃ P,vs[11]?=some (Value.ref P):=by
    split at c1
    ·rename_i P e; exact ⟨P,e⟩
    ·cases c1
   obtain ⟨file,tf,e2⟩:∃ file tf,vs[18]?=some (Value.str file tf):=by
    split at c2
    ·rename_i f t e; exact ⟨f,t,e⟩
    ·cases c2
   obtain ⟨flags,tg,e3⟩:∃ i t,vs[7]?=some (Value.int i t):=by
    split at c3
    ·rename_i f t e; exact ⟨f,t,e⟩
    ·cases c3
   obtain ⟨inF,e4⟩:∃ b,vs[9]?=some (Value.bool b):=by
    split at c4
    ·rename_i f e; exact ⟨f,e⟩
    ·cases c4
   obtain ⟨text,tt,e5⟩:∃ i t,vs[10]?=some (Value.int i t):=by
    split at c5
    ·rename_i f t e; exact ⟨f,t,e⟩
    ·cases c5
   have hP:jEH K a=P:=by rw [hP,e1]
   have gd:∀ {i:Nat} {v:Value},vs[i]?=some v→vs.getD i .none=v:=fun {i v} e=>by
    rw [Array.getD_eq_getD_getElem?,e]; rfl
   exact ⟨_,vs,file,tf,flags,tg,inF,text,tt,X _ _ q,rfl,rfl,by rw [hP]; exact e1,by rw [hP]; exact gd e1,gd e2,gd e3,gd e4,gd e5,b2⟩
  ·cases b5
abbrev AlL:Type:=(Bool × List FnL) × List (Option (List (Option (Str × Int))))
def vCQ (fa:List FactL) (fn:List DefL) (ts:List He.Tab) (K:PySem.W.Frag) (T:List Addr):AlL:=(((fa.all fun f=>f K T)&&fn.all fun d=>d.ok K,fn.map fun d=>fnL K (d.at_ K)),ts.map fun t=>He.dicW K (t.1 K))
def yMF (fn:List DefL) (ts:List He.Tab) (w:World):AlL:=((true,fn.map DefL.val),ts.map fun t=>some (He.keysIn w.params t.2))
def SaysL (fa:List FactL) (fn:List DefL) (ts:List He.Tab) (w:World) (K:PySem.W.Frag) (T:List Addr):Prop:=vCQ fa fn ts K T=yMF fn ts w
def yTV (fa:List FactL) (fn:List DefL) (ts:List He.Tab) (g:Addr→Option Obj) (as:List Addr):AlL:=vCQ fa fn ts (He.frG g (yTZ g as)) (yTL g as)
def SayL (fa:List FactL) (fn:List DefL) (ts:List He.Tab) (w:World) (h:Heap) (K:PySem.W.Frag) (T:List Addr):Prop:=K.In h∧(∀ P∈T,h.get? P=some { cls:=.none,data:=.fields #[] }∧K.lookup P=none)∧SaysL fa fn ts w K T
section
variable {fa:List FactL} {fn:List DefL} {ts:List He.Tab} {w:World} {K:PySem.W.Frag} {T:List Addr}
theorem SaysL.fact (c:SaysL fa fn ts w K T) (i:Nat) {f:FactL} (h:fa[i]?=some f:=by rfl):f K T=true:=by
 have c1:=(Bool.and_eq_true_iff.mp (show ((fa.all fun f=>f K T)&&fn.all fun d=>d.ok K)=true from congrArg (fun z:AlL=>z.1.1) c)).1
 exact List.all_eq_true.mp c1 f (List.mem_of_getElem? h)
theorem SaysL.def_ (c:SaysL fa fn ts w K T) (i:Nat) {d:DefL} (h:fn[i]?=some d:=by rfl):fnL K (d.at_ K)=d.val∧d.ok K=true:=by
 have c2:=(Bool.and_eq_true_iff.mp (show ((fa.all fun f=>f K T)&&fn.all fun d=>d.ok K)=true from congrArg (fun z:AlL=>z.1.1) c)).2
 have e:fn.map (fun d=>fnL K (d.at_ K))=fn.map DefL.val:=congrArg (fun z:AlL=>z.1.2) c
 have e2:(fn.map fun d=>fnL K (d.at_ K))[i]?=(fn.map DefL.val)[i]?:=by rw [e]
 rw [List.getElem?_map,List.getElem?_map,h] at e2
 exact ⟨Option.some.inj e2,List.all_eq_true.mp c2 d (List.mem_of_getElem? h)⟩
theorem SaysL.dicW (c:SaysL fa fn ts w K T) (i:Nat) {t:He.Tab} (h:ts[i]?=some t:=by rfl):He.dicW K (t.1 K)=some (He.keysIn w.params t.2):=by
 have e:ts.map (fun t=>He.dicW K (t.1 K))=ts.map fun t=>some (He.keysIn w.params t.2):=congrArg (fun z:AlL=>z.2) c
 have e2:(ts.map fun t=>He.dicW K (t.1 K))[i]?=(ts.map fun t=>some (He.keysIn w.params t.2))[i]?:=by rw [e]
 rw [List.getElem?_map,List.getElem?_map,h] at e2
 exact Option.some.inj e2
theorem SaysL.dic (c:SaysL fa fn ts w K T) (i:Nat) {t:He.Tab} (h:ts[i]?=some t:=by rfl):∃ es n,KDict K w (t.1 K) es n:=by
 have e:ts.map (fun t=>He.dicW K (t.1 K))=ts.map fun t=>some (He.keysIn w.params t.2):=congrArg (fun z:AlL=>z.2) c
 have e2:(ts.map fun t=>He.dicW K (t.1 K))[i]?=(ts.map fun t=>some (He.keysIn w.params t.2))[i]?:=by rw [e]
 rw [List.getElem?_map,List.getElem?_map,h] at e2
 exact He.dicW_ok (Option.some.inj e2)
end
theorem vCZ {l:PySem.W.OpenLaw} {n k:Nat} {q:Program} {loose:List Str} {XP:(Str→Option Value)→Heap→Prop} {YP:World→Heap→Prop} {d:DefRec} {x:Str} {fa:List FactL} {fn:List DefL} {ts:List He.Tab} {B:World→PySem.W.Frag→Bs} {m:MF} {ls:List ((PySem.W.Frag→Addr) × Str)}
  (hn:l.most=some n) (hn2:n≤sizeLine) (hdf:d.params.defaults=[]) (hr:Room k callerA) (hY:∀ w h,YP w h→∃ K T,SayL fa fn ts w h K T) (hB:∀ w K,(B w K).K=K) (hT:∀ w K,(B w K).T=yBR K ls) (hls:∀ w K T,SaysL fa fn ts w K T→∀ p∈ls,jUJ K T (p.1 K)=true)
  (F:∀ (w:World) (mg:Str→Option Value) (f:Addr) (h:Heap) (K:PySem.W.Frag) (T:List Addr),K.In h→h.Ns mainGlobals mg→mg d.name=some (.ref f)→SaysL fa fn ts w K T →
   ∃ fd:FuncData,(∀ (s:Shared) (u:Value),BindsTo s fd ⟨[u],[]⟩ [(x,u)])∧∀ base:Heap,K.In base→base.Ns mainGlobals mg→(∀ p∈ls,TabB base mg (jCM K (p.1 K)) (jEH K (p.1 K)))→FnOk l.prog w K mg base (L2.CX l.prog w) k f fd [x] (spF (B w K) 1 m))
  (law:∀ ns:List Int,ns.length≤n→(∀ z∈ns,Builtin.Int.intBits z≤1048576)→∃ h',m [.scr (ns.map .int)] []=.ok (.bl true) h') :
  PySem.W.WalkO q loose XP YP l.row.toRowW d [] (fun f vs=>PySem.call f vs):=by
 refine walk_ofTsE (CX:=fun w=>L2.CX l.prog w) (x:=x) hn hn2 hdf hr (fun w mg f h Y hns hmg=>?_) fun w H s e s' z=>?_
 ·obtain ⟨K,T,KX,hTT,c⟩:=hY w h Y
  obtain ⟨fd,hb,hF⟩:=F w mg f h K T KX hns hmg c
  have tb:=fun p hp=>jXO (hls w K T c p hp)
  refine ⟨K,KX,fd,ls.map fun p=>(jCM K (p.1 K),jEH K (p.1 K)),spZ 1 (spF (B w K) 1 m),fun p hp=>?_,fun p hp=>?_,fun p hp=>?_,hb,fun H a ns hl hbits hH hS=>⟨rfl,fun hz=>?_⟩,fun base hKb hnb htb=>yVD (hF base hKb hnb fun p hp=>htb (jCM K (p.1 K),jEH K (p.1 K)) (List.mem_map.mpr ⟨p,hp,rfl⟩)) rfl⟩
  ·obtain ⟨q,hq,rfl⟩:=List.mem_map.mp hp
   exact (hTT _ (tb q hq).1).1
  ·obtain ⟨q,hq,rfl⟩:=List.mem_map.mp hp
   exact (hTT _ (tb q hq).1).2
  ·obtain ⟨q,hq,rfl⟩:=List.mem_map.mp hp
   exact (tb q hq).2.2.2 h KX
  ·refine vBP hz (fun p hp=>?_) (Nat.le_trans hl hn2) (by rw [hB]; exact hS) (law ns hl hbits)
   rw [hT] at hp
   obtain ⟨q,hq,rfl⟩:=List.mem_map.mp hp
   exact TabS.nil (hH (jCM K (q.1 K),jEH K (q.1 K)) (List.mem_map.mpr ⟨q,hq,rfl⟩))
 ·obtain ⟨_,_,_,_,_,_,_,_,_,_,_,_,z⟩:=z
  exact z
end Lp
set_option maxHeartbeats 4000000
namespace Lp
open PySem PySem.Spec PyProof.Rows L2 LamX NdefX
theorem _root_.L2H.RoomH.u9 {k:Nat} {A:Around} (r:L2H.RoomH k A):U9 A:=by have:=r.un; show A.units+200 < cLine; omega
def ExcA (P:Program) (w:World) (K:PySem.W.Frag) (mg:Str→Option Value) (base:Heap) (B:Bs) (k:Nat) (x:Str) (c n:Nat) (fv:List PV→List PV):Prop:=∃ j,j+1≤k∧ExcC P w K mg base B j x c n fv
theorem ExcA.mono {P:Program} {w:World} {K:PySem.W.Frag} {mg:Str→Option Value} {base:Heap} {B:Bs} {i k:Nat} {x:Str} {c n:Nat} {fv:List PV→List PV} (F:ExcA P w K mg base B i x c n fv) (h:i≤k):ExcA P w K mg base B k x c n fv :=
 let ⟨j,hj,a⟩:=F
 ⟨j,Nat.le_trans hj h,a⟩
section
variable {X:Cx} {B:Bs} {N:Ent} {WX:L2.WX} {x:Str} {c n k:Nat} {fv:List PV→List PV} {ma:MA} {e:Expr} {es:List Expr} {p pos pos':Pos}
theorem jEL (F:ExcA X.prog X.w X.K X.mg X.base B k x c n fv) (hc:X.calm=true) (tk:Takes X WX) (hr:Room k X.A) (hg:Gl X x) (ha:SimA X B N WX (e :: es) ma) (hdb:(x == ("__debug__" : Str))=false)
  (he:starEach (e :: es) X.env=(false,eval e X.env) :: starEach es X.env) (hpl:(backTo pos (starEach es X.env)).any (·.1)=false):SimS X B N WX (.Raise (some (.Call (.Name x p) (e :: es) [] pos)) none pos') (jJD c n fv ma) :=
 let ⟨j,hj,F⟩:=F
 yCV F hc tk (hr.mono hj) hg ha hdb he hpl
end
theorem TryF.mono {P:Program} {w:World} {K:PySem.W.Frag} {mg:Str→Option Value} {base:Heap} {B:Bs} {j k:Nat} {x:Str} {okc:Nat→Bool} {ms:MS} (F:TryF P w K mg base B j x okc ms) (h:j≤k):TryF P w K mg base B k x okc ms:=by
 obtain ⟨g,oc,od,pg,bg,sg,dV,kV,doc,pm,cdv,ct,an,osl,cs,h1,h2,h3,h4,h5,h6,h7,h8,h9⟩:=F.ex
 exact ⟨g,oc,od,pg,bg,sg,dV,kV,doc,pm,cdv,ct,an,osl,cs,h1,h2,h3,h4,h5,h6,h7,h8,fun A outer s H hr=>h9 A outer s H (hr.mono h)⟩
theorem XClsF.with {K:PySem.W.Frag} {B:Bs} {fl:FL} (C:XClsF K B fl) {y:Addr × Nat × Addr}:XClsF K (B.with y) fl:=⟨C.fld,C.cls⟩
theorem vBY {P:Program} {w:World} {K:PySem.W.Frag} {mg:Str→Option Value} {base:Heap} {B:Bs} {k:Nat} {x:Str} {c n:Nat} {fv:List PV→List PV} {fs:List V→List (Str × V)} {Bn i newId:String} {bmB:List Value} {fI:Addr} {fd:FuncData} {ps:List Str} (G:BltX Bn i newId bmB) (Ve:VeC K Bn i newId bmB (B.cad c))
  (iC:PySem.W.findIn K (.ref (B.cad c)) "__init__" = some (some (.ref fI))) (tI:PySem.W.typeIn K (.ref fI)=some (.type "function")) (F:FnOk P w K mg base (L2.CX P w) k fI fd ps (jZB (B.cad c) n fs)) (hb:Binds K fd ps []) (hm:mg x=some (.ref (B.cad c))) (hn:n≤1000)
  (hf:∀ (W:Wd) (xs:List PV) (vs:List V),Reps B W xs vs→xs.length=n→∃ us,fs vs=(B.fld c).zip us∧us.length=(B.fld c).length∧Reps B W (fv xs) us):ExcC P w K mg base B k x c n fv:=⟨fs,⟨Bn,i,newId,bmB,fI,fd,ps,G,Ve,iC,tI,F,hb,hm⟩,hn,hf⟩
theorem vBZ {B:Bs} {T f:Str} {c:Nat} (e:B.fld c=[("code" : Str),f]) (k:SOk T):∀ (W:Wd) (xs:List PV) (vs:List V),Reps B W xs vs→xs.length=1→∃ us,([(("code" : Str),V.str T),(f,vs.headD .non)]:List (Str × V))=(B.fld c).zip us∧us.length=(B.fld c).length∧Reps B W [.str T,xs.headD .non] us:=fun W xs vs r hl=>by
 rw [e]
 match xs,vs,r,hl with
 | [x],[v],.cons r1 .nil,_=>exact ⟨[.str T,v],rfl,rfl,.cons (.str _ k) (.one r1)⟩
theorem yJB {P:Program} {w:World} {K:PySem.W.Frag} {mg:Str→Option Value} {base:Heap} {x qual:Str} {params:Arguments} {body:List Stmt} {scope:Scope} {dvs:List V} {kws:List (Str × V)} {f:Addr} {fd:FuncData} {names ps:List Str} {k n kk:Nat} {B:Bs} {mb:MS} {cv:Value}
  (F:FunD K x qual params body scope dvs kws f fd) (S:FnScope names ps scope) (hn:ps.length=n) (hk:names.length - n=kk) (hcode:∀ {fd:FuncData} {oc:Value} {od:Option Addr} {osl:Array (Option Value)},K.lookup f=some ⟨oc,od,.func fd,osl⟩→fd.code=cv)
  (hb:∀ (A:Around) (outer:List Env) (s:Shared) (H:Hp) (E:XK) (N:Ent),Bdy (cxOf (L2.CX P w) P w K mg base names qual scope f cv A outer s H E) E k →
   SimSs (cxOf (L2.CX P w) P w K mg base names qual scope f cv A outer s H E) B N (fun c d _ H=>E c d H) body mb):FnOk P w K mg base (L2.CX P w) (k+1) f fd ps (spF B n (mkF kk mb)):=by
 obtain ⟨oc,od,dV,kV,doc,pm,an,cdv,ct,osl,rfl,lk,hcd,_,_⟩:=F.ex
 obtain rfl:cdv=cv:=hcode lk
 refine fn_of lk hcd S (fun vs H Q E ⟨W,h,xs,hr,r,e,_⟩=>by rw [hn,← e,r.length]) fun A outer s H vs Q E hr ⟨W,h,xs,hrel,r,e,q⟩=>?_
 have bd:Bdy (cxOf (L2.CX P w) P w K mg base names qual scope f cdv A outer s H E) E k:=⟨takes_of rfl rfl rfl rfl,passes_of rfl,hr⟩
 refine ⟨_,hb A outer s H E ⟨W,h,H,hrel.len,W⟩ bd,W,⟨xs.map some++List.replicate kk none,h⟩,?_,?_⟩
 ·unfold L2.start
  rw [show names.length - vs.length=kk by rw [← r.length,e,hk]]
  exact jPQ (k:=kk) hrel r
 ·unfold PostS
  unfold mkF at q
  cases e1:mb ⟨xs.map some++List.replicate kk none,h⟩ with
  | bad=>rw [e1] at q; exact q.elim
  | exc x1 s1=>rw [e1] at q; exact fun W' σ' H' cls d r' ex=>q W' H' cls d r'.hr r'.st ex
  | ok fl s1 =>
   rw [e1] at q
   cases fl with
   | rt v=>exact fun W' σ' H' v' r' rv=>q W' H' v' r'.hr r'.st rv
   | nx=>exact fun W' σ' H' r'=>q W' H' .non r'.hr r'.st .non
   | bk=>exact q.elim
   | ct=>exact q.elim
theorem jZO:∀ {l:List (Addr × Str)},(l.map (·.1)).Nodup→∀ {a:Addr} {q:Str},(a,q)∈l→∀ p∈l,p.1=a→p.2=q
 | [],_,_,_,h,_,_,_=>by cases h
 | y :: l,nd,a,q,h,p,hp,e=>by
  obtain ⟨n1,n2⟩:=List.nodup_cons.mp nd
  rcases List.mem_cons.mp h with h | h <;> rcases List.mem_cons.mp hp with hp | hp
  ·rw [hp,← h]
  ·exact absurd (List.mem_map.mpr ⟨p,hp,by rw [e,← h]⟩) n1
  ·exact absurd (List.mem_map.mpr ⟨(a,q),h,by rw [← hp]; exact e.symm⟩) n1
  ·exact jZO n2 h p hp e
theorem yFE {CX:CXT} {P:Program} {w:World} {K:PySem.W.Frag} {mg:Str→Option Value} {base:Heap} {names:List Str} {qual:Str} {scope:Scope} {f:Addr} {A:Around} {outer:List Env} {s:Shared} {H:Hp} {E:XK} {B:Bs} {ls:List ((PySem.W.Frag→Addr) × Str)} {g:PySem.W.Frag→Addr}
  (TB:TabB base mg (jCM K f) (jEH K f)) (hT:B.T=yBR K ls) (nd:ndT K ls=true) (hg:g K=f) (hm:(g,qual ++ ".<locals>." ++ "<lambda>")∈ls):LamT (cxOf CX P w K mg base names qual scope f (.ref (jCM K f)) A outer s H E) B:=by
 subst hg
 have m1:(jEH K (g K),qual ++ ".<locals>." ++ "<lambda>")∈B.T:=by
  rw [hT]
  exact List.mem_map.mpr ⟨_,hm,rfl⟩
 refine ⟨jCM K (g K),jEH K (g K),TB,rfl,m1,?_⟩
 have nd:((yBR K ls).map (·.1)).Nodup:=of_decide_eq_true nd
 rw [← hT] at nd
 exact jZO nd m1
end Lp
set_option maxHeartbeats 4000000
namespace Lp
open PySem PySem.Spec PyProof.Rows L2 LamX NdefX
section
variable {P:Program} {w:World} {K:PySem.W.Frag} {mg:Str→Option Value} {base:Heap} {B:Bs} {k:Nat} {x:Str} {okc:Nat→Bool} {ms:MS} {cs:List Value} {g:Addr} {fd:FuncData}
variable {tt:Expr} {b₀:Stmt} {suite:List Stmt} {j k1:Nat} {q1 q2 q2' q3 q4 q5 q6 q7:Pos} {params:Arguments} {sg:Scope}
theorem yUW (F:FunD K x x params [.Try [.Return (some (.Tuple [.Constant (.str "") j q1,.Call (.Name "_law_ask" q2) [] [] q2'] k1 q3)) q4] [.ExceptHandler (some tt) (some "_law_e") (b₀ :: suite) q5] [] [] q6] sg [] [] g fd) (hm:mg x=some (.ref g)) (hbi:L2.Binds K fd ["_law_ask"] [])
  (S:FnScope ["_law_ask", "_law_e"] ["_law_ask"] sg) (hva:Vis sg "_law_ask") (he:sg.names.lookup ("_law_e" : Str)=some .local) (hok:∀ c,okc c=true→PySem.W.exmAny K (.ref (B.cad c)) cs=some true)
  (T:∀ (A:Around) (outer:List Env) (s:Shared) (H:Hp) (cdv:Value),TestX (cxOf C8.CX0 P w K mg base ["_law_ask", "_law_e"] x sg g cdv A outer s H C8.E0) tt cs)
  (hsu:∀ (A:Around) (outer:List Env) (s:Shared) (H:Hp) (cdv:Value) (a:Addr) (oe:Obj) (c:Nat) (dd:Addr) (pn:List (Addr × Obj)) (N':Ent),L2H.RoomH k ((A.deeper (envOfC x sg s.heap.objs.size g cdv)).mark (some (.ref a)))→HasX ((cxOf C8.CX0 P w K mg base ["_law_ask", "_law_e"] x sg g cdv A outer s H C8.E0).suite a ((a,oe) :: pn)) (B.with (a,c,dd)) →
   SimSs ((cxOf C8.CX0 P w K mg base ["_law_ask", "_law_e"] x sg g cdv A outer s H C8.E0).suite a ((a,oe) :: pn)) (B.with (a,c,dd)) N' (fun _ _ _ _=>False) (b₀ :: suite) ms):TryF P w K mg base B k x okc ms:=by
 obtain ⟨oc,od,dV,kV,doc,pm,an,cdv,ct,osl,rfl,lk,hcd,_,_⟩:=F.ex
 exact ⟨g,oc,od,params,_,sg,dV,kV,doc,pm,cdv,ct,an,osl,cs,hm,F.kp,lk,hcd,hbi,S,hva,hok,fun A outer s H hr tl f act=>yJR S.nd he (T A outer s H cdv) act fun a oe c dd pn N' HX=>hsu A outer s H cdv a oe c dd pn N' ⟨hr.dp,hr.un⟩ HX⟩
end
structure IniT (P:Program) (qual:Str) (params:Arguments) (body:List Stmt) (scope:Scope) (ps:List Str):Prop where
 sc:NScope (ps++[("__class__" : Str)]) ps ["__class__"] scope
 self:∃ ar:Arg,(params.posonlyargs++params.args).head?=some ar∧ar.arg=("self" : Str)
 su:scope.names.lookup ("super" : Str)=some .globalImplicit
 cl:scope.names.lookup ("__class__" : Str)=some .free
 sl:scope.names.lookup ("self" : Str)=some .local
 top:(P.main.scope.names.lookup ("super" : Str)).isSome=false
 bind:∀ (kV doc pm:Value) (an:Option Addr) (cdv ct:Value) (cc:Addr) (us:List Value),us.length=ps.length→bindArgs (PySem.W.ksFn "__init__" qual params body scope .none kV doc pm an cdv ct cc) ⟨us,[]⟩=pure (ps.zip us)
section
variable {P:Program} {w:World} {K:PySem.W.Frag} {mg:Str→Option Value} {base:Heap} {B:Bs} {x T f1 f2 x1 x2 qual:Str} {c j j2:Nat} {Bn i newId:String} {bmB:List Value} {at_:PySem.W.Frag→Addr} {params:Arguments} {scope:Scope} {p0 p1 p2 p3 cp ap q0 q1 q2 q3 r0 r1 r2 r3 t0 t1 t2 t3:Pos}
theorem jRU (G:BltX Bn i newId bmB) (hfl:B.fld c=[("code" : Str),f1]) (v:jRV K Bn i newId bmB (B.cad c)=true) (xf:jNX K (B.cad c) ["code", f1]=true) (hi:jOB K (B.cad c) (at_ K)=true) (hs:jRW P K (at_ K) (B.cad c)=true)
  (e:fnL K ((DefL.mk at_ "__init__" qual params [jRY T j p0 p1 p2 p3 cp ap,.Assign [.Attribute (.Name "self" q0) f1 q1] (.Name x1 q2) q3,.Assign [.Attribute (.Name "self" t0) "code" t1] (.Constant (.str T) j2 t2) t3] scope ["__class__"] [] []).at_ K)=(DefL.mk at_ "__init__" qual params [jRY T j p0 p1 p2 p3 cp ap,.Assign [.Attribute (.Name "self" q0) f1 q1] (.Name x1 q2) q3,.Assign [.Attribute (.Name "self" t0) "code" t1] (.Constant (.str T) j2 t2) t3] scope ["__class__"] [] []).val∧(DefL.mk at_ "__init__" qual params [jRY T j p0 p1 p2 p3 cp ap,.Assign [.Attribute (.Name "self" q0) f1 q1] (.Name x1 q2) q3,.Assign [.Attribute (.Name "self" t0) "code" t1] (.Constant (.str T) j2 t2) t3] scope ["__class__"] [] []).ok K=true)
  (I:IniT P qual params [jRY T j p0 p1 p2 p3 cp ap,.Assign [.Attribute (.Name "self" q0) f1 q1] (.Name x1 q2) q3,.Assign [.Attribute (.Name "self" t0) "code" t1] (.Constant (.str T) j2 t2) t3] scope ["self", x1])
  (ht:∀ (cc cda f L:Addr),SupEv T j p0 p1 p2 cp ap (envF (jCN qual params [jRY T j p0 p1 p2 p3 cp ap,.Assign [.Attribute (.Name "self" q0) f1 q1] (.Name x1 q2) q3,.Assign [.Attribute (.Name "self" t0) "code" t1] (.Constant (.str T) j2 t2) t3] scope cc cda) f L))
  (hx:(x1 == ("__debug__" : Str))=false) (hx2:(x1 == ("__classdict__" : Str))=false)
  (hsu:mg "super" = none) (hm:mg x=some (.ref (B.cad c))) (k:SOk T):ExcC P w K mg base B 1 x c 1 fun xs=>[.str T,xs.headD .non]:=by
 obtain ⟨cc,cda,fd,S,oc,od,dV,kV,doc,pm,an,ct,osl,rfl,hD⟩:=DefL.sup e.1 e.2 rfl rfl hs I.self I.su I.cl I.sl I.top
 obtain ⟨i1,i2⟩:=Bool.and_eq_true_iff.mp hi
 have V:=yMJ v
 refine vBY G V (of_decide_eq_true i1) (of_decide_eq_true i2) (ini1 (k:=0) S G V hsu I.sc (fun L=>ht _ _ _ L) hx hx2 (jLR xf (by simp)).2 (jLR xf (by simp)).2) ?_ hm (by decide) (vBZ hfl k)
 rcases hD with ⟨_,rfl⟩ | ⟨e,_⟩
 ·exact .all (I.bind kV doc pm an _ ct cc)
 ·exact absurd rfl e
end
end Lp
set_option maxHeartbeats 4000000
set_option maxHeartbeats 4000000
namespace Lp
open PySem PySem.Spec PyProof.Rows L2
@[irreducible] noncomputable def yDU (okc:Nat→Bool) (ms:MS) (ml:ME):ME:=yBW okc ms ml
@[irreducible] def jRP (c n:Nat) (fv:List PV→List PV) (ma:MA):MS:=jJD c n fv ma
section
variable {P:PV→S→Prop} {PF:Fl→S→Prop} {E:PV→S→Prop} {s:S} {m:ME} {ma:MA} {i j c n:Nat} {fv:List PV→List PV} {okc:Nat→Bool} {ms:MS}
theorem vDK (h:(m s).post (fun v s1=>isOwn v=false∧P (.tup [.str "", v]) ⟨s.e,s1.h⟩) (fun x s1=>∃ c fs v s2,x=.ins c fs∧okc c=true∧ms ⟨[none,some (.exn c fs)],s1.h⟩=.ok (.rt v) s2∧noX v=true∧s2.h=s1.h∧P v ⟨s.e,s1.h⟩)):(yDU okc ms m s).post P E:=by
 unfold yDU yBW
 cases e:m s with
 | ok v s1 =>
  rw [e] at h
  obtain ⟨h1,h2⟩:=h
  simp only [h1]
  exact h2
 | exc x s1 =>
  rw [e] at h
  obtain ⟨c,fs,v,s2,rfl,h1,h2,h3,h4,h5⟩:=h
  simp only [h1,if_pos,h2,h3,h4,and_self]
  exact h5
 | bad=>rw [e] at h; exact h.elim
end
end Lp
set_option maxHeartbeats 4000000
namespace Lp
open PySem PySem.Spec PyProof.Rows L2 LamX NdefX
def vCS (K:PySem.W.Frag) (to:TE) (f:Str):TG:=fun v σ H Q=>to σ H fun x H1=>∃ a C dx fs,x=.ref a∧H1 a=some (.ins C dx fs)∧Cls K C∧NoAttr K C f∧fs.length < 1000∧Q σ (upd H1 a (.ins C dx (putF f v fs)))
section
variable {X:Cx} {o:Expr} {to:TE} {f:Str} {pos:Pos}
theorem vAE (ho:PE X o to) (ha:∀ v,assign (.Attribute o f pos) X.env v=(do
  let ov ← holding [v] (eval o X.env)
  standAt pos.atName
  holding [v,ov] (setAttr ov f v)
  release [v,ov] [])):PG X (.Attribute o f pos) (vCS X.K to f):=by
 refine ⟨fun pins s σ H v u Q I r h=>?_⟩
 rw [ha]
 refine wpAny_bind (wpAny_holding (thn (ho.run pins s σ H _ I h) fun ov s1 ⟨x,H1,I1,rx,a,C,dx,fs,ex,ea,c,n,l,q⟩=>?_))
 subst ex
 obtain rfl:ov=Value.ref a:=rx
 exact wpAny_bind (wpAny_standAt (wpAny_bind (wpAny_holding (setattr_ok I1 ea c n l r fun s3 I3=>wpAny_release ⟨σ,_,I3,q⟩))))
end
def putAll (fl:FL) (i:Nat):List Str→List PV→MS
 | [],[]=>fun s=>.ok .nx s
 | f :: fs,x :: xs=>fun s=>match s.e[i]? with
  | some (some (.cel n))=>(match s.h[n]? with
   | some (some (.ins c gs))=>(match yHS (fl c) f x gs with
    | some gs'=>putAll fl i fs xs ⟨s.e,s.h.set n (some (.ins c gs'))⟩
    | none=>.bad)
   | _=>.bad)
  | _=>.bad
 | _,_=>fun _=>.bad
def jZC (fl:FL) (i:Nat) (fs:List Str) (m:ME):MS:=fun s=>(m s).bind fun v s1=>match v with
 | .tup xs=>putAll fl i fs xs s1
 | _=>.bad
def jVO (K:PySem.W.Frag) (i:Nat):List Str→TGs
 | []=>gNil
 | f :: fs=>gCons (vCS K (tVar i) f) (jVO K i fs)
section
variable {X:Cx} {B:Bs} {N:Ent} {WX:L2.WX} {W:Wd} {s:S} {σ:L2.St} {H:Hp} {fl:FL} {i:Nat} {m:ME} {tg e:Expr} {es:List Expr} {pos:Pos} {k:Nat}
theorem jWH {K:PySem.W.Frag}:PGs X [] (jVO K i []):=pgs_nil
theorem jHG {f:Str} {fs:List Str} {x:Str} {p:Pos} (hN:X.N[i]?=some x) (hv:Vis X.env.scope x) (h2:PGs X es (jVO X.K i fs)) (ha:∀ v,assign (.Attribute (.Name x p) f pos) X.env v=(do
  let ov ← holding [v] (eval (.Name x p) X.env)
  standAt pos.atName
  holding [v,ov] (setAttr ov f v)
  release [v,ov] [])) (hs:(assignEach (.Attribute (.Name x p) f pos :: es) X.env).map (·.2)=assign (.Attribute (.Name x p) f pos) X.env :: (assignEach es X.env).map (·.2)) (hd:(x == ("__debug__" : Str))=false) (hcd:(x == ("__classdict__" : Str))=false) :
  PGs X (.Attribute (.Name x p) f pos :: es) (jVO X.K i (f :: fs)):=pgs_cons (vAE (pe_var hN hv hd hcd) ha) h2 hs
theorem jZV (C:ClsF X.K B fl) {D:Ends}:∀ {fs:List Str} {xs:List PV} {us:List V} {W:Wd} {s:S} {H:Hp},Rel B N W s σ H→Reps B W xs us→PostS B N WX D (putAll fl i fs xs s)→jVO X.K i fs us σ H D.nx
 | [],[],_,W,s,H,r,.nil,h=>⟨rfl,h W σ H r⟩
 | [],_ :: _,_,_,_,_,_,_,h=>h.elim
 | _ :: _,[],_,_,_,_,_,_,h=>h.elim
 | f :: fs,x :: xs,_,W,s,H,r,.cons rx rxs,h=>by
  rename_i x' xs'
  refine ⟨x',xs',rfl,?_⟩
  unfold putAll at h
  split at h
  ·rename_i n en
   split at h
   ·rename_i c gs ec
    split at h
    ·rename_i gs' eg
     obtain ⟨v,ev,sl⟩:=r.env i _ en
     have sl:Rep B W (.cel n) v:=sl
     obtain ⟨a,rfl,em⟩:=jGD (H:=H) sl.hand
     obtain ⟨dx,vs,hH,c1,c2,lz,r3,st⟩:=ySS C r ec em rx eg
     refine ⟨_,ev,a,_,dx,_,rfl,hH,c1,c2,lz,?_⟩
     exact jZV C r3 rxs h
    ·exact h.elim
   ·exact h.elim
  ·exact h.elim
theorem jVV {fs:List Str} (C:ClsF X.K B fl) (hK:X.K=B.K) (hc:X.calm=true) (he:SimE X B N WX e m) (hg:PGs X es (jVO X.K i fs)) (hn:(assignEach es X.env).length=fs.length) (hst:(assignEach es X.env).findIdx? (·.1)=none)
  (hs:swapsWithSole [.Tuple es k pos'] e pos.line X.env=pure false) (hw:swappedStores [.Tuple es k pos'] e X.env=pure none) (h1:(assignEach [.Tuple es k pos'] X.env).map (·.2)=[assign (.Tuple es k pos') X.env]) :
  SimS X B N WX (.Assign [.Tuple es k pos'] e pos) (jZC fl i fs m) :=
 (ps_asg he (pg_tup hc hg hn hst) hs hw h1).imp fun D σ H ⟨W,s,r,h⟩=>⟨W,s,r,h.bindE.mono fun v W1 s1 H1 r1 _ q v' rv=>by
  split at q
  ·rename_i xs
   have rt:Rep B W1 (.tup xs) v':=rv.rep rfl
   obtain ⟨a,us,rfl,h1,ru⟩:=jGY hK r1.hr rt
   have hl:xs.length=fs.length:=by
    clear h1 rt ru rv
    have:∀ {fs:List Str} {xs:List PV} {s:S},PostS B N WX D (putAll fl i fs xs s)→xs.length=fs.length:=by
     intro fs
     induction fs with
     | nil=>intro xs s h; cases xs with
      | nil=>rfl
      | cons _ _=>exact h.elim
     | cons f fs ih=>intro xs s h; cases xs with
      | nil=>exact h.elim
      | cons x xs =>
       unfold putAll at h
       split at h
       ·split at h
        ·split at h
         ·exact congrArg Nat.succ (ih h)
         ·exact h.elim
        ·exact h.elim
       ·exact h.elim
    exact this q
   exact ⟨a,us,rfl,h1,ru.len_of hl,jZV C r1 ru q⟩
  ·exact q.elim⟩
end
structure KBd (K:PySem.W.Frag) (B:Bs) (fd:FuncData) (ps:List Str) (n:Nat) (ks:List Str) (ix:List Nat) (ds:List PV):Prop where
 ex:∃ gW gV,KBn K fd ps n ks gW gV∧∀ (W:Wd) (xs ys:List PV) (vs zs:List V),Reps B W xs vs→Reps B W ys zs→Reps B W (pick ix (xs++ys++ds)) (gV vs zs)
section
variable {K:PySem.W.Frag} {B:Bs} {x qual:Str} {params:Arguments} {body:List Stmt} {scope:Scope} {dvs:List V} {kws:List (Str × V)} {f:Addr} {fd:FuncData} {ps:List Str}
theorem Reps.app {W:Wd}:∀ {xs ys:List PV} {vs us:List V},Reps B W xs vs→Reps B W ys us→Reps B W (xs++ys) (vs++us)
 | [],_,_,_,.nil,r=>r
 | _ :: _,_,_,_,.cons h t,r=>.cons h (Reps.app t r)
theorem yCL (F:FunD K x qual params body scope dvs kws f fd) (n:Nat) (ks:List Str) (ms:List (Str × V)) (ix:List Nat) (ds:List PV) (hd:dvs≠[]) (hk:kws≠[]) (hms:∀ q∈ms,q∈kws) (hds:∀ W,Reps B W ds (dvs++ms.map (·.2)))
  (h:∀ (T D:Addr) (doc pm:Value) (an:Option Addr) (cdv ct:Value) (us its mv ws:List Value),us.length=n→its.length=dvs.length→mv.length=ms.length→ws.length=ks.length →
   ∃ k,bindArgs (PySem.W.fnOf x qual params body scope (.ref T) (.ref D) doc pm an cdv ct) ⟨us,ks.zip ws⟩=seqItems? (.ref T) >>= k∧KwChain D ((ms.map (·.1)).zip mv) (k (some its.toArray)) (ps.zip (pick ix (us++ws++(its++mv))))):KBd K B fd ps n ks ix ds:=by
 obtain ⟨its,mv,H⟩:=F.kbinds n ks ms (fun us its mv ws=>pick ix (us++ws++(its++mv))) hd hk hms (fun r1 r2 r3 r4=>jIT ((r1.append r4).append (r2.append r3)) ix) h
 exact ⟨_,_,H,fun W xs ys vs zs r1 r2=>jGO ((r1.app r2).app (hds W)) ix⟩
theorem jZG (F:FunD K x qual params body scope [] kws f fd) (n:Nat) (ks:List Str) (ms:List (Str × V)) (ix:List Nat) (ds:List PV) (hk:kws≠[]) (hms:∀ q∈ms,q∈kws) (hds:∀ W,Reps B W ds (ms.map (·.2)))
  (h:∀ (D:Addr) (doc pm:Value) (an:Option Addr) (cdv ct:Value) (us mv ws:List Value),us.length=n→mv.length=ms.length→ws.length=ks.length →
   KwChain D ((ms.map (·.1)).zip mv) (bindArgs (PySem.W.fnOf x qual params body scope .none (.ref D) doc pm an cdv ct) ⟨us,ks.zip ws⟩) (ps.zip (pick ix (us++ws++mv)))):KBd K B fd ps n ks ix ds:=by
 obtain ⟨oc,od,dV,kV,doc,pm,an,cdv,ct,osl,rfl,lk,hcd,hD,hK⟩:=F.ex
 rcases hD with ⟨_,rfl⟩ | ⟨e,_⟩
 ·rcases hK with e | ⟨D,rfl,hq⟩
  ·exact absurd e hk
  ·obtain ⟨mv,hl,rk,hks⟩:=kwd_vals (ms:=ms) fun q hm=>hq q (hms q hm)
   refine ⟨fun us ws=>pick ix (us++ws++mv),fun vs zs=>pick ix (vs++zs++ms.map (·.2)),⟨fun s us ws X l1 l2=>?_,fun r1 r2=>jIT ((r1.append r2).append rk) ix⟩,fun W xs ys vs zs r1 r2=>jGO ((r1.app r2).app (hds W)) ix⟩
   exact BindsTo.of_looks fun M=>KwChain.looks X hks (h D doc pm an cdv ct us mv ws l1 hl l2)
 ·exact absurd rfl e
theorem yUA (F:FunD K x qual params body scope [] kws f fd) (n:Nat) (ks:List Str) (ix:List Nat)
  (h:∀ (kV doc pm:Value) (an:Option Addr) (cdv ct:Value) (us ws:List Value),us.length=n→ws.length=ks.length→bindArgs (PySem.W.fnOf x qual params body scope .none kV doc pm an cdv ct) ⟨us,ks.zip ws⟩=pure (ps.zip (pick ix (us++ws)))):KBd K B fd ps n ks ix [] :=
 ⟨_,_,yIY F h,fun W xs ys vs zs r1 r2=>by rw [List.append_nil]; exact jGO (r1.app r2) ix⟩
end
theorem MkC.of {P:Program} {w:World} {K:PySem.W.Frag} {mg:Str→Option Value} {base:Heap} {B:Bs} {k c n0 n:Nat} {x:Str} {ks ps:List Str} {ix:List Nat} {ds:List PV} {m:MF} {f:Addr} {fd:FuncData} (M:Mk K (B.cad c) f) (F:FnOk P w K mg base (L2.CX P w) k f fd ps (spF B n m)) (hm:mg x=some (.ref (B.cad c))) (b:KBd K B fd ps (n0+1) ks ix ds) :
  MkC P w K mg base B k x c n0 ks (fun xs ys=>pick ix (xs++ys++ds)) n m:=let ⟨gW,gV,h1,h2⟩:=b.ex; ⟨f,fd,ps,gW,gV,M,F,hm,h1,h2⟩
theorem Me.of {P:Program} {w:World} {K:PySem.W.Frag} {mg:Str→Option Value} {base:Heap} {B:Bs} {k c n0 n:Nat} {x:Str} {ks ps:List Str} {ix:List Nat} {ds:List PV} {m:MF} {f:Addr} {fd:FuncData} (M:Meth K (B.cad c) x f) (F:FnOk P w K mg base (L2.CX P w) k f fd ps (spF B n m)) (b:KBd K B fd ps (n0+1) ks ix ds) :
  Me P w K mg base B k c x n0 ks (fun xs ys=>pick ix (xs++ys++ds)) n m:=let ⟨gW,gV,h1,h2⟩:=b.ex; ⟨f,fd,ps,gW,gV,M,F,h1,h2⟩
end Lp
set_option maxHeartbeats 4000000
namespace Lp
open PySem PySem.Spec PyProof.Rows L2 LamX NdefX
theorem yHD {K:PySem.W.Frag} {a:Addr} {l:List (Option (Str × Int))} (h:He.dicW K a=some l):∃ oc od es n sl,K.lookup a=some ⟨oc,od,.dict es n,sl⟩∧es.toList.map He.keyOf=l:=by
 unfold He.dicW at h
 split at h
 ·rename_i q
  split at h
  ·exact ⟨_,_,_,_,_,q,Option.some.inj h⟩
  ·cases h
 ·cases h
theorem key_of {e:DictEntry} {k:Str} {i:Int} (h:He.keyOf e=some (k,i)):∃ t,e.key=.str k t:=by
 unfold He.keyOf at h
 split at h
 ·rename_i x t q
  cases h
  exact ⟨t,q⟩
 ·cases h
theorem ySH {K:PySem.W.Frag} {a:Addr} {P:Params} {ks:List Str} {z:Str} (h:He.dicW K a=some (He.keysIn P ks)) (hz:z∉ks):PySem.W.nsIn K a z=some none:=by
 obtain ⟨oc,od,es,n,sl,q,e⟩:=yHD h
 have all:∀ d∈es.toList,∃ k∈ks,∃ t,d.key=.str k t:=fun d hd=>by
  have:He.keyOf d∈He.keysIn P ks:=by rw [← e]; exact List.mem_map.mpr ⟨d,hd,rfl⟩
  obtain ⟨k,hk,ek⟩:=List.mem_map.mp this
  obtain ⟨t,et⟩:=key_of ek.symm
  exact ⟨k,hk,t,et⟩
 have f0:es.toList.find? (·.key.isStr z)=none:=List.find?_eq_none.mpr fun d hd z2=>by
  obtain ⟨k,hk,t,et⟩:=all d hd
  rw [et] at z2
  have:k=z:=by simpa [Value.isStr] using z2
  exact hz (this ▸ hk)
 have f1:es.toList.any (·.refKey)=false:=List.any_eq_false.mpr fun d hd z2=>by
  obtain ⟨k,hk,t,et⟩:=all d hd
  simp [DictEntry.refKey,et] at z2
 unfold PySem.W.nsIn
 rw [q]
 dsimp only
 rw [f0,f1]
 rfl
structure DicC (K:PySem.W.Frag) (w:World) (mg:Str→Option Value) (x:Str) (kv:List (Str × Str)):Prop where
 ex:∃ d es n,mg x=some (.ref d)∧KDict K w d es n∧(∀ z,z∉kv.map (·.1)→PySem.W.nsIn K d z=some none)∧∀ q∈kv,∃ u,PySem.W.nsIn K d q.1=some (some u)∧RelV (.str q.2) u
theorem yTB {K:PySem.W.Frag} {w:World} {mg:Str→Option Value} {x:Str} {kv:List (Str × Str)} {a:Addr} (hm:mg x=some (.ref a)) (h:He.dicW K a=some (He.keysIn w.params (kv.map (·.1)))) (b:yUT K a kv=true):DicC K w mg x kv:=by
 obtain ⟨es,n,D⟩:=He.dicW_ok h
 refine ⟨a,es,n,hm,D,fun z hz=>ySH h hz,fun q hq=>?_⟩
 obtain ⟨u,e,r⟩:=He.valsB_ok b (q:=(q.1,He.Dv.str q.2)) (List.mem_map.mpr ⟨q,hq,rfl⟩)
 exact ⟨u,e,r⟩
def yMI (neg:Bool) (kv:List (Str × Str)) (mx:ME):ME:=fun s=>(mx s).bind fun v s1=>match v with
 | .str z=>.ok (.bl (neg ^^ decide (z∈kv.map (·.1)))) s1
 | _=>.bad
def yUS (kv:List (Str × Str)) (mx:ME):ME:=fun s=>(mx s).bind fun v s1=>match v with
 | .str z=>(match kv.lookup z with
  | some y=>.ok (.str y) s1
  | none=>.bad)
 | _=>.bad
section
variable {X:Cx} {B:Bs} {N:Ent} {WX:L2.WX} {e:Expr} {mx:ME} {x:Str} {kv:List (Str × Str)} {p pos:Pos} {es:Array DictEntry} {n:Nat} {d:Addr}
theorem mem_lookup {z y:Str}:∀ {l:List (Str × Str)},l.lookup z=some y→(z,y)∈l
 | [],e=>by cases e
 | (a1,a2) :: l,e=>by
  rw [List.lookup_cons] at e
  split at e
  ·rename_i z2
   cases e
   rw [beq_iff_eq.mp z2]
   exact List.mem_cons_self
  ·exact List.mem_cons_of_mem _ (mem_lookup e)
theorem yLC {K:PySem.W.Frag} (h0:∀ z,z∉kv.map (·.1)→PySem.W.nsIn K d z=some none) (h1:∀ q∈kv,∃ u,PySem.W.nsIn K d q.1=some (some u)∧RelV (.str q.2) u) (z:Str):∃ r,PySem.W.nsIn K d z=some r∧r.isSome=decide (z∈kv.map (·.1)):=by
 by_cases hz:z∈kv.map (·.1)
 ·obtain ⟨q,hq,rfl⟩:=List.mem_map.mp hz
  obtain ⟨u,e,_⟩:=h1 q hq
  exact ⟨_,e,by rw [decide_eq_true hz]; rfl⟩
 ·exact ⟨_,h0 z hz,by rw [decide_eq_false hz]; rfl⟩
theorem yQW (D:DicC X.K X.w X.mg x kv) (hg:Gl X x) (he:SimE X B N WX e mx) (hm:behindInMarks .In (.Name x p)=false) (hdb:(x == ("__debug__" : Str))=false):SimE X B N WX (.Compare e [.In] [.Name x p] pos) (yMI false kv mx):=by
 obtain ⟨d,es,n,hmg,KD,h0,h1⟩:=D.ex
 refine (pe_cmpR (op_in_kd KD) he (pe_glob (v:=.ref d) hg hmg rfl hdb) hm).imp fun σ H Q ⟨W,s,r,h⟩=>⟨W,s,r,(h.bind r.slen).mono fun v W1 s1 H1 r1 _ q v' rv=>?_⟩
 split at q
 ·rename_i z
  cases (show Rep B W1 (.str z) v' from rv)
  obtain ⟨r2,e2,e3⟩:=yLC h0 h1 z
  refine ⟨z,r2,rfl,rfl,e2,?_⟩
  rw [e3]
  have q2:=q.ok r1 _ (Rep.bl (B:=B) (W:=W1) (false ^^ decide (z∈kv.map (·.1)))).hand
  rw [Bool.false_xor] at q2
  exact q2
 ·exact q.elim
theorem yUB (D:KDict X.K X.w d es n):IxR X (fun x y H Q=>∃ (z:Str) (u0:Value) (v0:V),x=.ref d∧y=.str z∧PySem.W.nsIn X.K d z=some (some u0)∧RelV v0 u0∧Q v0 H):=by
 intro value slice pins s σ H x y v u Q I rx ry h hs
 have o:=op_item_kd D pins s σ H x y v u Q I rx ry h
 obtain ⟨z,u0,v0,rfl,rfl,e,r,q⟩:=h
 cases rx
 exact tail_any (kd_type D I) slot_dict_getitem.lookup o hs
theorem yEP (D:DicC X.K X.w X.mg x kv) (hg:Gl X x) (he:SimE X B N WX e mx) (hsk:∀ q∈kv,SOk q.2) (hdb:(x == ("__debug__" : Str))=false) (hs:PlainIx e):SimE X B N WX (.Subscript (.Name x p) e pos) (yUS kv mx):=by
 obtain ⟨d,es,n,hmg,KD,h0,h1⟩:=D.ex
 refine (pe_ix (yUB KD) (pe_glob (v:=.ref d) hg hmg rfl hdb) he hs).imp fun σ H Q ⟨W,s,r,h⟩=>⟨W,s,r,(h.bind r.slen).mono fun v W1 s1 H1 r1 _ q v' rv=>?_⟩
 split at q
 ·rename_i z
  cases (show Rep B W1 (.str z) v' from rv)
  split at q
  ·rename_i y ey
   have hm:=mem_lookup ey
   obtain ⟨u,e1,e2⟩:=h1 _ hm
   exact ⟨z,u,.str y,rfl,rfl,e1,e2,q.ok r1 _ (Rep.str (B:=B) (W:=W1) y (hsk _ hm)).hand⟩
  ·exact q.elim
 ·exact q.elim
end
structure CTup (K:PySem.W.Frag) (C:Addr) (f:Str) (vs:List V):Prop where
 ex:∃ T o its n,ClX.CRead K C (.type "type")∧ClX.CVal K C (.type "type") f (.ref T) (.ref T)∧K.lookup T=some o∧o.cls=.type "tuple" ∧ o.data=.seq its n∧its.size≤sizeLine∧Vals vs its.toList
theorem yLW {K:PySem.W.Frag} {C:Addr} {f:Str} {vs:List He.Dv} (h:yED K C f vs=true):CTup K C f (vs.map (He.Dv.v K)):=by
 unfold yED at h
 obtain ⟨h1,h2⟩:=Bool.and_eq_true_iff.mp h
 obtain ⟨h2,h3⟩:=Bool.and_eq_true_iff.mp h2
 split at h3
 ·rename_i T q
  split at h3
  ·rename_i c od its n sl q2
   obtain ⟨g1,g2⟩:=Bool.and_eq_true_iff.mp h3
   obtain ⟨g3,g4⟩:=Bool.and_eq_true_iff.mp g2
   exact ⟨T,_,its,n,⟨h1,of_decide_eq_true h2⟩,⟨q,rfl⟩,q2,congrArg Value.type (of_decide_eq_true g1),rfl,of_decide_eq_true g3,He.relAll_ok g4⟩
  ·cases h3
 ·cases h3
section
variable {X:Cx} {B:Bs} {N:Ent} {WX:L2.WX} {x f:Str} {C:Addr} {p pos:Pos} {xs:List PV} {vs:List V}
theorem yJX (hK:X.K=B.K) (c:CTup X.K C f vs) (hg:Gl X x) (hm:X.mg x=some (.ref C)) (hr:∀ W,Reps B W xs vs) (hb:attributeBase (.Name x p) f X.env (eval (.Name x p) X.env)=eval (.Name x p) X.env) (hdb:(x == ("__debug__" : Str))=false):SimE X B N WX (.Attribute (.Name x p) f pos) (eC (.tup xs)):=by
 obtain ⟨T,o,its,n,h1,h2,h3,h4,h5,h6,h7⟩:=c.ex
 refine jSA (v:=.ref T) ((ClX.pe_cval (pe_glob (v:=.ref C) hg hm rfl hdb) hb).imp fun σ H Q q=>⟨C,_,_,_,rfl,h1,h2,q⟩) fun W=>.tup (.inr ⟨o,its,n,hK ▸ h3,h4,h5,h6,h7⟩) (hr W)
end
end Lp
set_option maxHeartbeats 4000000
namespace Lp
open PySem PySem.Spec PyProof.Rows L2 LamX NdefX
abbrev TrP:Type:=PV × V × PyData
theorem yFJ {β:Type} {f:β→V}:∀ {bs:List β} {us:List Value},Vals (bs.map f) us→PySem.W.EachIs (fun v p=>RelV (f p) v) us bs
 | [],_,.nil=>.nil
 | _ :: _,_,.cons h t=>.cons h (yFJ t)
theorem jOU {β:Type} {f:β→V}:∀ {bs:List β} {us:List Value},PySem.W.EachIs (fun v p=>RelV (f p) v) us bs→Vals (bs.map f) us
 | [],_,.nil=>.nil
 | _ :: _,_,.cons h t=>.cons h (jOU t)
def encP (x:PV):PyData:=(toD x).getD .none
def leP (a b:PV):Bool:=PySem.W.dataLe false encP a b
def vCJ (ds:List PyData):Bool:=ds.all fun d=>ds.all fun e=>PySem.W.alike d e
def tupB:PyData→Bool
 | .tuple (_ :: _)=>true
 | _=>false
def vEO:PyData→Bool
 | .none=>false
 | .tuple _=>false
 | _=>true
def vDG (ds:List PyData):Bool:=(vCJ ds&&(ds.all tupB||ds.all vEO))&&(ds.all dOk&&decide (ds.length≤16777216))
end Lp
set_option maxHeartbeats 4000000
namespace Lp
open PySem PySem.Spec PyProof.Rows L2 LamX NdefX
structure SMet (K:PySem.W.Frag) (C:Addr) (m:Str) (p g:Addr):Prop where
 rd:ClX.CRead K C (.type "type")
 at_:PySem.W.findCls K (.ref C) (.type "type") m=some (.get (.builtin "staticmethod.__get__") (.ref p) .none (.ref C))
 rc:∃ rest,PySem.W.recIn K p "staticmethod" = some (.ref g :: rest)
 kp:PySem.W.keepIn K (.ref g)=true
structure SmK (P:Program) (w:World) (K:PySem.W.Frag) (mg:Str→Option Value) (base:Heap) (B:Bs) (k:Nat) (x m:Str) (n0:Nat) (ks:List Str) (ix:List Nat) (n:Nat) (mf:MF):Prop where
 ex:∃ f fd ps p C,FnOk P w K mg base (L2.CX P w) k f fd ps (spF B n mf)∧mg x=some (.ref C)∧SMet K C m p f∧KBn K fd ps n0 ks (fun us ws=>pick ix (us++ws)) fun vs zs=>pick ix (vs++zs)
theorem SmK.mono {P:Program} {w:World} {K:PySem.W.Frag} {mg:Str→Option Value} {base:Heap} {B:Bs} {j k:Nat} {x m:Str} {n0:Nat} {ks:List Str} {ix:List Nat} {n:Nat} {mf:MF} (F:SmK P w K mg base B j x m n0 ks ix n mf) (h:j≤k):SmK P w K mg base B k x m n0 ks ix n mf :=
 let ⟨f,fd,ps,p,C,a,b⟩:=F.ex
 ⟨f,fd,ps,p,C,a.mono h,b⟩
end Lp
set_option maxHeartbeats 4000000
namespace Lp
open PySem PySem.Spec PyProof.Rows L2 LamX NdefX
structure MkA (P:Program) (w:World) (K:PySem.W.Frag) (mg:Str→Option Value) (base:Heap) (B:Bs) (k:Nat) (x:Str) (c n0:Nat) (ks:List Str) (ix:List Nat) (ds:List PV) (n:Nat) (m:MF):Prop where
 ex:∃ j,j+1≤k∧MkC P w K mg base B j x c n0 ks (fun xs ys=>pick ix (xs++ys++ds)) n m
theorem MkA.mono {P:Program} {w:World} {K:PySem.W.Frag} {mg:Str→Option Value} {base:Heap} {B:Bs} {i k:Nat} {x:Str} {c n0:Nat} {ks:List Str} {ix:List Nat} {ds:List PV} {n:Nat} {m:MF} (F:MkA P w K mg base B i x c n0 ks ix ds n m) (h:i≤k):MkA P w K mg base B k x c n0 ks ix ds n m :=
 let ⟨j,hj,a⟩:=F.ex
 ⟨j,Nat.le_trans hj h,a⟩
abbrev MeA (P:Program) (w:World) (K:PySem.W.Frag) (mg:Str→Option Value) (base:Heap) (B:Bs) (k:Nat) (c:Nat) (x:Str) (n0:Nat) (ks:List Str) (ix:List Nat) (ds:List PV) (n:Nat) (m:MF):Prop:=Me P w K mg base B k c x n0 ks (fun xs ys=>pick ix (xs++ys++ds)) n m
noncomputable def jUL (c n0 nk:Nat) (ix:List Nat) (ds:List PV) (n:Nat) (m:MF) (ma mk:MA):ME:=eMk true c n0 nk n (fun xs ys=>pick ix (xs++ys++ds)) m ma mk
def jNY (c n0 nk:Nat) (ix:List Nat) (ds:List PV) (n:Nat) (m:MF) (mo:ME) (ma mk:MA):ME:=eMe c n0 nk n (fun xs ys=>pick ix (xs++ys++ds)) m mo ma mk
structure ClM (K:PySem.W.Frag) (B:Bs) (c:Nat) (ms:List Str):Prop where
 cls:Cls K (B.cad c)
 no:∀ m∈ms,m∉B.fld c
section
variable {X:Cx} {B:Bs} {N:Ent} {E:XK} {e o:Expr} {es:List Expr} {mo:ME} {ma mk:MA} {p pos apos:Pos} {x:Str} {k n n0 nk c:Nat} {m:MF} {kws:List Keyword} {ks ms:List Str} {ix:List Nat} {ds:List PV}
theorem yEM (F:MkA X.prog X.w X.K X.mg X.base B k x c n0 ks ix ds n m) (tk:Takes X fun c d _ H=>E c d H) (hr:Room k X.A) (hg:Gl X x) (ha:SimA X B N (fun c d _ H=>E c d H) (e :: es) ma) (hkw:SimK X B N (fun c d _ H=>E c d H) kws mk) (hl:ks.length=nk)
  (hall:(backToKw pos (keywordEach kws X.env)).all (·.1.isSome)=true) (hks:(backToKw pos (keywordEach kws X.env)).filterMap (·.1)=ks) (hdb:(x == ("__debug__" : Str))=false)
  (he:starEach (e :: es) X.env=(false,eval e X.env) :: starEach es X.env) (hpl:((backTo pos (starEach (e :: es) X.env)).any (·.1)||(backToKw pos (keywordEach kws X.env)).any (·.1.isNone))=false) :
  SimE X B N (fun c d _ H=>E c d H) (.Call (.Name x p) (e :: es) kws pos) (jUL c n0 nk ix ds n m ma mk) :=
 let ⟨_,hj,F⟩:=F.ex
 yZL F tk (hr.mono hj) hg ha hkw hl hall hks hdb he hpl
theorem jON (F:MkA X.prog X.w X.K X.mg X.base B k x c 0 ks ix ds n m) (tk:Takes X fun c d _ H=>E c d H) (hr:Room k X.A) (hg:Gl X x) (hkw:SimK X B N (fun c d _ H=>E c d H) kws mk) (hl:ks.length=nk)
  (hall:(backToKw pos (keywordEach kws X.env)).all (·.1.isSome)=true) (hks:(backToKw pos (keywordEach kws X.env)).filterMap (·.1)=ks) (hdb:(x == ("__debug__" : Str))=false)
  (hpl:((backTo pos (starEach [] X.env)).any (·.1)||(backToKw pos (keywordEach kws X.env)).any (·.1.isNone))=false) :
  SimE X B N (fun c d _ H=>E c d H) (.Call (.Name x p) [] kws pos) (jUL c 0 nk ix ds n m jN mk) :=
 let ⟨_,hj,F⟩:=F.ex
 yQU F tk (hr.mono hj) hg hkw hl hall hks hdb hpl
theorem jRR {pl:Sem Bool} (F:MeA X.prog X.w X.K X.mg X.base B k c x n0 ks ix ds n m) (C:ClM X.K B c ms) (hx:x∈ms) (tk:Takes X fun c d _ H=>E c d H) (hr:Room k X.A) (ho:SimE X B N (fun c d _ H=>E c d H) o mo)
  (ha:SimA X B N (fun c d _ H=>E c d H) (e :: es) ma) (hkw:SimK X B N (fun c d _ H=>E c d H) kws mk) (hl:ks.length=nk)
  (hall:(backToKw pos (keywordEach kws X.env)).all (·.1.isSome)=true) (hks:(backToKw pos (keywordEach kws X.env)).filterMap (·.1)=ks) (he:starEach (e :: es) X.env=(false,eval e X.env) :: starEach es X.env)
  (hpl:((backTo pos (starEach (e :: es) X.env)).any (·.1)||(backToKw pos (keywordEach kws X.env)).any (·.1.isNone))=false)
  (ht:eval (.Call (.Attribute o x apos) (e :: es) kws pos) X.env=(do
   let ov ← eval o X.env
   standAt apos.atName
   let (f,first) ← holding [ov] (getMethod ov x pl)
   callWith pos f first (backTo pos (starEach (e :: es) X.env)) (backToKw pos (keywordEach kws X.env)))):SimE X B N (fun c d _ H=>E c d H) (.Call (.Attribute o x apos) (e :: es) kws pos) (jNY c n0 nk ix ds n m mo ma mk) :=
 yZM F C.cls (C.no x hx) tk hr ho ha hkw hl hall hks he hpl ht
theorem jIQ {pl:Sem Bool} (F:MeA X.prog X.w X.K X.mg X.base B k c x 0 ks ix ds n m) (C:ClM X.K B c ms) (hx:x∈ms) (tk:Takes X fun c d _ H=>E c d H) (hr:Room k X.A) (ho:SimE X B N (fun c d _ H=>E c d H) o mo)
  (hkw:SimK X B N (fun c d _ H=>E c d H) kws mk) (hl:ks.length=nk)
  (hall:(backToKw pos (keywordEach kws X.env)).all (·.1.isSome)=true) (hks:(backToKw pos (keywordEach kws X.env)).filterMap (·.1)=ks)
  (hpl:((backTo pos (starEach [] X.env)).any (·.1)||(backToKw pos (keywordEach kws X.env)).any (·.1.isNone))=false)
  (ht:eval (.Call (.Attribute o x apos) [] kws pos) X.env=(do
   let ov ← eval o X.env
   standAt apos.atName
   let (f,first) ← holding [ov] (getMethod ov x pl)
   callWith pos f first (backTo pos (starEach [] X.env)) (backToKw pos (keywordEach kws X.env)))):SimE X B N (fun c d _ H=>E c d H) (.Call (.Attribute o x apos) [] kws pos) (jNY c 0 nk ix ds n m mo jN mk) :=
 yQV F C.cls (C.no x hx) tk hr ho hkw hl hall hks hpl ht
end
theorem yEL {kv:List (Str × Str)} (h:kv.all (fun q=>vCL q.2)=true):∀ q∈kv,SOk q.2:=fun q hq=>jJ (List.all_eq_true.mp h q hq)
end Lp
set_option maxHeartbeats 4000000
namespace Lp
open PySem PySem.Spec PyProof.Rows L2 LamX NdefX
def yIR (ds:List PyData) (d:PyData):Option Nat:=ds.findIdx? fun z=>PyData.eqv z d
def yUQ (mo:ME) (ma:MA):ME:=fun s=>(mo s).bind fun o s1=>match o with
 | .lst xs=>(ma s1).bind fun vs s2=>(match vs with
  | [y]=>(match toDs xs,toD y with
   | some ds,some d=>if dOk (.list ds)&&dOk d then (match yIR ds d with
    | some j=>.ok (.int (j:Nat)) s2
    | none=>.bad) else .bad
   | _,_=>.bad)
  | _=>.bad)
 | _=>.bad
section
variable {X:Cx} {B:Bs} {N:Ent} {WX:L2.WX} {o e:Expr} {es:List Expr} {mo:ME} {ma:MA} {apos cpos:Pos}
theorem yKN {ds:List PyData} {d:PyData} {j:Nat} (h:yIR ds d=some j):∃ z,ds[j]?=some z∧PyData.eqv z d=true∧∀ (m:Nat) (z':PyData),m < j→ds[m]?=some z'→PyData.eqv z' d=false:=by
 obtain ⟨hj,h1,h2⟩:=List.findIdx?_eq_some_iff_getElem.mp h
 refine ⟨ds[j],List.getElem?_eq_getElem hj,h1,fun m z' hm e=>?_⟩
 obtain ⟨hm2,rfl⟩:=List.getElem?_eq_some_iff.mp e
 simpa using h2 m hm
theorem yEN (hK:X.K=B.K) (hr:U9 X.A) (ho:SimE X B N WX o mo) (ha:SimA X B N WX (e :: es) ma) (hbase:attributeBase o "index" X.env (eval o X.env)=eval o X.env)
  (hfew:((backTo cpos (starEach (e :: es) X.env)).all (fun x=>!x.1)&&(backToKw cpos (keywordEach [] X.env)).all (fun x=>x.1.isSome)
   && decide ((e :: es).length+([]:List Keyword).length+(if ([]:List Keyword).isEmpty then 0 else 1) < 30))=true)
  (hline:(apos.endLine == cpos.line)=true) (hs:starEach (e :: es) X.env=(false,eval e X.env) :: starEach es X.env) (hplain:(backTo cpos (starEach es X.env)).any (·.1)=false) :
  SimE X B N WX (.Call (.Attribute o "index" apos) (e :: es) [] cpos) (yUQ mo ma) :=
 (pe_bm PySem.F.plainAttrs_list PySem.F.slot_list_index PySem.F.type_list_index (mt_indexD (by have hr:X.A.units+200 < cLine:=hr; omega)) ho ha hbase hfew hline hs hplain).imp fun σ H Q ⟨W,s,r0,h⟩=>⟨W,s,r0,(h.bind r0.slen).mono fun o1 W1 s1 H1 r1 _ q o' ro=>by
  split at q
  ·rename_i xs
   cases (show Rep B W1 (.lst xs) o' from ro) with
   | lst hF rs =>
    rename_i a vs0
    refine ⟨.inl ⟨rfl,vs0,.inl (.inl (r1.hr.agree _ _ hF))⟩,W1,s1,r1,(q.bind r1.slen).mono fun vs W2 s2 H2 r2 st2 q vs' rvs=>?_⟩
    split at q
    ·rename_i y
     obtain ⟨v,rfl,rv⟩:=repts1 rvs
     split at q
     ·rename_i ds d ed ey
      split at q
      ·rename_i hz
       split at q
       ·rename_i j ej
        obtain ⟨z1,z2⟩:=Bool.and_eq_true_iff.mp hz
        have rl:Rep B W2 (.lst xs) (.ref a):=(Rep.lst hF rs).mono st2.st.le
        have el:toD (.lst xs)=some (.list ds):=by show (toDs xs).map _=_; rw [ed]; rfl
        obtain ⟨a1,a2⟩:=jSL hK r2.hr rl el
        have oy:isOwn y=false:=by cases y <;> first | rfl | cases ey
        obtain ⟨b1,b2⟩:=jSL hK r2.hr (rv.rep oy) ey
        obtain ⟨z,p1,p2,p3⟩:=yKN ej
        exact ⟨a,v,d,ds,j,z,rfl,rfl,a1,b1,qI a2 z1,qI b2 z2,p1,p2,p3,q.ok r2 _ (Rep.int _).hand⟩
       ·exact q.elim
      ·exact q.elim
     ·exact q.elim
    ·exact q.elim
  ·exact q.elim⟩
end
end Lp
set_option maxHeartbeats 4000000
namespace Lp
open PySem PySem.Spec PyProof.Rows L2 LamX NdefX
def vCV (m:ME):ME:=fun s=>(m s).bind fun v s1=>match v with
 | .int i=>.ok (.int (-i)) s1
 | _=>.bad
section
variable {X:Cx} {B:Bs} {N:Ent} {WX:L2.WX} {e:Expr} {m:ME} {k:Nat} {p1 p2 p3 pos:Pos}
theorem yQT (he:SimE X B N WX e m):SimE X B N WX (.UnaryOp .USub e pos) (vCV m) :=
 (pe_un un_neg he).imp fun σ H Q ⟨W,s,r,h⟩=>⟨W,s,r,(h.bind r.slen).mono fun v W1 s1 H1 r1 _ q v' rv=>by
  split at q
  ·rename_i i
   cases (show Rep B W1 (.int i) v' from rv)
   exact ⟨i,rfl,q.ok r1 _ (Rep.int _).hand⟩
  ·exact q.elim⟩
end
end Lp
set_option maxHeartbeats 4000000
namespace Lp
open PySem PySem.Spec PyProof.Rows L2
@[irreducible] def yHX (neg:Bool) (kv:List (Str × Str)) (m:ME):ME:=yMI neg kv m
@[irreducible] def jQG (fl:FL) (f:Str) (m:ME):ME:=jFQ fl f m
@[irreducible] noncomputable def jQE (c n0 nk:Nat) (ix:List Nat) (ds:List PV) (n:Nat) (m:MF) (ma mk:MA):ME:=jUL c n0 nk ix ds n m ma mk
@[irreducible] def jQF (c n0 nk:Nat) (ix:List Nat) (ds:List PV) (n:Nat) (m:MF) (mo:ME) (ma mk:MA):ME:=jNY c n0 nk ix ds n m mo ma mk
@[irreducible] def jWT (fl:FL) (i:Nat) (fs:List Str) (m:ME):MS:=jZC fl i fs m
section
variable {P:PV→S→Prop} {PF:Fl→S→Prop} {E:PV→S→Prop} {s:S} {m mo:ME} {ma mk:MA} {i j c n n0 nk:Nat} {ix:List Nat} {ds:List PV} {kv:List (Str × Str)} {neg:Bool} {fl:FL} {f:Str} {fs:List Str} {mf:MF} {ms:MS}
theorem vDL (h:(m s).post (fun v s1=>∃ z,v=.str z∧P (.bl (neg ^^ decide (z∈kv.map (·.1)))) s1) E):(yHX neg kv m s).post P E:=by
 unfold yHX yMI
 exact jY (p_mono h (fun v s1 ⟨z,e,q⟩=>by subst e; exact q) fun _ _ z=>z)
theorem jSB (h:(m s).post (fun v s1=>∃ u,yUP fl f s1.h v=some u∧P u s1) E):(jQG fl f m s).post P E:=by
 unfold jQG jFQ
 exact jY (p_mono h (fun v s1 ⟨u,e,q⟩=>by simp only [e]; exact q) fun _ _ z=>z)
theorem jVJ (h:(ma s).post (fun vs s1=>(mk s1).post (fun zs s2=>((vs.length=n0∧zs.length=nk)∧vM vs=true∧vM zs=true)∧((pick ix (([.cel s2.h.length]++vs)++zs++ds)).length=n∧vM (pick ix (([.cel s2.h.length]++vs)++zs++ds))=true) ∧
  (mf (pick ix (([.cel s2.h.length]++vs)++zs++ds)) (s2.h++[some (.ins c [])])).post (fun v h2=>v=.non∧∃ gs,h2=s2.h++[some (.ins c gs)]∧celsB s2.h.length gs=true∧P (.ins c gs) s2) (fun y h2=>(∃ C,h2=s2.h++[some C])∧jRX s2.h.length y=true∧E y s2)) E) E):(jQE c n0 nk ix ds n mf ma mk s).post P E:=by
 unfold jQE jUL eMk
 refine jY (p_mono h (fun vs s1 q=>jY (p_mono q (fun zs s2 ⟨h1,h2,q⟩=>?_) fun _ _ z=>z)) fun _ _ z=>z)
 simp only [if_pos h1]
 unfold mkH
 rw [if_pos h2]
 cases e:mf (pick ix (([.cel s2.h.length]++vs)++zs++ds)) (s2.h++[some (.ins c [])]) with
 | ok v h2 =>
  rw [e] at q
  obtain ⟨rfl,gs,rfl,cg,q⟩:=q
  simp only [if_pos]
  rw [if_pos ⟨gs,rfl,cg⟩,List.getElem?_append_right (Nat.le_refl _),Nat.sub_self]
  exact q
 | exc y h2 =>
  rw [e] at q
  obtain ⟨q1,q2,q3⟩:=q
  simp only [if_pos (And.intro q1 q2)]
  exact q3
 | bad=>rw [e] at q; exact q.elim
theorem jVK (h:(mo s).post (fun o s1=>(clsOf s1.h o=some c∧isOwn o=false)∧(ma s1).post (fun vs s2=>(mk s2).post (fun zs s3=>((vs.length=n0∧zs.length=nk)∧vM vs=true∧vM zs=true)∧((pick ix ((o :: vs)++zs++ds)).length=n∧vM (pick ix ((o :: vs)++zs++ds))=true) ∧
  (mf (pick ix ((o :: vs)++zs++ds)) s3.h).post (fun v h=>P v ⟨s3.e,h⟩) (fun x h=>E x ⟨s3.e,h⟩)) E) E) E):(jQF c n0 nk ix ds n mf mo ma mk s).post P E:=by
 unfold jQF jNY eMe
 refine jY (p_mono h (fun o s1 ⟨⟨h0,h1⟩,q⟩=>?_) fun _ _ z=>z)
 simp only [h0]
 rw [if_pos ⟨trivial,h1⟩]
 refine jY (p_mono q (fun vs s2 q=>jY (p_mono q (fun zs s3 ⟨h1,h2,q⟩=>?_) fun _ _ z=>z)) fun _ _ z=>z)
 simp only [if_pos h1]
 have:=jRT (n:=n) (mf:=mf) (vs:=pick ix ((o :: vs)++zs++ds)) (s:=s3) (P:=P) (E:=E) ⟨h2,q⟩
 unfold jPH at this
 exact this
theorem yIT (h:(m s).post (fun v s1=>∃ xs,v=.tup xs∧(putAll fl i fs xs s1).post PF E) E):(jWT fl i fs m s).post PF E:=by
 unfold jWT jZC
 exact jY (p_mono h (fun v s1 ⟨xs,e,q⟩=>by subst e; exact q) fun _ _ z=>z)
theorem jWA (h:PF .nx s):(putAll fl i [] [] s).post PF E:=h
theorem jZD {x:PV} {xs gs gs':List PV} {n c:Nat} (h1:s.e[i]?=some (some (.cel n))) (h2:s.h[n]?=some (some (.ins c gs))) (h3:yHS (fl c) f x gs=some gs') (h:(putAll fl i fs xs ⟨s.e,s.h.set n (some (.ins c gs'))⟩).post PF E):(putAll fl i (f :: fs) (x :: xs) s).post PF E:=by
 unfold putAll
 simp only [h1,h2,h3]
 exact h
end
end Lp
set_option maxHeartbeats 4000000
set_option maxHeartbeats 4000000
set_option maxHeartbeats 4000000
namespace Lp
open PySem PySem.Spec PyProof.Rows L2 LamX NdefX
def yTR (i j:Nat) (ma:ME) (mn:S→R S (List PV)):MS:=fun s=>(ma s).bind fun v s1=>(mn s1).bind fun xs s2=>if isOwn v=true then .bad else .ok .nx ⟨(s2.e.set i (some v)).set j (some (.own xs)),s2.h⟩
section
variable {X:Cx} {B:Bs} {N:Ent} {WX:L2.WX} {pos:Pos}
theorem yGB {i j:Nat} {x y:Str} {a b:Expr} {ma:ME} {mn:S→R S (List PV)} {px py pt:Pos} {kt k2 pt2} (hc:X.calm=true) (hN:X.N.Nodup) (hi:X.N[i]?=some x) (hj:X.N[j]?=some y) (hij:i≠j)
  (hx:X.env.scope.names.lookup x=some .local) (hy:X.env.scope.names.lookup y=some .local) (ha:SimE X B N WX a ma) (hb:SimN X B N WX b mn) (hs1:starEach [a,b] X.env=(false,eval a X.env) :: starEach [b] X.env) (hs2:starEach [b] X.env=(false,eval b X.env) :: starEach [] X.env)
  (hw:swappedStores [.Tuple [.Name x px,.Name y py] kt pt] (.Tuple [a,b] k2 pt2) X.env=pure (some [x,y]))
  (hs:swapsWithSole [.Tuple [.Name x px,.Name y py] kt pt] (.Tuple [a,b] k2 pt2) pos.line X.env=pure false) :
  SimS X B N WX (.Assign [.Tuple [.Name x px,.Name y py] kt pt] (.Tuple [a,b] k2 pt2) pos) (yTR i j ma mn) :=
 (ps_par hc hN hi hj hij hx hy (pa_cons ha (pa_cons hb pa_nil hs2) hs1) hw hs).imp fun D σ H ⟨W,s,r,h⟩=>⟨W,s,r,h.bindE.mono fun v W1 s1 H1 r1 _ q v' rv=>⟨W1,s1,r1,q.bindE.mono fun xs W2 s2 H2 r2 st2 q2 p vs hp l hH rxs=>by
  split at q2
  ·exact q2.elim
  ·rename_i o
   have o:isOwn v=false:=by simpa using o
   refine ⟨v',.ref p,rfl,q2 W2 _ H2 ?_⟩
   have r3:=jED (i:=i) r2 ((rv.on r1.slen st2.st).rep o)
   refine jRS r3 (by simp) (fun k hk=>by rw [List.getElem?_set_ne (Ne.symm hk)]) ?_ ⟨l.F,l.m,fun k z hk e ow=>?_,l.e⟩ hH rxs
   ·by_cases hb:j < s2.e.length
    ·exact .inl (List.getElem?_set_self (by rw [List.length_set,r2.len]; exact hb))
    ·exact .inr (by simp; omega)
   ·by_cases hki:i=k
    ·subst hki
     have e:(s2.e.set i (some v))[i]?=some (some z):=e
     by_cases hb:i < s2.e.length
     ·rw [List.getElem?_set_self hb] at e
      cases e
      rw [o] at ow; cases ow
     ·rw [List.getElem?_eq_none (by rw [List.length_set]; omega)] at e
      cases e
    ·have e:(s2.e.set i (some v))[k]?=some (some z):=e
     rw [List.getElem?_set_ne hki] at e ⊢
     exact l.o k z e ow⟩⟩
end
end Lp
namespace Lp
open PySem PySem.Spec PyProof.Rows L2 LamX NdefX
structure MeN (P:Program) (w:World) (K:PySem.W.Frag) (mg:Str→Option Value) (base:Heap) (B:Bs) (k:Nat) (c:Nat) (x:Str) (n0:Nat) (ks:List Str) (ix:List Nat) (ds:List PV) (n:Nat) (m:MF):Prop where
 ex:∃ j,j+1≤k∧MeA P w K mg base B j c x n0 ks ix ds n m
theorem MeN.mono {P:Program} {w:World} {K:PySem.W.Frag} {mg:Str→Option Value} {base:Heap} {B:Bs} {i k:Nat} {c:Nat} {x:Str} {n0:Nat} {ks:List Str} {ix:List Nat} {ds:List PV} {n:Nat} {m:MF} (F:MeN P w K mg base B i c x n0 ks ix ds n m) (h:i≤k):MeN P w K mg base B k c x n0 ks ix ds n m :=
 let ⟨j,hj,a⟩:=F.ex
 ⟨j,Nat.le_trans hj h,a⟩
end Lp
set_option maxHeartbeats 4000000
set_option maxHeartbeats 4000000
namespace Lp
open PySem PySem.Spec PyProof.Rows L2
theorem jZM {α:Type} (f:α→PV) (g:α→PyData) (h:∀ a,toD (f a)=some (g a)) (l:List α):toDs (l.map f)=some (l.map g):=by
 induction l with
 | nil=>rfl
 | cons a l ih=>rw [List.map_cons,toDs,h a,ih]; rfl
section
variable {PF:Fl→S→Prop} {E:PV→S→Prop} {s:S} {x:MS} {t:Tg} {u v:PV} {o:Bool}
theorem yEV (h:∃ e1,zR t u s.e=some e1∧(x ⟨e1,s.h⟩).post (fun fl s1=>fl=.nx∧∃ e2,zR t v s1.e=some e2∧(x ⟨e2,s1.h⟩).post (fun fl s2=>fl=.nx∧PF .nx s2) E) E):(jEB ⟨[u,v],[],o⟩ t x [u,v] s).post PF E:=by
 obtain ⟨e1,b1,q⟩:=h
 unfold jEB
 rw [if_pos jLW,b1]
 refine jY (p_mono q (fun fl s1 ⟨hf,e2,b2,q2⟩=>?_) fun _ _ z=>z)
 subst hf
 show (jEB ⟨[u,v],[],o⟩ t x [v] s1).post PF E
 unfold jEB
 rw [if_pos jLW,b2]
 refine jY (p_mono q2 (fun fl s2 ⟨hf,q3⟩=>?_) fun _ _ z=>z)
 subst hf
 show (jEB ⟨[u,v],[],o⟩ t x [] s2).post PF E
 unfold jEB
 rw [if_pos jLW]
 exact q3
end
def TrC (c:Nat):Prop:=c=116∨c=114∨c=109
def TabC (cs:List Nat) (n:Nat):Prop:=cs.length=n∧cs.head?=some 116∧∀ c∈cs,TrC c
theorem jOM {h:AH} {x:Option Cell}:(h++[x])[h.length]?=some x:=by simp
theorem jOL {h:AH} {x y:Option Cell}:(h++[x]).set h.length y=h++[y]:=by simp
def LockS (l:Str):Prop:=l = "none" ∨ l = "one" ∨ l = "all"
structure SpecW.Ok (p:SpecW):Prop where
 d:TabC p.d 8
 n:TabC p.n 4
 l:LockS p.l
def ltr (cs:List Nat) (i:Nat):Nat:=(cs[i]?).getD 0
theorem jXJ {α:Type} {xs:List α} {i:Nat} {x:α} (e:xs[i]?=some x):atI xs (i:Int)=some x:=by
 have hl:=(List.getElem?_eq_some_iff.mp e).1
 unfold atI ixN
 rw [if_pos (by omega),if_pos (by omega)]
 exact e
end Lp
namespace Lp
open PySem PySem.Spec PyProof.Rows L2
section
variable {PF:Fl→S→Prop} {PA:List PV→S→Prop} {P:PV→S→Prop} {E:PV→S→Prop} {s:S} {x:MS} {i:Nat} {o:Bool} {m:ME}
theorem yIU {x0:List PV} (h0:s.e[i]?=some (some (.own x0))) (h:(m s).post (fun v s1=>∃ xs,s1.e[i]?=some (some (.own xs))∧(isOwn v=false∧xs.length < 16384)∧PF .nx ⟨s1.e.set i (some (.own (xs++[v]))),s1.h⟩) E):(wY i m s).post PF E:=by
 unfold wY
 have z:∀ (e:List (Option PV)) (xs:List PV),e[i]?=some (some (.own xs))→ownAt e i=some xs:=fun e xs q=>by unfold ownAt; rw [q]
 rw [z _ _ h0]
 refine jY (p_mono h (fun v s1 ⟨xs,e,⟨e1,e2⟩,q⟩=>?_) fun _ _ z=>z)
 rw [z _ _ e]
 have k:jNZ xs v=some (xs++[v]):=by
  unfold jNZ
  have e3:=(show 16384≤sizeLine by decide)
  rw [if_neg]
  rintro (w | w)
  ·rw [e1] at w; cases w
  ·omega
 simp only [k]
 exact q
theorem jMA {α:Type} {src:S→R S Sr} {t:Tg} {tt:S→R S Bool} {te:ME} {vs:List Nat}
  (h:(src s).post (fun r s1=>r.w=[]∧∃ (rs:List α) (f:α→PV) (c:α→Bool),r.xs=rs.map f∧(∀ a∈rs,isOwn (f a)=false∧∃ e1,zR t (f a) (jP s1.e vs)=some e1∧(tt ⟨e1,s1.h⟩).post (fun k s2=>k=c a∧(te s2).post (fun y s3=>y=f a∧jP s3.e vs=jP s1.e vs∧s3.h=s1.h) NE∧jP s2.e vs=jP s1.e vs∧s2.h=s1.h) NE)∧PA ((rs.filter c).map f) ⟨jP s1.e vs,s1.h⟩) E) :
  (zG src t tt te vs s).post PA E:=by
 refine jJG (p_mono h (fun r s1 ⟨hw,rs,f,c,hx,hs,hn⟩=>⟨hw,fun j acc h=>acc=((rs.take j).filter c).map f∧h=s1.h,⟨rfl,rfl⟩,fun j v acc h e ⟨i1,i2⟩=>?_,fun acc h ⟨i1,i2⟩=>?_⟩) fun _ _ z=>z)
 ·subst i2
  rw [hx,List.getElem?_map] at e
  cases ea:rs[j]? with
  | none=>rw [ea] at e; cases e
  | some a =>
   rw [ea] at e
   cases e
   obtain ⟨o,e1,eb,q⟩:=hs a (List.mem_of_getElem? ea)
   refine ⟨e1,eb,p_mono q (fun k s2 ⟨hk,q2,w,eh⟩=>?_) fun _ _ z=>z⟩
   subst hk
   have tk:=jFA ea
   cases hc:c a with
   | true =>
    refine wJ rfl (p_mono q2 (fun y s3 ⟨ey,w3,e3⟩=>?_) fun _ _ z=>z)
    subst ey
    refine ⟨o,w3,?_,e3⟩
    rw [tk,List.filter_append,List.map_append,i1]
    simp [hc]
   | false =>
    refine qC rfl ⟨w,?_,eh⟩
    rw [tk,List.filter_append,List.map_append,i1]
    simp [hc]
 ·rw [i1,i2,hx,List.length_map,List.take_length]; exact hn
theorem vAJ {ov:Option PV} (e:s.e[i]?=some (some (ov.getD .non))) (hv:∀ v,ov=some v→isNon v=false) (h:match ov with
  | none=>(m s).post P E
  | some v=>P v s):(jMG (xBM (jX jDZ (jM i) (xEC .non))) m (jM i) s).post P E:=by
 cases ov with
 | none=>exact jCA (jCT (uX (yH e (p_c ⟨_,rfl,_,rfl,wJ rfl h⟩))))
 | some v=>exact jCA (jCT (uX (yH e (p_c ⟨_,rfl,_,rfl,qC (hv v rfl) (yH e h)⟩))))
end
theorem jQW {n:Nat}:∀ {ds:List PyData},(∀ d∈ds,d.depth≤n)→PyData.depthAll ds≤n
 | [],_=>by simp [PyData.depthAll]
 | d :: ds,h=>by
  have h1:=h d (by simp)
  have h2:=jQW (ds:=ds) fun e he=>h e (by simp [he])
  simp only [PyData.depthAll]
  omega
theorem jOR {ds:List PyData} {n:Nat} (h:∀ d∈ds,d.depth≤n) (hn:n≤60):dOk (.list ds)=true:=by
 have:=jQW h
 unfold dOk
 refine decide_eq_true ?_
 simp only [PyData.depth]
 omega
end Lp
namespace Lp
open PySem PySem.Spec PyProof.Rows L2
theorem jOG {α:Type} {P:PV→S→Prop} {E:PV→S→Prop} {s:S} {i:Nat} {m:ME} {o:Option α} {f:α→PV} {d:α} (e:s.e[i]?=some (some ((o.map f).getD .non))) (hv:∀ a,isNon (f a)=false) (hm:P (f d) s→(m s).post P E) (h:P (f (o.getD d)) s):(jMG (xBM (jX jDZ (jM i) (xEC .non))) m (jM i) s).post P E:=by
 refine vAJ e (fun v hv'=>?_) ?_
 ·cases o with
  | none=>cases hv'
  | some a=>cases hv'; exact hv a
 ·cases o with
  | none=>exact hm h
  | some a=>exact h
end Lp
set_option maxHeartbeats 4000000
namespace Lp
open PySem PySem.Spec PyProof.Rows L2
section
variable {PA:List PV→S→Prop} {E:PV→S→Prop} {s:S}
theorem jTI {α:Type} {src:S→R S Sr} {t:Tg} {tt:S→R S Bool} {te:ME} {vs:List Nat}
  (h:(src s).post (fun r s1=>r.w=[]∧∃ (rs:List α) (f g:α→PV) (c:α→Bool),r.xs=rs.map f∧(∀ a∈rs,isOwn (g a)=false∧∃ e1,zR t (f a) (jP s1.e vs)=some e1∧(tt ⟨e1,s1.h⟩).post (fun k s2=>k=c a∧(te s2).post (fun y s3=>y=g a∧jP s3.e vs=jP s1.e vs∧s3.h=s1.h) NE∧jP s2.e vs=jP s1.e vs∧s2.h=s1.h) NE)∧PA ((rs.filter c).map g) ⟨jP s1.e vs,s1.h⟩) E) :
  (zG src t tt te vs s).post PA E:=by
 refine jJG (p_mono h (fun r s1 ⟨hw,rs,f,g,c,hx,hs,hn⟩=>⟨hw,fun j acc h=>acc=((rs.take j).filter c).map g∧h=s1.h,⟨rfl,rfl⟩,fun j v acc h e ⟨i1,i2⟩=>?_,fun acc h ⟨i1,i2⟩=>?_⟩) fun _ _ z=>z)
 ·subst i2
  rw [hx,List.getElem?_map] at e
  cases ea:rs[j]? with
  | none=>rw [ea] at e; cases e
  | some a =>
   rw [ea] at e
   cases e
   obtain ⟨o,e1,eb,q⟩:=hs a (List.mem_of_getElem? ea)
   refine ⟨e1,eb,p_mono q (fun k s2 ⟨hk,q2,w,eh⟩=>?_) fun _ _ z=>z⟩
   subst hk
   have tk:=jFA ea
   cases hc:c a with
   | true =>
    refine wJ rfl (p_mono q2 (fun y s3 ⟨ey,w3,e3⟩=>?_) fun _ _ z=>z)
    subst ey
    refine ⟨o,w3,?_,e3⟩
    rw [tk,List.filter_append,List.map_append,i1]
    simp [hc]
   | false =>
    refine qC rfl ⟨w,?_,eh⟩
    rw [tk,List.filter_append,List.map_append,i1]
    simp [hc]
 ·rw [i1,i2,hx,List.length_map,List.take_length]; exact hn
end
end Lp
set_option maxHeartbeats 4000000
namespace Lp
open PySem PySem.Spec PyProof.Rows L2 LamX NdefX PySem.W
abbrev lfn (q:Str) (params:Arguments) (body:Expr) (scope:Scope) (cl:List (Str × Addr)) (dV pm cdv ct:Value):FuncData:={ PySem.W.kla_fn "<lambda>" q params body scope cl pm cdv ct with defaults:=dV }
abbrev lob (q:Str) (params:Arguments) (body:Expr) (scope:Scope) (cl:List (Str × Addr)) (dV pm:Value) (c':Addr) (ct:Value):Obj:={ cls:=.type "function", data:=.func (lfn q params body scope cl dV pm (.ref c') ct) }
section
variable {M:Model} {A:Around} {E:Value→Shared→Prop} {s:Shared} {qual:Str} {params:Arguments} {body:Expr} {scope:Scope} {env:Env} {c P:Addr} {ps:Array Value} {pos:Pos} {firstLine:Nat} {mg:Str→Option Value}
 {clos:List (Str × Addr)} {Q:Value→Shared→Prop} {dV:Value}
theorem yLK (hcl:closureFor scope env=pure clos) (hge0:env.globals=mainGlobals) (hg:s.heap.Ns mainGlobals mg) (hcode:env.code=.ref c) (C:CodeHd s.heap c P) (hP:s.heap.get? P=some (tabObj ps)) (ht:TriplesOk ps.toList)
  (hnf:codeAmong pos ps.toList=none) (hgP:mainGlobals≠P) (hb:s.heap.BuiltinsAt mg P)
  (h:∀ c' ctv h' tk,Heap.ExtBut P s.heap h'→s.heap.objs.size≤c'→c' < h'.objs.size→h'.CodeRec (.ref c') qual→h'.get? P=some (tabObj (ps++#[rawInt pos.line,rawInt pos.col,.ref c'])) →
   Q (.ref h'.objs.size) { s with heap:=h'.push (lob qual params body scope clos dV ((mg "__name__").getD .none) c' ctv),toks:=tk }) :
  wpAny M A (makeTail "<lambda>" qual params (.expr body) scope env dV .none none pos firstLine) Q E s:=by
 obtain ⟨bm,ob,hbm,hne0,_,hneP,hbo,hcls,hdict,hdata⟩:=hb
 unfold makeTail
 rw [hcl,hge0]
 refine wpAny_bind (wpAny_pure ?_)
 cases clos with
 | nil =>
  simp only [List.isEmpty_nil,if_true]
  refine wpAny_bind (wpAny_pure ?_)
  refine wpAny_bind (wpAny_functionCodeX hcode (C.code hP ht) (C.tab hP) hnf fun c' h' tk hx hge hlt _ hrec htb _=>?_)
  have hg':=hg.extBut hx hgP
  refine wpAny_bind (wpAny_builtinsFor hg' hbm hne0 (hx _ _ hneP hbo) hcls hdict hdata ?_)
  refine wpAny_bind (wpAny_nsGet hg' ?_)
  exact wpAny_bind (wpAny_pure (wpAny_newObj_type (h c' .none h' tk hx hge hlt hrec htb.2) (by size_fits)))
 | cons q r =>
  simp only [List.isEmpty_cons,Bool.false_eq_true,if_false]
  refine wpAny_bind (wpAny_newTextTuple ?_)
  refine wpAny_bind (wpAny_functionCodeX hcode ((C.keeps fun b o e=>Heap.get?_push_of_some _ e).code (Heap.get?_push_of_some _ hP) ht) ((C.keeps fun b o e=>Heap.get?_push_of_some _ e).tab (Heap.get?_push_of_some _ hP)) hnf fun c' h' tk hx hge hlt _ hrec htb _=>?_)
  have hg':=(hg.push _).extBut hx hgP
  have hx':Heap.ExtBut P s.heap h':=fun b o hb' e=>hx b o hb' (Heap.get?_push_of_some _ e)
  have hge':s.heap.objs.size≤c':=Nat.le_trans (by rw [Heap.size_push]; omega) hge
  refine wpAny_bind (wpAny_builtinsFor hg' hbm hne0 (hx' _ _ hneP hbo) hcls hdict hdata ?_)
  refine wpAny_bind (wpAny_nsGet hg' ?_)
  exact wpAny_bind (wpAny_pure (wpAny_newObj_type (h c' _ h' tk hx' hge' hlt hrec htb.2) (by size_fits)))
theorem yBE {cv:Value} (hcl:closureFor scope env=pure clos) (hge0:env.globals=mainGlobals) (hg:s.heap.Ns mainGlobals mg) (hcode:env.code=.ref c) (C:CodeHd s.heap c P) (hP:s.heap.get? P=some (tabObj ps)) (ht:TriplesOk ps.toList)
    (hf:codeAmong pos ps.toList=some cv) (hb:s.heap.BuiltinsAt mg P)
    (h:∀ (ctv:Value) (h':Heap) (tk:Tok),(∀ b o,s.heap.get? b=some o→h'.get? b=some o)→s.heap.objs.size≤h'.objs.size →
      Q (.ref h'.objs.size) { s with heap:=h'.push { cls:=.type "function", data:=.func (lfn qual params body scope clos dV ((mg "__name__").getD .none) cv ctv) },toks:=tk }) :
    wpAny M A (makeTail "<lambda>" qual params (.expr body) scope env dV .none none pos firstLine) Q E s:=by
  obtain ⟨bm,ob,hbm,hne0,_,hneP,hbo,hcls,hdict,hdata⟩:=hb
  unfold makeTail
  rw [hcl,hge0]
  refine wpAny_bind (wpAny_pure ?_)
  cases clos with
  | nil =>
    simp only [List.isEmpty_nil,if_true]
    refine wpAny_bind (wpAny_pure ?_)
    refine wpAny_bind (wpAny_functionCode_hit hcode (C.code hP ht) hf ?_)
    refine wpAny_bind (wpAny_builtinsFor hg hbm hne0 hbo hcls hdict hdata ?_)
    refine wpAny_bind (wpAny_nsGet hg ?_)
    exact wpAny_bind (wpAny_pure (wpAny_newObj_type (h .none s.heap s.toks (fun _ _ e=>e) (Nat.le_refl _)) (by size_fits)))
  | cons q r =>
    simp only [List.isEmpty_cons,Bool.false_eq_true,if_false]
    refine wpAny_bind (wpAny_newTextTuple ?_)
    refine wpAny_bind (wpAny_functionCode_hit hcode ((C.keeps fun b o e=>Heap.get?_push_of_some _ e).code (Heap.get?_push_of_some _ hP) ht) hf ?_)
    refine wpAny_bind (wpAny_builtinsFor (hg.push _) hbm hne0 (Heap.get?_push_of_some _ hbo) hcls hdict hdata ?_)
    refine wpAny_bind (wpAny_nsGet (hg.push _) ?_)
    have hsz:∀ oT:Obj,s.heap.objs.size≤(s.heap.push oT).objs.size:=fun oT=>by rw [Heap.size_push]; omega
    exact wpAny_bind (wpAny_pure (wpAny_newObj_type (h _ _ s.toks (fun b o e=>Heap.get?_push_of_some _ e) (hsz _)) (by size_fits)))
end
section
variable {X:Cx} {pins:List (Addr × Obj)} {σ:L2.St} {H H1:Hp} {s s1:Shared}
theorem track {a:Addr} {o:HO} (I:Inv X pins σ H s) (I1:Inv X pins σ H1 s1) (ha:s.heap.objs.size≤a) (hn:H1 a=none) (ok:ObjOk X.prog X.w (upd H1 a o) s1.heap a o):Inv X pins σ (upd H1 a o) s1:=by
 have low:∀ {b:Addr} {u:Obj},s.heap.get? b=some u→b≠a:=fun {b u} e z=>by
  rw [z] at e
  exact Nat.lt_irrefl _ (Nat.lt_of_lt_of_le (Heap.lt_size e) ha)
 have low0:∀ {b:Addr} {u:Obj},X.s_0.heap.get? b=some u→b≠a:=fun {b u} e z=>by
  rw [z] at e
  exact Nat.lt_irrefl _ (Nat.lt_of_lt_of_le (Heap.lt_size e) (Nat.le_trans I.sz ha))
 have old:∀ {b:Addr} {u:HO},H1 b=some u→upd H1 a o b=some u:=fun {b u} e=>by rw [upd_ne (ne_of_none e hn)]; exact e
 refine ⟨I1.ok,I1.os,I1.bare,⟨I1.base.keep,I1.base.slot,fun b u e n hx=>?_,I1.base.there,fun b xs e=>old (I1.base.tups b xs e),fun b u v e=>old (I1.base.frzs b u v e),fun b qs e=>?_⟩,I1.loc,I1.cell,?_,fun x c e=>?_,fun p hp=>?_,fun b u e=>?_,I1.len⟩
 ·rw [upd_ne (low0 e)]; exact I1.base.free b u e n hx
 ·obtain ⟨more,q⟩:=I1.base.tbls b qs e
  exact ⟨more,old q⟩
 ·have h1:=I.lt
  rw [upd_ne fun z=>by rw [z] at h1; exact Nat.lt_irrefl _ (Nat.lt_of_lt_of_le h1 ha)]
  exact I1.free
 ·obtain ⟨v,u,q,_⟩:=I.cell x c e
  rw [upd_ne (low q)]; exact I1.freeC x c e
 ·obtain ⟨q1,q2,q3⟩:=I1.pin p hp
  rw [upd_ne (low (I.pin p hp).1)]
  exact ⟨q1,q2,q3⟩
 ·by_cases hb:b=a
  ·subst hb
   rw [upd_same] at e
   cases e
   exact ok
  ·rw [upd_ne hb] at e
   exact (I1.hok b u e).stay (fun c v _ q=>q) (fun c q=>old q) fun c xs q=>old q
end
abbrev FrzF (o:Obj):HO:=.frz o (.ext fun _=>True)
theorem yJA {P:Program} {w:World} {H:Hp} {h:Heap} {a:Addr} {o:Obj} (e:h.get? a=some o):ObjOk P w H h a (FrzF o):=⟨e,trivial,⟨o,e⟩,fun _ _ _ _=>trivial⟩
section
variable {X:Cx} {pins:List (Addr × Obj)} {σ:L2.St} {H:Hp} {s:Shared}
theorem yLL {T:List (Addr × Str)} {c P:Addr} {params:Arguments} {body:Expr} {scope:Scope} {pos:Pos} {E Q:Value→Shared→Prop} {dV:Value} (I:Inv X pins σ H s) (B:TabB X.base X.mg c P) (hc:X.env.code=.ref c)
  (hm:(P,X.env.qual ++ "<lambda>")∈T) (hu:∀ p∈T,p.1=P→p.2=X.env.qual ++ "<lambda>") (t:Tabs T H) (hf:∀ y∈scope.names,y.2=.free→∃ c,X.env.cells.lookup y.1=some c)
  (k:∀ (f c1:Addr) (pm ctv:Value) (H1:Hp) (s1:Shared),LamH H H1 P c1 (X.env.qual ++ "<lambda>")→Tabs T H1→H1 f=none→H1 c1=some (CodeO c1 (X.env.qual ++ "<lambda>")) →
   Inv X pins σ (upd H1 f (FrzF (lob (X.env.qual ++ "<lambda>") params body scope (cloFrom X.env.cells scope.names []) dV pm c1 ctv))) s1→Q (.ref f) s1):wpAny (model X.prog X.w) X.A (makeTail "<lambda>" (X.env.qual ++ "<lambda>") params (.expr body) scope X.env dV .none none pos pos.line) Q E s:=by
 obtain ⟨ps,eP,tr,am⟩:=t _ hm
 have gP:s.heap.get? P=some (PySem.W.tabObj ps):=I.hok P _ eP
 have ltP:=Heap.lt_size gP
 have cl:=closure_ok hf
 have ns:=I.mod.glob.keeps I.bk
 have cd:=B.code.keeps I.bk
 have bb:=B.bm.keeps I.bk
 cases e:codeAmong pos ps.toList with
 | some cv =>
  obtain ⟨c1,rfl,o1⟩:=am pos cv e
  refine yBE cl I.ok.glob ns hc cd gP tr e bb fun ctv h1 tk hx sz=>?_
  have J:Inv X pins σ H { s with heap:=h1.push (lob (X.env.qual ++ "<lambda>") params body scope (cloFrom X.env.cells scope.names []) dV ((X.mg "__name__").getD .none) c1 ctv),toks:=tk }:=I.kept fun b o z=>Heap.get?_push_of_some _ (hx b o z)
  exact k _ c1 _ ctv H _ (.inl rfl) t (I.hok.fresh sz) o1 (track I J sz (I.hok.fresh sz) (yJA (Heap.get?_push_size _ rfl)))
 | none =>
  refine yLK cl I.ok.glob ns hc cd gP tr e B.gP bb fun c1 ctv h1 tk hx ge lt rc tb=>?_
  obtain ⟨c2,oc,vs,tq,z,g1,g2,g3⟩:=rc
  cases z
  have sz:s.heap.objs.size≤h1.objs.size:=by omega
  have n1:H c1=none:=I.hok.fresh ge
  have J:=inv_table (t':=tk) (h':=h1.push (lob (X.env.qual ++ "<lambda>") params body scope (cloFrom X.env.cells scope.names []) dV ((X.mg "__name__").getD .none) c1 ctv)) I eP (fun b o n z=>Heap.get?_push_of_some _ (hx b o n z)) (Heap.get?_push_of_some _ tb) ge ⟨oc,vs,tq,Heap.get?_push_of_some _ g1,g2,g3⟩
  have hn:upd (upd H P (.tbl (ps++#[rawInt pos.line,rawInt pos.col,.ref c1]))) c1 (CodeO c1 (X.env.qual ++ "<lambda>")) h1.objs.size=none:=by
   rw [upd_ne (Nat.ne_of_gt lt),upd_ne (Nat.ne_of_gt (Nat.lt_of_lt_of_le ltP sz))]
   exact I.hok.fresh sz
  exact k _ c1 _ ctv _ _ (.inr ⟨ps,_,eP,n1,rfl⟩) (jVR t hm hu eP n1) hn upd_same (track I J sz hn (yJA (Heap.get?_push_size _ rfl)))
end
end Lp
set_option maxHeartbeats 4000000
namespace Lp
open PySem PySem.Spec PyProof.Rows L2 LamX NdefX PySem.W
structure LamD where
 params:Arguments
 body:Expr
 scope:Scope
 df:Option (Str × Int)
abbrev yUO (X:Cx):Str:=X.env.qual ++ "<lambda>"
abbrev jZF (X:Cx) (d:LamD) (dV pm:Value) (c1:Addr) (ctv:Value):Obj:=lob (yUO X) d.params d.body d.scope (cloFrom X.env.cells d.scope.names []) dV pm c1 ctv
def DfH (H:Hp) (df:Option (Str × Int)) (dV:Value):Prop:=match df with
 | none=>dV=.none
 | some (_,i)=>∃ T,dV=.ref T∧H T=some (.tup [.int i])
def FnAt (X:Cx) (W:Wd) (d:LamD) (f:Addr):Prop:=∃ (c1:Addr) (pm ctv dV:Value),W.F f=some (FrzF (jZF X d dV pm c1 ctv))∧W.F c1=some (CodeO c1 (yUO X))∧DfH W.F d.df dV
theorem DfH.mono {H H':Hp} {df:Option (Str × Int)} {dV:Value} (k:∀ a o,H a=some o→H' a=some o) (h:DfH H df dV):DfH H' df dV:=by
 unfold DfH at h ⊢
 split at h
 ·exact h
 ·obtain ⟨T,e1,e2⟩:=h
  exact ⟨T,e1,k _ _ e2⟩
theorem FnAt.mono {X:Cx} {W W':Wd} {d:LamD} {f:Addr} (l:W.Le W') (h:FnAt X W d f):FnAt X W' d f :=
 let ⟨c1,pm,ctv,dV,e1,e2,e3⟩:=h
 ⟨c1,pm,ctv,dV,l.F _ _ e1,l.F _ _ e2,e3.mono l.F⟩
structure LamK (X:Cx) (d:LamD):Prop where
 kind:d.scope.kind=.function
 co:d.scope.isCoroutine=false
 gen:d.scope.isGenerator=false
 own:∀ y∈d.scope.names,y.2≠.cell∧(y.2=.local→y.1∉X.N)
 free:∀ y∈d.scope.names,y.2=.free→X.env.scope.names.lookup y.1=some .cell∨X.env.scope.names.lookup y.1=some .free
 df:match d.df with
  | none=>defaultsOf d.params X.env=([],[])∧∀ (q:Str) (cl:List (Str × Addr)) (pm cdv ct:Value),bindArgs (lfn q d.params d.body d.scope cl .none pm cdv ct) ⟨[],[]⟩=pure []
  | some (a,i)=>(∃ j p,defaultsOf d.params X.env=([eval (.Constant (.int i) j p) X.env],[]))∧d.scope.names.lookup a=some .local ∧
   ∀ (T:Addr) (q:Str) (cl:List (Str × Addr)) (pm cdv ct:Value),∃ k,bindArgs (lfn q d.params d.body d.scope cl (.ref T) pm cdv ct) ⟨[],[]⟩=seqItems? (.ref T) >>= k∧∀ u,k (some #[u])=pure [(a,u)]
theorem LamK.has {X:Cx} {d:LamD} (L:LamK X d) (ok:X.Ok):∀ y∈d.scope.names,y.2=.free→∃ c,X.env.cells.lookup y.1=some c:=fun y hy e=>by
 rcases L.free y hy e with k | k
 ·exact ok.has _ (.inl k)
 ·exact ok.has _ (.inr k)
end Lp
set_option maxHeartbeats 4000000
set_option maxHeartbeats 4000000
namespace Lp
open PySem PySem.Spec PyProof.Rows L2 LamX NdefX
abbrev LamB (X:Cx) (B:Bs) (j:Nat) (d:LamD) (ml:ME):Prop:=∀ (N:Ent) (A:Around) (outer:List Env) (s:Shared) (H:Hp) (E:XK) (f c':Addr),Room j (A.deeper (lamEnv X d.scope s.heap.objs.size f c'))→Takes (lamCx X A outer s H E d.scope f c') (fun c d _ H=>E c d H) →
 SimE (lamCx X A outer s H E d.scope f c') B N (fun c d _ H=>E c d H) d.body ml
inductive Lams (X:Cx) (B:Bs) (j:Nat):List Expr→List LamD→List ME→Prop where
 | nil:Lams X B j [] [] []
 | cons {params:Arguments} {body:Expr} {scope:Scope} {df:Option (Str × Int)} {ml:ME} {es:List Expr} {ds:List LamD} {ms:List ME} {pos:Pos} (L:LamK X ⟨params,body,scope,df⟩) (hb:LamB X B j ⟨params,body,scope,df⟩ ml) (t:Lams X B j es ds ms) :
  Lams X B j (.Lambda params body scope pos :: es) (⟨params,body,scope,df⟩ :: ds) (ml :: ms)
theorem Lams.at {X:Cx} {B:Bs} {j:Nat}:∀ {es:List Expr} {ds:List LamD} {ms:List ME},Lams X B j es ds ms→∀ (i:Nat) (ml:ME),ms[i]?=some ml→∃ d,ds[i]?=some d∧LamK X d∧LamB X B j d ml
 | _,_,_,.nil,i,ml,e=>by simp at e
 | _,_,_,.cons L hb t,0,ml,e=>by
  simp only [List.getElem?_cons_zero] at e
  cases e
  exact ⟨_,rfl,L,hb⟩
 | _,_,_,.cons L hb t,i+1,ml,e=>by
  simp only [List.getElem?_cons_succ] at e ⊢
  exact t.at i ml e
theorem Lams.len {X:Cx} {B:Bs} {j:Nat}:∀ {es:List Expr} {ds:List LamD} {ms:List ME},Lams X B j es ds ms→ds.length=ms.length
 | _,_,_,.nil=>rfl
 | _,_,_,.cons _ _ t=>congrArg Nat.succ t.len
end Lp
set_option maxHeartbeats 4000000
namespace Lp
open PySem PySem.Spec PyProof.Rows L2
def dd {α:Type} [DecidableEq α]:List α→List α
 | []=>[]
 | x :: xs=>if x∈xs then dd xs else x :: dd xs
end Lp
set_option maxHeartbeats 4000000
namespace Lp
open PySem PySem.Spec PyProof.Rows L2
def jGU (c:S→R S Bool) (body:MS):Nat→MS
 | 0,_=>.bad
 | n+1,s=>(c s).bind fun k s1=>if k=true then (body s1).bind fun f s2=>match f with
   | .nx=>jGU c body n s2
   | .ct=>jGU c body n s2
   | .bk=>.ok .nx s2
   | .rt v=>.ok (.rt v) s2
  else .ok .nx s1
section
variable {X:Cx} {B:Bs} {N:Ent} {WX:L2.WX} {c:Expr} {body:List Stmt} {mc:S→R S Bool} {mb:MS} {pos:Pos}
theorem jTG (n:Nat) (hp:PassesOwn (model X.prog X.w) X.A X.env X.xe) (hc:SimT X B N WX c mc) (hb:SimSs X B N WX body mb):SimS X B N WX (.While c body [] pos) (jGU mc mb n) :=
 (ps_while hp hc hb).imp fun D σ H ⟨W,s,r,h⟩=>by
  refine ⟨fun m σ H=>∃ W' s',Rel B N W' s' σ H∧PostS B N WX D (jGU mc mb m s'),⟨n,W,s,r,h⟩,?_⟩
  rintro m σ1 H1 ⟨W1,s1,r1,q⟩
  cases m with
  | zero=>exact q.elim
  | succ m =>
   refine ⟨W1,s1,r1,?_⟩
   unfold jGU at q
   refine q.bindE.mono fun k W2 s2 H2 r2 _ q2=>?_
   cases k with
   | true =>
    rw [if_pos rfl] at q2 ⊢
    refine ⟨fun σ' H'=>∃ W' s',Rel B N W' s' σ' H'∧PostS B N WX D (jGU mc mb m s'),fun σ' H' z=>⟨m,Nat.lt_succ_self m,z⟩,W2,s2,r2,R.post_mono (R.post_bind q2) (fun f s3 q3=>?_) fun x s3 q3=>q3⟩
    cases f with
    | nx=>exact fun W' σ' H' r'=>⟨W',s3,r',q3⟩
    | ct=>exact fun W' σ' H' r'=>⟨W',s3,r',q3⟩
    | bk=>exact q3
    | rt v=>exact q3
   | false =>
    rw [if_neg Bool.false_ne_true] at q2 ⊢
    exact q2 W2 σ1 H2 r2
end
def jVI (i:Nat) (m:ME):MS:=fun s=>match s.e[i]? with
 | some (some (.int a))=>(m s).bind fun v s1=>match v with
  | .int b=>.ok .nx ⟨s1.e.set i (some (.int (a+b))),s1.h⟩
  | _=>.bad
 | _=>.bad
theorem yGE {X:Cx} {B:Bs} {N:Ent} {WX:L2.WX} {e:Expr} {m:ME} {i:Nat} {x:Str} {pos pos':Pos} (hN:X.N.Nodup) (hi:X.N[i]?=some x) (hx:Loc X.env.scope x) (he:SimE X B N WX e m) (hf:X.fn x=true∨X.env.scope.names.lookup x=some .local):SimS X B N WX (.AugAssign (.Name x pos') .Add e pos) (jVI i m) :=
 (ps_aug hN hi hx he ip_add hf).imp fun D σ H ⟨W,s,r,h⟩=>by
  unfold jVI at h
  split at h
  ·rename_i a ea
   obtain ⟨v,ev,sl⟩:=r.env i (.int a) ea
   cases (show Rep B W (.int a) v from sl)
   refine ⟨_,ev,W,s,r,h.bindE.mono fun y W1 s1 H1 r1 _ q y' ry=>?_⟩
   split at q
   ·rename_i b
    cases (show Rep B W1 (.int b) y' from ry)
    exact ⟨a,b,rfl,rfl,q W1 _ H1 (jED r1 (.int _))⟩
   ·exact q.elim
  ·exact h.elim
structure TupG (K:PySem.W.Frag) (T:Addr) (vs:List V):Prop where
 ex:∃ (o:Obj) (its:Array Value) (n:Nat),K.lookup T=some o∧o.cls=.type "tuple" ∧ o.data=.seq its n∧its.size≤sizeLine∧Vals vs its.toList
theorem jST {K:PySem.W.Frag} {T:Addr} {vs:List He.Dv} (h:jQJ K T vs=true):TupG K T (vs.map (He.Dv.v K)):=by
 unfold jQJ at h
 split at h
 ·rename_i c od its n sl q
  obtain ⟨h1,h2⟩:=Bool.and_eq_true_iff.mp h
  obtain ⟨h2,h3⟩:=Bool.and_eq_true_iff.mp h2
  exact ⟨_,its,n,q,by rw [of_decide_eq_true h1],rfl,of_decide_eq_true h2,He.relAll_ok h3⟩
 ·cases h
theorem jBQ {X:Cx} {B:Bs} {N:Ent} {WX:L2.WX} {x:Str} {T:Addr} {xs:List PV} {vs:List V} {pos:Pos} (hK:X.K=B.K) (c:TupG X.K T vs) (hg:Gl X x) (hm:X.mg x=some (.ref T)) (hr:∀ W,Reps B W xs vs) (hdb:(x == ("__debug__" : Str))=false):SimE X B N WX (.Name x pos) (eC (.tup xs)):=by
 obtain ⟨o,its,n,h3,h4,h5,h6,h7⟩:=c.ex
 exact jSA (v:=.ref T) (pe_glob (v:=.ref T) hg hm rfl hdb) fun W=>.tup (.inr ⟨o,its,n,hK ▸ h3,h4,h5,h6,h7⟩) (hr W)
end Lp
set_option maxHeartbeats 4000000
namespace Lp
open PySem PySem.Spec PyProof.Rows L2 LamX NdefX
structure DicI (K:PySem.W.Frag) (w:World) (mg:Str→Option Value) (x:Str) (kv:List (Str × Int)):Prop where
 ex:∃ d es n,mg x=some (.ref d)∧KDict K w d es n∧∀ q∈kv,∃ u,PySem.W.nsIn K d q.1=some (some u)∧RelV (.int q.2) u
theorem yTA {K:PySem.W.Frag} {w:World} {mg:Str→Option Value} {x:Str} {kv:List (Str × Int)} {a:Addr} (hm:mg x=some (.ref a)) (h:He.dicW K a=some (He.keysIn w.params (kv.map (·.1)))) (b:yIF K a kv=true):DicI K w mg x kv:=by
 obtain ⟨es,n,D⟩:=He.dicW_ok h
 refine ⟨a,es,n,hm,D,fun q hq=>?_⟩
 obtain ⟨u,e,r⟩:=He.valsB_ok b (q:=(q.1,He.Dv.int q.2)) (List.mem_map.mpr ⟨q,hq,rfl⟩)
 exact ⟨u,e,r⟩
def yUR (kv:List (Str × Int)) (mx:ME):ME:=fun s=>(mx s).bind fun v s1=>match v with
 | .str z=>(match kv.lookup z with
  | some y=>.ok (.int y) s1
  | none=>.bad)
 | _=>.bad
theorem jQT {z:Str} {y:Int}:∀ {l:List (Str × Int)},l.lookup z=some y→(z,y)∈l
 | [],e=>by cases e
 | (a1,a2) :: l,e=>by
  rw [List.lookup_cons] at e
  split at e
  ·rename_i z2
   cases e
   rw [beq_iff_eq.mp z2]
   exact List.mem_cons_self
  ·exact List.mem_cons_of_mem _ (jQT e)
theorem yEO {X:Cx} {B:Bs} {N:Ent} {WX:L2.WX} {e:Expr} {mx:ME} {x:Str} {kv:List (Str × Int)} {p pos:Pos} (D:DicI X.K X.w X.mg x kv) (hg:Gl X x) (he:SimE X B N WX e mx) (hdb:(x == ("__debug__" : Str))=false) (hs:PlainIx e):SimE X B N WX (.Subscript (.Name x p) e pos) (yUR kv mx):=by
 obtain ⟨d,es,n,hmg,KD,h1⟩:=D.ex
 refine (pe_ix (yUB KD) (pe_glob (v:=.ref d) hg hmg rfl hdb) he hs).imp fun σ H Q ⟨W,s,r,h⟩=>⟨W,s,r,(h.bind r.slen).mono fun v W1 s1 H1 r1 _ q v' rv=>?_⟩
 split at q
 ·rename_i z
  cases (show Rep B W1 (.str z) v' from rv)
  split at q
  ·rename_i y ey
   obtain ⟨u,e1,e2⟩:=h1 _ (jQT ey)
   exact ⟨z,u,.int y,rfl,rfl,e1,e2,q.ok r1 _ (Rep.int (B:=B) (W:=W1) y).hand⟩
  ·exact q.elim
 ·exact q.elim
end Lp
set_option maxHeartbeats 4000000
namespace Lp
open PySem PySem.Spec PyProof.Rows L2 LamX NdefX
def jVH (i j:Nat) (mn:S→R S (List PV)) (mb:ME):MS:=fun s=>(mn s).bind fun xs s1=>(mb s1).bind fun v s2=>if isOwn v=true then .bad else .ok .nx ⟨(s2.e.set i (some (.own xs))).set j (some v),s2.h⟩
section
variable {X:Cx} {B:Bs} {N:Ent} {WX:L2.WX} {pos:Pos}
theorem jVU {i j:Nat} {x y:Str} {a b:Expr} {mb:ME} {mn:S→R S (List PV)} {px py pt:Pos} {kt k2 pt2} (hc:X.calm=true) (hN:X.N.Nodup) (hi:X.N[i]?=some x) (hj:X.N[j]?=some y) (hij:i≠j)
  (hx:X.env.scope.names.lookup x=some .local) (hy:X.env.scope.names.lookup y=some .local) (ha:SimN X B N WX a mn) (hb:SimE X B N WX b mb) (hs1:starEach [a,b] X.env=(false,eval a X.env) :: starEach [b] X.env) (hs2:starEach [b] X.env=(false,eval b X.env) :: starEach [] X.env)
  (hw:swappedStores [.Tuple [.Name x px,.Name y py] kt pt] (.Tuple [a,b] k2 pt2) X.env=pure (some [x,y]))
  (hs:swapsWithSole [.Tuple [.Name x px,.Name y py] kt pt] (.Tuple [a,b] k2 pt2) pos.line X.env=pure false) :
  SimS X B N WX (.Assign [.Tuple [.Name x px,.Name y py] kt pt] (.Tuple [a,b] k2 pt2) pos) (jVH i j mn mb) :=
 (ps_par hc hN hi hj hij hx hy (pa_cons ha (pa_cons hb pa_nil hs2) hs1) hw hs).imp fun D σ H ⟨W,s,r,h⟩=>⟨W,s,r,h.bindE.mono fun xs W1 s1 H1 r1 _ q p vs hp l hH rxs=>⟨W1,s1,r1,q.bindE.mono fun v W2 s2 H2 r2 st2 q2 v' rv=>by
  split at q2
  ·exact q2.elim
  ·rename_i o
   have o:isOwn v=false:=by simpa using o
   have l2:=l.on r1.slen st2 (.lst hH)
   have hH2:=l.held st2 hH jCB
   refine ⟨.ref p,v',rfl,q2 W2 _ H2 ?_⟩
   suffices r3:Rel B N W2 ⟨s2.e.set i (some (.own xs)),s2.h⟩ (σ.set i (some (.ref p))) H2 from jED r3 (rv.rep o)
   refine jRS r2 (by simp) (fun k hk=>by rw [List.getElem?_set_ne (Ne.symm hk)]) ?_ ⟨l2.F,l2.m,fun k z _ e ow=>l2.o k z e ow,l2.e⟩ hH2 (rxs.mono st2.st.le)
   by_cases hb:i < s2.e.length
   ·exact .inl (List.getElem?_set_self (by rw [r2.len]; exact hb))
   ·exact .inr (by omega)⟩⟩
end
def ifT (c a b:S→R S Bool):S→R S Bool:=fun s=>(c s).bind fun k s1=>if k=true then a s1 else b s1
theorem vAC {X:Cx} {c a b:Expr} {tc ta tb:TT} {pos:Pos} (hc:PT X c tc) (ha:PT X a ta) (hb:PT X b tb):PT X (.IfExp c a b pos) (fun σ H Q=>tc σ H fun k H1=>if k=true then ta σ H1 Q else tb σ H1 Q):=by
 refine ⟨fun pins s σ H Q I h=>?_⟩
 show wpAny _ _ (do if ← isTrue c X.env (eval c X.env) then isTrue a X.env (eval a X.env) else isTrue b X.env (eval b X.env)) _ _ s
 refine wpAny_bind (thn (hc.run pins s σ H _ I h) fun k s1 ⟨H1,I1,q⟩=>?_)
 cases k with
 | true =>
  rw [if_pos rfl] at q ⊢
  exact ha.run pins s1 σ H1 Q I1 q
 | false =>
  rw [if_neg Bool.false_ne_true] at q ⊢
  exact hb.run pins s1 σ H1 Q I1 q
theorem jTH {X:Cx} {B:Bs} {N:Ent} {WX:L2.WX} {c a b:Expr} {tc ta tb:S→R S Bool} {pos:Pos} (hc:SimT X B N WX c tc) (ha:SimT X B N WX a ta) (hb:SimT X B N WX b tb):SimT X B N WX (.IfExp c a b pos) (ifT tc ta tb) :=
 (vAC hc ha hb).imp fun σ H Q ⟨W,s,r,h⟩=>⟨W,s,r,(h.bind r.slen).mono fun k W1 s1 H1 r1 _ q=>by
  cases k with
  | true =>
   rw [if_pos rfl] at q ⊢
   exact ⟨W1,s1,r1,q⟩
  | false =>
   rw [if_neg Bool.false_ne_true] at q ⊢
   exact ⟨W1,s1,r1,q⟩⟩
end Lp
set_option maxHeartbeats 4000000
set_option maxHeartbeats 4000000
namespace Lp
open PySem PySem.Spec PyProof.Rows L2
abbrev dK (k:List Int):PyData:=.tuple (k.map .int)
end Lp
set_option maxHeartbeats 4000000
namespace Lp
open PySem PySem.Spec PyProof.Rows L2
section
variable {X:Cx} {B:Bs} {W:Wd} {h:AH} {H:Hp} {pins:List (Addr × Obj)} {σ:L2.St} {s:Shared}
mutual
theorem jIU (hK:X.K=B.K) (hr:HRel B W h H) (I:Inv X pins σ H s):∀ {x:PV} {v:V} {κ:NestedKey} {u:Value},Rep B W x v→nk x=some κ→RelV v u→NestedIs s.heap κ u
 | _,_,_,_,.non,e,r=>by cases e; cases r; exact .none
 | _,_,_,_,.bl b,e,r=>by cases e; cases r; exact .bool rfl
 | _,_,_,_,.int i,e,r=>by cases e; obtain ⟨t,rfl⟩:=r; exact .int _ _
 | _,_,_,_,.str x h,e,r=>by cases e; obtain ⟨t,rfl⟩:=r; exact .text _ _
 | _,_,_,_,.ty n,e,r=>by cases e
 | _,_,_,_,.cls n,e,r=>by cases e
 | _,_,_,_,.cel h,e,r=>by cases e
 | _,_,_,_,.tup (xs:=xs) (a:=a) (vs:=vs) hT rs,e,r=>by
  have e':(nks xs).map NestedKey.tup=some _:=e
  cases q:nks xs with
  | none=>rw [q] at e'; cases e'
  | some ks =>
   rw [q] at e'
   cases e'
   cases r
   have sq:SqT X.K H a vs:=by
    rcases hT with h | ⟨o,its,n,h1,h2,h3,h4,h5⟩
    ·exact .inl (.inl (hr.agree _ _ h))
    ·exact .inr ⟨o,its,n,hK ▸ h1,h2,h3,h4,h5⟩
   obtain ⟨its,rv,⟨o,h1,h2,n,h3⟩,_⟩:=I.tuple sq
   exact .tup h1 h2 h3 (nesteds_of hK hr I rs q rv)
 | _,_,_,_,.lst _ _,e,r=>by cases e
 | _,_,_,_,.scr _ _,e,r=>by cases e
 | _,_,_,_,.ins _ _ _,e,r=>by cases e
 | _,_,_,_,.exn _ _ _ _,e,r=>by cases e
theorem nesteds_of (hK:X.K=B.K) (hr:HRel B W h H) (I:Inv X pins σ H s):∀ {xs:List PV} {vs:List V} {ks:List NestedKey} {us:List Value},Reps B W xs vs→nks xs=some ks→Vals vs us→NestedAll s.heap ks us
 | _,_,_,_,.nil,e,r=>by cases e; cases r; exact .nil
 | _,_,ks,_,.cons (x:=x) (xs:=xs) hx ht,e,r=>by
  have e':(match nk x,nks xs with
   | some k,some ks=>some (k :: ks)
   | _,_=>none)=some ks:=e
  cases q1:nk x with
  | none=>rw [q1] at e'; cases e'
  | some k =>
   cases q2:nks xs with
   | none=>rw [q1,q2] at e'; cases e'
   | some ks2 =>
    rw [q1,q2] at e'
    cases e'
    cases r with
    | cons r1 r2=>exact .cons (jIU hK hr I hx q1 r1) (nesteds_of hK hr I ht q2 r2)
end
end
def yBS (o:Option NestedKey) (κ:NestedKey):Bool:=match o with
 | some a=>a.beq κ
 | none=>false
def jWN:List (PV × PV)→NestedKey→Option PV
 | [],_=>none
 | kv :: r,κ=>if yBS (nk kv.1) κ=true then some kv.2 else jWN r κ
def yUJ (ks:List (PV × PV)) (κ:NestedKey) (v:PV):List (PV × PV):=ks.map fun kv=>if yBS (nk kv.1) κ=true then (kv.1,v) else kv
def yFT (ks:List (PV × PV)) (k:PV) (κ:NestedKey) (v:PV):List (PV × PV):=if (jWN ks κ).isSome=true then yUJ ks κ v else ks++[(k,v)]
def tupK:PV→Option NestedKey
 | .tup xs=>match nks xs with
  | some ks=>if Nat.ble (NestedKey.depth (.tup ks)) 8=true then some (.tup ks) else none
  | none=>none
 | _=>none
theorem jRQ {x:PV} {κ:NestedKey} (e:tupK x=some κ):nk x=some κ∧κ.depth≤8∧∃ xs,x=.tup xs:=by
 unfold tupK at e
 split at e
 ·rename_i xs
  split at e
  ·rename_i ks q
   split at e
   ·rename_i c
    cases e
    exact ⟨by show (nks xs).map NestedKey.tup=_; rw [q]; rfl,Nat.le_of_ble_eq_true c,xs,rfl⟩
   ·cases e
  ·cases e
 ·cases e
theorem jSS {B:Bs} {W:Wd} {H:Hp} {x:PV} {κ:NestedKey} {v:V} (e:tupK x=some κ) (r:RepT B W H x v):∃ b,v=.ref b∧Rep B W x (.ref b):=by
 obtain ⟨_,_,xs,rfl⟩:=jRQ e
 cases (show Rep B W (.tup xs) v from r) with
 | tup h rs=>exact ⟨_,rfl,.tup h rs⟩
section
variable {B:Bs} {W:Wd} {ks:List (PV × PV)} {L:List (NestedKey × Addr × Value)} {κ:NestedKey}
theorem jWC {a κ:NestedKey}:yBS (some a) κ=decide (a=κ):=(NestedKey.decide_eq a κ).symm
theorem DRel.get (r:DRel B W ks L) (κ:NestedKey):(∃ v p y,jWN ks κ=some v∧atKey L κ=some p∧Rep B W v y∧RelV y p.2)∨(jWN ks κ=none∧atKey L κ=none):=by
 induction r with
 | nil=>exact .inr ⟨rfl,rfl⟩
 | @cons k v κ0 b u y ks L h1 h2 h3 h4 h5 t ih =>
  unfold jWN
  rw [h1,jWC]
  by_cases e:κ0=κ
  ·rw [if_pos (decide_eq_true e)]
   exact .inl ⟨v,(b,u),y,rfl,by simp [atKey,List.find?_cons,e],h4,h5⟩
  ·rw [if_neg (by simpa using e)]
   have:atKey ((κ0,b,u) :: L) κ=atKey L κ:=by simp [atKey,List.find?_cons,e]
   rw [this]; exact ih
theorem DRel.set (r:DRel B W ks L) {v:PV} {y:V} {u:Value} (rv:Rep B W v y) (ry:RelV y u):DRel B W (yUJ ks κ v) (L.map (putAt κ u)):=by
 induction r with
 | nil=>exact .nil
 | @cons k v0 κ0 b u0 y0 ks L h1 h2 h3 h4 h5 t ih =>
  show DRel B W ((if yBS (nk k) κ=true then (k,v) else (k,v0)) :: yUJ ks κ v) (putAt κ u (κ0,b,u0) :: L.map (putAt κ u))
  rw [h1,jWC]
  unfold putAt
  by_cases e:κ0=κ
  ·rw [if_pos (decide_eq_true e),if_pos e]; exact .cons h1 h2 h3 rv ry ih
  ·rw [if_neg (by simpa using e),if_neg e]; exact .cons h1 h2 h3 h4 h5 ih
theorem DRel.snoc (r:DRel B W ks L) {k v:PV} {b:Addr} {y:V} {u:Value} (h1:nk k=some κ) (h2:κ.depth≤8) (h3:Rep B W k (.ref b)) (h4:Rep B W v y) (h5:RelV y u):DRel B W (ks++[(k,v)]) (L++[(κ,b,u)]):=by
 induction r with
 | nil=>exact .cons h1 h2 h3 h4 h5 .nil
 | cons g1 g2 g3 g4 g5 t ih=>exact .cons g1 g2 g3 g4 g5 ih
theorem DRel.put (r:DRel B W ks L) {k v:PV} {b:Addr} {y:V} {u:Value} (h1:nk k=some κ) (h2:κ.depth≤8) (h3:Rep B W k (.ref b)) (h4:Rep B W v y) (h5:RelV y u):DRel B W (yFT ks k κ v) (storedH L κ b u):=by
 unfold yFT storedH
 rcases r.get κ with ⟨v0,p,y0,e1,e2,_⟩ | ⟨e1,e2⟩
 ·rw [e1,e2]; exact r.set h4 h5
 ·rw [e1,e2]; exact r.snoc h1 h2 h3 h4 h5
theorem DRel.length (r:DRel B W ks L):ks.length=L.length:=by
 induction r with
 | nil=>rfl
 | cons _ _ _ _ _ _ ih=>exact congrArg Nat.succ ih
def yHV:PV→Option L2.Key
 | .int i=>some (.inl i)
 | .str x=>some (.inr x)
 | _=>none
def kEq:L2.Key→L2.Key→Bool
 | .inl i,.inl j=>decide (i=j)
 | .inr x,.inr y=>decide (x=y)
 | _,_=>false
theorem jPL:∀ a b:L2.Key,kEq a b=decide (a=b)
 | .inl i,.inl j=>by unfold kEq; by_cases e:i=j <;> simp [e]
 | .inr x,.inr y=>by unfold kEq; by_cases e:x=y <;> simp [e]
 | .inl _,.inr _=>by simp [kEq]
 | .inr _,.inl _=>by simp [kEq]
def yBV:List (L2.Key × PV)→L2.Key→Option PV
 | [],_=>none
 | kv :: r,k=>if kEq kv.1 k=true then some kv.2 else yBV r k
def yFS (ks:List (L2.Key × PV)) (k:L2.Key) (v:PV):List (L2.Key × PV):=if (yBV ks k).isSome=true then ks.map (fun kv=>if kEq kv.1 k=true then (kv.1,v) else kv) else ks++[(k,v)]
theorem jLV {k:L2.Key}:∀ {ks:List (L2.Key × PV)} {kvs:List (L2.Key × V)},ks.map (·.1)=kvs.map (·.1)→Reps B W (ks.map (·.2)) (kvs.map (·.2))→(∃ v y,yBV ks k=some v∧valV kvs k=some y∧Rep B W v y)∨(yBV ks k=none∧valV kvs k=none)
 | [],[],_,_=>.inr ⟨rfl,rfl⟩
 | [],_ :: _,e,_=>by simp at e
 | _ :: _,[],e,_=>by simp at e
 | (k1,v1) :: ks,(k2,v2) :: kvs,e,r=>by
  rw [List.map_cons,List.map_cons] at e
  injection e with e1 e2
  have e1:k1=k2:=e1
  subst e1
  cases r with
  | cons r1 r2 =>
   unfold yBV
   rw [jPL]
   by_cases q:k1=k
   ·rw [if_pos (decide_eq_true q)]
    exact .inl ⟨v1,v2,rfl,valV_pos (p:=(k1,v2)) q,r1⟩
   ·rw [if_neg (by simpa using q),valV_neg (p:=(k1,v2)) q]
    exact jLV e2 r2
theorem ySZ {k:L2.Key} {ks:List (L2.Key × PV)} {kvs:List (L2.Key × V)} {v:PV} {y:V} (e:ks.map (·.1)=kvs.map (·.1)) (r:Reps B W (ks.map (·.2)) (kvs.map (·.2))) (rv:Rep B W v y) :
  (yFS ks k v).map (·.1)=(putK kvs k y).map (·.1)∧Reps B W ((yFS ks k v).map (·.2)) ((putK kvs k y).map (·.2)):=by
 have rep:∀ {ks:List (L2.Key × PV)} {kvs:List (L2.Key × V)},ks.map (·.1)=kvs.map (·.1)→Reps B W (ks.map (·.2)) (kvs.map (·.2))→(ks.map (fun kv=>if kEq kv.1 k=true then (kv.1,v) else kv)).map (·.1)=(kvs.map (fun kv=>if kv.1=k then (kv.1,y) else kv)).map (·.1) ∧
   Reps B W ((ks.map (fun kv=>if kEq kv.1 k=true then (kv.1,v) else kv)).map (·.2)) ((kvs.map (fun kv=>if kv.1=k then (kv.1,y) else kv)).map (·.2)):=by
  intro ks
  induction ks with
  | nil=>intro kvs e r; cases kvs with
   | nil=>exact ⟨rfl,.nil⟩
   | cons _ _=>simp at e
  | cons p ks ih =>
   intro kvs e r
   cases kvs with
   | nil=>simp at e
   | cons q kvs =>
    rw [List.map_cons,List.map_cons] at e
    injection e with e1 e2
    obtain ⟨k1,v1⟩:=p
    obtain ⟨k2,v2⟩:=q
    have e1:k1=k2:=e1
    subst e1
    cases r with
    | cons r1 r2 =>
     obtain ⟨i1,i2⟩:=ih e2 r2
     simp only [List.map_cons,jPL]
     by_cases z:k1=k
     ·simp only [z,decide_true,if_true]
      refine ⟨congrArg _ (by simpa only [jPL] using i1),.cons rv (by simpa only [jPL] using i2)⟩
     ·simp only [z,decide_false,if_false,Bool.false_eq_true]
      refine ⟨congrArg _ (by simpa only [jPL] using i1),.cons r1 (by simpa only [jPL] using i2)⟩
 unfold yFS putK
 rw [valV_any]
 rcases jLV (k:=k) e r with ⟨v0,y0,g1,g2,_⟩ | ⟨g1,g2⟩
 ·rw [g1,g2]; exact rep e r
 ·rw [g1,g2]
  refine ⟨?_,?_⟩
  ·show (ks++[(k,v)]).map (·.1)=(kvs++[(k,y)]).map (·.1)
   rw [List.map_append,List.map_append,e]; rfl
  ·show Reps B W ((ks++[(k,v)]).map (·.2)) ((kvs++[(k,y)]).map (·.2))
   rw [List.map_append,List.map_append]
   exact r.append (.cons rv .nil)
end
section
variable {X:Cx} {B:Bs} {W:Wd} {h:AH} {H:Hp} {pins:List (Addr × Obj)} {σ:L2.St} {s:Shared} {a:Addr} {ks:List (PV × PV)} {L:List (NestedKey × Addr × Value)}
theorem DRel.his (hK:X.K=B.K) (hr:HRel B W h H) (I:Inv X pins σ H s) (r:DRel B W ks L):∀ x∈L,(nestedKind X.prog X.w).is s.heap x.1 x.2.1:=by
 induction r with
 | nil=>exact fun _ h=>nomatch h
 | cons h1 h2 h3 h4 h5 _ ih =>
  intro x hx
  rcases List.mem_cons.mp hx with rfl | hx
  ·exact ⟨jIU hK hr I h3 h1 rfl,h2⟩
  ·exact ih x hx
theorem jXG (hK:X.K=B.K) (hw:X.w=B.w) (hr:HRel B W h H) (I:Inv X pins σ H s) (h1:H a=some (DicO B.w a L)) (r:DRel B W ks L):(a == sysModules)=false∧s.heap.DictOfH (nestedKind X.prog X.w) a L:=by
 obtain ⟨⟨hs,o,es,ep,k1,k2,k3,k4,k5⟩,_⟩:=(show ObjOk X.prog X.w H s.heap a (DicO B.w a L) from I.hok a _ h1)
 refine ⟨hs,o,es,ep,k1,k2,k3,?_,r.his hK hr I,k5⟩
 rw [← hw] at k4
 exact k4
theorem jYD {P:Program} {w w':World} {H':Hp} {h':Heap} (hw:w=w') (hs:(a == sysModules)=false) (d:h'.DictOfH (nestedKind P w) a L):ObjOk P w H' h' a (DicO w' a L):=by
 subst hw
 obtain ⟨o,es,ep,k1,k2,k3,k4,_,k5⟩:=d
 exact ⟨⟨hs,o,es,ep,k1,k2,k3,k4,k5⟩,⟨o,k1⟩,fun h1 h2 ⟨hs,o,es,ep,k1,k2,k3,k4,k5⟩ hk=>⟨hs,o,es,ep,hk o k1,k2,k3,k4,k5⟩⟩
theorem yHN (L:List (NestedKey × Addr × Value)) (κ:NestedKey) (b:Addr) (u:Value):(storedH L κ b u).length≤L.length+1:=by
 unfold storedH
 split
 ·rw [List.length_map]; omega
 ·simp
end
def jQO (h:AH):PV→Option (List (PV × PV))
 | .cel n=>match h[n]? with
  | some (some (.dic ks))=>some ks
  | _=>none
 | _=>none
def cellK (h:AH):PV→Option (List (L2.Key × PV))
 | .cel n=>match h[n]? with
  | some (some (.dik ks))=>some ks
  | _=>none
 | _=>none
theorem yAO {h:AH} {d:PV} {ks:List (PV × PV)} (e:jQO h d=some ks):∃ n,d=.cel n∧h[n]?=some (some (.dic ks)):=by
 unfold jQO at e
 split at e
 ·split at e
  ·rename_i q; cases e; exact ⟨_,rfl,q⟩
  ·cases e
 ·cases e
theorem yAN {h:AH} {d:PV} {ks:List (L2.Key × PV)} (e:cellK h d=some ks):∃ n,d=.cel n∧h[n]?=some (some (.dik ks)):=by
 unfold cellK at e
 split at e
 ·split at e
  ·rename_i q; cases e; exact ⟨_,rfl,q⟩
  ·cases e
 ·cases e
def atD (h:AH) (d k:PV):Option (Option PV):=match jQO h d with
 | some ks=>(tupK k).map fun κ=>jWN ks κ
 | none=>match cellK h d with
  | some ks=>(yHV k).map fun κ=>yBV ks κ
  | none=>none
inductive DAt (X:Cx) (B:Bs) (W:Wd) (H:Hp) (s:Shared) (a:Addr) (y:V) (u:Value):Option PV→Prop where
 | dic {L:List (NestedKey × Addr × Value)} {ks:List (PV × PV)} {κ:NestedKey} {b:Addr} {o:Option PV} (h1:H a=some (DicO B.w a L)) (h2:L.length≤sizeLine) (h3:DRel B W ks L) (h4:(a == sysModules)=false) (h5:s.heap.DictOfH (nestedKind X.prog X.w) a L) (h6:y=.ref b) (h7:u=.ref b)
  (h8:(nestedKind X.prog X.w).is s.heap κ b) (h9:o=jWN ks κ):DAt X B W H s a y u o
 | dik {kvs:List (L2.Key × V)} {ks:List (L2.Key × PV)} {κ:L2.Key} {o:Option PV} (h1:H a=some (.dK kvs)) (h2:ks.map (·.1)=kvs.map (·.1)) (h3:Reps B W (ks.map (·.2)) (kvs.map (·.2))) (h4:y=kV κ) (h5:o=yBV ks κ):DAt X B W H s a y u o
section
variable {X:Cx} {B:Bs} {W:Wd} {h:AH} {H:Hp} {pins:List (Addr × Obj)} {σ:L2.St} {s:Shared} {a:Addr}
theorem yAB {k:PV} {κ:L2.Key} {y:V} (e:yHV k=some κ) (r:RepT B W H k y):y=kV κ:=by
 unfold yHV at e
 split at e
 ·cases e; exact jAT r
 ·cases e; exact (jEO r).1
 ·cases e
theorem yCP (hK:X.K=B.K) (hw:X.w=B.w) (hr:HRel B W h H) (I:Inv X pins σ H s) {d k:PV} {x y:V} {iv:Value} {o:Option PV} (rd:RepT B W H d x) (rk:RepT B W H k y) (ry:RelV y iv) (e:atD h d k=some o):∃ a,x=.ref a∧DAt X B W H s a y iv o:=by
 unfold atD at e
 split at e
 ·rename_i ks ed
  obtain ⟨n,rfl,en⟩:=yAO ed
  obtain ⟨a,rfl,em⟩:=jGD rd
  obtain ⟨_,L,h1,h2,h3⟩:=hr.cell n _ a en em
  cases q:tupK k with
  | none=>rw [q] at e; cases e
  | some κ =>
   rw [q] at e
   cases e
   obtain ⟨b,rfl,rb⟩:=jSS q rk
   cases ry
   obtain ⟨g1,g2⟩:=jXG hK hw hr I h1 h3
   obtain ⟨k1,k2,_⟩:=jRQ q
   exact ⟨a,rfl,.dic h1 h2 h3 g1 g2 rfl rfl ⟨jIU hK hr I rb k1 rfl,k2⟩ rfl⟩
 ·split at e
  ·rename_i ks ed
   obtain ⟨n,rfl,en⟩:=yAN ed
   obtain ⟨a,rfl,em⟩:=jGD rd
   obtain ⟨_,kvs,h1,h2,h3⟩:=hr.cell n _ a en em
   cases q:yHV k with
   | none=>rw [q] at e; cases e
   | some κ =>
    rw [q] at e
    cases e
    exact ⟨a,rfl,.dik h1 h2.1 h3 (yAB q rk) rfl⟩
  ·cases e
variable {y:V} {u:Value} {o:Option PV} {A:Around} {E:Value→Shared→Prop}
theorem DAt.isd (g:DAt X B W H s a y u o) (I:Inv X pins σ H s):s.TypeIs (.ref a) "dict" ∧ (∀ b,Value.ref a=.ref b→∃ ob,s.heap.get? b=some ob∧ob.dict=none)∧(a == sysModules)=false:=by
 cases g with
 | dic h1 h2 h3 h4 h5 =>
  refine ⟨h5.typeIs,fun b q=>?_,h4⟩
  cases q
  obtain ⟨ob,_,_,k1,k2,_⟩:=h5
  exact ⟨ob,k1,k2.2.1⟩
 | dik h1 _ _ _ _=>exact isD_at I (.inl ⟨_,.inl h1⟩)
theorem DAt.item {Q:Value→Shared→Prop} {z:PV} (hu:A.units+9 < cLine) (g:DAt X B W H s a y u o) (I:Inv X pins σ H s) (ry:RelV y u) (eo:o=some z) (h:∀ (z':V) (r:Value) s',Inv X pins σ H s'→RelV z' r→Rep B W z z'→Q r s'):wpAny (model X.prog X.w) A (getItem (.ref a) u) Q E s:=by
 cases g with
 | dic h1 h2 h3 h4 h5 h6 h7 h8 h9 =>
  subst h6 h7 h9
  rcases h3.get _ with ⟨v,p,y0,e1,e2,r1,r2⟩ | ⟨e1,_⟩
  ·rw [e1] at eo
   cases eo
   exact wpAny_getItem_heap (show A.in1.units+8 < cLine from by show A.units+1+8 < cLine; omega) h8 h5 e2 (h y0 _ _ (I.tok _) r2 r1)
  ·rw [e1] at eo; cases eo
 | dik h1 h2 h3 h4 h5 =>
  subst h4 h5
  rcases jLV h2 h3 with ⟨v,y0,e1,e2,r1⟩ | ⟨e1,_⟩
  ·rw [e1] at eo
   cases eo
   exact d_getItem (by omega) I (e2 ▸ DGet.k h1) ry fun w' s' I' rw'=>h y0 w' s' I' rw' r1
  ·rw [e1] at eo; cases eo
theorem DAt.has {Q:Value→Shared→Prop} (hu:A.units+9 < cLine) (g:DAt X B W H s a y u o) (I:Inv X pins σ H s) (ry:RelV y u) (h:∀ s',Inv X pins σ H s'→Q (.bool o.isSome) s'):wpAny (model X.prog X.w) A (compareOp .In u (.ref a)) Q E s:=by
 cases g with
 | dic h1 h2 h3 h4 h5 h6 h7 h8 h9 =>
  subst h6 h7 h9
  refine wpAny_in_heap (show A.in1.units+8 < cLine from by show A.units+1+8 < cLine; omega) h8 h4 h5 ?_
  rcases h3.get _ with ⟨v,p,y0,e1,e2,r1,r2⟩ | ⟨e1,e2⟩
  ·rw [e2]; rw [e1] at h; exact h _ (I.tok _)
  ·rw [e2]; rw [e1] at h; exact h _ (I.tok _)
 | dik h1 h2 h3 h4 h5 =>
  subst h4 h5
  refine d_in (by omega) I (DGet.k h1) ry fun s' I'=>?_
  rcases jLV h2 h3 with ⟨v,y0,e1,e2,r1⟩ | ⟨e1,e2⟩
  ·rw [e2]; rw [e1] at h; exact h _ I'
  ·rw [e2]; rw [e1] at h; exact h _ I'
theorem DAt.hasnt {Q:Value→Shared→Prop} (hu:A.units+9 < cLine) (g:DAt X B W H s a y u o) (I:Inv X pins σ H s) (ry:RelV y u) (h:∀ s',Inv X pins σ H s'→Q (.bool (!o.isSome)) s'):wpAny (model X.prog X.w) A (compareOp .NotIn u (.ref a)) Q E s:=by
 cases g with
 | dic h1 h2 h3 h4 h5 h6 h7 h8 h9 =>
  subst h6 h7 h9
  refine wpAny_notIn_heap (show A.in1.units+8 < cLine from by show A.units+1+8 < cLine; omega) h8 h4 h5 ?_
  rcases h3.get _ with ⟨v,p,y0,e1,e2,r1,r2⟩ | ⟨e1,e2⟩
  ·rw [e2]; rw [e1] at h; exact h _ (I.tok _)
  ·rw [e2]; rw [e1] at h; exact h _ (I.tok _)
 | dik h1 h2 h3 h4 h5 =>
  subst h4 h5
  refine d_notIn (by omega) I (DGet.k h1) ry fun s' I'=>?_
  rcases jLV h2 h3 with ⟨v,y0,e1,e2,r1⟩ | ⟨e1,e2⟩
  ·rw [e2]; rw [e1] at h; exact h _ I'
  ·rw [e2]; rw [e1] at h; exact h _ I'
theorem DAt.get2 {Q:Value→Shared→Prop} {z:PV} {z':V} {r:Value} (hu:A.units+9 < cLine) (g:DAt X B W H s a y u o) (I:Inv X pins σ H s) (ry:RelV y u) (rz:RepT B W H z z') (rr:RelV z' r) (h:∀ (t:V) (r:Value) s',Inv X pins σ H s'→RelV t r→RepT B W H (o.getD z) t→Q r s'):wpAny (model X.prog X.w) A (call (.builtin "dict.get") [.ref a,u,r]) Q E s:=by
 cases g with
 | dic h1 h2 h3 h4 h5 h6 h7 h8 h9 =>
  subst h6 h7 h9
  refine call_meetsIn PySem.F.slot_dict_get h5.typeIs PySem.F.entry_dict_get (PySem.F.args_dict_get_3 _ _ _) (meetsH_dict_get_default (nestedKind X.prog X.w) a _ h4 r) ⟨(show A.in1.units+8 < cLine from by show A.units+1+8 < cLine; omega),_,_,h8,h5,?_⟩
  rcases h3.get _ with ⟨v,p,y0,e1,e2,r1,r2⟩ | ⟨e1,e2⟩
  ·rw [e2]; rw [e1] at h; exact h _ _ _ (I.tok _) r2 r1.hand
  ·rw [e2]; rw [e1] at h; exact h _ _ _ (I.tok _) rr rz
 | dik h1 h2 h3 h4 h5 =>
  subst h4 h5
  refine d_get2 (by omega) I (DGet.k h1) ry rr fun w' s' I' rw'=>?_
  rcases jLV h2 h3 with ⟨v,y0,e1,e2,r1⟩ | ⟨e1,e2⟩
  ·rw [e2] at rw'; rw [e1] at h; exact h _ _ _ I' rw' r1.hand
  ·rw [e2] at rw'; rw [e1] at h; exact h _ _ _ I' rw' rz
end
def jSF:AH→PV→PV→Option PV:=fun h d k=>(atD h d k).getD none
def yFW (neg:Bool):AH→PV→PV→Option PV:=fun h k d=>(atD h d k).map fun o=>.bl (neg ^^ o.isSome)
def yFV (h:AH) (d:PV):Bool:=(jQO h d).isSome||(cellK h d).isSome
def jXE (mo mk mx:ME):ME:=fun s=>(mo s).bind fun d s1=>if yFV s1.h d=true then (mk s1).bind fun k s2=>(mx s2).bind fun z s3=>match atD s3.h d k with
  | some o=>.ok (o.getD z) s3
  | none=>.bad
 else .bad
def vCN (B:Bs) (neg:Bool):R2:=fun x y H Q=>∃ W h k d o,HRel B W h H∧RepT B W H k x∧RepT B W H d y∧atD h d k=some o∧Q (.bl (neg ^^ o.isSome)) H
section
variable {X:Cx} {B:Bs} {N:Ent} {WX:L2.WX} {o i e f:Expr} {mo mi mx:ME} {pos apos cpos:Pos}
theorem yLB (hK:X.K=B.K) (hw:X.w=B.w) (hu:X.A.units+9 < cLine):OpR X (compareOp .NotIn) (vCN B true):=by
 intro pins s σ H x y v u Q I rx ry ⟨W,h,k,d,o,hr,rk,rd,e,q⟩
 obtain ⟨a,rfl,g⟩:=yCP hK hw hr I rd rk rx e
 cases ry
 exact g.hasnt hu I rx fun s' I'=>⟨.bl _,H,I',rfl,by simpa using q⟩
theorem yRF {neg:Bool}:OpSem X B (yFW neg) (vCN B neg):=by
 intro W h H x y z x' y' Q hr rx ry e q
 unfold yFW at e
 cases ea:atD h y x with
 | none=>rw [ea] at e; cases e
 | some o =>
  rw [ea] at e
  cases e
  exact ⟨W,h,x,y,o,hr,rx,ry,ea,q W H _ (.refl W H) (Rep.bl _).hand⟩
def yEB:AH→PV→PV→Option PV:=fun h x y=>(jIF h x y).or (yFW true h x y)
theorem yTE (hK:X.K=B.K) (hw:X.w=B.w) (hr:U9 X.A):CmpOk X B .NotIn yEB :=
 ⟨_,(yIV (by have hr:X.A.units+200 < cLine:=hr; omega)).or (yLB hK hw (by have hr:X.A.units+200 < cLine:=hr; omega)),(yES hK).or yRF⟩
theorem yJW (hK:X.K=B.K) (hw:X.w=B.w) (hr:U9 X.A) (ho:SimE X B N WX o mo) (hi:SimE X B N WX i mi) (hs:NoSl i):SimE X B N WX (.Subscript o i pos) (jO jSF mo mi):=by
 refine ⟨fun pins s σ H Q I h=>?_⟩
 have h2:=two (k:=fun x' y' H2=>∃ W2 s2 x y,Rel B N W2 s2 σ H2∧RepT B W2 H2 x x'∧RepT B W2 H2 y y'∧Post B N WX W2 s2 H2 σ (match jSF s2.h x y with | some z=>R.ok z s2 | none=>.bad) (fun u W' _ H'=>∀ u',RepT B W' H' u u'→Q u' H')) h fun W2 s2 H2 x y x' y' r2 rx ry q=>⟨W2,s2,x,y,r2,rx,ry,q⟩
 refine subD_of PySem.F.slot_dict_getitem.lookup hs (thn (ho.run pins s σ H _ I h2) fun u s1 ⟨x',H1,I1,rx,q1⟩=>thn (hi.run pins s1 σ H1 _ I1 q1) fun iv s2 ⟨y',H2,I2,ry,W2,t2,x,y,r2,rX,rY,q⟩=>?_)
 split at q
 ·rename_i z ez
  have ea:∃ oo,atD t2.h x y=some oo∧oo=some z:=by
   unfold jSF at ez
   cases q:atD t2.h x y with
   | none=>rw [q] at ez; cases ez
   | some oo=>rw [q] at ez; exact ⟨oo,rfl,ez⟩
  obtain ⟨oo,e1,e2⟩:=ea
  obtain ⟨a,rfl,g⟩:=yCP hK hw r2.hr I2 rX rY ry e1
  cases rx
  have hr:X.A.units+200 < cLine:=hr
  exact ⟨(g.isd I2).1,g.item (by omega) I2 ry e2 fun z' r s' I' rr rz=>⟨z',H2,I',rr,q.ok r2 z' rz.hand⟩⟩
 ·exact q.elim
theorem ySO {W:Wd} {h:AH} {H:Hp} {pins:List (Addr × Obj)} {σ:L2.St} {s:Shared} {d:PV} {x:V} (hK:X.K=B.K) (hw:X.w=B.w) (hr:HRel B W h H) (I:Inv X pins σ H s) (rd:RepT B W H d x) (e:yFV h d=true) :
  ∃ a,x=.ref a∧s.TypeIs (.ref a) "dict" ∧ (∀ b,Value.ref a=.ref b→∃ ob,s.heap.get? b=some ob∧ob.dict=none):=by
 unfold yFV at e
 cases e1:jQO h d with
 | some ks =>
  obtain ⟨n,rfl,en⟩:=yAO e1
  obtain ⟨a,rfl,em⟩:=jGD rd
  obtain ⟨_,L,h1,h2,h3⟩:=hr.cell n _ a en em
  obtain ⟨g1,g2⟩:=jXG hK hw hr I h1 h3
  refine ⟨a,rfl,g2.typeIs,fun b q=>?_⟩
  cases q
  obtain ⟨ob,_,_,k1,k2,_⟩:=g2
  exact ⟨ob,k1,k2.2.1⟩
 | none =>
  cases e2:cellK h d with
  | some ks =>
   obtain ⟨n,rfl,en⟩:=yAN e2
   obtain ⟨a,rfl,em⟩:=jGD rd
   obtain ⟨_,kvs,h1,_⟩:=hr.cell n _ a en em
   obtain ⟨t1,t2,_⟩:=isD_at I (.inl ⟨_,.inl h1⟩)
   exact ⟨a,rfl,t1,t2⟩
  | none=>rw [e1,e2] at e; cases e
theorem yGI (hK:X.K=B.K) (hw:X.w=B.w) (hr:U9 X.A) (ho:SimE X B N WX o mo) (he:SimE X B N WX e mi) (hf:SimE X B N WX f mx) (m:M2 X o "get" apos e f cpos):SimE X B N WX (.Call (.Attribute o "get" apos) [e,f] [] cpos) (jXE mo mi mx):=by
 refine ⟨fun pins s σ H Q I h=>?_⟩
 obtain ⟨W,t,r,h⟩:=h
 refine wpAny_Call_method m.base m.few m.line PySem.F.plainAttrs_dict PySem.F.slot_dict_get PySem.F.type_dict_get (thn (ho.run pins s σ H (fun x' H1=>∃ W1 t1 d,Rel B N W1 t1 σ H1∧RepT B W1 H1 d x'∧Post B N WX W1 t1 H1 σ (if yFV t1.h d=true then (mi t1).bind fun k s2=>(mx s2).bind fun z s3=>match atD s3.h d k with
    | some o=>R.ok (o.getD z) s3
    | none=>.bad
   else .bad) (fun u W' _ H'=>∀ u',RepT B W' H' u u'→Q u' H')) I ⟨W,t,r,(h.bind r.slen).mono fun d W1 t1 H1 r1 _ q x' rx=>⟨W1,t1,d,r1,rx,q⟩⟩) fun u s1 ⟨x',H1,I1,rx,W1,t1,d,r1,rd,q⟩=>?_)
 split at q
 ·rename_i cd
  obtain ⟨a,rfl,isd1,isd2⟩:=ySO hK hw r1.hr I1 rd cd
  cases rx
  refine ⟨isd1,isd2,?_⟩
  rw [m.trees]
  refine Calls.callWith_builtin rfl (Calls.evalArgs_plain (Calls.spliced_cons (thn (he.run pins s1 σ H1 (fun y' H2=>∃ W2 t2 k,Rel B N W2 t2 σ H2∧RepT B W2 H2 k y'∧RepT B W2 H2 d (.ref a)∧Post B N WX W2 t2 H2 σ ((mx t2).bind fun z s3=>match atD s3.h d k with
    | some o=>R.ok (o.getD z) s3
    | none=>.bad) (fun u W' _ H'=>∀ u',RepT B W' H' u u'→Q u' H')) I1 ⟨W1,t1,r1,(q.bind r1.slen).mono fun k W2 t2 H2 r2 st2 q y' ry=>⟨W2,t2,k,r2,ry,rd.on r1.slen st2.st,q⟩⟩)
   fun iv s2 ⟨y',H2,I2,ry,W2,t2,k,r2,rk,rd2,q⟩ =>
   Calls.spliced_cons (thn (hf.run pins s2 σ H2 (fun z' H3=>∃ W3 t3 z,Rel B N W3 t3 σ H3∧RepT B W3 H3 z z'∧RepT B W3 H3 k y'∧RepT B W3 H3 d (.ref a)∧Post B N WX W3 t3 H3 σ (match atD t3.h d k with
    | some o=>R.ok (o.getD z) t3
    | none=>.bad) (fun u W' _ H'=>∀ u',RepT B W' H' u u'→Q u' H')) I2 ⟨W2,t2,r2,(q.bind r2.slen).mono fun z W3 t3 H3 r3 st3 q z' rz=>⟨W3,t3,z,r3,rz,rk.on r2.slen st3.st,rd2.on r2.slen st3.st,q⟩⟩)
    fun fv s3 ⟨z',H3,I3,rz,W3,t3,z,r3,rZ,rK,rD,q⟩=>Calls.spliced_nil ?_))))
  split at q
  ·rename_i oo eo
   obtain ⟨a2,ea,g⟩:=yCP hK hw r3.hr I3 rD rK ry eo
   cases ea
   have hr:X.A.units+200 < cLine:=hr
   exact g.get2 (by omega) I3 ry rZ rz fun t r s' I' rr rt=>⟨t,H3,I',rr,q.ok r3 t rt⟩
  ·exact q.elim
 ·exact q.elim
end
end Lp
set_option maxHeartbeats 4000000
namespace Lp
open PySem PySem.Spec PyProof.Rows L2
def jWM (h:AH) (d k v:PV):Option AH:=match d with
 | .cel n=>match h[n]? with
  | some (some (.dic ks))=>match tupK k with
   | some κ=>if isOwn v=true∨sizeLine≤ks.length then none else some (h.set n (some (.dic (yFT ks k κ v))))
   | none=>none
  | some (some (.dik ks))=>match yHV k with
   | some κ=>if isOwn v=true∨sizeLine≤ks.length then none else some (h.set n (some (.dik (yFS ks κ v))))
   | none=>none
  | _=>none
 | _=>none
def sDPut (mv mo mi:ME):MS:=fun s=>(mv s).bind fun v s1=>(mo s1).bind fun d s2=>(mi s2).bind fun k s3=>match jWM s3.h d k v with
 | some h'=>.ok .nx ⟨s3.e,h'⟩
 | none=>.bad
section
variable {X:Cx} {B:Bs} {N:Ent} {WX:L2.WX} {W:Wd} {t:S} {H:Hp} {pins:List (Addr × Obj)} {σ:L2.St} {s:Shared}
theorem yRL {Q:Unit→Shared→Prop} {E:Value→Shared→Prop} {A:Around} {d k v:PV} {x y z:V} {iv r:Value} {h':AH} (hK:X.K=B.K) (hw:X.w=B.w) (hu:A.units+9 < cLine) (rel:Rel B N W t σ H) (I:Inv X pins σ H s) (rd:RepT B W H d x) (rk:RepT B W H k y) (rv:RepT B W H v z) (ry:RelV y iv) (rz:RelV z r)
  (e:jWM t.h d k v=some h') (h:∀ H' s',Inv X pins σ H' s'→Rel B N W ⟨t.e,h'⟩ σ H'→Q () s'):∃ a,x=.ref a∧wpAny (model X.prog X.w) A (setItem (.ref a) iv r) Q E s:=by
 unfold jWM at e
 split at e
 ·rename_i n
  obtain ⟨a,rfl,em⟩:=jGD rd
  refine ⟨a,rfl,?_⟩
  split at e
  ·rename_i ks en
   obtain ⟨_,L,h1,h2,h3⟩:=rel.hr.cell n _ a en em
   split at e
   ·rename_i κ q
    split at e
    ·cases e
    ·rename_i c
     cases e
     simp only [not_or] at c
     have ov:isOwn v=false:=by simpa using c.1
     obtain ⟨b,rfl,rb⟩:=jSS q rk
     cases ry
     obtain ⟨g1,g2⟩:=jXG hK hw rel.hr I h1 h3
     obtain ⟨k1,k2,_⟩:=jRQ q
     refine wpAny_setItem_heap (hsz:=h2) (knd:=nestedKind X.prog X.w) (show A.in1.units+8 < cLine from by show A.units+1+8 < cLine; omega) ⟨jIU hK rel.hr I rb k1 rfl,k2⟩ g2 fun hh dd hs=>?_
     have hl:(storedH L κ b r).length≤sizeLine:=by
      have z1:=yHN L κ b r
      have z2:=h3.length
      omega
     have hr2:=jMB (c':=.dic (yFT ks k κ v)) rel.hr en em (o:=DicO B.w a (storedH L κ b r)) trivial ⟨_,upd_same,hl,h3.put k1 k2 rb (rv.rep ov) rz⟩
     have st:=jLX (c':=.dic (yFT ks k κ v)) (o:=DicO B.w a (storedH L κ b r)) rel.hr en em
     refine h _ _ ?_ (jBR rel hr2 st)
     have he:∃ q,hh.get? a=some q:=let ⟨q,_,_,hq,_⟩:=dd; ⟨q,hq⟩
     exact d_write I (by rw [h1]; exact True.intro) hs he (jYD hw g1 dd)
   ·cases e
  ·rename_i ks en
   obtain ⟨_,kvs,h1,h2,h3⟩:=rel.hr.cell n _ a en em
   split at e
   ·rename_i κ q
    split at e
    ·cases e
    ·rename_i c
     cases e
     simp only [not_or] at c
     have ov:isOwn v=false:=by simpa using c.1
     have ey:=yAB q rk
     subst ey
     obtain ⟨e1,e2⟩:=ySZ (k:=κ) h2.1 h3 (rv.rep ov)
     have hr2:=jMB (c':=.dik (yFS ks κ v)) rel.hr en em (o:=.dK (putK kvs κ z)) trivial ⟨_,upd_same,⟨e1,by have:=length_putK kvs κ z; have h4:=congrArg List.length h2.1; simp at h4; omega⟩,e2⟩
     have st:=jLX (c':=.dik (yFS ks κ v)) (o:=.dK (putK kvs κ z)) rel.hr en em
     have hl:kvs.length < sizeLine:=by
      have:=congrArg List.length h2.1
      simp at this
      omega
     exact d_setItem (by omega) I (DPut.k h1 hl) ry rz fun s' I'=>h _ _ I' (jBR rel hr2 st)
   ·cases e
  ·cases e
 ·cases e
theorem yGD {o i e:Expr} {mo mi mv:ME} {pos pos':Pos} (hK:X.K=B.K) (hw:X.w=B.w) (hu:U9 X.A) (hv:SimE X B N WX e mv) (ho:SimE X B N WX o mo) (hi:SimE X B N WX i mi) (hs:swapsWith e (some (.Subscript o i pos')) pos.line X.env=pure false) :
  SimS X B N WX (.Assign [.Subscript o i pos'] e pos) (sDPut mv mo mi):=by
 refine ⟨fun pins s σ H D I ⟨W,t,r,h⟩=>?_⟩
 have hu:X.A.units+200 < cLine:=hu
 refine wpAny_Assign_Subscript (thn (hv.run pins s σ H (fun v' H1=>∃ W1 t1 v,Rel B N W1 t1 σ H1∧RepT B W1 H1 v v'∧PostS B N WX D ((mo t1).bind fun d s2=>(mi s2).bind fun k s3=>match jWM s3.h d k v with
   | some h'=>R.ok .nx ⟨s3.e,h'⟩
   | none=>.bad)) I ⟨W,t,r,h.bindE.mono fun v W1 t1 H1 r1 _ q v' rv=>⟨W1,t1,v,r1,rv,q⟩⟩) fun rv' s1 ⟨v',H1,I1,rrv,W1,t1,v,r1,rv,q1⟩ =>
  thn (ho.run pins s1 σ H1 (fun d' H2=>∃ W2 t2 d,Rel B N W2 t2 σ H2∧RepT B W2 H2 v v'∧RepT B W2 H2 d d'∧PostS B N WX D ((mi t2).bind fun k s3=>match jWM s3.h d k v with
   | some h'=>R.ok .nx ⟨s3.e,h'⟩
   | none=>.bad)) I1 ⟨W1,t1,r1,q1.bindE.mono fun d W2 t2 H2 r2 st2 q d' rd=>⟨W2,t2,d,r2,rv.on r1.slen st2.st,rd,q⟩⟩) fun rd' s2 ⟨d',H2,I2,rrd,W2,t2,d,r2,rv2,rd,q2⟩ =>
  thn (hi.run pins s2 σ H2 (fun k' H3=>∃ W3 t3 k,Rel B N W3 t3 σ H3∧RepT B W3 H3 v v'∧RepT B W3 H3 d d'∧RepT B W3 H3 k k'∧PostS B N WX D (match jWM t3.h d k v with
   | some h'=>R.ok .nx ⟨t3.e,h'⟩
   | none=>.bad)) I2 ⟨W2,t2,r2,q2.bindE.mono fun k W3 t3 H3 r3 st3 q k' rk=>⟨W3,t3,k,r3,rv2.on r2.slen st3.st,rd.on r2.slen st3.st,rk,q⟩⟩) fun rk' s3 ⟨k',H3,I3,rrk,W3,t3,k,r3,rv3,rd3,rk3,q3⟩=>?_) hs
 split at q3
 ·rename_i h' ep
  obtain ⟨a,ea,fin⟩:=yRL (E:=X.xe) (Q:=fun _=>SP X pins D .next) (N:=N) (A:=X.A) hK hw (by omega) r3 I3 rd3 rk3 rv3 rrk rrv ep fun H' s' I' r'=>⟨σ,H',I',q3 W3 σ H' r'⟩
  subst ea
  cases rrd
  exact fin
 ·exact q3.elim
end
section
variable {X:Cx} {B:Bs}
theorem CallR.or {r r':List V→Hp→VK→Prop} {f:Value} (a:CallR X f r) (b:CallR X f r'):CallR X f fun xs H Q=>r xs H Q∨r' xs H Q:=fun pins s σ H xs us Q I rv h=>h.elim (a pins s σ H xs us Q I rv) (b pins s σ H xs us Q I rv)
theorem CallSem.or {f g:AH→List PV→Option PV} {r r':List V→Hp→VK→Prop} (a:CallSem X B f r) (b:CallSem X B g r'):CallSem X B (fun h xs=>(f h xs).or (g h xs)) fun xs H Q=>r xs H Q∨r' xs H Q:=by
 intro W h H xs z xs' Q hr rx e q
 have e:(f h xs).or (g h xs)=some z:=e
 cases ef:f h xs with
 | some z' =>
  rw [ef] at e
  cases e
  exact .inl (a W h H xs z xs' Q hr rx ef q)
 | none =>
  rw [ef] at e
  exact .inr (b W h H xs z xs' Q hr rx e q)
end
def yDX (i j l:Nat) (ma:MA):MS:=fun s=>(ma s).bind fun vs s1=>match vs with
 | [u,v,w]=>if vM [u,v,w]=true then .ok .nx ⟨((s1.e.set i (some u)).set j (some v)).set l (some w),s1.h⟩ else .bad
 | _=>.bad
section
variable {X:Cx} {B:Bs} {N:Ent} {WX:L2.WX}
theorem repts3 {W:Wd} {H:Hp} {x y z:PV} {vs:List V} (r:RepTs B W H [x,y,z] vs):∃ u v w,vs=[u,v,w]∧RepT B W H x u∧RepT B W H y v∧RepT B W H z w:=by
 cases vs with
 | nil=>exact r.elim
 | cons u t =>
  obtain ⟨r1,r2⟩:=r
  obtain ⟨v,w,rfl,r3,r4⟩:=repts2 r2
  exact ⟨u,v,w,rfl,r1,r3,r4⟩
theorem yGC {i j l:Nat} {x y z:Str} {a b c:Expr} {mz:MA} {px py pz pt pos:Pos} {kt k2 pt2} (hc:X.calm=true) (hN:X.N.Nodup) (hi:X.N[i]?=some x) (hj:X.N[j]?=some y) (hl:X.N[l]?=some z) (hij:i≠j) (hil:i≠l) (hjl:j≠l)
  (hx:X.env.scope.names.lookup x=some .local) (hy:X.env.scope.names.lookup y=some .local) (hz:X.env.scope.names.lookup z=some .local) (ha:SimA X B N WX [a,b,c] mz)
  (hw:swappedStores [.Tuple [.Name x px,.Name y py,.Name z pz] kt pt] (.Tuple [a,b,c] k2 pt2) X.env=pure (some [x,y,z]))
  (hs:swapsWithSole [.Tuple [.Name x px,.Name y py,.Name z pz] kt pt] (.Tuple [a,b,c] k2 pt2) pos.line X.env=pure false) :
  SimS X B N WX (.Assign [.Tuple [.Name x px,.Name y py,.Name z pz] kt pt] (.Tuple [a,b,c] k2 pt2) pos) (yDX i j l mz) :=
 (ps_par3 hc hN hi hj hl hij hil hjl hx hy hz ha hw hs).imp fun D σ H ⟨W,s,r,h⟩=>⟨W,s,r,h.bindE.mono fun vs W1 s1 H1 r1 _ q vs' rv=>by
  split at q
  ·rename_i u v w
   obtain ⟨u',v',w',rfl,rv1,rv2,rv3⟩:=repts3 rv
   split at q
   ·rename_i o
    unfold vM at o
    simp only [List.all_cons,List.all_nil,Bool.and_true,Bool.and_eq_true,Bool.not_eq_true'] at o
    exact ⟨u',v',w',rfl,q W1 _ H1 (jED (jED (jED r1 (rv1.rep o.1)) (rv2.rep o.2.1)) (rv3.rep o.2.2))⟩
   ·exact q.elim
  ·exact q.elim⟩
end
def jXD (mk mv:ME):ME:=fun s=>(mk s).bind fun k s1=>(mv s1).bind fun v s2=>match tupK k with
 | some _=>if isOwn v=true then .bad else .ok (.cel s2.h.length) ⟨s2.e,s2.h++[some (.dic [(k,v)])]⟩
 | none=>.bad
section
variable {X:Cx} {B:Bs} {N:Ent} {WX:L2.WX} {k v:Expr} {mk mv:ME} {pos:Pos}
theorem yHC {P:Program} {w:World} {H:Hp} (h:Heap) (hb:sysModules < h.objs.size):ObjOk P w H (h.push { cls:=.type "dict", data:=.dict #[] }) h.objs.size (DicO w h.objs.size []) :=
  jYD rfl (beq_eq_false_iff_ne.mpr (Ne.symm (Nat.ne_of_lt hb))) ⟨_,#[],0,Heap.get?_push_size _ rfl,⟨rfl,rfl,rfl⟩,rfl,rfl,(fun _ h=>nomatch h),List.nodup_nil⟩
theorem Post.base {α β:Type} {W0 W1:Wd} {s0 s1:S} {H0 H1:Hp} {σ:L2.St} {r:R S α} {f:α→S→R S β} {P:β→Wd→S→Hp→Prop} (hl:W0.m.length=s0.h.length) (st:StepE W0 s0 H0 W1 s1 H1) (q:Post B N WX W0 s0 H0 σ (r.bind f) P) :
  Post B N WX W1 s1 H1 σ r fun v W' s' H'=>StepE W0 s0 H0 W' s' H'∧Post B N WX W0 s0 H0 σ (f v s') P :=
 R.post_mono (R.post_bind q) (fun v s' q W' H' r' st'=>⟨st.trans hl st',q⟩) fun x s' q W' H' cls d r' st' e nw=>q W' H' cls d r' (st.trans hl st') e fun dd ed=>st.st.tr _ (nw dd ed)
theorem yDO {P:Program} {w:World} {A:Around} {E:Value→Shared→Prop} {s:Shared} {env:Env} {Q:Value→Shared→Prop} (hu:A.units+8 < cLine)
    (h:wpAny (model P w) A (evalPairs (pairTrees [some k] [v] env pos)) (fun vs s1=>∃ ps,CarriesH (nestedKind P w) s1.heap vs ps∧s1.heap.DictOfH (nestedKind P w) s.heap.objs.size [] ∧
      ∀ h' tk,h'.DictOfH (nestedKind P w) s.heap.objs.size (storedAllH [] ps)→Heap.SameBut s.heap.objs.size s1.heap h'→Q (.ref s.heap.objs.size) { s1 with heap:=h',toks:=tk }) E { s with heap:=s.heap.push { cls:=.type "dict", data:=.dict #[] } }) :
    wpAny (model P w) A (eval (.Dict [some k] [v] pos) env) Q E s:=by
  rw [arm_eval_Dict,zip_pairTrees [some k] [v] env pos rfl rfl]
  have hne:pairTrees [some k] [v] env pos≠[]:=fun z=>by cases z
  rw [dictDisplay_pairs (pairTrees [some k] [v] env pos) hne (by show 1 < 17; omega)]
  refine wpAny_bind (wpAny_standAt (wpAny_bind ?_))
  refine wpAny_subDictH (knd:=nestedKind P w) (Q:=fun d s2=>wpAny (model P w) A (pure (Value.ref d)) Q E s2) hu (by show 1≤15; omega) ?_
  refine wpAny_mono h (fun vs s1 ⟨ps,hc,hm,hq⟩=>?_) fun _ _ e=>e
  exact ⟨ps,hc,hm,fun h' tk a b=>wpAny_pure (hq h' tk a b)⟩
theorem yGH (hK:X.K=B.K) (hw:X.w=B.w) (hu:U9 X.A) (hk:SimE X B N WX k mk) (hv:SimE X B N WX v mv):SimE X B N WX (.Dict [some k] [v] pos) (jXD mk mv):=⟨fun pins s σ H Q I ⟨W,t,r,h⟩=>by
 have hu:X.A.units+200 < cLine:=hu
 have hp:=I.hok.fresh (Nat.le_refl s.heap.objs.size)
 have l0:=r.loose hp
 have r0:=jHY (o:=DicO B.w s.heap.objs.size []) r l0 trivial (.inl hp)
 have I0:=I.laid (a:=s.heap.objs.size) (o:=DicO B.w s.heap.objs.size []) (t':=s.toks) (fun _ _ q=>Heap.get?_push_of_some _ q) (Nat.le_refl _) (by rw [← hw]; exact yHC s.heap I.big)
 have st0:StepE W t H W t (upd H s.heap.objs.size (DicO B.w s.heap.objs.size [])):=(StepE.refl r.hr).put hp l0.m
 have fg:FG (some (DicO B.w s.heap.objs.size [])):=⟨_,rfl,jPI,yCJ⟩
 refine yDO (by omega) (pairTrees_cons_walk (thn (hk.run pins _ σ _ (fun k' H1=>∃ W1 t1 kk,Rel B N W1 t1 σ H1∧StepE W t H W1 t1 H1∧Loose N W1 t1 σ s.heap.objs.size∧H1 s.heap.objs.size=some (DicO B.w s.heap.objs.size [])∧RepT B W1 H1 kk k'∧Post B N WX W t H σ ((mv t1).bind fun v s2=>match tupK kk with
   | some _=>if isOwn v=true then R.bad else R.ok (.cel s2.h.length) ⟨s2.e,s2.h++[some (.dic [(kk,v)])]⟩
   | none=>.bad) (fun u W' _ H'=>∀ u',RepT B W' H' u u'→Q u' H')) I0 ⟨W,t,r0,R.post_mono (Post.base r.slen st0 h) (fun kk t1 q W1 H1 r1 st1 k' rk=>⟨W1,t1,kk,r1,(q W1 H1 r1 st1).1,
    Loose.on (H:=upd H s.heap.objs.size (DicO B.w s.heap.objs.size [])) l0 r0.slen st1 (by rw [upd_same]; exact fg),Loose.held (H:=upd H s.heap.objs.size (DicO B.w s.heap.objs.size [])) l0 st1 upd_same jPI,rk,(q W1 H1 r1 st1).2⟩) fun _ _ q=>q⟩)
  fun kv s1 ⟨k',H1,I1,rrk,W1,t1,kk,r1,st1,l1,hH1,rk,q1⟩=>thn (hv.run pins s1 σ H1 (fun v' H2=>∃ W2 t2 vv,Rel B N W2 t2 σ H2∧StepE W t H W2 t2 H2∧Loose N W2 t2 σ s.heap.objs.size∧H2 s.heap.objs.size=some (DicO B.w s.heap.objs.size [])∧RepT B W2 H2 kk k'∧RepT B W2 H2 vv v'∧Post B N WX W t H σ (match tupK kk with
   | some _=>if isOwn vv=true then R.bad else R.ok (.cel t2.h.length) ⟨t2.e,t2.h++[some (.dic [(kk,vv)])]⟩
   | none=>.bad) (fun u W' _ H'=>∀ u',RepT B W' H' u u'→Q u' H')) I1 ⟨W1,t1,r1,R.post_mono (Post.base r.slen st1 q1) (fun vv t2 q W2 H2 r2 st2 v' rv=>⟨W2,t2,vv,r2,(q W2 H2 r2 st2).1,l1.on r1.slen st2 (by rw [hH1]; exact fg),l1.held st2 hH1 jPI,rk.on r1.slen st2.st,rv,(q W2 H2 r2 st2).2⟩) fun _ _ q=>q⟩)
   fun vvv s2 ⟨v',H2,I2,rrv,W2,t2,vv,r2,st2,l2,hH2,rk2,rv2,q2⟩=>pairTrees_nil_walk ?_))
 split at q2
 ·rename_i κ eκ
  split at q2
  ·exact q2.elim
  ·rename_i ov
   have ov:isOwn vv=false:=by simpa using ov
   obtain ⟨b,rfl,rb⟩:=jSS eκ rk2
   cases rrk
   obtain ⟨k1,k2,_⟩:=jRQ eκ
   obtain ⟨g1,g2⟩:=jXG hK hw r2.hr I2 hH2 (DRel.nil (W:=W2))
   have key:(nestedKind X.prog X.w).is s2.heap κ b:=⟨jIU hK r2.hr I2 rb k1 rfl,k2⟩
   refine ⟨[(κ,b,vvv)],⟨rfl,rfl,key,trivial⟩,g2,fun h' tk dd hs=>?_⟩
   have dd:h'.DictOfH (nestedKind X.prog X.w) s.heap.objs.size [(κ,b,vvv)]:=dd
   have r3:=jHY (o:=DicO B.w s.heap.objs.size [(κ,b,vvv)]) r2 l2 trivial (.inr ⟨_,hH2,jPI,yCJ⟩)
   have r4:=jZS (c:=.dic [(kk,vv)]) r3 l2 (by rw [upd_same]; exact fun z=>nomatch z) ⟨_,upd_same,by show 1≤sizeLine; rw [sizeLine_eq]; omega,.cons k1 k2 rb (rv2.rep ov) rrv .nil⟩
   have he:∃ q,h'.get? s.heap.objs.size=some q:=let ⟨q,_,_,hq,_⟩:=dd; ⟨q,hq⟩
   refine ⟨.ref s.heap.objs.size,_,d_write I2 (by rw [hH2]; exact True.intro) hs he (jYD hw g1 dd),rfl,q2 _ _ r4 ⟨(st2.put hp l2.m).st.snoc hp,st2.eo⟩ _ (Rep.cel ?_).hand⟩
   show (W2.m++[s.heap.objs.size])[t2.h.length]?=some s.heap.objs.size
   rw [← r2.hr.len]; simp
 ·exact q2.elim⟩
end
end Lp
set_option maxHeartbeats 4000000
namespace Lp
open PySem PySem.Spec PyProof.Rows L2
def vCR (ma mb:ME):S→R S (List PV):=fun s=>(ma s).bind fun x s1=>(mb s1).bind fun y s2=>match asM s2.h x,asM s2.h y with
 | some xs,some ys=>if xs.length+ys.length≤sizeLine then .ok (xs++ys) s2 else .bad
 | _,_=>.bad
def nIf (c:S→R S Bool) (a b:S→R S (List PV)):S→R S (List PV):=fun s=>(c s).bind fun k s1=>if k=true then a s1 else b s1
def jHW (i:Nat):MS:=fun s=>match s.e[i]? with
 | some (some (.own xs))=>.ok (.rt (.lst xs)) ⟨s.e.set i (some (.lst xs)),s.h⟩
 | some (some v)=>if isOwn v=true then .bad else .ok (.rt v) s
 | _=>.bad
section
variable {X:Cx} {B:Bs} {N:Ent} {WX:L2.WX} {a b c:Expr} {ma mb:ME} {na nb:S→R S (List PV)} {tc:S→R S Bool} {pos:Pos}
theorem Post.base0 {α β:Type} {W0 W1:Wd} {s0 s1:S} {H0 H1:Hp} {σ:L2.St} {r:R S α} {P:α→Wd→S→Hp→Prop} (hl:W0.m.length=s0.h.length) (st:StepE W0 s0 H0 W1 s1 H1) (q:Post B N WX W0 s0 H0 σ r P) :
  Post B N WX W1 s1 H1 σ r fun v W' s' H'=>StepE W0 s0 H0 W' s' H'∧P v W' s' H' :=
 R.post_mono q (fun v s' q W' H' r' st'=>⟨st.trans hl st',q W' H' r' (st.trans hl st')⟩) fun x s' q W' H' cls d r' st' e nw=>q W' H' cls d r' (st.trans hl st') e fun dd ed=>st.st.tr _ (nw dd ed)
theorem vEE {W W2:Wd} {s s2:S} {H H2:Hp} {σ:L2.St} {Q:VK} {xs:List PV} {vs:List V} (r2:Rel B N W2 s2 σ H2) (st:StepE W s H W2 s2 H2) (rv:Reps B W2 xs vs) (hz:vs.length≤sizeLine)
  (q:Post B N WX W s H σ (R.ok xs s2) fun xs W' s' H'=>∀ p vs,H p=none→Loose N W' s' σ p→H' p=some (.lst vs)→Reps B W' xs vs→Q (.ref p) H') (p:Addr) (hp:H2 p=none):Q (.ref p) (upd H2 p (.lst vs)):=by
 have l:=r2.loose hp
 have hp0:H p=none:=st.st.tr _ hp
 exact q W2 _ (jHY r2 l (o:=.lst vs) hz (.inl hp)) (st.put hp0 l.m) p vs hp0 l upd_same rv
theorem yJZ (ha:SimE X B N WX a ma) (hb:SimE X B N WX b mb):SimN X B N WX (.BinOp a .Add b pos) (vCR ma mb) :=
 (pe_op op_cat ha hb).imp fun σ H Q ⟨W,s,r,h⟩=>⟨W,s,r,R.post_mono (Post.base r.slen (StepE.refl r.hr) h) (fun x s1 q W1 H1 r1 st1 x' rx=>⟨W1,s1,r1,R.post_mono (Post.base r.slen (q W1 H1 r1 st1).1 (q W1 H1 r1 st1).2) (fun y s2 q2 W2 H2 r2 st2 y' ry=>by
  obtain ⟨stB,qF⟩:=q2 W2 H2 r2 st2
  have rx2:=rx.on r1.slen st2.st
  split at qF
  ·rename_i xs ys ex ey
   split at qF
   ·rename_i hz
    obtain ⟨a,vs,rfl,ha,ra⟩:=jPP r2.hr rx2 ex
    obtain ⟨b,ws,rfl,hb,rb⟩:=jPP r2.hr ry ey
    have hz2:(vs++ws).length≤sizeLine:=by rw [List.length_append,← ra.length,← rb.length]; exact hz
    exact ⟨a,b,vs,ws,rfl,rfl,ha,hb,by rw [← ra.length,← rb.length]; exact hz,fun p hp=>vEE r2 stB (ra.append rb) hz2 qF p hp⟩
   ·exact qF.elim
  ·exact qF.elim) fun _ _ q=>q⟩) fun _ _ q=>q⟩
theorem yQX (hc:SimT X B N WX c tc) (ha:SimN X B N WX a na) (hb:SimN X B N WX b nb):SimN X B N WX (.IfExp c a b pos) (nIf tc na nb) :=
 (pe_ifExp hc ha hb).imp fun σ H Q ⟨W,s,r,h⟩=>⟨W,s,r,R.post_mono (Post.base r.slen (StepE.refl r.hr) h) (fun k s1 q W1 H1 r1 st1=>by
  obtain ⟨stB,qF⟩:=q W1 H1 r1 st1
  have go:∀ n:S→R S (List PV),Post B N WX W s H σ (n s1) (fun xs W' s' H'=>∀ p vs,H p=none→Loose N W' s' σ p→H' p=some (.lst vs)→Reps B W' xs vs→Q (.ref p) H')→tN B N WX n σ H1 Q:=fun n q =>
   ⟨W1,s1,r1,R.post_mono (Post.base0 (β:=Unit) r.slen stB q) (fun xs s2 q2 W2 H2 r2 st2 p vs hp l hH rv=>(q2 W2 H2 r2 st2).2 p vs (stB.st.tr _ hp) l hH rv) fun _ _ q=>q⟩
  cases k with
  | true=>exact iteT (go na qF)
  | false=>exact iteF (go nb qF)) fun _ _ q=>q⟩
theorem jCL {i:Nat} {x:Str} {npos:Pos} (hN:X.N[i]?=some x) (hv:Vis X.env.scope x) (hd:(x == ("__debug__" : Str))=false) (hcd:(x == ("__classdict__" : Str))=false):SimS X B N WX (.Return (some (.Name x npos)) pos) (jHW i) :=
 (ps_ret (pe_var hN hv hd hcd)).imp fun D σ H ⟨W,s,r,h⟩=>by
  unfold jHW at h
  split at h
  ·rename_i xs e
   obtain ⟨p,vs,e1,hH,rv,hF,hm,h0,r2⟩:=yRJ r e
   exact ⟨.ref p,e1,h _ σ H _ r2 (Rep.lst upd_same (rv.mono (jCX hF)))⟩
  ·rename_i v _ e
   split at h
   ·exact h.elim
   ·rename_i o
    obtain ⟨v',e',sl⟩:=r.env i v e
    exact ⟨v',e',h W σ H v' r (sl.hand.rep (by simpa using o))⟩
  ·exact h.elim
end
end Lp
set_option maxHeartbeats 4000000
namespace Lp
open PySem PySem.Spec PyProof.Rows L2
def eFz (m:ME):ME:=fun s=>(m s).bind fun v s1=>match v with
 | .cel n=>if s.h.length≤n then match s1.h[n]? with
   | some (some (.lst xs))=>.ok (.lst xs) ⟨s1.e,s1.h.set n none⟩
   | _=>.bad
  else .bad
 | v=>.ok v s1
section
variable {X:Cx} {B:Bs} {N:Ent} {WX:L2.WX} {W W1:Wd} {s s1:S} {σ:L2.St} {H H1:Hp} {n:Nat} {a:Addr} {xs:List PV} {vs:List V} {e:Expr} {m:ME}
theorem jSY {α:Type} {l:List (Option α)} {n k:Nat} {x:α} (e:(l.set n none)[k]?=some (some x)):k≠n∧l[k]?=some (some x):=by
 by_cases hk:n=k
 ·subst hk
  by_cases hl:n < l.length
  ·rw [List.getElem?_set_self hl] at e; cases e
  ·rw [List.getElem?_eq_none (by rw [List.length_set]; omega)] at e; cases e
 ·rw [List.getElem?_set_ne hk] at e
  exact ⟨fun z=>hk z.symm,e⟩
theorem vAB (r:Rel B N W1 s1 σ H1) (en:s1.h[n]?=some (some (.lst xs))) (em:W1.m[n]?=some a) (hH:H1 a=some (.lst vs)) (h0:N.H a=none):Rel B N ⟨upd W1.F a (.lst vs),W1.m⟩ ⟨s1.e,s1.h.set n none⟩ σ H1:=by
 have hF:=(r.hr.cell n _ a en em).1
 have le:W1.Le ⟨upd W1.F a (.lst vs),W1.m⟩:=jCX hF
 have uni:∀ {k:Nat} {b:Addr},k≠n→W1.m[k]?=some b→b≠a:=fun {k b} hk e2 z=>by
  subst z
  exact hk ((List.getElem?_inj (List.getElem?_eq_some_iff.mp e2).1 r.hr.nd).mp (e2.trans em.symm))
 refine ⟨⟨fun b u e=>?_,by rw [List.length_set]; exact r.hr.len,r.hr.nd,r.hr.mt,r.hr.hz,fun b u e=>?_,r.hr.tb,fun k c b e1 e2=>?_⟩,?_,r.len,fun i x e=>?_,r.dis,r.pin.trans le⟩
 ·by_cases hb:b=a
  ·have e:upd W1.F a (.lst vs) b=some u:=e
   rw [hb,upd_same] at e
   rw [hb,hH]; exact e
  ·have e:upd W1.F a (.lst vs) b=some u:=e
   rw [upd_ne hb] at e
   exact r.hr.agree _ _ e
 ·by_cases hb:b=a
  ·have e:upd W1.F a (.lst vs) b=some u:=e
   rw [hb,upd_same] at e
   cases e
   exact jCB
  ·have e:upd W1.F a (.lst vs) b=some u:=e
   rw [upd_ne hb] at e
   exact r.hr.fz b u e
 ·obtain ⟨hk,e3⟩:=jSY e1
  obtain ⟨h1,h2⟩:=r.hr.cell k c b e3 e2
  exact ⟨by show upd W1.F a (.lst vs) b=none; rw [upd_ne (uni hk e2)]; exact h1,h2.mono le fun _ z=>z⟩
 ·have st:=r.st
  refine ⟨st.le.trans le,by rw [List.length_set]; exact st.hl,fun k c hk e=>?_,st.keep,st.tr,fun b e ne nl=>?_,by rw [List.length_set]; exact st.hm,st.mnew⟩
  ·exact st.dead k c hk (jSY e).2
  ·have hb:b≠a:=fun z=>ne.ne (z ▸ h0)
   show upd W1.F a (.lst vs) b=none
   rw [upd_ne hb]; exact st.fgrow b e ne nl
 ·obtain ⟨v,e1,sl⟩:=r.env i x e
  refine ⟨v,e1,?_⟩
  cases x with
  | own ys =>
   obtain ⟨b,us,rfl,h1,h2,h3,h4,h5⟩:=sl
   have ne:b≠a:=fun z=>h4 (z ▸ List.mem_of_getElem? em)
   exact ⟨b,us,rfl,h1,h2.mono le,by show upd W1.F a (.lst vs) b=none; rw [upd_ne ne]; exact h3,h4,h5⟩
  | don ks=>exact DonR.mono le sl
  | _=>exact Rep.mono le sl
theorem yCD (h:SimE X B N WX e m):SimE X B N WX e (eFz m):=h.imp fun σ H Q ⟨W,s,r,h⟩=>⟨W,s,r,R.post_mono (R.post_bind h) (fun v s1 q W1 H1 r1 st1 v' rv=>by
  split at q
  ·rename_i n
   obtain ⟨a,rfl,em⟩:=jGD rv
   split at q
   ·rename_i hn
    split at q
    ·rename_i xs en
     obtain ⟨hF,vs,hH,rvs⟩:=r1.hr.cell n _ a en em
     have hp:H a=none:=st1.st.mnew n a hn em
     have h0:N.H a=none:=r.st.tr _ hp
     have le:W1.Le ⟨upd W1.F a (.lst vs),W1.m⟩:=jCX hF
     refine q _ H1 (vAB r1 en em hH h0) ⟨⟨st1.st.le.trans le,by rw [List.length_set]; exact st1.st.hl,fun k c hk e=>st1.st.dead k c hk (jSY e).2,st1.st.keep,st1.st.tr,fun b e ne nl=>?_,by rw [List.length_set]; exact st1.st.hm,st1.st.mnew⟩,st1.eo⟩ _ (Rep.lst upd_same (rvs.mono le)).hand
     have hb:b≠a:=fun z=>ne.ne (z ▸ hp)
     show upd W1.F a (.lst vs) b=none
     rw [upd_ne hb]; exact st1.st.fgrow b e ne nl
    ·exact q.elim
   ·exact q.elim
  ·exact q W1 H1 r1 st1 v' rv) fun _ _ q=>q⟩
end
end Lp
set_option maxHeartbeats 4000000
namespace Lp
open PySem PySem.Spec PyProof.Rows L2
@[irreducible] def jXM (mo mk mx:ME):ME:=jXE mo mk mx
@[irreducible] def jXL (mk mv:ME):ME:=jXD mk mv
@[irreducible] def yBZ (mv mo mi:ME):MS:=sDPut mv mo mi
@[irreducible] def yBY (i j l:Nat) (ma:MA):MS:=yDX i j l ma
@[irreducible] def yBQ (m:ME):ME:=eFz m
@[irreducible] def jWS (i:Nat):MS:=jHW i
section
variable {P:PV→S→Prop} {PF:Fl→S→Prop} {E:PV→S→Prop} {s:S} {m mo mk mv mx mi:ME} {ma:MA} {i j l:Nat} {c:S→R S Bool} {body:MS} {n:Nat}
theorem yRS (h:(mo s).post (fun d s1=>yFV s1.h d=true∧(mk s1).post (fun k s2=>(mx s2).post (fun z s3=>∃ o,atD s3.h d k=some o∧P (o.getD z) s3) E) E) E):(jXM mo mk mx s).post P E:=by
 unfold jXM jXE
 refine jY (p_mono h (fun d s1 ⟨e,q⟩=>?_) fun _ _ z=>z)
 simp only [if_pos e]
 refine jY (p_mono q (fun k s2 q=>jY (p_mono q (fun z s3 ⟨o,e,q⟩=>?_) fun _ _ z=>z)) fun _ _ z=>z)
 simp only [e]
 exact q
theorem yRR (h:(mk s).post (fun k s1=>(mv s1).post (fun v s2=>((tupK k).isSome=true∧isOwn v=false)∧P (.cel s2.h.length) ⟨s2.e,s2.h++[some (.dic [(k,v)])]⟩) E) E):(jXL mk mv s).post P E:=by
 unfold jXL jXD
 refine jY (p_mono h (fun k s1 q=>jY (p_mono q (fun v s2 ⟨⟨e1,e2⟩,q⟩=>?_) fun _ _ z=>z)) fun _ _ z=>z)
 obtain ⟨κ,e⟩:=Option.isSome_iff_exists.mp e1
 simp only [e]
 rw [if_neg (by rw [e2]; exact Bool.false_ne_true)]
 exact q
theorem vAM (h:(mv s).post (fun v s1=>(mo s1).post (fun d s2=>(mi s2).post (fun k s3=>∃ h',jWM s3.h d k v=some h'∧PF .nx ⟨s3.e,h'⟩) E) E) E):(yBZ mv mo mi s).post PF E:=by
 unfold yBZ sDPut
 refine jY (p_mono h (fun v s1 q=>jY (p_mono q (fun d s2 q=>jY (p_mono q (fun k s3 ⟨h',e,q⟩=>?_) fun _ _ z=>z)) fun _ _ z=>z)) fun _ _ z=>z)
 simp only [e]
 exact q
theorem vAL (h:(ma s).post (fun vs s1=>∃ u v w,vs=[u,v,w]∧vM [u,v,w]=true∧PF .nx ⟨((s1.e.set i (some u)).set j (some v)).set l (some w),s1.h⟩) E):(yBY i j l ma s).post PF E:=by
 unfold yBY yDX
 refine jY (p_mono h (fun vs s1 ⟨u,v,w,e,o,q⟩=>?_) fun _ _ z=>z)
 subst e
 simp only [o,if_true]
 exact q
theorem yKP (h:(c s).post (fun k s1=>br k ((body s1).post (fun f s2=>match f with
   | .nx=>(jGU c body n s2).post PF E
   | .ct=>(jGU c body n s2).post PF E
   | .bk=>PF .nx s2
   | .rt v=>PF (.rt v) s2) E) (PF .nx s1)) E):(jGU c body (n+1) s).post PF E:=by
 unfold jGU
 refine jY (p_mono h (fun k s1 q=>?_) fun _ _ z=>z)
 cases k with
 | false=>rw [if_neg Bool.false_ne_true]; rw [jGX] at q; exact q
 | true =>
  rw [if_pos rfl]
  rw [jGX] at q
  refine jY (p_mono q (fun f s2 q=>?_) fun _ _ z=>z)
  cases f <;> exact q
theorem vAN {a:Int} (e:s.e[i]?=some (some (.int a))) (h:(m s).post (fun v s1=>∃ b,v=.int b∧PF .nx ⟨s1.e.set i (some (.int (a+b))),s1.h⟩) E):(jVI i m s).post PF E:=by
 unfold jVI
 simp only [e]
 refine jY (p_mono h (fun v s1 ⟨b,ev,q⟩=>?_) fun _ _ z=>z)
 subst ev
 exact q
theorem yIS {xs:List PV} (e:s.e[i]?=some (some (.own xs))) (h:PF (.rt (.lst xs)) ⟨s.e.set i (some (.lst xs)),s.h⟩):(jWS i s).post PF E:=by
 unfold jWS jHW
 simp only [e]
 exact h
theorem yUL (h:(m s).post (fun v s1=>∃ n xs,v=.cel n∧s.h.length≤n∧s1.h[n]?=some (some (.lst xs))∧P (.lst xs) ⟨s1.e,s1.h.set n none⟩) E):(yBQ m s).post P E:=by
 unfold yBQ eFz
 refine jY (p_mono h (fun v s1 ⟨n,xs,e,hn,en,q⟩=>?_) fun _ _ z=>z)
 subst e
 simp only [en]
 rw [if_pos hn]
 exact q
theorem jWZ {mo me:ME} (h:(mo s).post (fun o s1=>∃ n xs0,o=.cel n∧jCI s1.h n=some xs0∧(me s1).post (fun v s2=>∃ xs ys,jCI s2.h n=some xs∧jNZ xs v=some ys∧P .non ⟨s2.e,s2.h.set n (some (.lst ys))⟩) E) E):(jKL mo me s).post P E:=by
 unfold jKL
 refine jY (p_mono h (fun o s1 ⟨n,xs0,e,e0,q⟩=>?_) fun _ _ z=>z)
 subst e
 simp only [yFX,e0]
 refine jY (p_mono q (fun v s2 ⟨xs,ys,e1,e2,q⟩=>?_) fun _ _ z=>z)
 simp only [e1,e2]
 exact q
theorem vAK {i j:Nat} {mn:S→R S (List PV)} {mb:ME} (h:(mn s).post (fun xs s1=>(mb s1).post (fun v s2=>isOwn v=false∧PF .nx ⟨(s2.e.set i (some (.own xs))).set j (some v),s2.h⟩) E) E):(jVH i j mn mb s).post PF E:=by
 unfold jVH
 refine jY (p_mono h (fun xs s1 q=>jY (p_mono q (fun v s2 ⟨o,q⟩=>?_) fun _ _ z=>z)) fun _ _ z=>z)
 rw [if_neg (by rw [o]; exact Bool.false_ne_true)]
 exact q
theorem jTA {I:Nat→S→Prop} (h0:∀ s,¬ I 0 s) (hs:∀ n s,I (n+1) s→(c s).post (fun k s1=>br k ((body s1).post (fun f s2=>f=.nx∧I n s2) E) (PF .nx s1)) E):∀ n s,I n s→(jGU c body n s).post PF E
 | 0,s,i=>absurd i (h0 s)
 | n+1,s,i=>yKP (p_mono (hs n s i) (fun k s1 q=>by
   rw [jGX] at q ⊢
   cases k with
   | false=>exact q
   | true=>exact p_mono q (fun f s2 ⟨e,i⟩=>by subst e; exact jTA h0 hs n s2 i) fun _ _ z=>z) fun _ _ z=>z)
end
end Lp
set_option maxHeartbeats 4000000
namespace Lp
open PySem PySem.Spec PyProof.Rows L2
def obsAG (as:List Addr) (fa:List FactL) (fn:List DefL) (ts:List He.Tab) (g:Addr→Option Obj):AlL:=yTV fa fn ts g as
theorem yRI {as:List Addr} {fa:List FactL} {fn:List DefL} {ts:List He.Tab} {w:World} {h:Heap} (e:obsAG as fa fn ts h.get?=yMF fn ts w):∃ K T,SayL fa fn ts w h K T:=by
 refine ⟨_,_,He.frG_in,fun P hP=>?_,e⟩
 obtain ⟨h1,h2⟩:=List.mem_filter.mp hP
 cases q:h.get? P with
 | none=>rw [q] at h2; cases h2
 | some o =>
  rw [q] at h2
  refine ⟨congrArg some (yLO h2),yCM fun z=>?_⟩
  obtain ⟨_,z2⟩:=List.mem_filter.mp z
  rw [q] at z2
  have h2:jVM o=true:=h2
  have z2:(!jVM o)=true:=z2
  rw [h2] at z2
  cases z2
def hookA (as:List Addr) (fa:List FactL) (fn:List DefL) (ts:List He.Tab):PySem.W.Hook where
 α:=AlL
 obs:=fun s=>obsAG as fa fn ts s.heap.get?
 val:=fun w=>yMF fn ts w
 says:=fun w h=>∃ K T,SayL fa fn ts w h K T
 of:=fun _ _ e=>yRI e
 keeps:=fun _ _ _ ⟨K,T,hK,hT,c⟩ k=>⟨K,T,PySem.W.Frag.In.keeps hK k,fun P hP=>⟨k _ _ (hT P hP).1,(hT P hP).2⟩,c⟩
theorem obsAG_eq {as:List Addr} {fa:List FactL} {fn:List DefL} {ts:List He.Tab} {g:Addr→Option Obj} {s:Shared} (h:∀ a,g a=s.heap.get? a):obsAG as fa fn ts g=(hookA as fa fn ts).obs s:=by
 have e:g=s.heap.get?:=funext h
 rw [e] <;> rfl
open HandSHeadRun PySem.W PySem.Calls in
abbrev RunL (r:PySem.W.OpenRow) (q:Program) (M:Nat) (loose:List PySem.Str) (w:World):Prop:=∀ os:OsState,
 (endF (stepQ (denQ tabQ) r.prog w) M r.prog w os).map (fun s=>(looksF r.prog (boot_heap w.params) s.abs,HandSHeadRun.seenQ q loose (importedModules r.prog.main.body) (fun s=>xlAt q [] s&&recOk r.toRowW.records s) s.abs))=some (true,openGood q loose)
open HandSHeadRun in
abbrev RunO (r:PySem.W.OpenRow) (H:PySem.W.Hook) (ob:PySem.W.SharedT→H.α) (M:Nat) (w:World):Prop:=∀ os:OsState,
 (endF (stepQ (denQ tabQ) r.prog w) M r.prog w os).map ob=some (H.val w)
open HandSHeadRun PySem.W PySem.Calls in
abbrev RunLa (r:PySem.W.OpenRow) (M:Nat) (w:World):Prop:=∀ os:OsState,(endF (stepQ (denQ tabQ) r.prog w) M r.prog w os).map (fun s=>looksF r.prog (boot_heap w.params) s.abs)=some true
open HandSHeadRun PySem.W PySem.Calls in
abbrev RunLb (r:PySem.W.OpenRow) (q:Program) (M:Nat) (loose:List PySem.Str) (w:World):Prop:=∀ os:OsState,
 (endF (stepQ (denQ tabQ) r.prog w) M r.prog w os).map (fun s=>HandSHeadRun.seenQ q loose (importedModules r.prog.main.body) (fun s=>xlAt q [] s&&recOk r.toRowW.records s) s.abs)=some (openGood q loose)
theorem yGQ {r:PySem.W.OpenRow} {q:Program} {M:Nat} {loose:List PySem.Str} {w:World} (a:RunLa r M w) (b:RunLb r q M loose w):RunL r q M loose w:=by
 intro os
 have a:=a os
 have b:=b os
 cases e:HandSHeadRun.endF (HandSHeadRun.stepQ (HandSHeadRun.denQ HandSHeadRun.tabQ) r.prog w) M r.prog w os with
 | none=>rw [e] at a; cases a
 | some s =>
  rw [e] at a b
  injection a with a
  injection b with b
  exact congrArg some (by rw [Prod.mk.injEq]; exact ⟨a,b⟩)
theorem yGP {r:PySem.W.OpenRow} {q:Program} {H:PySem.W.Hook} {ob:PySem.W.SharedT→H.α} {M:Nat} {loose:List PySem.Str} {w:World} (a:RunL r q M loose w) (b:RunO r H ob M w):HandSHeadRun.RunEq r q H ob M loose w:=by
 intro os
 have a:=a os
 have b:=b os
 cases e:HandSHeadRun.endF (HandSHeadRun.stepQ (HandSHeadRun.denQ HandSHeadRun.tabQ) r.prog w) M r.prog w os with
 | none=>rw [e] at a; cases a
 | some s =>
  rw [e] at a b
  injection a with a
  injection b with b
  injection a with a1 a2
  show some (_,_,_)=_
  rw [a1,a2,b]
end Lp
set_option maxHeartbeats 4000000
namespace Lp
open PySem PySem.Spec PyProof.Rows L2 LamX NdefX PySem.W
section
variable {α:Type} {le:α→α→Bool}
def jKG (le:α→α→Bool) (a:α):List α→List α
 | []=>[a]
 | b :: r=>if le a b=true then a :: b :: r else b :: jKG le a r
def jAK (le:α→α→Bool):List α→List α
 | []=>[]
 | a :: r=>jKG le a (jAK le r)
theorem yAE {a:α} {l₂:List α} (h2:∀ b∈l₂,le a b=true):∀ {l₁:List α},(∀ b,b∈l₁→(!le a b)=true)→jKG le a (l₁++l₂)=l₁++a :: l₂
 | [],_=>by
  cases l₂ with
  | nil=>rfl
  | cons b r =>
   show (if le a b=true then a :: b :: r else b :: jKG le a r)=_
   rw [if_pos (h2 b (by simp))]
   rfl
 | b :: r,h=>by
  have hb:le a b=false:=by simpa using h b (by simp)
  show (if le a b=true then a :: b :: (r++l₂) else b :: jKG le a (r++l₂))=_
  rw [if_neg (by rw [hb]; exact Bool.false_ne_true),yAE h2 fun c hc=>h c (by simp [hc])]
  rfl
theorem yAD (tr:∀ a b c:α,le a b=true→le b c=true→le a c=true) (to:∀ a b:α,(le a b||le b a)=true):∀ l:List α,l.mergeSort le=jAK le l
 | []=>by rw [List.mergeSort_nil]; rfl
 | a :: l=>by
  obtain ⟨l₁,l₂,e1,e2,h1⟩:=List.mergeSort_cons tr to a l
  have hp:=List.pairwise_mergeSort (le:=le) tr to (a :: l)
  rw [e1] at hp
  have h2:∀ b∈l₂,le a b=true:=by
   have:=(List.pairwise_append.mp hp).2.1
   exact (List.pairwise_cons.mp this).1
  rw [e1]
  show _=jKG le a (jAK le l)
  rw [← yAD tr to l,e2,yAE h2 h1]
end
theorem yHE {β:Type} (k:β→PyData) (a b c:β) (h1:dataLe false k a b=true) (h2:dataLe false k b c=true):dataLe false k a c=true:=by
 rw [dataLe_eq] at h1 h2 ⊢
 have h1:(!dataLt (k b) (k a))=true:=h1
 have h2:(!dataLt (k c) (k b))=true:=h2
 show (!dataLt (k c) (k a))=true
 cases e:dataLt (k c) (k a) with
 | false=>rfl
 | true =>
  rcases lex_negTrans (O:=itemOrd) (keyToks (k c)) (keyToks (k b)) (keyToks (k a)) e with z | z
  ·have z:dataLt (k c) (k b)=true:=z
   rw [z] at h2; cases h2
  ·have z:dataLt (k b) (k a)=true:=z
   rw [z] at h1; cases h1
theorem yHF {β:Type} (k:β→PyData) (a b:β):(dataLe false k a b||dataLe false k b a)=true:=by
 rw [dataLe_eq]
 show (!dataLt (k b) (k a)||!dataLt (k a) (k b))=true
 cases e1:dataLt (k b) (k a) with
 | false=>rfl
 | true =>
  cases e2:dataLt (k a) (k b) with
  | false=>rfl
  | true =>
   have:=lex_trans (O:=itemOrd) _ _ _ e1 e2
   rw [lex_irrefl] at this
   cases this
theorem yBM {β:Type} (k:β→PyData) (l:List β):l.mergeSort (dataLe false k)=jAK (dataLe false k) l:=yAD (yHE k) (yHF k) l
theorem yAG {α β:Type} (f:α→β) {le:α→α→Bool} {le':β→β→Bool} {a:α}:∀ {l:List α},(∀ b∈l,le a b=le' (f a) (f b))→(jKG le a l).map f=jKG le' (f a) (l.map f)
 | [],_=>rfl
 | b :: r,h=>by
  rw [List.map_cons]
  unfold jKG
  rw [← h b (by simp)]
  split
  ·rfl
  ·rw [List.map_cons,yAG f fun c hc=>h c (by simp [hc])]
theorem yAF {α:Type} {le:α→α→Bool} {a x:α}:∀ {l:List α},x∈jKG le a l↔x=a∨x∈l
 | []=>by simp [jKG]
 | b :: r=>by
  unfold jKG
  split
  ·simp
  ·simp only [List.mem_cons,yAF (l:=r)]
   constructor
   ·rintro (h | h | h)
    ·exact .inr (.inl h)
    ·exact .inl h
    ·exact .inr (.inr h)
   ·rintro (h | h | h)
    ·exact .inr (.inl h)
    ·exact .inl h
    ·exact .inr (.inr h)
theorem yDI {α:Type} {le:α→α→Bool} {x:α}:∀ {l:List α},x∈jAK le l↔x∈l
 | []=>by simp [jAK]
 | b :: r=>by
  show x∈jKG le b (jAK le r)↔_
  rw [yAF,yDI (l:=r)]
  simp
theorem jNQ {α β:Type} (f:α→β) {le:α→α→Bool} {le':β→β→Bool}:∀ {l:List α},(∀ a∈l,∀ b∈l,le a b=le' (f a) (f b))→(jAK le l).map f=jAK le' (l.map f)
 | [],_=>rfl
 | a :: r,h=>by
  show (jKG le a (jAK le r)).map f=jKG le' (f a) (jAK le' (r.map f))
  rw [yAG f (fun b hb=>h a (by simp) b (by simp [yDI.mp hb])),jNQ f fun c hc d hd=>h c (by simp [hc]) d (by simp [hd])]
theorem yAH {α:Type} {le:α→α→Bool} {a:α}:∀ {l:List α},(jKG le a l).length=l.length+1
 | []=>rfl
 | b :: r=>by
  unfold jKG
  split
  ·rfl
  ·rw [List.length_cons,yAH (l:=r),List.length_cons]
theorem jTM {α:Type} {le:α→α→Bool}:∀ {l:List α},(jAK le l).length=l.length
 | []=>rfl
 | a :: r=>by
  show (jKG le a (jAK le r)).length=_
  rw [yAH,jTM,List.length_cons]
mutual
def jKK:PyData→Bool
 | .none=>true
 | .bool _=>true
 | .int _=>true
 | .str _=>true
 | .tuple xs=>noLsts xs
 | _=>false
def noLsts:List PyData→Bool
 | []=>true
 | x :: xs=>jKK x&&noLsts xs
end
mutual
theorem jVZ {h:Heap}:∀ {v:Value} {d:PyData} {as:List Addr},Reads h v d as→jKK d=true→as=[]
 | _,_,_,.none,_=>rfl
 | _,_,_,.bool _,_=>rfl
 | _,_,_,.int _ _,_=>rfl
 | _,_,_,.str _ _,_=>rfl
 | _,_,_,.list _ _ _ _,e=>by simp [jKK] at e
 | _,_,_,.tuple _ _ _ r,e=>readsAll_nil r (by simpa [jKK] using e)
 | _,_,_,.dict _ _ _ _ _,e=>by simp [jKK] at e
theorem readsAll_nil {h:Heap}:∀ {v:List Value} {d:List PyData} {as:List Addr},ReadsAll h v d as→noLsts d=true→as=[]
 | _,_,_,.nil,_=>rfl
 | _,_,_,.cons r t,e=>by
  rw [noLsts,Bool.and_eq_true] at e
  rw [jVZ r e.1,readsAll_nil t e.2]; rfl
end
structure LamP (X:Cx) (d:LamD) (a:Str):Prop where
 kind:d.scope.kind=.function
 co:d.scope.isCoroutine=false
 gen:d.scope.isGenerator=false
 own:∀ y∈d.scope.names,y.2≠.cell
 free:∀ y∈d.scope.names,y.2=.free→X.env.scope.names.lookup y.1=some .cell∨X.env.scope.names.lookup y.1=some .free
 df:defaultsOf d.params X.env=([],[])
 bind:∀ (q:Str) (cl:List (Str × Addr)) (pm cdv ct v:Value),bindArgs (lfn q d.params d.body d.scope cl .none pm cdv ct) ⟨[v],[]⟩=pure [(a,v)]
 loc:d.scope.names.lookup a=some .local
theorem LamP.has {X:Cx} {d:LamD} {a:Str} (L:LamP X d a) (ok:X.Ok):∀ y∈d.scope.names,y.2=.free→∃ c,X.env.cells.lookup y.1=some c:=fun y hy e=>by
 rcases L.free y hy e with k | k
 ·exact ok.has _ (.inl k)
 ·exact ok.has _ (.inr k)
def FunH (X:Cx) (H:Hp) (d:LamD) (f c1:Addr):Prop:=∃ (pm ctv:Value),H f=some (FrzF (jZF X d .none pm c1 ctv))∧H c1=some (CodeO c1 (yUO X))
def vDD (X:Cx) (B:Bs) (N:Ent) (d:LamD):TE:=fun σ H Q=>∃ W s,Rel B N W s σ H∧∀ W' H' f c1,Rel B N W' s σ H'→Step W s.h H W' s.h H'→FunH X H' d f c1→Q (.ref f) H'
section
variable {X:Cx} {B:Bs} {N:Ent} {WX:L2.WX} {d:LamD} {pos:Pos} {a:Str}
theorem yRP (LT:LamT X B) (L:LamP X d a):PE X (.Lambda d.params d.body d.scope pos) (vDD X B N d):=by
 refine ⟨fun pins s σ H Q I h=>?_⟩
 obtain ⟨W,s0,r,k⟩:=h
 obtain ⟨c,P,TB,hcode,hmT,hu⟩:=LT.ex
 rw [arm_eval_Lambda,L.df]
 show wpAny _ _ (do let dv ← evalAll []; let kdv ← holding dv (evalAllOpt []); makeFunction "<lambda>" (X.env.qual ++ "<lambda>") d.params (.expr d.body) d.scope X.env dv kdv [] pos pos.line) _ _ s
 refine wpAny_bind (wpAny_pure (wpAny_bind (wpAny_holding (wpAny_pure ?_))))
 rw [makeFunction_eq]
 simp only [List.zip_nil_right,List.filterMap_nil,List.isEmpty_nil,if_true,pure_bind]
 refine yLL I TB hcode hmT hu r.hr.tb (L.has I.ok) fun f c1 pm ctv H1 s1 lh t hf hc J=>⟨.ref f,_,J,rfl,?_⟩
 have st1:Step W s0.h H W s0.h H1:=jSW r.hr lh
 have r1:=jBR r (yAI r.hr lh t) st1
 have r3:=jLT (o:=FrzF (jZF X d .none pm c1 ctv)) r1 hf trivial
 have st3:=jHC (o:=FrzF (jZF X d .none pm c1 ctv)) r1.hr hf
 have ne:c1≠f:=fun z=>by rw [z,hf] at hc; cases hc
 exact k _ _ f c1 r3 (st1.trans r.slen st3) ⟨pm,ctv,upd_same,by rw [upd_ne ne]; exact hc⟩
end
section
variable {X:Cx} {pins:List (Addr × Obj)} {σ:L2.St} {H:Hp} {s:Shared} {d:LamD} {a:Str} {f c1:Addr} {u:Value} {k:PyData}
theorem yLM (I:Inv X pins σ H s) (L:LamP X d a) (hr:X.A.depth < recursionLimit) (hF:FunH X H d f c1)
  (body:∀ (h₁:Heap) (tk:Nat),h₁.Ns s.heap.objs.size (fun y=>[(a,u)].reverse.lookup y)→(∀ b o,s.heap.get? b=some o→h₁.get? b=some o) →
   wpAny (model X.prog X.w) (X.A.in1.in1.deeper (lamEnv X d.scope s.heap.objs.size f c1)) (eval d.body (lamEnv X d.scope s.heap.objs.size f c1)) (KeyPure k s) (fun _ _=>False) { s with heap:=h₁,toks:=tk }) :
  wpAny (model X.prog X.w) X.A.in1.in1 (call (.ref f) [u]) (KeyPure k s) (fun _ _=>False) s:=by
 obtain ⟨pm,ctv,hf,hc⟩:=hF
 have of1:s.heap.get? f=some (jZF X d .none pm c1 ctv):=(I.hok f _ hf).1
 obtain ⟨⟨oc,vs,t,hoc,hdc,hvc⟩,_,_⟩:=I.hok c1 _ hc
 have rc:codeAny (model X.prog X.w) X.A.in1.in1 (.call (.ref f) ⟨[u],[]⟩) (fun r s'=>match r with | .ok (.ret v)=>KeyPure k s v s' | _=>False) s:=by
  refine PySem.W.kla_callFunE hr of1 rfl L.co L.gen rfl ⟨c1,oc,vs,t,rfl,hoc,hdc,hvc⟩ ?_
  rw [L.bind]
  refine wpAny_pure ?_
  refine wpAny_newFunctionEnv L.own (fun x hx=>by rw [List.mem_singleton] at hx; rw [hx]; exact L.loc) (fun h₁ hns hsb=>⟨I.nolimit.fresh _ hsb,?_⟩) L.kind
  show codeAny _ _ (.expr d.body (lamEnv X d.scope s.heap.objs.size f c1)) _ _
  have kp:∀ b o,s.heap.get? b=some o→h₁.get? b=some o:=fun b o e=>hsb.extBut b o (Nat.ne_of_lt (Heap.lt_size e)) (Heap.get?_push_of_some _ e)
  exact PySem.W.kla_codeExpr (wpAny_mono (body h₁ _ hns kp) (fun v s' q=>q) fun _ _ q=>q.elim)
 refine wpAny_call (codeAny_mono rc fun r s' hq=>?_)
 cases r with
 | error e=>exact hq.elim
 | ok fl =>
  cases fl with
  | ret v=>exact hq
  | next=>exact hq.elim
  | brk=>exact hq.elim
  | cont=>exact hq.elim
end
def KeyTurn (X:Cx) (σ:L2.St) (H:Hp) (f:Addr) (v:V) (k:PyData):Prop:=∀ (pins:List (Addr × Obj)) (s:Shared) (u:Value),Inv X pins σ H s→RelV v u→wpAny (model X.prog X.w) X.A.in1.in1 (call (.ref f) [u]) (KeyPure k s) (fun _ _=>False) s
def SortK (X:Cx) (σ:L2.St) (Q:VK) (x z:V) (H2:Hp):Prop:=∃ (a f:Addr) (bs:List TrP),x=.ref a∧z=.ref f∧SqL X.K H2 a (bs.map (·.2.1))∧(∀ p∈bs,KeyTurn X σ H2 f p.2.1 p.2.2)∧AllAlike (bs.map (·.2.2))∧Sortable (bs.map (·.2.2))∧bs.length≤sizeLine∧(∀ p∈bs,p.2.2.depth≤64) ∧
 ∀ l,H2 l=none→Q (.ref l) (upd H2 l (.lst ((bs.mergeSort (dataLe false (·.2.2))).map (·.2.1))))
def yUZ (X:Cx) (te tl:TE):TE:=fun σ H Q=>te σ H fun x H1=>tl σ H1 fun z H2=>SortK X σ Q x z H2
def one1 (k:V→Hp→Prop):List V→Hp→Prop:=fun xs H=>match xs with
 | [x]=>k x H
 | _=>False
theorem yEW {k:V→Hp→Prop} {xs:List V} {H:Hp} (h:one1 k xs H):∃ x,xs=[x]∧k x H:=by
 unfold one1 at h
 split at h
 ·exact ⟨_,rfl,h⟩
 ·exact h.elim
theorem yKO {X:Cx} {e lam:Expr} {te tl:TE} {p pos kp:Pos} (hu:X.A.units+68 < cLine) (hg:Gl X "sorted") (hm:X.mg "sorted" = none) (he:PE X e te) (hl:PE X lam tl)
  (hs:backTo pos (starEach [e] X.env)=(false,eval e X.env) :: backTo pos (starEach [] X.env)) (hst:starEach [e] X.env=(false,eval e X.env) :: starEach [] X.env) (hpl:(backTo pos (starEach [e] X.env)).any (·.1)=false):PE X (.Call (.Name "sorted" p) [e] [⟨some "key", lam,kp⟩] pos) (yUZ X te tl):=by
 refine ⟨fun pins s σ H Q I h=>?_⟩
 refine wpAny_Call_Name_kw (ld_blt I hg hm PyProof.Rows.boot_sorted ?_)
 refine PyProof.Rows.callWith_kw (thn ((pa_cons he pa_nil hst).run pos pins s σ H (one1 fun x H1=>tl σ H1 fun z H2=>SortK X σ Q x z H2) I h) fun us s1 ⟨vs,H1,I1,r1,q1⟩=>?_) hs hpl rfl rfl
 obtain ⟨x,rfl,q1⟩:=yEW q1
 refine thn ((pk_cons hl pk_nil).run pos pins s1 σ H1 (one1 fun z H2=>SortK X σ Q x z H2) I1 q1) fun ws s2 ⟨zs,H2,I2,r2,q2⟩=>?_
 obtain ⟨z,rfl,a,f,bs,rfl,rfl,hq,kt,hal,hk,hz,hdep,q⟩:=yEW q2
 obtain rfl:=Vals.ref1 r1
 obtain rfl:=Vals.ref1 r2
 show wpAny _ _ (call (.builtin "sorted") [.ref a] [("key", .ref f)]) _ _ _
 obtain ⟨its,rv,hl2,_⟩:=I2.list hq
 have e:=yFJ rv
 refine sorted_key_data (R:=fun v p=>RelV p.2.1 v) (b:=false) (fun p:TrP=>p.2.2) hl2.isList e hal hk hz (fun p hp=>by have:=hdep p hp; omega) (PyProof.Rows.ksk_s1 _ _) (fun _=>PyProof.Rows.ksk_l1 _ _) (fun _=>ksk_t1 _ _)
  (fun v p hR hp h tk kp=>kt p hp pins _ v (I2.kept kp) hR) fun out c h' tk kp hn hD ho eo=>?_
 have hlen:((bs.mergeSort (dataLe false (·.2.2))).map (·.2.1)).length≤sizeLine:=by rw [List.length_map,List.length_mergeSort]; exact hz
 exact ⟨.ref _,upd H2 (s2.heap.objs.size+1) (.lst ((bs.mergeSort (dataLe false (·.2.2))).map (·.2.1))),I2.laid (t':=tk) kp (Nat.le_succ _) ⟨hlen,out,c,jOU eo,hD⟩,rfl,q _ (I2.hok.fresh (Nat.le_succ _))⟩
section
variable {X:Cx} {σ:L2.St} {H:Hp} {d:LamD} {a x:Str} {f c1 t:Addr} {ks xs:List V} {i:Int} {z:V} {dk:PyData} {ds:List PyData} {px pa p1 p2 p3 p4 ps:Pos} {j k:Nat}
theorem yJP (L:LamP X d a) (hr:X.A.depth < recursionLimit) (hF:FunH X H d f c1) (hb:d.body=.Tuple [.Call (.Name "len" p1) [.Name a p2] [] p3,.Name a p4] k ps) (hlen:X.mg "len" = none) (hg:d.scope.names.lookup ("len" : Str)=some .globalImplicit) (hT:SqT X.K H t xs) (hd:Dp X.K H (.ref t) (.tuple ds)) (nl:noLsts ds=true)
  (d3:(a == ("__debug__" : Str))=false):KeyTurn X σ H f (.ref t) (.tuple [.int xs.length,.tuple ds]):=by
 intro pins s u I ru
 obtain rfl:u=Value.ref t:=ru
 refine yLM I L hr hF fun h₁ tk hns kp=>?_
 rw [hb]
 have I2:Inv X pins σ H { s with heap:=h₁,toks:=tk }:=I.kept kp
 obtain ⟨its,r,pl,hz⟩:=I2.tuple hT
 obtain ⟨as,hrd⟩:=Dp.reads I2 _ _ _ hd rfl
 have ea:=jVZ hrd (by rw [jKK]; exact nl)
 subst ea
 have hl:=r.length
 have hn:=line63
 obtain ⟨mb,b1,b2⟩:=I2.mod.blt
 have ldA:∀ {Q:Value→Shared→Prop} {E:Value→Shared→Prop} {A:Around} {pos:Pos} {tk:Nat},Q (.ref t) { s with heap:=h₁,toks:=tk }→wpAny (model X.prog X.w) A (eval (.Name a pos) (lamEnv X d.scope s.heap.objs.size f c1)) Q E { s with heap:=h₁,toks:=tk }:=fun q=>wpAny_Name (wpAny_loadName_local L.kind L.loc hns (v:=.ref t) (by show List.lookup a [(a,Value.ref t)]=_; simp) q) d3
 refine wpAny_Tuple_spliced ?_
 refine Calls.spliced_cons ?_
 refine wpAny_Call_Name_kw (Calls.Name_function_global L.kind hg (Calls.loadGlobal_builtin (I2.mod.glob.keeps I2.bk) hlen (b1.keeps I2.bk) ((b2 "len" (by decide)).trans PySem.boot_len) ?_) (by decide))
 refine PyProof.Rows.callWith_builtin1 (Calls.spliced_cons (ldA (Calls.spliced_nil ?_))) rfl rfl
 refine len_tuple pl (by simp only [List.size_toArray] <;> omega) ?_
 refine Calls.spliced_cons (ldA (Calls.spliced_nil ?_))
 refine ⟨by show 2≤sizeLine; rw [sizeLine_eq]; exact Nat.le_of_ble_eq_true rfl,_,_,rfl,fun b o e=>Heap.get?_push_of_some _ (kp b o e),?_⟩
 refine Reads.tuple (vs:=[.int its.toArray.size _,.ref t].toArray) (Heap.get?_push_size _ rfl) rfl rfl ?_
 rw [List.size_toArray,← hl]
 exact ReadsAll.cons (as:=[]) (.int _ _) (ReadsAll.cons (as:=[]) (PyProof.Rows.Reads.keeps (fun b o e=>Heap.get?_push_of_some _ e) hrd) .nil)
end
def keysOf (kf:PV→Option PV):List PV→Option (List (PV × PV))
 | []=>some []
 | x :: r=>match kf x,keysOf kf r with
  | some k,some ps=>some ((k,x) :: ps)
  | _,_=>none
def yCO (kf:List (Option PV)→PV→Option PV) (ms:ME):ME:=fun s=>(ms s).bind fun l s1=>match asL s1.h l with
 | some xs=>match keysOf (kf s1.e) xs with
  | some ps=>match toDs (ps.map (·.1)) with
   | some ds=>if (vDG ds&&noLsts ds)=true then .ok (.lst ((jAK (fun a b=>leP a.1 b.1) ps).map (·.2))) s1 else .bad
   | none=>.bad
  | none=>.bad
 | none=>.bad
def kLen:List (Option PV)→PV→Option PV:=fun _ x=>match x with
 | .tup xs=>some (.tup [.int xs.length,x])
 | _=>none
structure KfOk (X:Cx) (B:Bs) (N:Ent) (d:LamD) (kf:List (Option PV)→PV→Option PV):Prop where
 ok:∀ (W:Wd) (s:S) (σ:L2.St) (H:Hp) (f c1:Addr) (x k:PV) (v:V) (dk:PyData),Rel B N W s σ H→FunH X H d f c1→Rep B W x v→kf s.e x=some k→toD k=some dk→jKK dk=true→KeyTurn X σ H f v dk
abbrev Q4:Type:=(PV × PV) × TrP
theorem quads {kf:PV→Option PV} {P:Q4→Prop}:∀ {xs:List PV} {vs:List V} {ps:List (PV × PV)} {ds:List PyData} {B:Bs} {W:Wd},Reps B W xs vs→keysOf kf xs=some ps→toDs (ps.map (·.1))=some ds→(∀ x v k d,Rep B W x v→kf x=some k→toD k=some d→P ((k,x),(x,v,d))) →
  ∃ qs:List Q4,qs.map (·.1)=ps∧qs.map (·.2.2.1)=vs∧qs.map (·.2.2.2)=ds∧∀ q∈qs,P q∧encP q.1.1=q.2.2.2∧Rep B W q.1.2 q.2.2.1
 | [],_,_,_,_,_,.nil,e1,e2,_=>by
  cases e1
  cases e2
  exact ⟨[],rfl,rfl,rfl,fun _ h=>nomatch h⟩
 | x :: xs,_,_,_,B,W,.cons (v:=v) (vs:=vs) r t,e1,e2,hP=>by
  unfold keysOf at e1
  split at e1
  ·rename_i k ps' ek eps
   cases e1
   rw [List.map_cons,toDs] at e2
   split at e2
   ·rename_i d ds' ed eds
    cases e2
    obtain ⟨qs,h1,h2,h3,h4⟩:=quads t eps eds hP
    refine ⟨((k,x),(x,v,d)) :: qs,by rw [List.map_cons,h1],by rw [List.map_cons,h2],by rw [List.map_cons,h3],fun q hq=>?_⟩
    rcases List.mem_cons.mp hq with rfl | hq
    ·exact ⟨hP x v k d r ek ed,by unfold encP; rw [ed]; rfl,r⟩
    ·exact h4 q hq
   ·cases e2
  ·cases e1
theorem yKL {B:Bs} {W:Wd} {qs:List Q4} (h:∀ p∈qs,Rep B W p.1.2 p.2.2.1):Reps B W (qs.map (·.1.2)) (qs.map (·.2.2.1)):=by
 induction qs with
 | nil=>exact .nil
 | cons p ps ih=>exact .cons (h p (by simp)) (ih fun q hq=>h q (by simp [hq]))
theorem vER {ds:List PyData} (h:ds.all dOk=true):∀ d∈ds,d.depth≤64:=fun d hd=>of_decide_eq_true (List.all_eq_true.mp h d hd)
theorem jTJ:∀ {ds:List PyData},noLsts ds=true→∀ d∈ds,jKK d=true
 | [],_,_,h=>nomatch h
 | x :: r,e,d,h=>by
  rw [noLsts,Bool.and_eq_true] at e
  rcases List.mem_cons.mp h with rfl | h
  ·exact e.1
  ·exact jTJ e.2 d h
section
variable {X:Cx} {B:Bs} {N:Ent} {WX:L2.WX} {d:LamD} {a:Str} {e:Expr} {ms:ME} {p pos kp lp:Pos} {kf:List (Option PV)→PV→Option PV}
theorem yGG (hK:X.K=B.K) (LT:LamT X B) (hu:U9 X.A) (hg:Gl X "sorted") (hm:X.mg "sorted" = none) (he:SimE X B N WX e ms) (L:LamP X d a) (K:KfOk X B N d kf)
  (hs:backTo pos (starEach [e] X.env)=(false,eval e X.env) :: backTo pos (starEach [] X.env)) (hst:starEach [e] X.env=(false,eval e X.env) :: starEach [] X.env) (hpl:(backTo pos (starEach [e] X.env)).any (·.1)=false):SimE X B N WX (.Call (.Name "sorted" p) [e] [⟨some "key", .Lambda d.params d.body d.scope lp,kp⟩] pos) (yCO kf ms):=by
 have hu:X.A.units+200 < cLine:=hu
 refine (yKO (by omega) hg hm he (yRP (N:=N) LT L) hs hst hpl).imp fun σ H Q ⟨W,s,r,h⟩=>⟨W,s,r,(h.bind r.slen).mono fun l W1 s1 H1 r1 st1 q l' rl=>⟨W1,s1,r1,fun W2 H2 f c1 r2 st2 hF=>?_⟩⟩
 split at q
 ·rename_i xs ex
  split at q
  ·rename_i ps ep
   split at q
   ·rename_i ds ed
    split at q
    ·rename_i hb
     obtain ⟨hb,nl⟩:=Bool.and_eq_true_iff.mp hb
     have rl2:RepT B W2 H2 l l':=rl.on r1.slen st2
     obtain ⟨a',vs,rfl,h1,rs⟩:=jKN r2.hr rl2 ex
     obtain ⟨qs,t1,t2,t3,t4⟩:=quads (P:=fun q=>KeyTurn X σ H2 f q.2.2.1 q.2.2.2∨jKK q.2.2.2=false) rs ep ed fun x v k dd rx ek edd=>by
      by_cases nn:jKK dd=true
      ·exact .inl (K.ok W2 s1 σ H2 f c1 x k v dd r2 hF rx ek edd nn)
      ·exact .inr (by simpa using nn)
     obtain ⟨b1,b2⟩:=Bool.and_eq_true_iff.mp hb
     obtain ⟨b3,b4⟩:=Bool.and_eq_true_iff.mp b1
     obtain ⟨b5,b6⟩:=Bool.and_eq_true_iff.mp b2
     have t3':(qs.map (·.2)).map (·.2.2)=ds:=by rw [List.map_map]; exact t3
     have hl:(qs.map (·.2)).length≤sizeLine:=by
      have:(qs.map (·.2)).length=ds.length:=by rw [← t3',List.length_map,List.length_map,List.length_map]
      rw [this,sizeLine_eq]; exact of_decide_eq_true b6
     refine ⟨a',f,qs.map (·.2),rfl,rfl,?_,fun p hp=>?_,?_,?_,hl,fun p hp=>?_,fun l hp=>?_⟩
     ·rw [List.map_map]
      show SqL X.K H2 a' (qs.map (·.2.2.1))
      rw [t2]; exact jNG hK h1
     ·obtain ⟨q,hq,rfl⟩:=List.mem_map.mp hp
      rcases (t4 q hq).1 with k | k
      ·exact k
      ·have:=jTJ nl q.2.2.2 (by rw [← t3]; exact List.mem_map.mpr ⟨q,hq,rfl⟩)
       rw [k] at this; cases this
     ·rw [t3']
      intro d hd d' hd'
      exact List.all_eq_true.mp (List.all_eq_true.mp b3 d hd) d' hd'
     ·rw [t3']
      rcases Bool.or_eq_true_iff.mp b4 with b4 | b4
      ·refine .inl fun d hd=>?_
       have:=List.all_eq_true.mp b4 d hd
       unfold tupB at this
       split at this
       ·exact ⟨_,_,rfl⟩
       ·cases this
      ·refine .inr fun d hd=>?_
       have:=List.all_eq_true.mp b4 d hd
       exact ⟨fun z=>(by rw [z] at this; cases this),fun xs z=>(by rw [z] at this; cases this)⟩
     ·exact vER b5 _ (by rw [← t3']; exact List.mem_map.mpr ⟨p,hp,rfl⟩)
     ·rw [yBM]
      have m1:(jAK (fun a b:Q4=>dataLe false (fun q:Q4=>q.2.2.2) a b) qs).map (·.1)=jAK (fun a b=>leP a.1 b.1) ps:=by
       rw [← t1]
       refine jNQ _ fun a ha b hb=>?_
       show dataLe false (fun q:Q4=>q.2.2.2) a b=dataLe false encP a.1.1 b.1.1
       rw [dataLe_eq,dataLe_eq]
       show cond false _ _=cond false _ _
       rw [(t4 a ha).2.1,(t4 b hb).2.1]
      have m2:(jAK (fun a b:Q4=>dataLe false (fun q:Q4=>q.2.2.2) a b) qs).map (·.2)=jAK (dataLe false (fun p:TrP=>p.2.2)) (qs.map (·.2)):=jNQ _ fun a ha b hb=>rfl
      rw [← m1,List.map_map] at q
      rw [← m2,List.map_map]
      have hm:∀ p∈jAK (fun a b:Q4=>dataLe false (fun q:Q4=>q.2.2.2) a b) qs,Rep B W2 p.1.2 p.2.2.1:=fun p hp=>(t4 p (yDI.mp hp)).2.2
      have hz:((jAK (fun a b:Q4=>dataLe false (fun q:Q4=>q.2.2.2) a b) qs).map (·.2.2.1)).length≤sizeLine:=by
       rw [List.length_map,jTM]
       rw [List.length_map] at hl
       exact hl
      have r3:=jLT (o:=.lst ((jAK (fun a b:Q4=>dataLe false (fun q:Q4=>q.2.2.2) a b) qs).map (fun q:Q4=>q.2.2.1))) r2 hp hz
      have st3:=jHC (o:=.lst ((jAK (fun a b:Q4=>dataLe false (fun q:Q4=>q.2.2.2) a b) qs).map (fun q:Q4=>q.2.2.1))) r2.hr hp
      exact q _ _ r3 ⟨st2.trans r1.slen st3,fun _ _ e _=>e⟩ _ (jEM (r2.hr.fnone hp) (yKL hm)).hand
    ·exact q.elim
   ·exact q.elim
  ·exact q.elim
 ·exact q.elim
theorem vBQ {p1 p2 p3 p4 ps:Pos} {k0:Nat} (hK:X.K=B.K) (L:LamP X d a) (hr:X.A.depth < recursionLimit) (hb:d.body=.Tuple [.Call (.Name "len" p1) [.Name a p2] [] p3,.Name a p4] k0 ps) (hlen:X.mg "len" = none) (hg:d.scope.names.lookup ("len" : Str)=some .globalImplicit)
  (d3:(a == ("__debug__" : Str))=false):KfOk X B N d kLen:=⟨fun W s σ H f c1 y k v dk r hF ry ek ed nl=>by
 unfold kLen at ek
 split at ek
 ·rename_i xs
  cases ek
  cases ry with
  | tup hT rs =>
   rename_i t vs
   have sq:SqT X.K H t vs:=by
    rcases hT with h | ⟨o,its,n,h1,h2,h3,h4,h5⟩
    ·exact .inl (.inl (r.hr.agree _ _ h))
    ·exact .inr ⟨o,its,n,hK ▸ h1,h2,h3,h4,h5⟩
   have ed:(toDs [PV.int xs.length,PV.tup xs]).map PyData.tuple=some dk:=by rw [← ed,toD]
   rw [toDs,toD,toDs,toD,toDs] at ed
   cases q:toDs xs with
   | none=>rw [q] at ed; cases ed
   | some ds =>
    rw [q] at ed
    cases ed
    have hd:Dp X.K H (.ref t) (.tuple ds):=(jSL hK r.hr (Rep.tup hT rs) (by rw [toD,q]; rfl)).1
    rw [rs.length]
    exact yJP L hr hF hb hlen hg sq hd (by simp only [jKK,noLsts,Bool.and_true,Bool.true_and] at nl; exact nl) d3
 ·cases ek⟩
end
def yTY (sc scope:Scope) (a:Str):Bool :=
 decide (scope.kind=.function)&&!scope.isCoroutine&&!scope.isGenerator&&decide (scope.names.lookup a=some .local)&&scope.names.all fun y=>!decide (y.2=.cell)&&(!decide (y.2=.free)||decide (sc.names.lookup y.1=some .cell)||decide (sc.names.lookup y.1=some .free))
theorem ySN {X:Cx} {params:Arguments} {body:Expr} {scope:Scope} {a:Str} (h:yTY X.env.scope scope a=true) (hd:defaultsOf params X.env=([],[]))
  (hb:∀ (q:Str) (cl:List (Str × Addr)) (pm cdv ct v:Value),bindArgs (lfn q params body scope cl .none pm cdv ct) ⟨[v],[]⟩=pure [(a,v)]):LamP X ⟨params,body,scope,none⟩ a:=by
 unfold yTY at h
 simp only [Bool.and_eq_true,Bool.or_eq_true,Bool.not_eq_true',decide_eq_true_eq,decide_eq_false_iff_not,List.all_eq_true] at h
 obtain ⟨⟨⟨⟨h1,h2⟩,h3⟩,h4⟩,h5⟩:=h
 refine ⟨h1,h2,h3,fun y hy=>(h5 y hy).1,fun y hy e=>?_,hd,hb,h4⟩
 rcases (h5 y hy).2 with (z | z) | z
 ·exact absurd e z
 ·exact .inl z
 ·exact .inr z
section
variable {X:Cx} {B:Bs} {N:Ent} {WX:L2.WX} {params:Arguments} {scope:Scope} {a x:Str} {e:Expr} {ms:ME} {p pos kp lp px pa p1 p2 p3 p4 ps:Pos} {j k0 k:Nat}
theorem yAU (hK:X.K=B.K) (LT:LamT X B) (hr:Room k X.A) (hg:Gl X "sorted") (hm:X.mg "sorted" = none) (he:SimE X B N WX e ms) (L:LamP X ⟨params,.Tuple [.Call (.Name "len" p1) [.Name a p2] [] p3,.Name a p4] k0 ps,scope,none⟩ a) (hlen:X.mg "len" = none) (hl:scope.names.lookup ("len" : Str)=some .globalImplicit)
  (d3:(a == ("__debug__" : Str))=false)
  (hs:backTo pos (starEach [e] X.env)=(false,eval e X.env) :: backTo pos (starEach [] X.env)) (hst:starEach [e] X.env=(false,eval e X.env) :: starEach [] X.env) (hpl:(backTo pos (starEach [e] X.env)).any (·.1)=false) :
  SimE X B N WX (.Call (.Name "sorted" p) [e] [⟨some "key", .Lambda params (.Tuple [.Call (.Name "len" p1) [.Name a p2] [] p3,.Name a p4] k0 ps) scope lp,kp⟩] pos) (yCO kLen ms) :=
 yGG hK LT hr.u9 hg hm he L (vBQ hK L hr.depth rfl hlen hl d3) hs hst hpl
end
end Lp
set_option maxHeartbeats 4000000
set_option maxHeartbeats 4000000
namespace Lp
open PySem PySem.Spec PyProof.Rows L2 LamX NdefX PySem.W
structure PrA (P:Program) (w:World) (K:PySem.W.Frag) (mg:Str→Option Value) (base:Heap) (B:Bs) (k:Nat) (c:Nat) (x:Str) (m:MF):Prop where
 ex:∃ j f fd ps p,j+1≤k∧PropOf K (B.cad c) x p f∧FnOk P w K mg base (L2.CX P w) j f fd ps (spF B 1 m)∧L2.Binds K fd ps []
theorem PrA.mono {P:Program} {w:World} {K:PySem.W.Frag} {mg:Str→Option Value} {base:Heap} {B:Bs} {i k:Nat} {c:Nat} {x:Str} {m:MF} (F:PrA P w K mg base B i c x m) (h:i≤k):PrA P w K mg base B k c x m :=
 let ⟨j,f,fd,ps,p,hj,a⟩:=F.ex
 ⟨j,f,fd,ps,p,Nat.le_trans hj h,a⟩
structure MeB (P:Program) (w:World) (K:PySem.W.Frag) (mg:Str→Option Value) (base:Heap) (B:Bs) (k:Nat) (c:Nat) (x:Str) (n:Nat) (m:MF):Prop where
 ex:∃ f fd ps,BMeth K (B.cad c) x f∧FnOk P w K mg base (L2.CX P w) k f fd ps (spF B n m)∧L2.Binds K fd ps []
theorem MeB.mono {P:Program} {w:World} {K:PySem.W.Frag} {mg:Str→Option Value} {base:Heap} {B:Bs} {j k:Nat} {c:Nat} {x:Str} {n:Nat} {m:MF} (F:MeB P w K mg base B j c x n m) (h:j≤k):MeB P w K mg base B k c x n m :=
 let ⟨f,fd,ps,a,b,d⟩:=F.ex
 ⟨f,fd,ps,a,b.mono h,d⟩
end Lp
set_option maxHeartbeats 4000000
set_option maxHeartbeats 4000000
namespace Lp
open PySem PySem.Spec PyProof.Rows L2 LamX NdefX PySem.W
section
variable {α:Type} {X:Cx} {B:Bs} {D:Addr} {W1:Wd} {s1:S} {H1:Hp} {RA:α→Wd→HO→Prop}
structure AccAt (B:Bs) (D:Addr) (W1:Wd) (s1:S) (H1:Hp) (RA:α→Wd→HO→Prop) (N:Ent) (acc:α) (W:Wd) (s:S) (σ:L2.St) (H:Hp):Prop where
 r:Rel B N W s σ H
 st:StepE W1 s1 H1 W s H
 l:Loose N W s σ D
 o:∃ o,H D=some o∧RA acc W o
structure RAOk (RA:α→Wd→HO→Prop):Prop where
 mono:∀ {acc:α} {W W':Wd} {o:HO},W.Le W'→RA acc W o→RA acc W' o
 nt:∀ {acc:α} {W:Wd} {o:HO},RA acc W o→NT o∧∀ c q,o≠LamX.CodeO c q
theorem AccAt.on {N:Ent} {acc:α} {W W':Wd} {s s':S} {σ:L2.St} {H H':Hp} (hl:W1.m.length=s1.h.length) (ok:RAOk RA) (a:AccAt B D W1 s1 H1 RA N acc W s σ H) (r':Rel B N W' s' σ H') (st:StepE W s H W' s' H'):AccAt B D W1 s1 H1 RA N acc W' s' σ H':=by
 obtain ⟨o,h1,h2⟩:=a.o
 have n:=ok.nt h2
 exact ⟨r',a.st.trans hl st,a.l.on a.r.slen st ⟨o,h1,n.1,n.2⟩,o,a.l.held st h1 n.1,ok.mono st.st.le h2⟩
end
end Lp
set_option maxHeartbeats 4000000
set_option maxHeartbeats 4000000
set_option maxHeartbeats 4000000
set_option maxHeartbeats 4000000
set_option maxHeartbeats 4000000
set_option maxHeartbeats 4000000
set_option maxHeartbeats 4000000
set_option maxHeartbeats 4000000
namespace LW
open PySem PySem.Spec PyProof.Rows L2 Lp LamX NdefX
structure Gm (mg:Str→Option Value):Prop where
 triv:True
 n_all:mg "all" = none
 n_any:mg "any" = none
 n_bool:mg "bool" = none
 n_int:mg "int" = none
 n_isinstance:mg "isinstance" = none
 n_len:mg "len" = none
 n_list:mg "list" = none
 n_range:mg "range" = none
 n_sorted:mg "sorted" = none
 n_str:mg "str" = none
 n_tuple:mg "tuple" = none
 n_zip:mg "zip" = none
def xfl:FL:=fun c=>match c with
 | 0=>["code", "given"]
 | 1=>["code", "word"]
 | 2=>["code", "given"]
 | 3=>["code", "given"]
 | _=>[]
def ifl:FL:=fun c=>match c with
 | 4=>["drops", "numbers", "stretches", "hidden", "lock"]
 | _=>[]
def vCT:FL:=fun c=>match c with
 | 0=>["code", "given"]
 | 1=>["code", "word"]
 | 2=>["code", "given"]
 | 3=>["code", "given"]
 | 4=>["drops", "numbers", "stretches", "hidden", "lock"]
 | _=>[]
abbrev yJ:Nat:=4
def jAN:List PV→List PV:=fun xs=>[.str "InvalidTable", xs.headD .non]
def vL:List PV→List PV:=fun xs=>[.str "InvalidOption", xs.headD .non]
def jDB:List PV→List PV:=fun xs=>[.str "InvalidWish", xs.headD .non]
def jCJ:List PV→List PV:=fun xs=>[.str "InvalidStand", xs.headD .non]
def okc:Nat→Bool:=fun c=>decide (c < 4)
structure Km (w:World) (K:PySem.W.Frag) (B:Bs) (mg:Str→Option Value):Prop where
 CF:ClsF K B ifl
 cm_Way:ClM K B yJ ["drop_answer", "number_answer", "but"]
 n_Way:mg "Way" = some (.ref (B.cad yJ))
 d_WORDS:DicC K w mg "WORDS" jHD
 d_SIZES:DicI K w mg "SIZES" jKP
 n_BROKEN:mg "BROKEN" = some (.ref (He.ga K "BROKEN"))
 g_BROKEN:TupG K (He.ga K "BROKEN") [.str "broken"]
 n_WISHES:mg "WISHES" = some (.ref (He.ga K "WISHES"))
 g_WISHES:TupG K (He.ga K "WISHES") [.str "lands", .str "stays", .str "still", .str "returns", .str "heard", .str "numbered"]
 n_MENDS:mg "MENDS" = some (.ref (He.ga K "MENDS"))
 g_MENDS:TupG K (He.ga K "MENDS") [.str "hidden", .str "whole", .str "one", .str "all", .str "drops", .str "numbers"]
 t_Way_LOCKS:CTup K (B.cad yJ) "LOCKS" [.str "none", .str "one", .str "all"]
def jNK:List Str:=["value"]
theorem yDA:FnScope jNK ["value"] (defScope jBA):=⟨rfl,rfl,rfl,by decide +kernel,rfl,by decide +kernel,by decide +kernel⟩
noncomputable def jTK:MS:=(uV (jGR (eCB wZ (jC (jE 0) (jC (eC (.ty "str")) jN))) (jO fIn (jE 0) (eC (.tup [.str "lands", .str "stays", .str "still", .str "returns", .str "heard", .str "numbered"])))))
@[irreducible] noncomputable def jGP:MF:=mkF 0 jTK
def jIJ:List Str:=["wish"]
theorem jUP:FnScope jIJ ["wish"] (defScope zW):=⟨rfl,rfl,rfl,by decide +kernel,rfl,by decide +kernel,by decide +kernel⟩
noncomputable def jNA:MS:=(sIf (jIE (tM (yO 1 jGP (jC (jE 0) jN)))) (jJD 2 1 jDB (jC (jE 0) jN)) uC)
@[irreducible] noncomputable def uF:MF:=mkF 0 jNA
def jHK:List Str:=["wish"]
theorem jTT:FnScope jHK ["wish"] (defScope zB):=⟨rfl,rfl,rfl,by decide +kernel,rfl,by decide +kernel,by decide +kernel⟩
noncomputable def jLE:MS:=(yE (jMV (yO 1 uF (jC (jE 0) jN)))
 (yE (sIf (bM (jO fEq (jE 0) (eC (.str "returns")))) (uV (yS (jC (eC (.int 0)) (jC (eC (.bl false)) (jC (eC (.bl false)) (jC (eC (.bl false)) jN)))))) uC)
 (uV (jO jDY (yS (jC (eC (.bl false)) jN)) (yUR jKP (jE 0))))))
@[irreducible] noncomputable def jAB:MF:=mkF 0 jLE
def jKU:List Str:=["wish", "value", "flags", "flag"]
theorem yAX:FnScope jKU ["wish", "value"] (defScope qY):=⟨rfl,rfl,rfl,by decide +kernel,rfl,by decide +kernel,by decide +kernel⟩
noncomputable def jQU:MS:=(yE (jMV (yO 1 uF (jC (jE 0) jN)))
 (yE (sIf (jIE (tM (eCB wZ (jC (jE 1) (jC (eC (.ty "tuple")) jN))))) (uV (eC (.bl false))) uC)
 (yE (sIf (bM (jO fEq (eCB jDS (jC (jE 1) jN)) (eC (.int 1)))) (uV (jGR (eCB wZ (jC (jO fIx (jE 1) (eC (.int 0))) (jC (eC (.ty "str")) jN))) (jO fEq (jE 1) (eC (.tup [.str "broken"]))))) uC)
 (yE (sIf (bM (jO fNe (eCB jDS (jC (jE 1) jN)) (yUR jKP (jE 0)))) (uV (eC (.bl false))) uC)
 (yE (uW 2 (ifM (bM (jO fEq (jE 0) (eC (.str "returns")))) (eSl (jE 1) (jJW (eC (.int 1))) jJX) (jE 1)))
 (yE (sIf (jIE (tM (eCB jKH (jC (shN (zQ (jDX (jE 2)) (.n 3) jAO (eCB wZ (jC (jE 3) (jC (eC (.ty "bool")) jN))) [3])) jN)))) (uV (eC (.bl false))) uC)
 (uV (orV (jO fNe (jE 0) (eC (.str "returns"))) (jGR (eCB wZ (jC (jO fIx (jE 1) (eC (.int 0))) (jC (eC (.ty "int")) jN))) (jGR (jYV (eCB wZ (jC (jO fIx (jE 1) (eC (.int 0))) (jC (eC (.ty "bool")) jN)))) (jPM fLe fLe (eC (.int 0)) (jO fIx (jE 1) (eC (.int 0))) (eC (.int 2)))))))))))))
@[irreducible] noncomputable def jFD:MF:=mkF 2 jQU
def jEG:List Str:=["self", "elder", "again", "apart"]
theorem jNS:FnScope jEG ["self", "elder", "again", "apart"] (defScope vQ):=⟨rfl,rfl,rfl,by decide +kernel,rfl,by decide +kernel,by decide +kernel⟩
noncomputable def jHR:MS:=(uV (yUS jHD (jO fIx (jFQ ifl "drops" (jE 0)) (jO zH (jO zH (jO jDY (eC (.int 4)) (eCB jEN (jC (jE 1) jN))) (jO jDY (eC (.int 2)) (eCB jEN (jC (jE 2) jN)))) (eCB jEN (jC (jE 3) jN))))))
@[irreducible] noncomputable def qL:MF:=mkF 0 jHR
def jII:List Str:=["way", "wish", "stand", "elder", "again", "apart", "loose", "found", "answer", "lost"]
theorem jUO:FnScope jII ["way", "wish", "stand"] (defScope zV):=⟨rfl,rfl,rfl,by decide +kernel,rfl,by decide +kernel,by decide +kernel⟩
noncomputable def jMZ:MS:=(yE (jMW (.t [(.n 3),(.n 4),(.n 5),(.n 6)]) (jE 2))
 (yE (jGT 7 (jHT jN))
 (yE (sIf (bM (jO fNe (jFQ ifl "lock" (jE 0)) (eC (.str "all")))) (jGT 7 (jHT (jC (yS (jC (eC (.str "number")) (jC (yS (jC (eC (.bl true)) (jC (jE 4) (jC (jE 5) (jC (eC (.bl true)) jN))))) jN))) (jC (yS (jC (eC (.str "aside")) (jC (yS (jC (eC (.bl true)) (jC (jE 4) (jC (jE 5) (jC (jE 6) jN))))) jN))) jN)))) uC)
 (yE (jGT 7 (jHT (jKM (jE 7) (jC (yS (jC (eC (.str "again")) (jC (yS (jC (jE 3) (jC (eC (.bl true)) (jC (jE 5) (jC (jE 6) jN))))) jN))) (jC (yS (jC (eC (.str "apart")) (jC (yS (jC (jE 3) (jC (jE 4) (jC (eC (.bl true)) (jC (jE 6) jN))))) jN))) jN)))))
 (yE (uW 8 (jNY yJ 3 0 [0,1,2,3] [] 4 qL (jE 0) (jC (jE 3) (jC (jE 4) (jC (jE 5) jN))) jN))
 (yE (uW 9 (jGR (jO fEq (jE 8) (eC (.str "taken"))) (jGR (jE 6) (jYV (jE 5)))))
 (yE (sIf (ifT (bM (jO fEq (jE 1) (eC (.str "lands")))) (tM (jE 9)) (andM (bM (jO fEq (jE 8) (eC (.str "refused")))) (jIE (tM (jE 4))))) (wY 7 (yS (jC (eC (.str "answer")) (jC (eC (.tup [.str "broken"])) jN)))) uC)
 (jHW 7))))))))
@[irreducible] noncomputable def jDM:MF:=mkF 7 jMZ
def jDG:List Str:=["self", "elder", "dropped"]
theorem jLL:FnScope jDG ["self", "elder", "dropped"] (defScope vH):=⟨rfl,rfl,rfl,by decide +kernel,rfl,by decide +kernel,by decide +kernel⟩
noncomputable def jFP:MS:=(uV (yUS jHD (jO fIx (jFQ ifl "numbers" (jE 0)) (jO zH (jO jDY (eC (.int 2)) (eCB jEN (jC (jE 1) jN))) (eCB jEN (jC (jE 2) jN))))))
@[irreducible] noncomputable def yU:MF:=mkF 0 jFP
def jFS:List Str:=["way", "wish", "stand", "elder", "dropped", "more", "found", "answer", "torn", "flag"]
theorem jRB:FnScope jFS ["way", "wish", "stand"] (defScope uL):=⟨rfl,rfl,rfl,by decide +kernel,rfl,by decide +kernel,by decide +kernel⟩
noncomputable def jKC:MS:=(yE (jMW (.t [(.n 3),(.n 4)]) (eSl (jE 2) jJX (jJW (eC (.int 2)))))
 (yE (uW 5 (eSl (jE 2) (jJW (eC (.int 2))) jJX))
 (yE (jGT 6 (jHT jN))
 (yE (sIf (bM (jO fEq (jFQ ifl "lock" (jE 0)) (eC (.str "none")))) (wY 6 (yS (jC (eC (.str "number")) (jC (yS (jC (eC (.bl true)) (jC (jE 4) (jKM (shN (zQ (jDX (jE 5)) (.n 9) jAO (eC (.bl true)) [9])) jN)))) jN)))) uC)
 (yE (sIf (bM (jO fNe (jFQ ifl "lock" (jE 0)) (eC (.str "all")))) (wY 6 (yS (jC (eC (.str "drop")) (jC (yS (jC (jE 3) (jC (eC (.bl true)) (jKM (jE 5) jN)))) jN)))) uC)
 (yE (uW 7 (jNY yJ 2 0 [0,1,2] [] 3 yU (jE 0) (jC (jE 3) (jC (jE 4) jN)) jN))
 (yE (uW 8 (jGR (jO fEq (jE 7) (eC (.str "taken"))) (jGR (jO fEq (jE 5) (yS (jC (eC (.bl true)) jN))) (jFQ ifl "stretches" (jE 0)))))
 (yE (sIf (ifT (bM (jO fEq (jE 1) (eC (.str "numbered")))) (bM (jO fEq (jE 7) (eC (.str "refused")))) (tM (jE 8))) (wY 6 (yS (jC (eC (.str "answer")) (jC (eC (.tup [.str "broken"])) jN)))) uC)
 (jHW 6)))))))))
@[irreducible] noncomputable def jBY:MF:=mkF 7 jKC
def jFT:List Str:=["way", "stand", "landed", "knows", "elder", "dropped", "loose", "found"]
theorem jRC:FnScope jFT ["way", "stand"] (defScope uM):=⟨rfl,rfl,rfl,by decide +kernel,rfl,by decide +kernel,by decide +kernel⟩
noncomputable def jKD:MS:=(yE (jMW (.t [(.n 2),(.n 3),(.n 4),(.n 5),(.n 6)]) (jE 1))
 (yE (jGT 7 (jHT jN))
 (yE (sIf (jIE (tM (jE 2))) (yE (sIf (bM (jO fEq (jFQ ifl "lock" (jE 0)) (eC (.str "none")))) (wY 7 (yS (jC (eC (.str "number")) (jC (yS (jC (eC (.bl false)) (jC (jE 3) (jC (eC (.bl true)) (jC (jE 5) (jC (jE 6) jN)))))) jN)))) uC)
 (yE (sIf (bM (jO fNe (jFQ ifl "lock" (jE 0)) (eC (.str "all")))) (wY 7 (yS (jC (eC (.str "land")) (jC (yS (jC (eC (.bl true)) (jC (jE 3) (jC (jE 4) (jC (eC (.bl true)) (jC (jE 6) jN)))))) jN)))) uC)
 (uV (jAH (jKM (jE 7) (jC (yS (jC (eC (.str "ahead")) (jC (yS (jC (eC (.bl true)) (jC (eC (.bl true)) (jC (eC (.bl false)) (jC (eC (.bl false)) (jC (eC (.bl false)) jN)))))) jN))) jN)))))) uC)
 (yE (sIf (bM (jO fEq (jFQ ifl "lock" (jE 0)) (eC (.str "none")))) (wY 7 (yS (jC (eC (.str "number")) (jC (yS (jC (eC (.bl true)) (jC (jE 3) (jC (eC (.bl true)) (jC (jE 5) (jC (eC (.bl true)) jN)))))) jN)))) uC)
 (yE (sIf (bM (jO fNe (jFQ ifl "lock" (jE 0)) (eC (.str "all")))) (wY 7 (yS (jC (eC (.str "drop")) (jC (yS (jC (eC (.bl true)) (jC (jE 3) (jC (jE 4) (jC (eC (.bl true)) (jC (jE 6) jN)))))) jN)))) uC)
 (yE (sIf (andM (bM (jO fEq (jNY yJ 2 0 [0,1,2] [] 3 yU (jE 0) (jC (jE 4) (jC (jE 5) jN)) jN) (eC (.str "taken")))) (orM (jIE (tM (jE 3))) (andM (tM (jE 6)) (tM (jFQ ifl "stretches" (jE 0)))))) (wY 7 (yS (jC (eC (.str "answer")) (jC (eC (.tup [.str "broken"])) jN)))) uC)
 (jHW 7)))))))
@[irreducible] noncomputable def jBZ:MF:=mkF 6 jKD
def jFR:List Str:=["way", "stand", "phase", "elder", "dropped", "loose", "found", "late", "free"]
theorem jRA:FnScope jFR ["way", "stand"] (defScope uK):=⟨rfl,rfl,rfl,by decide +kernel,rfl,by decide +kernel,by decide +kernel⟩
noncomputable def jKB:MS:=(yE (jMW (.t [(.n 2),(.n 3),(.n 4),(.n 5)]) (jE 1))
 (yE (jGT 6 (nIf (bM (jO fNe (jE 2) (eC (.int 1)))) (jHT (jC (yS (jC (eC (.str "strike")) (jC (yS (jC (eC (.int 1)) (jC (jE 3) (jC (jE 4) (jC (jE 5) jN))))) jN))) jN)) (jHT jN)))
 (yE (sIf (bM (jO fEq (jE 2) (eC (.int 1)))) (yE (uW 7 (yS (jC (eC (.int 2)) (jC (jE 3) (jC (orV (jE 4) (jO fNe (jFQ ifl "lock" (jE 0)) (eC (.str "all")))) (jC (jE 5) jN))))))
 (wY 6 (yS (jC (eC (.str "back")) (jC (ifM (tM (jE 5)) (eC (.tup [.str "broken"])) (jE 7)) jN))))) uC)
 (yE (uW 8 (orV (jE 5) (jGR (jO fEq (jE 2) (eC (.int 1))) (jYV (jFQ ifl "hidden" (jE 0))))))
 (yE (wY 6 (yS (jC (eC (.str "number")) (jC (yS (jC (jE 2) (jC (orV (jE 3) (jO fEq (jFQ ifl "lock" (jE 0)) (eC (.str "none")))) (jC (jE 4) (jC (jE 8) jN))))) jN))))
 (yE (sIf (bM (jO fNe (jFQ ifl "lock" (jE 0)) (eC (.str "all")))) (wY 6 (yS (jC (eC (.str "drop")) (jC (yS (jC (jE 2) (jC (jE 3) (jC (eC (.bl true)) (jC (jE 5) jN))))) jN)))) uC)
 (yE (sIf (andM (tM (jE 3)) (andM (tM (jFQ ifl "stretches" (jE 0))) (bM (jO fEq (jNY yJ 2 0 [0,1,2] [] 3 yU (jE 0) (jC (jE 3) (jC (jE 4) jN)) jN) (eC (.str "taken")))))) (wY 6 (yS (jC (eC (.str "late")) (jC (ifM (bM (jO fEq (jE 2) (eC (.int 2)))) (eC (.tup [.str "broken"])) (yS (jC (jE 2) (jC (jE 3) (jC (jE 4) (jC (eC (.bl true)) jN)))))) jN)))) uC)
 (jHW 6))))))))
@[irreducible] noncomputable def jBX:MF:=mkF 7 jKB
def jIH:List Str:=["way", "wish", "stand", "found", "word", "late"]
theorem jUN:FnScope jIH ["way", "wish", "stand"] (defScope zU):=⟨rfl,rfl,rfl,by decide +kernel,rfl,by decide +kernel,by decide +kernel⟩
noncomputable def jMY:MS:=(yE (sIf (jIE (tM (yO 2 jFD (jC (jE 1) (jC (jE 2) jN))))) (jJD 3 1 jCJ (jC (jE 2) jN)) uC)
 (yE (sIf (bM (jO fEq (jE 2) (eC (.tup [.str "broken"])))) (uV (jAH jN)) uC)
 (yE (sIf (bM (jO fIn (jE 1) (yS (jC (eC (.str "lands")) (jC (eC (.str "heard")) jN))))) (uW 3 (yO 3 jDM (jC (jE 0) (jC (jE 1) (jC (jE 2) jN))))) (sIf (bM (jO fEq (jE 1) (eC (.str "stays")))) (uW 3 (yO 2 jBZ (jC (jE 0) (jC (jE 2) jN)))) (sIf (bM (jO fEq (jE 1) (eC (.str "returns")))) (uW 3 (yO 2 jBX (jC (jE 0) (jC (jE 2) jN)))) (uW 3 (yO 3 jBY (jC (jE 0) (jC (jE 1) (jC (jE 2) jN))))))))
 (uV (shN (zQ (jDX (jE 3)) (.t [(.n 4),(.n 5)]) (bM (jO fNe (jE 5) (jE 2))) (yS (jC (jE 4) (jC (jE 5) jN))) [4,5]))))))
@[irreducible] noncomputable def jAV:MF:=mkF 3 jMY
def jNJ:List Str:=["way", "wish", "first", "found", "line", "at", "word", "late"]
theorem yCZ:FnScope jNJ ["way", "wish"] (defScope jAZ):=⟨rfl,rfl,rfl,by decide +kernel,rfl,by decide +kernel,by decide +kernel⟩
noncomputable def jNN:MS:=(yE (uW 2 (yO 1 jAB (jC (jE 1) jN)))
 (yE (yDX 3 4 5 (jC (jXD (jE 2) (jAH jN)) (jC (jWP (jHT (jC (jE 2) jN))) (jC (eC (.int 0)) jN))))
 (yE (jGU (bM (jO fLt (jE 5) (eCB jDS (jC (jE 4) jN)))) (yE (jMH (jDX (yO 3 jAV (jC (jE 0) (jC (jE 1) (jC (jO fIx (jE 4) (jE 5)) jN))))) (.t [(.n 6),(.n 7)]) (sIf (bM (jO yEB (jE 7) (jE 3))) (yE (sDPut (jAH (jKM (jO jSF (jE 3) (jO fIx (jE 4) (jE 5))) (jC (jE 6) jN))) (jE 3) (jE 7))
 (jMV (jKL (jE 4) (jE 7)))) uC))
 (jVI 5 (eC (.int 1)))) 200)
 (uV (jE 3)))))
noncomputable def jTC:MS:=(vA (jAD 2 (vN 1 jAB (jG (jM 1) jT)))
 (vA (yBY 3 4 5 (jG (jXL (jM 2) (jCV jT)) (jG (jQH (jOA (jG (jM 2) jT))) (jG (xEC (.int 0)) jT))))
 (vA (jGU (xBM (jX fLt (jM 5) (xECB jDS (jG (jM 4) jT)))) (vA (jJV (jDQ (vN 3 jAV (jG (jM 0) (jG (jM 1) (jG (jX fIx (jM 4) (jM 5)) jT))))) (.t [(.n 6),(.n 7)]) (jEX (xBM (jX yEB (jM 7) (jM 3))) (vA (yBZ (jCV (yCB (jX jSF (jM 3) (jX fIx (jM 4) (jM 5))) (jG (jM 6) jT))) (jM 3) (jM 7))
 (jNF (jKL (jM 4) (jM 7)))) jBM))
 (jVI 5 (xEC (.int 1)))) 200)
 (jBL (jM 3)))))
theorem yCQ:jNN=jTC:=by kernel_rfl
@[irreducible] noncomputable def jDK:MF:=mkF 6 jNN
def jKS:List Str:=["way", "wish"]
theorem yAV:FnScope jKS ["way", "wish"] (defScope qW):=⟨rfl,rfl,rfl,by decide +kernel,rfl,by decide +kernel,by decide +kernel⟩
noncomputable def jKX:MS:=(uV (jXE (yO 2 jDK (jC (jE 0) (jC (jE 1) jN))) (eC (.tup [.str "broken"])) (eC .non)))
noncomputable def jQP:MS:=(jBL (jXM (vN 2 jDK (jG (jM 0) (jG (jM 1) jT))) (xEC (.tup [.str "broken"])) (xEC .non)))
theorem yAR:jKX=jQP:=by kernel_rfl
@[irreducible] noncomputable def wW:MF:=mkF 0 jKX
def jKT:List Str:=["value", "many", "letter"]
theorem yAW:FnScope jKT ["value", "many"] (defScope qX):=⟨rfl,rfl,rfl,by decide +kernel,rfl,by decide +kernel,by decide +kernel⟩
noncomputable def jKY:MS:=(yE (sIf (orM (jIE (tM (eCB wZ (jC (jE 0) (jC (eC (.ty "str")) jN))))) (orM (bM (jO fNe (eCB jDS (jC (jE 0) jN)) (jE 1))) (bM (jO fNe (jO fIx (jE 0) (eC (.int 0))) (eC (.str "t")))))) (uV (eC (.bl false))) uC)
 (uV (eCB jKH (jC (shN (zQ (jDX (jE 0)) (.n 2) jAO (yMI false jHD (jE 2)) [2])) jN))))
noncomputable def jQQ:MS:=(vA (jEX (jUI (jMT (xTM (xECB wZ (jG (jM 0) (jG (xEC (.ty "str")) jT))))) (jUI (xBM (jX fNe (xECB jDS (jG (jM 0) jT)) (jM 1))) (xBM (jX fNe (jX fIx (jM 0) (xEC (.int 0))) (xEC (.str "t")))))) (jBL (xEC (.bl false))) jBM)
 (jBL (xECB jKH (jG (jMF (zG (jDQ (jM 0)) (.n 2) jAO (yHX false jHD (jM 2)) [2])) jT))))
theorem yAS:jKY=jQQ:=by kernel_rfl
@[irreducible] noncomputable def jCD:MF:=mkF 1 jKY
def jFV:List Str:=["self", "drops", "numbers", "stretches", "hidden", "lock", "value", "many", "word"]
theorem jRE:FnScope jFV ["self", "drops", "numbers", "stretches", "hidden", "lock"] (defScope uO):=⟨rfl,rfl,rfl,by decide +kernel,rfl,by decide +kernel,by decide +kernel⟩
noncomputable def jFX:MS:=(yE (jMH (jDX (yS (jC (yS (jC (jE 1) (jC (eC (.int 8)) jN))) (jC (yS (jC (jE 2) (jC (eC (.int 4)) jN))) jN)))) (.t [(.n 6),(.n 7)]) (sIf (jIE (tM (yO 2 jCD (jC (jE 6) (jC (jE 7) jN))))) (jJD 0 1 jAN (jC (jE 6) jN)) uC))
 (yE (jMH (jDX (yS (jC (yS (jC (eC (.str "stretches")) (jC (jE 3) jN))) (jC (yS (jC (eC (.str "hidden")) (jC (jE 4) jN))) jN)))) (.t [(.n 8),(.n 6)]) (sIf (jIE (tM (eCB wZ (jC (jE 6) (jC (eC (.ty "bool")) jN))))) (jJD 1 1 vL (jC (jE 8) jN)) uC))
 (yE (sIf (orM (jIE (tM (eCB wZ (jC (jE 5) (jC (eC (.ty "str")) jN))))) (bM (jO jIF (jE 5) (eC (.tup [.str "none", .str "one", .str "all"]))))) (jJD 1 1 vL (jC (eC (.str "lock")) jN)) uC)
 (yE (jZC ifl 0 ["drops", "numbers"] (yS (jC (jE 1) (jC (jE 2) jN))))
 (jZC ifl 0 ["stretches", "hidden", "lock"] (yS (jC (jE 3) (jC (jE 4) (jC (jE 5) jN)))))))))
noncomputable def jKA:MS:=(vA (jJV (jDQ (jBN (jG (jBN (jG (jM 1) (jG (xEC (.int 8)) jT))) (jG (jBN (jG (jM 2) (jG (xEC (.int 4)) jT))) jT)))) (.t [(.n 6),(.n 7)]) (jEX (jMT (xTM (vN 2 jCD (jG (jM 6) (jG (jM 7) jT))))) (jRP 0 1 jAN (jG (jM 6) jT)) jBM))
 (vA (jJV (jDQ (jBN (jG (jBN (jG (xEC (.str "stretches")) (jG (jM 3) jT))) (jG (jBN (jG (xEC (.str "hidden")) (jG (jM 4) jT))) jT)))) (.t [(.n 8),(.n 6)]) (jEX (jMT (xTM (xECB wZ (jG (jM 6) (jG (xEC (.ty "bool")) jT))))) (jRP 1 1 vL (jG (jM 8) jT)) jBM))
 (vA (jEX (jUI (jMT (xTM (xECB wZ (jG (jM 5) (jG (xEC (.ty "str")) jT))))) (xBM (jX jIF (jM 5) (xEC (.tup [.str "none", .str "one", .str "all"]))))) (jRP 1 1 vL (jG (xEC (.str "lock")) jT)) jBM)
 (vA (jWT ifl 0 ["drops", "numbers"] (jBN (jG (jM 1) (jG (jM 2) jT))))
 (jWT ifl 0 ["stretches", "hidden", "lock"] (jBN (jG (jM 3) (jG (jM 4) (jG (jM 5) jT)))))))))
theorem jQZ:jFX=jKA:=by kernel_rfl
@[irreducible] noncomputable def yD:MF:=mkF 3 jFX
def jNM:List Str:=["self", "drops", "numbers", "stretches", "hidden", "lock"]
theorem yDC:FnScope jNM ["self", "drops", "numbers", "stretches", "hidden", "lock"] (defScope jBC):=⟨rfl,rfl,rfl,by decide +kernel,rfl,by decide +kernel,by decide +kernel⟩
noncomputable def jNP:MS:=(uV (jUL yJ 2 3 [0,1,2,3,4,5] [.str "tttttttt", .str "tttt"] 6 yD (jC (ifM (bM (jO jDZ (jE 1) (eC .non))) (jFQ ifl "drops" (jE 0)) (jE 1)) (jC (ifM (bM (jO jDZ (jE 2) (eC .non))) (jFQ ifl "numbers" (jE 0)) (jE 2)) jN)) (jC (ifM (bM (jO jDZ (jE 3) (eC .non))) (jFQ ifl "stretches" (jE 0)) (jE 3)) (jC (ifM (bM (jO jDZ (jE 4) (eC .non))) (jFQ ifl "hidden" (jE 0)) (jE 4)) (jC (ifM (bM (jO jDZ (jE 5) (eC .non))) (jFQ ifl "lock" (jE 0)) (jE 5)) jN)))))
noncomputable def jTD:MS:=(jBL (jQE yJ 2 3 [0,1,2,3,4,5] [.str "tttttttt", .str "tttt"] 6 yD (jG (jMG (xBM (jX jDZ (jM 1) (xEC .non))) (jQG ifl "drops" (jM 0)) (jM 1)) (jG (jMG (xBM (jX jDZ (jM 2) (xEC .non))) (jQG ifl "numbers" (jM 0)) (jM 2)) jT)) (jG (jMG (xBM (jX jDZ (jM 3) (xEC .non))) (jQG ifl "stretches" (jM 0)) (jM 3)) (jG (jMG (xBM (jX jDZ (jM 4) (xEC .non))) (jQG ifl "hidden" (jM 0)) (jM 4)) (jG (jMG (xBM (jX jDZ (jM 5) (xEC .non))) (jQG ifl "lock" (jM 0)) (jM 5)) jT)))))
theorem yCR:jNP=jTD:=by kernel_rfl
@[irreducible] noncomputable def yR:MF:=mkF 0 jNP
def jPS:List Str:=["way", "mends", "mend", "found"]
theorem yGO:FnScope jPS ["way", "mends"] (defScope jCK):=⟨rfl,rfl,rfl,by decide +kernel,rfl,by decide +kernel,by decide +kernel⟩
noncomputable def jPT:MS:=(yE (jMH (jDX (jE 1)) (.n 2) (sIf (orM (jIE (tM (eCB wZ (jC (jE 2) (jC (eC (.ty "str")) jN))))) (bM (jO jIF (jE 2) (eC (.tup [.str "hidden", .str "whole", .str "one", .str "all", .str "drops", .str "numbers"]))))) (jJD 1 1 vL (jC (jE 2) jN)) uC))
 (yE (uW 3 (jE 0))
 (yE (sIf (bM (jO fIn (eC (.str "hidden")) (jE 1))) (uW 3 (jNY yJ 0 1 [0,2,3,4,1,5] [.non,.non,.non,.non] 6 yR (jE 3) jN (jC (eC (.bl true)) jN))) uC)
 (yE (sIf (bM (jO fIn (eC (.str "whole")) (jE 1))) (uW 3 (jNY yJ 0 1 [0,2,3,1,4,5] [.non,.non,.non,.non] 6 yR (jE 3) jN (jC (eC (.bl false)) jN))) uC)
 (yE (sIf (andM (bM (jO fIn (eC (.str "one")) (jE 1))) (bM (jO fEq (jFQ ifl "lock" (jE 3)) (eC (.str "none"))))) (uW 3 (jNY yJ 0 1 [0,2,3,4,5,1] [.non,.non,.non,.non] 6 yR (jE 3) jN (jC (eC (.str "one")) jN))) uC)
 (yE (sIf (bM (jO fIn (eC (.str "all")) (jE 1))) (uW 3 (jNY yJ 0 1 [0,2,3,4,5,1] [.non,.non,.non,.non] 6 yR (jE 3) jN (jC (eC (.str "all")) jN))) uC)
 (yE (sIf (bM (jO fIn (eC (.str "drops")) (jE 1))) (uW 3 (jNY yJ 0 1 [0,1,2,3,4,5] [.non,.non,.non,.non] 6 yR (jE 3) jN (jC (eC (.str "tmmmmmmm")) jN))) uC)
 (uV (ifM (bM (jO fIn (eC (.str "numbers")) (jE 1))) (jNY yJ 0 1 [0,2,1,3,4,5] [.non,.non,.non,.non] 6 yR (jE 3) jN (jC (eC (.str "tmmm")) jN)) (jE 3))))))))))
noncomputable def jVQ:MS:=(vA (jJV (jDQ (jM 1)) (.n 2) (jEX (jUI (jMT (xTM (xECB wZ (jG (jM 2) (jG (xEC (.ty "str")) jT))))) (xBM (jX jIF (jM 2) (xEC (.tup [.str "hidden", .str "whole", .str "one", .str "all", .str "drops", .str "numbers"]))))) (jRP 1 1 vL (jG (jM 2) jT)) jBM))
 (vA (jAD 3 (jM 0))
 (vA (jEX (xBM (jX fIn (xEC (.str "hidden")) (jM 1))) (jAD 3 (jQF yJ 0 1 [0,2,3,4,1,5] [.non,.non,.non,.non] 6 yR (jM 3) jT (jG (xEC (.bl true)) jT))) jBM)
 (vA (jEX (xBM (jX fIn (xEC (.str "whole")) (jM 1))) (jAD 3 (jQF yJ 0 1 [0,2,3,1,4,5] [.non,.non,.non,.non] 6 yR (jM 3) jT (jG (xEC (.bl false)) jT))) jBM)
 (vA (jEX (jZA (xBM (jX fIn (xEC (.str "one")) (jM 1))) (xBM (jX fEq (jQG ifl "lock" (jM 3)) (xEC (.str "none"))))) (jAD 3 (jQF yJ 0 1 [0,2,3,4,5,1] [.non,.non,.non,.non] 6 yR (jM 3) jT (jG (xEC (.str "one")) jT))) jBM)
 (vA (jEX (xBM (jX fIn (xEC (.str "all")) (jM 1))) (jAD 3 (jQF yJ 0 1 [0,2,3,4,5,1] [.non,.non,.non,.non] 6 yR (jM 3) jT (jG (xEC (.str "all")) jT))) jBM)
 (vA (jEX (xBM (jX fIn (xEC (.str "drops")) (jM 1))) (jAD 3 (jQF yJ 0 1 [0,1,2,3,4,5] [.non,.non,.non,.non] 6 yR (jM 3) jT (jG (xEC (.str "tmmmmmmm")) jT))) jBM)
 (jBL (jMG (xBM (jX fIn (xEC (.str "numbers")) (jM 1))) (jQF yJ 0 1 [0,2,1,3,4,5] [.non,.non,.non,.non] 6 yR (jM 3) jT (jG (xEC (.str "tmmm")) jT)) (jM 3))))))))))
theorem yFY:jPT=jVQ:=by kernel_rfl
@[irreducible] noncomputable def jBS:MF:=mkF 2 jPT
def jHJ:List Str:=["way", "wish"]
theorem jTS:FnScope jHJ ["way"] (defScope zA):=⟨rfl,rfl,rfl,by decide +kernel,rfl,by decide +kernel,by decide +kernel⟩
noncomputable def jHO:MS:=(uV (jWP (zQ (jDX (eC (.tup [.str "lands", .str "stays", .str "still", .str "returns", .str "heard", .str "numbered"]))) (.n 1) (bM (jO jDZ (yO 2 wW (jC (jE 0) (jC (jE 1) jN))) (eC .non))) (jE 1) [1])))
noncomputable def jLC:MS:=(jBL (jQH (zG (jDQ (xEC (.tup [.str "lands", .str "stays", .str "still", .str "returns", .str "heard", .str "numbered"]))) (.n 1) (xBM (jX jDZ (vN 2 wW (jG (jM 0) (jG (jM 1) jT))) (xEC .non))) (jM 1) [1])))
theorem jTP:jHO=jLC:=by kernel_rfl
@[irreducible] noncomputable def kW:MF:=mkF 1 jHO
def jDN:List Str:=["found", "at", "ordered", "some"]
theorem jPY:FnScope jDN [] (defScope vZ):=⟨rfl,rfl,rfl,by decide +kernel,rfl,by decide +kernel,by decide +kernel⟩
noncomputable def jIX:MS:=(yE (uW 0 (jAH (jC (yS jN) jN)))
 (yE (jMH (jQK (jC (eCB jDS (jC (eC (.tup [.str "hidden", .str "whole", .str "one", .str "all", .str "drops", .str "numbers"])) jN)) jN)) (.n 1) (uW 0 (jAH (jKM (jE 0) (jKM (shN (zQ (jDX (jE 0)) (.n 3) jAO (yS (jKM (jE 3) (jC (jE 1) jN))) [3])) jN)))))
 (yE (uW 2 (yCO kLen (jE 0)))
 (uV (shN (zQ (jDX (jE 2)) (.n 3) jAO (eCB jPO (jC (shN (zQ (jDX (jE 3)) (.n 1) jAO (jO fIx (eC (.tup [.str "hidden", .str "whole", .str "one", .str "all", .str "drops", .str "numbers"])) (jE 1)) [1])) jN)) [3]))))))
@[irreducible] noncomputable def wM:MF:=mkF 4 jIX
def jHI:List Str:=["way", "wishes", "wish", "good", "some", "late", "less", "mend"]
theorem jTR:FnScope jHI ["way", "wishes"] (defScope uZ):=⟨rfl,rfl,rfl,by decide +kernel,rfl,by decide +kernel,by decide +kernel⟩
noncomputable def jHN:MS:=(yE (jMH (jDX (jE 1)) (.n 2) (jMV (yO 1 uF (jC (jE 2) jN))))
 (yE (uW 3 (jWP (jHT jN)))
 (yE (jMH (jDX (jGW 0 wM [])) (.n 4) (sIf (jIE (tM (eCB yBX (jC (shN (zQ (jDX (jE 3)) (.n 6) jAO (eCB jKH (jC (shN (zQ (jDX (jE 6)) (.n 7) jAO (jO fIn (jE 7) (jE 4)) [7])) jN)) [6])) jN)))) (yE (uW 5 (yO 2 jBS (jC (jE 0) (jC (jE 4) jN))))
 (sIf (tM (eCB jKH (jC (shN (zQ (jDX (jE 1)) (.n 2) jAO (jO jDZ (yO 2 wW (jC (jE 5) (jC (jE 2) jN))) (eC .non)) [2])) jN))) (jMV (jKL (jE 3) (jE 4))) uC)) uC))
 (uV (jE 3)))))
noncomputable def jHH:MS:=(vA (jJV (jDQ (jM 1)) (.n 2) (jNF (vN 1 uF (jG (jM 2) jT))))
 (vA (jAD 3 (jQH (jOA jT)))
 (vA (jJV (jDQ (jPH 0 wM [])) (.n 4) (jEX (jMT (xTM (xECB yBX (jG (jMF (zG (jDQ (jM 3)) (.n 6) jAO (xECB jKH (jG (jMF (zG (jDQ (jM 6)) (.n 7) jAO (jX fIn (jM 7) (jM 4)) [7])) jT)) [6])) jT)))) (vA (jAD 5 (vN 2 jBS (jG (jM 0) (jG (jM 4) jT))))
 (jEX (xTM (xECB jKH (jG (jMF (zG (jDQ (jM 1)) (.n 2) jAO (jX jDZ (vN 2 wW (jG (jM 5) (jG (jM 2) jT))) (xEC .non)) [2])) jT))) (jNF (jKL (jM 3) (jM 4))) jBM)) jBM))
 (jBL (jM 3)))))
theorem jLB:jHN=jHH:=by kernel_rfl
@[irreducible] noncomputable def yG:MF:=mkF 6 jHN
def jJQ:List Str:=["_law_script"]
theorem jYG:FnScope jJQ ["_law_script"] (defScope kE):=⟨rfl,rfl,rfl,by decide +kernel,rfl,by decide +kernel,by decide +kernel⟩
noncomputable def jJU:MS:=(uV (jWP (jHT (jC (eCB jSH (jC (eSl (jE 0) jJX (jJW (eC (.int 63)))) jN)) (jC (eC (.int 0)) (jC (eC (.int 0)) (jC (eC (.int 100201)) (jC (eC (.int 0)) jN))))))))
noncomputable def jOT:MS:=(jBL (jQH (jOA (jG (xECB jSH (jG (yHQ (jM 0) jSK (jSJ (xEC (.int 63)))) jT)) (jG (xEC (.int 0)) (jG (xEC (.int 0)) (jG (xEC (.int 100201)) (jG (xEC (.int 0)) jT))))))))
theorem jYF:jJU=jOT:=by kernel_rfl
@[irreducible] noncomputable def jAU:MF:=mkF 0 jJU
def jJS:List Str:=["_law_bag", "_law_many", "_law_cell", "_law_digit", "_law_seed"]
theorem jYH:FnScope jJS ["_law_bag", "_law_many"] (defScope kJ):=⟨rfl,rfl,rfl,by decide +kernel,rfl,by decide +kernel,by decide +kernel⟩
noncomputable def jOX:MS:=(yE (sIf (andM (bM (jO fEq (jO fIx (jE 0) (eC (.int 2))) (eC (.int 0)))) (bM (jO fLt (jO fIx (jE 0) (eC (.int 1))) (eCB jDS (jC (jO fIx (jE 0) (eC (.int 0))) jN))))) (yE (uW 2 (jO fIx (jO fIx (jE 0) (eC (.int 0))) (jO fIx (jE 0) (eC (.int 1)))))
 (yE (jGS (jO zH (jO fIx (jE 0) (eC (.int 1))) (eC (.int 1))) (jE 0) (eC (.int 1)))
 (yE (jGS (ifM (bM (jO fGe (jE 2) (jO yMH (eC (.int 10)) (eC (.int 18))))) (jE 2) (eC (.int 0))) (jE 0) (eC (.int 2)))
 (jGS (jO jKI (eCB jEN (jC (jO zH (jO zH (jO jDY (jO fIx (jE 0) (eC (.int 3))) (eC (.int 40031))) (jO jDY (jO jKI (eCB jEN (jC (jE 2) jN)) (eC (.int 2147483549))) (eC (.int 331)))) (eC (.int 2011))) jN)) (eC (.int 2147483587))) (jE 0) (eC (.int 3)))))) uC)
 (yE (sIf (bM (jO fGt (jO fIx (jE 0) (eC (.int 2))) (eC (.int 0)))) (yE (uW 3 (jO jKI (eCB jEN (jC (jO fIx (jE 0) (eC (.int 2))) jN)) (jE 1)))
 (yE (jGS (jO jYX (jO fIx (jE 0) (eC (.int 2))) (jE 1)) (jE 0) (eC (.int 2)))
 (uV (jE 3)))) uC)
 (yE (jGS (jO zH (jO fIx (jE 0) (eC (.int 4))) (eC (.int 1))) (jE 0) (eC (.int 4)))
 (yE (uW 4 (jO fIx (jE 0) (eC (.int 3))))
 (yE (jGS (jO jKI (eCB jEN (jC (jO zH (jO zH (jO zH (jO jDY (jE 4) (jE 4)) (jO jDY (eC (.int 65071)) (jE 4))) (jO jDY (eC (.int 6673)) (jO fIx (jE 0) (eC (.int 4))))) (eC (.int 40013))) jN)) (eC (.int 2147483587))) (jE 0) (eC (.int 3)))
 (uV (jO jKI (eCB jEN (jC (jO zH (jO zH (jO jYX (jO fIx (jE 0) (eC (.int 3))) (eC (.int 61))) (jO jDY (jE 4) (eC (.int 32009)))) (jO fIx (jE 0) (eC (.int 4)))) jN)) (jE 1))))))))
@[irreducible] noncomputable def vI:MF:=mkF 3 jOX
def jNL:List Str:=["_law_bag", "_law_things"]
theorem yDB:FnScope jNL ["_law_bag", "_law_things"] (defScope jBB):=⟨rfl,rfl,rfl,by decide +kernel,rfl,by decide +kernel,by decide +kernel⟩
noncomputable def jNO:MS:=(uV (jO fIx (jE 1) (yO 2 vI (jC (jE 0) (jC (eCB jDS (jC (jE 1) jN)) jN)))))
@[irreducible] noncomputable def uQ:MF:=mkF 0 jNO
def jJR:List Str:=["_law_found", "_law_due", "_law_one", "_law_other"]
theorem jOV:FnScope jJR ["_law_found", "_law_due"] (defScope uR):=⟨rfl,rfl,rfl,by decide +kernel,rfl,by decide +kernel,by decide +kernel⟩
noncomputable def jOW (m:MF):MS:=(yE (sIf (tM (eCB wZ (jC (jE 1) (jC (yS (jC (eC (.ty "list")) (jC (eC (.ty "tuple")) jN))) jN)))) (yE (sIf (orM (bM (jO fNe (eCB wZ (jC (jE 0) (jC (eC (.ty "list")) jN))) (eCB wZ (jC (jE 1) (jC (eC (.ty "list")) jN))))) (bM (jO fNe (eCB wZ (jC (jE 0) (jC (eC (.ty "tuple")) jN))) (eCB wZ (jC (jE 1) (jC (eC (.ty "tuple")) jN)))))) (uV (eC (.bl false))) uC)
 (uV (jGR (jO fEq (eCB jDS (jC (jE 0) jN)) (eCB jDS (jC (jE 1) jN))) (eCB jKH (jC (shN (zQ (yHT (jC (jE 0) (jC (jE 1) jN))) (.t [(.n 2),(.n 3)]) jAO (yO 2 m (jC (jE 2) (jC (jE 3) jN))) [2,3])) jN))))) uC)
 (yE (sIf (orM (bM (jO jDZ (jE 1) (eC .non))) (bM (jO jDZ (jE 0) (eC .non)))) (uV (jGR (jO jDZ (jE 1) (eC .non)) (jO jDZ (jE 0) (eC .non)))) uC)
 (yE (sIf (orM (bM (jO fNe (eCB wZ (jC (jE 0) (jC (eC (.ty "bool")) jN))) (eCB wZ (jC (jE 1) (jC (eC (.ty "bool")) jN))))) (bM (jO fNe (eCB wZ (jC (jE 0) (jC (eC (.ty "int")) jN))) (eCB wZ (jC (jE 1) (jC (eC (.ty "int")) jN)))))) (uV (eC (.bl false))) uC)
 (uV (jGR (jO fEq (eCB wZ (jC (jE 0) (jC (eC (.ty "str")) jN))) (eCB wZ (jC (jE 1) (jC (eC (.ty "str")) jN)))) (jO fEq (jE 0) (jE 1)))))))
noncomputable def jJT:Nat→MF
 | 0=>fun _ _=>.bad
 | n+1=>mkF 2 (jOW (jJT n))
@[irreducible] noncomputable def zJ:MF:=jJT 8
def jIM:List Str:=["_law_e"]
theorem jUS:FnScope jIM ["_law_e"] (defScope wA):=⟨rfl,rfl,rfl,by decide +kernel,rfl,by decide +kernel,by decide +kernel⟩
noncomputable def jND:MS:=(yE (sIf (bM (jO fIn (eXf xfl "code" (jE 0)) (jAH (jC (eC (.str "InvalidKey")) (jC (eC (.str "InvalidNumber")) (jC (eC (.str "InvalidTable")) (jC (eC (.str "InvalidSight")) (jC (eC (.str "InvalidWish")) (jC (eC (.str "InvalidStand")) jN))))))))) (uV (eXf xfl "given" (jE 0))) uC)
 (yE (sIf (bM (jO fIn (eXf xfl "code" (jE 0)) (jAH (jC (eC (.str "InvalidName")) (jC (eC (.str "InvalidLimit")) (jC (eC (.str "TakenKey")) jN)))))) (uV (eXf xfl "given" (jE 0))) uC)
 (yE (sIf (bM (jO fIn (eXf xfl "code" (jE 0)) (jAH (jC (eC (.str "InvalidEntry")) (jC (eC (.str "InvalidStep")) (jC (eC (.str "InvalidCommand")) jN)))))) (uV (eXf xfl "at" (jE 0))) uC)
 (yE (sIf (bM (jO fIn (eXf xfl "code" (jE 0)) (jAH (jC (eC (.str "DuplicateName")) (jC (eC (.str "UnknownName")) jN))))) (uV (eXf xfl "name" (jE 0))) uC)
 (yE (sIf (bM (jO fIn (eXf xfl "code" (jE 0)) (jAH (jC (eC (.str "InvalidOption")) (jC (eC (.str "InvalidText")) jN))))) (uV (ifM (bM (jO fEq (eXf xfl "code" (jE 0)) (eC (.str "InvalidOption")))) (eXf xfl "word" (jE 0)) (eXf xfl "line" (jE 0)))) uC)
 (yE (sIf (bM (jO fIn (eXf xfl "code" (jE 0)) (jAH (jC (eC (.str "TooMany")) (jC (eC (.str "Full")) jN))))) (uV (ifM (bM (jO fEq (eXf xfl "code" (jE 0)) (eC (.str "TooMany")))) (eXf xfl "most" (jE 0)) (eXf xfl "limit" (jE 0)))) uC)
 (yE (sIf (bM (jO fIn (eXf xfl "code" (jE 0)) (jAH (jC (eC (.str "NoRow")) (jC (eC (.str "NoLetter")) jN))))) (uV (ifM (bM (jO fEq (eXf xfl "code" (jE 0)) (eC (.str "NoRow")))) (eXf xfl "row" (jE 0)) (eXf xfl "letter" (jE 0)))) uC)
 (uV (ifM (bM (jO fEq (eXf xfl "code" (jE 0)) (eC (.str "NotBeside")))) (yS (jC (eXf xfl "left" (jE 0)) (jC (eXf xfl "right" (jE 0)) jN))) (eC .non))))))))))
@[irreducible] noncomputable def jGG:MF:=mkF 0 jND
theorem jYT {P:Program} {w:World} {K:PySem.W.Frag} {mg:Str→Option Value} {base:Heap} {B:Bs} {f:Addr} {cdv:Value} {A:Around} {outer:List Env} {s:Shared} {H:Hp} {E:XK} {k:Nat} {N:Ent} {p:Addr × Obj} {c:Nat} {dd:Addr} (hK:K=(B.with (p.1,c,dd)).K) (hw:w=B.w) (g:Gm mg) (XC:XClsF K B xfl)
  (D:BdyX (L2H.cxH (L2.CX P w) P w K mg base jIM "_law_field" (defScope wA) f cdv A outer s H E p) (B.with (p.1,c,dd)) E k)  :
  SimSs (L2H.cxH (L2.CX P w) P w K mg base jIM "_law_field" (defScope wA) f cdv A outer s H E p) (B.with (p.1,c,dd)) N (fun c d _ H=>E c d H) (defBody wA) (jND) :=
 (jF (jW (jR (jDR hK D.rm.u9) (qP D.hx XC.with (jB (i:=0) rfl (.inl rfl) rfl rfl) rfl) (yW (jA (jK (jJ (by decide +kernel))) (jA (jK (jJ (by decide +kernel))) (jA (jK (jJ (by decide +kernel))) (jA (jK (jJ (by decide +kernel))) (jA (jK (jJ (by decide +kernel))) (jA (jK (jJ (by decide +kernel))) jD rfl) rfl) rfl) rfl) rfl) rfl)) rfl) (jH (jZ (qP D.hx XC.with (jB (i:=0) rfl (.inl rfl) rfl rfl) rfl))) jU)
 (jF (jW (jR (jDR hK D.rm.u9) (qP D.hx XC.with (jB (i:=0) rfl (.inl rfl) rfl rfl) rfl) (yW (jA (jK (jJ (by decide +kernel))) (jA (jK (jJ (by decide +kernel))) (jA (jK (jJ (by decide +kernel))) jD rfl) rfl) rfl)) rfl) (jH (jZ (qP D.hx XC.with (jB (i:=0) rfl (.inl rfl) rfl rfl) rfl))) jU)
 (jF (jW (jR (jDR hK D.rm.u9) (qP D.hx XC.with (jB (i:=0) rfl (.inl rfl) rfl rfl) rfl) (yW (jA (jK (jJ (by decide +kernel))) (jA (jK (jJ (by decide +kernel))) (jA (jK (jJ (by decide +kernel))) jD rfl) rfl) rfl)) rfl) (jH (jZ (qP D.hx XC.with (jB (i:=0) rfl (.inl rfl) rfl rfl) rfl))) jU)
 (jF (jW (jR (jDR hK D.rm.u9) (qP D.hx XC.with (jB (i:=0) rfl (.inl rfl) rfl rfl) rfl) (yW (jA (jK (jJ (by decide +kernel))) (jA (jK (jJ (by decide +kernel))) jD rfl) rfl)) rfl) (jH (jZ (qP D.hx XC.with (jB (i:=0) rfl (.inl rfl) rfl rfl) rfl))) jU)
 (jF (jW (jR (jDR hK D.rm.u9) (qP D.hx XC.with (jB (i:=0) rfl (.inl rfl) rfl rfl) rfl) (yW (jA (jK (jJ (by decide +kernel))) (jA (jK (jJ (by decide +kernel))) jD rfl) rfl)) rfl) (jH (jZ (vU (jR (vO hK D.rm.u9) (qP D.hx XC.with (jB (i:=0) rfl (.inl rfl) rfl rfl) rfl) (jK (jJ (by decide +kernel))) rfl) (qP D.hx XC.with (jB (i:=0) rfl (.inl rfl) rfl rfl) rfl) (qP D.hx XC.with (jB (i:=0) rfl (.inl rfl) rfl rfl) rfl)))) jU)
 (jF (jW (jR (jDR hK D.rm.u9) (qP D.hx XC.with (jB (i:=0) rfl (.inl rfl) rfl rfl) rfl) (yW (jA (jK (jJ (by decide +kernel))) (jA (jK (jJ (by decide +kernel))) jD rfl) rfl)) rfl) (jH (jZ (vU (jR (vO hK D.rm.u9) (qP D.hx XC.with (jB (i:=0) rfl (.inl rfl) rfl rfl) rfl) (jK (jJ (by decide +kernel))) rfl) (qP D.hx XC.with (jB (i:=0) rfl (.inl rfl) rfl rfl) rfl) (qP D.hx XC.with (jB (i:=0) rfl (.inl rfl) rfl rfl) rfl)))) jU)
 (jF (jW (jR (jDR hK D.rm.u9) (qP D.hx XC.with (jB (i:=0) rfl (.inl rfl) rfl rfl) rfl) (yW (jA (jK (jJ (by decide +kernel))) (jA (jK (jJ (by decide +kernel))) jD rfl) rfl)) rfl) (jH (jZ (vU (jR (vO hK D.rm.u9) (qP D.hx XC.with (jB (i:=0) rfl (.inl rfl) rfl rfl) rfl) (jK (jJ (by decide +kernel))) rfl) (qP D.hx XC.with (jB (i:=0) rfl (.inl rfl) rfl rfl) rfl) (qP D.hx XC.with (jB (i:=0) rfl (.inl rfl) rfl rfl) rfl)))) jU)
 (jH (jZ (vU (jR (vO hK D.rm.u9) (qP D.hx XC.with (jB (i:=0) rfl (.inl rfl) rfl rfl) rfl) (jK (jJ (by decide +kernel))) rfl) (jQ (jA (qP D.hx XC.with (jB (i:=0) rfl (.inl rfl) rfl rfl) rfl) (jA (qP D.hx XC.with (jB (i:=0) rfl (.inl rfl) rfl rfl) rfl) jD rfl) rfl)) jAR))))))))))
def yBC:List Str:=["_law_ask", "_law_e"]
theorem yAZ:FnScope yBC ["_law_ask"] (defScope jCZ):=⟨rfl,rfl,rfl,by decide +kernel,rfl,by decide +kernel,by decide +kernel⟩
noncomputable def jJH:MS:=uV (yS (jC (eXf xfl "code" (jE 1)) (jC (yO 1 jGG (jC (jE 1) jN)) jN)))
def jEU:List Str:=["_law_bag", "_law_drops", "_law_numbers", "_law_k"]
theorem jPB:FnScope jEU ["_law_bag"] (defScope uA):=⟨rfl,rfl,rfl,by decide +kernel,rfl,by decide +kernel,by decide +kernel⟩
noncomputable def jEW:MS:=(yE (uW 1 (jO zH (eC (.str "t")) (eMS jQM (eC (.str "")) (jC (shN (zQ (jQK (jC (eC (.int 7)) jN)) (.n 3) jAO (yO 2 uQ (jC (jE 0) (jC (eC (.str "ttrm")) jN))) [3])) jN))))
 (yE (uW 2 (jO zH (eC (.str "t")) (eMS jQM (eC (.str "")) (jC (shN (zQ (jQK (jC (eC (.int 3)) jN)) (.n 3) jAO (yO 2 uQ (jC (jE 0) (jC (eC (.str "ttrm")) jN))) [3])) jN))))
 (uV (yS (jC (jE 1) (jC (jE 2) (jC (jO fGt (yO 2 vI (jC (jE 0) (jC (eC (.int 3)) jN))) (eC (.int 0))) (jC (jO fEq (yO 2 vI (jC (jE 0) (jC (eC (.int 2)) jN))) (eC (.int 0))) (jC (yO 2 uQ (jC (jE 0) (jC (jAH (jC (eC (.str "none")) (jC (eC (.str "none")) (jC (eC (.str "one")) (jC (eC (.str "all")) jN))))) jN))) jN)))))))))
noncomputable def jIC:MS:=(vA (jAD 1 (jX zH (xEC (.str "t")) (yME jQM (xEC (.str "")) (jG (jMF (zG (jNE (jG (xEC (.int 7)) jT)) (.n 3) jAO (vN 2 uQ (jG (jM 0) (jG (xEC (.str "ttrm")) jT))) [3])) jT))))
 (vA (jAD 2 (jX zH (xEC (.str "t")) (yME jQM (xEC (.str "")) (jG (jMF (zG (jNE (jG (xEC (.int 3)) jT)) (.n 3) jAO (vN 2 uQ (jG (jM 0) (jG (xEC (.str "ttrm")) jT))) [3])) jT))))
 (jBL (jBN (jG (jM 1) (jG (jM 2) (jG (jX fGt (vN 2 vI (jG (jM 0) (jG (xEC (.int 3)) jT))) (xEC (.int 0))) (jG (jX fEq (vN 2 vI (jG (jM 0) (jG (xEC (.int 2)) jT))) (xEC (.int 0))) (jG (vN 2 uQ (jG (jM 0) (jG (jCV (jG (xEC (.str "none")) (jG (xEC (.str "none")) (jG (xEC (.str "one")) (jG (xEC (.str "all")) jT))))) jT))) jT)))))))))
theorem jPA:jEW=jIC:=by kernel_rfl
@[irreducible] noncomputable def uU:MF:=mkF 3 jEW
def jKV:List Str:=["_law_spec"]
theorem yAY:FnScope jKV ["_law_spec"] (defScope qZ):=⟨rfl,rfl,rfl,by decide +kernel,rfl,by decide +kernel,by decide +kernel⟩
noncomputable def jKZ:MS:=(uV (jUL yJ 2 3 [0,1,2,3,4,5] [.str "tttttttt", .str "tttt"] 6 yD (jC (jO fIx (jE 0) (eC (.int 0))) (jC (jO fIx (jE 0) (eC (.int 1))) jN)) (jC (jO fIx (jE 0) (eC (.int 2))) (jC (jO fIx (jE 0) (eC (.int 3))) (jC (jO fIx (jE 0) (eC (.int 4))) jN)))))
noncomputable def jQR:MS:=(jBL (jQE yJ 2 3 [0,1,2,3,4,5] [.str "tttttttt", .str "tttt"] 6 yD (jG (jX fIx (jM 0) (xEC (.int 0))) (jG (jX fIx (jM 0) (xEC (.int 1))) jT)) (jG (jX fIx (jM 0) (xEC (.int 2))) (jG (jX fIx (jM 0) (xEC (.int 3))) (jG (jX fIx (jM 0) (xEC (.int 4))) jT)))))
theorem yAT:jKZ=jQR:=by kernel_rfl
@[irreducible] noncomputable def jCE:MF:=mkF 0 jKZ
def jHL:List Str:=[]
theorem jTU:FnScope jHL [] (defScope zE):=⟨rfl,rfl,rfl,by decide +kernel,rfl,by decide +kernel,by decide +kernel⟩
noncomputable def jLF:MS:=(uV (jAH (jC (eC (.str "lands")) (jC (eC (.str "stays")) (jC (eC (.str "still")) (jC (eC (.str "returns")) (jC (eC (.str "heard")) (jC (eC (.str "numbered")) jN))))))))
@[irreducible] noncomputable def uY:MF:=mkF 0 jLF
def jKW:List Str:=["_law_stand", "_law_at", "_law_value"]
theorem yBA:FnScope jKW ["_law_stand", "_law_at", "_law_value"] (defScope jAA):=⟨rfl,rfl,rfl,by decide +kernel,rfl,by decide +kernel,by decide +kernel⟩
noncomputable def jQV:MS:=(uV (jO zH (jO zH (eSl (jE 0) jJX (jJW (jE 1))) (yS (jC (jE 2) jN))) (eSl (jE 0) (jJW (jO zH (jE 1) (eC (.int 1)))) jJX)))
@[irreducible] noncomputable def yN:MF:=mkF 0 jQV
def jDD:List Str:=["_law_spec", "_law_elder", "_law_dropped"]
theorem jLI:FnScope jDD ["_law_spec", "_law_elder", "_law_dropped"] (defScope vC):=⟨rfl,rfl,rfl,by decide +kernel,rfl,by decide +kernel,by decide +kernel⟩
noncomputable def jFM:MS:=(uV (jO fEq (jO fIx (jO fIx (jE 0) (eC (.int 1))) (jO zH (jO jDY (eC (.int 2)) (eCB jEN (jC (jE 1) jN))) (eCB jEN (jC (jE 2) jN)))) (eC (.str "t"))))
@[irreducible] noncomputable def vX:MF:=mkF 0 jFM
def jEF:List Str:=["_law_spec", "_law_wish", "_law_stand", "_law_at", "_law_found", "_law_word"]
theorem jNR:FnScope jEF ["_law_spec", "_law_wish", "_law_stand"] (defScope vP):=⟨rfl,rfl,rfl,by decide +kernel,rfl,by decide +kernel,by decide +kernel⟩
noncomputable def jHQ:MS:=(yE (yTR 3 4 (jO zH (jO zH (jO jDY (eC (.int 4)) (eCB jEN (jC (jO fIx (jE 2) (eC (.int 0))) jN))) (jO jDY (eC (.int 2)) (eCB jEN (jC (jO fIx (jE 2) (eC (.int 1))) jN)))) (eCB jEN (jC (jO fIx (jE 2) (eC (.int 2))) jN))) (jHT jN))
 (yE (uW 5 (jO fIx (jO fIx (jE 0) (eC (.int 0))) (jE 3)))
 (yE (sIf (bM (jO fNe (jO fIx (jE 0) (eC (.int 4))) (eC (.str "all")))) (jGT 4 (jHT (jC (yS (jC (eC (.str "number")) (jC (yO 3 yN (jC (yO 3 yN (jC (jE 2) (jC (eC (.int 0)) (jC (eC (.bl true)) jN)))) (jC (eC (.int 3)) (jC (eC (.bl true)) jN)))) jN))) (jC (yS (jC (eC (.str "aside")) (jC (yO 3 yN (jC (jE 2) (jC (eC (.int 0)) (jC (eC (.bl true)) jN)))) jN))) jN)))) uC)
 (yE (jGT 4 (vCR (jE 4) (jAH (jC (yS (jC (eC (.str "again")) (jC (yO 3 yN (jC (jE 2) (jC (eC (.int 1)) (jC (eC (.bl true)) jN)))) jN))) (jC (yS (jC (eC (.str "apart")) (jC (yO 3 yN (jC (jE 2) (jC (eC (.int 2)) (jC (eC (.bl true)) jN)))) jN))) jN)))))
 (yE (sIf (andM (bM (jO fEq (jE 1) (eC (.str "lands")))) (andM (bM (jO fEq (jE 5) (eC (.str "t")))) (andM (tM (jO fIx (jE 2) (eC (.int 3)))) (jIE (tM (jO fIx (jE 2) (eC (.int 2)))))))) (wY 4 (yS (jC (eC (.str "answer")) (jC (yS (jC (eC (.str "broken")) jN)) jN)))) uC)
 (yE (sIf (andM (bM (jO fEq (jE 1) (eC (.str "heard")))) (andM (bM (jO fEq (jE 5) (eC (.str "r")))) (jIE (tM (jO fIx (jE 2) (eC (.int 1))))))) (wY 4 (yS (jC (eC (.str "answer")) (jC (yS (jC (eC (.str "broken")) jN)) jN)))) uC)
 (jHW 4)))))))
@[irreducible] noncomputable def qK:MF:=mkF 3 jHQ
def jDE:List Str:=["_law_spec", "_law_wish", "_law_stand", "_law_found", "_law_word", "_law_lost"]
theorem jLJ:FnScope jDE ["_law_spec", "_law_wish", "_law_stand"] (defScope vD):=⟨rfl,rfl,rfl,by decide +kernel,rfl,by decide +kernel,by decide +kernel⟩
noncomputable def jFN:MS:=(yE (jGT 3 (jHT jN))
 (yE (sIf (bM (jO fEq (jO fIx (jE 0) (eC (.int 4))) (eC (.str "none")))) (wY 3 (yS (jC (eC (.str "number")) (jC (ifM (bM (jO fEq (jE 1) (eC (.str "numbered")))) (yS (jC (eC (.bl true)) (jC (jO fIx (jE 2) (eC (.int 1))) jN))) (yS (jC (eC (.bl true)) (jC (jO fIx (jE 2) (eC (.int 1))) (jC (eC (.bl true)) jN))))) jN)))) uC)
 (yE (sIf (bM (jO fNe (jO fIx (jE 0) (eC (.int 4))) (eC (.str "all")))) (wY 3 (yS (jC (eC (.str "drop")) (jC (yO 3 yN (jC (jE 2) (jC (eC (.int 1)) (jC (eC (.bl true)) jN)))) jN)))) uC)
 (yE (uW 4 (jO fIx (jO fIx (jE 0) (eC (.int 1))) (jO zH (jO jDY (eC (.int 2)) (eCB jEN (jC (jO fIx (jE 2) (eC (.int 0))) jN))) (eCB jEN (jC (jO fIx (jE 2) (eC (.int 1))) jN)))))
 (yE (uW 5 (ifM (bM (jO fEq (jE 1) (eC (.str "numbered")))) (jO fEq (jE 4) (eC (.str "r"))) (jGR (jO fEq (jE 4) (eC (.str "t"))) (jGR (jO fIx (jE 2) (eC (.int 2))) (jO fIx (jE 0) (eC (.int 2)))))))
 (yE (sIf (tM (jE 5)) (wY 3 (yS (jC (eC (.str "answer")) (jC (yS (jC (eC (.str "broken")) jN)) jN)))) uC)
 (jHW 3)))))))
@[irreducible] noncomputable def wH:MF:=mkF 3 jFN
def jDF:List Str:=["_law_spec", "_law_stand", "_law_found", "_law_torn"]
theorem jLK:FnScope jDF ["_law_spec", "_law_stand"] (defScope vG):=⟨rfl,rfl,rfl,by decide +kernel,rfl,by decide +kernel,by decide +kernel⟩
noncomputable def jFO:MS:=(yE (jGT 2 (jHT jN))
 (yE (sIf (jIE (tM (jO fIx (jE 1) (eC (.int 0))))) (yE (sIf (bM (jO fEq (jO fIx (jE 0) (eC (.int 4))) (eC (.str "none")))) (wY 2 (yS (jC (eC (.str "number")) (jC (yO 3 yN (jC (jE 1) (jC (eC (.int 2)) (jC (eC (.bl true)) jN)))) jN)))) uC)
 (yE (sIf (bM (jO fNe (jO fIx (jE 0) (eC (.int 4))) (eC (.str "all")))) (wY 2 (yS (jC (eC (.str "land")) (jC (yO 3 yN (jC (yO 3 yN (jC (jE 1) (jC (eC (.int 0)) (jC (eC (.bl true)) jN)))) (jC (eC (.int 3)) (jC (eC (.bl true)) jN)))) jN)))) uC)
 (uV (jO zH (jE 2) (jAH (jC (yS (jC (eC (.str "ahead")) (jC (yS (jC (eC (.bl true)) (jC (eC (.bl true)) (jC (eC (.bl false)) (jC (eC (.bl false)) (jC (eC (.bl false)) jN)))))) jN))) jN)))))) uC)
 (yE (sIf (bM (jO fEq (jO fIx (jE 0) (eC (.int 4))) (eC (.str "none")))) (wY 2 (yS (jC (eC (.str "number")) (jC (yO 3 yN (jC (yO 3 yN (jC (jE 1) (jC (eC (.int 2)) (jC (eC (.bl true)) jN)))) (jC (eC (.int 4)) (jC (eC (.bl true)) jN)))) jN)))) uC)
 (yE (sIf (bM (jO fNe (jO fIx (jE 0) (eC (.int 4))) (eC (.str "all")))) (wY 2 (yS (jC (eC (.str "drop")) (jC (yO 3 yN (jC (jE 1) (jC (eC (.int 3)) (jC (eC (.bl true)) jN)))) jN)))) uC)
 (yE (uW 3 (orV (jYV (jO fIx (jE 1) (eC (.int 1)))) (jGR (jO fIx (jE 1) (eC (.int 4))) (jO fIx (jE 0) (eC (.int 2))))))
 (yE (sIf (andM (tM (jE 3)) (tM (yO 3 vX (jC (jE 0) (jC (jO fIx (jE 1) (eC (.int 2))) (jC (jO fIx (jE 1) (eC (.int 3))) jN)))))) (wY 2 (yS (jC (eC (.str "answer")) (jC (yS (jC (eC (.str "broken")) jN)) jN)))) uC)
 (jHW 2)))))))
@[irreducible] noncomputable def wI:MF:=mkF 2 jFO
def jDC:List Str:=["_law_spec", "_law_stand", "_law_found", "_law_broken", "_law_late"]
theorem jLH:FnScope jDC ["_law_spec", "_law_stand"] (defScope vB):=⟨rfl,rfl,rfl,by decide +kernel,rfl,by decide +kernel,by decide +kernel⟩
noncomputable def jFL:MS:=(yE (jVH 2 3 (jHT jN) (yS (jC (eC (.str "broken")) jN)))
 (yE (sIf (bM (jO fNe (jO fIx (jE 1) (eC (.int 0))) (eC (.int 1)))) (wY 2 (yS (jC (eC (.str "strike")) (jC (yO 3 yN (jC (jE 1) (jC (eC (.int 0)) (jC (eC (.int 1)) jN)))) jN)))) (yE (uW 4 (yO 3 yN (jC (yO 3 yN (jC (jE 1) (jC (eC (.int 0)) (jC (eC (.int 2)) jN)))) (jC (eC (.int 2)) (jC (orV (jO fIx (jE 1) (eC (.int 2))) (jO fNe (jO fIx (jE 0) (eC (.int 4))) (eC (.str "all")))) jN)))))
 (wY 2 (yS (jC (eC (.str "back")) (jC (ifM (tM (jO fIx (jE 1) (eC (.int 3)))) (jE 3) (jE 4)) jN))))))
 (yE (uW 4 (yO 3 yN (jC (jE 1) (jC (eC (.int 1)) (jC (orV (jO fIx (jE 1) (eC (.int 1))) (jO fEq (jO fIx (jE 0) (eC (.int 4))) (eC (.str "none")))) jN)))))
 (yE (wY 2 (yS (jC (eC (.str "number")) (jC (yO 3 yN (jC (jE 4) (jC (eC (.int 3)) (jC (orV (jO fIx (jE 1) (eC (.int 3))) (jGR (jO fEq (jO fIx (jE 1) (eC (.int 0))) (eC (.int 1))) (jYV (jO fIx (jE 0) (eC (.int 3)))))) jN)))) jN))))
 (yE (sIf (bM (jO fNe (jO fIx (jE 0) (eC (.int 4))) (eC (.str "all")))) (wY 2 (yS (jC (eC (.str "drop")) (jC (yO 3 yN (jC (jE 1) (jC (eC (.int 2)) (jC (eC (.bl true)) jN)))) jN)))) uC)
 (yE (sIf (andM (tM (jO fIx (jE 1) (eC (.int 1)))) (andM (tM (jO fIx (jE 0) (eC (.int 2)))) (tM (yO 3 vX (jC (jE 0) (jC (jO fIx (jE 1) (eC (.int 1))) (jC (jO fIx (jE 1) (eC (.int 2))) jN))))))) (wY 2 (yS (jC (eC (.str "late")) (jC (ifM (bM (jO fEq (jO fIx (jE 1) (eC (.int 0))) (eC (.int 2)))) (jE 3) (yO 3 yN (jC (jE 1) (jC (eC (.int 3)) (jC (eC (.bl true)) jN))))) jN)))) uC)
 (jHW 2)))))))
@[irreducible] noncomputable def wG:MF:=mkF 3 jFL
def jIK:List Str:=["_law_spec", "_law_wish", "_law_stand", "_law_found", "_law_word", "_law_late"]
theorem jUQ:FnScope jIK ["_law_spec", "_law_wish", "_law_stand"] (defScope zX):=⟨rfl,rfl,rfl,by decide +kernel,rfl,by decide +kernel,by decide +kernel⟩
noncomputable def jNB:MS:=(yE (sIf (bM (jO fEq (jE 2) (yS (jC (eC (.str "broken")) jN)))) (uV (jAH jN)) uC)
 (yE (sIf (bM (jO fIn (jE 1) (jAH (jC (eC (.str "lands")) (jC (eC (.str "heard")) jN))))) (uW 3 (yO 3 qK (jC (jE 0) (jC (jE 1) (jC (jE 2) jN))))) (sIf (bM (jO fEq (jE 1) (eC (.str "stays")))) (uW 3 (yO 2 wI (jC (jE 0) (jC (jE 2) jN)))) (sIf (bM (jO fEq (jE 1) (eC (.str "returns")))) (uW 3 (yO 2 wG (jC (jE 0) (jC (jE 2) jN)))) (uW 3 (yO 3 wH (jC (jE 0) (jC (jE 1) (jC (jE 2) jN))))))))
 (uV (shN (zQ (jDX (jE 3)) (.t [(.n 4),(.n 5)]) (bM (jO fNe (jE 5) (jE 2))) (yS (jC (jE 4) (jC (jE 5) jN))) [4,5])))))
@[irreducible] noncomputable def jAW:MF:=mkF 3 jNB
def jIL:List Str:=["_law_wish"]
theorem jUR:FnScope jIL ["_law_wish"] (defScope zY):=⟨rfl,rfl,rfl,by decide +kernel,rfl,by decide +kernel,by decide +kernel⟩
noncomputable def jNC:MS:=(yE (sIf (bM (jO fEq (jE 0) (eC (.str "returns")))) (uV (yS (jC (eC (.int 0)) (jC (eC (.bl false)) (jC (eC (.bl false)) (jC (eC (.bl false)) jN)))))) uC)
 (uV (jO jDY (yS (jC (eC (.bl false)) jN)) (jO fIx (jAH (jC (eC (.int 4)) (jC (eC (.int 5)) (jC (eC (.int 3)) (jC (eC (.int 0)) (jC (eC (.int 4)) (jC (eC (.int 2)) jN))))))) (yUQ (jGW 0 uY []) (jC (jE 0) jN))))))
@[irreducible] noncomputable def jAX:MF:=mkF 0 jNC
def jFU:List Str:=["_law_spec", "_law_wish", "_law_line", "_law_at", "_law_stand", "_law_size", "_law_word", "_law_late", "_law_one", "_law_many"]
theorem jRD:FnScope jFU ["_law_spec", "_law_wish"] (defScope uN):=⟨rfl,rfl,rfl,by decide +kernel,rfl,by decide +kernel,by decide +kernel⟩
noncomputable def jFW:MS:=(yE (jVH 2 3 (jHT (jC (yS (jC (yO 1 jAX (jC (jE 1) jN)) (jC (eC (.int 0)) jN))) jN)) (eC (.int 0)))
 (yE (jGU (bM (jO fLt (jE 3) (eCB jDS (jC (jE 2) jN)))) (yE (jMW (.t [(.n 4),(.n 5)]) (jO fIx (jE 2) (jE 3)))
 (yE (jMH (jDX (yO 3 jAW (jC (jE 0) (jC (jE 1) (jC (jE 4) jN))))) (.t [(.n 6),(.n 7)]) (sIf (bM (jO jIF (jE 7) (shN (zQ (jDX (jE 2)) (.t [(.n 8),(.n 9)]) jAO (jE 8) [8,9])))) (wY 2 (yS (jC (jE 7) (jC (jO zH (jE 5) (eC (.int 1))) jN)))) uC))
 (uW 3 (jO zH (jE 3) (eC (.int 1)))))) 200)
 (jHW 2)))
noncomputable def jJZ:MS:=(vA (jVH 2 3 (jOA (jG (jBN (jG (vN 1 jAX (jG (jM 1) jT)) (jG (xEC (.int 0)) jT))) jT)) (xEC (.int 0)))
 (vA (jGU (xBM (jX fLt (jM 3) (xECB jDS (jG (jM 2) jT)))) (vA (jSI (.t [(.n 4),(.n 5)]) (jX fIx (jM 2) (jM 3)))
 (vA (jJV (jDQ (vN 3 jAW (jG (jM 0) (jG (jM 1) (jG (jM 4) jT))))) (.t [(.n 6),(.n 7)]) (jEX (xBM (jX jIF (jM 7) (jMF (zG (jDQ (jM 2)) (.t [(.n 8),(.n 9)]) jAO (jM 8) [8,9])))) (wY 2 (jBN (jG (jM 7) (jG (jX zH (jM 5) (xEC (.int 1))) jT)))) jBM))
 (jAD 3 (jX zH (jM 3) (xEC (.int 1)))))) 200)
 (jWS 2)))
theorem jQY:jFW=jJZ:=by kernel_rfl
@[irreducible] noncomputable def wF:MF:=mkF 8 jFW
def jHM:List Str:=["_law_spec", "_law_wish", "_law_found", "_law_stand", "_law_size"]
theorem jTV:FnScope jHM ["_law_spec", "_law_wish"] (defScope zF):=⟨rfl,rfl,rfl,by decide +kernel,rfl,by decide +kernel,by decide +kernel⟩
noncomputable def jHP:MS:=(yE (uW 2 (shN (zQ (jDX (yO 2 wF (jC (jE 0) (jC (jE 1) jN)))) (.t [(.n 3),(.n 4)]) (bM (jO fEq (jE 3) (yS (jC (eC (.str "broken")) jN)))) (jE 4) [3,4])))
 (uV (ifM (bM (jO fNe (jE 2) (jAH jN))) (jO fIx (jE 2) (eC (.int 0))) (eC .non))))
noncomputable def jLD:MS:=(vA (jAD 2 (jMF (zG (jDQ (vN 2 wF (jG (jM 0) (jG (jM 1) jT)))) (.t [(.n 3),(.n 4)]) (xBM (jX fEq (jM 3) (jBN (jG (xEC (.str "broken")) jT)))) (jM 4) [3,4])))
 (jBL (jMG (xBM (jX fNe (jM 2) (jCV jT))) (jX fIx (jM 2) (xEC (.int 0))) (xEC .non))))
theorem jTQ:jHP=jLD:=by kernel_rfl
@[irreducible] noncomputable def kY:MF:=mkF 3 jHP
def jDT:List Str:=["_law_spec", "_law_mends", "_law_drops", "_law_numbers", "_law_stretches_z", "_law_hidden_z", "_law_lock_z"]
theorem jMK:FnScope jDT ["_law_spec", "_law_mends"] (defScope vJ):=⟨rfl,rfl,rfl,by decide +kernel,rfl,by decide +kernel,by decide +kernel⟩
noncomputable def jDV:MS:=(yE (jMW (.t [(.n 2),(.n 3),(.n 4),(.n 5),(.n 6)]) (jE 0))
 (yE (uW 6 (ifM (andM (bM (jO fIn (eC (.str "one")) (jE 1))) (bM (jO fEq (jE 6) (eC (.str "none"))))) (eC (.str "one")) (jE 6)))
 (yE (uW 6 (ifM (bM (jO fIn (eC (.str "all")) (jE 1))) (eC (.str "all")) (jE 6)))
 (yE (uW 2 (ifM (bM (jO fIn (eC (.str "drops")) (jE 1))) (eC (.str "tmmmmmmm")) (jE 2)))
 (yE (uW 3 (ifM (bM (jO fIn (eC (.str "numbers")) (jE 1))) (eC (.str "tmmm")) (jE 3)))
 (uV (yS (jC (jE 2) (jC (jE 3) (jC (jGR (jE 4) (jO jIF (eC (.str "whole")) (jE 1))) (jC (orV (jE 5) (jO fIn (eC (.str "hidden")) (jE 1))) (jC (jE 6) jN))))))))))))
noncomputable def jFZ:MS:=(vA (jSI (.t [(.n 2),(.n 3),(.n 4),(.n 5),(.n 6)]) (jM 0))
 (vA (jAD 6 (jMG (jZA (xBM (jX fIn (xEC (.str "one")) (jM 1))) (xBM (jX fEq (jM 6) (xEC (.str "none"))))) (xEC (.str "one")) (jM 6)))
 (vA (jAD 6 (jMG (xBM (jX fIn (xEC (.str "all")) (jM 1))) (xEC (.str "all")) (jM 6)))
 (vA (jAD 2 (jMG (xBM (jX fIn (xEC (.str "drops")) (jM 1))) (xEC (.str "tmmmmmmm")) (jM 2)))
 (vA (jAD 3 (jMG (xBM (jX fIn (xEC (.str "numbers")) (jM 1))) (xEC (.str "tmmm")) (jM 3)))
 (jBL (jBN (jG (jM 2) (jG (jM 3) (jG (jVF (jM 4) (jX jIF (xEC (.str "whole")) (jM 1))) (jG (yMD (jM 5) (jX fIn (xEC (.str "hidden")) (jM 1))) (jG (jM 6) jT))))))))))))
theorem jMI:jDV=jFZ:=by kernel_rfl
@[irreducible] noncomputable def uG:MF:=mkF 5 jDV
def jEV:List Str:=["_law_words", "_law_found", "_law_line", "_law_size", "_law_longer", "_law_some", "_law_first_here", "_law_word"]
theorem jPC:FnScope jEV [] (defScope uB):=⟨rfl,rfl,rfl,by decide +kernel,rfl,by decide +kernel,by decide +kernel⟩
noncomputable def jID:MS:=(yE (uW 0 (jAH (jC (eC (.str "hidden")) (jC (eC (.str "whole")) (jC (eC (.str "one")) (jC (eC (.str "all")) (jC (eC (.str "drops")) (jC (eC (.str "numbers")) jN))))))))
 (yE (yFR 1 2 (jC (jAH (jC (yS jN) jN)) (jC (jAH (jC (yS jN) jN)) jN)))
 (yE (jMH (jQK (jC (eC (.int 6)) jN)) (.n 3) (yE (uW 4 (jAH jN))
 (yE (jMH (jDX (jE 2)) (.n 5) (yE (uW 6 (ifM (bM (jO fEq (jE 5) (yS jN))) (eC (.int 0)) (jO zH (yUQ (jE 0) (jC (jO fIx (jE 5) (vCV (eC (.int 1)))) jN)) (eC (.int 1)))))
 (uW 4 (jO zH (jE 4) (shN (zQ (jDX (eSl (jE 0) (jJW (jE 6)) jJX)) (.n 7) jAO (jO zH (jE 5) (yS (jC (jE 7) jN))) [7]))))))
 (yFR 1 2 (jC (jO zH (jE 1) (jE 4)) (jC (jE 4) jN))))))
 (uV (jE 1)))))
@[irreducible] noncomputable def zK:MF:=mkF 8 jID
def jDU:List Str:=["_law_spec", "_law_wishes_z", "_law_good", "_law_some", "_law_late", "_law_less", "_law_word", "_law_wish"]
theorem jML:FnScope jDU ["_law_spec", "_law_wishes_z"] (defScope vK):=⟨rfl,rfl,rfl,by decide +kernel,rfl,by decide +kernel,by decide +kernel⟩
noncomputable def jDW:MS:=(yE (jGT 2 (jHT jN))
 (yE (jMH (jDX (jGW 0 zK [])) (.n 3) (sIf (bM (jO fEq (shN (zQ (jDX (jE 2)) (.n 5) (bM (jO fEq (shN (zQ (jDX (jE 5)) (.n 6) (bM (jO jIF (jE 6) (jE 3))) (jE 6) [6])) (jAH jN))) (jE 5) [5])) (jAH jN))) (yE (uW 4 (yO 2 uG (jC (jE 0) (jC (jE 3) jN))))
 (sIf (bM (jO fEq (shN (zQ (jDX (jE 1)) (.n 7) (bM (jO jVP (yO 2 kY (jC (jE 4) (jC (jE 7) jN))) (eC .non))) (jE 7) [7])) (jAH jN))) (wY 2 (jE 3)) uC)) uC))
 (jHW 2)))
noncomputable def jGA:MS:=(vA (yCA 2 (jOA jT))
 (vA (jJV (jDQ (jPH 0 zK [])) (.n 3) (jEX (xBM (jX fEq (jMF (zG (jDQ (jM 2)) (.n 5) (xBM (jX fEq (jMF (zG (jDQ (jM 5)) (.n 6) (xBM (jX jIF (jM 6) (jM 3))) (jM 6) [6])) (jCV jT))) (jM 5) [5])) (jCV jT))) (vA (jAD 4 (vN 2 uG (jG (jM 0) (jG (jM 3) jT))))
 (jEX (xBM (jX fEq (jMF (zG (jDQ (jM 1)) (.n 7) (xBM (jX jVP (vN 2 kY (jG (jM 4) (jG (jM 7) jT))) (xEC .non))) (jM 7) [7])) (jCV jT))) (wY 2 (jM 3)) jBM)) jBM))
 (jWS 2)))
theorem jMJ:jDW=jGA:=by kernel_rfl
@[irreducible] noncomputable def vR:MF:=mkF 6 jDW
def jXA:List Str:=["_law_script", "_law_bag", "_law_turn", "_law_spec", "_law_way_z", "_law_some", "_law_given", "_law_due", "_law_found", "_law_mends", "_law_kept", "_law_at", "_law_odd", "_law_k", "_law_wish"]
theorem yZV:FnScope jXA ["_law_script"] (defScope jGZ):=⟨rfl,rfl,rfl,by decide +kernel,rfl,by decide +kernel,by decide +kernel⟩
noncomputable def yCK:MS:=(yE (uW 1 (yO 1 jAU (jC (jE 0) jN)))
 (yE (jMH (jQK (jC (eC (.int 1)) jN)) (.n 2) (yE (uW 3 (yO 1 uU (jC (jE 1) jN)))
 (yE (uW 4 (yO 1 jCE (jC (jE 3) jN)))
 (yE (uW 5 (shN (zQ (jQK (jC (yO 2 vI (jC (jE 1) (jC (eC (.int 4)) jN))) jN)) (.n 13) jAO (yO 2 uQ (jC (jE 1) (jC (jGW 0 uY []) jN))) [13])))
 (yE (yFR 6 7 (jC (eCB jSH (jC (jE 5) jN)) (jC (yO 2 vR (jC (jE 3) (jC (jE 5) jN))) jN)))
 (yE (uW 8 (jWP (jHT (jC (yO 2 yG (jC (jE 4) (jC (jE 6) jN))) (jC (jSO 0 2 [1,0] 2 yG jN (jC (eCB jPO (jC (jE 5) jN)) (jC (jE 4) jN))) jN)))))
 (yE (sIf (orM (jIE (tM (yO 2 zJ (jC (jE 8) (jC (jAH (jC (jE 7) (jC (jE 7) jN))) jN))))) (bM (jO fNe (jE 6) (jE 5)))) (uV (eC (.bl false))) uC)
 (yE (jMV (jKL (jO fIx (jE 8) (eC (.int 0))) (eC .non)))
 (yE (jMH (jDX (jE 7)) (.n 9) (yE (uW 10 (eFz (yO 1 kW (jC (yO 2 jBS (jC (jE 4) (jC (jE 9) jN))) jN))))
 (sIf (bM (jO fNe (shN (zQ (jDX (jE 5)) (.n 14) (bM (jO jIF (jE 14) (jE 10))) (jE 14) [14])) (jAH jN))) (uV (eC (.bl false))) uC)))
 (yE (jMW (.t [(.n 11),(.n 12)]) (yS (jC (yO 2 vI (jC (jE 1) (jC (jO zH (eCB jDS (jC (jE 5) jN)) (eC (.int 1))) jN))) (jC (yO 2 uQ (jC (jE 1) (jC (jAH (jC (eC .non) (jC (eC (.int 3)) (jC (eC (.str "")) (jC (eC (.str "Lands")) (jC (yS (jC (eC (.str "lands")) jN)) (jC (jAH (jC (eC (.str "still")) jN)) jN))))))) jN))) jN))))
 (sIf (jIE (tM (yO 2 zJ (jC (yBW okc jJH (eFz (yO 2 yG (jC (jE 4) (jC (jO zH (jO zH (eSl (jE 5) jJX (jJW (jE 11))) (jAH (jC (jE 12) (jC (eC (.str "x")) jN)))) (eSl (jE 5) (jJW (jE 11)) jJX)) jN))))) (jC (yS (jC (eC (.str "InvalidWish")) (jC (jE 12) jN))) jN))))) (uV (eC (.bl false))) uC)))))))))))
 (yE (uW 8 (jWP (jHT (jC (yO 2 yG (jC (jUL yJ 0 0 [0,1,2,3,4,5] [.str "tttttttt", .str "tttt", .bl false,.bl false,.str "none"] 6 yD jN jN) (jC (jAH jN) jN))) (jC (yO 2 yG (jC (jUL yJ 0 0 [0,1,2,3,4,5] [.str "tttttttt", .str "tttt", .bl false,.bl false,.str "none"] 6 yD jN jN) (jC (jAH (jC (eC (.str "returns")) jN)) jN))) (jC (yO 2 yG (jC (jUL yJ 0 0 [0,1,2,3,4,5] [.str "tttttttt", .str "tttt", .bl false,.bl false,.str "none"] 6 yD jN jN) (jC (jAH (jC (eC (.str "lands")) jN)) jN))) jN))))))
 (yE (jMV (jKL (jE 8) (eFz (yO 2 yG (jC (jUL yJ 0 1 [0,2,3,1,4,5] [.str "tttttttt", .str "tttt", .bl false,.str "none"] 6 yD jN (jC (eC (.bl true)) jN)) (jC (jAH (jC (eC (.str "still")) jN)) jN))))))
 (yE (uW 7 (jAH (jC (jAH (jC (yS jN) jN)) (jC (jAH (jC (yS (jC (eC (.str "hidden")) jN)) jN)) (jC (jAH (jC (yS (jC (eC (.str "all")) jN)) (jC (yS (jC (eC (.str "drops")) jN)) jN))) (jC (jAH (jC (yS (jC (eC (.str "whole")) jN)) (jC (yS (jC (eC (.str "one")) jN)) (jC (yS (jC (eC (.str "all")) jN)) (jC (yS (jC (eC (.str "numbers")) jN)) jN))))) jN))))))
 (uV (yO 2 zJ (jC (jE 8) (jC (jE 7) jN)))))))))
noncomputable def yII:MS:=(vA (jAD 1 (vN 1 jAU (jG (jM 0) jT)))
 (vA (jJV (jNE (jG (xEC (.int 1)) jT)) (.n 2) (vA (jAD 3 (vN 1 uU (jG (jM 1) jT)))
 (vA (jAD 4 (vN 1 jCE (jG (jM 3) jT)))
 (vA (jAD 5 (jMF (zG (jNE (jG (vN 2 vI (jG (jM 1) (jG (xEC (.int 4)) jT))) jT)) (.n 13) jAO (vN 2 uQ (jG (jM 1) (jG (jPH 0 uY []) jT))) [13])))
 (vA (yHW 6 7 (jG (xECB jSH (jG (jM 5) jT)) (jG (vN 2 vR (jG (jM 3) (jG (jM 5) jT))) jT)))
 (vA (jAD 8 (jQH (jOA (jG (vN 2 yG (jG (jM 4) (jG (jM 6) jT))) (jG (jXN 0 2 [1,0] 2 yG jT (jG (xECB jPO (jG (jM 5) jT)) (jG (jM 4) jT))) jT)))))
 (vA (jEX (jUI (jMT (xTM (vN 2 zJ (jG (jM 8) (jG (jCV (jG (jM 7) (jG (jM 7) jT))) jT))))) (xBM (jX fNe (jM 6) (jM 5)))) (jBL (xEC (.bl false))) jBM)
 (vA (jNF (jKL (jX fIx (jM 8) (xEC (.int 0))) (xEC .non)))
 (vA (jJV (jDQ (jM 7)) (.n 9) (vA (jAD 10 (yBQ (vN 1 kW (jG (vN 2 jBS (jG (jM 4) (jG (jM 9) jT))) jT))))
 (jEX (xBM (jX fNe (jMF (zG (jDQ (jM 5)) (.n 14) (xBM (jX jIF (jM 14) (jM 10))) (jM 14) [14])) (jCV jT))) (jBL (xEC (.bl false))) jBM)))
 (vA (jSI (.t [(.n 11),(.n 12)]) (jBN (jG (vN 2 vI (jG (jM 1) (jG (jX zH (xECB jDS (jG (jM 5) jT)) (xEC (.int 1))) jT))) (jG (vN 2 uQ (jG (jM 1) (jG (jCV (jG (xEC .non) (jG (xEC (.int 3)) (jG (xEC (.str "")) (jG (xEC (.str "Lands")) (jG (jBN (jG (xEC (.str "lands")) jT)) (jG (jCV (jG (xEC (.str "still")) jT)) jT))))))) jT))) jT))))
 (jEX (jMT (xTM (vN 2 zJ (jG (yDU okc jJH (yBQ (vN 2 yG (jG (jM 4) (jG (jX zH (jX zH (yHQ (jM 5) jSK (jSJ (jM 11))) (jCV (jG (jM 12) (jG (xEC (.str "x")) jT)))) (yHQ (jM 5) (jSJ (jM 11)) jSK)) jT))))) (jG (jBN (jG (xEC (.str "InvalidWish")) (jG (jM 12) jT))) jT))))) (jBL (xEC (.bl false))) jBM)))))))))))
 (vA (jAD 8 (jQH (jOA (jG (vN 2 yG (jG (jQE yJ 0 0 [0,1,2,3,4,5] [.str "tttttttt", .str "tttt", .bl false,.bl false,.str "none"] 6 yD jT jT) (jG (jCV jT) jT))) (jG (vN 2 yG (jG (jQE yJ 0 0 [0,1,2,3,4,5] [.str "tttttttt", .str "tttt", .bl false,.bl false,.str "none"] 6 yD jT jT) (jG (jCV (jG (xEC (.str "returns")) jT)) jT))) (jG (vN 2 yG (jG (jQE yJ 0 0 [0,1,2,3,4,5] [.str "tttttttt", .str "tttt", .bl false,.bl false,.str "none"] 6 yD jT jT) (jG (jCV (jG (xEC (.str "lands")) jT)) jT))) jT))))))
 (vA (jNF (jKL (jM 8) (yBQ (vN 2 yG (jG (jQE yJ 0 1 [0,2,3,1,4,5] [.str "tttttttt", .str "tttt", .bl false,.str "none"] 6 yD jT (jG (xEC (.bl true)) jT)) (jG (jCV (jG (xEC (.str "still")) jT)) jT))))))
 (vA (jAD 7 (jCV (jG (jCV (jG (jBN jT) jT)) (jG (jCV (jG (jBN (jG (xEC (.str "hidden")) jT)) jT)) (jG (jCV (jG (jBN (jG (xEC (.str "all")) jT)) (jG (jBN (jG (xEC (.str "drops")) jT)) jT))) (jG (jCV (jG (jBN (jG (xEC (.str "whole")) jT)) (jG (jBN (jG (xEC (.str "one")) jT)) (jG (jBN (jG (xEC (.str "all")) jT)) (jG (jBN (jG (xEC (.str "numbers")) jT)) jT))))) jT))))))
 (jBL (vN 2 zJ (jG (jM 8) (jG (jM 7) jT)))))))))
theorem yUU:yCK=yII:=by kernel_rfl
@[irreducible] noncomputable def jQL:MF:=mkF 14 yCK
section
variable {P:Program} {w:World} {K:PySem.W.Frag} {mg:Str→Option Value} {base:Heap} {B:Bs} {f:Addr} {cdv:Value} {A:Around} {outer:List Env} {s:Shared} {H:Hp} {E:XK} {k:Nat} {N:Ent} (hK:K=B.K) (hw:w=B.w) (g:Gm mg) (κ:Km w K B mg)
include hK hw g κ
theorem yHK
  (D:Bdy (cxOf (L2.CX P w) P w K mg base jNK "is_wish" (defScope jBA) f cdv A outer s H E) E k)   :
  SimSs (cxOf (L2.CX P w) P w K mg base jNK "is_wish" (defScope jBA) f cdv A outer s H E) B N (fun c d _ H=>E c d H) (defBody jBA) (jTK) :=
 (jH (jZ (jAS (yP (jAY hK) rfl g.n_isinstance (jA (jB (i:=0) rfl (.inl rfl) rfl rfl) (jA (jAI rfl g.n_str PyProof.Rows.boot_str (by decide) rfl) jD rfl) rfl) (by decide) rfl rfl rfl) (wN (qD (jDR hK D.rm.u9) (jB (i:=0) rfl (.inl rfl) rfl rfl) (jBQ hK κ.g_WISHES rfl κ.n_WISHES (fun _=>(.cons (.str _ (jJ (by decide +kernel))) (.cons (.str _ (jJ (by decide +kernel))) (.cons (.str _ (jJ (by decide +kernel))) (.cons (.str _ (jJ (by decide +kernel))) (.cons (.str _ (jJ (by decide +kernel))) (.cons (.str _ (jJ (by decide +kernel))) .nil))))))) rfl) rfl)))))
theorem jYQ
  (D:Bdy (cxOf (L2.CX P w) P w K mg base jIJ "check_wish" (defScope zW) f cdv A outer s H E) E k)  (F_is_wish:Fn P w K mg base B k "is_wish" 1 jGP) (X_InvalidWish:ExcA P w K mg base B k "InvalidWish" 2 1 jDB) :
  SimSs (cxOf (L2.CX P w) P w K mg base jIJ "check_wish" (defScope zW) f cdv A outer s H E) B N (fun c d _ H=>E c d H) (defBody zW) (jNA) :=
 (jH (jW (wQ (yM hK (jV F_is_wish D.tk D.rm rfl (jA (jB (i:=0) rfl (.inl rfl) rfl rfl) jD rfl) rfl rfl rfl) (fun _=>rfl))) (jH (jEL X_InvalidWish rfl D.tk D.rm rfl (jA (jB (i:=0) rfl (.inl rfl) rfl rfl) jD rfl) rfl rfl rfl)) jU))
theorem jVC
  (D:Bdy (cxOf (L2.CX P w) P w K mg base jHK "first_stand" (defScope zB) f cdv A outer s H E) E k)  (F_check_wish:Fn P w K mg base B k "check_wish" 1 uF) :
  SimSs (cxOf (L2.CX P w) P w K mg base jHK "first_stand" (defScope zB) f cdv A outer s H E) B N (fun c d _ H=>E c d H) (defBody zB) (jLE) :=
 (jF (jFB (jV F_check_wish D.tk D.rm rfl (jA (jB (i:=0) rfl (.inl rfl) rfl rfl) jD rfl) rfl rfl rfl) rfl)
 (jF (jW (jR (vO hK D.rm.u9) (jB (i:=0) rfl (.inl rfl) rfl rfl) (jK (jJ (by decide +kernel))) rfl) (jH (jZ (jQ (jA jL (jA yL (jA yL (jA yL jD rfl) rfl) rfl) rfl)))) jU)
 (jH (jZ (jCC hK (jQ (jA yL jD rfl)) (yEO κ.d_SIZES rfl (jB (i:=0) rfl (.inl rfl) rfl rfl) rfl (fun _ _=>rfl)))))))
theorem yDR
  (D:Bdy (cxOf (L2.CX P w) P w K mg base jKU "is_stand" (defScope qY) f cdv A outer s H E) E k)  (F_check_wish:Fn P w K mg base B k "check_wish" 1 uF) :
  SimSs (cxOf (L2.CX P w) P w K mg base jKU "is_stand" (defScope qY) f cdv A outer s H E) B N (fun c d _ H=>E c d H) (defBody qY) (jQU) :=
 (jF (jFB (jV F_check_wish D.tk D.rm rfl (jA (jB (i:=0) rfl (.inl rfl) rfl rfl) jD rfl) rfl rfl rfl) rfl)
 (jF (jW (wQ (yM hK (yP (jAY hK) rfl g.n_isinstance (jA (jB (i:=1) rfl (.inl rfl) rfl rfl) (jA (jAI rfl g.n_tuple PyProof.Rows.boot_tuple (by decide) rfl) jD rfl) rfl) (by decide) rfl rfl rfl) (fun _=>rfl))) (jH (jZ yL)) jU)
 (jF (jW (jR (vO hK D.rm.u9) (yP (bi_len hK) rfl g.n_len (jA (jB (i:=1) rfl (.inl rfl) rfl rfl) jD rfl) (by decide) rfl rfl rfl) jL rfl) (jH (jZ (jAS (yP (jAY hK) rfl g.n_isinstance (jA (yF hK (jB (i:=1) rfl (.inl rfl) rfl rfl) jL (fun _ _=>rfl)) (jA (jAI rfl g.n_str PyProof.Rows.boot_str (by decide) rfl) jD rfl) rfl) (by decide) rfl rfl rfl) (wN (qD (vO hK D.rm.u9) (jB (i:=1) rfl (.inl rfl) rfl rfl) (jBQ hK κ.g_BROKEN rfl κ.n_BROKEN (fun _=>(.cons (.str _ (jJ (by decide +kernel))) .nil)) rfl) rfl))))) jU)
 (jF (jW (jR (jBO hK D.rm.u9) (yP (bi_len hK) rfl g.n_len (jA (jB (i:=1) rfl (.inl rfl) rfl rfl) jD rfl) (by decide) rfl rfl rfl) (yEO κ.d_SIZES rfl (jB (i:=0) rfl (.inl rfl) rfl rfl) rfl (fun _ _=>rfl)) rfl) (jH (jZ yL)) jU)
 (jF (yC yAX.nd rfl (.inl rfl) (vU (jR (vO hK D.rm.u9) (jB (i:=0) rfl (.inl rfl) rfl rfl) (jK (jJ (by decide +kernel))) rfl) (jJB hK (jB (i:=1) rfl (.inl rfl) rfl rfl) (jDI jL) jDJ) (jB (i:=1) rfl (.inl rfl) rfl rfl)) rfl (.inl rfl))
 (jF (jW (wQ (yM hK (yP (jSP hK rfl) rfl g.n_all (jA (SimN.sh (jAJ (own:=[("flag", 3)]) hK rfl yAX.nd (uI hK (jB (i:=2) rfl (.inl rfl) rfl rfl)) (jAG (by kernel_rfl)) (by decide) (fun _ _ _ _ _=>(yX (pg_name yAX.nd rfl (.inl rfl) (.inr rfl)))) (fun _ _ _ _ _=>wU) (fun _ _ _ _ _=>(yP (jAY hK) rfl g.n_isinstance (jA (jB (i:=3) rfl (.inl rfl) rfl rfl) (jA (jAI rfl g.n_bool PyProof.Rows.boot_bool (by decide) rfl) jD rfl) rfl) (by decide) rfl rfl rfl)) (fun _=>rfl))) jD rfl) (by decide) rfl rfl rfl) (fun _=>rfl))) (jH (jZ yL)) jU)
 (jH (jZ (jJC (qD (jBO hK D.rm.u9) (jB (i:=0) rfl (.inl rfl) rfl rfl) (jK (jJ (by decide +kernel))) rfl) (wN (jAS (yP (jAY hK) rfl g.n_isinstance (jA (yF hK (jB (i:=1) rfl (.inl rfl) rfl rfl) jL (fun _ _=>rfl)) (jA (jAI rfl g.n_int PyProof.Rows.boot_int (by decide) rfl) jD rfl) rfl) (by decide) rfl rfl rfl) (jAS (jOE (yP (jAY hK) rfl g.n_isinstance (jA (yF hK (jB (i:=1) rfl (.inl rfl) rfl rfl) jL (fun _ _=>rfl)) (jA (jAI rfl g.n_bool PyProof.Rows.boot_bool (by decide) rfl) jD rfl) rfl) (by decide) rfl rfl rfl)) (wN (yZN (yUF) (yUF) jL (yF hK (jB (i:=1) rfl (.inl rfl) rfl rfl) jL (fun _ _=>rfl)) jL rfl))))))))))))))
theorem jPG
  (D:Bdy (cxOf (L2.CX P w) P w K mg base jEG "Way.drop_answer" (defScope vQ) f cdv A outer s H E) E k)   :
  SimSs (cxOf (L2.CX P w) P w K mg base jEG "Way.drop_answer" (defScope vQ) f cdv A outer s H E) B N (fun c d _ H=>E c d H) (defBody vQ) (jHR) :=
 (jH (jZ (yEP κ.d_WORDS rfl (yF hK (wO κ.CF (jB (i:=0) rfl (.inl rfl) rfl rfl) rfl) (uE hK (uE hK (jCC hK jL (yP (jCY) rfl g.n_int (jA (jB (i:=1) rfl (.inl rfl) rfl rfl) jD rfl) (by decide) rfl rfl rfl)) (jCC hK jL (yP (jCY) rfl g.n_int (jA (jB (i:=2) rfl (.inl rfl) rfl rfl) jD rfl) (by decide) rfl rfl rfl))) (yP (jCY) rfl g.n_int (jA (jB (i:=3) rfl (.inl rfl) rfl rfl) jD rfl) (by decide) rfl rfl rfl)) (fun _ _=>rfl)) (yEL (by decide +kernel)) rfl (fun _ _=>rfl))))
theorem jYP
  (D:Bdy (cxOf (L2.CX P w) P w K mg base jII "drop_steps" (defScope zV) f cdv A outer s H E) E k)  (E_Way_drop_answer_3_:MeA P w K mg base B k yJ "drop_answer" 3 [] [0,1,2,3] [] 4 qL) :
  SimSs (cxOf (L2.CX P w) P w K mg base jII "drop_steps" (defScope zV) f cdv A outer s H E) B N (fun c d _ H=>E c d H) (defBody zV) (jMZ) :=
 (jF (jFC hK (jB (i:=2) rfl (.inl rfl) rfl rfl) (jFY rfl (yI (yX (pg_name jUO.nd rfl (.inl rfl) (.inl rfl))) (yI (yX (pg_name jUO.nd rfl (.inl rfl) (.inl rfl))) (yI (yX (pg_name jUO.nd rfl (.inl rfl) (.inl rfl))) (yI (yX (pg_name jUO.nd rfl (.inl rfl) (.inl rfl))) qO rfl) rfl) rfl) rfl) rfl rfl) rfl rfl rfl)
 (jF (jBV jUO.nd rfl (.inl rfl) (wC jD) rfl (.inl rfl))
 (jF (jW (jR (jBO hK D.rm.u9) (wO κ.CF (jB (i:=0) rfl (.inl rfl) rfl rfl) rfl) (jK (jJ (by decide +kernel))) rfl) (jH (jBV jUO.nd rfl (.inl rfl) (wC (jA (jQ (jA (jK (jJ (by decide +kernel))) (jA (jQ (jA yL (jA (jB (i:=4) rfl (.inl rfl) rfl rfl) (jA (jB (i:=5) rfl (.inl rfl) rfl rfl) (jA yL jD rfl) rfl) rfl) rfl)) jD rfl) rfl)) (jA (jQ (jA (jK (jJ (by decide +kernel))) (jA (jQ (jA yL (jA (jB (i:=4) rfl (.inl rfl) rfl rfl) (jA (jB (i:=5) rfl (.inl rfl) rfl rfl) (jA (jB (i:=6) rfl (.inl rfl) rfl rfl) jD rfl) rfl) rfl) rfl)) jD rfl) rfl)) jD rfl) rfl)) rfl (.inl rfl))) jU)
 (jF (jBV jUO.nd rfl (.inl rfl) (wC (jEJ hK (jB (i:=7) rfl (.inl rfl) rfl rfl) (jA (jQ (jA (jK (jJ (by decide +kernel))) (jA (jQ (jA (jB (i:=3) rfl (.inl rfl) rfl rfl) (jA yL (jA (jB (i:=5) rfl (.inl rfl) rfl rfl) (jA (jB (i:=6) rfl (.inl rfl) rfl rfl) jD rfl) rfl) rfl) rfl)) jD rfl) rfl)) (jA (jQ (jA (jK (jJ (by decide +kernel))) (jA (jQ (jA (jB (i:=3) rfl (.inl rfl) rfl rfl) (jA (jB (i:=4) rfl (.inl rfl) rfl rfl) (jA yL (jA (jB (i:=6) rfl (.inl rfl) rfl rfl) jD rfl) rfl) rfl) rfl)) jD rfl) rfl)) jD rfl) rfl) rfl)) rfl (.inl rfl))
 (jF (yC jUO.nd rfl (.inl rfl) (jRR (pl:=_) E_Way_drop_answer_3_ κ.cm_Way (by decide) D.tk D.rm (jB (i:=0) rfl (.inl rfl) rfl rfl) (jA (jB (i:=3) rfl (.inl rfl) rfl rfl) (jA (jB (i:=4) rfl (.inl rfl) rfl rfl) (jA (jB (i:=5) rfl (.inl rfl) rfl rfl) jD rfl) rfl) rfl) qH rfl rfl rfl rfl rfl rfl) rfl (.inl rfl))
 (jF (yC jUO.nd rfl (.inl rfl) (jAS (qD (vO hK D.rm.u9) (jB (i:=8) rfl (.inl rfl) rfl rfl) (jK (jJ (by decide +kernel))) rfl) (jAS (jB (i:=6) rfl (.inl rfl) rfl rfl) (wN (jOE (jB (i:=5) rfl (.inl rfl) rfl rfl))))) rfl (.inl rfl))
 (jF (jW (jTH (jR (vO hK D.rm.u9) (jB (i:=1) rfl (.inl rfl) rfl rfl) (jK (jJ (by decide +kernel))) rfl) (yM hK (jB (i:=9) rfl (.inl rfl) rfl rfl) (fun _=>rfl)) (uP (qN (jR (vO hK D.rm.u9) (jB (i:=8) rfl (.inl rfl) rfl rfl) (jK (jJ (by decide +kernel))) rfl) (jBU (wQ (yM hK (jB (i:=4) rfl (.inl rfl) rfl rfl) (fun _=>rfl))))))) (jH (yV rfl (.inl rfl) rfl rfl (jQ (jA (jK (jJ (by decide +kernel))) (jA (jBQ hK κ.g_BROKEN rfl κ.n_BROKEN (fun _=>(.cons (.str _ (jJ (by decide +kernel))) .nil)) rfl) jD rfl) rfl)) rfl rfl rfl rfl rfl rfl)) jU)
 (jH (jCL (i:=7) rfl (.inl rfl) rfl rfl)))))))))
theorem jMS
  (D:Bdy (cxOf (L2.CX P w) P w K mg base jDG "Way.number_answer" (defScope vH) f cdv A outer s H E) E k)   :
  SimSs (cxOf (L2.CX P w) P w K mg base jDG "Way.number_answer" (defScope vH) f cdv A outer s H E) B N (fun c d _ H=>E c d H) (defBody vH) (jFP) :=
 (jH (jZ (yEP κ.d_WORDS rfl (yF hK (wO κ.CF (jB (i:=0) rfl (.inl rfl) rfl rfl) rfl) (uE hK (jCC hK jL (yP (jCY) rfl g.n_int (jA (jB (i:=1) rfl (.inl rfl) rfl rfl) jD rfl) (by decide) rfl rfl rfl)) (yP (jCY) rfl g.n_int (jA (jB (i:=2) rfl (.inl rfl) rfl rfl) jD rfl) (by decide) rfl rfl rfl)) (fun _ _=>rfl)) (yEL (by decide +kernel)) rfl (fun _ _=>rfl))))
theorem jUE
  (D:Bdy (cxOf (L2.CX P w) P w K mg base jFS "number_steps" (defScope uL) f cdv A outer s H E) E k)  (E_Way_number_answer_2_:MeA P w K mg base B k yJ "number_answer" 2 [] [0,1,2] [] 3 yU) :
  SimSs (cxOf (L2.CX P w) P w K mg base jFS "number_steps" (defScope uL) f cdv A outer s H E) B N (fun c d _ H=>E c d H) (defBody uL) (jKC) :=
 (jF (jFC hK (jJB hK (jB (i:=2) rfl (.inl rfl) rfl rfl) jDJ (jDI jL)) (jFY rfl (yI (yX (pg_name jRB.nd rfl (.inl rfl) (.inl rfl))) (yI (yX (pg_name jRB.nd rfl (.inl rfl) (.inl rfl))) qO rfl) rfl) rfl rfl) rfl rfl rfl)
 (jF (yC jRB.nd rfl (.inl rfl) (jJB hK (jB (i:=2) rfl (.inl rfl) rfl rfl) (jDI jL) jDJ) rfl (.inl rfl))
 (jF (jBV jRB.nd rfl (.inl rfl) (wC jD) rfl (.inl rfl))
 (jF (jW (jR (vO hK D.rm.u9) (wO κ.CF (jB (i:=0) rfl (.inl rfl) rfl rfl) rfl) (jK (jJ (by decide +kernel))) rfl) (jH (yV rfl (.inl rfl) rfl rfl (jQ (jA (jK (jJ (by decide +kernel))) (jA (jQ (jA yL (jA (jB (i:=4) rfl (.inl rfl) rfl rfl) (jEJ hK (SimN.sh (jAJ (own:=[("flag", 9)]) hK rfl jRB.nd (uI hK (jB (i:=5) rfl (.inl rfl) rfl rfl)) (jAG (by kernel_rfl)) (by decide) (fun _ _ _ _ _=>(yX (pg_name jRB.nd rfl (.inl rfl) (.inr rfl)))) (fun _ _ _ _ _=>wU) (fun _ _ _ _ _=>yL) (fun _=>rfl))) jD rfl) rfl) rfl)) jD rfl) rfl)) rfl rfl rfl rfl rfl rfl)) jU)
 (jF (jW (jR (jBO hK D.rm.u9) (wO κ.CF (jB (i:=0) rfl (.inl rfl) rfl rfl) rfl) (jK (jJ (by decide +kernel))) rfl) (jH (yV rfl (.inl rfl) rfl rfl (jQ (jA (jK (jJ (by decide +kernel))) (jA (jQ (jA (jB (i:=3) rfl (.inl rfl) rfl rfl) (jA yL (jEJ hK (jB (i:=5) rfl (.inl rfl) rfl rfl) jD rfl) rfl) rfl)) jD rfl) rfl)) rfl rfl rfl rfl rfl rfl)) jU)
 (jF (yC jRB.nd rfl (.inl rfl) (jRR (pl:=_) E_Way_number_answer_2_ κ.cm_Way (by decide) D.tk D.rm (jB (i:=0) rfl (.inl rfl) rfl rfl) (jA (jB (i:=3) rfl (.inl rfl) rfl rfl) (jA (jB (i:=4) rfl (.inl rfl) rfl rfl) jD rfl) rfl) qH rfl rfl rfl rfl rfl rfl) rfl (.inl rfl))
 (jF (yC jRB.nd rfl (.inl rfl) (jAS (qD (vO hK D.rm.u9) (jB (i:=7) rfl (.inl rfl) rfl rfl) (jK (jJ (by decide +kernel))) rfl) (jAS (qD (vO hK D.rm.u9) (jB (i:=5) rfl (.inl rfl) rfl rfl) (jQ (jA yL jD rfl)) rfl) (wN (wO κ.CF (jB (i:=0) rfl (.inl rfl) rfl rfl) rfl)))) rfl (.inl rfl))
 (jF (jW (jTH (jR (vO hK D.rm.u9) (jB (i:=1) rfl (.inl rfl) rfl rfl) (jK (jJ (by decide +kernel))) rfl) (jR (vO hK D.rm.u9) (jB (i:=7) rfl (.inl rfl) rfl rfl) (jK (jJ (by decide +kernel))) rfl) (yM hK (jB (i:=8) rfl (.inl rfl) rfl rfl) (fun _=>rfl))) (jH (yV rfl (.inl rfl) rfl rfl (jQ (jA (jK (jJ (by decide +kernel))) (jA (jBQ hK κ.g_BROKEN rfl κ.n_BROKEN (fun _=>(.cons (.str _ (jJ (by decide +kernel))) .nil)) rfl) jD rfl) rfl)) rfl rfl rfl rfl rfl rfl)) jU)
 (jH (jCL (i:=6) rfl (.inl rfl) rfl rfl))))))))))
theorem jUF
  (D:Bdy (cxOf (L2.CX P w) P w K mg base jFT "landed_steps" (defScope uM) f cdv A outer s H E) E k)  (E_Way_number_answer_2_:MeA P w K mg base B k yJ "number_answer" 2 [] [0,1,2] [] 3 yU) :
  SimSs (cxOf (L2.CX P w) P w K mg base jFT "landed_steps" (defScope uM) f cdv A outer s H E) B N (fun c d _ H=>E c d H) (defBody uM) (jKD) :=
 (jF (jFC hK (jB (i:=1) rfl (.inl rfl) rfl rfl) (jFY rfl (yI (yX (pg_name jRC.nd rfl (.inl rfl) (.inl rfl))) (yI (yX (pg_name jRC.nd rfl (.inl rfl) (.inl rfl))) (yI (yX (pg_name jRC.nd rfl (.inl rfl) (.inl rfl))) (yI (yX (pg_name jRC.nd rfl (.inl rfl) (.inl rfl))) (yI (yX (pg_name jRC.nd rfl (.inl rfl) (.inl rfl))) qO rfl) rfl) rfl) rfl) rfl) rfl rfl) rfl rfl rfl)
 (jF (jBV jRC.nd rfl (.inl rfl) (wC jD) rfl (.inl rfl))
 (jF (jW (wQ (yM hK (jB (i:=2) rfl (.inl rfl) rfl rfl) (fun _=>rfl))) (jF (jW (jR (vO hK D.rm.u9) (wO κ.CF (jB (i:=0) rfl (.inl rfl) rfl rfl) rfl) (jK (jJ (by decide +kernel))) rfl) (jH (yV rfl (.inl rfl) rfl rfl (jQ (jA (jK (jJ (by decide +kernel))) (jA (jQ (jA yL (jA (jB (i:=3) rfl (.inl rfl) rfl rfl) (jA yL (jA (jB (i:=5) rfl (.inl rfl) rfl rfl) (jA (jB (i:=6) rfl (.inl rfl) rfl rfl) jD rfl) rfl) rfl) rfl) rfl)) jD rfl) rfl)) rfl rfl rfl rfl rfl rfl)) jU)
 (jF (jW (jR (jBO hK D.rm.u9) (wO κ.CF (jB (i:=0) rfl (.inl rfl) rfl rfl) rfl) (jK (jJ (by decide +kernel))) rfl) (jH (yV rfl (.inl rfl) rfl rfl (jQ (jA (jK (jJ (by decide +kernel))) (jA (jQ (jA yL (jA (jB (i:=3) rfl (.inl rfl) rfl rfl) (jA (jB (i:=4) rfl (.inl rfl) rfl rfl) (jA yL (jA (jB (i:=6) rfl (.inl rfl) rfl rfl) jD rfl) rfl) rfl) rfl) rfl)) jD rfl) rfl)) rfl rfl rfl rfl rfl rfl)) jU)
 (jH (jZ (yW (jEJ hK (jB (i:=7) rfl (.inl rfl) rfl rfl) (jA (jQ (jA (jK (jJ (by decide +kernel))) (jA (jQ (jA yL (jA yL (jA yL (jA yL (jA yL jD rfl) rfl) rfl) rfl) rfl)) jD rfl) rfl)) jD rfl) rfl)))))) jU)
 (jF (jW (jR (vO hK D.rm.u9) (wO κ.CF (jB (i:=0) rfl (.inl rfl) rfl rfl) rfl) (jK (jJ (by decide +kernel))) rfl) (jH (yV rfl (.inl rfl) rfl rfl (jQ (jA (jK (jJ (by decide +kernel))) (jA (jQ (jA yL (jA (jB (i:=3) rfl (.inl rfl) rfl rfl) (jA yL (jA (jB (i:=5) rfl (.inl rfl) rfl rfl) (jA yL jD rfl) rfl) rfl) rfl) rfl)) jD rfl) rfl)) rfl rfl rfl rfl rfl rfl)) jU)
 (jF (jW (jR (jBO hK D.rm.u9) (wO κ.CF (jB (i:=0) rfl (.inl rfl) rfl rfl) rfl) (jK (jJ (by decide +kernel))) rfl) (jH (yV rfl (.inl rfl) rfl rfl (jQ (jA (jK (jJ (by decide +kernel))) (jA (jQ (jA yL (jA (jB (i:=3) rfl (.inl rfl) rfl rfl) (jA (jB (i:=4) rfl (.inl rfl) rfl rfl) (jA yL (jA (jB (i:=6) rfl (.inl rfl) rfl rfl) jD rfl) rfl) rfl) rfl) rfl)) jD rfl) rfl)) rfl rfl rfl rfl rfl rfl)) jU)
 (jF (jW (uP (qN (jR (vO hK D.rm.u9) (jRR (pl:=_) E_Way_number_answer_2_ κ.cm_Way (by decide) D.tk D.rm (jB (i:=0) rfl (.inl rfl) rfl rfl) (jA (jB (i:=4) rfl (.inl rfl) rfl rfl) (jA (jB (i:=5) rfl (.inl rfl) rfl rfl) jD rfl) rfl) qH rfl rfl rfl rfl rfl rfl) (jK (jJ (by decide +kernel))) rfl) (jBU (uP (jGC (wQ (yM hK (jB (i:=3) rfl (.inl rfl) rfl rfl) (fun _=>rfl))) (jFK (uP (qN (yM hK (jB (i:=6) rfl (.inl rfl) rfl rfl) (fun _=>rfl)) (jBU (yM hK (wO κ.CF (jB (i:=0) rfl (.inl rfl) rfl rfl) rfl) (fun _=>rfl))))))))))) (jH (yV rfl (.inl rfl) rfl rfl (jQ (jA (jK (jJ (by decide +kernel))) (jA (jBQ hK κ.g_BROKEN rfl κ.n_BROKEN (fun _=>(.cons (.str _ (jJ (by decide +kernel))) .nil)) rfl) jD rfl) rfl)) rfl rfl rfl rfl rfl rfl)) jU)
 (jH (jCL (i:=7) rfl (.inl rfl) rfl rfl))))))))
theorem jUD
  (D:Bdy (cxOf (L2.CX P w) P w K mg base jFR "return_steps" (defScope uK) f cdv A outer s H E) E k)  (E_Way_number_answer_2_:MeA P w K mg base B k yJ "number_answer" 2 [] [0,1,2] [] 3 yU) :
  SimSs (cxOf (L2.CX P w) P w K mg base jFR "return_steps" (defScope uK) f cdv A outer s H E) B N (fun c d _ H=>E c d H) (defBody uK) (jKB) :=
 (jF (jFC hK (jB (i:=1) rfl (.inl rfl) rfl rfl) (jFY rfl (yI (yX (pg_name jRA.nd rfl (.inl rfl) (.inl rfl))) (yI (yX (pg_name jRA.nd rfl (.inl rfl) (.inl rfl))) (yI (yX (pg_name jRA.nd rfl (.inl rfl) (.inl rfl))) (yI (yX (pg_name jRA.nd rfl (.inl rfl) (.inl rfl))) qO rfl) rfl) rfl) rfl) rfl rfl) rfl rfl rfl)
 (jF (jBV jRA.nd rfl (.inl rfl) (yQX (jR (jBO hK D.rm.u9) (jB (i:=2) rfl (.inl rfl) rfl rfl) jL rfl) (wC (jA (jQ (jA (jK (jJ (by decide +kernel))) (jA (jQ (jA jL (jA (jB (i:=3) rfl (.inl rfl) rfl rfl) (jA (jB (i:=4) rfl (.inl rfl) rfl rfl) (jA (jB (i:=5) rfl (.inl rfl) rfl rfl) jD rfl) rfl) rfl) rfl)) jD rfl) rfl)) jD rfl)) (wC jD)) rfl (.inl rfl))
 (jF (jW (jR (vO hK D.rm.u9) (jB (i:=2) rfl (.inl rfl) rfl rfl) jL rfl) (jF (yC jRA.nd rfl (.inl rfl) (jQ (jA jL (jA (jB (i:=3) rfl (.inl rfl) rfl rfl) (jA (jJC (jB (i:=4) rfl (.inl rfl) rfl rfl) (wN (qD (jBO hK D.rm.u9) (wO κ.CF (jB (i:=0) rfl (.inl rfl) rfl rfl) rfl) (jK (jJ (by decide +kernel))) rfl))) (jA (jB (i:=5) rfl (.inl rfl) rfl rfl) jD rfl) rfl) rfl) rfl)) rfl (.inl rfl))
 (jH (yV rfl (.inl rfl) rfl rfl (jQ (jA (jK (jJ (by decide +kernel))) (jA (vU (yM hK (jB (i:=5) rfl (.inl rfl) rfl rfl) (fun _=>rfl)) (jBQ hK κ.g_BROKEN rfl κ.n_BROKEN (fun _=>(.cons (.str _ (jJ (by decide +kernel))) .nil)) rfl) (jB (i:=7) rfl (.inl rfl) rfl rfl)) jD rfl) rfl)) rfl rfl rfl rfl rfl rfl))) jU)
 (jF (yC jRA.nd rfl (.inl rfl) (jJC (jB (i:=5) rfl (.inl rfl) rfl rfl) (wN (jAS (qD (vO hK D.rm.u9) (jB (i:=2) rfl (.inl rfl) rfl rfl) jL rfl) (wN (jOE (wO κ.CF (jB (i:=0) rfl (.inl rfl) rfl rfl) rfl)))))) rfl (.inl rfl))
 (jF (yV rfl (.inl rfl) rfl rfl (jQ (jA (jK (jJ (by decide +kernel))) (jA (jQ (jA (jB (i:=2) rfl (.inl rfl) rfl rfl) (jA (jJC (jB (i:=3) rfl (.inl rfl) rfl rfl) (wN (qD (vO hK D.rm.u9) (wO κ.CF (jB (i:=0) rfl (.inl rfl) rfl rfl) rfl) (jK (jJ (by decide +kernel))) rfl))) (jA (jB (i:=4) rfl (.inl rfl) rfl rfl) (jA (jB (i:=8) rfl (.inl rfl) rfl rfl) jD rfl) rfl) rfl) rfl)) jD rfl) rfl)) rfl rfl rfl rfl rfl rfl)
 (jF (jW (jR (jBO hK D.rm.u9) (wO κ.CF (jB (i:=0) rfl (.inl rfl) rfl rfl) rfl) (jK (jJ (by decide +kernel))) rfl) (jH (yV rfl (.inl rfl) rfl rfl (jQ (jA (jK (jJ (by decide +kernel))) (jA (jQ (jA (jB (i:=2) rfl (.inl rfl) rfl rfl) (jA (jB (i:=3) rfl (.inl rfl) rfl rfl) (jA yL (jA (jB (i:=5) rfl (.inl rfl) rfl rfl) jD rfl) rfl) rfl) rfl)) jD rfl) rfl)) rfl rfl rfl rfl rfl rfl)) jU)
 (jF (jW (uP (qN (yM hK (jB (i:=3) rfl (.inl rfl) rfl rfl) (fun _=>rfl)) (qN (yM hK (wO κ.CF (jB (i:=0) rfl (.inl rfl) rfl rfl) rfl) (fun _=>rfl)) (jBU (jR (vO hK D.rm.u9) (jRR (pl:=_) E_Way_number_answer_2_ κ.cm_Way (by decide) D.tk D.rm (jB (i:=0) rfl (.inl rfl) rfl rfl) (jA (jB (i:=3) rfl (.inl rfl) rfl rfl) (jA (jB (i:=4) rfl (.inl rfl) rfl rfl) jD rfl) rfl) qH rfl rfl rfl rfl rfl rfl) (jK (jJ (by decide +kernel))) rfl))))) (jH (yV rfl (.inl rfl) rfl rfl (jQ (jA (jK (jJ (by decide +kernel))) (jA (vU (jR (vO hK D.rm.u9) (jB (i:=2) rfl (.inl rfl) rfl rfl) jL rfl) (jBQ hK κ.g_BROKEN rfl κ.n_BROKEN (fun _=>(.cons (.str _ (jJ (by decide +kernel))) .nil)) rfl) (jQ (jA (jB (i:=2) rfl (.inl rfl) rfl rfl) (jA (jB (i:=3) rfl (.inl rfl) rfl rfl) (jA (jB (i:=4) rfl (.inl rfl) rfl rfl) (jA yL jD rfl) rfl) rfl) rfl))) jD rfl) rfl)) rfl rfl rfl rfl rfl rfl)) jU)
 (jH (jCL (i:=6) rfl (.inl rfl) rfl rfl)))))))))
theorem jYO
  (D:Bdy (cxOf (L2.CX P w) P w K mg base jIH "steps_from" (defScope zU) f cdv A outer s H E) E k)  (F_is_stand:Fn P w K mg base B k "is_stand" 2 jFD) (F_drop_steps:Fn P w K mg base B k "drop_steps" 3 jDM) (F_landed_steps:Fn P w K mg base B k "landed_steps" 2 jBZ) (F_return_steps:Fn P w K mg base B k "return_steps" 2 jBX) (F_number_steps:Fn P w K mg base B k "number_steps" 3 jBY) (X_InvalidStand:ExcA P w K mg base B k "InvalidStand" 3 1 jCJ) :
  SimSs (cxOf (L2.CX P w) P w K mg base jIH "steps_from" (defScope zU) f cdv A outer s H E) B N (fun c d _ H=>E c d H) (defBody zU) (jMY) :=
 (jF (jW (wQ (yM hK (jV F_is_stand D.tk D.rm rfl (jA (jB (i:=1) rfl (.inl rfl) rfl rfl) (jA (jB (i:=2) rfl (.inr (.inl rfl)) rfl rfl) jD rfl) rfl) rfl rfl rfl) (fun _=>rfl))) (jH (jEL X_InvalidStand rfl D.tk D.rm rfl (jA (jB (i:=2) rfl (.inr (.inl rfl)) rfl rfl) jD rfl) rfl rfl rfl)) jU)
 (jF (jW (jR (vO hK D.rm.u9) (jB (i:=2) rfl (.inr (.inl rfl)) rfl rfl) (jBQ hK κ.g_BROKEN rfl κ.n_BROKEN (fun _=>(.cons (.str _ (jJ (by decide +kernel))) .nil)) rfl) rfl) (jH (jZ (yW jD))) jU)
 (jF (jW (jR (jDR hK D.rm.u9) (jB (i:=1) rfl (.inl rfl) rfl rfl) (jQ (jA (jK (jJ (by decide +kernel))) (jA (jK (jJ (by decide +kernel))) jD rfl) rfl)) rfl) (jH (yC jUN.nd rfl (.inl rfl) (jV F_drop_steps D.tk D.rm rfl (jA (jB (i:=0) rfl (.inl rfl) rfl rfl) (jA (jB (i:=1) rfl (.inl rfl) rfl rfl) (jA (jB (i:=2) rfl (.inr (.inl rfl)) rfl rfl) jD rfl) rfl) rfl) rfl rfl rfl) rfl (.inl rfl))) (jH (jW (jR (vO hK D.rm.u9) (jB (i:=1) rfl (.inl rfl) rfl rfl) (jK (jJ (by decide +kernel))) rfl) (jH (yC jUN.nd rfl (.inl rfl) (jV F_landed_steps D.tk D.rm rfl (jA (jB (i:=0) rfl (.inl rfl) rfl rfl) (jA (jB (i:=2) rfl (.inr (.inl rfl)) rfl rfl) jD rfl) rfl) rfl rfl rfl) rfl (.inl rfl))) (jH (jW (jR (vO hK D.rm.u9) (jB (i:=1) rfl (.inl rfl) rfl rfl) (jK (jJ (by decide +kernel))) rfl) (jH (yC jUN.nd rfl (.inl rfl) (jV F_return_steps D.tk D.rm rfl (jA (jB (i:=0) rfl (.inl rfl) rfl rfl) (jA (jB (i:=2) rfl (.inr (.inl rfl)) rfl rfl) jD rfl) rfl) rfl rfl rfl) rfl (.inl rfl))) (jH (yC jUN.nd rfl (.inl rfl) (jV F_number_steps D.tk D.rm rfl (jA (jB (i:=0) rfl (.inl rfl) rfl rfl) (jA (jB (i:=1) rfl (.inl rfl) rfl rfl) (jA (jB (i:=2) rfl (.inr (.inl rfl)) rfl rfl) jD rfl) rfl) rfl) rfl rfl rfl) rfl (.inl rfl))))))))
 (jH (jZ (SimN.sh (jAJ (own:=[("word", 4),("late", 5)]) hK rfl jUN.nd (uI hK (jB (i:=3) rfl (.inl rfl) rfl rfl)) (jAG (by kernel_rfl)) (by decide) (fun _ _ _ _ _=>(jFY rfl (yI (yX (pg_name jUN.nd rfl (.inl rfl) (.inr rfl))) (yI (yX (pg_name jUN.nd rfl (.inl rfl) (.inr rfl))) qO rfl) rfl) rfl rfl)) (fun _ _ _ _ _=>(jEI (jR (jBO hK D.rm.u9) (jB (i:=5) rfl (.inl rfl) rfl rfl) (jB (i:=2) rfl (.inr (.inl rfl)) rfl rfl) rfl))) (fun _ _ _ _ _=>(jQ (jA (jB (i:=4) rfl (.inl rfl) rfl rfl) (jA (jB (i:=5) rfl (.inl rfl) rfl rfl) jD rfl) rfl))) (fun _=>rfl))))))))
theorem yHJ
  (D:Bdy (cxOf (L2.CX P w) P w K mg base jNJ "reached" (defScope jAZ) f cdv A outer s H E) E k)  (F_first_stand:Fn P w K mg base B k "first_stand" 1 jAB) (F_steps_from:Fn P w K mg base B k "steps_from" 3 jAV) :
  SimSs (cxOf (L2.CX P w) P w K mg base jNJ "reached" (defScope jAZ) f cdv A outer s H E) B N (fun c d _ H=>E c d H) (defBody jAZ) (jNN) :=
 (jF (yC yCZ.nd rfl (.inl rfl) (jV F_first_stand D.tk D.rm rfl (jA (jB (i:=1) rfl (.inl rfl) rfl rfl) jD rfl) rfl rfl rfl) rfl (.inl rfl))
 (jF (yGC (i:=3) (j:=4) (l:=5) rfl yCZ.nd rfl rfl rfl (by decide) (by decide) (by decide) rfl rfl rfl (jA (yGH hK hw D.rm.u9 (jB (i:=2) rfl (.inl rfl) rfl rfl) (yW jD)) (jA (jLS (wC (jA (jB (i:=2) rfl (.inl rfl) rfl rfl) jD rfl))) (jA jL jD rfl) rfl) rfl) rfl rfl)
 (jF (jTG 200 D.pa (jR (yIG hK D.rm.u9) (jB (i:=5) rfl (.inl rfl) rfl rfl) (yP (bi_len hK) rfl g.n_len (jA (jB (i:=4) rfl (.inl rfl) rfl rfl) jD rfl) (by decide) rfl rfl rfl) rfl) (jF (jBP D.pa hK rfl (uI hK (jV F_steps_from D.tk D.rm rfl (jA (jB (i:=0) rfl (.inl rfl) rfl rfl) (jA (jB (i:=1) rfl (.inl rfl) rfl rfl) (jA (yF hK (jB (i:=4) rfl (.inl rfl) rfl rfl) (jB (i:=5) rfl (.inl rfl) rfl rfl) (fun _ _=>rfl)) jD rfl) rfl) rfl) rfl rfl rfl)) (jFY rfl (yI (yX (pg_name yCZ.nd rfl (.inl rfl) (.inl rfl))) (yI (yX (pg_name yCZ.nd rfl (.inl rfl) (.inl rfl))) qO rfl) rfl) rfl rfl) (fun _=>(jH (jW (jR (yTE hK hw D.rm.u9) (jB (i:=7) rfl (.inl rfl) rfl rfl) (jB (i:=3) rfl (.inl rfl) rfl rfl) rfl) (jF (yGD hK hw D.rm.u9 (yW (jEJ hK (yJW hK hw D.rm.u9 (jB (i:=3) rfl (.inl rfl) rfl rfl) (yF hK (jB (i:=4) rfl (.inl rfl) rfl rfl) (jB (i:=5) rfl (.inl rfl) rfl rfl) (fun _ _=>rfl)) (fun _ _=>rfl)) (jA (jB (i:=6) rfl (.inl rfl) rfl rfl) jD rfl) rfl)) (jB (i:=3) rfl (.inl rfl) rfl rfl) (jB (i:=7) rfl (.inl rfl) rfl rfl) rfl)
 (jH (jFB (jOO (jB (i:=4) rfl (.inl rfl) rfl rfl) (jB (i:=7) rfl (.inl rfl) rfl rfl) rfl rfl rfl rfl rfl) rfl))) jU))) (fun _=>rfl))
 (jH (yGE yCZ.nd rfl (.inl rfl) jL (.inl rfl)))))
 (jH (jZ (jB (i:=3) rfl (.inl rfl) rfl rfl))))))
theorem yDP
  (D:Bdy (cxOf (L2.CX P w) P w K mg base jKS "shortest" (defScope qW) f cdv A outer s H E) E k)  (F_reached:Fn P w K mg base B k "reached" 2 jDK) :
  SimSs (cxOf (L2.CX P w) P w K mg base jKS "shortest" (defScope qW) f cdv A outer s H E) B N (fun c d _ H=>E c d H) (defBody qW) (jKX) :=
 (jH (jZ (yGI hK hw D.rm.u9 (jV F_reached D.tk D.rm rfl (jA (jB (i:=0) rfl (.inl rfl) rfl rfl) (jA (jB (i:=1) rfl (.inl rfl) rfl rfl) jD rfl) rfl) rfl rfl rfl) (jBQ hK κ.g_BROKEN rfl κ.n_BROKEN (fun _=>(.cons (.str _ (jJ (by decide +kernel))) .nil)) rfl) jAR ⟨rfl,rfl,rfl,rfl⟩)))
theorem yDQ
  (D:Bdy (cxOf (L2.CX P w) P w K mg base jKT "is_table" (defScope qX) f cdv A outer s H E) E k)   :
  SimSs (cxOf (L2.CX P w) P w K mg base jKT "is_table" (defScope qX) f cdv A outer s H E) B N (fun c d _ H=>E c d H) (defBody qX) (jKY) :=
 (jF (jW (uP (jGC (wQ (yM hK (yP (jAY hK) rfl g.n_isinstance (jA (jB (i:=0) rfl (.inl rfl) rfl rfl) (jA (jAI rfl g.n_str PyProof.Rows.boot_str (by decide) rfl) jD rfl) rfl) (by decide) rfl rfl rfl) (fun _=>rfl))) (jGC (jR (jBO hK D.rm.u9) (yP (bi_len hK) rfl g.n_len (jA (jB (i:=0) rfl (.inl rfl) rfl rfl) jD rfl) (by decide) rfl rfl rfl) (jB (i:=1) rfl (.inl rfl) rfl rfl) rfl) (jFK (jR (jBO hK D.rm.u9) (yF hK (jB (i:=0) rfl (.inl rfl) rfl rfl) jL (fun _ _=>rfl)) (jK (jJ (by decide +kernel))) rfl))))) (jH (jZ yL)) jU)
 (jH (jZ (yP (jSP hK rfl) rfl g.n_all (jA (SimN.sh (jAJ (own:=[("letter", 2)]) hK rfl yAW.nd (uI hK (jB (i:=0) rfl (.inl rfl) rfl rfl)) (jAG (by kernel_rfl)) (by decide) (fun _ _ _ _ _=>(yX (pg_name yAW.nd rfl (.inl rfl) (.inr rfl)))) (fun _ _ _ _ _=>wU) (fun _ _ _ _ _=>(yQW κ.d_WORDS rfl (jB (i:=2) rfl (.inl rfl) rfl rfl) rfl rfl)) (fun _=>rfl))) jD rfl) (by decide) rfl rfl rfl))))
theorem jUH
  (D:Bdy (cxOf (L2.CX P w) P w K mg base jFV "Way.__init__" (defScope uO) f cdv A outer s H E) E k)  (F_is_table:Fn P w K mg base B k "is_table" 2 jCD) (X_InvalidTable:ExcA P w K mg base B k "InvalidTable" 0 1 jAN) (X_InvalidOption:ExcA P w K mg base B k "InvalidOption" 1 1 vL) :
  SimSs (cxOf (L2.CX P w) P w K mg base jFV "Way.__init__" (defScope uO) f cdv A outer s H E) B N (fun c d _ H=>E c d H) (defBody uO) (jFX) :=
 (jF (jBP D.pa hK rfl (uI hK (jQ (jA (jQ (jA (jB (i:=1) rfl (.inl rfl) rfl rfl) (jA jL jD rfl) rfl)) (jA (jQ (jA (jB (i:=2) rfl (.inl rfl) rfl rfl) (jA jL jD rfl) rfl)) jD rfl) rfl))) (jFY rfl (yI (yX (pg_name jRE.nd rfl (.inl rfl) (.inl rfl))) (yI (yX (pg_name jRE.nd rfl (.inl rfl) (.inl rfl))) qO rfl) rfl) rfl rfl) (fun _=>(jH (jW (wQ (yM hK (jV F_is_table D.tk D.rm rfl (jA (jB (i:=6) rfl (.inl rfl) rfl rfl) (jA (jB (i:=7) rfl (.inl rfl) rfl rfl) jD rfl) rfl) rfl rfl rfl) (fun _=>rfl))) (jH (jEL X_InvalidTable rfl D.tk D.rm rfl (jA (jB (i:=6) rfl (.inl rfl) rfl rfl) jD rfl) rfl rfl rfl)) jU))) (fun _=>rfl))
 (jF (jBP D.pa hK rfl (uI hK (jQ (jA (jQ (jA (jK (jJ (by decide +kernel))) (jA (jB (i:=3) rfl (.inl rfl) rfl rfl) jD rfl) rfl)) (jA (jQ (jA (jK (jJ (by decide +kernel))) (jA (jB (i:=4) rfl (.inl rfl) rfl rfl) jD rfl) rfl)) jD rfl) rfl))) (jFY rfl (yI (yX (pg_name jRE.nd rfl (.inl rfl) (.inl rfl))) (yI (yX (pg_name jRE.nd rfl (.inl rfl) (.inl rfl))) qO rfl) rfl) rfl rfl) (fun _=>(jH (jW (wQ (yM hK (yP (jAY hK) rfl g.n_isinstance (jA (jB (i:=6) rfl (.inl rfl) rfl rfl) (jA (jAI rfl g.n_bool PyProof.Rows.boot_bool (by decide) rfl) jD rfl) rfl) (by decide) rfl rfl rfl) (fun _=>rfl))) (jH (jEL X_InvalidOption rfl D.tk D.rm rfl (jA (jB (i:=8) rfl (.inl rfl) rfl rfl) jD rfl) rfl rfl rfl)) jU))) (fun _=>rfl))
 (jF (jW (uP (jGC (wQ (yM hK (yP (jAY hK) rfl g.n_isinstance (jA (jB (i:=5) rfl (.inl rfl) rfl rfl) (jA (jAI rfl g.n_str PyProof.Rows.boot_str (by decide) rfl) jD rfl) rfl) (by decide) rfl rfl rfl) (fun _=>rfl))) (jFK (jR (jPN hK D.rm.u9) (jB (i:=5) rfl (.inl rfl) rfl rfl) (yJX hK κ.t_Way_LOCKS rfl κ.n_Way (fun _=>(.cons (.str _ (jJ (by decide +kernel))) (.cons (.str _ (jJ (by decide +kernel))) (.cons (.str _ (jJ (by decide +kernel))) .nil)))) rfl rfl) rfl)))) (jH (jEL X_InvalidOption rfl D.tk D.rm rfl (jA (jK (jJ (by decide +kernel))) jD rfl) rfl rfl rfl)) jU)
 (jF (jVV κ.CF hK rfl (jQ (jA (jB (i:=1) rfl (.inl rfl) rfl rfl) (jA (jB (i:=2) rfl (.inl rfl) rfl rfl) jD rfl) rfl)) (jHG rfl (.inl rfl) (jHG rfl (.inl rfl) jWH (fun _=>rfl) rfl rfl rfl) (fun _=>rfl) rfl rfl rfl) rfl rfl rfl rfl rfl)
 (jH (jVV κ.CF hK rfl (jQ (jA (jB (i:=3) rfl (.inl rfl) rfl rfl) (jA (jB (i:=4) rfl (.inl rfl) rfl rfl) (jA (jB (i:=5) rfl (.inl rfl) rfl rfl) jD rfl) rfl) rfl)) (jHG rfl (.inl rfl) (jHG rfl (.inl rfl) (jHG rfl (.inl rfl) jWH (fun _=>rfl) rfl rfl rfl) (fun _=>rfl) rfl rfl rfl) (fun _=>rfl) rfl rfl rfl) rfl rfl rfl rfl rfl))))))
theorem yHM
  (D:Bdy (cxOf (L2.CX P w) P w K mg base jNM "Way.but" (defScope jBC) f cdv A outer s H E) E k)  (M_Way_2_stretches_hidden_lock:MkA P w K mg base B k "Way" yJ 2 ["stretches", "hidden", "lock"] [0,1,2,3,4,5] [.str "tttttttt", .str "tttt"] 6 yD) :
  SimSs (cxOf (L2.CX P w) P w K mg base jNM "Way.but" (defScope jBC) f cdv A outer s H E) B N (fun c d _ H=>E c d H) (defBody jBC) (jNP) :=
 (jH (jZ (yEM M_Way_2_stretches_hidden_lock D.tk D.rm rfl (jA (vU (jR (jHB) (jB (i:=1) rfl (.inl rfl) rfl rfl) jAR rfl) (wO κ.CF (jB (i:=0) rfl (.inl rfl) rfl rfl) rfl) (jB (i:=1) rfl (.inl rfl) rfl rfl)) (jA (vU (jR (jHB) (jB (i:=2) rfl (.inl rfl) rfl rfl) jAR rfl) (wO κ.CF (jB (i:=0) rfl (.inl rfl) rfl rfl) rfl) (jB (i:=2) rfl (.inl rfl) rfl rfl)) jD rfl) rfl) (wV (vU (jR (jHB) (jB (i:=3) rfl (.inl rfl) rfl rfl) jAR rfl) (wO κ.CF (jB (i:=0) rfl (.inl rfl) rfl rfl) rfl) (jB (i:=3) rfl (.inl rfl) rfl rfl)) (wV (vU (jR (jHB) (jB (i:=4) rfl (.inl rfl) rfl rfl) jAR rfl) (wO κ.CF (jB (i:=0) rfl (.inl rfl) rfl rfl) rfl) (jB (i:=4) rfl (.inl rfl) rfl rfl)) (wV (vU (jR (jHB) (jB (i:=5) rfl (.inl rfl) rfl rfl) jAR rfl) (wO κ.CF (jB (i:=0) rfl (.inl rfl) rfl rfl) rfl) (jB (i:=5) rfl (.inl rfl) rfl rfl)) qH))) rfl rfl rfl rfl rfl rfl)))
theorem yMB
  (D:Bdy (cxOf (L2.CX P w) P w K mg base jPS "mended" (defScope jCK) f cdv A outer s H E) E k)  (E_Way_but_0_hidden:MeA P w K mg base B k yJ "but" 0 ["hidden"] [0,2,3,4,1,5] [.non,.non,.non,.non] 6 yR) (E_Way_but_0_stretches:MeA P w K mg base B k yJ "but" 0 ["stretches"] [0,2,3,1,4,5] [.non,.non,.non,.non] 6 yR) (E_Way_but_0_lock:MeA P w K mg base B k yJ "but" 0 ["lock"] [0,2,3,4,5,1] [.non,.non,.non,.non] 6 yR) (E_Way_but_0_drops:MeA P w K mg base B k yJ "but" 0 ["drops"] [0,1,2,3,4,5] [.non,.non,.non,.non] 6 yR) (E_Way_but_0_numbers:MeA P w K mg base B k yJ "but" 0 ["numbers"] [0,2,1,3,4,5] [.non,.non,.non,.non] 6 yR) (X_InvalidOption:ExcA P w K mg base B k "InvalidOption" 1 1 vL) :
  SimSs (cxOf (L2.CX P w) P w K mg base jPS "mended" (defScope jCK) f cdv A outer s H E) B N (fun c d _ H=>E c d H) (defBody jCK) (jPT) :=
 (jF (jBP D.pa hK rfl (uI hK (jB (i:=1) rfl (.inl rfl) rfl rfl)) (yX (pg_name yGO.nd rfl (.inl rfl) (.inl rfl))) (fun _=>(jH (jW (uP (jGC (wQ (yM hK (yP (jAY hK) rfl g.n_isinstance (jA (jB (i:=2) rfl (.inl rfl) rfl rfl) (jA (jAI rfl g.n_str PyProof.Rows.boot_str (by decide) rfl) jD rfl) rfl) (by decide) rfl rfl rfl) (fun _=>rfl))) (jFK (jR (jPN hK D.rm.u9) (jB (i:=2) rfl (.inl rfl) rfl rfl) (jBQ hK κ.g_MENDS rfl κ.n_MENDS (fun _=>(.cons (.str _ (jJ (by decide +kernel))) (.cons (.str _ (jJ (by decide +kernel))) (.cons (.str _ (jJ (by decide +kernel))) (.cons (.str _ (jJ (by decide +kernel))) (.cons (.str _ (jJ (by decide +kernel))) (.cons (.str _ (jJ (by decide +kernel))) .nil))))))) rfl) rfl)))) (jH (jEL X_InvalidOption rfl D.tk D.rm rfl (jA (jB (i:=2) rfl (.inl rfl) rfl rfl) jD rfl) rfl rfl rfl)) jU))) (fun _=>rfl))
 (jF (yC yGO.nd rfl (.inl rfl) (jB (i:=0) rfl (.inl rfl) rfl rfl) rfl (.inl rfl))
 (jF (jW (jR (jDR hK D.rm.u9) (jK (jJ (by decide +kernel))) (jB (i:=1) rfl (.inl rfl) rfl rfl) rfl) (jH (yC yGO.nd rfl (.inl rfl) (jIQ (pl:=_) E_Way_but_0_hidden κ.cm_Way (by decide) D.tk D.rm (jB (i:=3) rfl (.inl rfl) rfl rfl) (wV yL qH) rfl rfl rfl rfl rfl) rfl (.inl rfl))) jU)
 (jF (jW (jR (jDR hK D.rm.u9) (jK (jJ (by decide +kernel))) (jB (i:=1) rfl (.inl rfl) rfl rfl) rfl) (jH (yC yGO.nd rfl (.inl rfl) (jIQ (pl:=_) E_Way_but_0_stretches κ.cm_Way (by decide) D.tk D.rm (jB (i:=3) rfl (.inl rfl) rfl rfl) (wV yL qH) rfl rfl rfl rfl rfl) rfl (.inl rfl))) jU)
 (jF (jW (uP (qN (jR (jDR hK D.rm.u9) (jK (jJ (by decide +kernel))) (jB (i:=1) rfl (.inl rfl) rfl rfl) rfl) (jBU (jR (vO hK D.rm.u9) (wO κ.CF (jB (i:=3) rfl (.inl rfl) rfl rfl) rfl) (jK (jJ (by decide +kernel))) rfl)))) (jH (yC yGO.nd rfl (.inl rfl) (jIQ (pl:=_) E_Way_but_0_lock κ.cm_Way (by decide) D.tk D.rm (jB (i:=3) rfl (.inl rfl) rfl rfl) (wV (jK (jJ (by decide +kernel))) qH) rfl rfl rfl rfl rfl) rfl (.inl rfl))) jU)
 (jF (jW (jR (jDR hK D.rm.u9) (jK (jJ (by decide +kernel))) (jB (i:=1) rfl (.inl rfl) rfl rfl) rfl) (jH (yC yGO.nd rfl (.inl rfl) (jIQ (pl:=_) E_Way_but_0_lock κ.cm_Way (by decide) D.tk D.rm (jB (i:=3) rfl (.inl rfl) rfl rfl) (wV (jK (jJ (by decide +kernel))) qH) rfl rfl rfl rfl rfl) rfl (.inl rfl))) jU)
 (jF (jW (jR (jDR hK D.rm.u9) (jK (jJ (by decide +kernel))) (jB (i:=1) rfl (.inl rfl) rfl rfl) rfl) (jH (yC yGO.nd rfl (.inl rfl) (jIQ (pl:=_) E_Way_but_0_drops κ.cm_Way (by decide) D.tk D.rm (jB (i:=3) rfl (.inl rfl) rfl rfl) (wV (jK (jJ (by decide +kernel))) qH) rfl rfl rfl rfl rfl) rfl (.inl rfl))) jU)
 (jH (jZ (vU (jR (jDR hK D.rm.u9) (jK (jJ (by decide +kernel))) (jB (i:=1) rfl (.inl rfl) rfl rfl) rfl) (jIQ (pl:=_) E_Way_but_0_numbers κ.cm_Way (by decide) D.tk D.rm (jB (i:=3) rfl (.inl rfl) rfl rfl) (wV (jK (jJ (by decide +kernel))) qH) rfl rfl rfl rfl rfl) (jB (i:=3) rfl (.inl rfl) rfl rfl)))))))))))
theorem jVB
  (D:Bdy (cxOf (L2.CX P w) P w K mg base jHJ "kept_wishes" (defScope zA) f cdv A outer s H E) E k)  (F_shortest:Fn P w K mg base B k "shortest" 2 wW) :
  SimSs (cxOf (L2.CX P w) P w K mg base jHJ "kept_wishes" (defScope zA) f cdv A outer s H E) B N (fun c d _ H=>E c d H) (defBody zA) (jHO) :=
 (jH (jZ (jLS (jAJ (own:=[("wish", 1)]) hK rfl jTS.nd (uI hK (jBQ hK κ.g_WISHES rfl κ.n_WISHES (fun _=>(.cons (.str _ (jJ (by decide +kernel))) (.cons (.str _ (jJ (by decide +kernel))) (.cons (.str _ (jJ (by decide +kernel))) (.cons (.str _ (jJ (by decide +kernel))) (.cons (.str _ (jJ (by decide +kernel))) (.cons (.str _ (jJ (by decide +kernel))) .nil))))))) rfl)) (jAG (by kernel_rfl)) (by decide) (fun _ _ _ _ _=>(yX (pg_name jTS.nd rfl (.inl rfl) (.inr rfl)))) (fun _ _ _ _ _=>(jEI (jR (jHB) (jV F_shortest (jHX _) D.rm rfl (jA (jB (i:=0) rfl (.inr (.inl rfl)) rfl rfl) (jA (jB (i:=1) rfl (.inl rfl) rfl rfl) jD rfl) rfl) rfl rfl rfl) jAR rfl))) (fun _ _ _ _ _=>(jB (i:=1) rfl (.inl rfl) rfl rfl)) (fun _=>rfl)))))
theorem jRO
  (D:Bdy (cxOf (L2.CX P w) P w K mg base jDN "sets_of_mends" (defScope vZ) f cdv A outer s H E) E k) (LT:LamT (cxOf (L2.CX P w) P w K mg base jDN "sets_of_mends" (defScope vZ) f cdv A outer s H E) B)  :
  SimSs (cxOf (L2.CX P w) P w K mg base jDN "sets_of_mends" (defScope vZ) f cdv A outer s H E) B N (fun c d _ H=>E c d H) (defBody vZ) (jIX) :=
 (jF (yC jPY.nd rfl (.inl rfl) (yW (jA (jQ jD) jD rfl)) rfl (.inl rfl))
 (jF (jBP D.pa hK rfl (jIP rfl g.n_range (jA (yP (bi_len hK) rfl g.n_len (jA (jBQ hK κ.g_MENDS rfl κ.n_MENDS (fun _=>(.cons (.str _ (jJ (by decide +kernel))) (.cons (.str _ (jJ (by decide +kernel))) (.cons (.str _ (jJ (by decide +kernel))) (.cons (.str _ (jJ (by decide +kernel))) (.cons (.str _ (jJ (by decide +kernel))) (.cons (.str _ (jJ (by decide +kernel))) .nil))))))) rfl) jD rfl) (by decide) rfl rfl rfl) jD rfl) rfl) (yX (pg_name jPY.nd rfl (.inr rfl) (.inl rfl))) (fun _=>(jH (yC jPY.nd rfl (.inl rfl) (yW (jEJ hK (jB (i:=0) rfl (.inl rfl) rfl rfl) (jEJ hK (SimN.sh (jAJ (own:=[("some", 3)]) hK rfl jPY.nd (uI hK (jB (i:=0) rfl (.inl rfl) rfl rfl)) (jAG (by kernel_rfl)) (by decide) (fun _ _ _ _ _=>(yX (pg_name jPY.nd rfl (.inl rfl) (.inr rfl)))) (fun _ _ _ _ _=>wU) (fun _ _ _ _ _=>(jQ (jEJ hK (jB (i:=3) rfl (.inl rfl) rfl rfl) (jA (jB (i:=1) rfl (.inr (.inl rfl)) rfl rfl) jD rfl) rfl))) (fun _=>rfl))) jD rfl) rfl)) rfl (.inl rfl)))) (fun _=>rfl))
 (jF (yC jPY.nd rfl (.inl rfl) (yAU hK LT D.rm rfl g.n_sorted (jB (i:=0) rfl (.inl rfl) rfl rfl) (ySN (a := "some") (by kernel_rfl) rfl (fun _ _ _ _ _ _=>rfl)) g.n_len rfl rfl rfl rfl rfl) rfl (.inl rfl))
 (jH (jZ (SimN.sh (jAJ (own:=[("some", 3)]) hK rfl jPY.nd (uI hK (jB (i:=2) rfl (.inl rfl) rfl rfl)) (jAG (by kernel_rfl)) (by decide) (fun _ _ _ _ _=>(yX (pg_name jPY.nd rfl (.inl rfl) (.inr rfl)))) (fun _ _ _ _ _=>wU) (fun _ _ _ _ _=>(yP (yAQ hK) rfl g.n_tuple (jA (SimN.sh (jAJ (own:=[("at", 1)]) hK rfl jPY.nd (uI hK (jB (i:=3) rfl (.inl rfl) rfl rfl)) (jAG (by kernel_rfl)) (by decide) (fun _ _ _ _ _=>(yX (pg_name jPY.nd rfl (.inl rfl) (.inr rfl)))) (fun _ _ _ _ _=>wU) (fun _ _ _ _ _=>(yF hK (jBQ hK κ.g_MENDS rfl κ.n_MENDS (fun _=>(.cons (.str _ (jJ (by decide +kernel))) (.cons (.str _ (jJ (by decide +kernel))) (.cons (.str _ (jJ (by decide +kernel))) (.cons (.str _ (jJ (by decide +kernel))) (.cons (.str _ (jJ (by decide +kernel))) (.cons (.str _ (jJ (by decide +kernel))) .nil))))))) rfl) (jB (i:=1) rfl (.inl rfl) rfl rfl) (fun _ _=>rfl))) (fun _=>rfl))) jD rfl) (by decide) rfl rfl rfl)) (fun _=>rfl))))))))
theorem jVA
  (D:Bdy (cxOf (L2.CX P w) P w K mg base jHI "least_mends" (defScope uZ) f cdv A outer s H E) E k)  (F_check_wish:Fn P w K mg base B k "check_wish" 1 uF) (F_sets_of_mends:Fn P w K mg base B k "sets_of_mends" 0 wM) (F_mended:Fn P w K mg base B k "mended" 2 jBS) (F_shortest:Fn P w K mg base B k "shortest" 2 wW) :
  SimSs (cxOf (L2.CX P w) P w K mg base jHI "least_mends" (defScope uZ) f cdv A outer s H E) B N (fun c d _ H=>E c d H) (defBody uZ) (jHN) :=
 (jF (jBP D.pa hK rfl (uI hK (jB (i:=1) rfl (.inl rfl) rfl rfl)) (yX (pg_name jTR.nd rfl (.inl rfl) (.inl rfl))) (fun _=>(jH (jFB (jV F_check_wish D.tk D.rm rfl (jA (jB (i:=2) rfl (.inl rfl) rfl rfl) jD rfl) rfl rfl rfl) rfl))) (fun _=>rfl))
 (jF (yC jTR.nd rfl (.inl rfl) (jLS (wC jD)) rfl (.inl rfl))
 (jF (jBP D.pa hK rfl (uI hK (jLZ F_sets_of_mends D.tk D.rm rfl rfl)) (yX (pg_name jTR.nd rfl (.inr rfl) (.inl rfl))) (fun _=>(jH (jW (wQ (yM hK (yP (vCF hK rfl) rfl g.n_any (jA (SimN.sh (jAJ (own:=[("less", 6)]) hK rfl jTR.nd (uI hK (jB (i:=3) rfl (.inl rfl) rfl rfl)) (jAG (by kernel_rfl)) (by decide) (fun _ _ _ _ _=>(yX (pg_name jTR.nd rfl (.inl rfl) (.inr rfl)))) (fun _ _ _ _ _=>wU) (fun _ _ _ _ _=>(yP (jSP hK rfl) rfl g.n_all (jA (SimN.sh (jAJ (own:=[("mend", 7)]) hK rfl jTR.nd (uI hK (jB (i:=6) rfl (.inl rfl) rfl rfl)) (jAG (by kernel_rfl)) (by decide) (fun _ _ _ _ _=>(yX (pg_name jTR.nd rfl (.inl rfl) (.inr rfl)))) (fun _ _ _ _ _=>wU) (fun _ _ _ _ _=>(qD (jDR hK D.rm.u9) (jB (i:=7) rfl (.inl rfl) rfl rfl) (jB (i:=4) rfl (.inr (.inl rfl)) rfl rfl) rfl)) (fun _=>rfl))) jD rfl) (by decide) rfl rfl rfl)) (fun _=>rfl))) jD rfl) (by decide) rfl rfl rfl) (fun _=>rfl))) (jF (yC jTR.nd rfl (.inr rfl) (jV F_mended D.tk D.rm rfl (jA (jB (i:=0) rfl (.inl rfl) rfl rfl) (jA (jB (i:=4) rfl (.inr (.inl rfl)) rfl rfl) jD rfl) rfl) rfl rfl rfl) rfl (.inl rfl))
 (jH (jW (yM hK (yP (jSP hK rfl) rfl g.n_all (jA (SimN.sh (jAJ (own:=[("wish", 2)]) hK rfl jTR.nd (uI hK (jB (i:=1) rfl (.inl rfl) rfl rfl)) (jAG (by kernel_rfl)) (by decide) (fun _ _ _ _ _=>(yX (pg_name jTR.nd rfl (.inl rfl) (.inr rfl)))) (fun _ _ _ _ _=>wU) (fun _ _ _ _ _=>(qD (jHB) (jV F_shortest (jHX _) D.rm rfl (jA (jB (i:=5) rfl (.inr (.inl rfl)) rfl rfl) (jA (jB (i:=2) rfl (.inl rfl) rfl rfl) jD rfl) rfl) rfl rfl rfl) jAR rfl)) (fun _=>rfl))) jD rfl) (by decide) rfl rfl rfl) (fun _=>rfl)) (jH (jFB (jOO (jB (i:=3) rfl (.inl rfl) rfl rfl) (jB (i:=4) rfl (.inr (.inl rfl)) rfl rfl) rfl rfl rfl rfl rfl) rfl)) jU))) jU))) (fun _=>rfl))
 (jH (jZ (jB (i:=3) rfl (.inl rfl) rfl rfl))))))
theorem yBN
  (D:Bdy (cxOf (L2.CX P w) P w K mg base jJQ "_law_open" (defScope kE) f cdv A outer s H E) E k)   :
  SimSs (cxOf (L2.CX P w) P w K mg base jJQ "_law_open" (defScope kE) f cdv A outer s H E) B N (fun c d _ H=>E c d H) (defBody kE) (jJU) :=
 (jH (jZ (jLS (wC (jA (yP (yFM hK) rfl g.n_list (jA (jJB hK (jB (i:=0) rfl (.inl rfl) rfl rfl) jDJ (jDI jL)) jD rfl) (by decide) rfl rfl rfl) (jA jL (jA jL (jA jL (jA jL jD rfl) rfl) rfl) rfl) rfl)))))
theorem yBP
  (D:Bdy (cxOf (L2.CX P w) P w K mg base jJS "_law_draw" (defScope kJ) f cdv A outer s H E) E k)   :
  SimSs (cxOf (L2.CX P w) P w K mg base jJS "_law_draw" (defScope kJ) f cdv A outer s H E) B N (fun c d _ H=>E c d H) (defBody kJ) (jOX) :=
 (jF (jW (uP (qN (jR (vO hK D.rm.u9) (yF hK (jB (i:=0) rfl (.inl rfl) rfl rfl) jL (fun _ _=>rfl)) jL rfl) (jBU (jR (yIG hK D.rm.u9) (yF hK (jB (i:=0) rfl (.inl rfl) rfl rfl) jL (fun _ _=>rfl)) (yP (bi_len hK) rfl g.n_len (jA (yF hK (jB (i:=0) rfl (.inl rfl) rfl rfl) jL (fun _ _=>rfl)) jD rfl) (by decide) rfl rfl rfl) rfl)))) (jF (yC jYH.nd rfl (.inl rfl) (yF hK (yF hK (jB (i:=0) rfl (.inl rfl) rfl rfl) jL (fun _ _=>rfl)) (yF hK (jB (i:=0) rfl (.inl rfl) rfl rfl) jL (fun _ _=>rfl)) (fun _ _=>rfl)) rfl (.inl rfl))
 (jF (jGN (uE hK (yF hK (jB (i:=0) rfl (.inl rfl) rfl rfl) jL (fun _ _=>rfl)) jL) (jB (i:=0) rfl (.inl rfl) rfl rfl) jL (fun _=>rfl) rfl rfl rfl)
 (jF (jGN (vU (jR (vEF) (jB (i:=2) rfl (.inl rfl) rfl rfl) (yQS jL jL) rfl) (jB (i:=2) rfl (.inl rfl) rfl rfl) jL) (jB (i:=0) rfl (.inl rfl) rfl rfl) jL (fun _=>rfl) rfl rfl rfl)
 (jH (jGN (jOF (yP (jCY) rfl g.n_int (jA (uE hK (uE hK (jCC hK (yF hK (jB (i:=0) rfl (.inl rfl) rfl rfl) jL (fun _ _=>rfl)) jL) (jCC hK (jOF (yP (jCY) rfl g.n_int (jA (jB (i:=2) rfl (.inl rfl) rfl rfl) jD rfl) (by decide) rfl rfl rfl) jL) jL)) jL) jD rfl) (by decide) rfl rfl rfl) jL) (jB (i:=0) rfl (.inl rfl) rfl rfl) jL (fun _=>rfl) rfl rfl rfl))))) jU)
 (jF (jW (jR (yUG) (yF hK (jB (i:=0) rfl (.inl rfl) rfl rfl) jL (fun _ _=>rfl)) jL rfl) (jF (yC jYH.nd rfl (.inl rfl) (jOF (yP (jCY) rfl g.n_int (jA (yF hK (jB (i:=0) rfl (.inl rfl) rfl rfl) jL (fun _ _=>rfl)) jD rfl) (by decide) rfl rfl rfl) (jB (i:=1) rfl (.inl rfl) rfl rfl)) rfl (.inl rfl))
 (jF (jGN (yEQ (yF hK (jB (i:=0) rfl (.inl rfl) rfl rfl) jL (fun _ _=>rfl)) (jB (i:=1) rfl (.inl rfl) rfl rfl)) (jB (i:=0) rfl (.inl rfl) rfl rfl) jL (fun _=>rfl) rfl rfl rfl)
 (jH (jZ (jB (i:=3) rfl (.inl rfl) rfl rfl))))) jU)
 (jF (jGN (uE hK (yF hK (jB (i:=0) rfl (.inl rfl) rfl rfl) jL (fun _ _=>rfl)) jL) (jB (i:=0) rfl (.inl rfl) rfl rfl) jL (fun _=>rfl) rfl rfl rfl)
 (jF (yC jYH.nd rfl (.inl rfl) (yF hK (jB (i:=0) rfl (.inl rfl) rfl rfl) jL (fun _ _=>rfl)) rfl (.inl rfl))
 (jF (jGN (jOF (yP (jCY) rfl g.n_int (jA (uE hK (uE hK (uE hK (jCC hK (jB (i:=4) rfl (.inl rfl) rfl rfl) (jB (i:=4) rfl (.inl rfl) rfl rfl)) (jCC hK jL (jB (i:=4) rfl (.inl rfl) rfl rfl))) (jCC hK jL (yF hK (jB (i:=0) rfl (.inl rfl) rfl rfl) jL (fun _ _=>rfl)))) jL) jD rfl) (by decide) rfl rfl rfl) jL) (jB (i:=0) rfl (.inl rfl) rfl rfl) jL (fun _=>rfl) rfl rfl rfl)
 (jH (jZ (jOF (yP (jCY) rfl g.n_int (jA (uE hK (uE hK (yEQ (yF hK (jB (i:=0) rfl (.inl rfl) rfl rfl) jL (fun _ _=>rfl)) jL) (jCC hK (jB (i:=4) rfl (.inl rfl) rfl rfl) jL)) (yF hK (jB (i:=0) rfl (.inl rfl) rfl rfl) jL (fun _ _=>rfl))) jD rfl) (by decide) rfl rfl rfl) (jB (i:=1) rfl (.inl rfl) rfl rfl)))))))))
theorem yHL
  (D:Bdy (cxOf (L2.CX P w) P w K mg base jNL "_law_of" (defScope jBB) f cdv A outer s H E) E k)  (F__law_draw:Fn P w K mg base B k "_law_draw" 2 vI) :
  SimSs (cxOf (L2.CX P w) P w K mg base jNL "_law_of" (defScope jBB) f cdv A outer s H E) B N (fun c d _ H=>E c d H) (defBody jBB) (jNO) :=
 (jH (jZ (yF hK (jB (i:=1) rfl (.inl rfl) rfl rfl) (jV F__law_draw D.tk D.rm rfl (jA (jB (i:=0) rfl (.inl rfl) rfl rfl) (jA (yP (bi_len hK) rfl g.n_len (jA (jB (i:=1) rfl (.inl rfl) rfl rfl) jD rfl) (by decide) rfl rfl rfl) jD rfl) rfl) rfl rfl rfl) (fun _ _=>rfl))))
theorem yBO
  (D:Bdy (cxOf (L2.CX P w) P w K mg base jJR "_law_like" (defScope uR) f cdv A outer s H E) E k)  {m:MF} (F__law_like:Fn P w K mg base B k "_law_like" 2 m) :
  SimSs (cxOf (L2.CX P w) P w K mg base jJR "_law_like" (defScope uR) f cdv A outer s H E) B N (fun c d _ H=>E c d H) (defBody uR) (jOW m) :=
 (jF (jW (yM hK (yP (jAY hK) rfl g.n_isinstance (jA (jB (i:=1) rfl (.inl rfl) rfl rfl) (jA (jQ (jA (jAI rfl g.n_list PyProof.Rows.boot_list (by decide) rfl) (jA (jAI rfl g.n_tuple PyProof.Rows.boot_tuple (by decide) rfl) jD rfl) rfl)) jD rfl) rfl) (by decide) rfl rfl rfl) (fun _=>rfl)) (jF (jW (uP (jGC (jR (jBO hK D.rm.u9) (yP (jAY hK) rfl g.n_isinstance (jA (jB (i:=0) rfl (.inl rfl) rfl rfl) (jA (jAI rfl g.n_list PyProof.Rows.boot_list (by decide) rfl) jD rfl) rfl) (by decide) rfl rfl rfl) (yP (jAY hK) rfl g.n_isinstance (jA (jB (i:=1) rfl (.inl rfl) rfl rfl) (jA (jAI rfl g.n_list PyProof.Rows.boot_list (by decide) rfl) jD rfl) rfl) (by decide) rfl rfl rfl) rfl) (jFK (jR (jBO hK D.rm.u9) (yP (jAY hK) rfl g.n_isinstance (jA (jB (i:=0) rfl (.inl rfl) rfl rfl) (jA (jAI rfl g.n_tuple PyProof.Rows.boot_tuple (by decide) rfl) jD rfl) rfl) (by decide) rfl rfl rfl) (yP (jAY hK) rfl g.n_isinstance (jA (jB (i:=1) rfl (.inl rfl) rfl rfl) (jA (jAI rfl g.n_tuple PyProof.Rows.boot_tuple (by decide) rfl) jD rfl) rfl) (by decide) rfl rfl rfl) rfl)))) (jH (jZ yL)) jU)
 (jH (jZ (jAS (qD (vO hK D.rm.u9) (yP (bi_len hK) rfl g.n_len (jA (jB (i:=0) rfl (.inl rfl) rfl rfl) jD rfl) (by decide) rfl rfl rfl) (yP (bi_len hK) rfl g.n_len (jA (jB (i:=1) rfl (.inl rfl) rfl rfl) jD rfl) (by decide) rfl rfl rfl) rfl) (wN (yP (jSP hK rfl) rfl g.n_all (jA (SimN.sh (jAJ (own:=[("_law_one", 2),("_law_other", 3)]) hK rfl jOV.nd (yQQ hK rfl g.n_zip (jA (jB (i:=0) rfl (.inl rfl) rfl rfl) (jA (jB (i:=1) rfl (.inl rfl) rfl rfl) jD rfl) rfl) rfl rfl rfl) (jAG (by kernel_rfl)) (by decide) (fun _ _ _ _ _=>(jFY rfl (yI (yX (pg_name jOV.nd rfl (.inl rfl) (.inr rfl))) (yI (yX (pg_name jOV.nd rfl (.inl rfl) (.inr rfl))) qO rfl) rfl) rfl rfl)) (fun _ _ _ _ _=>wU) (fun _ _ _ _ _=>(jV F__law_like (jHX _) D.rm rfl (jA (jB (i:=2) rfl (.inl rfl) rfl rfl) (jA (jB (i:=3) rfl (.inl rfl) rfl rfl) jD rfl) rfl) rfl rfl rfl)) (fun _=>rfl))) jD rfl) (by decide) rfl rfl rfl)))))) jU)
 (jF (jW (uP (jGC (jR (jHB) (jB (i:=1) rfl (.inl rfl) rfl rfl) jAR rfl) (jFK (jR (jHB) (jB (i:=0) rfl (.inl rfl) rfl rfl) jAR rfl)))) (jH (jZ (jAS (qD (jHB) (jB (i:=1) rfl (.inl rfl) rfl rfl) jAR rfl) (wN (qD (jHB) (jB (i:=0) rfl (.inl rfl) rfl rfl) jAR rfl))))) jU)
 (jF (jW (uP (jGC (jR (jBO hK D.rm.u9) (yP (jAY hK) rfl g.n_isinstance (jA (jB (i:=0) rfl (.inl rfl) rfl rfl) (jA (jAI rfl g.n_bool PyProof.Rows.boot_bool (by decide) rfl) jD rfl) rfl) (by decide) rfl rfl rfl) (yP (jAY hK) rfl g.n_isinstance (jA (jB (i:=1) rfl (.inl rfl) rfl rfl) (jA (jAI rfl g.n_bool PyProof.Rows.boot_bool (by decide) rfl) jD rfl) rfl) (by decide) rfl rfl rfl) rfl) (jFK (jR (jBO hK D.rm.u9) (yP (jAY hK) rfl g.n_isinstance (jA (jB (i:=0) rfl (.inl rfl) rfl rfl) (jA (jAI rfl g.n_int PyProof.Rows.boot_int (by decide) rfl) jD rfl) rfl) (by decide) rfl rfl rfl) (yP (jAY hK) rfl g.n_isinstance (jA (jB (i:=1) rfl (.inl rfl) rfl rfl) (jA (jAI rfl g.n_int PyProof.Rows.boot_int (by decide) rfl) jD rfl) rfl) (by decide) rfl rfl rfl) rfl)))) (jH (jZ yL)) jU)
 (jH (jZ (jAS (qD (vO hK D.rm.u9) (yP (jAY hK) rfl g.n_isinstance (jA (jB (i:=0) rfl (.inl rfl) rfl rfl) (jA (jAI rfl g.n_str PyProof.Rows.boot_str (by decide) rfl) jD rfl) rfl) (by decide) rfl rfl rfl) (yP (jAY hK) rfl g.n_isinstance (jA (jB (i:=1) rfl (.inl rfl) rfl rfl) (jA (jAI rfl g.n_str PyProof.Rows.boot_str (by decide) rfl) jD rfl) rfl) (by decide) rfl rfl rfl) rfl) (wN (qD (vO hK D.rm.u9) (jB (i:=0) rfl (.inl rfl) rfl rfl) (jB (i:=1) rfl (.inl rfl) rfl rfl) rfl))))))))
theorem jQC
  (D:Bdy (cxOf (L2.CX P w) P w K mg base jEU "_law_some_spec" (defScope uA) f cdv A outer s H E) E k)  (F__law_of:Fn P w K mg base B k "_law_of" 2 uQ) (F__law_draw:Fn P w K mg base B k "_law_draw" 2 vI) :
  SimSs (cxOf (L2.CX P w) P w K mg base jEU "_law_some_spec" (defScope uA) f cdv A outer s H E) B N (fun c d _ H=>E c d H) (defBody uA) (jEW) :=
 (jF (yC jPB.nd rfl (.inl rfl) (uE hK (jK (jJ (by decide +kernel))) (yIO PySem.F.slot_str_join PySem.F.type_str_join mt_join (jZP hK) (jK (jJ (by decide +kernel))) (jA (SimN.sh (jAJ (own:=[("_law_k", 3)]) hK rfl jPB.nd (jIP rfl g.n_range (jA jL jD rfl) rfl) (jAG (by kernel_rfl)) (by decide) (fun _ _ _ _ _=>(yX (pg_name jPB.nd rfl (.inl rfl) (.inr rfl)))) (fun _ _ _ _ _=>wU) (fun _ _ _ _ _=>(jV F__law_of (jHX _) D.rm rfl (jA (jB (i:=0) rfl (.inr (.inl rfl)) rfl rfl) (jA (jK (jJ (by decide +kernel))) jD rfl) rfl) rfl rfl rfl)) (fun _=>rfl))) jD rfl) rfl rfl rfl rfl rfl)) rfl (.inl rfl))
 (jF (yC jPB.nd rfl (.inl rfl) (uE hK (jK (jJ (by decide +kernel))) (yIO PySem.F.slot_str_join PySem.F.type_str_join mt_join (jZP hK) (jK (jJ (by decide +kernel))) (jA (SimN.sh (jAJ (own:=[("_law_k", 3)]) hK rfl jPB.nd (jIP rfl g.n_range (jA jL jD rfl) rfl) (jAG (by kernel_rfl)) (by decide) (fun _ _ _ _ _=>(yX (pg_name jPB.nd rfl (.inl rfl) (.inr rfl)))) (fun _ _ _ _ _=>wU) (fun _ _ _ _ _=>(jV F__law_of (jHX _) D.rm rfl (jA (jB (i:=0) rfl (.inr (.inl rfl)) rfl rfl) (jA (jK (jJ (by decide +kernel))) jD rfl) rfl) rfl rfl rfl)) (fun _=>rfl))) jD rfl) rfl rfl rfl rfl rfl)) rfl (.inl rfl))
 (jH (jZ (jQ (jA (jB (i:=1) rfl (.inl rfl) rfl rfl) (jA (jB (i:=2) rfl (.inl rfl) rfl rfl) (jA (qD (yUG) (jV F__law_draw D.tk D.rm rfl (jA (jB (i:=0) rfl (.inr (.inl rfl)) rfl rfl) (jA jL jD rfl) rfl) rfl rfl rfl) jL rfl) (jA (qD (vO hK D.rm.u9) (jV F__law_draw D.tk D.rm rfl (jA (jB (i:=0) rfl (.inr (.inl rfl)) rfl rfl) (jA jL jD rfl) rfl) rfl rfl rfl) jL rfl) (jA (jV F__law_of D.tk D.rm rfl (jA (jB (i:=0) rfl (.inr (.inl rfl)) rfl rfl) (jA (yW (jA (jK (jJ (by decide +kernel))) (jA (jK (jJ (by decide +kernel))) (jA (jK (jJ (by decide +kernel))) (jA (jK (jJ (by decide +kernel))) jD rfl) rfl) rfl) rfl)) jD rfl) rfl) rfl rfl rfl) jD rfl) rfl) rfl) rfl) rfl))))))
theorem yDS
  (D:Bdy (cxOf (L2.CX P w) P w K mg base jKV "_law_way" (defScope qZ) f cdv A outer s H E) E k)  (M_Way_2_stretches_hidden_lock:MkA P w K mg base B k "Way" yJ 2 ["stretches", "hidden", "lock"] [0,1,2,3,4,5] [.str "tttttttt", .str "tttt"] 6 yD) :
  SimSs (cxOf (L2.CX P w) P w K mg base jKV "_law_way" (defScope qZ) f cdv A outer s H E) B N (fun c d _ H=>E c d H) (defBody qZ) (jKZ) :=
 (jH (jZ (yEM M_Way_2_stretches_hidden_lock D.tk D.rm rfl (jA (yF hK (jB (i:=0) rfl (.inl rfl) rfl rfl) jL (fun _ _=>rfl)) (jA (yF hK (jB (i:=0) rfl (.inl rfl) rfl rfl) jL (fun _ _=>rfl)) jD rfl) rfl) (wV (yF hK (jB (i:=0) rfl (.inl rfl) rfl rfl) jL (fun _ _=>rfl)) (wV (yF hK (jB (i:=0) rfl (.inl rfl) rfl rfl) jL (fun _ _=>rfl)) (wV (yF hK (jB (i:=0) rfl (.inl rfl) rfl rfl) jL (fun _ _=>rfl)) qH))) rfl rfl rfl rfl rfl rfl)))
theorem jVD
  (D:Bdy (cxOf (L2.CX P w) P w K mg base jHL "_law_wishes" (defScope zE) f cdv A outer s H E) E k)   :
  SimSs (cxOf (L2.CX P w) P w K mg base jHL "_law_wishes" (defScope zE) f cdv A outer s H E) B N (fun c d _ H=>E c d H) (defBody zE) (jLF) :=
 (jH (jZ (yW (jA (jK (jJ (by decide +kernel))) (jA (jK (jJ (by decide +kernel))) (jA (jK (jJ (by decide +kernel))) (jA (jK (jJ (by decide +kernel))) (jA (jK (jJ (by decide +kernel))) (jA (jK (jJ (by decide +kernel))) jD rfl) rfl) rfl) rfl) rfl) rfl))))
theorem yDT
  (D:Bdy (cxOf (L2.CX P w) P w K mg base jKW "_law_put" (defScope jAA) f cdv A outer s H E) E k)   :
  SimSs (cxOf (L2.CX P w) P w K mg base jKW "_law_put" (defScope jAA) f cdv A outer s H E) B N (fun c d _ H=>E c d H) (defBody jAA) (jQV) :=
 (jH (jZ (uE hK (uE hK (jJB hK (jB (i:=0) rfl (.inl rfl) rfl rfl) jDJ (jDI (jB (i:=1) rfl (.inl rfl) rfl rfl))) (jQ (jA (jB (i:=2) rfl (.inl rfl) rfl rfl) jD rfl))) (jJB hK (jB (i:=0) rfl (.inl rfl) rfl rfl) (jDI (uE hK (jB (i:=1) rfl (.inl rfl) rfl rfl) jL)) jDJ))))
theorem jMP
  (D:Bdy (cxOf (L2.CX P w) P w K mg base jDD "_law_number_taken" (defScope vC) f cdv A outer s H E) E k)   :
  SimSs (cxOf (L2.CX P w) P w K mg base jDD "_law_number_taken" (defScope vC) f cdv A outer s H E) B N (fun c d _ H=>E c d H) (defBody vC) (jFM) :=
 (jH (jZ (qD (vO hK D.rm.u9) (yF hK (yF hK (jB (i:=0) rfl (.inl rfl) rfl rfl) jL (fun _ _=>rfl)) (uE hK (jCC hK jL (yP (jCY) rfl g.n_int (jA (jB (i:=1) rfl (.inl rfl) rfl rfl) jD rfl) (by decide) rfl rfl rfl)) (yP (jCY) rfl g.n_int (jA (jB (i:=2) rfl (.inl rfl) rfl rfl) jD rfl) (by decide) rfl rfl rfl)) (fun _ _=>rfl)) (jK (jJ (by decide +kernel))) rfl)))
theorem jPF
  (D:Bdy (cxOf (L2.CX P w) P w K mg base jEF "_law_drop_steps" (defScope vP) f cdv A outer s H E) E k)  (F__law_put:Fn P w K mg base B k "_law_put" 3 yN) :
  SimSs (cxOf (L2.CX P w) P w K mg base jEF "_law_drop_steps" (defScope vP) f cdv A outer s H E) B N (fun c d _ H=>E c d H) (defBody vP) (jHQ) :=
 (jF (yGB (i:=3) (j:=4) rfl jNR.nd rfl rfl (by decide) rfl rfl (uE hK (uE hK (jCC hK jL (yP (jCY) rfl g.n_int (jA (yF hK (jB (i:=2) rfl (.inl rfl) rfl rfl) jL (fun _ _=>rfl)) jD rfl) (by decide) rfl rfl rfl)) (jCC hK jL (yP (jCY) rfl g.n_int (jA (yF hK (jB (i:=2) rfl (.inl rfl) rfl rfl) jL (fun _ _=>rfl)) jD rfl) (by decide) rfl rfl rfl))) (yP (jCY) rfl g.n_int (jA (yF hK (jB (i:=2) rfl (.inl rfl) rfl rfl) jL (fun _ _=>rfl)) jD rfl) (by decide) rfl rfl rfl)) (wC jD) rfl rfl rfl rfl)
 (jF (yC jNR.nd rfl (.inl rfl) (yF hK (yF hK (jB (i:=0) rfl (.inl rfl) rfl rfl) jL (fun _ _=>rfl)) (jB (i:=3) rfl (.inl rfl) rfl rfl) (fun _ _=>rfl)) rfl (.inl rfl))
 (jF (jW (jR (jBO hK D.rm.u9) (yF hK (jB (i:=0) rfl (.inl rfl) rfl rfl) jL (fun _ _=>rfl)) (jK (jJ (by decide +kernel))) rfl) (jH (jBV jNR.nd rfl (.inl rfl) (wC (jA (jQ (jA (jK (jJ (by decide +kernel))) (jA (jV F__law_put D.tk D.rm rfl (jA (jV F__law_put D.tk D.rm rfl (jA (jB (i:=2) rfl (.inl rfl) rfl rfl) (jA jL (jA yL jD rfl) rfl) rfl) rfl rfl rfl) (jA jL (jA yL jD rfl) rfl) rfl) rfl rfl rfl) jD rfl) rfl)) (jA (jQ (jA (jK (jJ (by decide +kernel))) (jA (jV F__law_put D.tk D.rm rfl (jA (jB (i:=2) rfl (.inl rfl) rfl rfl) (jA jL (jA yL jD rfl) rfl) rfl) rfl rfl rfl) jD rfl) rfl)) jD rfl) rfl)) rfl (.inl rfl))) jU)
 (jF (jBV jNR.nd rfl (.inl rfl) (yJZ (jB (i:=4) rfl (.inl rfl) rfl rfl) (yW (jA (jQ (jA (jK (jJ (by decide +kernel))) (jA (jV F__law_put D.tk D.rm rfl (jA (jB (i:=2) rfl (.inl rfl) rfl rfl) (jA jL (jA yL jD rfl) rfl) rfl) rfl rfl rfl) jD rfl) rfl)) (jA (jQ (jA (jK (jJ (by decide +kernel))) (jA (jV F__law_put D.tk D.rm rfl (jA (jB (i:=2) rfl (.inl rfl) rfl rfl) (jA jL (jA yL jD rfl) rfl) rfl) rfl rfl rfl) jD rfl) rfl)) jD rfl) rfl))) rfl (.inl rfl))
 (jF (jW (uP (qN (jR (vO hK D.rm.u9) (jB (i:=1) rfl (.inl rfl) rfl rfl) (jK (jJ (by decide +kernel))) rfl) (qN (jR (vO hK D.rm.u9) (jB (i:=5) rfl (.inl rfl) rfl rfl) (jK (jJ (by decide +kernel))) rfl) (qN (yM hK (yF hK (jB (i:=2) rfl (.inl rfl) rfl rfl) jL (fun _ _=>rfl)) (fun _=>rfl)) (jBU (wQ (yM hK (yF hK (jB (i:=2) rfl (.inl rfl) rfl rfl) jL (fun _ _=>rfl)) (fun _=>rfl)))))))) (jH (yV rfl (.inl rfl) rfl rfl (jQ (jA (jK (jJ (by decide +kernel))) (jA (jQ (jA (jK (jJ (by decide +kernel))) jD rfl)) jD rfl) rfl)) rfl rfl rfl rfl rfl rfl)) jU)
 (jF (jW (uP (qN (jR (vO hK D.rm.u9) (jB (i:=1) rfl (.inl rfl) rfl rfl) (jK (jJ (by decide +kernel))) rfl) (qN (jR (vO hK D.rm.u9) (jB (i:=5) rfl (.inl rfl) rfl rfl) (jK (jJ (by decide +kernel))) rfl) (jBU (wQ (yM hK (yF hK (jB (i:=2) rfl (.inl rfl) rfl rfl) jL (fun _ _=>rfl)) (fun _=>rfl))))))) (jH (yV rfl (.inl rfl) rfl rfl (jQ (jA (jK (jJ (by decide +kernel))) (jA (jQ (jA (jK (jJ (by decide +kernel))) jD rfl)) jD rfl) rfl)) rfl rfl rfl rfl rfl rfl)) jU)
 (jH (jCL (i:=4) rfl (.inl rfl) rfl rfl))))))))
theorem jMQ
  (D:Bdy (cxOf (L2.CX P w) P w K mg base jDE "_law_number_steps" (defScope vD) f cdv A outer s H E) E k)  (F__law_put:Fn P w K mg base B k "_law_put" 3 yN) :
  SimSs (cxOf (L2.CX P w) P w K mg base jDE "_law_number_steps" (defScope vD) f cdv A outer s H E) B N (fun c d _ H=>E c d H) (defBody vD) (jFN) :=
 (jF (jBV jLJ.nd rfl (.inl rfl) (wC jD) rfl (.inl rfl))
 (jF (jW (jR (vO hK D.rm.u9) (yF hK (jB (i:=0) rfl (.inl rfl) rfl rfl) jL (fun _ _=>rfl)) (jK (jJ (by decide +kernel))) rfl) (jH (yV rfl (.inl rfl) rfl rfl (jQ (jA (jK (jJ (by decide +kernel))) (jA (vU (jR (vO hK D.rm.u9) (jB (i:=1) rfl (.inl rfl) rfl rfl) (jK (jJ (by decide +kernel))) rfl) (jQ (jA yL (jA (yF hK (jB (i:=2) rfl (.inl rfl) rfl rfl) jL (fun _ _=>rfl)) jD rfl) rfl)) (jQ (jA yL (jA (yF hK (jB (i:=2) rfl (.inl rfl) rfl rfl) jL (fun _ _=>rfl)) (jA yL jD rfl) rfl) rfl))) jD rfl) rfl)) rfl rfl rfl rfl rfl rfl)) jU)
 (jF (jW (jR (jBO hK D.rm.u9) (yF hK (jB (i:=0) rfl (.inl rfl) rfl rfl) jL (fun _ _=>rfl)) (jK (jJ (by decide +kernel))) rfl) (jH (yV rfl (.inl rfl) rfl rfl (jQ (jA (jK (jJ (by decide +kernel))) (jA (jV F__law_put D.tk D.rm rfl (jA (jB (i:=2) rfl (.inl rfl) rfl rfl) (jA jL (jA yL jD rfl) rfl) rfl) rfl rfl rfl) jD rfl) rfl)) rfl rfl rfl rfl rfl rfl)) jU)
 (jF (yC jLJ.nd rfl (.inl rfl) (yF hK (yF hK (jB (i:=0) rfl (.inl rfl) rfl rfl) jL (fun _ _=>rfl)) (uE hK (jCC hK jL (yP (jCY) rfl g.n_int (jA (yF hK (jB (i:=2) rfl (.inl rfl) rfl rfl) jL (fun _ _=>rfl)) jD rfl) (by decide) rfl rfl rfl)) (yP (jCY) rfl g.n_int (jA (yF hK (jB (i:=2) rfl (.inl rfl) rfl rfl) jL (fun _ _=>rfl)) jD rfl) (by decide) rfl rfl rfl)) (fun _ _=>rfl)) rfl (.inl rfl))
 (jF (yC jLJ.nd rfl (.inl rfl) (vU (jR (vO hK D.rm.u9) (jB (i:=1) rfl (.inl rfl) rfl rfl) (jK (jJ (by decide +kernel))) rfl) (qD (vO hK D.rm.u9) (jB (i:=4) rfl (.inl rfl) rfl rfl) (jK (jJ (by decide +kernel))) rfl) (jAS (qD (vO hK D.rm.u9) (jB (i:=4) rfl (.inl rfl) rfl rfl) (jK (jJ (by decide +kernel))) rfl) (jAS (yF hK (jB (i:=2) rfl (.inl rfl) rfl rfl) jL (fun _ _=>rfl)) (wN (yF hK (jB (i:=0) rfl (.inl rfl) rfl rfl) jL (fun _ _=>rfl)))))) rfl (.inl rfl))
 (jF (jW (yM hK (jB (i:=5) rfl (.inl rfl) rfl rfl) (fun _=>rfl)) (jH (yV rfl (.inl rfl) rfl rfl (jQ (jA (jK (jJ (by decide +kernel))) (jA (jQ (jA (jK (jJ (by decide +kernel))) jD rfl)) jD rfl) rfl)) rfl rfl rfl rfl rfl rfl)) jU)
 (jH (jCL (i:=3) rfl (.inl rfl) rfl rfl))))))))
theorem jMR
  (D:Bdy (cxOf (L2.CX P w) P w K mg base jDF "_law_landed_steps" (defScope vG) f cdv A outer s H E) E k)  (F__law_put:Fn P w K mg base B k "_law_put" 3 yN) (F__law_number_taken:Fn P w K mg base B k "_law_number_taken" 3 vX) :
  SimSs (cxOf (L2.CX P w) P w K mg base jDF "_law_landed_steps" (defScope vG) f cdv A outer s H E) B N (fun c d _ H=>E c d H) (defBody vG) (jFO) :=
 (jF (jBV jLK.nd rfl (.inl rfl) (wC jD) rfl (.inl rfl))
 (jF (jW (wQ (yM hK (yF hK (jB (i:=1) rfl (.inl rfl) rfl rfl) jL (fun _ _=>rfl)) (fun _=>rfl))) (jF (jW (jR (vO hK D.rm.u9) (yF hK (jB (i:=0) rfl (.inl rfl) rfl rfl) jL (fun _ _=>rfl)) (jK (jJ (by decide +kernel))) rfl) (jH (yV rfl (.inl rfl) rfl rfl (jQ (jA (jK (jJ (by decide +kernel))) (jA (jV F__law_put D.tk D.rm rfl (jA (jB (i:=1) rfl (.inl rfl) rfl rfl) (jA jL (jA yL jD rfl) rfl) rfl) rfl rfl rfl) jD rfl) rfl)) rfl rfl rfl rfl rfl rfl)) jU)
 (jF (jW (jR (jBO hK D.rm.u9) (yF hK (jB (i:=0) rfl (.inl rfl) rfl rfl) jL (fun _ _=>rfl)) (jK (jJ (by decide +kernel))) rfl) (jH (yV rfl (.inl rfl) rfl rfl (jQ (jA (jK (jJ (by decide +kernel))) (jA (jV F__law_put D.tk D.rm rfl (jA (jV F__law_put D.tk D.rm rfl (jA (jB (i:=1) rfl (.inl rfl) rfl rfl) (jA jL (jA yL jD rfl) rfl) rfl) rfl rfl rfl) (jA jL (jA yL jD rfl) rfl) rfl) rfl rfl rfl) jD rfl) rfl)) rfl rfl rfl rfl rfl rfl)) jU)
 (jH (jZ (uE hK (jB (i:=2) rfl (.inl rfl) rfl rfl) (yW (jA (jQ (jA (jK (jJ (by decide +kernel))) (jA (jQ (jA yL (jA yL (jA yL (jA yL (jA yL jD rfl) rfl) rfl) rfl) rfl)) jD rfl) rfl)) jD rfl))))))) jU)
 (jF (jW (jR (vO hK D.rm.u9) (yF hK (jB (i:=0) rfl (.inl rfl) rfl rfl) jL (fun _ _=>rfl)) (jK (jJ (by decide +kernel))) rfl) (jH (yV rfl (.inl rfl) rfl rfl (jQ (jA (jK (jJ (by decide +kernel))) (jA (jV F__law_put D.tk D.rm rfl (jA (jV F__law_put D.tk D.rm rfl (jA (jB (i:=1) rfl (.inl rfl) rfl rfl) (jA jL (jA yL jD rfl) rfl) rfl) rfl rfl rfl) (jA jL (jA yL jD rfl) rfl) rfl) rfl rfl rfl) jD rfl) rfl)) rfl rfl rfl rfl rfl rfl)) jU)
 (jF (jW (jR (jBO hK D.rm.u9) (yF hK (jB (i:=0) rfl (.inl rfl) rfl rfl) jL (fun _ _=>rfl)) (jK (jJ (by decide +kernel))) rfl) (jH (yV rfl (.inl rfl) rfl rfl (jQ (jA (jK (jJ (by decide +kernel))) (jA (jV F__law_put D.tk D.rm rfl (jA (jB (i:=1) rfl (.inl rfl) rfl rfl) (jA jL (jA yL jD rfl) rfl) rfl) rfl rfl rfl) jD rfl) rfl)) rfl rfl rfl rfl rfl rfl)) jU)
 (jF (yC jLK.nd rfl (.inl rfl) (jJC (jOE (yF hK (jB (i:=1) rfl (.inl rfl) rfl rfl) jL (fun _ _=>rfl))) (wN (jAS (yF hK (jB (i:=1) rfl (.inl rfl) rfl rfl) jL (fun _ _=>rfl)) (wN (yF hK (jB (i:=0) rfl (.inl rfl) rfl rfl) jL (fun _ _=>rfl)))))) rfl (.inl rfl))
 (jF (jW (uP (qN (yM hK (jB (i:=3) rfl (.inl rfl) rfl rfl) (fun _=>rfl)) (jBU (yM hK (jV F__law_number_taken D.tk D.rm rfl (jA (jB (i:=0) rfl (.inl rfl) rfl rfl) (jA (yF hK (jB (i:=1) rfl (.inl rfl) rfl rfl) jL (fun _ _=>rfl)) (jA (yF hK (jB (i:=1) rfl (.inl rfl) rfl rfl) jL (fun _ _=>rfl)) jD rfl) rfl) rfl) rfl rfl rfl) (fun _=>rfl))))) (jH (yV rfl (.inl rfl) rfl rfl (jQ (jA (jK (jJ (by decide +kernel))) (jA (jQ (jA (jK (jJ (by decide +kernel))) jD rfl)) jD rfl) rfl)) rfl rfl rfl rfl rfl rfl)) jU)
 (jH (jCL (i:=2) rfl (.inl rfl) rfl rfl))))))))
theorem jMO
  (D:Bdy (cxOf (L2.CX P w) P w K mg base jDC "_law_return_steps" (defScope vB) f cdv A outer s H E) E k)  (F__law_put:Fn P w K mg base B k "_law_put" 3 yN) (F__law_number_taken:Fn P w K mg base B k "_law_number_taken" 3 vX) :
  SimSs (cxOf (L2.CX P w) P w K mg base jDC "_law_return_steps" (defScope vB) f cdv A outer s H E) B N (fun c d _ H=>E c d H) (defBody vB) (jFL) :=
 (jF (jVU (i:=2) (j:=3) rfl jLH.nd rfl rfl (by decide) rfl rfl (wC jD) (jQ (jA (jK (jJ (by decide +kernel))) jD rfl)) rfl rfl rfl rfl)
 (jF (jW (jR (jBO hK D.rm.u9) (yF hK (jB (i:=1) rfl (.inl rfl) rfl rfl) jL (fun _ _=>rfl)) jL rfl) (jH (yV rfl (.inl rfl) rfl rfl (jQ (jA (jK (jJ (by decide +kernel))) (jA (jV F__law_put D.tk D.rm rfl (jA (jB (i:=1) rfl (.inl rfl) rfl rfl) (jA jL (jA jL jD rfl) rfl) rfl) rfl rfl rfl) jD rfl) rfl)) rfl rfl rfl rfl rfl rfl)) (jF (yC jLH.nd rfl (.inl rfl) (jV F__law_put D.tk D.rm rfl (jA (jV F__law_put D.tk D.rm rfl (jA (jB (i:=1) rfl (.inl rfl) rfl rfl) (jA jL (jA jL jD rfl) rfl) rfl) rfl rfl rfl) (jA jL (jA (jJC (yF hK (jB (i:=1) rfl (.inl rfl) rfl rfl) jL (fun _ _=>rfl)) (wN (qD (jBO hK D.rm.u9) (yF hK (jB (i:=0) rfl (.inl rfl) rfl rfl) jL (fun _ _=>rfl)) (jK (jJ (by decide +kernel))) rfl))) jD rfl) rfl) rfl) rfl rfl rfl) rfl (.inl rfl))
 (jH (yV rfl (.inl rfl) rfl rfl (jQ (jA (jK (jJ (by decide +kernel))) (jA (vU (yM hK (yF hK (jB (i:=1) rfl (.inl rfl) rfl rfl) jL (fun _ _=>rfl)) (fun _=>rfl)) (jB (i:=3) rfl (.inl rfl) rfl rfl) (jB (i:=4) rfl (.inl rfl) rfl rfl)) jD rfl) rfl)) rfl rfl rfl rfl rfl rfl))))
 (jF (yC jLH.nd rfl (.inl rfl) (jV F__law_put D.tk D.rm rfl (jA (jB (i:=1) rfl (.inl rfl) rfl rfl) (jA jL (jA (jJC (yF hK (jB (i:=1) rfl (.inl rfl) rfl rfl) jL (fun _ _=>rfl)) (wN (qD (vO hK D.rm.u9) (yF hK (jB (i:=0) rfl (.inl rfl) rfl rfl) jL (fun _ _=>rfl)) (jK (jJ (by decide +kernel))) rfl))) jD rfl) rfl) rfl) rfl rfl rfl) rfl (.inl rfl))
 (jF (yV rfl (.inl rfl) rfl rfl (jQ (jA (jK (jJ (by decide +kernel))) (jA (jV F__law_put D.tk D.rm rfl (jA (jB (i:=4) rfl (.inl rfl) rfl rfl) (jA jL (jA (jJC (yF hK (jB (i:=1) rfl (.inl rfl) rfl rfl) jL (fun _ _=>rfl)) (wN (jAS (qD (vO hK D.rm.u9) (yF hK (jB (i:=1) rfl (.inl rfl) rfl rfl) jL (fun _ _=>rfl)) jL rfl) (wN (jOE (yF hK (jB (i:=0) rfl (.inl rfl) rfl rfl) jL (fun _ _=>rfl))))))) jD rfl) rfl) rfl) rfl rfl rfl) jD rfl) rfl)) rfl rfl rfl rfl rfl rfl)
 (jF (jW (jR (jBO hK D.rm.u9) (yF hK (jB (i:=0) rfl (.inl rfl) rfl rfl) jL (fun _ _=>rfl)) (jK (jJ (by decide +kernel))) rfl) (jH (yV rfl (.inl rfl) rfl rfl (jQ (jA (jK (jJ (by decide +kernel))) (jA (jV F__law_put D.tk D.rm rfl (jA (jB (i:=1) rfl (.inl rfl) rfl rfl) (jA jL (jA yL jD rfl) rfl) rfl) rfl rfl rfl) jD rfl) rfl)) rfl rfl rfl rfl rfl rfl)) jU)
 (jF (jW (uP (qN (yM hK (yF hK (jB (i:=1) rfl (.inl rfl) rfl rfl) jL (fun _ _=>rfl)) (fun _=>rfl)) (qN (yM hK (yF hK (jB (i:=0) rfl (.inl rfl) rfl rfl) jL (fun _ _=>rfl)) (fun _=>rfl)) (jBU (yM hK (jV F__law_number_taken D.tk D.rm rfl (jA (jB (i:=0) rfl (.inl rfl) rfl rfl) (jA (yF hK (jB (i:=1) rfl (.inl rfl) rfl rfl) jL (fun _ _=>rfl)) (jA (yF hK (jB (i:=1) rfl (.inl rfl) rfl rfl) jL (fun _ _=>rfl)) jD rfl) rfl) rfl) rfl rfl rfl) (fun _=>rfl)))))) (jH (yV rfl (.inl rfl) rfl rfl (jQ (jA (jK (jJ (by decide +kernel))) (jA (vU (jR (vO hK D.rm.u9) (yF hK (jB (i:=1) rfl (.inl rfl) rfl rfl) jL (fun _ _=>rfl)) jL rfl) (jB (i:=3) rfl (.inl rfl) rfl rfl) (jV F__law_put D.tk D.rm rfl (jA (jB (i:=1) rfl (.inl rfl) rfl rfl) (jA jL (jA yL jD rfl) rfl) rfl) rfl rfl rfl)) jD rfl) rfl)) rfl rfl rfl rfl rfl rfl)) jU)
 (jH (jCL (i:=2) rfl (.inl rfl) rfl rfl))))))))
theorem jYR
  (D:Bdy (cxOf (L2.CX P w) P w K mg base jIK "_law_steps" (defScope zX) f cdv A outer s H E) E k)  (F__law_drop_steps:Fn P w K mg base B k "_law_drop_steps" 3 qK) (F__law_landed_steps:Fn P w K mg base B k "_law_landed_steps" 2 wI) (F__law_return_steps:Fn P w K mg base B k "_law_return_steps" 2 wG) (F__law_number_steps:Fn P w K mg base B k "_law_number_steps" 3 wH) :
  SimSs (cxOf (L2.CX P w) P w K mg base jIK "_law_steps" (defScope zX) f cdv A outer s H E) B N (fun c d _ H=>E c d H) (defBody zX) (jNB) :=
 (jF (jW (jR (vO hK D.rm.u9) (jB (i:=2) rfl (.inr (.inl rfl)) rfl rfl) (jQ (jA (jK (jJ (by decide +kernel))) jD rfl)) rfl) (jH (jZ (yW jD))) jU)
 (jF (jW (jR (jDR hK D.rm.u9) (jB (i:=1) rfl (.inl rfl) rfl rfl) (yW (jA (jK (jJ (by decide +kernel))) (jA (jK (jJ (by decide +kernel))) jD rfl) rfl)) rfl) (jH (yC jUQ.nd rfl (.inl rfl) (jV F__law_drop_steps D.tk D.rm rfl (jA (jB (i:=0) rfl (.inl rfl) rfl rfl) (jA (jB (i:=1) rfl (.inl rfl) rfl rfl) (jA (jB (i:=2) rfl (.inr (.inl rfl)) rfl rfl) jD rfl) rfl) rfl) rfl rfl rfl) rfl (.inl rfl))) (jH (jW (jR (vO hK D.rm.u9) (jB (i:=1) rfl (.inl rfl) rfl rfl) (jK (jJ (by decide +kernel))) rfl) (jH (yC jUQ.nd rfl (.inl rfl) (jV F__law_landed_steps D.tk D.rm rfl (jA (jB (i:=0) rfl (.inl rfl) rfl rfl) (jA (jB (i:=2) rfl (.inr (.inl rfl)) rfl rfl) jD rfl) rfl) rfl rfl rfl) rfl (.inl rfl))) (jH (jW (jR (vO hK D.rm.u9) (jB (i:=1) rfl (.inl rfl) rfl rfl) (jK (jJ (by decide +kernel))) rfl) (jH (yC jUQ.nd rfl (.inl rfl) (jV F__law_return_steps D.tk D.rm rfl (jA (jB (i:=0) rfl (.inl rfl) rfl rfl) (jA (jB (i:=2) rfl (.inr (.inl rfl)) rfl rfl) jD rfl) rfl) rfl rfl rfl) rfl (.inl rfl))) (jH (yC jUQ.nd rfl (.inl rfl) (jV F__law_number_steps D.tk D.rm rfl (jA (jB (i:=0) rfl (.inl rfl) rfl rfl) (jA (jB (i:=1) rfl (.inl rfl) rfl rfl) (jA (jB (i:=2) rfl (.inr (.inl rfl)) rfl rfl) jD rfl) rfl) rfl) rfl rfl rfl) rfl (.inl rfl))))))))
 (jH (jZ (SimN.sh (jAJ (own:=[("_law_word", 4),("_law_late", 5)]) hK rfl jUQ.nd (uI hK (jB (i:=3) rfl (.inl rfl) rfl rfl)) (jAG (by kernel_rfl)) (by decide) (fun _ _ _ _ _=>(jFY rfl (yI (yX (pg_name jUQ.nd rfl (.inl rfl) (.inr rfl))) (yI (yX (pg_name jUQ.nd rfl (.inl rfl) (.inr rfl))) qO rfl) rfl) rfl rfl)) (fun _ _ _ _ _=>(jEI (jR (jBO hK D.rm.u9) (jB (i:=5) rfl (.inl rfl) rfl rfl) (jB (i:=2) rfl (.inr (.inl rfl)) rfl rfl) rfl))) (fun _ _ _ _ _=>(jQ (jA (jB (i:=4) rfl (.inl rfl) rfl rfl) (jA (jB (i:=5) rfl (.inl rfl) rfl rfl) jD rfl) rfl))) (fun _=>rfl)))))))
theorem jYS
  (D:Bdy (cxOf (L2.CX P w) P w K mg base jIL "_law_first" (defScope zY) f cdv A outer s H E) E k)  (F__law_wishes:Fn P w K mg base B k "_law_wishes" 0 uY) :
  SimSs (cxOf (L2.CX P w) P w K mg base jIL "_law_first" (defScope zY) f cdv A outer s H E) B N (fun c d _ H=>E c d H) (defBody zY) (jNC) :=
 (jF (jW (jR (vO hK D.rm.u9) (jB (i:=0) rfl (.inl rfl) rfl rfl) (jK (jJ (by decide +kernel))) rfl) (jH (jZ (jQ (jA jL (jA yL (jA yL (jA yL jD rfl) rfl) rfl) rfl)))) jU)
 (jH (jZ (jCC hK (jQ (jA yL jD rfl)) (yF hK (yW (jA jL (jA jL (jA jL (jA jL (jA jL (jA jL jD rfl) rfl) rfl) rfl) rfl) rfl)) (yEN hK D.rm.u9 (jLZ F__law_wishes D.tk D.rm rfl rfl) (jA (jB (i:=0) rfl (.inl rfl) rfl rfl) jD rfl) rfl rfl rfl rfl rfl) (fun _ _=>rfl))))))
theorem jUG
  (D:Bdy (cxOf (L2.CX P w) P w K mg base jFU "_law_reached" (defScope uN) f cdv A outer s H E) E k)  (F__law_first:Fn P w K mg base B k "_law_first" 1 jAX) (F__law_steps:Fn P w K mg base B k "_law_steps" 3 jAW) :
  SimSs (cxOf (L2.CX P w) P w K mg base jFU "_law_reached" (defScope uN) f cdv A outer s H E) B N (fun c d _ H=>E c d H) (defBody uN) (jFW) :=
 (jF (jVU (i:=2) (j:=3) rfl jRD.nd rfl rfl (by decide) rfl rfl (wC (jA (jQ (jA (jV F__law_first D.tk D.rm rfl (jA (jB (i:=1) rfl (.inl rfl) rfl rfl) jD rfl) rfl rfl rfl) (jA jL jD rfl) rfl)) jD rfl)) jL rfl rfl rfl rfl)
 (jF (jTG 200 D.pa (jR (yIG hK D.rm.u9) (jB (i:=3) rfl (.inl rfl) rfl rfl) (yP (bi_len hK) rfl g.n_len (jA (jB (i:=2) rfl (.inl rfl) rfl rfl) jD rfl) (by decide) rfl rfl rfl) rfl) (jF (jFC hK (yF hK (jB (i:=2) rfl (.inl rfl) rfl rfl) (jB (i:=3) rfl (.inl rfl) rfl rfl) (fun _ _=>rfl)) (jFY rfl (yI (yX (pg_name jRD.nd rfl (.inl rfl) (.inl rfl))) (yI (yX (pg_name jRD.nd rfl (.inl rfl) (.inl rfl))) qO rfl) rfl) rfl rfl) rfl rfl rfl)
 (jF (jBP D.pa hK rfl (uI hK (jV F__law_steps D.tk D.rm rfl (jA (jB (i:=0) rfl (.inl rfl) rfl rfl) (jA (jB (i:=1) rfl (.inl rfl) rfl rfl) (jA (jB (i:=4) rfl (.inl rfl) rfl rfl) jD rfl) rfl) rfl) rfl rfl rfl)) (jFY rfl (yI (yX (pg_name jRD.nd rfl (.inl rfl) (.inl rfl))) (yI (yX (pg_name jRD.nd rfl (.inl rfl) (.inl rfl))) qO rfl) rfl) rfl rfl) (fun _=>(jH (jW (jR (jPN hK D.rm.u9) (jB (i:=7) rfl (.inl rfl) rfl rfl) (SimN.sh (jAJ (own:=[("_law_one", 8),("_law_many", 9)]) hK rfl jRD.nd (uI hK (jB (i:=2) rfl (.inl rfl) rfl rfl)) (jAG (by kernel_rfl)) (by decide) (fun _ _ _ _ _=>(jFY rfl (yI (yX (pg_name jRD.nd rfl (.inl rfl) (.inr rfl))) (yI (yX (pg_name jRD.nd rfl (.inl rfl) (.inr rfl))) qO rfl) rfl) rfl rfl)) (fun _ _ _ _ _=>wU) (fun _ _ _ _ _=>(jB (i:=8) rfl (.inl rfl) rfl rfl)) (fun _=>rfl))) rfl) (jH (yV rfl (.inl rfl) rfl rfl (jQ (jA (jB (i:=7) rfl (.inl rfl) rfl rfl) (jA (uE hK (jB (i:=5) rfl (.inl rfl) rfl rfl) jL) jD rfl) rfl)) rfl rfl rfl rfl rfl rfl)) jU))) (fun _=>rfl))
 (jH (yC jRD.nd rfl (.inl rfl) (uE hK (jB (i:=3) rfl (.inl rfl) rfl rfl) jL) rfl (.inl rfl))))))
 (jH (jCL (i:=2) rfl (.inl rfl) rfl rfl))))
theorem jVE
  (D:Bdy (cxOf (L2.CX P w) P w K mg base jHM "_law_fewest" (defScope zF) f cdv A outer s H E) E k)  (F__law_reached:Fn P w K mg base B k "_law_reached" 2 wF) :
  SimSs (cxOf (L2.CX P w) P w K mg base jHM "_law_fewest" (defScope zF) f cdv A outer s H E) B N (fun c d _ H=>E c d H) (defBody zF) (jHP) :=
 (jF (yCW (own:=[("_law_stand", 3),("_law_size", 4)]) hK rfl jTV.nd rfl rfl rfl (uI hK (jV F__law_reached D.tk D.rm rfl (jA (jB (i:=0) rfl (.inl rfl) rfl rfl) (jA (jB (i:=1) rfl (.inl rfl) rfl rfl) jD rfl) rfl) rfl rfl rfl)) (jAG (by kernel_rfl)) (by decide) (fun _ _ _ _ _=>(jFY rfl (yI (yX (pg_name jTV.nd rfl (.inl rfl) (.inr rfl))) (yI (yX (pg_name jTV.nd rfl (.inl rfl) (.inr rfl))) qO rfl) rfl) rfl rfl)) (fun _ _ _ _ _=>(jEI (jR (vO hK D.rm.u9) (jB (i:=3) rfl (.inl rfl) rfl rfl) (jQ (jA (jK (jJ (by decide +kernel))) jD rfl)) rfl))) (fun _ _ _ _ _=>(jB (i:=4) rfl (.inl rfl) rfl rfl)) (fun _=>rfl))
 (jH (jZ (vU (jR (jBO hK D.rm.u9) (jB (i:=2) rfl (.inl rfl) rfl rfl) (yW jD) rfl) (yF hK (jB (i:=2) rfl (.inl rfl) rfl rfl) jL (fun _ _=>rfl)) jAR))))
theorem jNV
  (D:Bdy (cxOf (L2.CX P w) P w K mg base jDT "_law_mended_spec" (defScope vJ) f cdv A outer s H E) E k)   :
  SimSs (cxOf (L2.CX P w) P w K mg base jDT "_law_mended_spec" (defScope vJ) f cdv A outer s H E) B N (fun c d _ H=>E c d H) (defBody vJ) (jDV) :=
 (jF (jFC hK (jB (i:=0) rfl (.inl rfl) rfl rfl) (jFY rfl (yI (yX (pg_name jMK.nd rfl (.inl rfl) (.inl rfl))) (yI (yX (pg_name jMK.nd rfl (.inl rfl) (.inl rfl))) (yI (yX (pg_name jMK.nd rfl (.inl rfl) (.inl rfl))) (yI (yX (pg_name jMK.nd rfl (.inl rfl) (.inl rfl))) (yI (yX (pg_name jMK.nd rfl (.inl rfl) (.inl rfl))) qO rfl) rfl) rfl) rfl) rfl) rfl rfl) rfl rfl rfl)
 (jF (yC jMK.nd rfl (.inl rfl) (vU (uP (qN (jR (jDR hK D.rm.u9) (jK (jJ (by decide +kernel))) (jB (i:=1) rfl (.inl rfl) rfl rfl) rfl) (jBU (jR (vO hK D.rm.u9) (jB (i:=6) rfl (.inl rfl) rfl rfl) (jK (jJ (by decide +kernel))) rfl)))) (jK (jJ (by decide +kernel))) (jB (i:=6) rfl (.inl rfl) rfl rfl)) rfl (.inl rfl))
 (jF (yC jMK.nd rfl (.inl rfl) (vU (jR (jDR hK D.rm.u9) (jK (jJ (by decide +kernel))) (jB (i:=1) rfl (.inl rfl) rfl rfl) rfl) (jK (jJ (by decide +kernel))) (jB (i:=6) rfl (.inl rfl) rfl rfl)) rfl (.inl rfl))
 (jF (yC jMK.nd rfl (.inl rfl) (vU (jR (jDR hK D.rm.u9) (jK (jJ (by decide +kernel))) (jB (i:=1) rfl (.inl rfl) rfl rfl) rfl) (jK (jJ (by decide +kernel))) (jB (i:=2) rfl (.inl rfl) rfl rfl)) rfl (.inl rfl))
 (jF (yC jMK.nd rfl (.inl rfl) (vU (jR (jDR hK D.rm.u9) (jK (jJ (by decide +kernel))) (jB (i:=1) rfl (.inl rfl) rfl rfl) rfl) (jK (jJ (by decide +kernel))) (jB (i:=3) rfl (.inl rfl) rfl rfl)) rfl (.inl rfl))
 (jH (jZ (jQ (jA (jB (i:=2) rfl (.inl rfl) rfl rfl) (jA (jB (i:=3) rfl (.inl rfl) rfl rfl) (jA (jAS (jB (i:=4) rfl (.inl rfl) rfl rfl) (wN (qD (jPN hK D.rm.u9) (jK (jJ (by decide +kernel))) (jB (i:=1) rfl (.inl rfl) rfl rfl) rfl))) (jA (jJC (jB (i:=5) rfl (.inl rfl) rfl rfl) (wN (qD (jDR hK D.rm.u9) (jK (jJ (by decide +kernel))) (jB (i:=1) rfl (.inl rfl) rfl rfl) rfl))) (jA (jB (i:=6) rfl (.inl rfl) rfl rfl) jD rfl) rfl) rfl) rfl) rfl)))))))))
theorem jQD
  (D:Bdy (cxOf (L2.CX P w) P w K mg base jEV "_law_mend_sets" (defScope uB) f cdv A outer s H E) E k)   :
  SimSs (cxOf (L2.CX P w) P w K mg base jEV "_law_mend_sets" (defScope uB) f cdv A outer s H E) B N (fun c d _ H=>E c d H) (defBody uB) (jID) :=
 (jF (yC jPC.nd rfl (.inl rfl) (yW (jA (jK (jJ (by decide +kernel))) (jA (jK (jJ (by decide +kernel))) (jA (jK (jJ (by decide +kernel))) (jA (jK (jJ (by decide +kernel))) (jA (jK (jJ (by decide +kernel))) (jA (jK (jJ (by decide +kernel))) jD rfl) rfl) rfl) rfl) rfl) rfl)) rfl (.inl rfl))
 (jF (jSX (i:=1) (j:=2) rfl jPC.nd rfl rfl (by decide) rfl rfl (jA (yW (jA (jQ jD) jD rfl)) (jA (yW (jA (jQ jD) jD rfl)) jD rfl) rfl) rfl rfl)
 (jF (jBP D.pa hK rfl (jIP rfl g.n_range (jA jL jD rfl) rfl) (yX (pg_name jPC.nd rfl (.inl rfl) (.inl rfl))) (fun _=>(jF (yC jPC.nd rfl (.inl rfl) (yW jD) rfl (.inl rfl))
 (jF (jBP D.pa hK rfl (uI hK (jB (i:=2) rfl (.inl rfl) rfl rfl)) (yX (pg_name jPC.nd rfl (.inr rfl) (.inl rfl))) (fun _=>(jF (yC jPC.nd rfl (.inl rfl) (vU (jR (vO hK D.rm.u9) (jB (i:=5) rfl (.inr (.inl rfl)) rfl rfl) (jQ jD) rfl) jL (uE hK (yEN hK D.rm.u9 (jB (i:=0) rfl (.inl rfl) rfl rfl) (jA (yF hK (jB (i:=5) rfl (.inr (.inl rfl)) rfl rfl) (yQT jL) (fun _ _=>rfl)) jD rfl) rfl rfl rfl rfl rfl) jL)) rfl (.inl rfl))
 (jH (yC jPC.nd rfl (.inl rfl) (uE hK (jB (i:=4) rfl (.inl rfl) rfl rfl) (SimN.sh (jAJ (own:=[("_law_word", 7)]) hK rfl jPC.nd (uI hK (jJB hK (jB (i:=0) rfl (.inl rfl) rfl rfl) (jDI (jB (i:=6) rfl (.inl rfl) rfl rfl)) jDJ)) (jAG (by kernel_rfl)) (by decide) (fun _ _ _ _ _=>(yX (pg_name jPC.nd rfl (.inl rfl) (.inr rfl)))) (fun _ _ _ _ _=>wU) (fun _ _ _ _ _=>(uE hK (jB (i:=5) rfl (.inr (.inl rfl)) rfl rfl) (jQ (jA (jB (i:=7) rfl (.inl rfl) rfl rfl) jD rfl)))) (fun _=>rfl)))) rfl (.inl rfl))))) (fun _=>rfl))
 (jH (jSX (i:=1) (j:=2) rfl jPC.nd rfl rfl (by decide) rfl rfl (jA (uE hK (jB (i:=1) rfl (.inl rfl) rfl rfl) (jB (i:=4) rfl (.inl rfl) rfl rfl)) (jA (jB (i:=4) rfl (.inl rfl) rfl rfl) jD rfl) rfl) rfl rfl))))) (fun _=>rfl))
 (jH (jZ (jB (i:=1) rfl (.inl rfl) rfl rfl))))))
theorem jNW
  (D:Bdy (cxOf (L2.CX P w) P w K mg base jDU "_law_least_mends" (defScope vK) f cdv A outer s H E) E k)  (F__law_mend_sets:Fn P w K mg base B k "_law_mend_sets" 0 zK) (F__law_mended_spec:Fn P w K mg base B k "_law_mended_spec" 2 uG) (F__law_fewest:Fn P w K mg base B k "_law_fewest" 2 kY) :
  SimSs (cxOf (L2.CX P w) P w K mg base jDU "_law_least_mends" (defScope vK) f cdv A outer s H E) B N (fun c d _ H=>E c d H) (defBody vK) (jDW) :=
 (jF (jBV jML.nd rfl (.inl rfl) (wC jD) rfl (.inl rfl))
 (jF (jBP D.pa hK rfl (uI hK (jLZ F__law_mend_sets D.tk D.rm rfl rfl)) (yX (pg_name jML.nd rfl (.inr rfl) (.inl rfl))) (fun _=>(jH (jW (jR (vO hK D.rm.u9) (SimN.sh (jAJ (own:=[("_law_less", 5)]) hK rfl jML.nd (uI hK (jB (i:=2) rfl (.inl rfl) rfl rfl)) (jAG (by kernel_rfl)) (by decide) (fun _ _ _ _ _=>(yX (pg_name jML.nd rfl (.inl rfl) (.inr rfl)))) (fun _ _ _ _ _=>(jEI (jR (vO hK D.rm.u9) (SimN.sh (jAJ (own:=[("_law_word", 6)]) hK rfl jML.nd (uI hK (jB (i:=5) rfl (.inl rfl) rfl rfl)) (jAG (by kernel_rfl)) (by decide) (fun _ _ _ _ _=>(yX (pg_name jML.nd rfl (.inl rfl) (.inr rfl)))) (fun _ _ _ _ _=>(jEI (jR (jPN hK D.rm.u9) (jB (i:=6) rfl (.inl rfl) rfl rfl) (jB (i:=3) rfl (.inr (.inl rfl)) rfl rfl) rfl))) (fun _ _ _ _ _=>(jB (i:=6) rfl (.inl rfl) rfl rfl)) (fun _=>rfl))) (yW jD) rfl))) (fun _ _ _ _ _=>(jB (i:=5) rfl (.inl rfl) rfl rfl)) (fun _=>rfl))) (yW jD) rfl) (jF (yC jML.nd rfl (.inr rfl) (jV F__law_mended_spec D.tk D.rm rfl (jA (jB (i:=0) rfl (.inl rfl) rfl rfl) (jA (jB (i:=3) rfl (.inr (.inl rfl)) rfl rfl) jD rfl) rfl) rfl rfl rfl) rfl (.inl rfl))
 (jH (jW (jR (vO hK D.rm.u9) (SimN.sh (jAJ (own:=[("_law_wish", 7)]) hK rfl jML.nd (uI hK (jB (i:=1) rfl (.inl rfl) rfl rfl)) (jAG (by kernel_rfl)) (by decide) (fun _ _ _ _ _=>(yX (pg_name jML.nd rfl (.inl rfl) (.inr rfl)))) (fun _ _ _ _ _=>(jEI (jR (yTD) (jV F__law_fewest (jHX _) D.rm rfl (jA (jB (i:=4) rfl (.inr (.inl rfl)) rfl rfl) (jA (jB (i:=7) rfl (.inl rfl) rfl rfl) jD rfl) rfl) rfl rfl rfl) jAR rfl))) (fun _ _ _ _ _=>(jB (i:=7) rfl (.inl rfl) rfl rfl)) (fun _=>rfl))) (yW jD) rfl) (jH (yV rfl (.inl rfl) rfl rfl (jB (i:=3) rfl (.inr (.inl rfl)) rfl rfl) rfl rfl rfl rfl rfl rfl)) jU))) jU))) (fun _=>rfl))
 (jH (jCL (i:=2) rfl (.inl rfl) rfl rfl))))
theorem vEG
  (D:Bdy (cxOf (L2.CX P w) P w K mg base jXA "law" (defScope jGZ) f cdv A outer s H E) E k) (hxn:B.xn=none) {j:Nat} (hj:j+2≤k) (T_try:TryF P w K mg base B (j+1) "_law_try" okc jJH) (LT:LamT (cxOf (L2.CX P w) P w K mg base jXA "law" (defScope jGZ) f cdv A outer s H E) B) (F__law_open:Fn P w K mg base B k "_law_open" 1 jAU) (F__law_some_spec:Fn P w K mg base B k "_law_some_spec" 1 uU) (F__law_way:Fn P w K mg base B k "_law_way" 1 jCE) (F__law_draw:Fn P w K mg base B k "_law_draw" 2 vI) (F__law_of:Fn P w K mg base B k "_law_of" 2 uQ) (F__law_wishes:Fn P w K mg base B k "_law_wishes" 0 uY) (F__law_least_mends:Fn P w K mg base B k "_law_least_mends" 2 vR) (F_least_mends:Fn P w K mg base B k "least_mends" 2 yG) (F__law_like:Fn P w K mg base B k "_law_like" 2 zJ) (F_kept_wishes:Fn P w K mg base B k "kept_wishes" 1 kW) (F_mended:Fn P w K mg base B k "mended" 2 jBS) (K_least_mends_0_wishes_way:FnK P w K mg base B k "least_mends" 0 ["wishes", "way"] [1,0] 2 yG) (FL_least_mends:Fn P w K mg base B j "least_mends" 2 yG) (M_Way_0_:MkA P w K mg base B k "Way" yJ 0 [] [0,1,2,3,4,5] [.str "tttttttt", .str "tttt", .bl false,.bl false,.str "none"] 6 yD) (M_Way_0_stretches:MkA P w K mg base B k "Way" yJ 0 ["stretches"] [0,2,3,1,4,5] [.str "tttttttt", .str "tttt", .bl false,.str "none"] 6 yD) :
  SimSs (cxOf (L2.CX P w) P w K mg base jXA "law" (defScope jGZ) f cdv A outer s H E) B N (fun c d _ H=>E c d H) (defBody jGZ) (yCK) :=
 (jF (yC yZV.nd rfl (.inr rfl) (jV F__law_open D.tk D.rm rfl (jA (jB (i:=0) rfl (.inl rfl) rfl rfl) jD rfl) rfl rfl rfl) rfl (.inl rfl))
 (jF (jBP D.pa hK rfl (jIP rfl g.n_range (jA jL jD rfl) rfl) (yX (pg_name yZV.nd rfl (.inl rfl) (.inl rfl))) (fun _=>(jF (yC yZV.nd rfl (.inl rfl) (jV F__law_some_spec D.tk D.rm rfl (jA (jB (i:=1) rfl (.inr (.inl rfl)) rfl rfl) jD rfl) rfl rfl rfl) rfl (.inl rfl))
 (jF (yC yZV.nd rfl (.inr rfl) (jV F__law_way D.tk D.rm rfl (jA (jB (i:=3) rfl (.inl rfl) rfl rfl) jD rfl) rfl rfl rfl) rfl (.inl rfl))
 (jF (yC yZV.nd rfl (.inr rfl) (SimN.sh (jAJ (own:=[("_law_k", 13)]) hK rfl yZV.nd (jIP rfl g.n_range (jA (jV F__law_draw D.tk D.rm rfl (jA (jB (i:=1) rfl (.inr (.inl rfl)) rfl rfl) (jA jL jD rfl) rfl) rfl rfl rfl) jD rfl) rfl) (jAG (by kernel_rfl)) (by decide) (fun _ _ _ _ _=>(yX (pg_name yZV.nd rfl (.inl rfl) (.inr rfl)))) (fun _ _ _ _ _=>wU) (fun _ _ _ _ _=>(jV F__law_of (jHX _) D.rm rfl (jA (jB (i:=1) rfl (.inr (.inl rfl)) rfl rfl) (jA (jLZ F__law_wishes (jHX _) D.rm rfl rfl) jD rfl) rfl) rfl rfl rfl)) (fun _=>rfl))) rfl (.inl rfl))
 (jF (jSX (i:=6) (j:=7) rfl yZV.nd rfl rfl (by decide) rfl rfl (jA (yP (yFM hK) rfl g.n_list (jA (jB (i:=5) rfl (.inr (.inl rfl)) rfl rfl) jD rfl) (by decide) rfl rfl rfl) (jA (jV F__law_least_mends D.tk D.rm rfl (jA (jB (i:=3) rfl (.inl rfl) rfl rfl) (jA (jB (i:=5) rfl (.inr (.inl rfl)) rfl rfl) jD rfl) rfl) rfl rfl rfl) jD rfl) rfl) rfl rfl)
 (jF (yC yZV.nd rfl (.inl rfl) (jLS (wC (jA (jV F_least_mends D.tk D.rm rfl (jA (jB (i:=4) rfl (.inr (.inl rfl)) rfl rfl) (jA (jB (i:=6) rfl (.inl rfl) rfl rfl) jD rfl) rfl) rfl rfl rfl) (jA (yCY K_least_mends_0_wishes_way D.tk D.rm rfl (wV (yP (yAQ hK) rfl g.n_tuple (jA (jB (i:=5) rfl (.inr (.inl rfl)) rfl rfl) jD rfl) (by decide) rfl rfl rfl) (wV (jB (i:=4) rfl (.inr (.inl rfl)) rfl rfl) qH)) rfl rfl rfl rfl rfl) jD rfl) rfl))) rfl (.inl rfl))
 (jF (jW (uP (jGC (wQ (yM hK (jV F__law_like D.tk D.rm rfl (jA (jB (i:=8) rfl (.inl rfl) rfl rfl) (jA (yW (jA (jB (i:=7) rfl (.inl rfl) rfl rfl) (jA (jB (i:=7) rfl (.inl rfl) rfl rfl) jD rfl) rfl)) jD rfl) rfl) rfl rfl rfl) (fun _=>rfl))) (jFK (jR (jBO hK D.rm.u9) (jB (i:=6) rfl (.inl rfl) rfl rfl) (jB (i:=5) rfl (.inr (.inl rfl)) rfl rfl) rfl)))) (jH (jZ yL)) jU)
 (jF (jFB (jOO (yF hK (jB (i:=8) rfl (.inl rfl) rfl rfl) jL (fun _ _=>rfl)) jAR rfl rfl rfl rfl rfl) rfl)
 (jF (jBP D.pa hK rfl (uI hK (jB (i:=7) rfl (.inl rfl) rfl rfl)) (yX (pg_name yZV.nd rfl (.inl rfl) (.inl rfl))) (fun _=>(jF (yC yZV.nd rfl (.inr rfl) (yCD (jV F_kept_wishes D.tk D.rm rfl (jA (jV F_mended D.tk D.rm rfl (jA (jB (i:=4) rfl (.inr (.inl rfl)) rfl rfl) (jA (jB (i:=9) rfl (.inl rfl) rfl rfl) jD rfl) rfl) rfl rfl rfl) jD rfl) rfl rfl rfl)) rfl (.inl rfl))
 (jH (jW (jR (jBO hK D.rm.u9) (SimN.sh (jAJ (own:=[("_law_wish", 14)]) hK rfl yZV.nd (uI hK (jB (i:=5) rfl (.inr (.inl rfl)) rfl rfl)) (jAG (by kernel_rfl)) (by decide) (fun _ _ _ _ _=>(yX (pg_name yZV.nd rfl (.inl rfl) (.inr rfl)))) (fun _ _ _ _ _=>(jEI (jR (jPN hK D.rm.u9) (jB (i:=14) rfl (.inl rfl) rfl rfl) (jB (i:=10) rfl (.inr (.inl rfl)) rfl rfl) rfl))) (fun _ _ _ _ _=>(jB (i:=14) rfl (.inl rfl) rfl rfl)) (fun _=>rfl))) (yW jD) rfl) (jH (jZ yL)) jU)))) (fun _=>rfl))
 (jF (jFC hK (jQ (jA (jV F__law_draw D.tk D.rm rfl (jA (jB (i:=1) rfl (.inr (.inl rfl)) rfl rfl) (jA (uE hK (yP (bi_len hK) rfl g.n_len (jA (jB (i:=5) rfl (.inr (.inl rfl)) rfl rfl) jD rfl) (by decide) rfl rfl rfl) jL) jD rfl) rfl) rfl rfl rfl) (jA (jV F__law_of D.tk D.rm rfl (jA (jB (i:=1) rfl (.inr (.inl rfl)) rfl rfl) (jA (yW (jA jAR (jA jL (jA (jK (jJ (by decide +kernel))) (jA (jK (jJ (by decide +kernel))) (jA (jQ (jA (jK (jJ (by decide +kernel))) jD rfl)) (jA (yW (jA (jK (jJ (by decide +kernel))) jD rfl)) jD rfl) rfl) rfl) rfl) rfl) rfl)) jD rfl) rfl) rfl rfl rfl) jD rfl) rfl)) (jFY rfl (yI (yX (pg_name yZV.nd rfl (.inr rfl) (.inl rfl))) (yI (yX (pg_name yZV.nd rfl (.inr rfl) (.inl rfl))) qO rfl) rfl) rfl rfl) rfl rfl rfl)
 (jH (jW (wQ (yM hK (jV F__law_like D.tk D.rm rfl (jA (yQR T_try hxn LT (D.rm.mono (by omega)) rfl (lamS_by (by kernel_rfl)) rfl (fun _ _ _ _ _=>rfl) (fun _ _ _ _ _ _ _ hrL tkL=>(yCD (jV FL_least_mends tkL hrL rfl (jA (jB (i:=4) rfl (.inr (.inr rfl)) rfl rfl) (jA (uE hK (uE hK (jJB hK (jB (i:=5) rfl (.inr (.inr rfl)) rfl rfl) jDJ (jDI (jB (i:=11) rfl (.inr (.inr rfl)) rfl rfl))) (yW (jA (jB (i:=12) rfl (.inr (.inr rfl)) rfl rfl) (jA (jK (jJ (by decide +kernel))) jD rfl) rfl))) (jJB hK (jB (i:=5) rfl (.inr (.inr rfl)) rfl rfl) (jDI (jB (i:=11) rfl (.inr (.inr rfl)) rfl rfl)) jDJ)) jD rfl) rfl) rfl rfl rfl))) (Nat.le_refl _)) (jA (jQ (jA (jK (jJ (by decide +kernel))) (jA (jB (i:=12) rfl (.inr (.inl rfl)) rfl rfl) jD rfl) rfl)) jD rfl) rfl) rfl rfl rfl) (fun _=>rfl))) (jH (jZ yL)) jU)))))))))))) (fun _=>rfl))
 (jF (yC yZV.nd rfl (.inl rfl) (jLS (wC (jA (jV F_least_mends D.tk D.rm rfl (jA (jON M_Way_0_ D.tk D.rm rfl qH rfl rfl rfl rfl rfl) (jA (yW jD) jD rfl) rfl) rfl rfl rfl) (jA (jV F_least_mends D.tk D.rm rfl (jA (jON M_Way_0_ D.tk D.rm rfl qH rfl rfl rfl rfl rfl) (jA (yW (jA (jK (jJ (by decide +kernel))) jD rfl)) jD rfl) rfl) rfl rfl rfl) (jA (jV F_least_mends D.tk D.rm rfl (jA (jON M_Way_0_ D.tk D.rm rfl qH rfl rfl rfl rfl rfl) (jA (yW (jA (jK (jJ (by decide +kernel))) jD rfl)) jD rfl) rfl) rfl rfl rfl) jD rfl) rfl) rfl))) rfl (.inl rfl))
 (jF (jFB (jOO (jB (i:=8) rfl (.inl rfl) rfl rfl) (yCD (jV F_least_mends D.tk D.rm rfl (jA (jON M_Way_0_stretches D.tk D.rm rfl (wV yL qH) rfl rfl rfl rfl rfl) (jA (yW (jA (jK (jJ (by decide +kernel))) jD rfl)) jD rfl) rfl) rfl rfl rfl)) rfl rfl rfl rfl rfl) rfl)
 (jF (yC yZV.nd rfl (.inl rfl) (yW (jA (yW (jA (jQ jD) jD rfl)) (jA (yW (jA (jQ (jA (jK (jJ (by decide +kernel))) jD rfl)) jD rfl)) (jA (yW (jA (jQ (jA (jK (jJ (by decide +kernel))) jD rfl)) (jA (jQ (jA (jK (jJ (by decide +kernel))) jD rfl)) jD rfl) rfl)) (jA (yW (jA (jQ (jA (jK (jJ (by decide +kernel))) jD rfl)) (jA (jQ (jA (jK (jJ (by decide +kernel))) jD rfl)) (jA (jQ (jA (jK (jJ (by decide +kernel))) jD rfl)) (jA (jQ (jA (jK (jJ (by decide +kernel))) jD rfl)) jD rfl) rfl) rfl) rfl)) jD rfl) rfl) rfl) rfl)) rfl (.inl rfl))
 (jH (jZ (jV F__law_like D.tk D.rm rfl (jA (jB (i:=8) rfl (.inl rfl) rfl rfl) (jA (jB (i:=7) rfl (.inl rfl) rfl rfl) jD rfl) rfl) rfl rfl rfl))))))))
end
end LW
set_option maxHeartbeats 4000000
namespace Lp
open PySem PySem.Spec PyProof.Rows L2
abbrev RunF (r:PySem.W.OpenRow) (as:List Addr) (fa:List FactL) (M:Nat) (w:World):Prop:=RunP r (fun s=>fa.all fun f=>f (frA as s) (tbA as s)) true M w
abbrev RunD (r:PySem.W.OpenRow) (as:List Addr) (fn:List DefL) (M:Nat) (w:World):Prop:=RunP r (fun s=>(fn.all fun d=>d.ok (frA as s),fn.map fun d=>fnL (frA as s) (d.at_ (frA as s)))) (true,fn.map DefL.val) M w
abbrev RunT (r:PySem.W.OpenRow) (as:List Addr) (ts:List He.Tab) (M:Nat) (w:World):Prop:=RunP r (fun s=>ts.map fun t=>He.dicW (frA as s) (t.1 (frA as s))) (ts.map fun t=>some (He.keysIn w.params t.2)) M w
theorem yKJ {r:PySem.W.OpenRow} {as:List Addr} {fa:List FactL} {fn:List DefL} {ts:List He.Tab} {M:Nat} {w:World} (n:Nat) (h1:RunF r as (fa.take n) M w) (h2:RunF r as (fa.drop n) M w) (h3:RunD r as fn M w) (h4:RunT r as ts M w) :
  RunO r (hookA as fa fn ts) (fun s=>obsAG as fa fn ts (HandSHeadRun.getT s)) M w:=by
 intro os
 have h1:=h1 os
 have h2:=h2 os
 have h3:=h3 os
 have h4:=h4 os
 cases e:HandSHeadRun.endF (HandSHeadRun.stepQ (HandSHeadRun.denQ HandSHeadRun.tabQ) r.prog w) M r.prog w os with
 | none=>rw [e] at h1; cases h1
 | some s =>
  rw [e] at h1 h2 h3 h4
  injection h1 with h1
  injection h2 with h2
  injection h3 with h3
  injection h4 with h4
  injection h3 with h3 h5
  have h1:((fa.take n).all fun f=>f (frA as s) (tbA as s))=true:=h1
  have h2:((fa.drop n).all fun f=>f (frA as s) (tbA as s))=true:=h2
  have h4:(ts.map fun t=>He.dicW (frA as s) (t.1 (frA as s)))=ts.map fun t=>some (He.keysIn w.params t.2):=h4
  show some (yTV fa fn ts (HandSHeadRun.getT s) as)=some (yMF fn ts w)
  have ea:(fa.all fun f=>f (frA as s) (tbA as s))=true:=by
   rw [← List.take_append_drop n fa,List.all_append,h1,h2]; rfl
  show some ((((fa.all fun f=>f (frA as s) (tbA as s))&&fn.all fun d=>d.ok (frA as s),fn.map fun d=>fnL (frA as s) (d.at_ (frA as s))),ts.map fun t=>He.dicW (frA as s) (t.1 (frA as s))))=some ((true,fn.map DefL.val),ts.map fun t=>some (He.keysIn w.params t.2))
  rw [ea,h3,h5,h4]; rfl
theorem jXB {σ α β:Type} {o:Option σ} {f:σ→α} {g:σ→β} {a:α} {b:β} (h:o.map (fun s=>(f s,g s))=some (a,b)):o.map f=some a:=by
 cases o with
 | none=>cases h
 | some s =>
  injection h with h
  injection h with h1 h2
  exact congrArg some h1
theorem jWW {σ α β:Type} {o:Option σ} {f:σ→α} {g:σ→β} {a:α} {b:β} (h:o.map (fun s=>(f s,g s))=some (a,b)):o.map g=some b:=by
 cases o with
 | none=>cases h
 | some s =>
  injection h with h
  injection h with h1 h2
  exact congrArg some h2
end Lp
set_option maxHeartbeats 4000000
set_option maxHeartbeats 4000000
namespace Lp
open PySem PySem.Spec PyProof.Rows L2
theorem yKK {r:PySem.W.OpenRow} {as:List Addr} {fa:List FactL} {M:Nat} {w:World} (h:RunF r as fa M w):RunF r as (fa.take 0) M w:=by
 intro os
 have h:=h os
 cases e:HandSHeadRun.endF (HandSHeadRun.stepQ (HandSHeadRun.denQ HandSHeadRun.tabQ) r.prog w) M r.prog w os with
 | none=>rw [e] at h; cases h
 | some s=>rfl
theorem yET {r:PySem.W.OpenRow} {q:Program} {loose:List PySem.Str} {as:List Addr} {fa:List FactL} {fn:List DefL} {ts:List He.Tab} {M:Nat} {w:World} (hA:RunAB2 r q as fa loose M w) (hC:RunC3 r as fn ts M w) :
  HandSHeadRun.RunEq r q (hookA as fa fn ts) (fun s=>obsAG as fa fn ts (HandSHeadRun.getT s)) M loose w :=
 yGP (yGQ (fun os=>jXB (jXB (hA os))) fun os=>jWW (jXB (hA os))) (yKJ 0 (yKK fun os=>jWW (hA os)) (fun os=>jWW (hA os)) (fun os=>jXB (hC os)) fun os=>jWW (hC os))
end Lp
set_option maxHeartbeats 0
namespace LW
open PySem PySem.Spec PyProof.Rows L2 Lp LamX NdefX
theorem yDK {P:Program} {w:World} {K:PySem.W.Frag} {mg:Str→Option Value} {base:Heap} {B:Bs} (hK:K=B.K) (hw:w=B.w) (g:Gm mg) (κ:Km w K B mg) {fa:Addr} {fd:FuncData} {dvs:List V} {kws:List (Str × V)} (F:FunD K "is_wish" "is_wish" (defArgs jBA) (defBody jBA) (defScope jBA) dvs kws fa fd)  : FnOk P w K mg base (L2.CX P w) 1 fa fd ["value"] (spF B 1 jGP):=by
 unfold jGP
 exact fn_ok F yDA rfl rfl fun _ _ _ _ _ _ _ D=>yHK hK hw g κ D
theorem jUW {P:Program} {w:World} {K:PySem.W.Frag} {mg:Str→Option Value} {base:Heap} {B:Bs} (hK:K=B.K) (hw:w=B.w) (g:Gm mg) (κ:Km w K B mg) {fa:Addr} {fd:FuncData} {dvs:List V} {kws:List (Str × V)} (F:FunD K "check_wish" "check_wish" (defArgs zW) (defBody zW) (defScope zW) dvs kws fa fd) (F_is_wish:Fn P w K mg base B 2 "is_wish" 1 jGP) (X_InvalidWish:ExcA P w K mg base B 2 "InvalidWish" 2 1 jDB):FnOk P w K mg base (L2.CX P w) 3 fa fd ["wish"] (spF B 1 uF):=by
 unfold uF
 exact fn_ok F jUP rfl rfl fun _ _ _ _ _ _ _ D=>jYQ hK hw g κ D F_is_wish X_InvalidWish
theorem jTZ {P:Program} {w:World} {K:PySem.W.Frag} {mg:Str→Option Value} {base:Heap} {B:Bs} (hK:K=B.K) (hw:w=B.w) (g:Gm mg) (κ:Km w K B mg) {fa:Addr} {fd:FuncData} {dvs:List V} {kws:List (Str × V)} (F:FunD K "first_stand" "first_stand" (defArgs zB) (defBody zB) (defScope zB) dvs kws fa fd) (F_check_wish:Fn P w K mg base B 3 "check_wish" 1 uF):FnOk P w K mg base (L2.CX P w) 4 fa fd ["wish"] (spF B 1 jAB):=by
 unfold jAB
 exact fn_ok F jTT rfl rfl fun _ _ _ _ _ _ _ D=>jVC hK hw g κ D F_check_wish
theorem yBH {P:Program} {w:World} {K:PySem.W.Frag} {mg:Str→Option Value} {base:Heap} {B:Bs} (hK:K=B.K) (hw:w=B.w) (g:Gm mg) (κ:Km w K B mg) {fa:Addr} {fd:FuncData} {dvs:List V} {kws:List (Str × V)} (F:FunD K "is_stand" "is_stand" (defArgs qY) (defBody qY) (defScope qY) dvs kws fa fd) (F_check_wish:Fn P w K mg base B 3 "check_wish" 1 uF):FnOk P w K mg base (L2.CX P w) 4 fa fd ["wish", "value"] (spF B 2 jFD):=by
 unfold jFD
 exact fn_ok F yAX rfl rfl fun _ _ _ _ _ _ _ D=>yDR hK hw g κ D F_check_wish
theorem jNU {P:Program} {w:World} {K:PySem.W.Frag} {mg:Str→Option Value} {base:Heap} {B:Bs} (hK:K=B.K) (hw:w=B.w) (g:Gm mg) (κ:Km w K B mg) {fa:Addr} {fd:FuncData} {dvs:List V} {kws:List (Str × V)} (F:FunD K "drop_answer" "Way.drop_answer" (defArgs vQ) (defBody vQ) (defScope vQ) dvs kws fa fd)  : FnOk P w K mg base (L2.CX P w) 1 fa fd ["self", "elder", "again", "apart"] (spF B 4 qL):=by
 unfold qL
 exact fn_ok F jNS rfl rfl fun _ _ _ _ _ _ _ D=>jPG hK hw g κ D
theorem jUV {P:Program} {w:World} {K:PySem.W.Frag} {mg:Str→Option Value} {base:Heap} {B:Bs} (hK:K=B.K) (hw:w=B.w) (g:Gm mg) (κ:Km w K B mg) {fa:Addr} {fd:FuncData} {dvs:List V} {kws:List (Str × V)} (F:FunD K "drop_steps" "drop_steps" (defArgs zV) (defBody zV) (defScope zV) dvs kws fa fd) (E_Way_drop_answer_3_:MeA P w K mg base B 1 yJ "drop_answer" 3 [] [0,1,2,3] [] 4 qL):FnOk P w K mg base (L2.CX P w) 2 fa fd ["way", "wish", "stand"] (spF B 3 jDM):=by
 unfold jDM
 exact fn_ok F jUO rfl rfl fun _ _ _ _ _ _ _ D=>jYP hK hw g κ D E_Way_drop_answer_3_
theorem jLQ {P:Program} {w:World} {K:PySem.W.Frag} {mg:Str→Option Value} {base:Heap} {B:Bs} (hK:K=B.K) (hw:w=B.w) (g:Gm mg) (κ:Km w K B mg) {fa:Addr} {fd:FuncData} {dvs:List V} {kws:List (Str × V)} (F:FunD K "number_answer" "Way.number_answer" (defArgs vH) (defBody vH) (defScope vH) dvs kws fa fd)  : FnOk P w K mg base (L2.CX P w) 1 fa fd ["self", "elder", "dropped"] (spF B 3 yU):=by
 unfold yU
 exact fn_ok F jLL rfl rfl fun _ _ _ _ _ _ _ D=>jMS hK hw g κ D
theorem jRI {P:Program} {w:World} {K:PySem.W.Frag} {mg:Str→Option Value} {base:Heap} {B:Bs} (hK:K=B.K) (hw:w=B.w) (g:Gm mg) (κ:Km w K B mg) {fa:Addr} {fd:FuncData} {dvs:List V} {kws:List (Str × V)} (F:FunD K "number_steps" "number_steps" (defArgs uL) (defBody uL) (defScope uL) dvs kws fa fd) (E_Way_number_answer_2_:MeA P w K mg base B 1 yJ "number_answer" 2 [] [0,1,2] [] 3 yU):FnOk P w K mg base (L2.CX P w) 2 fa fd ["way", "wish", "stand"] (spF B 3 jBY):=by
 unfold jBY
 exact fn_ok F jRB rfl rfl fun _ _ _ _ _ _ _ D=>jUE hK hw g κ D E_Way_number_answer_2_
theorem jRJ {P:Program} {w:World} {K:PySem.W.Frag} {mg:Str→Option Value} {base:Heap} {B:Bs} (hK:K=B.K) (hw:w=B.w) (g:Gm mg) (κ:Km w K B mg) {fa:Addr} {fd:FuncData} {dvs:List V} {kws:List (Str × V)} (F:FunD K "landed_steps" "landed_steps" (defArgs uM) (defBody uM) (defScope uM) dvs kws fa fd) (E_Way_number_answer_2_:MeA P w K mg base B 1 yJ "number_answer" 2 [] [0,1,2] [] 3 yU):FnOk P w K mg base (L2.CX P w) 2 fa fd ["way", "stand"] (spF B 2 jBZ):=by
 unfold jBZ
 exact fn_ok F jRC rfl rfl fun _ _ _ _ _ _ _ D=>jUF hK hw g κ D E_Way_number_answer_2_
theorem jRH {P:Program} {w:World} {K:PySem.W.Frag} {mg:Str→Option Value} {base:Heap} {B:Bs} (hK:K=B.K) (hw:w=B.w) (g:Gm mg) (κ:Km w K B mg) {fa:Addr} {fd:FuncData} {dvs:List V} {kws:List (Str × V)} (F:FunD K "return_steps" "return_steps" (defArgs uK) (defBody uK) (defScope uK) dvs kws fa fd) (E_Way_number_answer_2_:MeA P w K mg base B 1 yJ "number_answer" 2 [] [0,1,2] [] 3 yU):FnOk P w K mg base (L2.CX P w) 2 fa fd ["way", "stand"] (spF B 2 jBX):=by
 unfold jBX
 exact fn_ok F jRA rfl rfl fun _ _ _ _ _ _ _ D=>jUD hK hw g κ D E_Way_number_answer_2_
theorem jUU {P:Program} {w:World} {K:PySem.W.Frag} {mg:Str→Option Value} {base:Heap} {B:Bs} (hK:K=B.K) (hw:w=B.w) (g:Gm mg) (κ:Km w K B mg) {fa:Addr} {fd:FuncData} {dvs:List V} {kws:List (Str × V)} (F:FunD K "steps_from" "steps_from" (defArgs zU) (defBody zU) (defScope zU) dvs kws fa fd) (F_is_stand:Fn P w K mg base B 4 "is_stand" 2 jFD) (F_drop_steps:Fn P w K mg base B 4 "drop_steps" 3 jDM) (F_landed_steps:Fn P w K mg base B 4 "landed_steps" 2 jBZ) (F_return_steps:Fn P w K mg base B 4 "return_steps" 2 jBX) (F_number_steps:Fn P w K mg base B 4 "number_steps" 3 jBY) (X_InvalidStand:ExcA P w K mg base B 4 "InvalidStand" 3 1 jCJ):FnOk P w K mg base (L2.CX P w) 5 fa fd ["way", "wish", "stand"] (spF B 3 jAV):=by
 unfold jAV
 exact fn_ok F jUN rfl rfl fun _ _ _ _ _ _ _ D=>jYO hK hw g κ D F_is_stand F_drop_steps F_landed_steps F_return_steps F_number_steps X_InvalidStand
theorem yDJ {P:Program} {w:World} {K:PySem.W.Frag} {mg:Str→Option Value} {base:Heap} {B:Bs} (hK:K=B.K) (hw:w=B.w) (g:Gm mg) (κ:Km w K B mg) {fa:Addr} {fd:FuncData} {dvs:List V} {kws:List (Str × V)} (F:FunD K "reached" "reached" (defArgs jAZ) (defBody jAZ) (defScope jAZ) dvs kws fa fd) (F_first_stand:Fn P w K mg base B 5 "first_stand" 1 jAB) (F_steps_from:Fn P w K mg base B 5 "steps_from" 3 jAV):FnOk P w K mg base (L2.CX P w) 6 fa fd ["way", "wish"] (spF B 2 jDK):=by
 unfold jDK
 exact fn_ok F yCZ rfl rfl fun _ _ _ _ _ _ _ D=>yHJ hK hw g κ D F_first_stand F_steps_from
theorem yBF {P:Program} {w:World} {K:PySem.W.Frag} {mg:Str→Option Value} {base:Heap} {B:Bs} (hK:K=B.K) (hw:w=B.w) (g:Gm mg) (κ:Km w K B mg) {fa:Addr} {fd:FuncData} {dvs:List V} {kws:List (Str × V)} (F:FunD K "shortest" "shortest" (defArgs qW) (defBody qW) (defScope qW) dvs kws fa fd) (F_reached:Fn P w K mg base B 6 "reached" 2 jDK):FnOk P w K mg base (L2.CX P w) 7 fa fd ["way", "wish"] (spF B 2 wW):=by
 unfold wW
 exact fn_ok F yAV rfl rfl fun _ _ _ _ _ _ _ D=>yDP hK hw g κ D F_reached
theorem yBG {P:Program} {w:World} {K:PySem.W.Frag} {mg:Str→Option Value} {base:Heap} {B:Bs} (hK:K=B.K) (hw:w=B.w) (g:Gm mg) (κ:Km w K B mg) {fa:Addr} {fd:FuncData} {dvs:List V} {kws:List (Str × V)} (F:FunD K "is_table" "is_table" (defArgs qX) (defBody qX) (defScope qX) dvs kws fa fd)  : FnOk P w K mg base (L2.CX P w) 1 fa fd ["value", "many"] (spF B 2 jCD):=by
 unfold jCD
 exact fn_ok F yAW rfl rfl fun _ _ _ _ _ _ _ D=>yDQ hK hw g κ D
theorem jRL {P:Program} {w:World} {K:PySem.W.Frag} {mg:Str→Option Value} {base:Heap} {B:Bs} (hK:K=B.K) (hw:w=B.w) (g:Gm mg) (κ:Km w K B mg) {fa:Addr} {fd:FuncData} {dvs:List V} {kws:List (Str × V)} (F:FunD K "__init__" "Way.__init__" (defArgs uO) (defBody uO) (defScope uO) dvs kws fa fd) (F_is_table:Fn P w K mg base B 2 "is_table" 2 jCD) (X_InvalidTable:ExcA P w K mg base B 2 "InvalidTable" 0 1 jAN) (X_InvalidOption:ExcA P w K mg base B 2 "InvalidOption" 1 1 vL):FnOk P w K mg base (L2.CX P w) 3 fa fd ["self", "drops", "numbers", "stretches", "hidden", "lock"] (spF B 6 yD):=by
 unfold yD
 exact fn_ok F jRE rfl rfl fun _ _ _ _ _ _ _ D=>jUH hK hw g κ D F_is_table X_InvalidTable X_InvalidOption
theorem yDM {P:Program} {w:World} {K:PySem.W.Frag} {mg:Str→Option Value} {base:Heap} {B:Bs} (hK:K=B.K) (hw:w=B.w) (g:Gm mg) (κ:Km w K B mg) {fa:Addr} {fd:FuncData} {dvs:List V} {kws:List (Str × V)} (F:FunD K "but" "Way.but" (defArgs jBC) (defBody jBC) (defScope jBC) dvs kws fa fd) (M_Way_2_stretches_hidden_lock:MkA P w K mg base B 4 "Way" yJ 2 ["stretches", "hidden", "lock"] [0,1,2,3,4,5] [.str "tttttttt", .str "tttt"] 6 yD):FnOk P w K mg base (L2.CX P w) 5 fa fd ["self", "drops", "numbers", "stretches", "hidden", "lock"] (spF B 6 yR):=by
 unfold yR
 exact fn_ok F yDC rfl rfl fun _ _ _ _ _ _ _ D=>yHM hK hw g κ D M_Way_2_stretches_hidden_lock
theorem yHA {P:Program} {w:World} {K:PySem.W.Frag} {mg:Str→Option Value} {base:Heap} {B:Bs} (hK:K=B.K) (hw:w=B.w) (g:Gm mg) (κ:Km w K B mg) {fa:Addr} {fd:FuncData} {dvs:List V} {kws:List (Str × V)} (F:FunD K "mended" "mended" (defArgs jCK) (defBody jCK) (defScope jCK) dvs kws fa fd) (E_Way_but_0_hidden:MeA P w K mg base B 5 yJ "but" 0 ["hidden"] [0,2,3,4,1,5] [.non,.non,.non,.non] 6 yR) (E_Way_but_0_stretches:MeA P w K mg base B 5 yJ "but" 0 ["stretches"] [0,2,3,1,4,5] [.non,.non,.non,.non] 6 yR) (E_Way_but_0_lock:MeA P w K mg base B 5 yJ "but" 0 ["lock"] [0,2,3,4,5,1] [.non,.non,.non,.non] 6 yR) (E_Way_but_0_drops:MeA P w K mg base B 5 yJ "but" 0 ["drops"] [0,1,2,3,4,5] [.non,.non,.non,.non] 6 yR) (E_Way_but_0_numbers:MeA P w K mg base B 5 yJ "but" 0 ["numbers"] [0,2,1,3,4,5] [.non,.non,.non,.non] 6 yR) (X_InvalidOption:ExcA P w K mg base B 5 "InvalidOption" 1 1 vL):FnOk P w K mg base (L2.CX P w) 6 fa fd ["way", "mends"] (spF B 2 jBS):=by
 unfold jBS
 exact fn_ok F yGO rfl rfl fun _ _ _ _ _ _ _ D=>yMB hK hw g κ D E_Way_but_0_hidden E_Way_but_0_stretches E_Way_but_0_lock E_Way_but_0_drops E_Way_but_0_numbers X_InvalidOption
theorem jTY {P:Program} {w:World} {K:PySem.W.Frag} {mg:Str→Option Value} {base:Heap} {B:Bs} (hK:K=B.K) (hw:w=B.w) (g:Gm mg) (κ:Km w K B mg) {fa:Addr} {fd:FuncData} {dvs:List V} {kws:List (Str × V)} (F:FunD K "kept_wishes" "kept_wishes" (defArgs zA) (defBody zA) (defScope zA) dvs kws fa fd) (F_shortest:Fn P w K mg base B 7 "shortest" 2 wW):FnOk P w K mg base (L2.CX P w) 8 fa fd ["way"] (spF B 1 kW):=by
 unfold kW
 exact fn_ok F jTS rfl rfl fun _ _ _ _ _ _ _ D=>jVB hK hw g κ D F_shortest
theorem jQA {P:Program} {w:World} {K:PySem.W.Frag} {mg:Str→Option Value} {base:Heap} {B:Bs} (hK:K=B.K) (hw:w=B.w) (g:Gm mg) (κ:Km w K B mg) {fd:FuncData} (F:FunD K "sets_of_mends" "sets_of_mends" (defArgs vZ) (defBody vZ) (defScope vZ) [] [] (He.ga K "sets_of_mends") fd) (TB:TabB base mg (jCM K (He.ga K "sets_of_mends")) (jEH K (He.ga K "sets_of_mends"))) (hT:B.T=yBR K lsT) (nd:ndT K lsT=true) (hcode:∀ {fd:FuncData} {oc:Value} {od:Option Addr} {osl:Array (Option Value)},K.lookup (He.ga K "sets_of_mends")=some ⟨oc,od,.func fd,osl⟩→fd.code=.ref (jCM K (He.ga K "sets_of_mends")))  : FnOk P w K mg base (L2.CX P w) 1 (He.ga K "sets_of_mends") fd [] (spF B 0 wM):=by
 unfold wM
 exact yJB F jPY rfl rfl hcode fun _ _ _ _ _ _ D=>jRO hK hw g κ D (yFE (g:=fun K=>He.ga K "sets_of_mends") TB hT nd rfl (by simp [lsT]))
theorem jTX {P:Program} {w:World} {K:PySem.W.Frag} {mg:Str→Option Value} {base:Heap} {B:Bs} (hK:K=B.K) (hw:w=B.w) (g:Gm mg) (κ:Km w K B mg) {fa:Addr} {fd:FuncData} {dvs:List V} {kws:List (Str × V)} (F:FunD K "least_mends" "least_mends" (defArgs uZ) (defBody uZ) (defScope uZ) dvs kws fa fd) (F_check_wish:Fn P w K mg base B 7 "check_wish" 1 uF) (F_sets_of_mends:Fn P w K mg base B 7 "sets_of_mends" 0 wM) (F_mended:Fn P w K mg base B 7 "mended" 2 jBS) (F_shortest:Fn P w K mg base B 7 "shortest" 2 wW):FnOk P w K mg base (L2.CX P w) 8 fa fd ["way", "wishes"] (spF B 2 yG):=by
 unfold yG
 exact fn_ok F jTR rfl rfl fun _ _ _ _ _ _ _ D=>jVA hK hw g κ D F_check_wish F_sets_of_mends F_mended F_shortest
theorem jYK {P:Program} {w:World} {K:PySem.W.Frag} {mg:Str→Option Value} {base:Heap} {B:Bs} (hK:K=B.K) (hw:w=B.w) (g:Gm mg) (κ:Km w K B mg) {fa:Addr} {fd:FuncData} {dvs:List V} {kws:List (Str × V)} (F:FunD K "_law_open" "_law_open" (defArgs kE) (defBody kE) (defScope kE) dvs kws fa fd)  : FnOk P w K mg base (L2.CX P w) 1 fa fd ["_law_script"] (spF B 1 jAU):=by
 unfold jAU
 exact fn_ok F jYG rfl rfl fun _ _ _ _ _ _ _ D=>yBN hK hw g κ D
theorem jYM {P:Program} {w:World} {K:PySem.W.Frag} {mg:Str→Option Value} {base:Heap} {B:Bs} (hK:K=B.K) (hw:w=B.w) (g:Gm mg) (κ:Km w K B mg) {fa:Addr} {fd:FuncData} {dvs:List V} {kws:List (Str × V)} (F:FunD K "_law_draw" "_law_draw" (defArgs kJ) (defBody kJ) (defScope kJ) dvs kws fa fd)  : FnOk P w K mg base (L2.CX P w) 1 fa fd ["_law_bag", "_law_many"] (spF B 2 vI):=by
 unfold vI
 exact fn_ok F jYH rfl rfl fun _ _ _ _ _ _ _ D=>yBP hK hw g κ D
theorem yDL {P:Program} {w:World} {K:PySem.W.Frag} {mg:Str→Option Value} {base:Heap} {B:Bs} (hK:K=B.K) (hw:w=B.w) (g:Gm mg) (κ:Km w K B mg) {fa:Addr} {fd:FuncData} {dvs:List V} {kws:List (Str × V)} (F:FunD K "_law_of" "_law_of" (defArgs jBB) (defBody jBB) (defScope jBB) dvs kws fa fd) (F__law_draw:Fn P w K mg base B 1 "_law_draw" 2 vI):FnOk P w K mg base (L2.CX P w) 2 fa fd ["_law_bag", "_law_things"] (spF B 2 uQ):=by
 unfold uQ
 exact fn_ok F yDB rfl rfl fun _ _ _ _ _ _ _ D=>yHL hK hw g κ D F__law_draw
theorem jOZ {P:Program} {w:World} {K:PySem.W.Frag} {mg:Str→Option Value} {base:Heap} {B:Bs} (hK:K=B.K) (hw:w=B.w) (g:Gm mg) (κ:Km w K B mg) {fa:Addr} {fd:FuncData} (F:FunD K "_law_like" "_law_like" (defArgs uR) (defBody uR) (defScope uR) [] [] fa fd) (hm:mg "_law_like" = some (.ref fa))  : ∀ n:Nat,FnOk P w K mg base (L2.CX P w) (0+n+1) fa fd ["_law_found", "_law_due"] (spF B 2 (jJT n))
 | 0=>vBV F jOV
 | n+1=>fn_ok (k:=0+n+1) F jOV rfl rfl fun _ _ _ _ _ _ _ D=>yBO hK hw g κ D ⟨fa,fd,_,jOZ hK hw g κ F hm  n,hm,F.kp,(F.bindsN fun _ _ _ _ _ _ us hl=>match us,hl with | [_,_],_=>rfl)⟩
theorem jYL {P:Program} {w:World} {K:PySem.W.Frag} {mg:Str→Option Value} {base:Heap} {B:Bs} (hK:K=B.K) (hw:w=B.w) (g:Gm mg) (κ:Km w K B mg) {fa:Addr} {fd:FuncData} (F:FunD K "_law_like" "_law_like" (defArgs uR) (defBody uR) (defScope uR) [] [] fa fd) (hm:mg "_law_like" = some (.ref fa))  : FnOk P w K mg base (L2.CX P w) 9 fa fd ["_law_found", "_law_due"] (spF B 2 zJ):=by
 unfold zJ
 exact jOZ hK hw g κ F hm  8
theorem jUZ {P:Program} {w:World} {K:PySem.W.Frag} {mg:Str→Option Value} {base:Heap} {B:Bs} (hK:K=B.K) (hw:w=B.w) (g:Gm mg) (κ:Km w K B mg) {fa:Addr} {fd:FuncData} {dvs:List V} {kws:List (Str × V)} (F:FunD K "_law_field" "_law_field" (defArgs wA) (defBody wA) (defScope wA) dvs kws fa fd) (XC:XClsF K B xfl) (hm:mg "_law_field" = some (.ref fa)) (hb:L2.Binds K fd ["_law_e"] [])  : FnX P w K mg base B 1 "_law_field" 1 jGG:=by
 unfold jGG
 exact vBU F jUS hm hb rfl rfl fun _ _ _ _ _ _ _ p c dd D=>jYT (B:=B) (c:=c) (dd:=dd) hK hw g XC D
theorem jPD {P:Program} {w:World} {K:PySem.W.Frag} {mg:Str→Option Value} {base:Heap} {B:Bs} (hK:K=B.K) (hw:w=B.w) (g:Gm mg) (κ:Km w K B mg) {fa:Addr} {fd:FuncData} {dvs:List V} {kws:List (Str × V)} (F:FunD K "_law_some_spec" "_law_some_spec" (defArgs uA) (defBody uA) (defScope uA) dvs kws fa fd) (F__law_of:Fn P w K mg base B 2 "_law_of" 2 uQ) (F__law_draw:Fn P w K mg base B 2 "_law_draw" 2 vI):FnOk P w K mg base (L2.CX P w) 3 fa fd ["_law_bag"] (spF B 1 uU):=by
 unfold uU
 exact fn_ok F jPB rfl rfl fun _ _ _ _ _ _ _ D=>jQC hK hw g κ D F__law_of F__law_draw
theorem yBI {P:Program} {w:World} {K:PySem.W.Frag} {mg:Str→Option Value} {base:Heap} {B:Bs} (hK:K=B.K) (hw:w=B.w) (g:Gm mg) (κ:Km w K B mg) {fa:Addr} {fd:FuncData} {dvs:List V} {kws:List (Str × V)} (F:FunD K "_law_way" "_law_way" (defArgs qZ) (defBody qZ) (defScope qZ) dvs kws fa fd) (M_Way_2_stretches_hidden_lock:MkA P w K mg base B 4 "Way" yJ 2 ["stretches", "hidden", "lock"] [0,1,2,3,4,5] [.str "tttttttt", .str "tttt"] 6 yD):FnOk P w K mg base (L2.CX P w) 5 fa fd ["_law_spec"] (spF B 1 jCE):=by
 unfold jCE
 exact fn_ok F yAY rfl rfl fun _ _ _ _ _ _ _ D=>yDS hK hw g κ D M_Way_2_stretches_hidden_lock
theorem jUA {P:Program} {w:World} {K:PySem.W.Frag} {mg:Str→Option Value} {base:Heap} {B:Bs} (hK:K=B.K) (hw:w=B.w) (g:Gm mg) (κ:Km w K B mg) {fa:Addr} {fd:FuncData} {dvs:List V} {kws:List (Str × V)} (F:FunD K "_law_wishes" "_law_wishes" (defArgs zE) (defBody zE) (defScope zE) dvs kws fa fd)  : FnOk P w K mg base (L2.CX P w) 1 fa fd [] (spF B 0 uY):=by
 unfold uY
 exact fn_ok F jTU rfl rfl fun _ _ _ _ _ _ _ D=>jVD hK hw g κ D
theorem yBK {P:Program} {w:World} {K:PySem.W.Frag} {mg:Str→Option Value} {base:Heap} {B:Bs} (hK:K=B.K) (hw:w=B.w) (g:Gm mg) (κ:Km w K B mg) {fa:Addr} {fd:FuncData} {dvs:List V} {kws:List (Str × V)} (F:FunD K "_law_put" "_law_put" (defArgs jAA) (defBody jAA) (defScope jAA) dvs kws fa fd)  : FnOk P w K mg base (L2.CX P w) 1 fa fd ["_law_stand", "_law_at", "_law_value"] (spF B 3 yN):=by
 unfold yN
 exact fn_ok F yBA rfl rfl fun _ _ _ _ _ _ _ D=>yDT hK hw g κ D
theorem jLN {P:Program} {w:World} {K:PySem.W.Frag} {mg:Str→Option Value} {base:Heap} {B:Bs} (hK:K=B.K) (hw:w=B.w) (g:Gm mg) (κ:Km w K B mg) {fa:Addr} {fd:FuncData} {dvs:List V} {kws:List (Str × V)} (F:FunD K "_law_number_taken" "_law_number_taken" (defArgs vC) (defBody vC) (defScope vC) dvs kws fa fd)  : FnOk P w K mg base (L2.CX P w) 1 fa fd ["_law_spec", "_law_elder", "_law_dropped"] (spF B 3 vX):=by
 unfold vX
 exact fn_ok F jLI rfl rfl fun _ _ _ _ _ _ _ D=>jMP hK hw g κ D
theorem jNT {P:Program} {w:World} {K:PySem.W.Frag} {mg:Str→Option Value} {base:Heap} {B:Bs} (hK:K=B.K) (hw:w=B.w) (g:Gm mg) (κ:Km w K B mg) {fa:Addr} {fd:FuncData} {dvs:List V} {kws:List (Str × V)} (F:FunD K "_law_drop_steps" "_law_drop_steps" (defArgs vP) (defBody vP) (defScope vP) dvs kws fa fd) (F__law_put:Fn P w K mg base B 1 "_law_put" 3 yN):FnOk P w K mg base (L2.CX P w) 2 fa fd ["_law_spec", "_law_wish", "_law_stand"] (spF B 3 qK):=by
 unfold qK
 exact fn_ok F jNR rfl rfl fun _ _ _ _ _ _ _ D=>jPF hK hw g κ D F__law_put
theorem jLO {P:Program} {w:World} {K:PySem.W.Frag} {mg:Str→Option Value} {base:Heap} {B:Bs} (hK:K=B.K) (hw:w=B.w) (g:Gm mg) (κ:Km w K B mg) {fa:Addr} {fd:FuncData} {dvs:List V} {kws:List (Str × V)} (F:FunD K "_law_number_steps" "_law_number_steps" (defArgs vD) (defBody vD) (defScope vD) dvs kws fa fd) (F__law_put:Fn P w K mg base B 1 "_law_put" 3 yN):FnOk P w K mg base (L2.CX P w) 2 fa fd ["_law_spec", "_law_wish", "_law_stand"] (spF B 3 wH):=by
 unfold wH
 exact fn_ok F jLJ rfl rfl fun _ _ _ _ _ _ _ D=>jMQ hK hw g κ D F__law_put
theorem jLP {P:Program} {w:World} {K:PySem.W.Frag} {mg:Str→Option Value} {base:Heap} {B:Bs} (hK:K=B.K) (hw:w=B.w) (g:Gm mg) (κ:Km w K B mg) {fa:Addr} {fd:FuncData} {dvs:List V} {kws:List (Str × V)} (F:FunD K "_law_landed_steps" "_law_landed_steps" (defArgs vG) (defBody vG) (defScope vG) dvs kws fa fd) (F__law_put:Fn P w K mg base B 1 "_law_put" 3 yN) (F__law_number_taken:Fn P w K mg base B 1 "_law_number_taken" 3 vX):FnOk P w K mg base (L2.CX P w) 2 fa fd ["_law_spec", "_law_stand"] (spF B 2 wI):=by
 unfold wI
 exact fn_ok F jLK rfl rfl fun _ _ _ _ _ _ _ D=>jMR hK hw g κ D F__law_put F__law_number_taken
theorem jLM {P:Program} {w:World} {K:PySem.W.Frag} {mg:Str→Option Value} {base:Heap} {B:Bs} (hK:K=B.K) (hw:w=B.w) (g:Gm mg) (κ:Km w K B mg) {fa:Addr} {fd:FuncData} {dvs:List V} {kws:List (Str × V)} (F:FunD K "_law_return_steps" "_law_return_steps" (defArgs vB) (defBody vB) (defScope vB) dvs kws fa fd) (F__law_put:Fn P w K mg base B 1 "_law_put" 3 yN) (F__law_number_taken:Fn P w K mg base B 1 "_law_number_taken" 3 vX):FnOk P w K mg base (L2.CX P w) 2 fa fd ["_law_spec", "_law_stand"] (spF B 2 wG):=by
 unfold wG
 exact fn_ok F jLH rfl rfl fun _ _ _ _ _ _ _ D=>jMO hK hw g κ D F__law_put F__law_number_taken
theorem jUX {P:Program} {w:World} {K:PySem.W.Frag} {mg:Str→Option Value} {base:Heap} {B:Bs} (hK:K=B.K) (hw:w=B.w) (g:Gm mg) (κ:Km w K B mg) {fa:Addr} {fd:FuncData} {dvs:List V} {kws:List (Str × V)} (F:FunD K "_law_steps" "_law_steps" (defArgs zX) (defBody zX) (defScope zX) dvs kws fa fd) (F__law_drop_steps:Fn P w K mg base B 2 "_law_drop_steps" 3 qK) (F__law_landed_steps:Fn P w K mg base B 2 "_law_landed_steps" 2 wI) (F__law_return_steps:Fn P w K mg base B 2 "_law_return_steps" 2 wG) (F__law_number_steps:Fn P w K mg base B 2 "_law_number_steps" 3 wH):FnOk P w K mg base (L2.CX P w) 3 fa fd ["_law_spec", "_law_wish", "_law_stand"] (spF B 3 jAW):=by
 unfold jAW
 exact fn_ok F jUQ rfl rfl fun _ _ _ _ _ _ _ D=>jYR hK hw g κ D F__law_drop_steps F__law_landed_steps F__law_return_steps F__law_number_steps
theorem jUY {P:Program} {w:World} {K:PySem.W.Frag} {mg:Str→Option Value} {base:Heap} {B:Bs} (hK:K=B.K) (hw:w=B.w) (g:Gm mg) (κ:Km w K B mg) {fa:Addr} {fd:FuncData} {dvs:List V} {kws:List (Str × V)} (F:FunD K "_law_first" "_law_first" (defArgs zY) (defBody zY) (defScope zY) dvs kws fa fd) (F__law_wishes:Fn P w K mg base B 1 "_law_wishes" 0 uY):FnOk P w K mg base (L2.CX P w) 2 fa fd ["_law_wish"] (spF B 1 jAX):=by
 unfold jAX
 exact fn_ok F jUR rfl rfl fun _ _ _ _ _ _ _ D=>jYS hK hw g κ D F__law_wishes
theorem jRK {P:Program} {w:World} {K:PySem.W.Frag} {mg:Str→Option Value} {base:Heap} {B:Bs} (hK:K=B.K) (hw:w=B.w) (g:Gm mg) (κ:Km w K B mg) {fa:Addr} {fd:FuncData} {dvs:List V} {kws:List (Str × V)} (F:FunD K "_law_reached" "_law_reached" (defArgs uN) (defBody uN) (defScope uN) dvs kws fa fd) (F__law_first:Fn P w K mg base B 3 "_law_first" 1 jAX) (F__law_steps:Fn P w K mg base B 3 "_law_steps" 3 jAW):FnOk P w K mg base (L2.CX P w) 4 fa fd ["_law_spec", "_law_wish"] (spF B 2 wF):=by
 unfold wF
 exact fn_ok F jRD rfl rfl fun _ _ _ _ _ _ _ D=>jUG hK hw g κ D F__law_first F__law_steps
theorem jUB {P:Program} {w:World} {K:PySem.W.Frag} {mg:Str→Option Value} {base:Heap} {B:Bs} (hK:K=B.K) (hw:w=B.w) (g:Gm mg) (κ:Km w K B mg) {fa:Addr} {fd:FuncData} {dvs:List V} {kws:List (Str × V)} (F:FunD K "_law_fewest" "_law_fewest" (defArgs zF) (defBody zF) (defScope zF) dvs kws fa fd) (F__law_reached:Fn P w K mg base B 4 "_law_reached" 2 wF):FnOk P w K mg base (L2.CX P w) 5 fa fd ["_law_spec", "_law_wish"] (spF B 2 kY):=by
 unfold kY
 exact fn_ok F jTV rfl rfl fun _ _ _ _ _ _ _ D=>jVE hK hw g κ D F__law_reached
theorem jMM {P:Program} {w:World} {K:PySem.W.Frag} {mg:Str→Option Value} {base:Heap} {B:Bs} (hK:K=B.K) (hw:w=B.w) (g:Gm mg) (κ:Km w K B mg) {fa:Addr} {fd:FuncData} {dvs:List V} {kws:List (Str × V)} (F:FunD K "_law_mended_spec" "_law_mended_spec" (defArgs vJ) (defBody vJ) (defScope vJ) dvs kws fa fd)  : FnOk P w K mg base (L2.CX P w) 1 fa fd ["_law_spec", "_law_mends"] (spF B 2 uG):=by
 unfold uG
 exact fn_ok F jMK rfl rfl fun _ _ _ _ _ _ _ D=>jNV hK hw g κ D
theorem jPE {P:Program} {w:World} {K:PySem.W.Frag} {mg:Str→Option Value} {base:Heap} {B:Bs} (hK:K=B.K) (hw:w=B.w) (g:Gm mg) (κ:Km w K B mg) {fa:Addr} {fd:FuncData} {dvs:List V} {kws:List (Str × V)} (F:FunD K "_law_mend_sets" "_law_mend_sets" (defArgs uB) (defBody uB) (defScope uB) dvs kws fa fd)  : FnOk P w K mg base (L2.CX P w) 1 fa fd [] (spF B 0 zK):=by
 unfold zK
 exact fn_ok F jPC rfl rfl fun _ _ _ _ _ _ _ D=>jQD hK hw g κ D
theorem jMN {P:Program} {w:World} {K:PySem.W.Frag} {mg:Str→Option Value} {base:Heap} {B:Bs} (hK:K=B.K) (hw:w=B.w) (g:Gm mg) (κ:Km w K B mg) {fa:Addr} {fd:FuncData} {dvs:List V} {kws:List (Str × V)} (F:FunD K "_law_least_mends" "_law_least_mends" (defArgs vK) (defBody vK) (defScope vK) dvs kws fa fd) (F__law_mend_sets:Fn P w K mg base B 5 "_law_mend_sets" 0 zK) (F__law_mended_spec:Fn P w K mg base B 5 "_law_mended_spec" 2 uG) (F__law_fewest:Fn P w K mg base B 5 "_law_fewest" 2 kY):FnOk P w K mg base (L2.CX P w) 6 fa fd ["_law_spec", "_law_wishes_z"] (spF B 2 vR):=by
 unfold vR
 exact fn_ok F jML rfl rfl fun _ _ _ _ _ _ _ D=>jNW hK hw g κ D F__law_mend_sets F__law_mended_spec F__law_fewest
theorem vBT {P:Program} {w:World} {K:PySem.W.Frag} {mg:Str→Option Value} {base:Heap} {B:Bs} (hK:K=B.K) (hw:w=B.w) (g:Gm mg) (κ:Km w K B mg) {fd:FuncData} (F:FunD K "law" "law" (defArgs jGZ) (defBody jGZ) (defScope jGZ) [] [] (He.ga K "law") fd) (hxn:B.xn=none) (TB:TabB base mg (jCM K (He.ga K "law")) (jEH K (He.ga K "law"))) (hT:B.T=yBR K lsT) (nd:ndT K lsT=true) (hcode:∀ {fd:FuncData} {oc:Value} {od:Option Addr} {osl:Array (Option Value)},K.lookup (He.ga K "law")=some ⟨oc,od,.func fd,osl⟩→fd.code=.ref (jCM K (He.ga K "law")))
  (T_try:TryF P w K mg base B 9 "_law_try" okc jJH) (F__law_open:Fn P w K mg base B 10 "_law_open" 1 jAU) (F__law_some_spec:Fn P w K mg base B 10 "_law_some_spec" 1 uU) (F__law_way:Fn P w K mg base B 10 "_law_way" 1 jCE) (F__law_draw:Fn P w K mg base B 10 "_law_draw" 2 vI) (F__law_of:Fn P w K mg base B 10 "_law_of" 2 uQ) (F__law_wishes:Fn P w K mg base B 10 "_law_wishes" 0 uY) (F__law_least_mends:Fn P w K mg base B 10 "_law_least_mends" 2 vR) (F_least_mends:Fn P w K mg base B 10 "least_mends" 2 yG) (F__law_like:Fn P w K mg base B 10 "_law_like" 2 zJ) (F_kept_wishes:Fn P w K mg base B 10 "kept_wishes" 1 kW) (F_mended:Fn P w K mg base B 10 "mended" 2 jBS) (K_least_mends_0_wishes_way:FnK P w K mg base B 10 "least_mends" 0 ["wishes", "way"] [1,0] 2 yG) (FL_least_mends:Fn P w K mg base B 8 "least_mends" 2 yG) (M_Way_0_:MkA P w K mg base B 10 "Way" yJ 0 [] [0,1,2,3,4,5] [.str "tttttttt", .str "tttt", .bl false,.bl false,.str "none"] 6 yD) (M_Way_0_stretches:MkA P w K mg base B 10 "Way" yJ 0 ["stretches"] [0,2,3,1,4,5] [.str "tttttttt", .str "tttt", .bl false,.str "none"] 6 yD):FnOk P w K mg base (L2.CX P w) 11 (He.ga K "law") fd ["_law_script"] (spF B 1 jQL):=by
 unfold jQL
 exact yJB F yZV rfl rfl hcode fun _ _ _ _ _ _ D=>vEG hK hw g κ D hxn (j:=8) (by decide) T_try (yFE (g:=fun K=>He.ga K "law") TB hT nd rfl (by simp [lsT])) F__law_open F__law_some_spec F__law_way F__law_draw F__law_of F__law_wishes F__law_least_mends F_least_mends F__law_like F_kept_wishes F_mended K_least_mends_0_wishes_way FL_least_mends M_Way_0_ M_Way_0_stretches
abbrev hkT:PySem.W.Hook:=hookA adT faT fnT tsT
def obT (s:PySem.W.SharedT):AlL:=obsAG adT faT fnT tsT (HandSHeadRun.getT s)
theorem vBI (s:PySem.W.SharedT):obT s=hkT.obs s.abs:=obsAG_eq (HandSHeadRun.getT_eq s)
theorem vDJ (w:World):HandSHeadRun.RunEq Rw qv hkT obT 8000 jPJ (w.withFollow "special-get-raises" false):=yET (yZY w) (yZZ w)
theorem vDI (w:World):HandSHeadRun.RunEq Rw qv hkT obT 8000 jPJ (w.withFollow "special-get-raises" true):=yET (yZW w) (yZX w)
theorem vEK (w:World):HandSHeadRun.RunEq Rw qv hkT obT 8000 jPJ w:=PySem.W.byRow2 "special-get-raises" vDJ vDI w
def vEU (K:PySem.W.Frag):Nat→Addr:=fun c=>match c with
 | 0=>He.ga K "InvalidTable"
 | 1=>He.ga K "InvalidOption"
 | 2=>He.ga K "InvalidWish"
 | 3=>He.ga K "InvalidStand"
 | 4=>He.ga K "Way"
 | _=>0
abbrev BkT (w:World) (K:PySem.W.Frag):Bs:=⟨K,vEU K,vCT,yBR K lsT,w,none⟩
theorem jRF:IniT Pg "InvalidTable.__init__" (defArgs jAL) (defBody jAL) (defScope jAL) ["self", "given"]:=⟨nscope_by (by decide +kernel),⟨_,rfl,rfl⟩,by decide +kernel,by decide +kernel,by decide +kernel,by decide +kernel,fun _ _ _ _ _ _ _ us hl=>match us,hl with | [_,_],_=>rfl⟩
theorem jRM {w:World} {K:PySem.W.Frag} {T:List Addr} {h:Heap} {mg:Str→Option Value} {base:Heap} (X:K.In h) (G:h.Ns mainGlobals mg) (c:SaysL faT fnT tsT w K T):ExcC Pg w K mg base (BkT w K) 1 "InvalidTable" 0 1 jAN :=
 jRU (B:=BkT w K) (c:=0) (at_:=jKE.at_) jXI rfl (c.fact 55 (f:=(fun K _=>jRV K "ValueError" "ValueError.__init__" "ValueError.__new__" [.type "ValueError", .type "Exception", .type "BaseException", .type "object"] (He.ga K "InvalidTable"))) rfl) (c.fact 56 (f:=(fun K _=>jNX K (He.ga K "InvalidTable") ["code", "given"])) rfl) (c.fact 57 (f:=(fun K _=>jOB K (He.ga K "InvalidTable") (He.ma K (He.ga K "InvalidTable") "__init__"))) rfl) (c.fact 58 (f:=(fun K _=>jRW Pg K (He.ma K (He.ga K "InvalidTable") "__init__") (He.ga K "InvalidTable"))) rfl) (c.def_ 43 (d:=jKE) rfl) jRF (fun _ _ _ _=>⟨_,rfl⟩) rfl rfl (He.free_ok X G (c.fact 78 (f:=(fun K _=>(He.Fa.free "super").ok K)) rfl)) (He.glo_ok X G (c.fact 54 (f:=(fun K _=>(He.Fa.glo "InvalidTable").ok K)) rfl)) (jJ (by decide +kernel))
theorem jPZ:IniT Pg "InvalidOption.__init__" (defArgs jAC) (defBody jAC) (defScope jAC) ["self", "word"]:=⟨nscope_by (by decide +kernel),⟨_,rfl,rfl⟩,by decide +kernel,by decide +kernel,by decide +kernel,by decide +kernel,fun _ _ _ _ _ _ _ us hl=>match us,hl with | [_,_],_=>rfl⟩
theorem jQB {w:World} {K:PySem.W.Frag} {T:List Addr} {h:Heap} {mg:Str→Option Value} {base:Heap} (X:K.In h) (G:h.Ns mainGlobals mg) (c:SaysL faT fnT tsT w K T):ExcC Pg w K mg base (BkT w K) 1 "InvalidOption" 1 1 vL :=
 jRU (B:=BkT w K) (c:=1) (at_:=jIY.at_) jXI rfl (c.fact 61 (f:=(fun K _=>jRV K "ValueError" "ValueError.__init__" "ValueError.__new__" [.type "ValueError", .type "Exception", .type "BaseException", .type "object"] (He.ga K "InvalidOption"))) rfl) (c.fact 62 (f:=(fun K _=>jNX K (He.ga K "InvalidOption") ["code", "word"])) rfl) (c.fact 63 (f:=(fun K _=>jOB K (He.ga K "InvalidOption") (He.ma K (He.ga K "InvalidOption") "__init__"))) rfl) (c.fact 64 (f:=(fun K _=>jRW Pg K (He.ma K (He.ga K "InvalidOption") "__init__") (He.ga K "InvalidOption"))) rfl) (c.def_ 44 (d:=jIY) rfl) jPZ (fun _ _ _ _=>⟨_,rfl⟩) rfl rfl (He.free_ok X G (c.fact 78 (f:=(fun K _=>(He.Fa.free "super").ok K)) rfl)) (He.glo_ok X G (c.fact 60 (f:=(fun K _=>(He.Fa.glo "InvalidOption").ok K)) rfl)) (jJ (by decide +kernel))
theorem jTW:IniT Pg "InvalidWish.__init__" (defArgs jBW) (defBody jBW) (defScope jBW) ["self", "given"]:=⟨nscope_by (by decide +kernel),⟨_,rfl,rfl⟩,by decide +kernel,by decide +kernel,by decide +kernel,by decide +kernel,fun _ _ _ _ _ _ _ us hl=>match us,hl with | [_,_],_=>rfl⟩
theorem jUC {w:World} {K:PySem.W.Frag} {T:List Addr} {h:Heap} {mg:Str→Option Value} {base:Heap} (X:K.In h) (G:h.Ns mainGlobals mg) (c:SaysL faT fnT tsT w K T):ExcC Pg w K mg base (BkT w K) 1 "InvalidWish" 2 1 jDB :=
 jRU (B:=BkT w K) (c:=2) (at_:=jLG.at_) jXI rfl (c.fact 67 (f:=(fun K _=>jRV K "ValueError" "ValueError.__init__" "ValueError.__new__" [.type "ValueError", .type "Exception", .type "BaseException", .type "object"] (He.ga K "InvalidWish"))) rfl) (c.fact 68 (f:=(fun K _=>jNX K (He.ga K "InvalidWish") ["code", "given"])) rfl) (c.fact 69 (f:=(fun K _=>jOB K (He.ga K "InvalidWish") (He.ma K (He.ga K "InvalidWish") "__init__"))) rfl) (c.fact 70 (f:=(fun K _=>jRW Pg K (He.ma K (He.ga K "InvalidWish") "__init__") (He.ga K "InvalidWish"))) rfl) (c.def_ 45 (d:=jLG) rfl) jTW (fun _ _ _ _=>⟨_,rfl⟩) rfl rfl (He.free_ok X G (c.fact 78 (f:=(fun K _=>(He.Fa.free "super").ok K)) rfl)) (He.glo_ok X G (c.fact 66 (f:=(fun K _=>(He.Fa.glo "InvalidWish").ok K)) rfl)) (jJ (by decide +kernel))
theorem jRG:IniT Pg "InvalidStand.__init__" (defArgs jAM) (defBody jAM) (defScope jAM) ["self", "given"]:=⟨nscope_by (by decide +kernel),⟨_,rfl,rfl⟩,by decide +kernel,by decide +kernel,by decide +kernel,by decide +kernel,fun _ _ _ _ _ _ _ us hl=>match us,hl with | [_,_],_=>rfl⟩
theorem jRN {w:World} {K:PySem.W.Frag} {T:List Addr} {h:Heap} {mg:Str→Option Value} {base:Heap} (X:K.In h) (G:h.Ns mainGlobals mg) (c:SaysL faT fnT tsT w K T):ExcC Pg w K mg base (BkT w K) 1 "InvalidStand" 3 1 jCJ :=
 jRU (B:=BkT w K) (c:=3) (at_:=jKF.at_) jXI rfl (c.fact 73 (f:=(fun K _=>jRV K "ValueError" "ValueError.__init__" "ValueError.__new__" [.type "ValueError", .type "Exception", .type "BaseException", .type "object"] (He.ga K "InvalidStand"))) rfl) (c.fact 74 (f:=(fun K _=>jNX K (He.ga K "InvalidStand") ["code", "given"])) rfl) (c.fact 75 (f:=(fun K _=>jOB K (He.ga K "InvalidStand") (He.ma K (He.ga K "InvalidStand") "__init__"))) rfl) (c.fact 76 (f:=(fun K _=>jRW Pg K (He.ma K (He.ga K "InvalidStand") "__init__") (He.ga K "InvalidStand"))) rfl) (c.def_ 46 (d:=jKF) rfl) jRG (fun _ _ _ _=>⟨_,rfl⟩) rfl rfl (He.free_ok X G (c.fact 78 (f:=(fun K _=>(He.Fa.free "super").ok K)) rfl)) (He.glo_ok X G (c.fact 72 (f:=(fun K _=>(He.Fa.glo "InvalidStand").ok K)) rfl)) (jJ (by decide +kernel))
theorem xcT {w:World} {K:PySem.W.Frag} {T:List Addr} (c:SaysL faT fnT tsT w K T):XClsF K (BkT w K) xfl:=⟨fun cc hh=>match cc,hh with
 | 0,_=>rfl
 | 1,_=>rfl
 | 2,_=>rfl
 | 3,_=>rfl
 | 4,h=>absurd rfl h
 | _+5,h=>absurd rfl h,
 fun cc f hf=>match cc,hf with
 | 0,hf=>jLR (c.fact 56 (f:=(fun K _=>jNX K (He.ga K "InvalidTable") ["code", "given"])) rfl) hf
 | 1,hf=>jLR (c.fact 62 (f:=(fun K _=>jNX K (He.ga K "InvalidOption") ["code", "word"])) rfl) hf
 | 2,hf=>jLR (c.fact 68 (f:=(fun K _=>jNX K (He.ga K "InvalidWish") ["code", "given"])) rfl) hf
 | 3,hf=>jLR (c.fact 74 (f:=(fun K _=>jNX K (He.ga K "InvalidStand") ["code", "given"])) rfl) hf
 | 4,hf=>(nomatch hf)
 | _+5,hf=>(nomatch hf)⟩
theorem okT {w:World} {K:PySem.W.Frag} {T:List Addr} (c:SaysL faT fnT tsT w K T):∀ cc,okc cc=true→PySem.W.exmAny K (.ref ((BkT w K).cad cc)) [.ref (He.ga K "DropError"),.ref (He.ga K "Missing"),.ref (He.ga K "NothingLeft")]=some true:=fun cc h=>match cc,h with
 | 0,_=>of_decide_eq_true (c.fact 59 (f:=(fun K _=>decide (PySem.W.exmAny K (.ref (He.ga K "InvalidTable")) [.ref (He.ga K "DropError"),.ref (He.ga K "Missing"),.ref (He.ga K "NothingLeft")]=some true))) rfl)
 | 1,_=>of_decide_eq_true (c.fact 65 (f:=(fun K _=>decide (PySem.W.exmAny K (.ref (He.ga K "InvalidOption")) [.ref (He.ga K "DropError"),.ref (He.ga K "Missing"),.ref (He.ga K "NothingLeft")]=some true))) rfl)
 | 2,_=>of_decide_eq_true (c.fact 71 (f:=(fun K _=>decide (PySem.W.exmAny K (.ref (He.ga K "InvalidWish")) [.ref (He.ga K "DropError"),.ref (He.ga K "Missing"),.ref (He.ga K "NothingLeft")]=some true))) rfl)
 | 3,_=>of_decide_eq_true (c.fact 77 (f:=(fun K _=>decide (PySem.W.exmAny K (.ref (He.ga K "InvalidStand")) [.ref (He.ga K "DropError"),.ref (He.ga K "Missing"),.ref (He.ga K "NothingLeft")]=some true))) rfl)
 | n+4,h=>absurd (of_decide_eq_true h) (by omega)
theorem yBJ {P:Program} {w:World} {K:PySem.W.Frag} {mg:Str→Option Value} {base:Heap} {B:Bs} (hK:K=B.K) (hw:w=B.w) (g:Gm mg) (hxn:B.xn=none) (XC:XClsF K B xfl) {fa:Addr} {fd:FuncData} (F:FunD K "_law_try" "_law_try" (defArgs jCZ) (defBody jCZ) (defScope jCZ) [] [] fa fd) (hm:mg "_law_try" = some (.ref fa)) (hb:L2.Binds K fd ["_law_ask"] []) (h_DropError:mg "DropError" = some (.ref (He.ga K "DropError"))) (h_Missing:mg "Missing" = some (.ref (He.ga K "Missing"))) (h_NothingLeft:mg "NothingLeft" = some (.ref (He.ga K "NothingLeft"))) (hok:∀ c,okc c=true→PySem.W.exmAny K (.ref (B.cad c)) [.ref (He.ga K "DropError"),.ref (He.ga K "Missing"),.ref (He.ga K "NothingLeft")]=some true) (F__law_field:FnX P w K mg base B 1 "_law_field" 1 jGG):TryF P w K mg base B 1 "_law_try" okc jJH :=
 yUW F hm hb yAZ (by first | exact .inl rfl | exact .inr (.inl rfl) | rfl) rfl hok (fun _ _ _ _ _=>yCS ⟨rfl,rfl,.inl h_DropError⟩ ⟨rfl,rfl,.inl h_Missing⟩ ⟨rfl,rfl,.inl h_NothingLeft⟩) fun _ _ _ _ _ _ _ _ _ _ _ hrx HX=>jH (jZ (jQ (jA (qP HX XC.with (jB (i:=1) rfl (.inl rfl) rfl rfl) rfl) (jA (yGK F__law_field HX takes0 hrx rfl (jA (jB (i:=1) rfl (.inl rfl) rfl rfl) jD rfl) rfl rfl rfl) jD rfl) rfl)))
theorem cfT {w:World} {K:PySem.W.Frag} {T:List Addr} (c:SaysL faT fnT tsT w K T):ClsF K (BkT w K) ifl:=⟨fun cc hh=>match cc,hh with
 | 0,h=>absurd rfl h
 | 1,h=>absurd rfl h
 | 2,h=>absurd rfl h
 | 3,h=>absurd rfl h
 | 4,_=>rfl
 | _+5,h=>absurd rfl h,
 fun cc f hf=>match cc,hf with
 | 0,hf=>(nomatch hf)
 | 1,hf=>(nomatch hf)
 | 2,hf=>(nomatch hf)
 | 3,hf=>(nomatch hf)
 | 4,hf=>⟨He.cls_ok (c.fact 83 (f:=(fun K _=>(He.Fa.cls "Way").ok K)) rfl),by
   simp only [ifl,List.mem_cons,List.not_mem_nil,or_false] at hf
   rcases hf with rfl | rfl | rfl | rfl | rfl
   ·exact He.noat_ok (c.fact 84 (f:=(fun K _=>(He.Fa.noat "Way" "drops").ok K)) rfl)
   ·exact He.noat_ok (c.fact 85 (f:=(fun K _=>(He.Fa.noat "Way" "numbers").ok K)) rfl)
   ·exact He.noat_ok (c.fact 86 (f:=(fun K _=>(He.Fa.noat "Way" "stretches").ok K)) rfl)
   ·exact He.noat_ok (c.fact 87 (f:=(fun K _=>(He.Fa.noat "Way" "hidden").ok K)) rfl)
   ·exact He.noat_ok (c.fact 88 (f:=(fun K _=>(He.Fa.noat "Way" "lock").ok K)) rfl)⟩
 | _+5,hf=>(nomatch hf),
 fun cc=>match cc with
 | 0=>by decide
 | 1=>by decide
 | 2=>by decide
 | 3=>by decide
 | 4=>by decide
 | _+5=>by show 0 < 1000; decide,
 fun cc=>match cc with
 | 0=>List.nodup_nil
 | 1=>List.nodup_nil
 | 2=>List.nodup_nil
 | 3=>List.nodup_nil
 | 4=>by decide
 | _+5=>List.nodup_nil⟩
theorem vBW {w:World} {K:PySem.W.Frag} {T:List Addr} {h:Heap} {mg:Str→Option Value} {f:Addr} (X:K.In h) (G:h.Ns mainGlobals mg) (hfa:mg ("law" : Str)=some (.ref f)) (c:SaysL faT fnT tsT w K T) :
  ∃ fd:FuncData,(∀ (s:Shared) (u:Value),BindsTo s fd ⟨[u],[]⟩ [("_law_script", u)])∧∀ base:Heap,K.In base→base.Ns mainGlobals mg→(∀ p∈lsT,TabB base mg (jCM K (p.1 K)) (jEH K (p.1 K)))→FnOk Pg w K mg base (L2.CX Pg w) 11 f fd ["_law_script"] (spF (BkT w K) 1 jQL):=by
 obtain ⟨fd_is_wish,F_is_wish⟩:=DefL.funD (d:=jMD) (c.def_ 0 (d:=jMD) rfl).1 (c.def_ 0 (d:=jMD) rfl).2 rfl
 obtain ⟨fd_check_wish,F_check_wish⟩:=DefL.funD (d:=jGJ) (c.def_ 1 (d:=jGJ) rfl).1 (c.def_ 1 (d:=jGJ) rfl).2 rfl
 obtain ⟨fd_first_stand,F_first_stand⟩:=DefL.funD (d:=jFH) (c.def_ 2 (d:=jFH) rfl).1 (c.def_ 2 (d:=jFH) rfl).2 rfl
 obtain ⟨fd_is_stand,F_is_stand⟩:=DefL.funD (d:=jJL) (c.def_ 3 (d:=jJL) rfl).1 (c.def_ 3 (d:=jJL) rfl).2 rfl
 obtain ⟨fd_Way_drop_answer,F_Way_drop_answer⟩:=DefL.funD (d:=jCS) (c.def_ 4 (d:=jCS) rfl).1 (c.def_ 4 (d:=jCS) rfl).2 rfl
 obtain ⟨fd_drop_steps,F_drop_steps⟩:=DefL.funD (d:=jGI) (c.def_ 5 (d:=jGI) rfl).1 (c.def_ 5 (d:=jGI) rfl).2 rfl
 obtain ⟨fd_Way_number_answer,F_Way_number_answer⟩:=DefL.funD (d:=jBK) (c.def_ 6 (d:=jBK) rfl).1 (c.def_ 6 (d:=jBK) rfl).2 rfl
 obtain ⟨fd_number_steps,F_number_steps⟩:=DefL.funD (d:=jER) (c.def_ 7 (d:=jER) rfl).1 (c.def_ 7 (d:=jER) rfl).2 rfl
 obtain ⟨fd_landed_steps,F_landed_steps⟩:=DefL.funD (d:=jES) (c.def_ 8 (d:=jES) rfl).1 (c.def_ 8 (d:=jES) rfl).2 rfl
 obtain ⟨fd_return_steps,F_return_steps⟩:=DefL.funD (d:=jEQ) (c.def_ 9 (d:=jEQ) rfl).1 (c.def_ 9 (d:=jEQ) rfl).2 rfl
 obtain ⟨fd_steps_from,F_steps_from⟩:=DefL.funD (d:=jGH) (c.def_ 10 (d:=jGH) rfl).1 (c.def_ 10 (d:=jGH) rfl).2 rfl
 obtain ⟨fd_reached,F_reached⟩:=DefL.funD (d:=jMC) (c.def_ 11 (d:=jMC) rfl).1 (c.def_ 11 (d:=jMC) rfl).2 rfl
 obtain ⟨fd_shortest,F_shortest⟩:=DefL.funD (d:=jJJ) (c.def_ 12 (d:=jJJ) rfl).1 (c.def_ 12 (d:=jJJ) rfl).2 rfl
 obtain ⟨fd_is_table,F_is_table⟩:=DefL.funD (d:=jJK) (c.def_ 13 (d:=jJK) rfl).1 (c.def_ 13 (d:=jJK) rfl).2 rfl
 obtain ⟨fd_Way___init__,F_Way___init__⟩:=DefL.funD (d:=vY) (c.def_ 14 (d:=vY) rfl).1 (c.def_ 14 (d:=vY) rfl).2 rfl
 obtain ⟨fd_Way_but,F_Way_but⟩:=DefL.funD (d:=qJ) (c.def_ 15 (d:=qJ) rfl).1 (c.def_ 15 (d:=qJ) rfl).2 rfl
 obtain ⟨fd_mended,F_mended⟩:=DefL.funD (d:=jOQ) (c.def_ 16 (d:=jOQ) rfl).1 (c.def_ 16 (d:=jOQ) rfl).2 rfl
 obtain ⟨fd_kept_wishes,F_kept_wishes⟩:=DefL.funD (d:=jFG) (c.def_ 17 (d:=jFG) rfl).1 (c.def_ 17 (d:=jFG) rfl).2 rfl
 obtain ⟨fd_sets_of_mends,F_sets_of_mends⟩:=DefL.funD (d:=jEE) (c.def_ 18 (d:=jEE) rfl).1 (c.def_ 18 (d:=jEE) rfl).2 rfl
 obtain ⟨fd_least_mends,F_least_mends⟩:=DefL.funD (d:=jFF) (c.def_ 19 (d:=jFF) rfl).1 (c.def_ 19 (d:=jFF) rfl).2 rfl
 obtain ⟨fd__law_open,F__law_open⟩:=DefL.funD (d:=jHZ) (c.def_ 20 (d:=jHZ) rfl).1 (c.def_ 20 (d:=jHZ) rfl).2 rfl
 obtain ⟨fd__law_draw,F__law_draw⟩:=DefL.funD (d:=jIB) (c.def_ 21 (d:=jIB) rfl).1 (c.def_ 21 (d:=jIB) rfl).2 rfl
 obtain ⟨fd__law_of,F__law_of⟩:=DefL.funD (d:=jME) (c.def_ 22 (d:=jME) rfl).1 (c.def_ 22 (d:=jME) rfl).2 rfl
 obtain ⟨fd__law_like,F__law_like⟩:=DefL.funD (d:=jIA) (c.def_ 23 (d:=jIA) rfl).1 (c.def_ 23 (d:=jIA) rfl).2 rfl
 obtain ⟨fd__law_field,F__law_field⟩:=DefL.funD (d:=jGM) (c.def_ 24 (d:=jGM) rfl).1 (c.def_ 24 (d:=jGM) rfl).2 rfl
 obtain ⟨fd__law_try,F__law_try⟩:=DefL.funD (d:=jJN) (c.def_ 25 (d:=jJN) rfl).1 (c.def_ 25 (d:=jJN) rfl).2 rfl
 obtain ⟨fd__law_some_spec,F__law_some_spec⟩:=DefL.funD (d:=jDO) (c.def_ 26 (d:=jDO) rfl).1 (c.def_ 26 (d:=jDO) rfl).2 rfl
 obtain ⟨fd__law_way,F__law_way⟩:=DefL.funD (d:=jJM) (c.def_ 27 (d:=jJM) rfl).1 (c.def_ 27 (d:=jJM) rfl).2 rfl
 obtain ⟨fd__law_wishes,F__law_wishes⟩:=DefL.funD (d:=jFI) (c.def_ 28 (d:=jFI) rfl).1 (c.def_ 28 (d:=jFI) rfl).2 rfl
 obtain ⟨fd__law_put,F__law_put⟩:=DefL.funD (d:=jJO) (c.def_ 29 (d:=jJO) rfl).1 (c.def_ 29 (d:=jJO) rfl).2 rfl
 obtain ⟨fd__law_number_taken,F__law_number_taken⟩:=DefL.funD (d:=jBH) (c.def_ 30 (d:=jBH) rfl).1 (c.def_ 30 (d:=jBH) rfl).2 rfl
 obtain ⟨fd__law_drop_steps,F__law_drop_steps⟩:=DefL.funD (d:=jCR) (c.def_ 31 (d:=jCR) rfl).1 (c.def_ 31 (d:=jCR) rfl).2 rfl
 obtain ⟨fd__law_number_steps,F__law_number_steps⟩:=DefL.funD (d:=jBI) (c.def_ 32 (d:=jBI) rfl).1 (c.def_ 32 (d:=jBI) rfl).2 rfl
 obtain ⟨fd__law_landed_steps,F__law_landed_steps⟩:=DefL.funD (d:=jBJ) (c.def_ 33 (d:=jBJ) rfl).1 (c.def_ 33 (d:=jBJ) rfl).2 rfl
 obtain ⟨fd__law_return_steps,F__law_return_steps⟩:=DefL.funD (d:=jBG) (c.def_ 34 (d:=jBG) rfl).1 (c.def_ 34 (d:=jBG) rfl).2 rfl
 obtain ⟨fd__law_steps,F__law_steps⟩:=DefL.funD (d:=jGK) (c.def_ 35 (d:=jGK) rfl).1 (c.def_ 35 (d:=jGK) rfl).2 rfl
 obtain ⟨fd__law_first,F__law_first⟩:=DefL.funD (d:=jGL) (c.def_ 36 (d:=jGL) rfl).1 (c.def_ 36 (d:=jGL) rfl).2 rfl
 obtain ⟨fd__law_reached,F__law_reached⟩:=DefL.funD (d:=jET) (c.def_ 37 (d:=jET) rfl).1 (c.def_ 37 (d:=jET) rfl).2 rfl
 obtain ⟨fd__law_fewest,F__law_fewest⟩:=DefL.funD (d:=jFJ) (c.def_ 38 (d:=jFJ) rfl).1 (c.def_ 38 (d:=jFJ) rfl).2 rfl
 obtain ⟨fd__law_mended_spec,F__law_mended_spec⟩:=DefL.funD (d:=jCF) (c.def_ 39 (d:=jCF) rfl).1 (c.def_ 39 (d:=jCF) rfl).2 rfl
 obtain ⟨fd__law_mend_sets,F__law_mend_sets⟩:=DefL.funD (d:=jDP) (c.def_ 40 (d:=jDP) rfl).1 (c.def_ 40 (d:=jDP) rfl).2 rfl
 obtain ⟨fd__law_least_mends,F__law_least_mends⟩:=DefL.funD (d:=jCG) (c.def_ 41 (d:=jCG) rfl).1 (c.def_ 41 (d:=jCG) rfl).2 rfl
 obtain ⟨fd_law,F_law⟩:=DefL.funD (d:=yEC) (c.def_ 42 (d:=yEC) rfl).1 (c.def_ 42 (d:=yEC) rfl).2 rfl
 have h_is_wish:mg "is_wish" = some (.ref (He.ga K "is_wish")):=He.glo_ok X G (c.fact 0 (f:=(fun K _=>(He.Fa.glo "is_wish").ok K)) rfl)
 have h_check_wish:mg "check_wish" = some (.ref (He.ga K "check_wish")):=He.glo_ok X G (c.fact 1 (f:=(fun K _=>(He.Fa.glo "check_wish").ok K)) rfl)
 have h_first_stand:mg "first_stand" = some (.ref (He.ga K "first_stand")):=He.glo_ok X G (c.fact 2 (f:=(fun K _=>(He.Fa.glo "first_stand").ok K)) rfl)
 have h_is_stand:mg "is_stand" = some (.ref (He.ga K "is_stand")):=He.glo_ok X G (c.fact 3 (f:=(fun K _=>(He.Fa.glo "is_stand").ok K)) rfl)
 have h_drop_steps:mg "drop_steps" = some (.ref (He.ga K "drop_steps")):=He.glo_ok X G (c.fact 4 (f:=(fun K _=>(He.Fa.glo "drop_steps").ok K)) rfl)
 have h_number_steps:mg "number_steps" = some (.ref (He.ga K "number_steps")):=He.glo_ok X G (c.fact 5 (f:=(fun K _=>(He.Fa.glo "number_steps").ok K)) rfl)
 have h_landed_steps:mg "landed_steps" = some (.ref (He.ga K "landed_steps")):=He.glo_ok X G (c.fact 6 (f:=(fun K _=>(He.Fa.glo "landed_steps").ok K)) rfl)
 have h_return_steps:mg "return_steps" = some (.ref (He.ga K "return_steps")):=He.glo_ok X G (c.fact 7 (f:=(fun K _=>(He.Fa.glo "return_steps").ok K)) rfl)
 have h_steps_from:mg "steps_from" = some (.ref (He.ga K "steps_from")):=He.glo_ok X G (c.fact 8 (f:=(fun K _=>(He.Fa.glo "steps_from").ok K)) rfl)
 have h_reached:mg "reached" = some (.ref (He.ga K "reached")):=He.glo_ok X G (c.fact 9 (f:=(fun K _=>(He.Fa.glo "reached").ok K)) rfl)
 have h_shortest:mg "shortest" = some (.ref (He.ga K "shortest")):=He.glo_ok X G (c.fact 10 (f:=(fun K _=>(He.Fa.glo "shortest").ok K)) rfl)
 have h_is_table:mg "is_table" = some (.ref (He.ga K "is_table")):=He.glo_ok X G (c.fact 11 (f:=(fun K _=>(He.Fa.glo "is_table").ok K)) rfl)
 have h_mended:mg "mended" = some (.ref (He.ga K "mended")):=He.glo_ok X G (c.fact 12 (f:=(fun K _=>(He.Fa.glo "mended").ok K)) rfl)
 have h_kept_wishes:mg "kept_wishes" = some (.ref (He.ga K "kept_wishes")):=He.glo_ok X G (c.fact 13 (f:=(fun K _=>(He.Fa.glo "kept_wishes").ok K)) rfl)
 have h_sets_of_mends:mg "sets_of_mends" = some (.ref (He.ga K "sets_of_mends")):=He.glo_ok X G (c.fact 14 (f:=(fun K _=>(He.Fa.glo "sets_of_mends").ok K)) rfl)
 have h_least_mends:mg "least_mends" = some (.ref (He.ga K "least_mends")):=He.glo_ok X G (c.fact 15 (f:=(fun K _=>(He.Fa.glo "least_mends").ok K)) rfl)
 have h__law_open:mg "_law_open" = some (.ref (He.ga K "_law_open")):=He.glo_ok X G (c.fact 16 (f:=(fun K _=>(He.Fa.glo "_law_open").ok K)) rfl)
 have h__law_draw:mg "_law_draw" = some (.ref (He.ga K "_law_draw")):=He.glo_ok X G (c.fact 17 (f:=(fun K _=>(He.Fa.glo "_law_draw").ok K)) rfl)
 have h__law_of:mg "_law_of" = some (.ref (He.ga K "_law_of")):=He.glo_ok X G (c.fact 18 (f:=(fun K _=>(He.Fa.glo "_law_of").ok K)) rfl)
 have h__law_like:mg "_law_like" = some (.ref (He.ga K "_law_like")):=He.glo_ok X G (c.fact 19 (f:=(fun K _=>(He.Fa.glo "_law_like").ok K)) rfl)
 have h__law_field:mg "_law_field" = some (.ref (He.ga K "_law_field")):=He.glo_ok X G (c.fact 20 (f:=(fun K _=>(He.Fa.glo "_law_field").ok K)) rfl)
 have h__law_try:mg "_law_try" = some (.ref (He.ga K "_law_try")):=He.glo_ok X G (c.fact 21 (f:=(fun K _=>(He.Fa.glo "_law_try").ok K)) rfl)
 have h__law_some_spec:mg "_law_some_spec" = some (.ref (He.ga K "_law_some_spec")):=He.glo_ok X G (c.fact 22 (f:=(fun K _=>(He.Fa.glo "_law_some_spec").ok K)) rfl)
 have h__law_way:mg "_law_way" = some (.ref (He.ga K "_law_way")):=He.glo_ok X G (c.fact 23 (f:=(fun K _=>(He.Fa.glo "_law_way").ok K)) rfl)
 have h__law_wishes:mg "_law_wishes" = some (.ref (He.ga K "_law_wishes")):=He.glo_ok X G (c.fact 24 (f:=(fun K _=>(He.Fa.glo "_law_wishes").ok K)) rfl)
 have h__law_put:mg "_law_put" = some (.ref (He.ga K "_law_put")):=He.glo_ok X G (c.fact 25 (f:=(fun K _=>(He.Fa.glo "_law_put").ok K)) rfl)
 have h__law_number_taken:mg "_law_number_taken" = some (.ref (He.ga K "_law_number_taken")):=He.glo_ok X G (c.fact 26 (f:=(fun K _=>(He.Fa.glo "_law_number_taken").ok K)) rfl)
 have h__law_drop_steps:mg "_law_drop_steps" = some (.ref (He.ga K "_law_drop_steps")):=He.glo_ok X G (c.fact 27 (f:=(fun K _=>(He.Fa.glo "_law_drop_steps").ok K)) rfl)
 have h__law_number_steps:mg "_law_number_steps" = some (.ref (He.ga K "_law_number_steps")):=He.glo_ok X G (c.fact 28 (f:=(fun K _=>(He.Fa.glo "_law_number_steps").ok K)) rfl)
 have h__law_landed_steps:mg "_law_landed_steps" = some (.ref (He.ga K "_law_landed_steps")):=He.glo_ok X G (c.fact 29 (f:=(fun K _=>(He.Fa.glo "_law_landed_steps").ok K)) rfl)
 have h__law_return_steps:mg "_law_return_steps" = some (.ref (He.ga K "_law_return_steps")):=He.glo_ok X G (c.fact 30 (f:=(fun K _=>(He.Fa.glo "_law_return_steps").ok K)) rfl)
 have h__law_steps:mg "_law_steps" = some (.ref (He.ga K "_law_steps")):=He.glo_ok X G (c.fact 31 (f:=(fun K _=>(He.Fa.glo "_law_steps").ok K)) rfl)
 have h__law_first:mg "_law_first" = some (.ref (He.ga K "_law_first")):=He.glo_ok X G (c.fact 32 (f:=(fun K _=>(He.Fa.glo "_law_first").ok K)) rfl)
 have h__law_reached:mg "_law_reached" = some (.ref (He.ga K "_law_reached")):=He.glo_ok X G (c.fact 33 (f:=(fun K _=>(He.Fa.glo "_law_reached").ok K)) rfl)
 have h__law_fewest:mg "_law_fewest" = some (.ref (He.ga K "_law_fewest")):=He.glo_ok X G (c.fact 34 (f:=(fun K _=>(He.Fa.glo "_law_fewest").ok K)) rfl)
 have h__law_mended_spec:mg "_law_mended_spec" = some (.ref (He.ga K "_law_mended_spec")):=He.glo_ok X G (c.fact 35 (f:=(fun K _=>(He.Fa.glo "_law_mended_spec").ok K)) rfl)
 have h__law_mend_sets:mg "_law_mend_sets" = some (.ref (He.ga K "_law_mend_sets")):=He.glo_ok X G (c.fact 36 (f:=(fun K _=>(He.Fa.glo "_law_mend_sets").ok K)) rfl)
 have h__law_least_mends:mg "_law_least_mends" = some (.ref (He.ga K "_law_least_mends")):=He.glo_ok X G (c.fact 37 (f:=(fun K _=>(He.Fa.glo "_law_least_mends").ok K)) rfl)
 have h_law:mg "law" = some (.ref (He.ga K "law")):=He.glo_ok X G (c.fact 38 (f:=(fun K _=>(He.Fa.glo "law").ok K)) rfl)
 have h_DropError:mg "DropError" = some (.ref (He.ga K "DropError")):=He.glo_ok X G (c.fact 51 (f:=(fun K _=>(He.Fa.glo "DropError").ok K)) rfl)
 have h_Missing:mg "Missing" = some (.ref (He.ga K "Missing")):=He.glo_ok X G (c.fact 52 (f:=(fun K _=>(He.Fa.glo "Missing").ok K)) rfl)
 have h_NothingLeft:mg "NothingLeft" = some (.ref (He.ga K "NothingLeft")):=He.glo_ok X G (c.fact 53 (f:=(fun K _=>(He.Fa.glo "NothingLeft").ok K)) rfl)
 have g:Gm mg:=⟨trivial,
  He.free_ok X G (c.fact 39 (f:=(fun K _=>(He.Fa.free "all").ok K)) rfl),
  He.free_ok X G (c.fact 40 (f:=(fun K _=>(He.Fa.free "any").ok K)) rfl),
  He.free_ok X G (c.fact 41 (f:=(fun K _=>(He.Fa.free "bool").ok K)) rfl),
  He.free_ok X G (c.fact 42 (f:=(fun K _=>(He.Fa.free "int").ok K)) rfl),
  He.free_ok X G (c.fact 43 (f:=(fun K _=>(He.Fa.free "isinstance").ok K)) rfl),
  He.free_ok X G (c.fact 44 (f:=(fun K _=>(He.Fa.free "len").ok K)) rfl),
  He.free_ok X G (c.fact 45 (f:=(fun K _=>(He.Fa.free "list").ok K)) rfl),
  He.free_ok X G (c.fact 46 (f:=(fun K _=>(He.Fa.free "range").ok K)) rfl),
  He.free_ok X G (c.fact 47 (f:=(fun K _=>(He.Fa.free "sorted").ok K)) rfl),
  He.free_ok X G (c.fact 48 (f:=(fun K _=>(He.Fa.free "str").ok K)) rfl),
  He.free_ok X G (c.fact 49 (f:=(fun K _=>(He.Fa.free "tuple").ok K)) rfl),
  He.free_ok X G (c.fact 50 (f:=(fun K _=>(He.Fa.free "zip").ok K)) rfl)⟩
 have κ:Km w K (BkT w K) mg:=⟨cfT c,
  ⟨He.cls_ok (c.fact 83 (f:=(fun K _=>(He.Fa.cls "Way").ok K)) rfl),show ∀ m∈(["drop_answer", "number_answer", "but"]:List Str),m∉vCT yJ from by decide⟩,
  He.glo_ok X G (c.fact 82 (f:=(fun K _=>(He.Fa.glo "Way").ok K)) rfl),
  yTB (He.glo_ok X G (c.fact 100 (f:=(fun K _=>(He.Fa.glo "WORDS").ok K)) rfl)) (c.dicW 0 (t:=(fun K=>He.ga K "WORDS", jHD.map (·.1))) rfl) (c.fact 101 (f:=(fun K _=>yUT K (He.ga K "WORDS") jHD)) rfl),
  yTA (He.glo_ok X G (c.fact 102 (f:=(fun K _=>(He.Fa.glo "SIZES").ok K)) rfl)) (c.dicW 1 (t:=(fun K=>He.ga K "SIZES", jKP.map (·.1))) rfl) (c.fact 103 (f:=(fun K _=>yIF K (He.ga K "SIZES") jKP)) rfl),
  He.glo_ok X G (c.fact 93 (f:=(fun K _=>(He.Fa.glo "BROKEN").ok K)) rfl),
  jST (c.fact 94 (f:=(fun K _=>jQJ K (He.ga K "BROKEN") [.str "broken"])) rfl),
  He.glo_ok X G (c.fact 95 (f:=(fun K _=>(He.Fa.glo "WISHES").ok K)) rfl),
  jST (c.fact 96 (f:=(fun K _=>jQJ K (He.ga K "WISHES") [.str "lands", .str "stays", .str "still", .str "returns", .str "heard", .str "numbered"])) rfl),
  He.glo_ok X G (c.fact 97 (f:=(fun K _=>(He.Fa.glo "MENDS").ok K)) rfl),
  jST (c.fact 98 (f:=(fun K _=>jQJ K (He.ga K "MENDS") [.str "hidden", .str "whole", .str "one", .str "all", .str "drops", .str "numbers"])) rfl),
  yLW (c.fact 99 (f:=(fun K _=>yED K (He.ga K "Way") "LOCKS" [.str "none", .str "one", .str "all"])) rfl)⟩
 have e:=hfa.symm.trans h_law
 obtain rfl:f=He.ga K "law" := by injection e with e; injection e
 have b:=FunD.bindsA (ps:=["_law_script"]) F_law fun _ _ _ _ _ _ us hl=>match us,hl with | [_],_=>rfl
 have XC:=xcT c
 refine ⟨fd_law,fun s v=>b s [v] rfl,fun base _ _ TBs=>?_⟩
 have X_InvalidTable:ExcC Pg w K mg base (BkT w K) 1 "InvalidTable" 0 1 jAN:=jRM X G c
 have X_InvalidOption:ExcC Pg w K mg base (BkT w K) 1 "InvalidOption" 1 1 vL:=jQB X G c
 have X_InvalidWish:ExcC Pg w K mg base (BkT w K) 1 "InvalidWish" 2 1 jDB:=jUC X G c
 have X_InvalidStand:ExcC Pg w K mg base (BkT w K) 1 "InvalidStand" 3 1 jCJ:=jRN X G c
 have O_is_wish:=yDK (P:=Pg) (w:=w) (base:=base) (B:=BkT w K) rfl rfl g κ F_is_wish  
 have N_is_wish:Fn Pg w K mg base (BkT w K) 1 "is_wish" 1 jGP:=⟨_,_,_,O_is_wish,h_is_wish,F_is_wish.kp,(F_is_wish.bindsN fun _ _ _ _ _ _ us hl=>match us,hl with | [_],_=>rfl)⟩
 have O_check_wish:=jUW (P:=Pg) (w:=w) (base:=base) (B:=BkT w K) rfl rfl g κ F_check_wish  (N_is_wish.mono (by decide)) ⟨1,by decide,X_InvalidWish⟩
 have N_check_wish:Fn Pg w K mg base (BkT w K) 3 "check_wish" 1 uF:=⟨_,_,_,O_check_wish,h_check_wish,F_check_wish.kp,(F_check_wish.bindsN fun _ _ _ _ _ _ us hl=>match us,hl with | [_],_=>rfl)⟩
 have O_first_stand:=jTZ (P:=Pg) (w:=w) (base:=base) (B:=BkT w K) rfl rfl g κ F_first_stand  (N_check_wish.mono (by decide))
 have N_first_stand:Fn Pg w K mg base (BkT w K) 4 "first_stand" 1 jAB:=⟨_,_,_,O_first_stand,h_first_stand,F_first_stand.kp,(F_first_stand.bindsN fun _ _ _ _ _ _ us hl=>match us,hl with | [_],_=>rfl)⟩
 have O_is_stand:=yBH (P:=Pg) (w:=w) (base:=base) (B:=BkT w K) rfl rfl g κ F_is_stand  (N_check_wish.mono (by decide))
 have N_is_stand:Fn Pg w K mg base (BkT w K) 4 "is_stand" 2 jFD:=⟨_,_,_,O_is_stand,h_is_stand,F_is_stand.kp,(F_is_stand.bindsN fun _ _ _ _ _ _ us hl=>match us,hl with | [_,_],_=>rfl)⟩
 have O_Way_drop_answer:=jNU (P:=Pg) (w:=w) (base:=base) (B:=BkT w K) rfl rfl g κ F_Way_drop_answer  
 have NE_Way_drop_answer_3_:MeA Pg w K mg base (BkT w K) 1 yJ "drop_answer" 3 [] [0,1,2,3] [] 4 qL:=Me.of (He.meth_ok (c.fact 89 (f:=(fun K _=>(He.Fa.meth "Way" "drop_answer").ok K)) rfl)) O_Way_drop_answer (yUA (B:=BkT w K) (ps:=["self", "elder", "again", "apart"]) F_Way_drop_answer 4 [] [0,1,2,3] fun _ _ _ _ _ _ us ws l1 l2=>match us,ws,l1,l2 with | [_,_,_,_],[],_,_=>rfl)
 have O_drop_steps:=jUV (P:=Pg) (w:=w) (base:=base) (B:=BkT w K) rfl rfl g κ F_drop_steps  (NE_Way_drop_answer_3_.mono (by decide))
 have N_drop_steps:Fn Pg w K mg base (BkT w K) 2 "drop_steps" 3 jDM:=⟨_,_,_,O_drop_steps,h_drop_steps,F_drop_steps.kp,(F_drop_steps.bindsN fun _ _ _ _ _ _ us hl=>match us,hl with | [_,_,_],_=>rfl)⟩
 have O_Way_number_answer:=jLQ (P:=Pg) (w:=w) (base:=base) (B:=BkT w K) rfl rfl g κ F_Way_number_answer  
 have NE_Way_number_answer_2_:MeA Pg w K mg base (BkT w K) 1 yJ "number_answer" 2 [] [0,1,2] [] 3 yU:=Me.of (He.meth_ok (c.fact 90 (f:=(fun K _=>(He.Fa.meth "Way" "number_answer").ok K)) rfl)) O_Way_number_answer (yUA (B:=BkT w K) (ps:=["self", "elder", "dropped"]) F_Way_number_answer 3 [] [0,1,2] fun _ _ _ _ _ _ us ws l1 l2=>match us,ws,l1,l2 with | [_,_,_],[],_,_=>rfl)
 have O_number_steps:=jRI (P:=Pg) (w:=w) (base:=base) (B:=BkT w K) rfl rfl g κ F_number_steps  (NE_Way_number_answer_2_.mono (by decide))
 have N_number_steps:Fn Pg w K mg base (BkT w K) 2 "number_steps" 3 jBY:=⟨_,_,_,O_number_steps,h_number_steps,F_number_steps.kp,(F_number_steps.bindsN fun _ _ _ _ _ _ us hl=>match us,hl with | [_,_,_],_=>rfl)⟩
 have O_landed_steps:=jRJ (P:=Pg) (w:=w) (base:=base) (B:=BkT w K) rfl rfl g κ F_landed_steps  (NE_Way_number_answer_2_.mono (by decide))
 have N_landed_steps:Fn Pg w K mg base (BkT w K) 2 "landed_steps" 2 jBZ:=⟨_,_,_,O_landed_steps,h_landed_steps,F_landed_steps.kp,(F_landed_steps.bindsN fun _ _ _ _ _ _ us hl=>match us,hl with | [_,_],_=>rfl)⟩
 have O_return_steps:=jRH (P:=Pg) (w:=w) (base:=base) (B:=BkT w K) rfl rfl g κ F_return_steps  (NE_Way_number_answer_2_.mono (by decide))
 have N_return_steps:Fn Pg w K mg base (BkT w K) 2 "return_steps" 2 jBX:=⟨_,_,_,O_return_steps,h_return_steps,F_return_steps.kp,(F_return_steps.bindsN fun _ _ _ _ _ _ us hl=>match us,hl with | [_,_],_=>rfl)⟩
 have O_steps_from:=jUU (P:=Pg) (w:=w) (base:=base) (B:=BkT w K) rfl rfl g κ F_steps_from  (N_is_stand.mono (by decide)) (N_drop_steps.mono (by decide)) (N_landed_steps.mono (by decide)) (N_return_steps.mono (by decide)) (N_number_steps.mono (by decide)) ⟨1,by decide,X_InvalidStand⟩
 have N_steps_from:Fn Pg w K mg base (BkT w K) 5 "steps_from" 3 jAV:=⟨_,_,_,O_steps_from,h_steps_from,F_steps_from.kp,(F_steps_from.bindsN fun _ _ _ _ _ _ us hl=>match us,hl with | [_,_,_],_=>rfl)⟩
 have O_reached:=yDJ (P:=Pg) (w:=w) (base:=base) (B:=BkT w K) rfl rfl g κ F_reached  (N_first_stand.mono (by decide)) (N_steps_from.mono (by decide))
 have N_reached:Fn Pg w K mg base (BkT w K) 6 "reached" 2 jDK:=⟨_,_,_,O_reached,h_reached,F_reached.kp,(F_reached.bindsN fun _ _ _ _ _ _ us hl=>match us,hl with | [_,_],_=>rfl)⟩
 have O_shortest:=yBF (P:=Pg) (w:=w) (base:=base) (B:=BkT w K) rfl rfl g κ F_shortest  (N_reached.mono (by decide))
 have N_shortest:Fn Pg w K mg base (BkT w K) 7 "shortest" 2 wW:=⟨_,_,_,O_shortest,h_shortest,F_shortest.kp,(F_shortest.bindsN fun _ _ _ _ _ _ us hl=>match us,hl with | [_,_],_=>rfl)⟩
 have O_is_table:=yBG (P:=Pg) (w:=w) (base:=base) (B:=BkT w K) rfl rfl g κ F_is_table  
 have N_is_table:Fn Pg w K mg base (BkT w K) 1 "is_table" 2 jCD:=⟨_,_,_,O_is_table,h_is_table,F_is_table.kp,(F_is_table.bindsN fun _ _ _ _ _ _ us hl=>match us,hl with | [_,_],_=>rfl)⟩
 have O_Way___init__:=jRL (P:=Pg) (w:=w) (base:=base) (B:=BkT w K) rfl rfl g κ F_Way___init__  (N_is_table.mono (by decide)) ⟨1,by decide,X_InvalidTable⟩ ⟨1,by decide,X_InvalidOption⟩
 have NM_Way_0_:MkA Pg w K mg base (BkT w K) 4 "Way" yJ 0 [] [0,1,2,3,4,5] [.str "tttttttt", .str "tttt", .bl false,.bl false,.str "none"] 6 yD:=⟨3,by decide,MkC.of (He.mkr_ok (c.fact 91 (f:=(fun K _=>(He.Fa.mkr "Way").ok K)) rfl)) O_Way___init__ κ.n_Way (yCL (B:=BkT w K) (ps:=["self", "drops", "numbers", "stretches", "hidden", "lock"]) F_Way___init__ 1 [] [("stretches", .bl false),("hidden", .bl false),("lock", .str "none")] [0,1,2,3,4,5] [.str "tttttttt", .str "tttt", .bl false,.bl false,.str "none"] (by simp [vY]) (by simp [vY]) (by simp [vY,He.Dv.v]) (fun _=>(.cons (.str _ (jJ (by decide +kernel))) (.cons (.str _ (jJ (by decide +kernel))) (.cons (.bl _) (.cons (.bl _) (.cons (.str _ (jJ (by decide +kernel))) .nil)))))) fun _ _ _ _ _ _ _ us its mv ws l1 l2 l3 l4=>match us,its,mv,ws,l1,l2,l3,l4 with | [_],[_,_],[_,_,_],[],_,_,_,_=>⟨_,rfl,⟨_,_,_,_,_,_,rfl,rfl,⟨_,_,_,_,_,_,rfl,rfl,⟨_,_,_,_,_,_,rfl,rfl,rfl⟩⟩⟩⟩)⟩
 have NM_Way_0_stretches:MkA Pg w K mg base (BkT w K) 4 "Way" yJ 0 ["stretches"] [0,2,3,1,4,5] [.str "tttttttt", .str "tttt", .bl false,.str "none"] 6 yD:=⟨3,by decide,MkC.of (He.mkr_ok (c.fact 91 (f:=(fun K _=>(He.Fa.mkr "Way").ok K)) rfl)) O_Way___init__ κ.n_Way (yCL (B:=BkT w K) (ps:=["self", "drops", "numbers", "stretches", "hidden", "lock"]) F_Way___init__ 1 ["stretches"] [("hidden", .bl false),("lock", .str "none")] [0,2,3,1,4,5] [.str "tttttttt", .str "tttt", .bl false,.str "none"] (by simp [vY]) (by simp [vY]) (by simp [vY,He.Dv.v]) (fun _=>(.cons (.str _ (jJ (by decide +kernel))) (.cons (.str _ (jJ (by decide +kernel))) (.cons (.bl _) (.cons (.str _ (jJ (by decide +kernel))) .nil))))) fun _ _ _ _ _ _ _ us its mv ws l1 l2 l3 l4=>match us,its,mv,ws,l1,l2,l3,l4 with | [_],[_,_],[_,_],[_],_,_,_,_=>⟨_,rfl,⟨_,_,_,_,_,_,rfl,rfl,⟨_,_,_,_,_,_,rfl,rfl,rfl⟩⟩⟩)⟩
 have NM_Way_2_stretches_hidden_lock:MkA Pg w K mg base (BkT w K) 4 "Way" yJ 2 ["stretches", "hidden", "lock"] [0,1,2,3,4,5] [.str "tttttttt", .str "tttt"] 6 yD:=⟨3,by decide,MkC.of (He.mkr_ok (c.fact 91 (f:=(fun K _=>(He.Fa.mkr "Way").ok K)) rfl)) O_Way___init__ κ.n_Way (yCL (B:=BkT w K) (ps:=["self", "drops", "numbers", "stretches", "hidden", "lock"]) F_Way___init__ 3 ["stretches", "hidden", "lock"] [] [0,1,2,3,4,5] [.str "tttttttt", .str "tttt"] (by simp [vY]) (by simp [vY]) (by simp [vY,He.Dv.v]) (fun _=>(.cons (.str _ (jJ (by decide +kernel))) (.cons (.str _ (jJ (by decide +kernel))) .nil))) fun _ _ _ _ _ _ _ us its mv ws l1 l2 l3 l4=>match us,its,mv,ws,l1,l2,l3,l4 with | [_,_,_],[_,_],[],[_,_,_],_,_,_,_=>⟨_,rfl,rfl⟩)⟩
 have O_Way_but:=yDM (P:=Pg) (w:=w) (base:=base) (B:=BkT w K) rfl rfl g κ F_Way_but  (NM_Way_2_stretches_hidden_lock.mono (by decide))
 have NE_Way_but_0_drops:MeA Pg w K mg base (BkT w K) 5 yJ "but" 0 ["drops"] [0,1,2,3,4,5] [.non,.non,.non,.non] 6 yR:=Me.of (He.meth_ok (c.fact 92 (f:=(fun K _=>(He.Fa.meth "Way" "but").ok K)) rfl)) O_Way_but (jZG (B:=BkT w K) (ps:=["self", "drops", "numbers", "stretches", "hidden", "lock"]) F_Way_but 1 ["drops"] [("numbers", .non),("stretches", .non),("hidden", .non),("lock", .non)] [0,1,2,3,4,5] [.non,.non,.non,.non] (by simp [qJ]) (by simp [qJ,He.Dv.v]) (fun _=>(.cons .non (.cons .non (.cons .non (.cons .non .nil))))) fun _ _ _ _ _ _ us mv ws l1 l3 l4=>match us,mv,ws,l1,l3,l4 with | [_],[_,_,_,_],[_],_,_,_=>⟨_,_,_,_,_,_,rfl,rfl,⟨_,_,_,_,_,_,rfl,rfl,⟨_,_,_,_,_,_,rfl,rfl,⟨_,_,_,_,_,_,rfl,rfl,rfl⟩⟩⟩⟩)
 have NE_Way_but_0_hidden:MeA Pg w K mg base (BkT w K) 5 yJ "but" 0 ["hidden"] [0,2,3,4,1,5] [.non,.non,.non,.non] 6 yR:=Me.of (He.meth_ok (c.fact 92 (f:=(fun K _=>(He.Fa.meth "Way" "but").ok K)) rfl)) O_Way_but (jZG (B:=BkT w K) (ps:=["self", "drops", "numbers", "stretches", "hidden", "lock"]) F_Way_but 1 ["hidden"] [("drops", .non),("numbers", .non),("stretches", .non),("lock", .non)] [0,2,3,4,1,5] [.non,.non,.non,.non] (by simp [qJ]) (by simp [qJ,He.Dv.v]) (fun _=>(.cons .non (.cons .non (.cons .non (.cons .non .nil))))) fun _ _ _ _ _ _ us mv ws l1 l3 l4=>match us,mv,ws,l1,l3,l4 with | [_],[_,_,_,_],[_],_,_,_=>⟨_,_,_,_,_,_,rfl,rfl,⟨_,_,_,_,_,_,rfl,rfl,⟨_,_,_,_,_,_,rfl,rfl,⟨_,_,_,_,_,_,rfl,rfl,rfl⟩⟩⟩⟩)
 have NE_Way_but_0_lock:MeA Pg w K mg base (BkT w K) 5 yJ "but" 0 ["lock"] [0,2,3,4,5,1] [.non,.non,.non,.non] 6 yR:=Me.of (He.meth_ok (c.fact 92 (f:=(fun K _=>(He.Fa.meth "Way" "but").ok K)) rfl)) O_Way_but (jZG (B:=BkT w K) (ps:=["self", "drops", "numbers", "stretches", "hidden", "lock"]) F_Way_but 1 ["lock"] [("drops", .non),("numbers", .non),("stretches", .non),("hidden", .non)] [0,2,3,4,5,1] [.non,.non,.non,.non] (by simp [qJ]) (by simp [qJ,He.Dv.v]) (fun _=>(.cons .non (.cons .non (.cons .non (.cons .non .nil))))) fun _ _ _ _ _ _ us mv ws l1 l3 l4=>match us,mv,ws,l1,l3,l4 with | [_],[_,_,_,_],[_],_,_,_=>⟨_,_,_,_,_,_,rfl,rfl,⟨_,_,_,_,_,_,rfl,rfl,⟨_,_,_,_,_,_,rfl,rfl,⟨_,_,_,_,_,_,rfl,rfl,rfl⟩⟩⟩⟩)
 have NE_Way_but_0_numbers:MeA Pg w K mg base (BkT w K) 5 yJ "but" 0 ["numbers"] [0,2,1,3,4,5] [.non,.non,.non,.non] 6 yR:=Me.of (He.meth_ok (c.fact 92 (f:=(fun K _=>(He.Fa.meth "Way" "but").ok K)) rfl)) O_Way_but (jZG (B:=BkT w K) (ps:=["self", "drops", "numbers", "stretches", "hidden", "lock"]) F_Way_but 1 ["numbers"] [("drops", .non),("stretches", .non),("hidden", .non),("lock", .non)] [0,2,1,3,4,5] [.non,.non,.non,.non] (by simp [qJ]) (by simp [qJ,He.Dv.v]) (fun _=>(.cons .non (.cons .non (.cons .non (.cons .non .nil))))) fun _ _ _ _ _ _ us mv ws l1 l3 l4=>match us,mv,ws,l1,l3,l4 with | [_],[_,_,_,_],[_],_,_,_=>⟨_,_,_,_,_,_,rfl,rfl,⟨_,_,_,_,_,_,rfl,rfl,⟨_,_,_,_,_,_,rfl,rfl,⟨_,_,_,_,_,_,rfl,rfl,rfl⟩⟩⟩⟩)
 have NE_Way_but_0_stretches:MeA Pg w K mg base (BkT w K) 5 yJ "but" 0 ["stretches"] [0,2,3,1,4,5] [.non,.non,.non,.non] 6 yR:=Me.of (He.meth_ok (c.fact 92 (f:=(fun K _=>(He.Fa.meth "Way" "but").ok K)) rfl)) O_Way_but (jZG (B:=BkT w K) (ps:=["self", "drops", "numbers", "stretches", "hidden", "lock"]) F_Way_but 1 ["stretches"] [("drops", .non),("numbers", .non),("hidden", .non),("lock", .non)] [0,2,3,1,4,5] [.non,.non,.non,.non] (by simp [qJ]) (by simp [qJ,He.Dv.v]) (fun _=>(.cons .non (.cons .non (.cons .non (.cons .non .nil))))) fun _ _ _ _ _ _ us mv ws l1 l3 l4=>match us,mv,ws,l1,l3,l4 with | [_],[_,_,_,_],[_],_,_,_=>⟨_,_,_,_,_,_,rfl,rfl,⟨_,_,_,_,_,_,rfl,rfl,⟨_,_,_,_,_,_,rfl,rfl,⟨_,_,_,_,_,_,rfl,rfl,rfl⟩⟩⟩⟩)
 have O_mended:=yHA (P:=Pg) (w:=w) (base:=base) (B:=BkT w K) rfl rfl g κ F_mended  (NE_Way_but_0_hidden.mono (by decide)) (NE_Way_but_0_stretches.mono (by decide)) (NE_Way_but_0_lock.mono (by decide)) (NE_Way_but_0_drops.mono (by decide)) (NE_Way_but_0_numbers.mono (by decide)) ⟨1,by decide,X_InvalidOption⟩
 have N_mended:Fn Pg w K mg base (BkT w K) 6 "mended" 2 jBS:=⟨_,_,_,O_mended,h_mended,F_mended.kp,(F_mended.bindsN fun _ _ _ _ _ _ us hl=>match us,hl with | [_,_],_=>rfl)⟩
 have O_kept_wishes:=jTY (P:=Pg) (w:=w) (base:=base) (B:=BkT w K) rfl rfl g κ F_kept_wishes  (N_shortest.mono (by decide))
 have N_kept_wishes:Fn Pg w K mg base (BkT w K) 8 "kept_wishes" 1 kW:=⟨_,_,_,O_kept_wishes,h_kept_wishes,F_kept_wishes.kp,(F_kept_wishes.bindsN fun _ _ _ _ _ _ us hl=>match us,hl with | [_],_=>rfl)⟩
 have O_sets_of_mends:=jQA (P:=Pg) (w:=w) (base:=base) (B:=BkT w K) rfl rfl g κ F_sets_of_mends (TBs (fun K=>He.ga K "sets_of_mends", ("sets_of_mends" : Str) ++ ".<locals>." ++ "<lambda>") (by simp [lsT])) rfl (c.fact 81 (f:=(fun K _=>ndT K lsT)) rfl) (jXO (c.fact 79 (f:=(fun K T=>jUJ K T (He.ga K "sets_of_mends"))) rfl)).2.2.1 
 have N_sets_of_mends:Fn Pg w K mg base (BkT w K) 1 "sets_of_mends" 0 wM:=⟨_,_,_,O_sets_of_mends,h_sets_of_mends,F_sets_of_mends.kp,(F_sets_of_mends.bindsN fun _ _ _ _ _ _ us hl=>match us,hl with | [],_=>rfl)⟩
 have O_least_mends:=jTX (P:=Pg) (w:=w) (base:=base) (B:=BkT w K) rfl rfl g κ F_least_mends  (N_check_wish.mono (by decide)) (N_sets_of_mends.mono (by decide)) (N_mended.mono (by decide)) (N_shortest.mono (by decide))
 have N_least_mends:Fn Pg w K mg base (BkT w K) 8 "least_mends" 2 yG:=⟨_,_,_,O_least_mends,h_least_mends,F_least_mends.kp,(F_least_mends.bindsN fun _ _ _ _ _ _ us hl=>match us,hl with | [_,_],_=>rfl)⟩
 have NK_least_mends_0_wishes_way:FnK Pg w K mg base (BkT w K) 8 "least_mends" 0 ["wishes", "way"] [1,0] 2 yG:=⟨_,_,_,O_least_mends,h_least_mends,F_least_mends.kp,yIY F_least_mends fun _ _ _ _ _ _ us ws l1 l2=>match us,ws,l1,l2 with | [],[_,_],_,_=>rfl⟩
 have O__law_open:=jYK (P:=Pg) (w:=w) (base:=base) (B:=BkT w K) rfl rfl g κ F__law_open  
 have N__law_open:Fn Pg w K mg base (BkT w K) 1 "_law_open" 1 jAU:=⟨_,_,_,O__law_open,h__law_open,F__law_open.kp,(F__law_open.bindsN fun _ _ _ _ _ _ us hl=>match us,hl with | [_],_=>rfl)⟩
 have O__law_draw:=jYM (P:=Pg) (w:=w) (base:=base) (B:=BkT w K) rfl rfl g κ F__law_draw  
 have N__law_draw:Fn Pg w K mg base (BkT w K) 1 "_law_draw" 2 vI:=⟨_,_,_,O__law_draw,h__law_draw,F__law_draw.kp,(F__law_draw.bindsN fun _ _ _ _ _ _ us hl=>match us,hl with | [_,_],_=>rfl)⟩
 have O__law_of:=yDL (P:=Pg) (w:=w) (base:=base) (B:=BkT w K) rfl rfl g κ F__law_of  (N__law_draw.mono (by decide))
 have N__law_of:Fn Pg w K mg base (BkT w K) 2 "_law_of" 2 uQ:=⟨_,_,_,O__law_of,h__law_of,F__law_of.kp,(F__law_of.bindsN fun _ _ _ _ _ _ us hl=>match us,hl with | [_,_],_=>rfl)⟩
 have O__law_like:=jYL (P:=Pg) (w:=w) (base:=base) (B:=BkT w K) rfl rfl g κ F__law_like h__law_like 
 have N__law_like:Fn Pg w K mg base (BkT w K) 9 "_law_like" 2 zJ:=⟨_,_,_,O__law_like,h__law_like,F__law_like.kp,(F__law_like.bindsN fun _ _ _ _ _ _ us hl=>match us,hl with | [_,_],_=>rfl)⟩
 have O__law_field:=jUZ (P:=Pg) (w:=w) (base:=base) (B:=BkT w K) rfl rfl g κ F__law_field XC h__law_field (F__law_field.bindsN fun _ _ _ _ _ _ us hl=>match us,hl with | [_],_=>rfl) 
 have T_try:=yBJ (P:=Pg) (w:=w) (base:=base) (B:=BkT w K) rfl rfl g rfl XC F__law_try h__law_try (F__law_try.bindsN fun _ _ _ _ _ _ us hl=>match us,hl with | [_],_=>rfl) h_DropError h_Missing h_NothingLeft (okT c) O__law_field
 have O__law_some_spec:=jPD (P:=Pg) (w:=w) (base:=base) (B:=BkT w K) rfl rfl g κ F__law_some_spec  (N__law_of.mono (by decide)) (N__law_draw.mono (by decide))
 have N__law_some_spec:Fn Pg w K mg base (BkT w K) 3 "_law_some_spec" 1 uU:=⟨_,_,_,O__law_some_spec,h__law_some_spec,F__law_some_spec.kp,(F__law_some_spec.bindsN fun _ _ _ _ _ _ us hl=>match us,hl with | [_],_=>rfl)⟩
 have O__law_way:=yBI (P:=Pg) (w:=w) (base:=base) (B:=BkT w K) rfl rfl g κ F__law_way  (NM_Way_2_stretches_hidden_lock.mono (by decide))
 have N__law_way:Fn Pg w K mg base (BkT w K) 5 "_law_way" 1 jCE:=⟨_,_,_,O__law_way,h__law_way,F__law_way.kp,(F__law_way.bindsN fun _ _ _ _ _ _ us hl=>match us,hl with | [_],_=>rfl)⟩
 have O__law_wishes:=jUA (P:=Pg) (w:=w) (base:=base) (B:=BkT w K) rfl rfl g κ F__law_wishes  
 have N__law_wishes:Fn Pg w K mg base (BkT w K) 1 "_law_wishes" 0 uY:=⟨_,_,_,O__law_wishes,h__law_wishes,F__law_wishes.kp,(F__law_wishes.bindsN fun _ _ _ _ _ _ us hl=>match us,hl with | [],_=>rfl)⟩
 have O__law_put:=yBK (P:=Pg) (w:=w) (base:=base) (B:=BkT w K) rfl rfl g κ F__law_put  
 have N__law_put:Fn Pg w K mg base (BkT w K) 1 "_law_put" 3 yN:=⟨_,_,_,O__law_put,h__law_put,F__law_put.kp,(F__law_put.bindsN fun _ _ _ _ _ _ us hl=>match us,hl with | [_,_,_],_=>rfl)⟩
 have O__law_number_taken:=jLN (P:=Pg) (w:=w) (base:=base) (B:=BkT w K) rfl rfl g κ F__law_number_taken  
 have N__law_number_taken:Fn Pg w K mg base (BkT w K) 1 "_law_number_taken" 3 vX:=⟨_,_,_,O__law_number_taken,h__law_number_taken,F__law_number_taken.kp,(F__law_number_taken.bindsN fun _ _ _ _ _ _ us hl=>match us,hl with | [_,_,_],_=>rfl)⟩
 have O__law_drop_steps:=jNT (P:=Pg) (w:=w) (base:=base) (B:=BkT w K) rfl rfl g κ F__law_drop_steps  (N__law_put.mono (by decide))
 have N__law_drop_steps:Fn Pg w K mg base (BkT w K) 2 "_law_drop_steps" 3 qK:=⟨_,_,_,O__law_drop_steps,h__law_drop_steps,F__law_drop_steps.kp,(F__law_drop_steps.bindsN fun _ _ _ _ _ _ us hl=>match us,hl with | [_,_,_],_=>rfl)⟩
 have O__law_number_steps:=jLO (P:=Pg) (w:=w) (base:=base) (B:=BkT w K) rfl rfl g κ F__law_number_steps  (N__law_put.mono (by decide))
 have N__law_number_steps:Fn Pg w K mg base (BkT w K) 2 "_law_number_steps" 3 wH:=⟨_,_,_,O__law_number_steps,h__law_number_steps,F__law_number_steps.kp,(F__law_number_steps.bindsN fun _ _ _ _ _ _ us hl=>match us,hl with | [_,_,_],_=>rfl)⟩
 have O__law_landed_steps:=jLP (P:=Pg) (w:=w) (base:=base) (B:=BkT w K) rfl rfl g κ F__law_landed_steps  (N__law_put.mono (by decide)) (N__law_number_taken.mono (by decide))
 have N__law_landed_steps:Fn Pg w K mg base (BkT w K) 2 "_law_landed_steps" 2 wI:=⟨_,_,_,O__law_landed_steps,h__law_landed_steps,F__law_landed_steps.kp,(F__law_landed_steps.bindsN fun _ _ _ _ _ _ us hl=>match us,hl with | [_,_],_=>rfl)⟩
 have O__law_return_steps:=jLM (P:=Pg) (w:=w) (base:=base) (B:=BkT w K) rfl rfl g κ F__law_return_steps  (N__law_put.mono (by decide)) (N__law_number_taken.mono (by decide))
 have N__law_return_steps:Fn Pg w K mg base (BkT w K) 2 "_law_return_steps" 2 wG:=⟨_,_,_,O__law_return_steps,h__law_return_steps,F__law_return_steps.kp,(F__law_return_steps.bindsN fun _ _ _ _ _ _ us hl=>match us,hl with | [_,_],_=>rfl)⟩
 have O__law_steps:=jUX (P:=Pg) (w:=w) (base:=base) (B:=BkT w K) rfl rfl g κ F__law_steps  (N__law_drop_steps.mono (by decide)) (N__law_landed_steps.mono (by decide)) (N__law_return_steps.mono (by decide)) (N__law_number_steps.mono (by decide))
 have N__law_steps:Fn Pg w K mg base (BkT w K) 3 "_law_steps" 3 jAW:=⟨_,_,_,O__law_steps,h__law_steps,F__law_steps.kp,(F__law_steps.bindsN fun _ _ _ _ _ _ us hl=>match us,hl with | [_,_,_],_=>rfl)⟩
 have O__law_first:=jUY (P:=Pg) (w:=w) (base:=base) (B:=BkT w K) rfl rfl g κ F__law_first  (N__law_wishes.mono (by decide))
 have N__law_first:Fn Pg w K mg base (BkT w K) 2 "_law_first" 1 jAX:=⟨_,_,_,O__law_first,h__law_first,F__law_first.kp,(F__law_first.bindsN fun _ _ _ _ _ _ us hl=>match us,hl with | [_],_=>rfl)⟩
 have O__law_reached:=jRK (P:=Pg) (w:=w) (base:=base) (B:=BkT w K) rfl rfl g κ F__law_reached  (N__law_first.mono (by decide)) (N__law_steps.mono (by decide))
 have N__law_reached:Fn Pg w K mg base (BkT w K) 4 "_law_reached" 2 wF:=⟨_,_,_,O__law_reached,h__law_reached,F__law_reached.kp,(F__law_reached.bindsN fun _ _ _ _ _ _ us hl=>match us,hl with | [_,_],_=>rfl)⟩
 have O__law_fewest:=jUB (P:=Pg) (w:=w) (base:=base) (B:=BkT w K) rfl rfl g κ F__law_fewest  (N__law_reached.mono (by decide))
 have N__law_fewest:Fn Pg w K mg base (BkT w K) 5 "_law_fewest" 2 kY:=⟨_,_,_,O__law_fewest,h__law_fewest,F__law_fewest.kp,(F__law_fewest.bindsN fun _ _ _ _ _ _ us hl=>match us,hl with | [_,_],_=>rfl)⟩
 have O__law_mended_spec:=jMM (P:=Pg) (w:=w) (base:=base) (B:=BkT w K) rfl rfl g κ F__law_mended_spec  
 have N__law_mended_spec:Fn Pg w K mg base (BkT w K) 1 "_law_mended_spec" 2 uG:=⟨_,_,_,O__law_mended_spec,h__law_mended_spec,F__law_mended_spec.kp,(F__law_mended_spec.bindsN fun _ _ _ _ _ _ us hl=>match us,hl with | [_,_],_=>rfl)⟩
 have O__law_mend_sets:=jPE (P:=Pg) (w:=w) (base:=base) (B:=BkT w K) rfl rfl g κ F__law_mend_sets  
 have N__law_mend_sets:Fn Pg w K mg base (BkT w K) 1 "_law_mend_sets" 0 zK:=⟨_,_,_,O__law_mend_sets,h__law_mend_sets,F__law_mend_sets.kp,(F__law_mend_sets.bindsN fun _ _ _ _ _ _ us hl=>match us,hl with | [],_=>rfl)⟩
 have O__law_least_mends:=jMN (P:=Pg) (w:=w) (base:=base) (B:=BkT w K) rfl rfl g κ F__law_least_mends  (N__law_mend_sets.mono (by decide)) (N__law_mended_spec.mono (by decide)) (N__law_fewest.mono (by decide))
 have N__law_least_mends:Fn Pg w K mg base (BkT w K) 6 "_law_least_mends" 2 vR:=⟨_,_,_,O__law_least_mends,h__law_least_mends,F__law_least_mends.kp,(F__law_least_mends.bindsN fun _ _ _ _ _ _ us hl=>match us,hl with | [_,_],_=>rfl)⟩
 have O_law:=vBT (P:=Pg) (w:=w) (base:=base) (B:=BkT w K) rfl rfl g κ F_law rfl (TBs (fun K=>He.ga K "law", ("law" : Str) ++ ".<locals>." ++ "<lambda>") (by simp [lsT])) rfl (c.fact 81 (f:=(fun K _=>ndT K lsT)) rfl) (jXO (c.fact 80 (f:=(fun K T=>jUJ K T (He.ga K "law"))) rfl)).2.2.1 (T_try.mono (by decide)) (N__law_open.mono (by decide)) (N__law_some_spec.mono (by decide)) (N__law_way.mono (by decide)) (N__law_draw.mono (by decide)) (N__law_of.mono (by decide)) (N__law_wishes.mono (by decide)) (N__law_least_mends.mono (by decide)) (N_least_mends.mono (by decide)) (N__law_like.mono (by decide)) (N_kept_wishes.mono (by decide)) (N_mended.mono (by decide)) (NK_least_mends_0_wishes_way.mono (by decide)) (N_least_mends.mono (by decide)) (NM_Way_0_.mono (by decide)) (NM_Way_0_stretches.mono (by decide))
 exact O_law
theorem vDB (w:World) (K:PySem.W.Frag) (T:List Addr) (c:SaysL faT fnT tsT w K T):∀ p∈lsT,jUJ K T (p.1 K)=true:=fun p hp=>by
 unfold lsT at hp
 rcases List.mem_cons.mp hp with rfl | hp
 ·exact (c.fact 79 (f:=(fun K T=>jUJ K T (He.ga K "sets_of_mends"))) rfl)
 rcases List.mem_cons.mp hp with rfl | hp
 ·exact (c.fact 80 (f:=(fun K T=>jUJ K T (He.ga K "law"))) rfl)
 cases hp
end LW
set_option maxHeartbeats 4000000
set_option maxHeartbeats 4000000
namespace Lp
open PySem PySem.Spec PyProof.Rows L2
abbrev twC (p:Program):TablesWhole.Ctx:=⟨p.main.scope,[],TablesWhole.wSs TablesWhole.gather p.main.scope ⟨p.main.scope,[],[],[],none⟩ p.main.scope p.main.body,[],none⟩
abbrev twP (p:Program) (l:List Stmt):Bool:=TablesWhole.wSs TablesWhole.holds p.main.scope (twC p) p.main.scope l
theorem jWU {p:Program}:∀ {a b:List Stmt},twP p a=true→twP p b=true→twP p (a++b)=true
 | [],_,_,h=>h
 | s :: a,b,h,k=>by
  have h:(TablesWhole.wS TablesWhole.holds p.main.scope (twC p) p.main.scope s&&twP p a)=true:=h
  obtain ⟨h1,h2⟩:=Bool.and_eq_true_iff.mp h
  show (TablesWhole.wS TablesWhole.holds p.main.scope (twC p) p.main.scope s&&twP p (a++b))=true
  rw [h1,jWU h2 k]; rfl
theorem vDA {p:Program} (n m k:Nat) (h1:p.modules=[]) (h2:p.parses=[]) (h3:p.harvested=[]) (hn:TablesWhole.noTwice p.main.scope=true) (a:twP p (p.main.body.take n)=true) (b:twP p ((p.main.body.drop n).take m)=true) (c:twP p (((p.main.body.drop n).drop m).take k)=true) (d:twP p (((p.main.body.drop n).drop m).drop k)=true):p.tablesWhole=true:=by
 have e:twP p p.main.body=true:=by
  have:=jWU a (jWU b (jWU c d))
  rwa [List.take_append_drop,List.take_append_drop,List.take_append_drop] at this
 unfold Program.tablesWhole TablesWhole.wProgram
 rw [h1,h2,h3]
 show (TablesWhole.wModule TablesWhole.holds p.main&&(true&&(true&&(true&&true))))=true
 rw [Bool.and_true,Bool.and_true,Bool.and_true,Bool.and_true]
 show (true&&(TablesWhole.noTwice p.main.scope&&(twP p p.main.body&&true)))=true
 rw [hn,e]; rfl
end Lp
set_option maxHeartbeats 0
namespace LW
open PySem PySem.W PySem.Calls PyProof.Rows
theorem eT1:opening (OpenLaw.row PySem.Challenge.rw_latedrops_k40_whole_least_mends).prog=plainProg (OpenLaw.row PySem.Challenge.rw_latedrops_k40_whole_least_mends).prog.main.scope.names:=by kernel_rfl
theorem eT2 (s:Shared):fenceModules? (OpenLaw.row PySem.Challenge.rw_latedrops_k40_whole_least_mends).prog s=some s:=by kernel_rfl
theorem eT3:defOf (view (OpenLaw.row PySem.Challenge.rw_latedrops_k40_whole_least_mends).prog [58]) (OpenLaw.row PySem.Challenge.rw_latedrops_k40_whole_least_mends).name=some (HandSHeadRun.topDef (OpenLaw.row PySem.Challenge.rw_latedrops_k40_whole_least_mends).prog 58,[]):=by kernel_rfl
theorem eT4:(OpenLaw.row PySem.Challenge.rw_latedrops_k40_whole_least_mends).prog.theDef (OpenLaw.row PySem.Challenge.rw_latedrops_k40_whole_least_mends).name=some ((HandSHeadRun.topDef (OpenLaw.row PySem.Challenge.rw_latedrops_k40_whole_least_mends).prog 58).params,(HandSHeadRun.topDef (OpenLaw.row PySem.Challenge.rw_latedrops_k40_whole_least_mends).prog 58).body,(HandSHeadRun.topDef (OpenLaw.row PySem.Challenge.rw_latedrops_k40_whole_least_mends).prog 58).scope):=by kernel_rfl
theorem eT5:kwWritten? (HandSHeadRun.topDef (OpenLaw.row PySem.Challenge.rw_latedrops_k40_whole_least_mends).prog 58).params.kwonlyargs (HandSHeadRun.topDef (OpenLaw.row PySem.Challenge.rw_latedrops_k40_whole_least_mends).prog 58).params.kw_defaults=some []:=by kernel_rfl
theorem eT6:(chainsOk (view (OpenLaw.row PySem.Challenge.rw_latedrops_k40_whole_least_mends).prog [58])&&opensWell (OpenLaw.row PySem.Challenge.rw_latedrops_k40_whole_least_mends).prog&&(frees (OpenLaw.row PySem.Challenge.rw_latedrops_k40_whole_least_mends).toRowW&&(OpenLaw.row PySem.Challenge.rw_latedrops_k40_whole_least_mends).within.isEmpty))=true:=by decide +kernel
theorem eT7:(HandSHeadRun.topDef (OpenLaw.row PySem.Challenge.rw_latedrops_k40_whole_least_mends).prog 58).name=("law" : PySem.Str):=by kernel_rfl
theorem eT8:TablesWhole.noTwice (OpenLaw.row PySem.Challenge.rw_latedrops_k40_whole_least_mends).prog.main.scope=true:=by kernel_rfl
theorem eTA:Lp.twP (OpenLaw.row PySem.Challenge.rw_latedrops_k40_whole_least_mends).prog ((OpenLaw.row PySem.Challenge.rw_latedrops_k40_whole_least_mends).prog.main.body.take 21)=true:=by kernel_rfl
theorem eTB:Lp.twP (OpenLaw.row PySem.Challenge.rw_latedrops_k40_whole_least_mends).prog (((OpenLaw.row PySem.Challenge.rw_latedrops_k40_whole_least_mends).prog.main.body.drop 21).take 14)=true:=by kernel_rfl
theorem eTC:Lp.twP (OpenLaw.row PySem.Challenge.rw_latedrops_k40_whole_least_mends).prog ((((OpenLaw.row PySem.Challenge.rw_latedrops_k40_whole_least_mends).prog.main.body.drop 21).drop 14).take 14)=true:=by kernel_rfl
theorem eTD:Lp.twP (OpenLaw.row PySem.Challenge.rw_latedrops_k40_whole_least_mends).prog ((((OpenLaw.row PySem.Challenge.rw_latedrops_k40_whole_least_mends).prog.main.body.drop 21).drop 14).drop 14)=true:=by kernel_rfl
end LW
namespace LW
open PySem PySem.Spec PyProof.Rows L2 Lp
abbrev LwLaw:Prop:=∀ ns:List Int,ns.length≤63→(∀ z∈ns,Builtin.Int.intBits z≤1048576)→∃ h',jQL [.scr (ns.map .int)] []=.ok (.bl true) h'
end LW
namespace LW
open PySem PySem.W PySem.Calls PyProof.Rows
theorem vDZ (hlaw:LwLaw):PySem.Challenge.rw_latedrops_k40_whole_least_mends.Holds:=by
 w_on; o_law
 refine HandSHeadRun.head_any (r:=OpenLaw.row PySem.Challenge.rw_latedrops_k40_whole_least_mends) (q:=view (OpenLaw.row PySem.Challenge.rw_latedrops_k40_whole_least_mends).prog [58]) (H:=LW.hkT) (ob:=LW.obT) (M:=8000) (loose:=LW.jPJ) (d:=HandSHeadRun.topDef (OpenLaw.row PySem.Challenge.rw_latedrops_k40_whole_least_mends).prog 58) (kwd:=[]) LW.vBI
  LW.eT1 LW.eT2 LW.vEK LW.eT3 LW.eT4 LW.eT5 (by rfl) (by first | assumption | decide +kernel) LW.eT6 ⟨rfl,rfl,rfl,rfl,rfl,Lp.vDA 21 14 14 rfl rfl rfl LW.eT8 LW.eTA LW.eTB LW.eTC LW.eTD⟩ ?hw ?hc
 case hw=>w_witness2
 case hc =>
  refine Lp.vCZ (l:=PySem.Challenge.rw_latedrops_k40_whole_least_mends) (n:=63) (k:=11) (x := "_law_script") (B:=LW.BkT) (m:=LW.jQL) (fa:=LW.faT) (fn:=LW.fnT) (ts:=LW.tsT) (ls:=LW.lsT) rfl (by decide) (by kernel_rfl) ⟨rfl,by decide,by decide⟩ (fun _ _ y=>y) (fun _ _=>rfl) (fun _ _=>rfl) LW.vDB ?F hlaw
  intro w mg fa h K T KX G hmg0 c
  have hmg:mg ("law" : PySem.Str)=some (.ref fa):=by
   have e:(HandSHeadRun.topDef (OpenLaw.row PySem.Challenge.rw_latedrops_k40_whole_least_mends).prog 58).name=("law" : PySem.Str):=LW.eT7
   rw [← e]
   exact hmg0
  exact LW.vBW (w:=w) KX G hmg c
end LW
set_option maxHeartbeats 4000000
local macro_rules | `(tactic| walk_at "p1")=>`(tactic| (first | ((with_reducible apply Lp.yH); (exact rfl)) | with_reducible refine Lp.p_c ?_ | with_reducible refine Lp.uX ?_ | with_reducible refine Lp.yK ?_ | with_reducible refine Lp.vW ?_ | with_reducible refine Lp.uH ?_ | with_reducible refine Lp.wL ?_ | with_reducible refine Lp.jAE ?_ | with_reducible refine Lp.jAF ?_ | with_reducible refine Lp.jCT ?_ | with_reducible refine Lp.jEY ?_ | with_reducible refine Lp.jEZ ?_ | with_reducible refine Lp.qU ?_ | with_reducible refine Lp.jCP ?_ | with_reducible refine Lp.qG ?_ | with_reducible refine Lp.zN ?_ | with_reducible refine Lp.qM ?_ | with_reducible refine Lp.jCH ?_ | with_reducible refine Lp.qT ?_ | with_reducible refine Lp.jCA ?_ | with_reducible refine Lp.jBD ?_ | with_reducible refine Lp.jBE ?_ | with_reducible refine Lp.uD ?_ | with_reducible refine Lp.zP ?_ | with_reducible refine Lp.qQ ?_ | with_reducible refine Lp.jGB ?_ | with_reducible refine Lp.zL ?_ | with_reducible refine Lp.zM ?_ | with_reducible refine Lp.wB ?_ | with_reducible refine Lp.uJ ?_ | with_reducible refine Lp.qR ?_ | with_reducible refine Lp.jCO ?_ | with_reducible refine Lp.jCU ?_ | refine ⟨⟨⟨rfl,rfl⟩,rfl,rfl⟩,⟨rfl,rfl⟩,?_⟩ | refine Lp.wJ rfl ?_ | refine Lp.qC rfl ?_ | refine ⟨_,rfl,?_⟩ | refine ⟨⟨rfl,rfl⟩,?_⟩ | refine ⟨⟨rfl,Nat.le_of_ble_eq_true rfl⟩,?_⟩ | (refine ⟨_,_,rfl,⟨rfl,rfl⟩,?_⟩; try dsimp only [Lp.jP,List.set_cons_succ,List.set_cons_zero]) | (refine ⟨rfl,?_⟩; try dsimp only [Lp.jP,List.set_cons_succ,List.set_cons_zero])))
namespace LW
open PySem PySem.Spec PyProof.Rows L2 Lp
section
theorem jYC:vI=jSG:=by unfold vI jSG; rfl
theorem of_eq:uQ=ofM:=by
 unfold uQ ofM jNO
 rw [jYC]; rfl
theorem like_eq:zJ=jSD 8:=by
 unfold zJ jSD
 rfl
theorem open_spec {ns:List Int} (h63:ns.length≤63):(jAU [.scr (ns.map .int)] []).post (fun v h'=>v=.cel 0∧BagAt [none] 0 h') NE:=by
 unfold jAU
 rw [jYF]
 unfold jOT
 refine jCW [some (.scr (ns.map .int))] rfl (jAF (jVL (jNH ?_)))
 (repeat walk_at "p1")
 have e:jIG (ns.map PV.int) none (some 63)=ns.map PV.int:=by
  unfold jIG
  have e2:HT.sIx (ns.map PV.int).length (ns.map PV.int).length (some 63)=(ns.map PV.int).length:=by
   unfold HT.sIx
   simp only [List.length_map]
   split <;> omega
  rw [e2]
  have e1:HT.sIx (ns.map PV.int).length 0 none=0:=rfl
  rw [e1,List.drop_zero,Nat.sub_zero,List.take_length]
 exact ⟨_,⟨ns,0,0,100201,0,by rw [e],by decide,by decide,by decide,by decide⟩,rfl⟩
theorem jTE {cs:List Nat} {n:Nat} {h:AH} (t:TabC cs n) (hn:n=8∨n=4):(jCD [.str (mkS cs),.int n] h).post (fun r h'=>r=.bl true∧h'=h) NE:=by
 obtain ⟨hl,hh,ht⟩:=t
 have h0:atI cs 0=some 116:=jXJ (i:=0) (by rw [← List.head?_eq_getElem?]; exact hh)
 have e0:fIx h (.str (mkS cs)) (.int 0)=some (.str ⟨#[116]⟩):=by rw [yFI,ySL,h0]; rfl
 have el:jDS h [.str (mkS cs)]=some (.int (n:Nat)):=by
  show some (PV.int ((mkS cs).length:Nat))=_
  rw [jOH,hl]
 unfold jCD
 rw [yAS]
 unfold jQQ
 refine jCW [some (.str (mkS cs)),some (.int n),none] rfl ?_
 (repeat (first | walk_at "p1" | refine ⟨_,yUC trivial rfl,?_⟩ | refine ⟨_,el,?_⟩))
 refine qC (by show (!PyData.eqv (.int ((mkS cs).length:Nat)) (.int (n:Nat)))=false; rw [jOH,hl,jOK,decide_eq_true rfl]; rfl) ?_
 (repeat (first | walk_at "p1" | refine ⟨_,e0,?_⟩))
 refine jPR (jEA (yH rfl ⟨_,rfl,rfl,fun _=>.bl true,fun v hv=>?_,?_⟩))
 ·obtain ⟨c,hc,rfl⟩:=List.mem_map.mp hv
  refine ⟨_,rfl,?_⟩
  refine vDL (yH rfl ⟨_,rfl,?_⟩)
  rcases ht c hc with rfl | rfl | rfl
  ·exact ⟨congrArg PV.bl (by decide +kernel),rfl,rfl,rfl⟩
  ·exact ⟨congrArg PV.bl (by decide +kernel),rfl,rfl,rfl⟩
  ·exact ⟨congrArg PV.bl (by decide +kernel),rfl,rfl,rfl⟩
 (repeat (first | walk_at "p1" | refine ⟨_,jOS _,?_⟩))
def jBF (p:SpecW):PV:=.ins yJ p.fs
theorem jIW {p:SpecW} {h:AH} (k:p.Ok):(yD [.cel h.length,.str (mkS p.d),.str (mkS p.n),.bl p.s,.bl p.h,.str p.l] (h++[some (.ins yJ [])])).post (fun v h2=>v=.non∧h2=h++[some (.ins yJ p.fs)]) NE:=by
 unfold yD
 rw [jQZ]
 unfold jKA
 refine jCW [some (.cel h.length),some (.str (mkS p.d)),some (.str (mkS p.n)),some (.bl p.s),some (.bl p.h),some (.str p.l),none,none,none] rfl ?_
 refine uH (jKJ (jEA ?_))
 (repeat walk_at "p1")
 refine ⟨by show 2≤sizeLine; decide,yEV ⟨_,rfl,?_⟩⟩
 (repeat walk_at "p1")
 refine yZ (jTE k.d (.inl rfl)) fun r h' z=>?_
 obtain ⟨rfl,rfl⟩:=z
 (repeat walk_at "p1")
 refine yZ (jTE k.n (.inr rfl)) fun r h' z=>?_
 obtain ⟨rfl,rfl⟩:=z
 (repeat walk_at "p1")
 refine jKJ (jEA ?_)
 (repeat walk_at "p1")
 refine ⟨by show 2≤sizeLine; decide,yEV ⟨_,rfl,?_⟩⟩
 (repeat walk_at "p1")
 refine qC (by rcases k.l with e | e | e <;> rw [e] <;> rfl) ?_
 (repeat walk_at "p1")
 refine yIT ?_
 (repeat walk_at "p1")
 refine jZD rfl jOM rfl ?_
 rw [jOL]
 refine jZD rfl jOM rfl ?_
 rw [jOL]
 refine jWA ?_
 refine yIT ?_
 (repeat walk_at "p1")
 refine jZD rfl jOM rfl ?_
 rw [jOL]
 refine jZD rfl jOM rfl ?_
 rw [jOL]
 refine jZD rfl jOM rfl ?_
 rw [jOL]
 exact jWA ⟨rfl,rfl⟩
theorem yFG {p:SpecW} {h:AH} {E:PV→AH→Prop} {P:PV→Prop} (k:p.Ok) (q:P (jBF p)):(yD [.cel h.length,.str (mkS p.d),.str (mkS p.n),.bl p.s,.bl p.h,.str p.l] (h++[some (.ins yJ [])])).post (fun v h2=>v=.non∧∃ gs,h2=h++[some (.ins yJ gs)]∧celsB h.length gs=true∧P (.ins yJ gs)) E :=
 yZ (jIW k) fun v h2 ⟨e1,e2⟩=>⟨e1,p.fs,e2,rfl,q⟩
theorem yJO {p:SpecW} {h:AH} (k:p.Ok):(jCE [p.v] h).post (fun v h'=>v=jBF p∧h'=h) NE:=by
 unfold jCE
 rw [yAT]
 unfold jQR
 refine jCW [some p.v] rfl (jAF (jVJ ?_))
 (repeat walk_at "p1")
 refine yFG (P:=fun v=>isOwn v=false∧v=jBF p∧h=h) k ⟨rfl,rfl,rfl⟩
theorem jOY {h h1:AH} {n:Nat} {sl:Nat} {e0:List (Option PV)} {k:Nat} (hn:n < h.length) (b:BagAt h n h1) (hk:k≤1000) (hb:(jP e0 [sl])[0]?=some (some (.cel n))) (hb2:∀ v,((jP e0 [sl]).set sl (some v))[0]?=some (some (.cel n))) (hw:∀ v,jP ((jP e0 [sl]).set sl v) [sl]=jP e0 [sl]) :
  (zG (jNE (jG (xEC (.int k)) jT)) (.n sl) jAO (vN 2 ofM (jG (jM 0) (jG (xEC (.str "ttrm")) jT))) [sl] ⟨e0,h1⟩).post (fun xs s'=>(∃ cs:List Nat,cs.length=k∧(∀ c∈cs,TrC c)∧xs=cs.map fun c=>.str (mkS [c]))∧s'.e=jP e0 [sl]∧BagAt h n s'.h) NE:=by
 refine jJG (yCF (yK (p_c (vW ⟨_,rfl,by omega,rfl,fun j acc hh=>(∃ cs:List Nat,cs.length=j∧(∀ c∈cs,TrC c)∧acc=cs.map fun c=>PV.str (mkS [c]))∧BagAt h n hh,⟨⟨[],rfl,fun c hc=>(nomatch hc),rfl⟩,b⟩,fun j v acc hh e i=>?_,fun acc hh i=>?_⟩))))
 ·obtain ⟨q,_,rfl⟩:=List.mem_map.mp (List.mem_of_getElem? e)
  obtain ⟨⟨cs,hl,hc,rfl⟩,bb⟩:=i
  refine ⟨_,rfl,yFU (wJ rfl ?_)⟩
  refine uD (yK (yH (hb2 _) (yK (p_c (vW ⟨⟨rfl,rfl⟩,yZ (vBG hn bb (by decide) (by decide)) fun v h' z=>?_⟩)))))
  obtain ⟨⟨c,hc1,rfl⟩,b2⟩:=z
  refine ⟨rfl,hw _,⟨cs++[c],by rw [List.length_append,hl]; rfl,fun d hd=>?_,by rw [List.map_append]; rfl⟩,b2⟩
  rcases List.mem_append.mp hd with hd | hd
  ·exact hc d hd
  ·simp only [List.mem_singleton] at hd
   subst hd
   have hc1:d∈[116,116,114,109]:=hc1
   simp only [List.mem_cons,List.not_mem_nil,or_false] at hc1
   rcases hc1 with rfl | rfl | rfl | rfl
   ·exact .inl rfl
   ·exact .inl rfl
   ·exact .inr (.inl rfl)
   ·exact .inr (.inr rfl)
 ·obtain ⟨⟨cs,hl,hc,rfl⟩,bb⟩:=i
  exact ⟨⟨cs,by rw [hl]; simp,hc,rfl⟩,rfl,bb⟩
theorem yAC {h:AH} {cs:List Nat} {k:Nat} (hl:cs.length=k) (hk:k≤1000) (hc:∀ c∈cs,TrC c):jQM h "" [.lst (cs.map fun c=>.str (mkS [c]))]=some (.str (mkS cs)) :=
 yDE (by omega) fun c hc'=>by rcases hc c hc' with rfl | rfl | rfl <;> decide
theorem yTM {h:AH} {cs:List Nat} {k:Nat} (hl:cs.length=k) (hk:k≤1000):zH h (.str "t") (.str (mkS cs))=some (.str (mkS (116 :: cs))):=ySU (a:=[116]) (by show 1+cs.length≤sizeLine; have:=(show 1001≤sizeLine by decide); omega)
theorem yGA {h h1:AH} {n:Nat} (hn:n < h.length) (b:BagAt h n h1):(uU [.cel n] h1).post (fun v h'=>(∃ p:SpecW,p.Ok∧v=p.v)∧BagAt h n h') NE:=by
 unfold uU
 rw [jPA]
 unfold jIC
 rw [jYC,of_eq]
 refine jCW [some (.cel n),none,none,none] rfl ?_
 refine uH (wL (uX (p_c (vCO (p_c ⟨_,rfl,yK (jCU ?_)⟩)))))
 refine yZ (jOY hn b (by decide) rfl (fun _=>rfl) (fun _=>rfl)) fun xs s' z=>?_
 obtain ⟨⟨cs,hl,hc,rfl⟩,he,b1⟩:=z
 obtain ⟨e1,h2⟩:=s'
 simp only at he b1
 subst he
 refine vW ⟨_,yAC hl (by decide) hc,_,yTM hl (by decide),rfl,?_⟩
 dsimp only [jP,List.set_cons_succ,List.set_cons_zero]
 refine uH (wL (uX (p_c (vCO (p_c ⟨_,rfl,yK (jCU ?_)⟩)))))
 refine yZ (jOY hn b1 (by decide) rfl (fun _=>rfl) (fun _=>rfl)) fun xs s' z=>?_
 obtain ⟨⟨ds,kl,kc,rfl⟩,he,b2⟩:=z
 obtain ⟨e1,h3⟩:=s'
 simp only at he b2
 subst he
 refine vW ⟨_,yAC kl (by decide) kc,_,yTM kl (by decide),rfl,?_⟩
 dsimp only [jP,List.set_cons_succ,List.set_cons_zero]
 (repeat walk_at "p1")
 refine yZ (jLU hn b2 (by decide) (by decide)) fun v h' z=>?_
 obtain ⟨⟨d,rfl,d0,d4⟩,b3⟩:=z
 (repeat walk_at "p1")
 refine yZ (jLU hn b3 (by decide) (by decide)) fun v h' z=>?_
 obtain ⟨⟨d',rfl,d0',d4'⟩,b4⟩:=z
 (repeat walk_at "p1")
 refine yZ (yCH hn b4 (by decide) (by decide) rfl) fun v h' z=>?_
 obtain ⟨hv,b5⟩:=z
 have hL:∃ l:Str,v=.str l∧LockS l:=by
  simp only [List.mem_cons,List.not_mem_nil,or_false] at hv
  rcases hv with rfl | rfl | rfl | rfl
  ·exact ⟨_,rfl,.inl rfl⟩
  ·exact ⟨_,rfl,.inl rfl⟩
  ·exact ⟨_,rfl,.inr (.inl rfl)⟩
  ·exact ⟨_,rfl,.inr (.inr rfl)⟩
 obtain ⟨l,rfl,hl'⟩:=hL
 (repeat walk_at "p1")
 refine ⟨⟨⟨116 :: cs,116 :: ds,decide (d > 0),PyData.eqv (.int d') (.int 0),l⟩,⟨⟨by rw [List.length_cons,hl],rfl,?_⟩,⟨by rw [List.length_cons,kl],rfl,?_⟩,hl'⟩,rfl⟩,b5⟩
 ·intro c hc'
  rcases List.mem_cons.mp hc' with rfl | hc'
  ·exact .inl rfl
  ·exact hc c hc'
 ·intro c hc'
  rcases List.mem_cons.mp hc' with rfl | hc'
  ·exact .inl rfl
  ·exact kc c hc'
def bw (p:SpecW) (od on:Option (List Nat)) (os oh:Option Bool) (ol:Option Str):SpecW:=⟨od.getD p.d,on.getD p.n,os.getD p.s,oh.getD p.h,ol.getD p.l⟩
def sV (d:List Nat):PV:=.str (mkS d)
theorem jIS {p:SpecW} {od on:Option (List Nat)} {os oh:Option Bool} {ol:Option Str} {h:AH} (k:(bw p od on os oh ol).Ok):(yR [jBF p,(od.map sV).getD .non,(on.map sV).getD .non,(os.map PV.bl).getD .non,(oh.map PV.bl).getD .non,(ol.map PV.str).getD .non] h).post (fun v h'=>v=jBF (bw p od on os oh ol)∧h'=h) NE:=by
 unfold yR
 rw [yCR]
 unfold jTD
 refine jCW [some (jBF p),some ((od.map sV).getD .non),some ((on.map sV).getD .non),some ((os.map PV.bl).getD .non),some ((oh.map PV.bl).getD .non),some ((ol.map PV.str).getD .non)] rfl (jAF (jVJ ?_))
 refine yK (jOG rfl (fun _=>rfl) (fun q=>jSB (yH rfl ⟨_,rfl,q⟩)) (yK (jOG rfl (fun _=>rfl) (fun q=>jSB (yH rfl ⟨_,rfl,q⟩)) (vW ?_))))
 refine yK (jOG rfl (fun _=>rfl) (fun q=>jSB (yH rfl ⟨_,rfl,q⟩)) (yK (jOG rfl (fun _=>rfl) (fun q=>jSB (yH rfl ⟨_,rfl,q⟩)) (yK (jOG rfl (fun _=>rfl) (fun q=>jSB (yH rfl ⟨_,rfl,q⟩)) (vW ?_))))))
 exact ⟨⟨⟨rfl,rfl⟩,rfl,rfl⟩,⟨rfl,rfl⟩,yFG (P:=fun v=>isOwn v=false∧v=jBF (bw p od on os oh ol)∧h=h) k ⟨rfl,rfl,rfl⟩⟩
end
end LW
set_option maxHeartbeats 4000000
namespace LW
open PySem PySem.Spec PyProof.Rows L2 Lp
section
def lsV (t:Bool) (xs:List PV):PV:=if t then .tup xs else .lst xs
theorem jQX {l:List Str} {h:AH} {w:Str} (t:Bool):fIn h (.str w) (lsV t (l.map .str))=some (.bl (decide (w∈l)))∧jIF h (.str w) (lsV t (l.map .str))=some (.bl (!decide (w∈l))):=by
 have e1:toDs (l.map PV.str)=some (l.map PyData.str):=jZM PV.str PyData.str (fun _=>rfl) _
 have e3:∀ d∈l.map PyData.str,d.depth≤1:=fun d hd=>by
  obtain ⟨z,_,rfl⟩:=List.mem_map.mp hd
  simp [PyData.depth]
 have e4:(l.map PyData.str).any (fun z=>PyData.eqv z (.str w))=decide (w∈l):=by
  rw [List.any_map]
  clear e1 e3
  induction l with
  | nil=>rfl
  | cons y ys ih =>
   rw [List.any_cons,ih]
   show (PyData.eqv (.str y) (.str w)||_)=_
   rw [jYB]
   by_cases h:y=w
   ·subst h; simp
   ·have h2:¬ w=y:=fun z=>h z.symm
    simp [h,h2]
 have e5:jHS h (.str w)=some (.str w):=rfl
 have o1:dOk (.str w)=true:=by simp [dOk,PyData.depth]
 cases t with
 | false =>
  have e2:jHS h (.lst (l.map PV.str))=some (.list (l.map PyData.str)):=by
   show (toDs _).map _=_
   rw [e1]; rfl
  have o2:dOk (.list (l.map PyData.str))=true:=jOR (n:=1) e3 (by decide)
  refine ⟨?_,?_⟩
  ·show (none:Option PV).or (jIZ false h (.str w) (.lst (l.map PV.str)))=_
   rw [Option.none_or]
   unfold jIZ
   rw [e5,e2]
   simp only [o1,o2,Bool.and_self,if_true,e4,Bool.false_xor]
  ·show (none:Option PV).or (jIZ true h (.str w) (.lst (l.map PV.str)))=_
   rw [Option.none_or]
   unfold jIZ
   rw [e5,e2]
   simp only [o1,o2,Bool.and_self,if_true,e4,Bool.true_xor]
 | true =>
  have e2:jHS h (.tup (l.map PV.str))=some (.tuple (l.map PyData.str)):=by
   show (toDs _).map _=_
   rw [e1]; rfl
  have o2:dOk (.tuple (l.map PyData.str))=true:=decide_eq_true (by
   have:=of_decide_eq_true (jOR (n:=1) e3 (by decide))
   simp only [PyData.depth] at this ⊢
   exact this)
  refine ⟨?_,?_⟩
  ·show (none:Option PV).or (jIZ false h (.str w) (.tup (l.map PV.str)))=_
   rw [Option.none_or]
   unfold jIZ
   rw [e5,e2]
   simp only [o1,o2,Bool.and_self,if_true,e4,Bool.false_xor]
  ·show (none:Option PV).or (jIZ true h (.str w) (.tup (l.map PV.str)))=_
   rw [Option.none_or]
   unfold jIZ
   rw [e5,e2]
   simp only [o1,o2,Bool.and_self,if_true,e4,Bool.true_xor]
def jZE:List Str:=["hidden", "whole", "one", "all", "drops", "numbers"]
def has (l:List Str) (w:Str):Bool:=decide (w∈l)
def m1 (l:List Str) (p:SpecW):SpecW:=if has l "hidden" then bw p none none none (some true) none else p
def m2 (l:List Str) (p:SpecW):SpecW:=if has l "whole" then bw p none none (some false) none none else p
def m3 (l:List Str) (p:SpecW):SpecW:=if has l "one" && decide (p.l = "none") then bw p none none none none (some "one") else p
def m4 (l:List Str) (p:SpecW):SpecW:=if has l "all" then bw p none none none none (some "all") else p
def tD:List Nat:=[116,109,109,109,109,109,109,109]
def tN:List Nat:=[116,109,109,109]
def m5 (l:List Str) (p:SpecW):SpecW:=if has l "drops" then bw p (some tD) none none none none else p
def m6 (l:List Str) (p:SpecW):SpecW:=if has l "numbers" then bw p none (some tN) none none none else p
theorem jJY {p:SpecW} (k:p.Ok) {od on:Option (List Nat)} {os oh:Option Bool} {ol:Option Str} (h1:∀ d,od=some d→TabC d 8) (h2:∀ d,on=some d→TabC d 4) (h3:∀ l,ol=some l→LockS l):(bw p od on os oh ol).Ok:=by
 refine ⟨?_,?_,?_⟩
 ·cases od with
  | none=>exact k.d
  | some d=>exact h1 d rfl
 ·cases on with
  | none=>exact k.n
  | some d=>exact h2 d rfl
 ·cases ol with
  | none=>exact k.l
  | some d=>exact h3 d rfl
theorem yTP:TabC tD 8:=⟨rfl,rfl,fun c hc=>by simp [tD] at hc; rcases hc with rfl | rfl <;> (first | exact .inl rfl | exact .inr (.inl rfl) | exact .inr (.inr rfl))⟩
theorem yTN:TabC tN 4:=⟨rfl,rfl,fun c hc=>by simp [tN] at hc; rcases hc with rfl | rfl <;> (first | exact .inl rfl | exact .inr (.inl rfl) | exact .inr (.inr rfl))⟩
section
variable {l:List Str} {p:SpecW} (k:p.Ok)
include k
theorem jQN:(m1 l p).Ok:=by unfold m1; split; exact jJY k nofun nofun nofun; exact k
theorem jSC:(m2 l p).Ok:=by unfold m2; split; exact jJY k nofun nofun nofun; exact k
theorem yDY:(m3 l p).Ok:=by unfold m3; split; exact jJY k nofun nofun (fun l e=>by cases e; exact .inr (.inl rfl)); exact k
theorem yHY:(m4 l p).Ok:=by unfold m4; split; exact jJY k nofun nofun (fun l e=>by cases e; exact .inr (.inr rfl)); exact k
theorem yTX:(m5 l p).Ok:=by unfold m5; split; exact jJY k (fun l e=>by cases e; exact yTP) nofun nofun; exact k
theorem vDY:(m6 l p).Ok:=by unfold m6; split; exact jJY k nofun (fun l e=>by cases e; exact yTN) nofun; exact k
end
def jCQ (l:List Str) (p:SpecW):SpecW:=m6 l (m5 l (m4 l (m3 l (m2 l (m1 l p)))))
theorem jXV {l:List Str} {p:SpecW} (k:p.Ok):(jCQ l p).Ok:=vDY (yTX (yHY (yDY (jSC (jQN k)))))
theorem jHA {PF:Fl→S→Prop} {E:PV→S→Prop} {s:S} {x y:MS} (s':S) (h1:(x s).post (fun f s1=>f=.nx∧s1=s') E) (h2:(y s').post PF E):(vA x y s).post PF E :=
 uH (p_mono h1 (fun f s1 ⟨e1,e2⟩=>by subst e1 e2; exact h2) fun _ _ z=>z)
theorem jXW {p:SpecW} {h:AH} (k:p.Ok):fEq h (.str p.l) (.str "none")=some (.bl (decide (p.l = "none"))):=by
 rcases k.l with e | e | e <;> rw [e] <;> rfl
theorem yGV {w:Str} {h:AH} (hw:w∈jZE):jIF h (.str w) (.tup [.str "hidden", .str "whole", .str "one", .str "all", .str "drops", .str "numbers"])=some (.bl false):=by
 have:=(jQX (l:=jZE) (h:=h) (w:=w) true).2
 rw [decide_eq_true hw] at this
 exact this
theorem jQS {t:Bool} {l:List Str} {p:SpecW} {h:AH} (k:p.Ok) (hl:∀ w∈l,w∈jZE) (hz:l.length < 1000):(jBS [jBF p,lsV t (l.map .str)] h).post (fun v h'=>v=jBF (jCQ l p)∧h'=h) NE:=by
 unfold jBS
 rw [yFY]
 unfold jVQ
 refine jCW [some (jBF p),some (lsV t (l.map .str)),none,none] rfl ?_
 refine uH (jKJ (jEA (yH rfl ?_)))
 have es:srcOf h (lsV t (l.map .str))=some ⟨l.map .str,[],false⟩:=by cases t <;> rfl
 refine ⟨_,es,rfl,rfl,by rw [List.length_map,sizeLine_eq]; omega,jJE (fun j s=>∃ y2,s=⟨[some (jBF p),some (lsV t (l.map .str)),y2,none],h⟩) ⟨_,rfl⟩ (fun j v s ev i=>?_) fun s i=>?_⟩
 ·obtain ⟨y2,rfl⟩:=i
  rw [List.getElem?_map] at ev
  cases ew:l[j]? with
  | none=>rw [ew] at ev; cases ev
  | some w =>
   rw [ew] at ev
   cases ev
   refine ⟨_,rfl,?_⟩
   dsimp only [List.set_cons_succ,List.set_cons_zero]
   (repeat (first | refine ⟨_,yGV (hl w (List.mem_of_getElem? ew)),?_⟩ | refine ⟨_,yUC trivial rfl,?_⟩ | walk_at "p1"))
   exact ⟨_,rfl⟩
 ·obtain ⟨y2,rfl⟩:=i
  refine jHA ⟨[some (jBF p),some (lsV t (l.map .str)),y2,some (jBF p)],h⟩ (by (repeat walk_at "p1")) ?_
  refine jHA ⟨[some (jBF p),some (lsV t (l.map .str)),y2,some (jBF (m1 l p))],h⟩ ?_ ?_
  ·(repeat (first | refine ⟨_,(jQX t).1,?_⟩ | walk_at "p1"))
   refine jGQ (fun hc=>?_) fun hc=>?_
   ·have hc':has l "hidden" = true:=hc
    refine wL (jVK ?_)
    (repeat walk_at "p1")
    refine yZ (jIS (p:=p) (od:=none) (on:=none) (os:=none) (oh:=(some true)) (ol:=none) (jJY k nofun nofun nofun)) fun v h' z=>?_
    obtain ⟨rfl,rfl⟩:=z
    refine ⟨rfl,rfl,?_⟩
    unfold m1
    rw [if_pos hc']; rfl
   ·have hc':¬ has l "hidden" = true:=fun z=>by rw [show has l "hidden" = false from hc] at z; cases z
    (repeat walk_at "p1")
    unfold m1
    rw [if_neg hc']
  refine jHA ⟨[some (jBF p),some (lsV t (l.map .str)),y2,some (jBF (m2 l (m1 l p)))],h⟩ ?_ ?_
  ·(repeat (first | refine ⟨_,(jQX t).1,?_⟩ | walk_at "p1"))
   refine jGQ (fun hc=>?_) fun hc=>?_
   ·have hc':has l "whole" = true:=hc
    refine wL (jVK ?_)
    (repeat walk_at "p1")
    refine yZ (jIS (p:=(m1 l p)) (od:=none) (on:=none) (os:=(some false)) (oh:=none) (ol:=none) (jJY (jQN k) nofun nofun nofun)) fun v h' z=>?_
    obtain ⟨rfl,rfl⟩:=z
    refine ⟨rfl,rfl,?_⟩
    unfold m2
    rw [if_pos hc']; rfl
   ·have hc':¬ has l "whole" = true:=fun z=>by rw [show has l "whole" = false from hc] at z; cases z
    (repeat walk_at "p1")
    unfold m2
    rw [if_neg hc']
  refine jHA ⟨[some (jBF p),some (lsV t (l.map .str)),y2,some (jBF (m3 l (m2 l (m1 l p))))],h⟩ ?_ ?_
  ·(repeat (first | refine ⟨_,(jQX t).1,?_⟩ | (refine jSB (yH rfl ⟨_,rfl,?_⟩)) | refine ⟨_,jXW (jSC (jQN k)),?_⟩ | walk_at "p1"))
   refine jGQ (fun hc=>?_) fun hc=>?_
   ·(repeat (first | (refine jSB (yH rfl ⟨_,rfl,?_⟩)) | refine ⟨_,jXW (jSC (jQN k)),?_⟩ | walk_at "p1"))
    refine jGQ (fun hd=>?_) fun hd=>?_
    ·have hc':(has l "one" && decide ((m2 l (m1 l p)).l = "none"))=true:=by unfold has; rw [hc,hd]; rfl
     refine wL (jVK ?_)
     (repeat walk_at "p1")
     refine yZ (jIS (p:=(m2 l (m1 l p))) (od:=none) (on:=none) (os:=none) (oh:=none) (ol:=(some "one")) (jJY (jSC (jQN k)) nofun nofun (fun l e=>by cases e; exact .inr (.inl rfl)))) fun v h' z=>?_
     obtain ⟨rfl,rfl⟩:=z
     refine ⟨rfl,rfl,?_⟩
     unfold m3
     rw [if_pos hc']; rfl
    ·have hc':¬ (has l "one" && decide ((m2 l (m1 l p)).l = "none"))=true:=by unfold has; rw [hc,hd]; exact Bool.false_ne_true
     (repeat walk_at "p1")
     unfold m3
     rw [if_neg hc']
   ·have hc':¬ (has l "one" && decide ((m2 l (m1 l p)).l = "none"))=true:=by unfold has; rw [hc]; exact Bool.false_ne_true
    (repeat walk_at "p1")
    unfold m3
    rw [if_neg hc']
  refine jHA ⟨[some (jBF p),some (lsV t (l.map .str)),y2,some (jBF (m4 l (m3 l (m2 l (m1 l p)))))],h⟩ ?_ ?_
  ·(repeat (first | refine ⟨_,(jQX t).1,?_⟩ | walk_at "p1"))
   refine jGQ (fun hc=>?_) fun hc=>?_
   ·have hc':has l "all" = true:=hc
    refine wL (jVK ?_)
    (repeat walk_at "p1")
    refine yZ (jIS (p:=(m3 l (m2 l (m1 l p)))) (od:=none) (on:=none) (os:=none) (oh:=none) (ol:=(some "all")) (jJY (yDY (jSC (jQN k))) nofun nofun (fun l e=>by cases e; exact .inr (.inr rfl)))) fun v h' z=>?_
    obtain ⟨rfl,rfl⟩:=z
    refine ⟨rfl,rfl,?_⟩
    unfold m4
    rw [if_pos hc']; rfl
   ·have hc':¬ has l "all" = true:=fun z=>by rw [show has l "all" = false from hc] at z; cases z
    (repeat walk_at "p1")
    unfold m4
    rw [if_neg hc']
  refine jHA ⟨[some (jBF p),some (lsV t (l.map .str)),y2,some (jBF (m5 l (m4 l (m3 l (m2 l (m1 l p))))))],h⟩ ?_ ?_
  ·(repeat (first | refine ⟨_,(jQX t).1,?_⟩ | walk_at "p1"))
   refine jGQ (fun hc=>?_) fun hc=>?_
   ·have hc':has l "drops" = true:=hc
    refine wL (jVK ?_)
    (repeat walk_at "p1")
    refine yZ (jIS (p:=(m4 l (m3 l (m2 l (m1 l p))))) (od:=(some tD)) (on:=none) (os:=none) (oh:=none) (ol:=none) (jJY (yHY (yDY (jSC (jQN k)))) (fun l e=>by cases e; exact yTP) nofun nofun)) fun v h' z=>?_
    obtain ⟨rfl,rfl⟩:=z
    refine ⟨rfl,rfl,?_⟩
    unfold m5
    rw [if_pos hc']; rfl
   ·have hc':¬ has l "drops" = true:=fun z=>by rw [show has l "drops" = false from hc] at z; cases z
    (repeat walk_at "p1")
    unfold m5
    rw [if_neg hc']
  (repeat (first | refine ⟨_,(jQX t).1,?_⟩ | walk_at "p1"))
  refine jGQ (fun hc=>?_) fun hc=>?_
  ·have hc':has l "numbers" = true:=hc
   refine jVK ?_
   (repeat walk_at "p1")
   refine yZ (jIS (p:=(m5 l (m4 l (m3 l (m2 l (m1 l p)))))) (od:=none) (on:=(some tN)) (os:=none) (oh:=none) (ol:=none) (jJY (yTX (yHY (yDY (jSC (jQN k))))) nofun (fun l e=>by cases e; exact yTN) nofun)) fun v h' z=>?_
   obtain ⟨rfl,rfl⟩:=z
   refine ⟨rfl,?_,rfl⟩
   unfold jCQ m6
   rw [if_pos hc']
  ·have hc':¬ has l "numbers" = true:=fun z=>by rw [show has l "numbers" = false from hc] at z; cases z
   (repeat walk_at "p1")
   refine ⟨?_,rfl⟩
   unfold jCQ m6
   rw [if_neg hc']
end
end LW
set_option maxHeartbeats 4000000
namespace LW
open PySem PySem.Spec PyProof.Rows L2 Lp
section
theorem yLF (l:List Str) (p:SpecW):jCQ l p=⟨if has l "drops" then tD else p.d,if has l "numbers" then tN else p.n,p.s&&!has l "whole", p.h||has l "hidden", if has l "all" then "all" else if has l "one" && decide (p.l = "none") then "one" else p.l⟩:=by
 obtain ⟨d,n,s,h,lk⟩:=p
 unfold jCQ
 have e1:m1 l ⟨d,n,s,h,lk⟩=⟨d,n,s,h||has l "hidden", lk⟩:=by unfold m1 bw; cases has l "hidden" <;> simp
 rw [e1]
 have e2:∀ h,m2 l ⟨d,n,s,h,lk⟩=⟨d,n,s&&!has l "whole", h,lk⟩:=fun h=>by unfold m2 bw; cases has l "whole" <;> simp
 rw [e2]
 have e3:∀ s h,m3 l ⟨d,n,s,h,lk⟩=⟨d,n,s,h,if has l "one" && decide (lk = "none") then "one" else lk⟩:=fun s h=>by
  unfold m3 bw
  show (if (has l "one" && decide (lk = "none"))=true then (⟨d,n,s,h,"one"⟩:SpecW) else ⟨d,n,s,h,lk⟩)=_
  split <;> rfl
 rw [e3]
 have e4:∀ s h lk,m4 l ⟨d,n,s,h,lk⟩=⟨d,n,s,h,if has l "all" then "all" else lk⟩:=fun s h lk=>by unfold m4 bw; cases has l "all" <;> simp
 rw [e4]
 have e5:∀ s h lk,m5 l ⟨d,n,s,h,lk⟩=⟨if has l "drops" then tD else d,n,s,h,lk⟩:=fun s h lk=>by unfold m5 bw; cases has l "drops" <;> simp
 rw [e5]
 unfold m6 bw
 cases has l "numbers" <;> simp
theorem jYJ {t:Bool} {l:List Str} {p:SpecW} {h:AH} (k:p.Ok):(uG [p.v,lsV t (l.map .str)] h).post (fun v h'=>v=(jCQ l p).v∧h'=h) NE:=by
 unfold uG
 rw [jMI]
 unfold jFZ
 refine jCW [some p.v,some (lsV t (l.map .str)),none,none,none,none,none] rfl ?_
 have inl:∀ w,fIn h (.str w) (lsV t (l.map .str))=some (.bl (has l w)):=fun w=>(jQX t).1
 have ninl:∀ w,jIF h (.str w) (lsV t (l.map .str))=some (.bl (!has l w)):=fun w=>(jQX t).2
 refine jHA ⟨[some p.v,some (lsV t (l.map .str)),some (.str (mkS p.d)),some (.str (mkS p.n)),some (.bl p.s),some (.bl p.h),some (.str p.l)],h⟩ ?_ ?_
 ·refine yCG ?_
  (repeat walk_at "p1")
 refine jHA ⟨[some p.v,some (lsV t (l.map .str)),some (.str (mkS p.d)),some (.str (mkS p.n)),some (.bl p.s),some (.bl p.h),some (.str (if has l "one" && decide (p.l = "none") then "one" else p.l))],h⟩ ?_ ?_
 ·(repeat (first | refine ⟨_,inl _,?_⟩ | walk_at "p1"))
  refine jGQ (fun hc=>?_) fun hc=>?_
  ·(repeat (first | refine ⟨_,jXW k,?_⟩ | walk_at "p1"))
   refine jGQ (fun hd=>?_) fun hd=>?_
   ·(repeat walk_at "p1")
    rw [hc,hd]; rfl
   ·(repeat walk_at "p1")
    rw [hc,hd]; rfl
  ·(repeat walk_at "p1")
   rw [hc]; rfl
 refine jHA ⟨[some p.v,some (lsV t (l.map .str)),some (.str (mkS p.d)),some (.str (mkS p.n)),some (.bl p.s),some (.bl p.h),some (.str (if has l "all" then "all" else if has l "one" && decide (p.l = "none") then "one" else p.l))],h⟩ ?_ ?_
 ·(repeat (first | refine ⟨_,inl _,?_⟩ | walk_at "p1"))
  refine jGQ (fun hc=>?_) fun hc=>?_
  ·(repeat walk_at "p1")
   rw [hc]; rfl
  ·(repeat walk_at "p1")
   rw [hc]; rfl
 refine jHA ⟨[some p.v,some (lsV t (l.map .str)),some (.str (mkS (if has l "drops" then tD else p.d))),some (.str (mkS p.n)),some (.bl p.s),some (.bl p.h),some (.str (if has l "all" then "all" else if has l "one" && decide (p.l = "none") then "one" else p.l))],h⟩ ?_ ?_
 ·(repeat (first | refine ⟨_,inl _,?_⟩ | walk_at "p1"))
  refine jGQ (fun hc=>?_) fun hc=>?_
  ·(repeat walk_at "p1")
   rw [hc]; rfl
  ·(repeat walk_at "p1")
   rw [hc]; rfl
 refine jHA ⟨[some p.v,some (lsV t (l.map .str)),some (.str (mkS (if has l "drops" then tD else p.d))),some (.str (mkS (if has l "numbers" then tN else p.n))),some (.bl p.s),some (.bl p.h),some (.str (if has l "all" then "all" else if has l "one" && decide (p.l = "none") then "one" else p.l))],h⟩ ?_ ?_
 ·(repeat (first | refine ⟨_,inl _,?_⟩ | walk_at "p1"))
  refine jGQ (fun hc=>?_) fun hc=>?_
  ·(repeat walk_at "p1")
   rw [hc]; rfl
  ·(repeat walk_at "p1")
   rw [hc]; rfl
 rw [yLF]
 refine jAF (jBD ?_)
 refine yK (yH rfl (yK (yH rfl (yK (qM (yH rfl ⟨_,rfl,?_⟩)))))) 
 have fin:∀ a b:Bool,a=(p.s&&!has l "whole")→b=(p.h||has l "hidden")→PV.tup [.str (mkS (if has l "drops" then tD else p.d)),.str (mkS (if has l "numbers" then tN else p.n)),.bl a,.bl b,.str (if has l "all" then "all" else if has l "one" && decide (p.l = "none") then "one" else p.l)]=SpecW.v ⟨if has l "drops" then tD else p.d,if has l "numbers" then tN else p.n,p.s&&!has l "whole", p.h||has l "hidden", if has l "all" then "all" else if has l "one" && decide (p.l = "none") then "one" else p.l⟩:=fun a b ea eb=>by rw [ea,eb]; rfl
 have last:∀ (s:S) (a:Bool),s=⟨[some p.v,some (lsV t (l.map .str)),some (.str (mkS (if has l "drops" then tD else p.d))),some (.str (mkS (if has l "numbers" then tN else p.n))),some (.bl p.s),some (.bl p.h),some (.str (if has l "all" then "all" else if has l "one" && decide (p.l = "none") then "one" else p.l))],h⟩→a=(p.s&&!has l "whole")→(jG (yMD (jM 5) (jX fIn (xEC (.str "hidden")) (jM 1))) (jG (jM 6) jT) s).post (fun vs s1=>(vM ([.str (mkS (if has l "drops" then tD else p.d)),.str (mkS (if has l "numbers" then tN else p.n)),.bl a]++vs)=true∧([PV.str (mkS (if has l "drops" then tD else p.d)),.str (mkS (if has l "numbers" then tN else p.n)),.bl a]++vs).length≤16777216)∧PV.tup ([.str (mkS (if has l "drops" then tD else p.d)),.str (mkS (if has l "numbers" then tN else p.n)),.bl a]++vs)=SpecW.v ⟨if has l "drops" then tD else p.d,if has l "numbers" then tN else p.n,p.s&&!has l "whole", p.h||has l "hidden", if has l "all" then "all" else if has l "one" && decide (p.l = "none") then "one" else p.l⟩∧s1.h=h) (fun x s=>NE x s.h):=by
  rintro _ a rfl ea
  refine yK (jCH (yH rfl ⟨_,rfl,?_⟩))
  refine jGQ (fun hb=>?_) fun hb=>?_
  ·refine yK (yH rfl (vW ⟨⟨rfl,Nat.le_of_ble_eq_true rfl⟩,fin _ _ ea (by rw [hb]; rfl),rfl⟩))
  ·refine uX (p_c (yH rfl ⟨_,inl _,?_⟩))
   refine yK (yH rfl (vW ⟨⟨rfl,Nat.le_of_ble_eq_true rfl⟩,fin _ _ ea (by rw [hb]; rfl),rfl⟩))
 refine jGQ (fun ha=>?_) fun ha=>?_
 ·refine uX (p_c (yH rfl ⟨_,ninl _,?_⟩))
  refine p_mono (last _ (!has l "whole") rfl (by rw [ha]; rfl)) (fun vs s1 q=>⟨q.1,rfl,q.2.1,q.2.2⟩) fun _ _ z=>z
 ·refine p_mono (last _ false rfl (by rw [ha]; rfl)) (fun vs s1 q=>⟨q.1,rfl,q.2.1,q.2.2⟩) fun _ _ z=>z
end
end LW
set_option maxHeartbeats 4000000
namespace LW
open PySem PySem.Spec PyProof.Rows L2 Lp
def brok:PV:=.tup [.str "broken"]
def b1N (b:Bool):Nat:=if b then 1 else 0
def bt (b0 b1 b2 b3 x y:Bool):Bool:=if x then (if y then b3 else b2) else (if y then b1 else b0)
def lkN (l:Str):Nat:=if l = "none" then 0 else if l = "one" then 1 else 2
def tb (k i:Nat):Bool:=k / 2 ^ i % 2 == 1
def stP (w:Nat):Nat→PV
 | 0=>brok
 | k+1=>match w with
  | 1=>.tup [.bl (tb k 4),.bl (tb k 3),.bl (tb k 2),.bl (tb k 1),.bl (tb k 0)]
  | 2=>.tup [.bl (tb k 2),.bl (tb k 1),.bl (tb k 0)]
  | 3=>.tup [.int (k / 8:Nat),.bl (tb k 2),.bl (tb k 1),.bl (tb k 0)]
  | 5=>.tup [.bl (tb k 1),.bl (tb k 0)]
  | _=>.tup [.bl (tb k 3),.bl (tb k 2),.bl (tb k 1),.bl (tb k 0)]
def e5 (a b c d e:Bool):Nat:=1+16 * b1N a+8 * b1N b+4 * b1N c+2 * b1N d+b1N e
def e4 (a b c d:Bool):Nat:=e5 false a b c d
def eR (ph:Nat) (b c d:Bool):Nat:=1+8 * ph+4 * b1N b+2 * b1N c+b1N d
def yUD (lands:Bool) (lk:Nat) (b:Bool) (e a q l:Bool):List (Str × Nat) :=
 (if lk == 2 then [] else [(("number" : Str),e4 true a q true),(("aside" : Str),e4 true a q l)])++[(("again" : Str),e4 e true q l),(("apart" : Str),e4 e a true l)]++(if (if lands then !q&&(l&&b) else !a&&b) then [(("answer" : Str),0)] else [])
def vEB (lk:Nat) (s:Bool) (b:Bool) (la kn el dr lo:Bool):List (Str × Nat) :=
 if la then (if lk == 0 then [(("number" : Str),e5 true kn true dr true)] else [])++(if lk == 2 then [] else [(("drop" : Str),e5 true kn el true lo)])++(if b&&(!kn||(lo&&s)) then [(("answer" : Str),0)] else [])
 else (if lk == 0 then [(("number" : Str),e5 false kn true dr lo)] else [])++(if lk == 2 then [] else [(("land" : Str),e5 true kn el true lo)])++[(("ahead" : Str),e5 true true false false false)]
def yVC (lk:Nat) (s:Bool) (b:Bool) (e d x:Bool):List (Str × Nat) :=
 (if lk == 0 then [(("number" : Str),e5 false false true d true)] else [])++(if lk == 2 then [] else [(("drop" : Str),e5 false false e true x)])++(if b&&(x&&s) then [(("answer" : Str),0)] else [])
def vDV (lk:Nat) (b:Bool) (e d:Bool):List (Str × Nat) :=
 (if lk == 0 then [(("number" : Str),e5 false false false true d)] else [])++(if lk == 2 then [] else [(("drop" : Str),e5 false false false e true)])++(if b then [(("answer" : Str),0)] else [])
def vEL (lk:Nat) (s h:Bool) (b:Bool) (ph:Nat) (el dr lo:Bool):List (Str × Nat) :=
 (if ph == 1 then [(("back" : Str),if lo then 0 else eR 2 el (dr||lk != 2) lo)] else [(("strike" : Str),eR 1 el dr lo)])++[(("number" : Str),eR ph (el||lk == 0) dr (lo||(ph == 1&&!h)))]++(if lk == 2 then [] else [(("drop" : Str),eR ph el true lo)]) ++
  (if el&&(s&&b) then [(("late" : Str),if ph == 2 then 0 else eR ph el dr true)] else [])
def FW (w lk:Nat) (s h b1 b2 b3:Bool):Nat→List (Str × Nat)
 | 0=>[]
 | k+1=>(match w with
  | 0=>yUD true lk (bt true b1 b2 b3 (tb k 3) (tb k 2)) (tb k 3) (tb k 2) (tb k 1) (tb k 0)
  | 1=>vEB lk s (bt true b1 b2 b3 (tb k 2) (tb k 1)) (tb k 4) (tb k 3) (tb k 2) (tb k 1) (tb k 0)
  | 2=>yVC lk s (bt true b1 b2 b3 (tb k 2) (tb k 1)) (tb k 2) (tb k 1) (tb k 0)
  | 3=>vEL lk s h (bt true b1 b2 b3 (tb k 2) (tb k 1)) (k / 8) (tb k 2) (tb k 1) (tb k 0)
  | 4=>yUD false lk (bt false b1 b2 b3 (tb k 3) (tb k 1)) (tb k 3) (tb k 2) (tb k 1) (tb k 0)
  | _=>vDV lk (bt false b1 b2 b3 (tb k 1) (tb k 0)) (tb k 1) (tb k 0)).filter fun x=>!Nat.beq x.2 (k+1)
def kZ (w:Nat):Str:=match w with
 | 0 => "lands" | 1 => "stays" | 2 => "still" | 3 => "returns" | 4 => "heard" | _ => "numbered"
def wX (w:Nat):Nat:=match w with
 | 0=>17 | 1=>33 | 2=>9 | 3=>25 | 4=>17 | _=>5
def jVG (w:Nat) (x:Str × Nat):PV:=.tup [.str x.1,stP w x.2]
def pw (w:Nat) (p:SpecW):Bool × Bool × Bool:=match w with
 | 0=>(Nat.beq (ltr p.d 2) 116,Nat.beq (ltr p.d 4) 116,Nat.beq (ltr p.d 6) 116)
 | 4=>(Nat.beq (ltr p.d 1) 114,Nat.beq (ltr p.d 4) 114,Nat.beq (ltr p.d 5) 114)
 | 5=>(Nat.beq (ltr p.n 1) 114,Nat.beq (ltr p.n 2) 114,Nat.beq (ltr p.n 3) 114)
 | _=>(Nat.beq (ltr p.n 1) 116,Nat.beq (ltr p.n 2) 116,Nat.beq (ltr p.n 3) 116)
def Fp (w:Nat) (p:SpecW):Nat→List (Str × Nat):=FW w (lkN p.l) p.s p.h (pw w p).1 (pw w p).2.1 (pw w p).2.2
def ProgS (w:Nat) (p:SpecW) (c:Nat):Prop:=∀ h:AH,jAV [jBF p,.str (kZ w),stP w c] h=.ok (.lst ((Fp w p c).map (jVG w))) h
def LawS (w:Nat) (p:SpecW) (c:Nat):Prop:=∀ h:AH,jAW [p.v,.str (kZ w),stP w c] h=.ok (.lst ((Fp w p c).map (jVG w))) h
theorem list8 {d:List Nat} (t:TabC d 8):∃ c1 c2 c3 c4 c5 c6 c7,d=[116,c1,c2,c3,c4,c5,c6,c7]∧TrC c1∧TrC c2∧TrC c3∧TrC c4∧TrC c5∧TrC c6∧TrC c7:=by
 obtain ⟨hl,hh,ht⟩:=t
 match d,hl,hh,ht with
 | [c0,c1,c2,c3,c4,c5,c6,c7],_,hh,ht =>
  cases hh
  exact ⟨c1,c2,c3,c4,c5,c6,c7,rfl,ht _ (by simp),ht _ (by simp),ht _ (by simp),ht _ (by simp),ht _ (by simp),ht _ (by simp),ht _ (by simp)⟩
theorem list4 {d:List Nat} (t:TabC d 4):∃ c1 c2 c3,d=[116,c1,c2,c3]∧TrC c1∧TrC c2∧TrC c3:=by
 obtain ⟨hl,hh,ht⟩:=t
 match d,hl,hh,ht with
 | [c0,c1,c2,c3],_,hh,ht =>
  cases hh
  exact ⟨c1,c2,c3,rfl,ht _ (by simp),ht _ (by simp),ht _ (by simp)⟩
section
variable {c1 c2 c3 c4 c5 c6 c7 n1 n2 n3:Nat} {s hh:Bool} {l:Str}
abbrev wy (c1 c2 c3 c4 c5 c6 c7 n1 n2 n3:Nat) (s hh:Bool) (l:Str):SpecW:=⟨[116,c1,c2,c3,c4,c5,c6,c7],[116,n1,n2,n3],s,hh,l⟩
theorem yXG  : ProgS 0 (wy c1 c2 c3 c4 c5 c6 c7 n1 n2 n3 s hh l) 0:=fun h=>by
 kernel_rfl
theorem yZK  : LawS 0 (wy c1 c2 c3 c4 c5 c6 c7 n1 n2 n3 s hh l) 0:=fun h=>by
 kernel_rfl
theorem yXF (kl:LockS l):ProgS 0 (wy c1 c2 c3 c4 c5 c6 c7 n1 n2 n3 s hh l) 1:=fun h=>by
 rcases kl with rfl | rfl | rfl <;> kernel_rfl
theorem yZJ (kl:LockS l):LawS 0 (wy c1 c2 c3 c4 c5 c6 c7 n1 n2 n3 s hh l) 1:=fun h=>by
 rcases kl with rfl | rfl | rfl <;> kernel_rfl
theorem yXE (kl:LockS l):ProgS 0 (wy c1 c2 c3 c4 c5 c6 c7 n1 n2 n3 s hh l) 2:=fun h=>by
 rcases kl with rfl | rfl | rfl <;> kernel_rfl
theorem yZI (kl:LockS l):LawS 0 (wy c1 c2 c3 c4 c5 c6 c7 n1 n2 n3 s hh l) 2:=fun h=>by
 rcases kl with rfl | rfl | rfl <;> kernel_rfl
theorem yXD (tc1:TrC c1) (kl:LockS l):ProgS 0 (wy c1 c2 c3 c4 c5 c6 c7 n1 n2 n3 s hh l) 3:=fun h=>by
 rcases tc1 with rfl | rfl | rfl <;> rcases kl with rfl | rfl | rfl <;> kernel_rfl
theorem yZH (tc1:TrC c1) (kl:LockS l):LawS 0 (wy c1 c2 c3 c4 c5 c6 c7 n1 n2 n3 s hh l) 3:=fun h=>by
 rcases tc1 with rfl | rfl | rfl <;> rcases kl with rfl | rfl | rfl <;> kernel_rfl
theorem yXC (tc1:TrC c1) (kl:LockS l):ProgS 0 (wy c1 c2 c3 c4 c5 c6 c7 n1 n2 n3 s hh l) 4:=fun h=>by
 rcases tc1 with rfl | rfl | rfl <;> rcases kl with rfl | rfl | rfl <;> kernel_rfl
theorem yZG (tc1:TrC c1) (kl:LockS l):LawS 0 (wy c1 c2 c3 c4 c5 c6 c7 n1 n2 n3 s hh l) 4:=fun h=>by
 rcases tc1 with rfl | rfl | rfl <;> rcases kl with rfl | rfl | rfl <;> kernel_rfl
theorem yXB (tc2:TrC c2) (kl:LockS l):ProgS 0 (wy c1 c2 c3 c4 c5 c6 c7 n1 n2 n3 s hh l) 5:=fun h=>by
 rcases tc2 with rfl | rfl | rfl <;> rcases kl with rfl | rfl | rfl <;> kernel_rfl
theorem yZF (tc2:TrC c2) (kl:LockS l):LawS 0 (wy c1 c2 c3 c4 c5 c6 c7 n1 n2 n3 s hh l) 5:=fun h=>by
 rcases tc2 with rfl | rfl | rfl <;> rcases kl with rfl | rfl | rfl <;> kernel_rfl
theorem yXA (tc2:TrC c2) (kl:LockS l):ProgS 0 (wy c1 c2 c3 c4 c5 c6 c7 n1 n2 n3 s hh l) 6:=fun h=>by
 rcases tc2 with rfl | rfl | rfl <;> rcases kl with rfl | rfl | rfl <;> kernel_rfl
theorem yZE (tc2:TrC c2) (kl:LockS l):LawS 0 (wy c1 c2 c3 c4 c5 c6 c7 n1 n2 n3 s hh l) 6:=fun h=>by
 rcases tc2 with rfl | rfl | rfl <;> rcases kl with rfl | rfl | rfl <;> kernel_rfl
theorem yWZ (tc3:TrC c3) (kl:LockS l):ProgS 0 (wy c1 c2 c3 c4 c5 c6 c7 n1 n2 n3 s hh l) 7:=fun h=>by
 rcases tc3 with rfl | rfl | rfl <;> rcases kl with rfl | rfl | rfl <;> kernel_rfl
theorem yZD (tc3:TrC c3) (kl:LockS l):LawS 0 (wy c1 c2 c3 c4 c5 c6 c7 n1 n2 n3 s hh l) 7:=fun h=>by
 rcases tc3 with rfl | rfl | rfl <;> rcases kl with rfl | rfl | rfl <;> kernel_rfl
theorem yWY (tc3:TrC c3) (kl:LockS l):ProgS 0 (wy c1 c2 c3 c4 c5 c6 c7 n1 n2 n3 s hh l) 8:=fun h=>by
 rcases tc3 with rfl | rfl | rfl <;> rcases kl with rfl | rfl | rfl <;> kernel_rfl
theorem yZC (tc3:TrC c3) (kl:LockS l):LawS 0 (wy c1 c2 c3 c4 c5 c6 c7 n1 n2 n3 s hh l) 8:=fun h=>by
 rcases tc3 with rfl | rfl | rfl <;> rcases kl with rfl | rfl | rfl <;> kernel_rfl
theorem yWX (tc4:TrC c4) (kl:LockS l):ProgS 0 (wy c1 c2 c3 c4 c5 c6 c7 n1 n2 n3 s hh l) 9:=fun h=>by
 rcases tc4 with rfl | rfl | rfl <;> rcases kl with rfl | rfl | rfl <;> kernel_rfl
theorem yZB (tc4:TrC c4) (kl:LockS l):LawS 0 (wy c1 c2 c3 c4 c5 c6 c7 n1 n2 n3 s hh l) 9:=fun h=>by
 rcases tc4 with rfl | rfl | rfl <;> rcases kl with rfl | rfl | rfl <;> kernel_rfl
theorem yOP (tc4:TrC c4) (kl:LockS l):ProgS 0 (wy c1 c2 c3 c4 c5 c6 c7 n1 n2 n3 s hh l) 10:=fun h=>by
 rcases tc4 with rfl | rfl | rfl <;> rcases kl with rfl | rfl | rfl <;> kernel_rfl
theorem yQP (tc4:TrC c4) (kl:LockS l):LawS 0 (wy c1 c2 c3 c4 c5 c6 c7 n1 n2 n3 s hh l) 10:=fun h=>by
 rcases tc4 with rfl | rfl | rfl <;> rcases kl with rfl | rfl | rfl <;> kernel_rfl
theorem yOO (tc5:TrC c5) (kl:LockS l):ProgS 0 (wy c1 c2 c3 c4 c5 c6 c7 n1 n2 n3 s hh l) 11:=fun h=>by
 rcases tc5 with rfl | rfl | rfl <;> rcases kl with rfl | rfl | rfl <;> kernel_rfl
theorem yQO (tc5:TrC c5) (kl:LockS l):LawS 0 (wy c1 c2 c3 c4 c5 c6 c7 n1 n2 n3 s hh l) 11:=fun h=>by
 rcases tc5 with rfl | rfl | rfl <;> rcases kl with rfl | rfl | rfl <;> kernel_rfl
theorem yON (tc5:TrC c5) (kl:LockS l):ProgS 0 (wy c1 c2 c3 c4 c5 c6 c7 n1 n2 n3 s hh l) 12:=fun h=>by
 rcases tc5 with rfl | rfl | rfl <;> rcases kl with rfl | rfl | rfl <;> kernel_rfl
theorem yQN (tc5:TrC c5) (kl:LockS l):LawS 0 (wy c1 c2 c3 c4 c5 c6 c7 n1 n2 n3 s hh l) 12:=fun h=>by
 rcases tc5 with rfl | rfl | rfl <;> rcases kl with rfl | rfl | rfl <;> kernel_rfl
theorem yOM (tc6:TrC c6) (kl:LockS l):ProgS 0 (wy c1 c2 c3 c4 c5 c6 c7 n1 n2 n3 s hh l) 13:=fun h=>by
 rcases tc6 with rfl | rfl | rfl <;> rcases kl with rfl | rfl | rfl <;> kernel_rfl
theorem yQM (tc6:TrC c6) (kl:LockS l):LawS 0 (wy c1 c2 c3 c4 c5 c6 c7 n1 n2 n3 s hh l) 13:=fun h=>by
 rcases tc6 with rfl | rfl | rfl <;> rcases kl with rfl | rfl | rfl <;> kernel_rfl
theorem yOL (tc6:TrC c6) (kl:LockS l):ProgS 0 (wy c1 c2 c3 c4 c5 c6 c7 n1 n2 n3 s hh l) 14:=fun h=>by
 rcases tc6 with rfl | rfl | rfl <;> rcases kl with rfl | rfl | rfl <;> kernel_rfl
theorem yQL (tc6:TrC c6) (kl:LockS l):LawS 0 (wy c1 c2 c3 c4 c5 c6 c7 n1 n2 n3 s hh l) 14:=fun h=>by
 rcases tc6 with rfl | rfl | rfl <;> rcases kl with rfl | rfl | rfl <;> kernel_rfl
theorem yOK (tc7:TrC c7) (kl:LockS l):ProgS 0 (wy c1 c2 c3 c4 c5 c6 c7 n1 n2 n3 s hh l) 15:=fun h=>by
 rcases tc7 with rfl | rfl | rfl <;> rcases kl with rfl | rfl | rfl <;> kernel_rfl
theorem yQK (tc7:TrC c7) (kl:LockS l):LawS 0 (wy c1 c2 c3 c4 c5 c6 c7 n1 n2 n3 s hh l) 15:=fun h=>by
 rcases tc7 with rfl | rfl | rfl <;> rcases kl with rfl | rfl | rfl <;> kernel_rfl
theorem yOJ (tc7:TrC c7) (kl:LockS l):ProgS 0 (wy c1 c2 c3 c4 c5 c6 c7 n1 n2 n3 s hh l) 16:=fun h=>by
 rcases tc7 with rfl | rfl | rfl <;> rcases kl with rfl | rfl | rfl <;> kernel_rfl
theorem yQJ (tc7:TrC c7) (kl:LockS l):LawS 0 (wy c1 c2 c3 c4 c5 c6 c7 n1 n2 n3 s hh l) 16:=fun h=>by
 rcases tc7 with rfl | rfl | rfl <;> rcases kl with rfl | rfl | rfl <;> kernel_rfl
theorem yWW  : ProgS 1 (wy c1 c2 c3 c4 c5 c6 c7 n1 n2 n3 s hh l) 0:=fun h=>by
 kernel_rfl
theorem yZA  : LawS 1 (wy c1 c2 c3 c4 c5 c6 c7 n1 n2 n3 s hh l) 0:=fun h=>by
 kernel_rfl
theorem yWV (kl:LockS l):ProgS 1 (wy c1 c2 c3 c4 c5 c6 c7 n1 n2 n3 s hh l) 1:=fun h=>by
 rcases kl with rfl | rfl | rfl <;> kernel_rfl
theorem yYZ (kl:LockS l):LawS 1 (wy c1 c2 c3 c4 c5 c6 c7 n1 n2 n3 s hh l) 1:=fun h=>by
 rcases kl with rfl | rfl | rfl <;> kernel_rfl
theorem yWU (kl:LockS l):ProgS 1 (wy c1 c2 c3 c4 c5 c6 c7 n1 n2 n3 s hh l) 2:=fun h=>by
 rcases kl with rfl | rfl | rfl <;> kernel_rfl
theorem yYY (kl:LockS l):LawS 1 (wy c1 c2 c3 c4 c5 c6 c7 n1 n2 n3 s hh l) 2:=fun h=>by
 rcases kl with rfl | rfl | rfl <;> kernel_rfl
theorem yWT (kl:LockS l):ProgS 1 (wy c1 c2 c3 c4 c5 c6 c7 n1 n2 n3 s hh l) 3:=fun h=>by
 rcases kl with rfl | rfl | rfl <;> kernel_rfl
theorem yYX (kl:LockS l):LawS 1 (wy c1 c2 c3 c4 c5 c6 c7 n1 n2 n3 s hh l) 3:=fun h=>by
 rcases kl with rfl | rfl | rfl <;> kernel_rfl
theorem yWS (kl:LockS l):ProgS 1 (wy c1 c2 c3 c4 c5 c6 c7 n1 n2 n3 s hh l) 4:=fun h=>by
 rcases kl with rfl | rfl | rfl <;> kernel_rfl
theorem yYW (kl:LockS l):LawS 1 (wy c1 c2 c3 c4 c5 c6 c7 n1 n2 n3 s hh l) 4:=fun h=>by
 rcases kl with rfl | rfl | rfl <;> kernel_rfl
theorem yWR (kl:LockS l):ProgS 1 (wy c1 c2 c3 c4 c5 c6 c7 n1 n2 n3 s hh l) 5:=fun h=>by
 rcases kl with rfl | rfl | rfl <;> kernel_rfl
theorem yYV (kl:LockS l):LawS 1 (wy c1 c2 c3 c4 c5 c6 c7 n1 n2 n3 s hh l) 5:=fun h=>by
 rcases kl with rfl | rfl | rfl <;> kernel_rfl
theorem yWQ (kl:LockS l):ProgS 1 (wy c1 c2 c3 c4 c5 c6 c7 n1 n2 n3 s hh l) 6:=fun h=>by
 rcases kl with rfl | rfl | rfl <;> kernel_rfl
theorem yYU (kl:LockS l):LawS 1 (wy c1 c2 c3 c4 c5 c6 c7 n1 n2 n3 s hh l) 6:=fun h=>by
 rcases kl with rfl | rfl | rfl <;> kernel_rfl
theorem yWP (kl:LockS l):ProgS 1 (wy c1 c2 c3 c4 c5 c6 c7 n1 n2 n3 s hh l) 7:=fun h=>by
 rcases kl with rfl | rfl | rfl <;> kernel_rfl
theorem yYT (kl:LockS l):LawS 1 (wy c1 c2 c3 c4 c5 c6 c7 n1 n2 n3 s hh l) 7:=fun h=>by
 rcases kl with rfl | rfl | rfl <;> kernel_rfl
theorem yWO (kl:LockS l):ProgS 1 (wy c1 c2 c3 c4 c5 c6 c7 n1 n2 n3 s hh l) 8:=fun h=>by
 rcases kl with rfl | rfl | rfl <;> kernel_rfl
theorem yYS (kl:LockS l):LawS 1 (wy c1 c2 c3 c4 c5 c6 c7 n1 n2 n3 s hh l) 8:=fun h=>by
 rcases kl with rfl | rfl | rfl <;> kernel_rfl
theorem yWN (kl:LockS l):ProgS 1 (wy c1 c2 c3 c4 c5 c6 c7 n1 n2 n3 s hh l) 9:=fun h=>by
 rcases kl with rfl | rfl | rfl <;> kernel_rfl
theorem yYR (kl:LockS l):LawS 1 (wy c1 c2 c3 c4 c5 c6 c7 n1 n2 n3 s hh l) 9:=fun h=>by
 rcases kl with rfl | rfl | rfl <;> kernel_rfl
theorem yOI (kl:LockS l):ProgS 1 (wy c1 c2 c3 c4 c5 c6 c7 n1 n2 n3 s hh l) 10:=fun h=>by
 rcases kl with rfl | rfl | rfl <;> kernel_rfl
theorem yQI (kl:LockS l):LawS 1 (wy c1 c2 c3 c4 c5 c6 c7 n1 n2 n3 s hh l) 10:=fun h=>by
 rcases kl with rfl | rfl | rfl <;> kernel_rfl
theorem yOH (kl:LockS l):ProgS 1 (wy c1 c2 c3 c4 c5 c6 c7 n1 n2 n3 s hh l) 11:=fun h=>by
 rcases kl with rfl | rfl | rfl <;> kernel_rfl
theorem yQH (kl:LockS l):LawS 1 (wy c1 c2 c3 c4 c5 c6 c7 n1 n2 n3 s hh l) 11:=fun h=>by
 rcases kl with rfl | rfl | rfl <;> kernel_rfl
theorem yOG (kl:LockS l):ProgS 1 (wy c1 c2 c3 c4 c5 c6 c7 n1 n2 n3 s hh l) 12:=fun h=>by
 rcases kl with rfl | rfl | rfl <;> kernel_rfl
theorem yQG (kl:LockS l):LawS 1 (wy c1 c2 c3 c4 c5 c6 c7 n1 n2 n3 s hh l) 12:=fun h=>by
 rcases kl with rfl | rfl | rfl <;> kernel_rfl
theorem yOF (kl:LockS l):ProgS 1 (wy c1 c2 c3 c4 c5 c6 c7 n1 n2 n3 s hh l) 13:=fun h=>by
 rcases kl with rfl | rfl | rfl <;> kernel_rfl
theorem yQF (kl:LockS l):LawS 1 (wy c1 c2 c3 c4 c5 c6 c7 n1 n2 n3 s hh l) 13:=fun h=>by
 rcases kl with rfl | rfl | rfl <;> kernel_rfl
theorem yOE (kl:LockS l):ProgS 1 (wy c1 c2 c3 c4 c5 c6 c7 n1 n2 n3 s hh l) 14:=fun h=>by
 rcases kl with rfl | rfl | rfl <;> kernel_rfl
theorem yQE (kl:LockS l):LawS 1 (wy c1 c2 c3 c4 c5 c6 c7 n1 n2 n3 s hh l) 14:=fun h=>by
 rcases kl with rfl | rfl | rfl <;> kernel_rfl
theorem yOD (kl:LockS l):ProgS 1 (wy c1 c2 c3 c4 c5 c6 c7 n1 n2 n3 s hh l) 15:=fun h=>by
 rcases kl with rfl | rfl | rfl <;> kernel_rfl
theorem yQD (kl:LockS l):LawS 1 (wy c1 c2 c3 c4 c5 c6 c7 n1 n2 n3 s hh l) 15:=fun h=>by
 rcases kl with rfl | rfl | rfl <;> kernel_rfl
theorem yOC (kl:LockS l):ProgS 1 (wy c1 c2 c3 c4 c5 c6 c7 n1 n2 n3 s hh l) 16:=fun h=>by
 rcases kl with rfl | rfl | rfl <;> kernel_rfl
theorem yQC (kl:LockS l):LawS 1 (wy c1 c2 c3 c4 c5 c6 c7 n1 n2 n3 s hh l) 16:=fun h=>by
 rcases kl with rfl | rfl | rfl <;> kernel_rfl
theorem yOB (kl:LockS l):ProgS 1 (wy c1 c2 c3 c4 c5 c6 c7 n1 n2 n3 s hh l) 17:=fun h=>by
 rcases kl with rfl | rfl | rfl <;> kernel_rfl
theorem yQB (kl:LockS l):LawS 1 (wy c1 c2 c3 c4 c5 c6 c7 n1 n2 n3 s hh l) 17:=fun h=>by
 rcases kl with rfl | rfl | rfl <;> kernel_rfl
theorem yOA (kl:LockS l):ProgS 1 (wy c1 c2 c3 c4 c5 c6 c7 n1 n2 n3 s hh l) 18:=fun h=>by
 rcases kl with rfl | rfl | rfl <;> kernel_rfl
theorem yQA (kl:LockS l):LawS 1 (wy c1 c2 c3 c4 c5 c6 c7 n1 n2 n3 s hh l) 18:=fun h=>by
 rcases kl with rfl | rfl | rfl <;> kernel_rfl
theorem yNZ (kl:LockS l) (tn1:TrC n1):ProgS 1 (wy c1 c2 c3 c4 c5 c6 c7 n1 n2 n3 s hh l) 19:=fun h=>by
 rcases kl with rfl | rfl | rfl <;> rcases tn1 with rfl | rfl | rfl <;> kernel_rfl
theorem yPZ (kl:LockS l) (tn1:TrC n1):LawS 1 (wy c1 c2 c3 c4 c5 c6 c7 n1 n2 n3 s hh l) 19:=fun h=>by
 rcases kl with rfl | rfl | rfl <;> rcases tn1 with rfl | rfl | rfl <;> kernel_rfl
theorem yNY (kl:LockS l) (tn1:TrC n1):ProgS 1 (wy c1 c2 c3 c4 c5 c6 c7 n1 n2 n3 s hh l) 20:=fun h=>by
 rcases kl with rfl | rfl | rfl <;> rcases tn1 with rfl | rfl | rfl <;> kernel_rfl
theorem yPY (kl:LockS l) (tn1:TrC n1):LawS 1 (wy c1 c2 c3 c4 c5 c6 c7 n1 n2 n3 s hh l) 20:=fun h=>by
 rcases kl with rfl | rfl | rfl <;> rcases tn1 with rfl | rfl | rfl <;> kernel_rfl
theorem yNX (kl:LockS l) (tn2:TrC n2):ProgS 1 (wy c1 c2 c3 c4 c5 c6 c7 n1 n2 n3 s hh l) 21:=fun h=>by
 rcases kl with rfl | rfl | rfl <;> rcases tn2 with rfl | rfl | rfl <;> kernel_rfl
theorem yPX (kl:LockS l) (tn2:TrC n2):LawS 1 (wy c1 c2 c3 c4 c5 c6 c7 n1 n2 n3 s hh l) 21:=fun h=>by
 rcases kl with rfl | rfl | rfl <;> rcases tn2 with rfl | rfl | rfl <;> kernel_rfl
theorem yNW (kl:LockS l) (tn2:TrC n2):ProgS 1 (wy c1 c2 c3 c4 c5 c6 c7 n1 n2 n3 s hh l) 22:=fun h=>by
 rcases kl with rfl | rfl | rfl <;> rcases tn2 with rfl | rfl | rfl <;> kernel_rfl
theorem yPW (kl:LockS l) (tn2:TrC n2):LawS 1 (wy c1 c2 c3 c4 c5 c6 c7 n1 n2 n3 s hh l) 22:=fun h=>by
 rcases kl with rfl | rfl | rfl <;> rcases tn2 with rfl | rfl | rfl <;> kernel_rfl
theorem yNV (kl:LockS l) (tn3:TrC n3):ProgS 1 (wy c1 c2 c3 c4 c5 c6 c7 n1 n2 n3 s hh l) 23:=fun h=>by
 rcases kl with rfl | rfl | rfl <;> rcases tn3 with rfl | rfl | rfl <;> kernel_rfl
theorem yPV (kl:LockS l) (tn3:TrC n3):LawS 1 (wy c1 c2 c3 c4 c5 c6 c7 n1 n2 n3 s hh l) 23:=fun h=>by
 rcases kl with rfl | rfl | rfl <;> rcases tn3 with rfl | rfl | rfl <;> kernel_rfl
theorem yNU (kl:LockS l) (tn3:TrC n3):ProgS 1 (wy c1 c2 c3 c4 c5 c6 c7 n1 n2 n3 s hh l) 24:=fun h=>by
 rcases kl with rfl | rfl | rfl <;> rcases tn3 with rfl | rfl | rfl <;> kernel_rfl
theorem yPU (kl:LockS l) (tn3:TrC n3):LawS 1 (wy c1 c2 c3 c4 c5 c6 c7 n1 n2 n3 s hh l) 24:=fun h=>by
 rcases kl with rfl | rfl | rfl <;> rcases tn3 with rfl | rfl | rfl <;> kernel_rfl
theorem yNT (kl:LockS l):ProgS 1 (wy c1 c2 c3 c4 c5 c6 c7 n1 n2 n3 s hh l) 25:=fun h=>by
 rcases kl with rfl | rfl | rfl <;> kernel_rfl
theorem yPT (kl:LockS l):LawS 1 (wy c1 c2 c3 c4 c5 c6 c7 n1 n2 n3 s hh l) 25:=fun h=>by
 rcases kl with rfl | rfl | rfl <;> kernel_rfl
theorem yNS (kl:LockS l):ProgS 1 (wy c1 c2 c3 c4 c5 c6 c7 n1 n2 n3 s hh l) 26:=fun h=>by
 rcases kl with rfl | rfl | rfl <;> cases s <;> kernel_rfl
theorem yPS (kl:LockS l):LawS 1 (wy c1 c2 c3 c4 c5 c6 c7 n1 n2 n3 s hh l) 26:=fun h=>by
 rcases kl with rfl | rfl | rfl <;> cases s <;> kernel_rfl
theorem yNR (kl:LockS l) (tn1:TrC n1):ProgS 1 (wy c1 c2 c3 c4 c5 c6 c7 n1 n2 n3 s hh l) 27:=fun h=>by
 rcases kl with rfl | rfl | rfl <;> rcases tn1 with rfl | rfl | rfl <;> kernel_rfl
theorem yPR (kl:LockS l) (tn1:TrC n1):LawS 1 (wy c1 c2 c3 c4 c5 c6 c7 n1 n2 n3 s hh l) 27:=fun h=>by
 rcases kl with rfl | rfl | rfl <;> rcases tn1 with rfl | rfl | rfl <;> kernel_rfl
theorem yNQ (kl:LockS l) (tn1:TrC n1):ProgS 1 (wy c1 c2 c3 c4 c5 c6 c7 n1 n2 n3 s hh l) 28:=fun h=>by
 rcases kl with rfl | rfl | rfl <;> rcases tn1 with rfl | rfl | rfl <;> cases s <;> kernel_rfl
theorem yPQ (kl:LockS l) (tn1:TrC n1):LawS 1 (wy c1 c2 c3 c4 c5 c6 c7 n1 n2 n3 s hh l) 28:=fun h=>by
 rcases kl with rfl | rfl | rfl <;> rcases tn1 with rfl | rfl | rfl <;> cases s <;> kernel_rfl
theorem yNP (kl:LockS l) (tn2:TrC n2):ProgS 1 (wy c1 c2 c3 c4 c5 c6 c7 n1 n2 n3 s hh l) 29:=fun h=>by
 rcases kl with rfl | rfl | rfl <;> rcases tn2 with rfl | rfl | rfl <;> kernel_rfl
theorem yPP (kl:LockS l) (tn2:TrC n2):LawS 1 (wy c1 c2 c3 c4 c5 c6 c7 n1 n2 n3 s hh l) 29:=fun h=>by
 rcases kl with rfl | rfl | rfl <;> rcases tn2 with rfl | rfl | rfl <;> kernel_rfl
theorem yNO (kl:LockS l) (tn2:TrC n2):ProgS 1 (wy c1 c2 c3 c4 c5 c6 c7 n1 n2 n3 s hh l) 30:=fun h=>by
 rcases kl with rfl | rfl | rfl <;> rcases tn2 with rfl | rfl | rfl <;> cases s <;> kernel_rfl
theorem yPO (kl:LockS l) (tn2:TrC n2):LawS 1 (wy c1 c2 c3 c4 c5 c6 c7 n1 n2 n3 s hh l) 30:=fun h=>by
 rcases kl with rfl | rfl | rfl <;> rcases tn2 with rfl | rfl | rfl <;> cases s <;> kernel_rfl
theorem yNN (kl:LockS l) (tn3:TrC n3):ProgS 1 (wy c1 c2 c3 c4 c5 c6 c7 n1 n2 n3 s hh l) 31:=fun h=>by
 rcases kl with rfl | rfl | rfl <;> rcases tn3 with rfl | rfl | rfl <;> kernel_rfl
theorem yPN (kl:LockS l) (tn3:TrC n3):LawS 1 (wy c1 c2 c3 c4 c5 c6 c7 n1 n2 n3 s hh l) 31:=fun h=>by
 rcases kl with rfl | rfl | rfl <;> rcases tn3 with rfl | rfl | rfl <;> kernel_rfl
theorem yNM (kl:LockS l) (tn3:TrC n3):ProgS 1 (wy c1 c2 c3 c4 c5 c6 c7 n1 n2 n3 s hh l) 32:=fun h=>by
 rcases kl with rfl | rfl | rfl <;> rcases tn3 with rfl | rfl | rfl <;> cases s <;> kernel_rfl
theorem yPM (kl:LockS l) (tn3:TrC n3):LawS 1 (wy c1 c2 c3 c4 c5 c6 c7 n1 n2 n3 s hh l) 32:=fun h=>by
 rcases kl with rfl | rfl | rfl <;> rcases tn3 with rfl | rfl | rfl <;> cases s <;> kernel_rfl
theorem yWM  : ProgS 2 (wy c1 c2 c3 c4 c5 c6 c7 n1 n2 n3 s hh l) 0:=fun h=>by
 kernel_rfl
theorem yYQ  : LawS 2 (wy c1 c2 c3 c4 c5 c6 c7 n1 n2 n3 s hh l) 0:=fun h=>by
 kernel_rfl
theorem yWL (kl:LockS l):ProgS 2 (wy c1 c2 c3 c4 c5 c6 c7 n1 n2 n3 s hh l) 1:=fun h=>by
 rcases kl with rfl | rfl | rfl <;> kernel_rfl
theorem yYP (kl:LockS l):LawS 2 (wy c1 c2 c3 c4 c5 c6 c7 n1 n2 n3 s hh l) 1:=fun h=>by
 rcases kl with rfl | rfl | rfl <;> kernel_rfl
theorem yWK (kl:LockS l):ProgS 2 (wy c1 c2 c3 c4 c5 c6 c7 n1 n2 n3 s hh l) 2:=fun h=>by
 rcases kl with rfl | rfl | rfl <;> cases s <;> kernel_rfl
theorem yYO (kl:LockS l):LawS 2 (wy c1 c2 c3 c4 c5 c6 c7 n1 n2 n3 s hh l) 2:=fun h=>by
 rcases kl with rfl | rfl | rfl <;> cases s <;> kernel_rfl
theorem yWJ (kl:LockS l) (tn1:TrC n1):ProgS 2 (wy c1 c2 c3 c4 c5 c6 c7 n1 n2 n3 s hh l) 3:=fun h=>by
 rcases kl with rfl | rfl | rfl <;> rcases tn1 with rfl | rfl | rfl <;> kernel_rfl
theorem yYN (kl:LockS l) (tn1:TrC n1):LawS 2 (wy c1 c2 c3 c4 c5 c6 c7 n1 n2 n3 s hh l) 3:=fun h=>by
 rcases kl with rfl | rfl | rfl <;> rcases tn1 with rfl | rfl | rfl <;> kernel_rfl
theorem yWI (kl:LockS l) (tn1:TrC n1):ProgS 2 (wy c1 c2 c3 c4 c5 c6 c7 n1 n2 n3 s hh l) 4:=fun h=>by
 rcases kl with rfl | rfl | rfl <;> rcases tn1 with rfl | rfl | rfl <;> cases s <;> kernel_rfl
theorem yYM (kl:LockS l) (tn1:TrC n1):LawS 2 (wy c1 c2 c3 c4 c5 c6 c7 n1 n2 n3 s hh l) 4:=fun h=>by
 rcases kl with rfl | rfl | rfl <;> rcases tn1 with rfl | rfl | rfl <;> cases s <;> kernel_rfl
theorem yWH (kl:LockS l) (tn2:TrC n2):ProgS 2 (wy c1 c2 c3 c4 c5 c6 c7 n1 n2 n3 s hh l) 5:=fun h=>by
 rcases kl with rfl | rfl | rfl <;> rcases tn2 with rfl | rfl | rfl <;> kernel_rfl
theorem yYL (kl:LockS l) (tn2:TrC n2):LawS 2 (wy c1 c2 c3 c4 c5 c6 c7 n1 n2 n3 s hh l) 5:=fun h=>by
 rcases kl with rfl | rfl | rfl <;> rcases tn2 with rfl | rfl | rfl <;> kernel_rfl
theorem yWG (kl:LockS l) (tn2:TrC n2):ProgS 2 (wy c1 c2 c3 c4 c5 c6 c7 n1 n2 n3 s hh l) 6:=fun h=>by
 rcases kl with rfl | rfl | rfl <;> rcases tn2 with rfl | rfl | rfl <;> cases s <;> kernel_rfl
theorem yYK (kl:LockS l) (tn2:TrC n2):LawS 2 (wy c1 c2 c3 c4 c5 c6 c7 n1 n2 n3 s hh l) 6:=fun h=>by
 rcases kl with rfl | rfl | rfl <;> rcases tn2 with rfl | rfl | rfl <;> cases s <;> kernel_rfl
theorem yWF (kl:LockS l) (tn3:TrC n3):ProgS 2 (wy c1 c2 c3 c4 c5 c6 c7 n1 n2 n3 s hh l) 7:=fun h=>by
 rcases kl with rfl | rfl | rfl <;> rcases tn3 with rfl | rfl | rfl <;> kernel_rfl
theorem yYJ (kl:LockS l) (tn3:TrC n3):LawS 2 (wy c1 c2 c3 c4 c5 c6 c7 n1 n2 n3 s hh l) 7:=fun h=>by
 rcases kl with rfl | rfl | rfl <;> rcases tn3 with rfl | rfl | rfl <;> kernel_rfl
theorem yWE (kl:LockS l) (tn3:TrC n3):ProgS 2 (wy c1 c2 c3 c4 c5 c6 c7 n1 n2 n3 s hh l) 8:=fun h=>by
 rcases kl with rfl | rfl | rfl <;> rcases tn3 with rfl | rfl | rfl <;> cases s <;> kernel_rfl
theorem yYI (kl:LockS l) (tn3:TrC n3):LawS 2 (wy c1 c2 c3 c4 c5 c6 c7 n1 n2 n3 s hh l) 8:=fun h=>by
 rcases kl with rfl | rfl | rfl <;> rcases tn3 with rfl | rfl | rfl <;> cases s <;> kernel_rfl
theorem yWD  : ProgS 3 (wy c1 c2 c3 c4 c5 c6 c7 n1 n2 n3 s hh l) 0:=fun h=>by
 kernel_rfl
theorem yYH  : LawS 3 (wy c1 c2 c3 c4 c5 c6 c7 n1 n2 n3 s hh l) 0:=fun h=>by
 kernel_rfl
theorem yWC (kl:LockS l):ProgS 3 (wy c1 c2 c3 c4 c5 c6 c7 n1 n2 n3 s hh l) 1:=fun h=>by
 rcases kl with rfl | rfl | rfl <;> kernel_rfl
theorem yYG (kl:LockS l):LawS 3 (wy c1 c2 c3 c4 c5 c6 c7 n1 n2 n3 s hh l) 1:=fun h=>by
 rcases kl with rfl | rfl | rfl <;> kernel_rfl
theorem yWB (kl:LockS l):ProgS 3 (wy c1 c2 c3 c4 c5 c6 c7 n1 n2 n3 s hh l) 2:=fun h=>by
 rcases kl with rfl | rfl | rfl <;> kernel_rfl
theorem yYF (kl:LockS l):LawS 3 (wy c1 c2 c3 c4 c5 c6 c7 n1 n2 n3 s hh l) 2:=fun h=>by
 rcases kl with rfl | rfl | rfl <;> kernel_rfl
theorem yWA (kl:LockS l):ProgS 3 (wy c1 c2 c3 c4 c5 c6 c7 n1 n2 n3 s hh l) 3:=fun h=>by
 rcases kl with rfl | rfl | rfl <;> kernel_rfl
theorem yYE (kl:LockS l):LawS 3 (wy c1 c2 c3 c4 c5 c6 c7 n1 n2 n3 s hh l) 3:=fun h=>by
 rcases kl with rfl | rfl | rfl <;> kernel_rfl
theorem yVZ (kl:LockS l):ProgS 3 (wy c1 c2 c3 c4 c5 c6 c7 n1 n2 n3 s hh l) 4:=fun h=>by
 rcases kl with rfl | rfl | rfl <;> kernel_rfl
theorem yYD (kl:LockS l):LawS 3 (wy c1 c2 c3 c4 c5 c6 c7 n1 n2 n3 s hh l) 4:=fun h=>by
 rcases kl with rfl | rfl | rfl <;> kernel_rfl
theorem yVY (kl:LockS l) (tn2:TrC n2):ProgS 3 (wy c1 c2 c3 c4 c5 c6 c7 n1 n2 n3 s hh l) 5:=fun h=>by
 rcases kl with rfl | rfl | rfl <;> cases s <;> rcases tn2 with rfl | rfl | rfl <;> kernel_rfl
theorem yYC (kl:LockS l) (tn2:TrC n2):LawS 3 (wy c1 c2 c3 c4 c5 c6 c7 n1 n2 n3 s hh l) 5:=fun h=>by
 rcases kl with rfl | rfl | rfl <;> cases s <;> rcases tn2 with rfl | rfl | rfl <;> kernel_rfl
theorem yVX (kl:LockS l) (tn2:TrC n2):ProgS 3 (wy c1 c2 c3 c4 c5 c6 c7 n1 n2 n3 s hh l) 6:=fun h=>by
 rcases kl with rfl | rfl | rfl <;> cases s <;> rcases tn2 with rfl | rfl | rfl <;> kernel_rfl
theorem yYB (kl:LockS l) (tn2:TrC n2):LawS 3 (wy c1 c2 c3 c4 c5 c6 c7 n1 n2 n3 s hh l) 6:=fun h=>by
 rcases kl with rfl | rfl | rfl <;> cases s <;> rcases tn2 with rfl | rfl | rfl <;> kernel_rfl
theorem yVW (kl:LockS l) (tn3:TrC n3):ProgS 3 (wy c1 c2 c3 c4 c5 c6 c7 n1 n2 n3 s hh l) 7:=fun h=>by
 rcases kl with rfl | rfl | rfl <;> cases s <;> rcases tn3 with rfl | rfl | rfl <;> kernel_rfl
theorem yYA (kl:LockS l) (tn3:TrC n3):LawS 3 (wy c1 c2 c3 c4 c5 c6 c7 n1 n2 n3 s hh l) 7:=fun h=>by
 rcases kl with rfl | rfl | rfl <;> cases s <;> rcases tn3 with rfl | rfl | rfl <;> kernel_rfl
theorem yVV (kl:LockS l) (tn3:TrC n3):ProgS 3 (wy c1 c2 c3 c4 c5 c6 c7 n1 n2 n3 s hh l) 8:=fun h=>by
 rcases kl with rfl | rfl | rfl <;> cases s <;> rcases tn3 with rfl | rfl | rfl <;> kernel_rfl
theorem yXZ (kl:LockS l) (tn3:TrC n3):LawS 3 (wy c1 c2 c3 c4 c5 c6 c7 n1 n2 n3 s hh l) 8:=fun h=>by
 rcases kl with rfl | rfl | rfl <;> cases s <;> rcases tn3 with rfl | rfl | rfl <;> kernel_rfl
theorem yVU (kl:LockS l):ProgS 3 (wy c1 c2 c3 c4 c5 c6 c7 n1 n2 n3 s hh l) 9:=fun h=>by
 rcases kl with rfl | rfl | rfl <;> cases hh <;> kernel_rfl
theorem yXY (kl:LockS l):LawS 3 (wy c1 c2 c3 c4 c5 c6 c7 n1 n2 n3 s hh l) 9:=fun h=>by
 rcases kl with rfl | rfl | rfl <;> cases hh <;> kernel_rfl
theorem yNL (kl:LockS l):ProgS 3 (wy c1 c2 c3 c4 c5 c6 c7 n1 n2 n3 s hh l) 10:=fun h=>by
 rcases kl with rfl | rfl | rfl <;> kernel_rfl
theorem yPL (kl:LockS l):LawS 3 (wy c1 c2 c3 c4 c5 c6 c7 n1 n2 n3 s hh l) 10:=fun h=>by
 rcases kl with rfl | rfl | rfl <;> kernel_rfl
theorem yNK (kl:LockS l):ProgS 3 (wy c1 c2 c3 c4 c5 c6 c7 n1 n2 n3 s hh l) 11:=fun h=>by
 rcases kl with rfl | rfl | rfl <;> cases hh <;> kernel_rfl
theorem yPK (kl:LockS l):LawS 3 (wy c1 c2 c3 c4 c5 c6 c7 n1 n2 n3 s hh l) 11:=fun h=>by
 rcases kl with rfl | rfl | rfl <;> cases hh <;> kernel_rfl
theorem yNJ (kl:LockS l):ProgS 3 (wy c1 c2 c3 c4 c5 c6 c7 n1 n2 n3 s hh l) 12:=fun h=>by
 rcases kl with rfl | rfl | rfl <;> kernel_rfl
theorem yPJ (kl:LockS l):LawS 3 (wy c1 c2 c3 c4 c5 c6 c7 n1 n2 n3 s hh l) 12:=fun h=>by
 rcases kl with rfl | rfl | rfl <;> kernel_rfl
theorem yNI (kl:LockS l) (tn2:TrC n2):ProgS 3 (wy c1 c2 c3 c4 c5 c6 c7 n1 n2 n3 s hh l) 13:=fun h=>by
 rcases kl with rfl | rfl | rfl <;> cases hh <;> cases s <;> rcases tn2 with rfl | rfl | rfl <;> kernel_rfl
theorem yPI (kl:LockS l) (tn2:TrC n2):LawS 3 (wy c1 c2 c3 c4 c5 c6 c7 n1 n2 n3 s hh l) 13:=fun h=>by
 rcases kl with rfl | rfl | rfl <;> cases hh <;> cases s <;> rcases tn2 with rfl | rfl | rfl <;> kernel_rfl
theorem yNH (kl:LockS l) (tn2:TrC n2):ProgS 3 (wy c1 c2 c3 c4 c5 c6 c7 n1 n2 n3 s hh l) 14:=fun h=>by
 rcases kl with rfl | rfl | rfl <;> cases s <;> rcases tn2 with rfl | rfl | rfl <;> kernel_rfl
theorem yPH (kl:LockS l) (tn2:TrC n2):LawS 3 (wy c1 c2 c3 c4 c5 c6 c7 n1 n2 n3 s hh l) 14:=fun h=>by
 rcases kl with rfl | rfl | rfl <;> cases s <;> rcases tn2 with rfl | rfl | rfl <;> kernel_rfl
theorem yNG (kl:LockS l) (tn3:TrC n3):ProgS 3 (wy c1 c2 c3 c4 c5 c6 c7 n1 n2 n3 s hh l) 15:=fun h=>by
 rcases kl with rfl | rfl | rfl <;> cases hh <;> cases s <;> rcases tn3 with rfl | rfl | rfl <;> kernel_rfl
theorem yPG (kl:LockS l) (tn3:TrC n3):LawS 3 (wy c1 c2 c3 c4 c5 c6 c7 n1 n2 n3 s hh l) 15:=fun h=>by
 rcases kl with rfl | rfl | rfl <;> cases hh <;> cases s <;> rcases tn3 with rfl | rfl | rfl <;> kernel_rfl
theorem yNF (kl:LockS l) (tn3:TrC n3):ProgS 3 (wy c1 c2 c3 c4 c5 c6 c7 n1 n2 n3 s hh l) 16:=fun h=>by
 rcases kl with rfl | rfl | rfl <;> cases s <;> rcases tn3 with rfl | rfl | rfl <;> kernel_rfl
theorem yPF (kl:LockS l) (tn3:TrC n3):LawS 3 (wy c1 c2 c3 c4 c5 c6 c7 n1 n2 n3 s hh l) 16:=fun h=>by
 rcases kl with rfl | rfl | rfl <;> cases s <;> rcases tn3 with rfl | rfl | rfl <;> kernel_rfl
theorem yNE (kl:LockS l):ProgS 3 (wy c1 c2 c3 c4 c5 c6 c7 n1 n2 n3 s hh l) 17:=fun h=>by
 rcases kl with rfl | rfl | rfl <;> kernel_rfl
theorem yPE (kl:LockS l):LawS 3 (wy c1 c2 c3 c4 c5 c6 c7 n1 n2 n3 s hh l) 17:=fun h=>by
 rcases kl with rfl | rfl | rfl <;> kernel_rfl
theorem yND (kl:LockS l):ProgS 3 (wy c1 c2 c3 c4 c5 c6 c7 n1 n2 n3 s hh l) 18:=fun h=>by
 rcases kl with rfl | rfl | rfl <;> kernel_rfl
theorem yPD (kl:LockS l):LawS 3 (wy c1 c2 c3 c4 c5 c6 c7 n1 n2 n3 s hh l) 18:=fun h=>by
 rcases kl with rfl | rfl | rfl <;> kernel_rfl
theorem yNC (kl:LockS l):ProgS 3 (wy c1 c2 c3 c4 c5 c6 c7 n1 n2 n3 s hh l) 19:=fun h=>by
 rcases kl with rfl | rfl | rfl <;> kernel_rfl
theorem yPC (kl:LockS l):LawS 3 (wy c1 c2 c3 c4 c5 c6 c7 n1 n2 n3 s hh l) 19:=fun h=>by
 rcases kl with rfl | rfl | rfl <;> kernel_rfl
theorem yNB (kl:LockS l):ProgS 3 (wy c1 c2 c3 c4 c5 c6 c7 n1 n2 n3 s hh l) 20:=fun h=>by
 rcases kl with rfl | rfl | rfl <;> kernel_rfl
theorem yPB (kl:LockS l):LawS 3 (wy c1 c2 c3 c4 c5 c6 c7 n1 n2 n3 s hh l) 20:=fun h=>by
 rcases kl with rfl | rfl | rfl <;> kernel_rfl
theorem yNA (kl:LockS l) (tn2:TrC n2):ProgS 3 (wy c1 c2 c3 c4 c5 c6 c7 n1 n2 n3 s hh l) 21:=fun h=>by
 rcases kl with rfl | rfl | rfl <;> cases s <;> rcases tn2 with rfl | rfl | rfl <;> kernel_rfl
theorem yPA (kl:LockS l) (tn2:TrC n2):LawS 3 (wy c1 c2 c3 c4 c5 c6 c7 n1 n2 n3 s hh l) 21:=fun h=>by
 rcases kl with rfl | rfl | rfl <;> cases s <;> rcases tn2 with rfl | rfl | rfl <;> kernel_rfl
theorem yMZ (kl:LockS l) (tn2:TrC n2):ProgS 3 (wy c1 c2 c3 c4 c5 c6 c7 n1 n2 n3 s hh l) 22:=fun h=>by
 rcases kl with rfl | rfl | rfl <;> cases s <;> rcases tn2 with rfl | rfl | rfl <;> kernel_rfl
theorem yOZ (kl:LockS l) (tn2:TrC n2):LawS 3 (wy c1 c2 c3 c4 c5 c6 c7 n1 n2 n3 s hh l) 22:=fun h=>by
 rcases kl with rfl | rfl | rfl <;> cases s <;> rcases tn2 with rfl | rfl | rfl <;> kernel_rfl
theorem yMY (kl:LockS l) (tn3:TrC n3):ProgS 3 (wy c1 c2 c3 c4 c5 c6 c7 n1 n2 n3 s hh l) 23:=fun h=>by
 rcases kl with rfl | rfl | rfl <;> cases s <;> rcases tn3 with rfl | rfl | rfl <;> kernel_rfl
theorem yOY (kl:LockS l) (tn3:TrC n3):LawS 3 (wy c1 c2 c3 c4 c5 c6 c7 n1 n2 n3 s hh l) 23:=fun h=>by
 rcases kl with rfl | rfl | rfl <;> cases s <;> rcases tn3 with rfl | rfl | rfl <;> kernel_rfl
theorem yMX (kl:LockS l) (tn3:TrC n3):ProgS 3 (wy c1 c2 c3 c4 c5 c6 c7 n1 n2 n3 s hh l) 24:=fun h=>by
 rcases kl with rfl | rfl | rfl <;> cases s <;> rcases tn3 with rfl | rfl | rfl <;> kernel_rfl
theorem yOX (kl:LockS l) (tn3:TrC n3):LawS 3 (wy c1 c2 c3 c4 c5 c6 c7 n1 n2 n3 s hh l) 24:=fun h=>by
 rcases kl with rfl | rfl | rfl <;> cases s <;> rcases tn3 with rfl | rfl | rfl <;> kernel_rfl
theorem yVT  : ProgS 4 (wy c1 c2 c3 c4 c5 c6 c7 n1 n2 n3 s hh l) 0:=fun h=>by
 kernel_rfl
theorem yXX  : LawS 4 (wy c1 c2 c3 c4 c5 c6 c7 n1 n2 n3 s hh l) 0:=fun h=>by
 kernel_rfl
theorem yVS (kl:LockS l):ProgS 4 (wy c1 c2 c3 c4 c5 c6 c7 n1 n2 n3 s hh l) 1:=fun h=>by
 rcases kl with rfl | rfl | rfl <;> kernel_rfl
theorem yXW (kl:LockS l):LawS 4 (wy c1 c2 c3 c4 c5 c6 c7 n1 n2 n3 s hh l) 1:=fun h=>by
 rcases kl with rfl | rfl | rfl <;> kernel_rfl
theorem yVR (kl:LockS l):ProgS 4 (wy c1 c2 c3 c4 c5 c6 c7 n1 n2 n3 s hh l) 2:=fun h=>by
 rcases kl with rfl | rfl | rfl <;> kernel_rfl
theorem yXV (kl:LockS l):LawS 4 (wy c1 c2 c3 c4 c5 c6 c7 n1 n2 n3 s hh l) 2:=fun h=>by
 rcases kl with rfl | rfl | rfl <;> kernel_rfl
theorem yVQ (tc1:TrC c1) (kl:LockS l):ProgS 4 (wy c1 c2 c3 c4 c5 c6 c7 n1 n2 n3 s hh l) 3:=fun h=>by
 rcases tc1 with rfl | rfl | rfl <;> rcases kl with rfl | rfl | rfl <;> kernel_rfl
theorem yXU (tc1:TrC c1) (kl:LockS l):LawS 4 (wy c1 c2 c3 c4 c5 c6 c7 n1 n2 n3 s hh l) 3:=fun h=>by
 rcases tc1 with rfl | rfl | rfl <;> rcases kl with rfl | rfl | rfl <;> kernel_rfl
theorem yVP (tc1:TrC c1) (kl:LockS l):ProgS 4 (wy c1 c2 c3 c4 c5 c6 c7 n1 n2 n3 s hh l) 4:=fun h=>by
 rcases tc1 with rfl | rfl | rfl <;> rcases kl with rfl | rfl | rfl <;> kernel_rfl
theorem yXT (tc1:TrC c1) (kl:LockS l):LawS 4 (wy c1 c2 c3 c4 c5 c6 c7 n1 n2 n3 s hh l) 4:=fun h=>by
 rcases tc1 with rfl | rfl | rfl <;> rcases kl with rfl | rfl | rfl <;> kernel_rfl
theorem yVO (tc2:TrC c2) (kl:LockS l):ProgS 4 (wy c1 c2 c3 c4 c5 c6 c7 n1 n2 n3 s hh l) 5:=fun h=>by
 rcases tc2 with rfl | rfl | rfl <;> rcases kl with rfl | rfl | rfl <;> kernel_rfl
theorem yXS (tc2:TrC c2) (kl:LockS l):LawS 4 (wy c1 c2 c3 c4 c5 c6 c7 n1 n2 n3 s hh l) 5:=fun h=>by
 rcases tc2 with rfl | rfl | rfl <;> rcases kl with rfl | rfl | rfl <;> kernel_rfl
theorem yVN (tc2:TrC c2) (kl:LockS l):ProgS 4 (wy c1 c2 c3 c4 c5 c6 c7 n1 n2 n3 s hh l) 6:=fun h=>by
 rcases tc2 with rfl | rfl | rfl <;> rcases kl with rfl | rfl | rfl <;> kernel_rfl
theorem yXR (tc2:TrC c2) (kl:LockS l):LawS 4 (wy c1 c2 c3 c4 c5 c6 c7 n1 n2 n3 s hh l) 6:=fun h=>by
 rcases tc2 with rfl | rfl | rfl <;> rcases kl with rfl | rfl | rfl <;> kernel_rfl
theorem yVM (tc3:TrC c3) (kl:LockS l):ProgS 4 (wy c1 c2 c3 c4 c5 c6 c7 n1 n2 n3 s hh l) 7:=fun h=>by
 rcases tc3 with rfl | rfl | rfl <;> rcases kl with rfl | rfl | rfl <;> kernel_rfl
theorem yXQ (tc3:TrC c3) (kl:LockS l):LawS 4 (wy c1 c2 c3 c4 c5 c6 c7 n1 n2 n3 s hh l) 7:=fun h=>by
 rcases tc3 with rfl | rfl | rfl <;> rcases kl with rfl | rfl | rfl <;> kernel_rfl
theorem yVL (tc3:TrC c3) (kl:LockS l):ProgS 4 (wy c1 c2 c3 c4 c5 c6 c7 n1 n2 n3 s hh l) 8:=fun h=>by
 rcases tc3 with rfl | rfl | rfl <;> rcases kl with rfl | rfl | rfl <;> kernel_rfl
theorem yXP (tc3:TrC c3) (kl:LockS l):LawS 4 (wy c1 c2 c3 c4 c5 c6 c7 n1 n2 n3 s hh l) 8:=fun h=>by
 rcases tc3 with rfl | rfl | rfl <;> rcases kl with rfl | rfl | rfl <;> kernel_rfl
theorem yVK (tc4:TrC c4) (kl:LockS l):ProgS 4 (wy c1 c2 c3 c4 c5 c6 c7 n1 n2 n3 s hh l) 9:=fun h=>by
 rcases tc4 with rfl | rfl | rfl <;> rcases kl with rfl | rfl | rfl <;> kernel_rfl
theorem yXO (tc4:TrC c4) (kl:LockS l):LawS 4 (wy c1 c2 c3 c4 c5 c6 c7 n1 n2 n3 s hh l) 9:=fun h=>by
 rcases tc4 with rfl | rfl | rfl <;> rcases kl with rfl | rfl | rfl <;> kernel_rfl
theorem yMW (tc4:TrC c4) (kl:LockS l):ProgS 4 (wy c1 c2 c3 c4 c5 c6 c7 n1 n2 n3 s hh l) 10:=fun h=>by
 rcases tc4 with rfl | rfl | rfl <;> rcases kl with rfl | rfl | rfl <;> kernel_rfl
theorem yOW (tc4:TrC c4) (kl:LockS l):LawS 4 (wy c1 c2 c3 c4 c5 c6 c7 n1 n2 n3 s hh l) 10:=fun h=>by
 rcases tc4 with rfl | rfl | rfl <;> rcases kl with rfl | rfl | rfl <;> kernel_rfl
theorem yMV (tc5:TrC c5) (kl:LockS l):ProgS 4 (wy c1 c2 c3 c4 c5 c6 c7 n1 n2 n3 s hh l) 11:=fun h=>by
 rcases tc5 with rfl | rfl | rfl <;> rcases kl with rfl | rfl | rfl <;> kernel_rfl
theorem yOV (tc5:TrC c5) (kl:LockS l):LawS 4 (wy c1 c2 c3 c4 c5 c6 c7 n1 n2 n3 s hh l) 11:=fun h=>by
 rcases tc5 with rfl | rfl | rfl <;> rcases kl with rfl | rfl | rfl <;> kernel_rfl
theorem yMU (tc5:TrC c5) (kl:LockS l):ProgS 4 (wy c1 c2 c3 c4 c5 c6 c7 n1 n2 n3 s hh l) 12:=fun h=>by
 rcases tc5 with rfl | rfl | rfl <;> rcases kl with rfl | rfl | rfl <;> kernel_rfl
theorem yOU (tc5:TrC c5) (kl:LockS l):LawS 4 (wy c1 c2 c3 c4 c5 c6 c7 n1 n2 n3 s hh l) 12:=fun h=>by
 rcases tc5 with rfl | rfl | rfl <;> rcases kl with rfl | rfl | rfl <;> kernel_rfl
theorem yMT (tc6:TrC c6) (kl:LockS l):ProgS 4 (wy c1 c2 c3 c4 c5 c6 c7 n1 n2 n3 s hh l) 13:=fun h=>by
 rcases tc6 with rfl | rfl | rfl <;> rcases kl with rfl | rfl | rfl <;> kernel_rfl
theorem yOT (tc6:TrC c6) (kl:LockS l):LawS 4 (wy c1 c2 c3 c4 c5 c6 c7 n1 n2 n3 s hh l) 13:=fun h=>by
 rcases tc6 with rfl | rfl | rfl <;> rcases kl with rfl | rfl | rfl <;> kernel_rfl
theorem yMS (tc6:TrC c6) (kl:LockS l):ProgS 4 (wy c1 c2 c3 c4 c5 c6 c7 n1 n2 n3 s hh l) 14:=fun h=>by
 rcases tc6 with rfl | rfl | rfl <;> rcases kl with rfl | rfl | rfl <;> kernel_rfl
theorem yOS (tc6:TrC c6) (kl:LockS l):LawS 4 (wy c1 c2 c3 c4 c5 c6 c7 n1 n2 n3 s hh l) 14:=fun h=>by
 rcases tc6 with rfl | rfl | rfl <;> rcases kl with rfl | rfl | rfl <;> kernel_rfl
theorem yMR (tc7:TrC c7) (kl:LockS l):ProgS 4 (wy c1 c2 c3 c4 c5 c6 c7 n1 n2 n3 s hh l) 15:=fun h=>by
 rcases tc7 with rfl | rfl | rfl <;> rcases kl with rfl | rfl | rfl <;> kernel_rfl
theorem yOR (tc7:TrC c7) (kl:LockS l):LawS 4 (wy c1 c2 c3 c4 c5 c6 c7 n1 n2 n3 s hh l) 15:=fun h=>by
 rcases tc7 with rfl | rfl | rfl <;> rcases kl with rfl | rfl | rfl <;> kernel_rfl
theorem yMQ (tc7:TrC c7) (kl:LockS l):ProgS 4 (wy c1 c2 c3 c4 c5 c6 c7 n1 n2 n3 s hh l) 16:=fun h=>by
 rcases tc7 with rfl | rfl | rfl <;> rcases kl with rfl | rfl | rfl <;> kernel_rfl
theorem yOQ (tc7:TrC c7) (kl:LockS l):LawS 4 (wy c1 c2 c3 c4 c5 c6 c7 n1 n2 n3 s hh l) 16:=fun h=>by
 rcases tc7 with rfl | rfl | rfl <;> rcases kl with rfl | rfl | rfl <;> kernel_rfl
theorem yVJ  : ProgS 5 (wy c1 c2 c3 c4 c5 c6 c7 n1 n2 n3 s hh l) 0:=fun h=>by
 kernel_rfl
theorem yXN  : LawS 5 (wy c1 c2 c3 c4 c5 c6 c7 n1 n2 n3 s hh l) 0:=fun h=>by
 kernel_rfl
theorem yVI (kl:LockS l):ProgS 5 (wy c1 c2 c3 c4 c5 c6 c7 n1 n2 n3 s hh l) 1:=fun h=>by
 rcases kl with rfl | rfl | rfl <;> kernel_rfl
theorem yXM (kl:LockS l):LawS 5 (wy c1 c2 c3 c4 c5 c6 c7 n1 n2 n3 s hh l) 1:=fun h=>by
 rcases kl with rfl | rfl | rfl <;> kernel_rfl
theorem yVH (kl:LockS l) (tn1:TrC n1):ProgS 5 (wy c1 c2 c3 c4 c5 c6 c7 n1 n2 n3 s hh l) 2:=fun h=>by
 rcases kl with rfl | rfl | rfl <;> rcases tn1 with rfl | rfl | rfl <;> kernel_rfl
theorem yXL (kl:LockS l) (tn1:TrC n1):LawS 5 (wy c1 c2 c3 c4 c5 c6 c7 n1 n2 n3 s hh l) 2:=fun h=>by
 rcases kl with rfl | rfl | rfl <;> rcases tn1 with rfl | rfl | rfl <;> kernel_rfl
theorem yVG (kl:LockS l) (tn2:TrC n2):ProgS 5 (wy c1 c2 c3 c4 c5 c6 c7 n1 n2 n3 s hh l) 3:=fun h=>by
 rcases kl with rfl | rfl | rfl <;> rcases tn2 with rfl | rfl | rfl <;> kernel_rfl
theorem yXK (kl:LockS l) (tn2:TrC n2):LawS 5 (wy c1 c2 c3 c4 c5 c6 c7 n1 n2 n3 s hh l) 3:=fun h=>by
 rcases kl with rfl | rfl | rfl <;> rcases tn2 with rfl | rfl | rfl <;> kernel_rfl
theorem yVF (kl:LockS l) (tn3:TrC n3):ProgS 5 (wy c1 c2 c3 c4 c5 c6 c7 n1 n2 n3 s hh l) 4:=fun h=>by
 rcases kl with rfl | rfl | rfl <;> rcases tn3 with rfl | rfl | rfl <;> kernel_rfl
theorem yXJ (kl:LockS l) (tn3:TrC n3):LawS 5 (wy c1 c2 c3 c4 c5 c6 c7 n1 n2 n3 s hh l) 4:=fun h=>by
 rcases kl with rfl | rfl | rfl <;> rcases tn3 with rfl | rfl | rfl <;> kernel_rfl
end
theorem yVE {p:SpecW} (k:p.Ok):∀ w,w < 6→∀ c,c < wX w→ProgS w p c:=by
 obtain ⟨kd,kn,kl⟩:=k
 obtain ⟨d,n,s,hh,l⟩:=p
 simp only at kd kn kl
 obtain ⟨c1,c2,c3,c4,c5,c6,c7,rfl,tc1,tc2,tc3,tc4,tc5,tc6,tc7⟩:=list8 kd
 obtain ⟨n1,n2,n3,rfl,tn1,tn2,tn3⟩:=list4 kn
 intro w hw c hc
 match w,hw,c,hc with
 | 0,_,0,_=>exact yXG
 | 0,_,1,_=>exact yXF kl
 | 0,_,2,_=>exact yXE kl
 | 0,_,3,_=>exact yXD tc1 kl
 | 0,_,4,_=>exact yXC tc1 kl
 | 0,_,5,_=>exact yXB tc2 kl
 | 0,_,6,_=>exact yXA tc2 kl
 | 0,_,7,_=>exact yWZ tc3 kl
 | 0,_,8,_=>exact yWY tc3 kl
 | 0,_,9,_=>exact yWX tc4 kl
 | 0,_,10,_=>exact yOP tc4 kl
 | 0,_,11,_=>exact yOO tc5 kl
 | 0,_,12,_=>exact yON tc5 kl
 | 0,_,13,_=>exact yOM tc6 kl
 | 0,_,14,_=>exact yOL tc6 kl
 | 0,_,15,_=>exact yOK tc7 kl
 | 0,_,16,_=>exact yOJ tc7 kl
 | 0,_,c+17,h=>exact absurd (show c+17 < 17 from h) (by omega)
 | 1,_,0,_=>exact yWW
 | 1,_,1,_=>exact yWV kl
 | 1,_,2,_=>exact yWU kl
 | 1,_,3,_=>exact yWT kl
 | 1,_,4,_=>exact yWS kl
 | 1,_,5,_=>exact yWR kl
 | 1,_,6,_=>exact yWQ kl
 | 1,_,7,_=>exact yWP kl
 | 1,_,8,_=>exact yWO kl
 | 1,_,9,_=>exact yWN kl
 | 1,_,10,_=>exact yOI kl
 | 1,_,11,_=>exact yOH kl
 | 1,_,12,_=>exact yOG kl
 | 1,_,13,_=>exact yOF kl
 | 1,_,14,_=>exact yOE kl
 | 1,_,15,_=>exact yOD kl
 | 1,_,16,_=>exact yOC kl
 | 1,_,17,_=>exact yOB kl
 | 1,_,18,_=>exact yOA kl
 | 1,_,19,_=>exact yNZ kl tn1
 | 1,_,20,_=>exact yNY kl tn1
 | 1,_,21,_=>exact yNX kl tn2
 | 1,_,22,_=>exact yNW kl tn2
 | 1,_,23,_=>exact yNV kl tn3
 | 1,_,24,_=>exact yNU kl tn3
 | 1,_,25,_=>exact yNT kl
 | 1,_,26,_=>exact yNS kl
 | 1,_,27,_=>exact yNR kl tn1
 | 1,_,28,_=>exact yNQ kl tn1
 | 1,_,29,_=>exact yNP kl tn2
 | 1,_,30,_=>exact yNO kl tn2
 | 1,_,31,_=>exact yNN kl tn3
 | 1,_,32,_=>exact yNM kl tn3
 | 1,_,c+33,h=>exact absurd (show c+33 < 33 from h) (by omega)
 | 2,_,0,_=>exact yWM
 | 2,_,1,_=>exact yWL kl
 | 2,_,2,_=>exact yWK kl
 | 2,_,3,_=>exact yWJ kl tn1
 | 2,_,4,_=>exact yWI kl tn1
 | 2,_,5,_=>exact yWH kl tn2
 | 2,_,6,_=>exact yWG kl tn2
 | 2,_,7,_=>exact yWF kl tn3
 | 2,_,8,_=>exact yWE kl tn3
 | 2,_,c+9,h=>exact absurd (show c+9 < 9 from h) (by omega)
 | 3,_,0,_=>exact yWD
 | 3,_,1,_=>exact yWC kl
 | 3,_,2,_=>exact yWB kl
 | 3,_,3,_=>exact yWA kl
 | 3,_,4,_=>exact yVZ kl
 | 3,_,5,_=>exact yVY kl tn2
 | 3,_,6,_=>exact yVX kl tn2
 | 3,_,7,_=>exact yVW kl tn3
 | 3,_,8,_=>exact yVV kl tn3
 | 3,_,9,_=>exact yVU kl
 | 3,_,10,_=>exact yNL kl
 | 3,_,11,_=>exact yNK kl
 | 3,_,12,_=>exact yNJ kl
 | 3,_,13,_=>exact yNI kl tn2
 | 3,_,14,_=>exact yNH kl tn2
 | 3,_,15,_=>exact yNG kl tn3
 | 3,_,16,_=>exact yNF kl tn3
 | 3,_,17,_=>exact yNE kl
 | 3,_,18,_=>exact yND kl
 | 3,_,19,_=>exact yNC kl
 | 3,_,20,_=>exact yNB kl
 | 3,_,21,_=>exact yNA kl tn2
 | 3,_,22,_=>exact yMZ kl tn2
 | 3,_,23,_=>exact yMY kl tn3
 | 3,_,24,_=>exact yMX kl tn3
 | 3,_,c+25,h=>exact absurd (show c+25 < 25 from h) (by omega)
 | 4,_,0,_=>exact yVT
 | 4,_,1,_=>exact yVS kl
 | 4,_,2,_=>exact yVR kl
 | 4,_,3,_=>exact yVQ tc1 kl
 | 4,_,4,_=>exact yVP tc1 kl
 | 4,_,5,_=>exact yVO tc2 kl
 | 4,_,6,_=>exact yVN tc2 kl
 | 4,_,7,_=>exact yVM tc3 kl
 | 4,_,8,_=>exact yVL tc3 kl
 | 4,_,9,_=>exact yVK tc4 kl
 | 4,_,10,_=>exact yMW tc4 kl
 | 4,_,11,_=>exact yMV tc5 kl
 | 4,_,12,_=>exact yMU tc5 kl
 | 4,_,13,_=>exact yMT tc6 kl
 | 4,_,14,_=>exact yMS tc6 kl
 | 4,_,15,_=>exact yMR tc7 kl
 | 4,_,16,_=>exact yMQ tc7 kl
 | 4,_,c+17,h=>exact absurd (show c+17 < 17 from h) (by omega)
 | 5,_,0,_=>exact yVJ
 | 5,_,1,_=>exact yVI kl
 | 5,_,2,_=>exact yVH kl tn1
 | 5,_,3,_=>exact yVG kl tn2
 | 5,_,4,_=>exact yVF kl tn3
 | 5,_,c+5,h=>exact absurd (show c+5 < 5 from h) (by omega)
 | w+6,hw,_,_=>exact absurd hw (by omega)
theorem sl_all {p:SpecW} (k:p.Ok):∀ w,w < 6→∀ c,c < wX w→LawS w p c:=by
 obtain ⟨kd,kn,kl⟩:=k
 obtain ⟨d,n,s,hh,l⟩:=p
 simp only at kd kn kl
 obtain ⟨c1,c2,c3,c4,c5,c6,c7,rfl,tc1,tc2,tc3,tc4,tc5,tc6,tc7⟩:=list8 kd
 obtain ⟨n1,n2,n3,rfl,tn1,tn2,tn3⟩:=list4 kn
 intro w hw c hc
 match w,hw,c,hc with
 | 0,_,0,_=>exact yZK
 | 0,_,1,_=>exact yZJ kl
 | 0,_,2,_=>exact yZI kl
 | 0,_,3,_=>exact yZH tc1 kl
 | 0,_,4,_=>exact yZG tc1 kl
 | 0,_,5,_=>exact yZF tc2 kl
 | 0,_,6,_=>exact yZE tc2 kl
 | 0,_,7,_=>exact yZD tc3 kl
 | 0,_,8,_=>exact yZC tc3 kl
 | 0,_,9,_=>exact yZB tc4 kl
 | 0,_,10,_=>exact yQP tc4 kl
 | 0,_,11,_=>exact yQO tc5 kl
 | 0,_,12,_=>exact yQN tc5 kl
 | 0,_,13,_=>exact yQM tc6 kl
 | 0,_,14,_=>exact yQL tc6 kl
 | 0,_,15,_=>exact yQK tc7 kl
 | 0,_,16,_=>exact yQJ tc7 kl
 | 0,_,c+17,h=>exact absurd (show c+17 < 17 from h) (by omega)
 | 1,_,0,_=>exact yZA
 | 1,_,1,_=>exact yYZ kl
 | 1,_,2,_=>exact yYY kl
 | 1,_,3,_=>exact yYX kl
 | 1,_,4,_=>exact yYW kl
 | 1,_,5,_=>exact yYV kl
 | 1,_,6,_=>exact yYU kl
 | 1,_,7,_=>exact yYT kl
 | 1,_,8,_=>exact yYS kl
 | 1,_,9,_=>exact yYR kl
 | 1,_,10,_=>exact yQI kl
 | 1,_,11,_=>exact yQH kl
 | 1,_,12,_=>exact yQG kl
 | 1,_,13,_=>exact yQF kl
 | 1,_,14,_=>exact yQE kl
 | 1,_,15,_=>exact yQD kl
 | 1,_,16,_=>exact yQC kl
 | 1,_,17,_=>exact yQB kl
 | 1,_,18,_=>exact yQA kl
 | 1,_,19,_=>exact yPZ kl tn1
 | 1,_,20,_=>exact yPY kl tn1
 | 1,_,21,_=>exact yPX kl tn2
 | 1,_,22,_=>exact yPW kl tn2
 | 1,_,23,_=>exact yPV kl tn3
 | 1,_,24,_=>exact yPU kl tn3
 | 1,_,25,_=>exact yPT kl
 | 1,_,26,_=>exact yPS kl
 | 1,_,27,_=>exact yPR kl tn1
 | 1,_,28,_=>exact yPQ kl tn1
 | 1,_,29,_=>exact yPP kl tn2
 | 1,_,30,_=>exact yPO kl tn2
 | 1,_,31,_=>exact yPN kl tn3
 | 1,_,32,_=>exact yPM kl tn3
 | 1,_,c+33,h=>exact absurd (show c+33 < 33 from h) (by omega)
 | 2,_,0,_=>exact yYQ
 | 2,_,1,_=>exact yYP kl
 | 2,_,2,_=>exact yYO kl
 | 2,_,3,_=>exact yYN kl tn1
 | 2,_,4,_=>exact yYM kl tn1
 | 2,_,5,_=>exact yYL kl tn2
 | 2,_,6,_=>exact yYK kl tn2
 | 2,_,7,_=>exact yYJ kl tn3
 | 2,_,8,_=>exact yYI kl tn3
 | 2,_,c+9,h=>exact absurd (show c+9 < 9 from h) (by omega)
 | 3,_,0,_=>exact yYH
 | 3,_,1,_=>exact yYG kl
 | 3,_,2,_=>exact yYF kl
 | 3,_,3,_=>exact yYE kl
 | 3,_,4,_=>exact yYD kl
 | 3,_,5,_=>exact yYC kl tn2
 | 3,_,6,_=>exact yYB kl tn2
 | 3,_,7,_=>exact yYA kl tn3
 | 3,_,8,_=>exact yXZ kl tn3
 | 3,_,9,_=>exact yXY kl
 | 3,_,10,_=>exact yPL kl
 | 3,_,11,_=>exact yPK kl
 | 3,_,12,_=>exact yPJ kl
 | 3,_,13,_=>exact yPI kl tn2
 | 3,_,14,_=>exact yPH kl tn2
 | 3,_,15,_=>exact yPG kl tn3
 | 3,_,16,_=>exact yPF kl tn3
 | 3,_,17,_=>exact yPE kl
 | 3,_,18,_=>exact yPD kl
 | 3,_,19,_=>exact yPC kl
 | 3,_,20,_=>exact yPB kl
 | 3,_,21,_=>exact yPA kl tn2
 | 3,_,22,_=>exact yOZ kl tn2
 | 3,_,23,_=>exact yOY kl tn3
 | 3,_,24,_=>exact yOX kl tn3
 | 3,_,c+25,h=>exact absurd (show c+25 < 25 from h) (by omega)
 | 4,_,0,_=>exact yXX
 | 4,_,1,_=>exact yXW kl
 | 4,_,2,_=>exact yXV kl
 | 4,_,3,_=>exact yXU tc1 kl
 | 4,_,4,_=>exact yXT tc1 kl
 | 4,_,5,_=>exact yXS tc2 kl
 | 4,_,6,_=>exact yXR tc2 kl
 | 4,_,7,_=>exact yXQ tc3 kl
 | 4,_,8,_=>exact yXP tc3 kl
 | 4,_,9,_=>exact yXO tc4 kl
 | 4,_,10,_=>exact yOW tc4 kl
 | 4,_,11,_=>exact yOV tc5 kl
 | 4,_,12,_=>exact yOU tc5 kl
 | 4,_,13,_=>exact yOT tc6 kl
 | 4,_,14,_=>exact yOS tc6 kl
 | 4,_,15,_=>exact yOR tc7 kl
 | 4,_,16,_=>exact yOQ tc7 kl
 | 4,_,c+17,h=>exact absurd (show c+17 < 17 from h) (by omega)
 | 5,_,0,_=>exact yXN
 | 5,_,1,_=>exact yXM kl
 | 5,_,2,_=>exact yXL kl tn1
 | 5,_,3,_=>exact yXK kl tn2
 | 5,_,4,_=>exact yXJ kl tn3
 | 5,_,c+5,h=>exact absurd (show c+5 < 5 from h) (by omega)
 | w+6,hw,_,_=>exact absurd hw (by omega)
end LW
set_option maxHeartbeats 4000000
namespace LW
open PySem PySem.Spec PyProof.Rows L2 Lp
def kap (w c:Nat):NestedKey:=(tupK (stP w c)).getD .none
def dS (w c:Nat):PyData:=(toD (stP w c)).getD .none
def vES:Bool:=(List.range 6).all fun w=>(List.range (wX w)).all fun c=>(tupK (stP w c)).isSome&&(List.range (wX w)).all fun d=>yBS (nk (stP w c)) (kap w d) == Nat.beq c d
theorem jWL:vES=true:=by decide +kernel
def vET:Bool:=(List.range 6).all fun w=>(List.range (wX w)).all fun c=>((toD (stP w c)).isSome&&Nat.ble (dS w c).depth 4)&&(List.range (wX w)).all fun d=>PyData.eqv (dS w c) (dS w d) == Nat.beq c d
theorem jPW:vET=true:=by decide +kernel
theorem jDH {n:Nat} {f:Nat→Bool} (h:(List.range n).all f=true) {i:Nat} (hi:i < n):f i=true:=List.all_eq_true.mp h i (List.mem_range.mpr hi)
section
variable {w c d:Nat} (hw:w < 6)
include hw
theorem tk (hc:c < wX w):tupK (stP w c)=some (kap w c):=by
 have h:=jDH (jDH jWL hw) hc
 obtain ⟨x,e⟩:=Option.isSome_iff_exists.mp (Bool.and_eq_true_iff.mp h).1
 unfold kap
 rw [e]; rfl
theorem kq (hc:c < wX w) (hd:d < wX w):yBS (nk (stP w c)) (kap w d)=Nat.beq c d:=by
 have h:=jDH (jDH jWL hw) hc
 exact eq_of_beq (jDH (Bool.and_eq_true_iff.mp h).2 hd)
theorem td (hc:c < wX w):toD (stP w c)=some (dS w c):=by
 have h:=jDH (jDH jPW hw) hc
 obtain ⟨x,e⟩:=Option.isSome_iff_exists.mp (Bool.and_eq_true_iff.mp (Bool.and_eq_true_iff.mp h).1).1
 unfold dS
 rw [e]; rfl
theorem dd4 (hc:c < wX w):(dS w c).depth≤4:=by
 have h:=jDH (jDH jPW hw) hc
 exact Nat.le_of_ble_eq_true (Bool.and_eq_true_iff.mp (Bool.and_eq_true_iff.mp h).1).2
theorem dq (hc:c < wX w) (hd:d < wX w):PyData.eqv (dS w c) (dS w d)=Nat.beq c d:=by
 have h:=jDH (jDH jPW hw) hc
 exact eq_of_beq (jDH (Bool.and_eq_true_iff.mp h).2 hd)
theorem yEG:∀ {L:List Nat},(∀ c∈L,c < wX w)→toDs (L.map (stP w))=some (L.map (dS w))
 | [],_=>rfl
 | c :: L,h=>by
  have e1:=td hw (h c (List.mem_cons_self ..))
  have e2:=yEG (L:=L) fun c hc=>h c (List.mem_cons_of_mem _ hc)
  show (match toD (stP w c),toDs (L.map (stP w)) with
   | some d,some ds=>some (d :: ds)
   | _,_=>none)=_
  rw [e1,e2]; rfl
theorem yAK:∀ {L:List Nat},(∀ c∈L,c < wX w)→PyData.depthAll (L.map (dS w))≤4
 | [],_=>by simp [PyData.depthAll]
 | c :: L,h=>by
  have e1:=dd4 hw (h c (List.mem_cons_self ..))
  have e2:=yAK (L:=L) fun c hc=>h c (List.mem_cons_of_mem _ hc)
  simp only [List.map_cons,PyData.depthAll]
  omega
end
theorem jJF (w c:Nat):∃ xs,stP w c=.tup xs:=by
 unfold stP
 split
 ·exact ⟨_,rfl⟩
 ·split <;> exact ⟨_,rfl⟩
theorem yLE {w l:Nat} {L:List Nat} {h:AH} (hw:w < 6) (hl:l < wX w) (hL:∀ c∈L,c < wX w):jIF h (stP w l) (.lst (L.map (stP w)))=some (.bl (!(L.any fun c=>Nat.beq c l))):=by
 obtain ⟨xs,ex⟩:=jJF w l
 have e1:=td hw hl
 have e2:=yEG hw hL
 have d1:=dd4 hw hl
 have d2:=yAK hw hL
 have ez:(L.map (dS w)).any (fun z=>PyData.eqv z (dS w l))=L.any fun c=>Nat.beq c l:=by
  rw [List.any_map]
  have:∀ (M:List Nat),(∀ c∈M,c < wX w)→M.any ((fun z=>PyData.eqv z (dS w l)) ∘ dS w)=M.any fun c=>Nat.beq c l:=by
   intro M
   induction M with
   | nil=>intro _; rfl
   | cons c M ih =>
    intro hM
    rw [List.any_cons,List.any_cons,ih fun c hc=>hM c (List.mem_cons_of_mem _ hc)]
    show (PyData.eqv (dS w c) (dS w l)||_)=_
    rw [dq hw (hM c (List.mem_cons_self ..)) hl]
  exact this L hL
 have t1:jHS h (stP w l)=some (dS w l):=by rw [← e1,ex]; rfl
 have t2:jHS h (.lst (L.map (stP w)))=some (.list (L.map (dS w))):=by
  show (toDs (L.map (stP w))).map PyData.list=_
  rw [e2]; rfl
 have s0:jYW true h (stP w l) (.lst (L.map (stP w)))=none:=by rw [ex]; rfl
 show (jYW true h (stP w l) (.lst (L.map (stP w)))).or (jIZ true h (stP w l) (.lst (L.map (stP w))))=_
 rw [s0]
 unfold jIZ
 rw [t1,t2]
 have o1:dOk (dS w l)=true:=decide_eq_true (by omega)
 have o2:dOk (.list (L.map (dS w)))=true:=decide_eq_true (by simp only [PyData.depth]; omega)
 simp only [o1,o2,Bool.and_self,if_true,ez,Bool.true_xor]
 rfl
abbrev DT:=List (Nat × List Str)
def DP (w:Nat) (D:DT):List (PV × PV):=D.map fun x=>(stP w x.1,.lst (x.2.map .str))
def LP (w:Nat) (D:DT):List PV:=D.map fun x=>stP w x.1
def DOk (w:Nat) (D:DT):Prop:=∀ x∈D,x.1 < wX w
def fnd (D:DT) (c:Nat):Option (List Str):=match D with
 | []=>none
 | y :: r=>if Nat.beq y.1 c=true then some y.2 else fnd r c
theorem jOJ {w c:Nat} (hw:w < 6) (hc:c < wX w):∀ {D:DT},DOk w D→jWN (DP w D) (kap w c)=(fnd D c).map fun y=>.lst (y.map .str)
 | [],_=>rfl
 | y :: r,h=>by
  show (if yBS (nk (stP w y.1)) (kap w c)=true then some (PV.lst (y.2.map .str)) else jWN (DP w r) (kap w c))=_
  rw [kq hw (h y (List.mem_cons_self ..)) hc]
  unfold fnd
  by_cases e:Nat.beq y.1 c=true
  ·rw [if_pos e,if_pos e]; rfl
  ·rw [if_neg e,if_neg e]
   exact jOJ hw hc fun x hx=>h x (List.mem_cons_of_mem _ hx)
def inn (w x:Nat):List (Str × Nat)→DT→Option DT
 | [],D=>some D
 | (a,l) :: r,D=>if (Nat.ble (wX w) l||Nat.ble 1000 D.length)=true then none else if (fnd D l).isSome=true then inn w x r D else match fnd D x with
  | some y=>if Nat.ble y.length 1000=true then inn w x r (D++[(l,y++[a])]) else none
  | none=>none
def bfs (w:Nat) (F:Nat→List (Str × Nat)):Nat→Nat→DT→Option DT
 | 0,_,_=>none
 | n+1,at_,D=>match D[at_]? with
  | none=>some D
  | some x=>if Nat.ble (F x.1).length 100=true then match inn w x.1 (F x.1) D with
   | some D'=>bfs w F n (at_+1) D'
   | none=>none
  else none
theorem at2 {h:AH} {a b:Option Cell}:(h++[a,b])[h.length]?=some a:=by simp
theorem at2' {h:AH} {a b:Option Cell}:(h++[a,b])[h.length+1]?=some b:=by simp
theorem set2 {h:AH} {a b c:Option Cell}:(h++[a,b]).set h.length c=h++[c,b]:=by simp
theorem set2' {h:AH} {a b c:Option Cell}:(h++[a,b]).set (h.length+1) c=h++[a,c]:=by simp [List.set_append]
theorem vCY {h:AH} {a:Option Cell} {L:List PV}:asL (h++[a,some (.lst L)]) (.cel (h.length+1))=some L:=by
 show (match (h++[a,some (Cell.lst L)])[h.length+1]? with
  | some (some (.lst xs))=>some xs
  | _=>none)=_
 rw [at2']
theorem vCU {h:AH} {a:Option Cell} {L:List PV} {i:Nat} {v:PV} (e:L[i]?=some v):fIx (h++[a,some (.lst L)]) (.cel (h.length+1)) (.int (i:Nat))=some v:=by
 show (match asL (h++[a,some (Cell.lst L)]) (.cel (h.length+1)) with
  | some xs=>atI xs (i:Int)
  | none=>none)=_
 rw [vCY]
 exact jXJ e
theorem yLR {w:Nat} {h:AH} (hw:w < 6):jAB [.str (kZ w)] h=.ok (stP w 1) h:=by
 match w,hw with
 | 0,_=>kernel_rfl
 | 1,_=>kernel_rfl
 | 2,_=>kernel_rfl
 | 3,_=>kernel_rfl
 | 4,_=>kernel_rfl
 | 5,_=>kernel_rfl
 | w+6,h=>exact absurd h (by omega)
theorem ySI {w l:Nat} {D:DT} {h:AH} {n:Nat} (hw:w < 6) (hl:l < wX w) (hD:DOk w D) (en:h[n]?=some (some (.dic (DP w D)))):yEB h (stP w l) (.cel n)=some (.bl (!(fnd D l).isSome)):=by
 obtain ⟨xs,ex⟩:=jJF w l
 have t2:jHS h (.cel n)=none:=by
  show (match h[n]? with
   | some (some (.lst xs))=>(toDs xs).map PyData.list
   | _=>none)=none
  rw [en]
 have c1:jQO h (.cel n)=some (DP w D):=by
  show (match h[n]? with
   | some (some (.dic ks))=>some ks
   | _=>none)=_
  rw [en]
 have s0:jYW true h (stP w l) (.cel n)=none:=by rw [ex]; rfl
 have s1:jIZ true h (stP w l) (.cel n)=none:=by
  unfold jIZ
  rw [t2]
  split
  ·rename_i q; cases q
  ·rename_i q; cases q
  ·rfl
 show ((jYW true h (stP w l) (.cel n)).or (jIZ true h (stP w l) (.cel n))).or (yFW true h (stP w l) (.cel n))=_
 rw [s0,s1]
 show yFW true h (stP w l) (.cel n)=_
 unfold yFW atD
 rw [c1]
 simp only [tk hw hl,Option.map_some,jOJ hw hl hD,Option.isSome_map,Bool.true_xor]
theorem ySQ {w x:Nat} {D:DT} {h:AH} {n:Nat} {y:List Str} (hw:w < 6) (hx:x < wX w) (hD:DOk w D) (en:h[n]?=some (some (.dic (DP w D)))) (ef:fnd D x=some y):jSF h (.cel n) (stP w x)=some (.lst (y.map .str)):=by
 have c1:jQO h (.cel n)=some (DP w D):=by
  show (match h[n]? with
   | some (some (.dic ks))=>some ks
   | _=>none)=_
  rw [en]
 unfold jSF atD
 rw [c1]
 simp only [tk hw hx,Option.map_some,jOJ hw hx hD,ef,Option.getD_some]
theorem yRK {w l:Nat} {D:DT} {h:AH} {a:List Str} {b:Option Cell} (hw:w < 6) (hl:l < wX w) (hD:DOk w D) (ef:fnd D l=none) (hz:D.length < 1000):jWM (h++[some (.dic (DP w D)),b]) (.cel h.length) (stP w l) (.lst (a.map .str))=some (h++[some (.dic (DP w (D++[(l,a)]))),b]):=by
 unfold jWM
 simp only [at2,tk hw hl]
 have hl2:(DP w D).length=D.length:=by unfold DP; rw [List.length_map]
 rw [if_neg (by rw [sizeLine_eq,hl2]; simp [isOwn]; omega)]
 rw [set2]
 unfold yFT
 rw [jOJ hw hl hD,ef]
 simp [DP]
end LW
set_option maxHeartbeats 4000000
namespace LW
open PySem PySem.Spec PyProof.Rows L2 Lp
theorem own_st (w c:Nat):isOwn (stP w c)=false:=by
 obtain ⟨xs,e⟩:=jJF w c
 rw [e]; rfl
def jUK (w:Nat) (p:SpecW) (n:Nat) (at_:Nat) (y6 y7:Option PV):List (Option PV):=[some (jBF p),some (.str (kZ w)),some (stP w 1),some (.cel n),some (.cel (n+1)),some (.int (at_:Nat)),y6,y7]
theorem yER:∀ l:List Str,vM (l.map PV.str)=true
 | []=>rfl
 | _ :: l=>yER l
theorem yJG {h:AH} {a:Option Cell} {L:List PV}:jCI (h++[a,some (.lst L)]) (h.length+1)=some L:=by
 unfold jCI
 rw [at2']
theorem yTI {xs:List PV} {v:PV} (o:isOwn v=false) (hz:xs.length < 16777216):jNZ xs v=some (xs++[v]):=by
 unfold jNZ
 rw [if_neg (by rw [sizeLine_eq,o]; simp; omega)]
theorem jXZ {w x:Nat}:∀ {r:List (Str × Nat)} {D D':DT},inn w x r D=some D'→∃ E,D'=D++E∧DOk w E
 | [],D,D',e=>by cases e; exact ⟨[],by simp,fun _ h=>by cases h⟩
 | (a,l) :: r,D,D',e=>by
  unfold inn at e
  split at e
  ·cases e
  ·rename_i hb
   simp only [Bool.or_eq_true,not_or] at hb
   split at e
   ·exact jXZ e
   ·split at e
    ·rename_i y _
     split at e
     ·obtain ⟨E,rfl,ok⟩:=jXZ e
      refine ⟨(l,y++[a]) :: E,by simp,fun x hx=>?_⟩
      rcases List.mem_cons.mp hx with rfl | hx
      ·show l < wX w
       have:=hb.1
       rw [Nat.ble_eq] at this
       omega
      ·exact ok x hx
     ·cases e
    ·cases e
theorem jYI {w:Nat} {p:SpecW} {h:AH} {De:DT} (hw:w < 6) (k:p.Ok) (e:bfs w (Fp w p) 200 0 [(1,[])]=some De):(jDK [jBF p,.str (kZ w)] h).post (fun v h'=>v=.cel h.length∧h'=h++[some (.dic (DP w De)),some (.lst (LP w De))]) NE:=by
 have h1:1 < wX w:=by
  match w,hw with
  | 0,_=>decide
  | 1,_=>decide
  | 2,_=>decide
  | 3,_=>decide
  | 4,_=>decide
  | 5,_=>decide
  | w+6,h=>exact absurd h (by omega)
 unfold jDK
 rw [yCQ]
 unfold jTC
 refine jCW [some (jBF p),some (.str (kZ w)),none,none,none,none,none,none] rfl ?_
 refine uH (wL (uD (yK (yH rfl (vW ⟨⟨rfl,rfl⟩,yMG (yLR hw) ⟨own_st w 1,?_⟩⟩)))))
 refine uH (vAL ?_)
 (repeat (first | walk_at "p1" | refine yRR ?_ | refine jVL ?_ | refine jNH ?_ | refine ⟨⟨by rw [tk hw h1]; rfl,rfl⟩,?_⟩ | refine ⟨⟨by unfold vM; rw [List.all_cons,own_st]; rfl,Nat.le_of_ble_eq_true rfl⟩,?_⟩))
 refine ⟨_,_,_,rfl,rfl,?_⟩
 refine uH (jTA (I:=fun n s=>∃ at_ D y6 y7,bfs w (Fp w p) n at_ D=some De∧DOk w D∧s=⟨jUK w p h.length at_ y6 y7,h++[some (.dic (DP w D)),some (.lst (LP w D))]⟩) ?_ ?_ 200 _ ?_)
 ·rintro s ⟨at_,D,y6,y7,e,_⟩
  cases e
 ·rintro n s ⟨at_,D,y6,y7,eb,ok,rfl⟩
  have el:jDS (h++[some (.dic (DP w D)),some (.lst (LP w D))]) [.cel (h.length+1)]=some (.int (D.length:Nat)):=by
   show (asL (h++[some (.dic (DP w D)),some (.lst (LP w D))]) (PV.cel (h.length+1))).map (fun ys=>PV.int ys.length)=_
   rw [vCY]
   simp [LP]
  unfold jUK
  (repeat (first | walk_at "p1" | refine ⟨_,el,?_⟩))
  refine jGQ (fun hc=>?_) fun hc=>?_
  ·have hc:at_ < D.length:=by simpa using hc
   have hx:=List.getElem?_eq_getElem hc
   unfold bfs at eb
   rw [hx] at eb
   simp only at eb
   generalize ex:D[at_]=x at hx eb
   split at eb
   ·rename_i hle
    have hle:=Nat.le_of_ble_eq_true hle
    split at eb
    ·rename_i D' ei
     have xok:x.1 < wX w:=ok x (List.mem_of_getElem? hx)
     have li:(LP w D)[at_]?=some (stP w x.1):=by unfold LP; rw [List.getElem?_map,hx]; rfl
     refine uH (jKJ (jEA ?_))
     (repeat (first | walk_at "p1" | refine ⟨_,vCU li,?_⟩ | refine ⟨⟨rfl,by unfold vM; rw [List.all_cons,List.all_cons,List.all_cons,own_st]; rfl⟩,?_⟩))
     refine yMG (yVE k w hw x.1 xok _) ?_
     (repeat walk_at "p1")
     refine ⟨by rw [List.length_map,sizeLine_eq]; omega,jJE (fun j s=>∃ E y6 y7,inn w x.1 ((Fp w p x.1).drop j) (D++E)=some D'∧DOk w (D++E)∧s=⟨jUK w p h.length at_ y6 y7,h++[some (.dic (DP w (D++E))),some (.lst (LP w (D++E)))]⟩) ?_ (fun j v s ev i=>?_) fun s i=>?_⟩
     ·exact ⟨[],y6,y7,by simpa using ei,by simpa using ok,by simp [jUK]⟩
     ·obtain ⟨E,z6,z7,ei,okE,rfl⟩:=i
      rw [List.getElem?_map] at ev
      cases eg:(Fp w p x.1)[j]? with
      | none=>rw [eg] at ev; cases ev
      | some st =>
       rw [eg] at ev
       cases ev
       have ed:(Fp w p x.1).drop j=st :: (Fp w p x.1).drop (j+1):=by
        rw [List.drop_eq_getElem_cons (List.getElem?_eq_some_iff.mp eg).1]
        rw [(List.getElem?_eq_some_iff.mp eg).2]
       rw [ed] at ei
       obtain ⟨a,l⟩:=st
       unfold inn at ei
       split at ei
       ·cases ei
       ·rename_i hb
        simp only [Bool.or_eq_true,not_or,Nat.ble_eq] at hb
        have hl:l < wX w:=by omega
        have bt:zR (.t [.n 6,.n 7]) (jVG w (a,l)) (jUK w p h.length at_ z6 z7)=some (jUK w p h.length at_ (some (.str a)) (some (stP w l))):=by
         obtain ⟨xs,exs⟩:=jJF w l
         unfold jVG
         rw [exs]
         rfl
        refine ⟨_,bt,?_⟩
        unfold jUK
        dsimp only [List.set_cons_succ,List.set_cons_zero]
        (repeat (first | walk_at "p1" | refine ⟨_,ySI hw hl okE at2,?_⟩))
        refine jGQ (fun hn=>?_) fun hn=>?_
        ·have hn:fnd (D++E) l=none:=by simpa using hn
         rw [hn] at ei
         simp only [Option.isSome_none,Bool.false_eq_true,if_false] at ei
         split at ei
         ·rename_i y ey
          split at ei
          ·rename_i hy
           have hy:=Nat.le_of_ble_eq_true hy
           have li2:(LP w (D++E))[at_]?=some (stP w x.1):=by unfold LP; rw [List.getElem?_map,List.getElem?_append_left hc,hx]; rfl
           have em:y.map PV.str++[PV.str a]=(y++[a]).map PV.str:=by simp
           have esh:vM (y.map PV.str++[PV.str a])=true:=by rw [em]; exact yER _
           (repeat (first | walk_at "p1" | refine vAM ?_ | refine vAH ?_ | refine ⟨_,vCU li2,?_⟩ | refine ⟨_,ySQ hw xok okE at2 ey,?_⟩))
           refine ⟨⟨esh,by rw [em,List.length_map,List.length_append]; show y.length+1≤_; omega⟩,?_⟩
           rw [em]
           have zl:(D++E).length < 1000:=by omega
           (repeat (first | walk_at "p1" | refine ⟨_,yRK hw hl okE hn zl,?_⟩))
           refine jWZ ?_
           (repeat walk_at "p1")
           refine ⟨_,_,rfl,yJG,?_⟩
           (repeat walk_at "p1")
           refine ⟨_,_,yJG,yTI (own_st w l) (by unfold LP; rw [List.length_map]; omega),?_⟩
           refine ⟨E++[(l,y++[a])],some (.str a),some (stP w l),by rw [← List.append_assoc]; exact ei,fun z hz=>?_,?_⟩
           ·rw [← List.append_assoc] at hz
            rcases List.mem_append.mp hz with hz | hz
            ·exact okE z hz
            ·simp at hz; subst hz; exact hl
           ·rw [set2',← List.append_assoc]
            simp [jUK,LP,DP]
          ·cases ei
         ·cases ei
        ·have hn:(fnd (D++E) l).isSome=true:=by simpa using hn
         rw [if_pos hn] at ei
         (repeat walk_at "p1")
         exact ⟨E,_,_,ei,okE,rfl⟩
     ·obtain ⟨E,z6,z7,ei,okE,rfl⟩:=i
      rw [List.length_map,List.drop_length] at ei
      cases ei
      unfold jUK
      refine vAN rfl ?_
      (repeat walk_at "p1")
      exact ⟨at_+1,D++E,z6,z7,eb,okE,rfl⟩
    ·cases eb
   ·cases eb
  ·have hc:D.length≤at_:=by simpa using hc
   unfold bfs at eb
   rw [List.getElem?_eq_none hc] at eb
   cases eb
   (repeat walk_at "p1")
 ·exact ⟨0,[(1,[])],none,none,e,(fun x hx=>by simp at hx; subst hx; exact h1),by simp [jUK,DP,LP]⟩
end LW
set_option maxHeartbeats 4000000
namespace LW
open PySem PySem.Spec PyProof.Rows L2 Lp
abbrev LT:=List (Nat × Nat)
def itL (w:Nat) (x:Nat × Nat):PV:=.tup [stP w x.1,.int (x.2:Nat)]
def LV (w:Nat) (L:LT):List PV:=L.map (itL w)
def LOk (w:Nat) (L:LT):Prop:=∀ x∈L,x.1 < wX w
def yBU (w size:Nat):List (Str × Nat)→LT→Option LT
 | [],L=>some L
 | (a,l) :: r,L=>if (Nat.ble (wX w) l||Nat.ble 1000 L.length)=true then none else if (L.any fun y=>Nat.beq y.1 l)=true then yBU w size r L else yBU w size r (L++[(l,size+1)])
def jUM (w:Nat) (F:Nat→List (Str × Nat)):Nat→Nat→LT→Option LT
 | 0,_,_=>none
 | n+1,at_,L=>match L[at_]? with
  | none=>some L
  | some x=>if Nat.ble (F x.1).length 100=true then match yBU w x.2 (F x.1) L with
   | some L'=>jUM w F n (at_+1) L'
   | none=>none
  else none
theorem yGY {w:Nat} {h:AH} (hw:w < 6):jAX [.str (kZ w)] h=.ok (stP w 1) h:=by
 match w,hw with
 | 0,_=>kernel_rfl
 | 1,_=>kernel_rfl
 | 2,_=>kernel_rfl
 | 3,_=>kernel_rfl
 | 4,_=>kernel_rfl
 | 5,_=>kernel_rfl
 | w+6,h=>exact absurd h (by omega)
theorem size1 {w:Nat} (hw:w < 6):1 < wX w:=by
 match w,hw with
 | 0,_=>decide
 | 1,_=>decide
 | 2,_=>decide
 | 3,_=>decide
 | 4,_=>decide
 | 5,_=>decide
 | w+6,h=>exact absurd h (by omega)
def jWO (w:Nat) (p:SpecW) (L:LT) (at_:Nat) (y4 y5 y6 y7:Option PV):List (Option PV):=[some p.v,some (.str (kZ w)),some (.own (LV w L)),some (.int (at_:Nat)),y4,y5,y6,y7,none,none]
theorem bind2 {w a b:Nat} {x:Nat × Nat} {e:List (Option PV)}:zR (.t [.n a,.n b]) (itL w x) e=some ((e.set a (some (stP w x.1))).set b (some (.int (x.2:Nat)))):=by
 obtain ⟨xs,exs⟩:=jJF w x.1
 unfold itL
 rw [exs]
 rfl
theorem jUT {w:Nat} {p:SpecW} {h:AH} {Le:LT} (hw:w < 6) (k:p.Ok) (e:jUM w (Fp w p) 200 0 [(1,0)]=some Le):(wF [p.v,.str (kZ w)] h).post (fun v h'=>v=.lst (LV w Le)∧h'=h) NE:=by
 have h1:=size1 hw
 unfold wF
 rw [jQY]
 unfold jJZ
 refine jCW [some p.v,some (.str (kZ w)),none,none,none,none,none,none,none,none] rfl ?_
 refine uH (vAK (jNH (yK (jBD (yK (uD (yK (yH rfl (vW ⟨⟨rfl,rfl⟩,yMG (yGY hw) ?_⟩)))))))))
 (repeat (first | walk_at "p1" | refine ⟨⟨by unfold vM; rw [List.all_cons,own_st]; rfl,Nat.le_of_ble_eq_true rfl⟩,?_⟩))
 refine jTA (I:=fun n s=>∃ at_ L y4 y5 y6 y7,jUM w (Fp w p) n at_ L=some Le∧LOk w L∧s=⟨jWO w p L at_ y4 y5 y6 y7,h⟩) ?_ ?_ 200 _ ?_
 ·rintro s ⟨at_,L,y4,y5,y6,y7,e,_⟩
  cases e
 ·rintro n s ⟨at_,L,y4,y5,y6,y7,eb,ok,rfl⟩
  have el:jDS h [.own (LV w L)]=some (.int (L.length:Nat)):=by
   show some (PV.int ((LV w L).length:Nat))=_
   simp [LV]
  unfold jWO
  (repeat (first | walk_at "p1" | refine ⟨_,el,?_⟩))
  refine jGQ (fun hc=>?_) fun hc=>?_
  ·have hc:at_ < L.length:=by simpa [LV] using hc
   have hx:=List.getElem?_eq_getElem hc
   unfold jUM at eb
   rw [hx] at eb
   simp only at eb
   generalize ex:L[at_]=x at hx eb
   split at eb
   ·rename_i hle
    have hle:=Nat.le_of_ble_eq_true hle
    split at eb
    ·rename_i L' ei
     have xok:x.1 < wX w:=ok x (List.mem_of_getElem? hx)
     have li:fIx h (.own (LV w L)) (.int (at_:Nat))=some (itL w x):=by
      show atI (LV w L) (at_:Int)=_
      refine jXJ ?_
      unfold LV; rw [List.getElem?_map,hx]; rfl
     refine uH (yCG ?_)
     (repeat (first | walk_at "p1" | refine ⟨_,li,?_⟩))
     refine ⟨_,bind2,?_⟩
     refine uH (jKJ (jEA ?_))
     (repeat (first | walk_at "p1" | refine ⟨⟨rfl,by unfold vM; rw [List.all_cons,List.all_cons,List.all_cons,own_st]; rfl⟩,?_⟩))
     refine yMG (sl_all k w hw x.1 xok _) ?_
     (repeat walk_at "p1")
     refine ⟨by rw [List.length_map,sizeLine_eq]; omega,jJE (fun j s=>∃ M y6 y7,yBU w x.2 ((Fp w p x.1).drop j) M=some L'∧LOk w M∧s=⟨jWO w p M at_ (some (stP w x.1)) (some (.int (x.2:Nat))) y6 y7,h⟩) ?_ (fun j v s ev i=>?_) fun s i=>?_⟩
     ·exact ⟨L,y6,y7,by simpa using ei,ok,by simp [jWO]⟩
     ·obtain ⟨M,z6,z7,ei,okE,rfl⟩:=i
      rw [List.getElem?_map] at ev
      cases eg:(Fp w p x.1)[j]? with
      | none=>rw [eg] at ev; cases ev
      | some st =>
       rw [eg] at ev
       cases ev
       have ed:(Fp w p x.1).drop j=st :: (Fp w p x.1).drop (j+1):=by
        rw [List.drop_eq_getElem_cons (List.getElem?_eq_some_iff.mp eg).1]
        rw [(List.getElem?_eq_some_iff.mp eg).2]
       rw [ed] at ei
       obtain ⟨a,l⟩:=st
       unfold yBU at ei
       split at ei
       ·cases ei
       ·rename_i hb
        simp only [Bool.or_eq_true,not_or,Nat.ble_eq] at hb
        have hl:l < wX w:=by omega
        have bt:zR (.t [.n 6,.n 7]) (jVG w (a,l)) (jWO w p M at_ (some (stP w x.1)) (some (.int (x.2:Nat))) z6 z7)=some (jWO w p M at_ (some (stP w x.1)) (some (.int (x.2:Nat))) (some (.str a)) (some (stP w l))):=by
         obtain ⟨xs,exs⟩:=jJF w l
         unfold jVG
         rw [exs]
         rfl
        refine ⟨_,bt,?_⟩
        unfold jWO
        dsimp only [List.set_cons_succ,List.set_cons_zero]
        have hN:jIF h (stP w l) (.lst ((M.map (·.1)).map (stP w)))=some (.bl (!((M.map (·.1)).any fun c=>Nat.beq c l))):=yLE hw hl fun c hc=>by
         obtain ⟨z,hz,rfl⟩:=List.mem_map.mp hc
         exact okE z hz
        refine jAE (jCT (uX (yH rfl (jCU (jTI (jEA (yH rfl ⟨_,rfl,rfl,M,itL w,fun x=>stP w x.1,fun _=>true,rfl,fun z hz=>?_,?_⟩)))))))
        ·refine ⟨own_st w z.1,_,bind2,yFU ⟨rfl,?_,rfl,rfl⟩⟩
         exact yH rfl ⟨rfl,rfl,rfl⟩
        ·have ef:(M.filter fun _=>true).map (fun x=>stP w x.1)=(M.map (·.1)).map (stP w):=by
          rw [List.filter_eq_self.mpr fun _ _=>rfl,List.map_map]; rfl
         rw [ef]
         refine ⟨_,hN,_,rfl,?_⟩
         have ea:((M.map (·.1)).any fun c=>Nat.beq c l)=M.any fun y=>Nat.beq y.1 l:=by rw [List.any_map]; rfl
         rw [ea]
         refine jGQ (fun hn=>?_) fun hn=>?_
         ·have hn:¬ (M.any fun y=>Nat.beq y.1 l)=true:=fun z=>by rw [z] at hn; cases hn
          rw [if_neg hn] at ei
          refine yIU (x0:=LV w M) rfl ?_
          (repeat (first | walk_at "p1" | refine ⟨⟨by unfold vM; rw [List.all_cons,own_st]; rfl,Nat.le_of_ble_eq_true rfl⟩,?_⟩))
          refine ⟨⟨rfl,by unfold LV; rw [List.length_map]; omega⟩,?_⟩
          refine ⟨M++[(l,x.2+1)],some (.str a),some (stP w l),ei,fun z hz=>?_,?_⟩
          ·rcases List.mem_append.mp hz with hz | hz
           ·exact okE z hz
           ·simp at hz; subst hz; exact hl
          ·simp [jWO,LV,itL,jP]
         ·have hn:(M.any fun y=>Nat.beq y.1 l)=true:=by
           cases z:M.any fun y=>Nat.beq y.1 l with
           | true=>rfl
           | false=>rw [z] at hn; cases hn
          rw [if_pos hn] at ei
          (repeat walk_at "p1")
          exact ⟨M,some (.str a),some (stP w l),ei,okE,rfl⟩
     ·obtain ⟨M,z6,z7,ei,okE,rfl⟩:=i
      rw [List.length_map,List.drop_length] at ei
      cases ei
      unfold jWO
      (repeat walk_at "p1")
      exact ⟨at_+1,_,_,_,z6,z7,eb,okE,rfl⟩
    ·cases eb
   ·cases eb
  ·have hc:L.length≤at_:=by simpa [LV] using hc
   unfold jUM at eb
   rw [List.getElem?_eq_none hc] at eb
   cases eb
   refine yIS rfl ?_
   exact ⟨rfl,rfl⟩
 ·exact ⟨0,[(1,0)],none,none,none,none,e,(fun x hx=>by simp at hx; subst hx; exact h1),rfl⟩
def bools:List Bool:=[false,true]
def agr (w lk:Nat) (s h b1 b2 b3:Bool):Bool:=match bfs w (FW w lk s h b1 b2 b3) 200 0 [(1,[])],jUM w (FW w lk s h b1 b2 b3) 200 0 [(1,0)] with
 | some D,some L=>match (fnd D 0).map List.length,(L.find? fun y=>Nat.beq y.1 0).map (·.2) with
  | none,none=>true
  | some a,some b=>Nat.beq a b
  | _,_=>false
 | _,_=>false
def jNI (w:Nat):Bool:=(List.range 3).all fun lk=>bools.all fun s=>bools.all fun h=>bools.all fun b1=>bools.all fun b2=>bools.all fun b3=>agr w lk s h b1 b2 b3
theorem agr0:jNI 0=true:=by decide +kernel
theorem agr1:jNI 1=true:=by decide +kernel
theorem agr2:jNI 2=true:=by decide +kernel
theorem agr3:jNI 3=true:=by decide +kernel
theorem agr4:jNI 4=true:=by decide +kernel
theorem agr5:jNI 5=true:=by decide +kernel
end LW
set_option maxHeartbeats 4000000
namespace LW
open PySem PySem.Spec PyProof.Rows L2 Lp
def jHU (w:Nat) (p:SpecW):DT:=(bfs w (Fp w p) 200 0 [(1,[])]).getD []
def endL (w:Nat) (p:SpecW):LT:=(jUM w (Fp w p) 200 0 [(1,0)]).getD []
theorem jIV (b:Bool):b∈bools:=by cases b <;> decide
theorem vCK {w:Nat} {p:SpecW} (hw:w < 6) (k:p.Ok):agr w (lkN p.l) p.s p.h (pw w p).1 (pw w p).2.1 (pw w p).2.2=true:=by
 have hl:lkN p.l < 3:=by rcases k.l with e | e | e <;> rw [e] <;> decide
 have go:jNI w=true:=by
  match w,hw with
  | 0,_=>exact agr0
  | 1,_=>exact agr1
  | 2,_=>exact agr2
  | 3,_=>exact agr3
  | 4,_=>exact agr4
  | 5,_=>exact agr5
  | w+6,h=>exact absurd h (by omega)
 have h1:=jDH go hl
 have h2:=List.all_eq_true.mp h1 p.s (jIV _)
 have h3:=List.all_eq_true.mp h2 p.h (jIV _)
 have h4:=List.all_eq_true.mp h3 _ (jIV (pw w p).1)
 have h5:=List.all_eq_true.mp h4 _ (jIV (pw w p).2.1)
 exact List.all_eq_true.mp h5 _ (jIV (pw w p).2.2)
theorem ends {w:Nat} {p:SpecW} (hw:w < 6) (k:p.Ok):bfs w (Fp w p) 200 0 [(1,[])]=some (jHU w p)∧jUM w (Fp w p) 200 0 [(1,0)]=some (endL w p)∧(fnd (jHU w p) 0).map List.length=((endL w p).find? fun y=>Nat.beq y.1 0).map (·.2):=by
 have h:=vCK hw k
 unfold agr at h
 rw [show FW w (lkN p.l) p.s p.h (pw w p).1 (pw w p).2.1 (pw w p).2.2=Fp w p from rfl] at h
 unfold jHU endL
 split at h
 ·rename_i D L eD eL
  rw [eD,eL]
  refine ⟨rfl,rfl,?_⟩
  simp only [Option.getD_some]
  split at h
  ·rename_i e1 e2; rw [e1,e2]
  ·rename_i a b e1 e2; rw [e1,e2,Nat.eq_of_beq_eq_true h]
  ·cases h
 ·cases h
theorem yJI {w:Nat} {F:Nat→List (Str × Nat)}:∀ {n at_:Nat} {D De:DT},DOk w D→bfs w F n at_ D=some De→DOk w De
 | 0,_,_,_,_,e=>by cases e
 | n+1,at_,D,De,ok,e=>by
  unfold bfs at e
  split at e
  ·cases e; exact ok
  ·split at e
   ·split at e
    ·rename_i D' ei
     obtain ⟨E,rfl,ok2⟩:=jXZ ei
     exact yJI (fun x hx=>(List.mem_append.mp hx).elim (ok x) (ok2 x)) e
    ·cases e
   ·cases e
theorem jYA {w size:Nat}:∀ {r:List (Str × Nat)} {L L':LT},LOk w L→yBU w size r L=some L'→LOk w L'
 | [],_,_,ok,e=>by cases e; exact ok
 | (a,l) :: r,L,L',ok,e=>by
  unfold yBU at e
  split at e
  ·cases e
  ·rename_i hb
   simp only [Bool.or_eq_true,not_or,Nat.ble_eq] at hb
   split at e
   ·exact jYA ok e
   ·refine jYA (fun x hx=>?_) e
    rcases List.mem_append.mp hx with hx | hx
    ·exact ok x hx
    ·simp at hx; subst hx; show l < wX w; omega
theorem yFN {w:Nat} {F:Nat→List (Str × Nat)}:∀ {n at_:Nat} {D De:LT},LOk w D→jUM w F n at_ D=some De→LOk w De
 | 0,_,_,_,_,e=>by cases e
 | n+1,at_,D,De,ok,e=>by
  unfold jUM at e
  split at e
  ·cases e; exact ok
  ·split at e
   ·split at e
    ·rename_i D' ei
     exact yFN (jYA ok ei) e
    ·cases e
   ·cases e
theorem size0 {w:Nat} (hw:w < 6):0 < wX w:=Nat.lt_trans (by decide) (size1 hw)
def shV (w:Nat) (p:SpecW):PV:=((fnd (jHU w p) 0).map fun y=>PV.lst (y.map .str)).getD .non
theorem jMX {w:Nat} {p:SpecW} {h:AH} (hw:w < 6) (k:p.Ok):(wW [jBF p,.str (kZ w)] h).post (fun v h'=>v=shV w p∧∃ g,h'=h++g) NE:=by
 obtain ⟨eb,_,_⟩:=ends hw k
 have ok:DOk w (jHU w p):=yJI (fun x hx=>by simp at hx; subst hx; exact size1 hw) eb
 unfold wW
 rw [yAR]
 unfold jQP
 refine jCW [some (jBF p),some (.str (kZ w))] rfl ?_
 refine jAF (yRS ?_)
 (repeat walk_at "p1")
 refine yZ (jYI hw k eb) fun v h' z=>?_
 obtain ⟨rfl,rfl⟩:=z
 have c1:jQO (h++[some (.dic (DP w (jHU w p))),some (.lst (LP w (jHU w p)))]) (.cel h.length)=some (DP w (jHU w p)):=by
  show (match (h++[some (Cell.dic (DP w (jHU w p))),some (Cell.lst (LP w (jHU w p)))])[h.length]? with
   | some (some (.dic ks))=>some ks
   | _=>none)=_
  rw [at2]
 have a1:atD (h++[some (.dic (DP w (jHU w p))),some (.lst (LP w (jHU w p)))]) (.cel h.length) brok=some ((fnd (jHU w p) 0).map fun y=>.lst (y.map .str)):=by
  unfold atD
  rw [c1]
  simp only [show brok=stP w 0 from rfl,tk hw (size0 hw),Option.map_some,jOJ hw (size0 hw) ok]
 refine ⟨by unfold yFV; rw [c1]; rfl,?_⟩
 (repeat (first | walk_at "p1" | refine ⟨_,a1,?_⟩))
 refine ⟨?_,rfl,_,rfl⟩
 cases fnd (jHU w p) 0 <;> rfl
theorem jWD:∀ l:List Nat,toDs (l.map fun n=>PV.int (n:Nat))=some (l.map fun n=>PyData.int (n:Nat))∧PyData.depthAll (l.map fun n=>PyData.int (n:Nat))≤0
 | []=>⟨rfl,by simp [PyData.depthAll]⟩
 | n :: l=>by
  obtain ⟨h1,h2⟩:=jWD l
  refine ⟨?_,?_⟩
  ·show (match toD (PV.int (n:Nat)),toDs (l.map fun n=>PV.int (n:Nat)) with
    | some d,some ds=>some (d :: ds)
    | _,_=>none)=_
   rw [h1]; rfl
  ·simp only [List.map_cons,PyData.depthAll,PyData.depth]
   omega
def fwV (w:Nat) (p:SpecW):PV:=((fnd (jHU w p) 0).map fun y=>PV.int (y.length:Nat)).getD .non
theorem ySW {w c:Nat} {h:AH} (hw:w < 6) (hc:c < wX w):fEq h (stP w c) (.tup [.str "broken"])=some (.bl (Nat.beq c 0)):=by
 obtain ⟨xs,ex⟩:=jJF w c
 have e1:=td hw hc
 have e0:=td hw (size0 hw)
 have t1:jHS h (stP w c)=some (dS w c):=by rw [← e1,ex]; rfl
 have t0:jHS h (.tup [.str "broken"])=some (dS w 0):=e0
 have d1:=dd4 hw hc
 have d0:=dd4 hw (size0 hw)
 unfold fEq
 rw [t1,t0]
 have o1:dOk (dS w c)=true:=decide_eq_true (by omega)
 have o2:dOk (dS w 0)=true:=decide_eq_true (by omega)
 simp only [o1,o2,Bool.and_self,if_true,dq hw hc (size0 hw)]
theorem yBL {w:Nat} {p:SpecW} {h:AH} (hw:w < 6) (k:p.Ok):(kY [p.v,.str (kZ w)] h).post (fun v h'=>v=fwV w p∧h'=h) NE:=by
 obtain ⟨_,eb,ez⟩:=ends hw k
 have ok:LOk w (endL w p):=yFN (fun x hx=>by simp at hx; subst hx; exact size1 hw) eb
 unfold kY
 rw [jTQ]
 unfold jLD
 refine jCW [some p.v,some (.str (kZ w)),none,none,none] rfl ?_
 refine uH (wL (jCU (jTI (α:=Nat × Nat) (jEA ?_))))
 (repeat walk_at "p1")
 refine yZ (jUT hw k eb) fun v h' z=>?_
 obtain ⟨rfl,rfl⟩:=z
 refine ⟨_,rfl,rfl,endL w p,itL w,fun x=>.int (x.2:Nat),fun x=>Nat.beq x.1 0,rfl,fun z hz=>?_,?_⟩
 ·refine ⟨rfl,_,bind2,?_⟩
  refine jCT (uX (yH rfl (jBD ?_)))
  (repeat (first | walk_at "p1" | refine ⟨_,ySW hw (ok z hz),?_⟩))
  exact ⟨yH rfl ⟨rfl,rfl,rfl⟩,rfl,rfl⟩
 ·refine ⟨rfl,?_⟩
  have hd:((endL w p).filter fun x=>Nat.beq x.1 0).head?=(endL w p).find? fun y=>Nat.beq y.1 0:=List.head?_filter ..
  rw [← hd] at ez
  unfold fwV
  generalize (endL w p).filter (fun x=>Nat.beq x.1 0)=M at ez ⊢
  cases M with
  | nil =>
   have e0:fnd (jHU w p) 0=none:=by cases q:fnd (jHU w p) 0 with
    | none=>rfl
    | some y=>rw [q] at ez; cases ez
   rw [e0]
   (repeat walk_at "p1")
  | cons a M =>
   obtain ⟨y,e0,ey⟩:∃ y,fnd (jHU w p) 0=some y∧y.length=a.2:=by cases q:fnd (jHU w p) 0 with
    | none=>rw [q] at ez; cases ez
    | some y=>rw [q] at ez; exact ⟨y,rfl,Option.some.inj ez⟩
   rw [e0]
   have ne:∀ h,fNe h (.lst ((a :: M).map fun x:Nat × Nat=>PV.int (x.2:Nat))) (.lst [])=some (.bl true):=fun h=>by
    have hi:=jWD (M.map fun x:Nat × Nat=>x.2)
    unfold fNe
    have t1:jHS h (.lst ((a :: M).map fun x:Nat × Nat=>PV.int (x.2:Nat)))=some (.list (PyData.int (a.2:Nat) :: (M.map fun x:Nat × Nat=>x.2).map fun n=>PyData.int (n:Nat))):=by
     show (toDs (PV.int (a.2:Nat) :: M.map fun x:Nat × Nat=>PV.int (x.2:Nat))).map PyData.list=_
     have e2:(M.map fun x:Nat × Nat=>PV.int (x.2:Nat))=(M.map fun x:Nat × Nat=>x.2).map fun n=>PV.int (n:Nat):=by rw [List.map_map]; rfl
     rw [e2]
     show (match toD (PV.int (a.2:Nat)),toDs ((M.map fun x:Nat × Nat=>x.2).map fun n=>PV.int (n:Nat)) with
      | some d,some ds=>some (d :: ds)
      | _,_=>none).map PyData.list=_
     rw [hi.1]; rfl
    have t0:jHS h (.lst [])=some (.list []):=rfl
    rw [t1,t0]
    have o1:dOk (.list (PyData.int (a.2:Nat) :: (M.map fun x:Nat × Nat=>x.2).map fun n=>PyData.int (n:Nat)))=true:=decide_eq_true (by simp only [PyData.depth,PyData.depthAll]; have:=hi.2; omega)
    have o2:dOk (.list [])=true:=by decide +kernel
    simp only [o1,o2,Bool.and_self,if_true]
    rfl
   (repeat (first | walk_at "p1" | refine ⟨_,ne _,?_⟩))
   refine ⟨PV.int (a.2:Nat),(show atI (PV.int (a.2:Nat) :: M.map fun x:Nat × Nat=>PV.int (x.2:Nat)) ((0:Nat):Int)=_ from jXJ rfl),rfl,?_⟩
   exact ⟨by show PV.int (a.2:Nat)=_; rw [← ey]; rfl,rfl⟩
def jAQ (p:SpecW) (w:Nat):Bool:=(fnd (jHU w p) 0).isNone
def jQI:List Nat:=[0,1,2,3,4,5]
def yQ (ws:List Nat):List PV:=ws.map fun w=>.str (kZ w)
theorem yEF {w:Nat} (h:w∈jQI):w < 6:=by simp [jQI] at h; omega
theorem yIP {w:Nat} {p:SpecW} {h:AH}:jDZ h (shV w p) .non=some (.bl (jAQ p w)):=by
 unfold shV jAQ
 cases fnd (jHU w p) 0 <;> rfl
theorem yGZ {p:SpecW} {h:AH} (k:p.Ok):(kW [jBF p] h).post (fun v h'=>∃ g,v=.cel (h.length+g.length)∧h'=h++g++[some (.lst (yQ (jQI.filter (jAQ p))))]) NE:=by
 unfold kW
 rw [jTP]
 unfold jLC
 refine jCW [some (jBF p),none] rfl ?_
 refine jAF (jVL (jJG (jEA (p_c ⟨_,rfl,rfl,fun j acc h1=>acc=yQ ((jQI.take j).filter (jAQ p))∧∃ g,h1=h++g,⟨rfl,[],by simp⟩,fun j v acc h1 ev i=>?_,fun acc h1 i=>?_⟩))))
 ·obtain ⟨rfl,g,rfl⟩:=i
  have ev:(jQI.map fun w=>PV.str (kZ w))[j]?=some v:=ev
  rw [List.getElem?_map] at ev
  cases ew:jQI[j]? with
  | none=>rw [ew] at ev; cases ev
  | some w =>
   rw [ew] at ev
   cases ev
   have hw:=yEF (List.mem_of_getElem? ew)
   refine ⟨_,rfl,?_⟩
   refine jCT (uX (uD (yK (yH rfl (yK (yH rfl (vW ⟨⟨rfl,rfl⟩,?_⟩)))))))
   refine yZ (jMX hw k) fun v h' z=>?_
   obtain ⟨rfl,g2,rfl⟩:=z
   refine p_c ⟨_,yIP,_,rfl,?_⟩
   have tk:=jFA ew
   refine jGQ (fun hc=>yH rfl ⟨rfl,rfl,?_,g++g2,by simp⟩) fun hc=>⟨rfl,?_,g++g2,by simp⟩
   ·rw [tk,List.filter_append]
    simp [yQ,hc]
   ·rw [tk,List.filter_append]
    simp [yQ,hc]
 ·obtain ⟨rfl,g,rfl⟩:=i
  refine ⟨rfl,g,?_,?_⟩
  ·simp
  ·rw [show (jQI.take _)=jQI from rfl]
end LW
set_option maxHeartbeats 4000000
namespace LW
open PySem PySem.Spec PyProof.Rows L2 Lp
section
def jHV:List (List Str):=([[],[0],[1],[2],[3],[4],[5],[0,1],[0,2],[0,3],[0,4],[0,5],[1,2],[1,3],[1,4],[1,5],[2,3],[2,4],[2,5],[3,4],[3,5],[4,5],[0,1,2],[0,1,3],[0,1,4],[0,1,5],[0,2,3],[0,2,4],[0,2,5],[0,3,4],[0,3,5],[0,4,5],[1,2,3],[1,2,4],[1,2,5],[1,3,4],[1,3,5],[1,4,5],[2,3,4],[2,3,5],[2,4,5],[3,4,5],[0,1,2,3],[0,1,2,4],[0,1,2,5],[0,1,3,4],[0,1,3,5],[0,1,4,5],[0,2,3,4],[0,2,3,5],[0,2,4,5],[0,3,4,5],[1,2,3,4],[1,2,3,5],[1,2,4,5],[1,3,4,5],[2,3,4,5],[0,1,2,3,4],[0,1,2,3,5],[0,1,2,4,5],[0,1,3,4,5],[0,2,3,4,5],[1,2,3,4,5],[0,1,2,3,4,5]]:List (List Nat)).map fun l=>l.map fun i=>jZE.getD i ""
def tuS (l:List Str):PV:=.tup (l.map .str)
def gP (g:List (List Str)):List PV:=g.map tuS
theorem yQY {h:AH}:wM [] h=.ok (.lst (gP jHV)) h:=by kernel_rfl
theorem yLH {h:AH}:zK [] h=.ok (.lst (gP jHV)) h:=by kernel_rfl
theorem jXR:∀ l∈jHV,(∀ w∈l,w∈jZE)∧l.length < 1000:=by
 have:jHV.all (fun l=>l.all (fun w=>decide (w∈jZE))&&decide (l.length < 1000))=true:=by decide +kernel
 intro l hl
 have:=List.all_eq_true.mp this l hl
 obtain ⟨a,b⟩:=Bool.and_eq_true_iff.mp this
 exact ⟨fun w hw=>of_decide_eq_true (List.all_eq_true.mp a w hw),of_decide_eq_true b⟩
theorem yAL {w:Nat} {h:AH} (hw:w < 6):uF [.str (kZ w)] h=.ok .non h:=by
 match w,hw with
 | 0,_=>kernel_rfl
 | 1,_=>kernel_rfl
 | 2,_=>kernel_rfl
 | 3,_=>kernel_rfl
 | 4,_=>kernel_rfl
 | 5,_=>kernel_rfl
end
end LW
set_option maxHeartbeats 4000000
namespace Lp
open PySem PySem.Spec PyProof.Rows L2
def Gr (h h':AH):Prop:=∃ z,h'=h++z
theorem Gr.refl {h:AH}:Gr h h:=⟨[],by simp⟩
theorem Gr.one {h:AH} {x:Option Cell}:Gr h (h++[x]):=⟨_,rfl⟩
theorem Gr.trans {a b c:AH} (h:Gr a b) (k:Gr b c):Gr a c:=by
 obtain ⟨x,rfl⟩:=h
 obtain ⟨y,rfl⟩:=k
 exact ⟨x++y,by simp⟩
theorem Gr.at {h h':AH} {j:Nat} {c:Option Cell} (g:Gr h h') (e:h[j]?=some c):h'[j]?=some c:=by
 obtain ⟨z,rfl⟩:=g
 rw [List.getElem?_append_left (List.getElem?_eq_some_iff.mp e).1]; exact e
theorem Gr.le {h h':AH} (g:Gr h h'):h.length≤h'.length:=by
 obtain ⟨z,rfl⟩:=g
 rw [List.length_append]; omega
structure FrC (i:Nat) (h h':AH):Prop where
 le:h.length≤h'.length
 eq:∀ j,j < h.length→(j < i∨i+3≤j)→h'[j]?=h[j]?
theorem FrC.refl {i:Nat} {h:AH}:FrC i h h:=⟨Nat.le_refl _,fun _ _ _=>rfl⟩
theorem FrC.trans {i:Nat} {a b c:AH} (h:FrC i a b) (k:FrC i b c):FrC i a c:=⟨Nat.le_trans h.le k.le,fun j hj hi=>(k.eq j (Nat.lt_of_lt_of_le hj h.le) hi).trans (h.eq j hj hi)⟩
theorem FrC.set {i j:Nat} {h:AH} {c:Option Cell} (h1:i≤j) (h2:j < i+3):FrC i h (h.set j c):=⟨by rw [List.length_set]; exact Nat.le_refl _,fun k _ hk=>by rw [List.getElem?_set_ne (by omega)]⟩
theorem FrC.at {i j:Nat} {h h':AH} {c:Option Cell} (g:FrC i h h') (e:h[j]?=some c) (hj:j < i∨i+3≤j):h'[j]?=some c:=(g.eq j (List.getElem?_eq_some_iff.mp e).1 hj).trans e
end Lp
set_option maxHeartbeats 4000000
namespace Lp
open PySem PySem.Spec PyProof.Rows L2 LamX NdefX
def spO (B:Bs) (n:Nat) (mb:MS):List V→Hp→VK→Prop:=fun vs H Q=>∃ W h x v rest,vs=v :: rest∧vs.length=4∧HRel B W h H∧Rep B W x v∧(match mb ⟨some x :: List.replicate n none,h⟩ with
 | .ok .nx s'=>∀ W' H',HRel B W' s'.h H'→Step W h H W' s'.h H'→Q .non H'
 | _=>False)
structure OutA (P:Program) (w:World) (K:PySem.W.Frag) (mg:Str→Option Value) (base:Heap) (B:Bs) (k:Nat) (c:Nat) (x:Str) (mb:MS):Prop where
 ex:∃ f fd ps,Meth K (B.cad c) x f∧L2.Binds K fd ps []∧ps.length=4∧∀ (A:Around) (outer:List Env) (s:Shared) (H:Hp) (args:Args) (us:List Value) (vs:List V) (Q:VK) (p:Addr × Obj),L2H.RoomH k A→L2H.PinOk outer H s p→Env0 P w K mg base A outer s H→BindsTo s fd args (ps.zip us)→Vals vs us →
  spO B 3 mb vs H Q→codeAny (model P w) A (.call (.ref f) args) (CR (L2.CX P w) outer P w H s Q fun _ _ _=>False) s
theorem OutA.mono {P:Program} {w:World} {K:PySem.W.Frag} {mg:Str→Option Value} {base:Heap} {B:Bs} {j k c:Nat} {x:Str} {mb:MS} (F:OutA P w K mg base B j c x mb) (h:j≤k):OutA P w K mg base B k c x mb :=
 let ⟨f,fd,ps,a,b,d,e⟩:=F.ex
 ⟨f,fd,ps,a,b,d,fun A outer s H args us vs Q p r=>e A outer s H args us vs Q p (r.mono h)⟩
section
variable {X:Cx} {B:Bs} {N:Ent} {ctx:Expr} {body:List Stmt} {pos:Pos} {k1 k2 c:Nat} {ix1 ix2:List Nat} {m1 m2:MF} {mx:MS} {me:ME} {mb:MS} {E:XK}
theorem ExcR.on {W W':Wd} {h h':AH} {H0 H H':Hp} {x:PV} {cls:Value} {d:Option Addr} (hl:W.m.length=h.length) (st:Step W h H W' h' H') (e:ExcR B H0 W H x cls d):ExcR B H0 W' H' x cls d:=by
 obtain ⟨c,fs,dd,vs,rfl,rfl,rfl,e1,e2,e3,e4,e5,e6⟩:=e
 have nl:¬ Live W h dd:=fun l=>e6 l.mem
 have nt:NT (.xd ((B.fld c).zip vs)):=fun _ z=>nomatch z
 have fg:FG (H dd):=⟨_,e1,nt,fun _ _ z=>by unfold LamX.CodeO at z; cases z⟩
 exact ⟨c,fs,dd,vs,rfl,rfl,rfl,st.keep _ _ e1 nt nl,e2,e3.mono st.le,e4,st.fgrow dd e5 fg nl,st.notm hl e6 fg.ne⟩
end
end Lp
set_option maxHeartbeats 4000000
set_option maxHeartbeats 4000000
set_option maxHeartbeats 4000000
set_option maxHeartbeats 4000000
namespace Lp
open PySem PySem.Spec PyProof.Rows L2 LamX NdefX PySem.SeqAt
open AutoSeq1 (wpAny_loadPart')
def sI (i:Int):Str:=Str.ofString (toString i)
section
variable {X:Cx} {B:Bs} {N:Ent} {E:XK} {W:Wd} {s:S} {σ:L2.St} {H:Hp} {a b:Expr} {ma':MA} {pos p:Pos} {k c:Nat} {m:MF} {g:List PV→List PV→List PV}
structure MeN2 (P:Program) (w:World) (K:PySem.W.Frag) (mg:Str→Option Value) (base:Heap) (B:Bs) (k c:Nat) (x:Str) (n0:Nat) (ks:List Str) (ix:List Nat) (ds:List PV) (n:Nat) (m:MF):Prop where
 ex:∃ j,j+2≤k∧MeA P w K mg base B j c x n0 ks ix ds n m
theorem MeN2.mono {P:Program} {w:World} {K:PySem.W.Frag} {mg:Str→Option Value} {base:Heap} {B:Bs} {i k:Nat} {c:Nat} {x:Str} {n0:Nat} {ks:List Str} {ix:List Nat} {ds:List PV} {n:Nat} {m:MF} (F:MeN2 P w K mg base B i c x n0 ks ix ds n m) (h:i≤k):MeN2 P w K mg base B k c x n0 ks ix ds n m :=
 let ⟨j,hj,a⟩:=F.ex
 ⟨j,Nat.le_trans hj h,a⟩
end
end Lp
set_option maxHeartbeats 4000000
set_option maxHeartbeats 4000000
set_option Elab.async false
set_option linter.all false
set_option maxHeartbeats 4000000
set_option maxHeartbeats 4000000
set_option maxHeartbeats 4000000
namespace Lp
open PySem PySem.Spec PyProof.Rows L2
section
variable {P:PV→S→Prop} {PA:List PV→S→Prop} {PF:Fl→S→Prop} {E:PV→S→Prop} {s:S} {ma:MA} {x:MS}
theorem yGU {src:S→R S Sr} {t:Tg} {tt:S→R S Bool} {te:ME} {vs:List Nat}
  (h:(src s).post (fun r s1=>∃ I:Nat→List PV→AH→Prop,I 0 [] s1.h∧(∀ j acc h,I j acc h→wR h r)∧(∀ (j:Nat) (v:PV) (acc:List PV) (h:AH),r.xs[j]?=some v→I j acc h→∃ e1,zR t v (jP s1.e vs)=some e1 ∧
   (tt ⟨e1,h⟩).post (fun k s2=>br0 k ((te s2).post (fun y s3=>isOwn y=false∧jP s3.e vs=jP s1.e vs∧I (j+1) (acc++[y]) s3.h) NE) (jP s2.e vs=jP s1.e vs∧I (j+1) acc s2.h)) NE)∧∀ acc h,I r.xs.length acc h→PA acc ⟨jP s1.e vs,h⟩) E):(zQ src t tt te vs s).post PA E:=by
 refine jY (p_mono h (fun r s1 ⟨I,h0,hw,hs,hn⟩=>?_) fun _ _ z=>z)
 have ww:jP (jP s1.e vs) vs=jP s1.e vs:=by
  have key:∀ (us:List Nat) (e:List (Option PV)),(∀ u∈us,u∈vs)→jP (jP e us) vs=jP e vs:=by
   intro us e
   induction us with
   | nil=>intro _; rfl
   | cons u us ih =>
    intro hu
    show jP ((jP e us).set u none) vs=jP e vs
    have:∀ (l:List (Option PV)) (ws:List Nat),u∈ws→jP (l.set u none) ws=jP l ws:=by
     intro l ws
     induction ws with
     | nil=>intro z; cases z
     | cons w ws ih2 =>
      intro z
      show (jP (l.set u none) ws).set w none=(jP l ws).set w none
      by_cases hm:u∈ws
      ·rw [ih2 hm]
      ·have hw:u=w:=by
        rcases List.mem_cons.mp z with z | z
        ·exact z
        ·exact absurd z hm
       subst hw
       have go:∀ zs:List Nat,u∉zs→jP (l.set u none) zs=(jP l zs).set u none:=by
        intro zs
        induction zs with
        | nil=>intro _; rfl
        | cons y zs ih3 =>
         intro hy
         simp only [List.mem_cons,not_or] at hy
         show (jP (l.set u none) zs).set y none=((jP l zs).set y none).set u none
         rw [ih3 hy.2,List.set_comm _ _ hy.1]
       rw [go ws hm,List.set_set]
    rw [this _ _ (hu u (by simp))]
    exact ih fun w hw=>hu w (List.mem_cons_of_mem _ hw)
  exact key vs _ fun _ h=>h
 have go:∀ (ys:List PV) (j:Nat) (acc:List PV) (h:AH) (e:List (Option PV)),jP e vs=jP s1.e vs→(∀ k,ys[k]?=r.xs[j+k]?)→j+ys.length=r.xs.length→I j acc h→(ys=[]→e=jP s1.e vs)→(jGV r t tt te vs ys acc ⟨e,h⟩).post PA E:=by
  intro ys
  induction ys with
  | nil =>
   intro j acc h e he hy hl hI hz
   unfold jGV
   rw [hz rfl]
   exact hn acc h (by rw [← hl]; exact hI)
  | cons y ys ih =>
   intro j acc h e he hy hl hI hz
   unfold jGV
   obtain ⟨e1,eb,q⟩:=hs j y acc h (by have:=hy 0; simpa using this.symm) hI
   unfold jRZ
   simp only [he,eb]
   have nx:∀ {α:Type} {r:R S α} {P:α→S→Prop},r.post P NE→r.nx.post P NE:=fun {α r P} z=>by
    cases r with
    | ok a s=>exact z
    | exc x s=>exact z.elim
    | bad=>exact z.elim
   refine jY (yZ (P':=fun acc' s'=>s'.e=jP s1.e vs∧I (j+1) acc' s'.h) (jY (p_mono (nx q) (fun k s2 q=>?_) fun _ _ z=>z)) fun acc' s' ⟨q1,q2⟩=>?_)
   ·cases k with
    | true =>
     rw [if_pos rfl]
     refine jY (p_mono (nx q) (fun v s3 ⟨o,q1,q2⟩=>?_) fun _ _ z=>z)
     rw [o]
     exact ⟨q1,q2⟩
    | false =>
     rw [if_neg (by decide)]
     exact q
   ·rw [if_pos (hw _ _ _ q2)]
    obtain ⟨e',h'⟩:=s'
    simp only at q1 q2
    subst q1
    exact ih (j+1) acc' h' _ ww (fun k=>by have:=hy (k+1); simp only [List.getElem?_cons_succ] at this; rw [this]; congr 1; omega) (by simp only [List.length_cons] at hl; omega) q2 fun _=>rfl
 exact go r.xs 0 [] s1.h _ ww (fun k=>by simp) (by simp) h0 fun _=>rfl
theorem yKQ {src:S→R S Sr} {t:Tg} {tt:S→R S Bool} {te:ME} {vs:List Nat}
  (h:(src s).post (fun r s1=>∃ I:Nat→List PV→AH→Prop,I 0 [] s1.h∧(∀ j acc h,I j acc h→wR h r)∧(∀ (j:Nat) (v:PV) (acc:List PV) (h:AH),r.xs[j]?=some v→I j acc h→∃ e1,zR t v (jP s1.e vs)=some e1 ∧
   (tt ⟨e1,h⟩).post (fun k s2=>br k ((te s2).post (fun y s3=>isOwn y=false∧jP s3.e vs=jP s1.e vs∧I (j+1) (acc++[y]) s3.h) NE) (jP s2.e vs=jP s1.e vs∧I (j+1) acc s2.h)) NE)∧∀ acc h,I r.xs.length acc h→PA acc ⟨jP s1.e vs,h⟩) E):(zG src t tt te vs s).post PA E:=by
 unfold zG
 simp only [jGX] at h
 exact yGU h
theorem yBB {α:Type} {src:S→R S Sr} {t:Tg} {tt:S→R S Bool} {te:ME} {vs:List Nat}
  (h:(src s).post (fun r s1=>wR s1.h r∧∃ (rs:List α) (f g:α→PV) (c:α→Bool),r.xs=rs.map f∧(∀ a∈rs,isOwn (g a)=false∧∃ e1,zR t (f a) (jP s1.e vs)=some e1∧(tt ⟨e1,s1.h⟩).post (fun k s2=>k=c a∧(te s2).post (fun y s3=>y=g a∧jP s3.e vs=jP s1.e vs∧s3.h=s1.h) NE∧jP s2.e vs=jP s1.e vs∧s2.h=s1.h) NE)∧PA ((rs.filter c).map g) ⟨jP s1.e vs,s1.h⟩) E) :
  (zG src t tt te vs s).post PA E:=by
 refine yKQ (p_mono h (fun r s1 ⟨hw,rs,f,g,c,hx,hs,hn⟩=>⟨fun j acc h=>acc=((rs.take j).filter c).map g∧h=s1.h,⟨rfl,rfl⟩,fun j acc h z=>by rw [z.2]; exact hw,fun j v acc h e ⟨i1,i2⟩=>?_,fun acc h ⟨i1,i2⟩=>?_⟩) fun _ _ z=>z)
 ·subst i2
  rw [hx,List.getElem?_map] at e
  cases ea:rs[j]? with
  | none=>rw [ea] at e; cases e
  | some a =>
   rw [ea] at e
   cases e
   obtain ⟨o,e1,eb,q⟩:=hs a (List.mem_of_getElem? ea)
   refine ⟨e1,eb,p_mono q (fun k s2 ⟨hk,q2,w,eh⟩=>?_) fun _ _ z=>z⟩
   subst hk
   have tk:=jFA ea
   cases hc:c a with
   | true =>
    refine wJ rfl (p_mono q2 (fun y s3 ⟨ey,w3,e3⟩=>?_) fun _ _ z=>z)
    subst ey
    refine ⟨o,w3,?_,e3⟩
    rw [tk,List.filter_append,List.map_append,i1]
    simp [hc]
   | false =>
    refine qC rfl ⟨w,?_,eh⟩
    rw [tk,List.filter_append,List.map_append,i1]
    simp [hc]
 ·rw [i1,i2,hx,List.length_map,List.take_length]; exact hn
theorem yEK {h:AH} {n:Nat} {xs ys:List PV} {o:Bool} (e:h[n]?=some (some (.lst xs))):wR h ⟨ys,[(n,xs)],o⟩:=fun p hp=>by
 rw [List.mem_singleton.mp hp]; exact e
theorem vDF {h:AH} {n:Nat} {xs:List PV} (e:h[n]?=some (some (.lst xs))):srcOf h (.cel n)=some ⟨xs,[(n,xs)],false⟩:=by
 unfold srcOf
 simp only [e]
end
end Lp
set_option maxHeartbeats 4000000
namespace LW
open PySem PySem.Spec PyProof.Rows L2 Lp
section
def jWQ (g:List (List Str)) (l:List Str):Bool:=g.any fun a=>a.all fun m=>decide (m∈l)
def jAP (p:SpecW) (ws:List Nat) (g:List (List Str)) (l:List Str):List (List Str):=if jWQ g l=true then g else if ws.all (jAQ (jCQ l p))=true then g++[l] else g
def jIO (p:SpecW) (ws:List Nat):List (List Str):=jHV.foldl (jAP p ws) []
theorem jWI {α β:Type} {f:β→α→β} {b:β} {l:List α} {j:Nat} {a:α} (e:l[j]?=some a):(l.take (j+1)).foldl f b=f ((l.take j).foldl f b) a:=by
 rw [jFA e,List.foldl_append]; rfl
theorem jVT {p:SpecW} {ws:List Nat}:∀ {L:List (List Str)} {g:List (List Str)} {x:List Str},x∈L.foldl (jAP p ws) g→x∈g∨x∈L∧ws.all (jAQ (jCQ x p))=true
 | [],_,_,h=>.inl h
 | l :: L,g,x,h=>by
  rcases jVT (L:=L) h with z | ⟨z,y⟩
  ·unfold jAP at z
   split at z
   ·exact .inl z
   ·split at z
    ·rename_i hk
     rcases List.mem_append.mp z with z | z
     ·exact .inl z
     ·rw [List.mem_singleton.mp z]
      exact .inr ⟨List.mem_cons_self ..,hk⟩
    ·exact .inl z
  ·exact .inr ⟨List.mem_cons_of_mem _ z,y⟩
theorem yLQ {p:SpecW} {ws:List Nat} {x:List Str} (h:x∈jIO p ws):x∈jHV∧ws.all (jAQ (jCQ x p))=true:=by
 rcases jVT h with z | z
 ·cases z
 ·exact z
theorem jLY {p:SpecW} {ws:List Nat}:∀ {L:List (List Str)} {g:List (List Str)},(L.foldl (jAP p ws) g).length≤g.length+L.length
 | [],_=>Nat.le_refl _
 | l :: L,g=>by
  have h1:=jLY (p:=p) (ws:=ws) (L:=L) (g:=jAP p ws g l)
  have h2:(jAP p ws g l).length≤g.length+1:=by
   unfold jAP
   split
   ·omega
   ·split
    ·rw [List.length_append]; exact Nat.le_refl _
    ·omega
  have h3:(L.foldl (jAP p ws) (jAP p ws g l)).length≤g.length+(L.length+1):=by omega
  exact h3
theorem jKO:jHV.length=64:=by decide +kernel
def Gw (h h':AH):Prop:=∃ z,h'=h++z
theorem Gw.refl {h:AH}:Gw h h:=⟨[],(List.append_nil h).symm⟩
theorem Gw.trans {a b c:AH}:Gw a b→Gw b c→Gw a c
 | ⟨x,e⟩,⟨y,f⟩=>⟨x++y,by rw [f,e,List.append_assoc]⟩
theorem Gw.at {h h':AH} {n:Nat} {c:Option Cell} (g:Gw h h') (e:h[n]?=some c):h'[n]?=some c:=by
 obtain ⟨z,rfl⟩:=g
 rw [List.getElem?_append_left (List.getElem?_eq_some_iff.mp e).1]; exact e
theorem Gw.le {h h':AH} (g:Gw h h'):h.length≤h'.length:=by
 obtain ⟨z,rfl⟩:=g
 rw [List.length_append]; omega
theorem Gw.set {h0 h:AH} {n:Nat} {c:Option Cell} (g:Gw h0 h) (hn:h0.length≤n):Gw h0 (h.set n c):=by
 obtain ⟨z,rfl⟩:=g
 exact ⟨z.set (n - h0.length) c,by rw [List.set_append_right _ _ hn]⟩
theorem vCD {g:List (List Str)} {l:List Str}:((g.map fun a=>a.all fun m=>decide (m∈l)).any fun b=>b)=jWQ g l:=by unfold jWQ; rw [List.any_map]; rfl
theorem jKR {α:Type} {PA:List PV→S→Prop} {E:PV→S→Prop} {s:S} {src:S→R S Sr} {t:Tg} {te:ME} {vs:List Nat}
  (h:(src s).post (fun r s1=>wR s1.h r∧∃ (rs:List α) (f g:α→PV),r.xs=rs.map f∧(∀ a∈rs,isOwn (g a)=false∧∃ e1,zR t (f a) (jP s1.e vs)=some e1∧jP e1 vs=jP s1.e vs∧(te ⟨e1,s1.h⟩).post (fun y s3=>y=g a∧jP s3.e vs=jP s1.e vs∧s3.h=s1.h) NE)∧PA (rs.map g) ⟨jP s1.e vs,s1.h⟩) E) :
  (zG src t jAO te vs s).post PA E :=
 yBB (α:=α) (p_mono h (fun r s1 ⟨hw,rs,f,g,hx,hs,hn⟩=>⟨hw,rs,f,g,fun _=>true,hx,fun a ha=>by
  obtain ⟨o,e1,eb,w,q⟩:=hs a ha
  exact ⟨o,e1,eb,yFU ⟨rfl,q,w,rfl⟩⟩,by rw [List.filter_eq_self.mpr fun _ _=>rfl]; exact hn⟩) fun _ _ z=>z)
theorem yIN {h:AH} {t:Bool} {xs:List PV}:srcOf h (lsV t xs)=some ⟨xs,[],false⟩:=by cases t <;> rfl
theorem jHF {t:Bool} {p:SpecW} {ws:List Nat} {h:AH} (kp:p.Ok) (hw:∀ w∈ws,w < 6) (hz:ws.length≤1000):(yG [jBF p,lsV t (yQ ws)] h).post (fun v h'=>v=.cel h.length∧h'[h.length]?=some (some (.lst (gP (jIO p ws))))∧Gw h h') NE:=by
 have hsz:(yQ ws).length≤sizeLine:=by
  unfold yQ
  rw [List.length_map]
  have:1001≤sizeLine:=by decide
  omega
 unfold yG
 rw [jLB]
 unfold jHH
 refine jCW [some (jBF p),some (lsV t (yQ ws)),none,none,none,none,none,none] (by cases t <;> rfl) ?_
 refine uH (jKJ (jEA (yH rfl ⟨_,yIN,rfl,rfl,hsz,yRQ (show 2 < 8 by decide) (fun v hv=>?_) fun z=>?_⟩)))
 ·obtain ⟨w,hw1,rfl⟩:=List.mem_map.mp hv
  refine ⟨rfl,uJ (uD (yK (yH rfl (vW ⟨⟨rfl,rfl⟩,?_⟩))))⟩
  rw [yAL (hw w hw1)]
  exact ⟨rfl,rfl⟩
 refine uH (wL (jVL (jNH (vW ⟨⟨rfl,Nat.zero_le _⟩,?_⟩))))
 refine ⟨rfl,?_⟩
 dsimp only [List.set_cons_succ,List.set_cons_zero]
 have hsl:(gP jHV).length≤sizeLine:=by
  unfold gP
  rw [List.length_map,jKO]
  have:1001≤sizeLine:=by decide
  omega
 refine uH (jKJ (jEA (jRT ⟨⟨rfl,rfl⟩,?_⟩)))
 rw [yQY]
 refine ⟨_,rfl,rfl,rfl,hsl,jJE (fun j s=>∃ y2 y4 y5,s.e=[some (jBF p),some (lsV t (yQ ws)),y2,some (.cel h.length),y4,y5,none,none]∧s.h[h.length]?=some (some (.lst (gP ((jHV.take j).foldl (jAP p ws) []))))∧Gw h s.h) ⟨_,_,_,rfl,by simp [gP],⟨_,rfl⟩⟩ (fun j v s ev ⟨y2,y4,y5,he,hc,hg⟩=>?_) fun s ⟨y2,y4,y5,he,hc,hg⟩=>?_⟩
 ·obtain ⟨se,sh⟩:=s
  dsimp only at he hc hg
  subst he
  have ev:(jHV.map tuS)[j]?=some v:=ev
  rw [List.getElem?_map] at ev
  cases el:jHV[j]? with
  | none=>rw [el] at ev; cases ev
  | some l =>
   rw [el] at ev
   cases ev
   have hj:=(List.getElem?_eq_some_iff.mp el).1
   obtain ⟨hm,hl⟩:=jXR l (List.mem_of_getElem? el)
   have gl:((jHV.take j).foldl (jAP p ws) []).length≤64:=by
    have:=jLY (p:=p) (ws:=ws) (L:=jHV.take j) (g:=[])
    rw [List.length_take,jKO] at this
    have h0:([]:List (List Str)).length=0:=rfl
    omega
   rw [jWI el]
   generalize (jHV.take j).foldl (jAP p ws) []=g at *
   refine ⟨[some (jBF p),some (lsV t (yQ ws)),y2,some (.cel h.length),some (tuS l),y5,none,none],rfl,?_⟩
   refine jAE (qG (jEY (jEZ (yK (jCU ?_)))))
   refine jKR (α:=List Str) (jEA (yH rfl ⟨_,vDF hc,yEK hc,g,tuS,fun a=>.bl (a.all fun m=>decide (m∈l)),rfl,fun a ha=>⟨rfl,_,rfl,?_⟩,?_⟩))
   ·refine ⟨rfl,jEZ (yK (jCU (jKR (α:=Str) (jEA (yH rfl ⟨_,rfl,jLW,a,PV.str,fun m=>.bl (decide (m∈l)),rfl,fun m hm=>⟨rfl,_,rfl,rfl,uX (yH rfl (yH rfl ⟨_,(jQX true).1,rfl,rfl,rfl⟩))⟩,?_⟩)))))⟩
    refine vW ⟨.bl (a.all fun m=>decide (m∈l)),?_,rfl,rfl,rfl⟩
    have:=jYE (h:=sh) (a.map fun m=>decide (m∈l))
    rw [List.map_map,List.all_map] at this
    exact this
   ·dsimp only [jP,List.set_cons_succ,List.set_cons_zero,List.foldl]
    have ea:∀ h,yBX h [.lst (g.map fun a=>PV.bl (a.all fun m=>decide (m∈l)))]=some (.bl (jWQ g l)):=fun h=>by
     have:=yTH (h:=h) (g.map fun a=>a.all fun m=>decide (m∈l))
     rw [List.map_map,vCD] at this
     exact this
    refine vW ⟨_,ea _,_,rfl,?_⟩
    by_cases hcov:jWQ g l=true
    ·rw [show jAP p ws g l=g by unfold jAP; rw [if_pos hcov]]
     rw [hcov]
     refine qC rfl (wB ?_)
     exact ⟨_,_,_,rfl,hc,hg⟩
    ·have hcov:jWQ g l=false:=by simpa using hcov
     rw [hcov]
     have ko:=jXV (l:=l) kp
     refine wJ rfl (uH (wL (uD (yK (yH rfl (yK (yH rfl (vW ⟨⟨rfl,rfl⟩,yZ (jQS (t:=true) kp hm hl) fun v h2 ⟨ev,eh⟩=>?_⟩))))))))
     subst ev eh
     refine ⟨rfl,?_⟩
     dsimp only [List.set_cons_succ,List.set_cons_zero]
     refine jAE (jEY (jEZ (yK (jCU (jJG (jEA (yH rfl ⟨_,yIN,rfl,fun k acc h1=>acc=(ws.take k).map (fun w=>PV.bl (jAQ (jCQ l p) w))∧Gw h2 h1,⟨rfl,Gw.refl⟩,fun k v acc h1 ev ⟨ea,ga⟩=>?_,fun acc h1 ⟨ea,ga⟩=>?_⟩)))))))
     ·have ev:(ws.map fun w=>PV.str (kZ w))[k]?=some v:=ev
      rw [List.getElem?_map] at ev
      cases ew:ws[k]? with
      | none=>rw [ew] at ev; cases ev
      | some w =>
       rw [ew] at ev
       cases ev
       have hw1:=hw w (List.mem_of_getElem? ew)
       refine ⟨_,rfl,yFU (wJ rfl (uX (uD (yK (yH rfl (yK (yH rfl (vW ⟨⟨rfl,rfl⟩,yZ (jMX hw1 ko) fun v h3 ⟨ev,gg,eh⟩=>?_⟩))))))))⟩
       subst ev
       refine p_c ⟨_,yIP,rfl,rfl,?_,ga.trans ⟨gg,eh⟩⟩
       rw [ea,jFA ew,List.map_append]; rfl
     ·have ea:acc=(ws.take (yQ ws).length).map (fun w=>PV.bl (jAQ (jCQ l p) w)):=ea
      rw [show (yQ ws).length=ws.length from List.length_map ..,List.take_length] at ea
      subst ea
      have eb:∀ h,jKH h [.lst (ws.map fun w=>PV.bl (jAQ (jCQ l p) w))]=some (.bl (ws.all (jAQ (jCQ l p)))):=fun h=>by
       have:=jYE (h:=h) (ws.map (jAQ (jCQ l p)))
       rw [List.map_map,List.all_map] at this
       exact this
      have hc1:=ga.at hc
      have hg1:=hg.trans ga
      refine vW ⟨_,eb _,_,rfl,?_⟩
      dsimp only [jP,List.set_cons_succ,List.set_cons_zero,List.foldl]
      by_cases hk:ws.all (jAQ (jCQ l p))=true
      ·rw [hk,show jAP p ws g l=g++[l] by unfold jAP; rw [if_neg (by rw [hcov]; decide),if_pos hk]]
       have cl:jCI h1 h.length=some (gP g):=by unfold jCI; rw [hc1]
       have ad:jNZ (gP g) (tuS l)=some (gP (g++[l])):=by
        unfold jNZ
        rw [if_neg (by
         rintro (z | z)
         ·cases z
         ·unfold gP at z
          rw [List.length_map] at z
          have:1001≤sizeLine:=by decide
          omega)]
        unfold gP
        rw [List.map_append]; rfl
       refine wJ rfl (uJ (jWZ (yH rfl ⟨_,_,rfl,cl,yH rfl ⟨_,_,cl,ad,?_⟩⟩)))
       refine ⟨_,_,_,rfl,?_,hg1.set (Nat.le_refl _)⟩
       rw [List.getElem?_set_self (List.getElem?_eq_some_iff.mp hc1).1]
      ·have hk:ws.all (jAQ (jCQ l p))=false:=by simpa using hk
       rw [hk,show jAP p ws g l=g by unfold jAP; rw [if_neg (by rw [hcov]; decide),if_neg (by rw [hk]; decide)]]
       refine qC rfl (wB ?_)
       exact ⟨_,_,_,rfl,hc1,hg1⟩
 ·obtain ⟨se,sh⟩:=s
  dsimp only at he hc hg
  subst he
  have hc:sh[h.length]?=some (some (.lst (gP ((jHV.take (gP jHV).length).foldl (jAP p ws) [])))):=hc
  rw [show (gP jHV).length=jHV.length from List.length_map ..,List.take_length] at hc
  exact jAF (yH rfl ⟨rfl,rfl,hc,hg⟩)
end
end LW
set_option maxHeartbeats 4000000
namespace LW
open PySem PySem.Spec PyProof.Rows L2 Lp
section
theorem jSU (l:List Str):toDs (l.map PV.str)=some (l.map PyData.str):=jZM PV.str PyData.str (fun _=>rfl) l
theorem yFK (l:List Str):∀ d∈l.map PyData.str,d.depth≤1:=fun d hd=>by
 obtain ⟨z,_,rfl⟩:=List.mem_map.mp hd
 simp [PyData.depth]
theorem yJD {h:AH} {xs:List PV} {ds:List PyData} (e:toDs xs=some ds) (hd:∀ d∈ds,d.depth≤5):fEq h (.lst xs) (.lst [])=some (.bl xs.isEmpty)∧fNe h (.lst xs) (.lst [])=some (.bl (!xs.isEmpty)):=by
 have e2:jHS h (.lst xs)=some (.list ds):=by
  show (toDs xs).map _=_
  rw [e]; rfl
 have e3:jHS h (.lst [])=some (.list []):=rfl
 have o2:dOk (.list ds)=true:=jOR (n:=5) hd (by decide)
 have o3:dOk (.list [])=true:=by decide +kernel
 have ei:PyData.eqv (.list ds) (.list [])=xs.isEmpty:=by
  cases xs with
  | nil=>cases e; rfl
  | cons x xs =>
   unfold toDs at e
   cases p:toD x with
   | none=>rw [p] at e; cases e
   | some d =>
    cases q:toDs xs with
    | none=>rw [p,q] at e; cases e
    | some es=>rw [p,q] at e; cases e; rfl
 unfold fEq fNe
 rw [e2,e3]
 dsimp only
 rw [o2,o3,ei]
 exact ⟨rfl,rfl⟩
theorem jXY {α β:Type} {f:α→β} {l:List α}:(l.map f).isEmpty=l.isEmpty:=by cases l <;> rfl
theorem vEV {h:AH} {l:List Str}:fEq h (.lst (l.map .str)) (.lst [])=some (.bl l.isEmpty)∧fNe h (.lst (l.map .str)) (.lst [])=some (.bl (!l.isEmpty)):=by
 have:=yJD (h:=h) (jSU l) fun d hd=>Nat.le_trans (yFK l d hd) (by decide)
 rw [jXY] at this
 exact this
theorem yUY (l:List Str):toD (tuS l)=some (.tuple (l.map .str)):=by
 show (toDs _).map _=_
 rw [jSU]; rfl
theorem yUX (g:List (List Str)):toDs (gP g)=some (g.map fun l=>.tuple (l.map .str)):=by
 induction g with
 | nil=>rfl
 | cons l g ih =>
  show toDs (tuS l :: gP g)=_
  unfold toDs
  rw [yUY,ih]; rfl
theorem vCB (l:List Str):(PyData.tuple (l.map .str)).depth≤4:=by
 have:PyData.depthAll (l.map PyData.str)≤1:=by
  induction l with
  | nil=>decide
  | cons a l ih=>simp only [List.map_cons,PyData.depthAll,PyData.depth]; omega
 simp only [PyData.depth]
 omega
theorem vCA {h:AH} {g:List (List Str)}:fEq h (.lst (gP g)) (.lst [])=some (.bl g.isEmpty):=by
 have:=(yJD (h:=h) (yUX g) fun d hd=>by
  obtain ⟨l,_,rfl⟩:=List.mem_map.mp hd
  exact Nat.le_trans (vCB l) (by decide)).1
 rw [show (gP g).isEmpty=g.isEmpty from jXY] at this
 exact this
theorem yFH {α:Type} {q:α→Bool} {l:List α}:(l.filter fun a=>!q a).isEmpty=l.all q:=by
 induction l with
 | nil=>rfl
 | cons a l ih =>
  rw [List.all_cons,← ih]
  cases e:q a with
  | true=>rw [List.filter_cons_of_neg (by rw [e]; decide)]; rfl
  | false=>rw [List.filter_cons_of_pos (by rw [e]; rfl)]; rfl
theorem yST {α:Type} {q:α→Bool} {l:List α}:(l.filter q).isEmpty=!l.any q:=by
 induction l with
 | nil=>rfl
 | cons a l ih =>
  rw [List.any_cons]
  cases e:q a with
  | true=>rw [List.filter_cons_of_pos e]; rfl
  | false=>rw [List.filter_cons_of_neg (by rw [e]; decide),ih]; rfl
theorem vED {w:Nat} {p:SpecW} {h:AH}:jVP h (fwV w p) .non=some (.bl (!jAQ p w)):=by
 unfold fwV jAQ
 cases fnd (jHU w p) 0 <;> rfl
theorem yBD {p:SpecW} {ws:List Nat} {h:AH} (kp:p.Ok) (hw:∀ w∈ws,w < 6) (hz:ws.length≤1000):(vR [p.v,.lst (yQ ws)] h).post (fun v h'=>v=.lst (gP (jIO p ws))∧h'=h) NE:=by
 unfold vR
 rw [jMJ]
 unfold jGA
 refine jCW [some p.v,some (.lst (yQ ws)),none,none,none,none,none,none] rfl ?_
 refine uH (vAO (jNH (vW ⟨⟨rfl,Nat.zero_le _⟩,?_⟩)))
 dsimp only [List.set_cons_succ,List.set_cons_zero]
 have hsl:(gP jHV).length≤sizeLine:=by
  unfold gP
  rw [List.length_map,jKO]
  have:1001≤sizeLine:=by decide
  omega
 refine uH (jKJ (jEA (jRT ⟨⟨rfl,rfl⟩,?_⟩)))
 rw [yLH]
 refine ⟨_,rfl,rfl,rfl,hsl,jJE (fun j s=>∃ y3 y4,s.e=[some p.v,some (.lst (yQ ws)),some (.own (gP ((jHV.take j).foldl (jAP p ws) []))),y3,y4,none,none,none]∧s.h=h) ⟨_,_,rfl,rfl⟩ (fun j v s ev ⟨y3,y4,he,hh⟩=>?_) fun s ⟨y3,y4,he,hh⟩=>?_⟩
 ·obtain ⟨se,sh⟩:=s
  dsimp only at he hh
  subst he hh
  have ev:(jHV.map tuS)[j]?=some v:=ev
  rw [List.getElem?_map] at ev
  cases el:jHV[j]? with
  | none=>rw [el] at ev; cases ev
  | some l =>
   rw [el] at ev
   cases ev
   have hj:=(List.getElem?_eq_some_iff.mp el).1
   obtain ⟨hm,hl⟩:=jXR l (List.mem_of_getElem? el)
   have gl:((jHV.take j).foldl (jAP p ws) []).length≤64:=by
    have:=jLY (p:=p) (ws:=ws) (L:=jHV.take j) (g:=[])
    rw [List.length_take,jKO] at this
    have h0:([]:List (List Str)).length=0:=rfl
    omega
   rw [jWI el]
   generalize (jHV.take j).foldl (jAP p ws) []=g at *
   refine ⟨[some p.v,some (.lst (yQ ws)),some (.own (gP g)),some (tuS l),y4,none,none,none],rfl,?_⟩
   refine jAE (jCT (uX (jCU (jMA (α:=List Str) (jEA (yH rfl ⟨_,rfl,rfl,g,tuS,fun a=>a.all fun m=>decide (m∈l),rfl,fun a ha=>⟨rfl,_,rfl,?_⟩,?_⟩))))))
   ·refine jCT (uX (jCU (jMA (α:=Str) (jEA (yH rfl ⟨_,rfl,rfl,a,PV.str,fun m=>!decide (m∈l),rfl,fun m hm=>⟨rfl,_,rfl,jCT (uX (yH rfl (yH rfl ⟨_,(jQX true).2,_,rfl,rfl,yH rfl ⟨rfl,rfl,rfl⟩,rfl,rfl⟩)))⟩,?_⟩)))))
    refine jBE (vW ⟨⟨rfl,Nat.zero_le _⟩,_,vEV.1,_,rfl,?_⟩)
    exact ⟨yFH,yH rfl ⟨rfl,rfl,rfl⟩,rfl,rfl⟩
   dsimp only [jP,List.set_cons_succ,List.set_cons_zero,List.foldl]
   refine jBE (vW ⟨⟨rfl,Nat.zero_le _⟩,_,vCA,_,rfl,?_⟩)
   rw [show ((g.filter fun a=>a.all fun m=>decide (m∈l)).isEmpty)=!jWQ g l from yST]
   by_cases hcov:jWQ g l=true
   ·rw [show jAP p ws g l=g by unfold jAP; rw [if_pos hcov],hcov]
    refine qC rfl (wB ?_)
    exact ⟨_,_,rfl,rfl⟩
   ·have hcov:jWQ g l=false:=by simpa using hcov
    rw [hcov]
    have ko:=jXV (l:=l) kp
    refine wJ rfl (uH (wL (uD (yK (yH rfl (yK (yH rfl (vW ⟨⟨rfl,rfl⟩,yZ (jYJ (t:=true) kp) fun v h2 ⟨ev,eh⟩=>?_⟩))))))))
    subst ev eh
    refine ⟨rfl,?_⟩
    dsimp only [List.set_cons_succ,List.set_cons_zero]
    refine jAE (jCT (uX (jCU (jMA (α:=Nat) (jEA (yH rfl ⟨_,rfl,rfl,ws,fun w=>.str (kZ w),fun w=>!jAQ (jCQ l p) w,rfl,fun w hw1=>⟨rfl,_,rfl,?_⟩,?_⟩))))))
    ·refine jCT (uX (uD (yK (yH rfl (yK (yH rfl (vW ⟨⟨rfl,rfl⟩,yZ (yBL (hw w hw1) ko) fun v h3 ⟨ev,eh⟩=>?_⟩)))))))
     subst ev eh
     exact p_c ⟨_,vED,_,rfl,rfl,yH rfl ⟨rfl,rfl,rfl⟩,rfl,rfl⟩
    dsimp only [jP,List.set_cons_succ,List.set_cons_zero,List.foldl]
    have ew:((ws.filter fun w=>!jAQ (jCQ l p) w).map fun w=>PV.str (kZ w))=((ws.filter fun w=>!jAQ (jCQ l p) w).map kZ).map PV.str:=by rw [List.map_map]; rfl
    rw [ew]
    refine jBE (vW ⟨⟨rfl,Nat.zero_le _⟩,_,vEV.1,_,rfl,?_⟩)
    rw [jXY,yFH]
    by_cases hk:ws.all (jAQ (jCQ l p))=true
    ·rw [hk,show jAP p ws g l=g++[l] by unfold jAP; rw [if_neg (by rw [hcov]; decide),if_pos hk]]
     refine wJ rfl (yIU rfl (yH rfl ⟨_,rfl,⟨rfl,by unfold gP; rw [List.length_map]; omega⟩,?_⟩))
     have eg:gP (g++[l])=gP g++[tuS l]:=by
      unfold gP
      rw [List.map_append]; rfl
     rw [eg]
     exact ⟨_,_,rfl,rfl⟩
    ·have hk:ws.all (jAQ (jCQ l p))=false:=by simpa using hk
     rw [hk,show jAP p ws g l=g by unfold jAP; rw [if_neg (by rw [hcov]; decide),if_neg (by rw [hk]; decide)]]
     refine qC rfl (wB ?_)
     exact ⟨_,_,rfl,rfl⟩
 ·obtain ⟨se,sh⟩:=s
  dsimp only at he hh
  subst hh
  have he:se=[some p.v,some (.lst (yQ ws)),some (.own (gP ((jHV.take (gP jHV).length).foldl (jAP p ws) []))),y3,y4,none,none,none]:=he
  rw [show (gP jHV).length=jHV.length from List.length_map ..,List.take_length] at he
  subst he
  exact yIS rfl ⟨rfl,rfl⟩
end
end LW
set_option maxHeartbeats 4000000
namespace LW
open PySem PySem.Spec PyProof.Rows L2 Lp
section
theorem vEQ {h:AH} {n:Nat} {xs:List PV} {z:PV} (e:h[n]?=some (some (.lst xs))) (e2:atI xs 0=some z):fIx h (.cel n) (.int 0)=some z:=by
 have c:jCI h n=some xs:=by unfold jCI; rw [e]
 exact jGF c e2
theorem vEA {h:AH} {n:Nat} {xs:List PV} (e:h[n]?=some (some (.lst xs))):jDS h [.cel n]=some (.int (xs.length:Nat)):=by
 show (asS h (.cel n)).map (fun ys=>PV.int (ys.length:Nat))=_
 have:asS h (.cel n)=some xs:=by
  show (match h[n]? with
   | some (some (.lst xs))=>some xs
   | _=>none)=_
  rw [e]
 rw [this]; rfl
theorem yJM {α:Type} (f g:α→PV) (l:List α):jIN (l.map f) (l.map g)=l.map fun a=>.tup [f a,g a]:=by
 induction l with
 | nil=>rfl
 | cons a l ih =>
  show PV.tup [f a,g a] :: jIN (l.map f) (l.map g)=_
  rw [ih]; rfl
theorem vAG {PS:Sr→S→Prop} {E:PV→S→Prop} {s:S} {ma:MA} (h:(ma s).post (fun vs s1=>∃ xs k ys,vs=[.cel k,.lst xs]∧s1.h[k]?=some (some (.lst ys))∧PS ⟨jIN ys xs,[(k,ys)],false⟩ s1) E):(jYZ ma s).post PS E:=by
 unfold jYZ yHT
 refine jY (p_mono h (fun vs s1 ⟨xs,k,ys,e1,e2,q⟩=>?_) fun _ _ z=>z)
 subst e1
 have l1:lsrc s1.h (.lst xs)=some ⟨xs,[],false⟩:=rfl
 have l2:lsrc s1.h (.cel k)=some ⟨ys,[(k,ys)],false⟩:=by
  show (match s1.h[k]? with
   | some (some (.lst xs))=>some _
   | _=>none)=_
  rw [e2]
 dsimp only [yDV]
 rw [l1,l2]
 exact q
section
variable {α:Type} {m:MF} {h:AH} {l:List α} {f g:α→PV}
theorem yHP:jKH h [.lst (l.map fun _=>PV.bl true)]=some (.bl true):=by
 have:=jOS (h:=h) (l.map fun _=>PV.non)
 rw [List.map_map] at this
 exact this
theorem yGX (u v:PV) (ho:∀ a∈l,isOwn (f a)=false∧isOwn (g a)=false) (ih:∀ a∈l,(m [f a,g a] h).post (fun r h'=>r=.bl true∧h'=h) NE):∀ a∈l,isOwn (PV.bl true)=false∧∃ e1,zR (.t [(.n 2),(.n 3)]) (.tup [f a,g a]) (jP [some u,some v,none,none] [2,3])=some e1∧jP e1 [2,3]=jP [some u,some v,none,none] [2,3] ∧
   (vN 2 m (jG (jM 2) (jG (jM 3) jT)) ⟨e1,h⟩).post (fun y s3=>y=.bl true∧jP s3.e [2,3]=jP [some u,some v,none,none] [2,3]∧s3.h=h) NE:=fun a ha=>by
 obtain ⟨o1,o2⟩:=ho a ha
 refine ⟨rfl,[some u,some v,some (f a),some (g a)],by simp [zR,bindTs,jP,o1,o2],rfl,?_⟩
 (repeat walk_at "p1")
 refine ⟨⟨rfl,by simp [vM,o1,o2]⟩,yZ (ih a ha) fun r h' ⟨e1,e2⟩=>?_⟩
 subst e1 e2
 exact ⟨rfl,rfl,rfl⟩
theorem vBR {k:Nat} {ys:List PV} (e:h[k]?=some (some (.lst ys))):wZ h [.cel k,.tup [.ty "list", .ty "tuple"]]=some (.bl true)∧wZ h [.cel k,.ty "list"]=some (.bl true)∧wZ h [.cel k,.ty "tuple"]=some (.bl false):=by
 have q:tyN h (.cel k)=some .lst:=by
  unfold tyN asL
  simp only [e]
  rfl
 refine ⟨?_,?_,?_⟩
 ·show ((tyN h (.cel k)).bind fun t=>(jMU _).map fun us=>PV.bl (us.any (subT t)))=_
  rw [q]; rfl
 ·show ((tyN h (.cel k)).bind fun t=>(BT.of _).map fun u=>PV.bl (subT t u))=_
  rw [q]; rfl
 ·show ((tyN h (.cel k)).bind fun t=>(BT.of _).map fun u=>PV.bl (subT t u))=_
  rw [q]; rfl
theorem yFC {k:Nat} (e:h[k]?=some (some (.lst (l.map f)))) (ho:∀ a∈l,isOwn (f a)=false∧isOwn (g a)=false) (ih:∀ a∈l,(m [f a,g a] h).post (fun r h'=>r=.bl true∧h'=h) NE) :
  (mkF 2 (jSE m) [.cel k,.lst (l.map g)] h).post (fun r h'=>r=.bl true∧h'=h) NE:=by
 rw [jXX]
 unfold yDZ
 refine jCW [some (.cel k),some (.lst (l.map g)),none,none] rfl ?_
 obtain ⟨i1,i2,i3⟩:=vBR e
 have eL:∀ h,jDS h [.lst (l.map g)]=some (.int (l.length:Nat)):=fun h=>by
  show some (PV.int ((l.map g).length:Nat))=_
  rw [List.length_map]
 have eG:jDS h [.cel k]=some (.int (l.length:Nat)):=by rw [vEA e,List.length_map]
 have eN:∀ h,fEq h (.int (l.length:Nat)) (.int (l.length:Nat))=some (.bl true):=fun h=>congrArg (fun b=>some (PV.bl b)) (jYN _)
 (repeat (first | refine ⟨_,i2,?_⟩ | refine ⟨_,i3,?_⟩ | refine ⟨_,eL _,?_⟩ | refine ⟨_,eG,?_⟩ | refine ⟨_,eN _,?_⟩ | walk_at "p1"))
 refine jKR (α:=α) (vAG (yK (yH rfl (yK (yH rfl (vW ⟨_,_,_,rfl,e,yEK e,l,fun a=>.tup [f a,g a],fun _=>.bl true,yJM f g l,yGX _ _ ho ih,?_⟩))))))
 (repeat (first | refine ⟨_,yHP,?_⟩ | walk_at "p1"))
end
theorem jXF:∀ (n:Nat) {v:PV},DPl n v→DPl (n+1) v
 | 0,v,h=>by cases v <;> first | exact h.elim | trivial
 | n+1,v,h=>by
  cases v with
  | tup xs=>exact fun x hx=>jXF n (h x hx)
  | lst xs=>exact fun x hx=>jXF n (h x hx)
  | _=>first | exact h.elim | trivial
def FoundAt (h:AH) (q:PV × List (List Str)):Prop:=q.1=.lst (gP q.2)∨∃ k,q.1=.cel k∧h[k]?=some (some (.lst (gP q.2)))
theorem yUE (g:List (List Str)):∀ x∈gP g,DPl 4 x:=fun x hx=>by
 obtain ⟨l,_,rfl⟩:=List.mem_map.mp hx
 intro y hy
 obtain ⟨z,_,rfl⟩:=List.mem_map.mp hy
 trivial
theorem jTL {h:AH} {n:Nat} {L:List (PV × List (List Str))} (e:h[n]?=some (some (.lst (L.map Prod.fst)))) (hL:∀ q∈L,FoundAt h q):(jSD 8 [.cel n,.lst (L.map fun q=>.lst (gP q.2))] h).post (fun r h'=>r=.bl true∧h'=h) NE:=by
 unfold jSD
 show (mkF 2 (jSE (jPK 7)) [.cel n,.lst _] h).post _ NE
 refine yFC e (fun q hq=>⟨?_,rfl⟩) fun q hq=>?_
 ·rcases hL q hq with z | ⟨k,z,_⟩
  ·rw [z]; rfl
  ·rw [z]; rfl
 ·rcases hL q hq with z | ⟨k,z,z2⟩
  ·rw [z]
   exact jHE 6 (v:=.lst (gP q.2)) fun x hx=>jXF 4 (yUE q.2 x hx)
  ·rw [z]
   show (mkF 2 (jSE (jPK 6)) [.cel k,.lst _] h).post _ NE
   have:=yFC (m:=jPK 6) (h:=h) (l:=q.2) (f:=tuS) (g:=tuS) z2 (fun _ _=>⟨rfl,rfl⟩) fun l hl=>jHE 5 (jXF 4 (yUE q.2 _ (List.mem_map_of_mem hl)))
   exact this
theorem jWJ:∀ l:List Str,PyData.eqvAll (l.map .str) (l.map .str)=true
 | []=>rfl
 | x :: l=>by
  show (PyData.eqv (.str x) (.str x)&&PyData.eqvAll (l.map .str) (l.map .str))=true
  rw [jYB,decide_eq_true rfl,jWJ l]; rfl
theorem vBK {h:AH} {ws:List Nat}:fNe h (.lst (yQ ws)) (.lst (yQ ws))=some (.bl false):=by
 have ew:yQ ws=(ws.map kZ).map PV.str:=by unfold yQ; rw [List.map_map]; rfl
 have e2:jHS h (.lst (yQ ws))=some (.list ((ws.map kZ).map .str)):=by
  rw [ew]
  show (toDs _).map _=_
  rw [jSU]; rfl
 have o2:dOk (.list ((ws.map kZ).map .str))=true:=jOR (n:=5) (fun d hd=>Nat.le_trans (yFK _ d hd) (by decide)) (by decide)
 have ei:PyData.eqv (.list ((ws.map kZ).map .str)) (.list ((ws.map kZ).map .str))=true:=jWJ _
 unfold fNe
 rw [e2]
 dsimp only
 rw [o2,ei]
 rfl
theorem vEC {P:PV→S→Prop} {E:PV→S→Prop} {s:S} {m:ME} (h:(m s).post (fun _ _=>False) E):(yBQ m s).post P E:=yUL (p_mono h (fun _ _ z=>z.elim) fun _ _ z=>z)
def xW (v:PV):PV:=.ins 2 [.str "InvalidWish", v]
structure OddW (v:PV):Prop where
 own:isOwn v=false
 dp:DPl 6 v
 bad:∀ h,uF [v] h=.exc (xW v) h
 nx:noX v=true
def yUN:List PV:=[.non,.int 3,.str "", .str "Lands", .tup [.str "lands"],.lst [.str "still"]]
theorem vBH:∀ v∈yUN,OddW v:=by
 intro v hv
 unfold yUN at hv
 simp only [List.mem_cons,List.not_mem_nil,or_false] at hv
 have one:∀ (s:Str),∀ y∈[PV.str s],DPl 5 y:=fun s y hy=>by rw [List.mem_singleton.mp hy]; trivial
 rcases hv with rfl | rfl | rfl | rfl | rfl | rfl
 ·exact ⟨rfl,trivial,fun h=>by kernel_rfl,rfl⟩
 ·exact ⟨rfl,trivial,fun h=>by kernel_rfl,rfl⟩
 ·exact ⟨rfl,trivial,fun h=>by kernel_rfl,rfl⟩
 ·exact ⟨rfl,trivial,fun h=>by kernel_rfl,rfl⟩
 ·exact ⟨rfl,one _,fun h=>by kernel_rfl,rfl⟩
 ·exact ⟨rfl,one _,fun h=>by kernel_rfl,rfl⟩
theorem yMP {v:PV} {h:AH} (o:isOwn v=false):jJH ⟨[none,some (.exn 2 [.str "InvalidWish", v])],h⟩=.ok (.rt (.tup [.str "InvalidWish", v])) ⟨[none,some (.exn 2 [.str "InvalidWish", v])],h⟩:=by
 cases v with
 | own xs=>cases o
 | don xs=>cases o
 | _=>kernel_rfl
theorem refused {a:List Nat} {p:SpecW} {h:AH} {v:PV} {rest:List PV} (o:OddW v) (hl:∀ w∈a,w < 6) (hz:a.length+rest.length < 1000):(yG [jBF p,.lst (yQ a++v :: rest)] h).post (fun _ _=>False) (fun x h'=>x=xW v∧h'=h):=by
 unfold yG
 rw [jLB]
 unfold jHH
 have lw:(yQ a).length=a.length:=List.length_map ..
 refine jCW [some (jBF p),some (.lst (yQ a++v :: rest)),none,none,none,none,none,none] rfl ?_
 refine uH (jKJ (jEA (yH rfl ?_)))
 refine ⟨_,rfl,rfl,rfl,by rw [List.length_append,lw,List.length_cons,sizeLine_eq]; omega,jJE (fun j s=>j≤a.length∧∃ y2,s=⟨[some (jBF p),some (.lst (yQ a++v :: rest)),y2,none,none,none,none,none],h⟩) ⟨Nat.zero_le _,_,rfl⟩ (fun j u s ev i=>?_) fun s i=>?_⟩
 ·obtain ⟨hj,y2,rfl⟩:=i
  by_cases hj2:j < a.length
  ·have ev:(yQ a++v :: rest)[j]?=some u:=ev
   rw [List.getElem?_append_left (by rw [lw]; exact hj2)] at ev
   unfold yQ at ev
   rw [List.getElem?_map,List.getElem?_eq_getElem hj2] at ev
   cases ev
   refine ⟨_,rfl,?_⟩
   dsimp only [List.set_cons_succ,List.set_cons_zero]
   refine uJ (uD (yK (yH rfl (vW ⟨⟨rfl,rfl⟩,?_⟩))))
   rw [yAL (hl _ (List.getElem_mem hj2))]
   exact ⟨hj2,_,rfl⟩
  ·have ej:j=a.length:=by omega
   subst ej
   have ev:(yQ a++v :: rest)[a.length]?=some u:=ev
   rw [List.getElem?_append_right (by rw [lw]; exact Nat.le_refl _),lw,Nat.sub_self] at ev
   cases ev
   refine ⟨[some (jBF p),some (.lst (yQ a++v :: rest)),some v,none,none,none,none,none],by show (if isOwn v=true then none else _)=_; rw [o.own]; rfl,?_⟩
   refine uJ (uD (yK (yH rfl (vW ⟨⟨rfl,by unfold vM; rw [List.all_cons,o.own]; rfl⟩,?_⟩))))
   rw [o.bad]
   exact ⟨rfl,rfl⟩
 ·obtain ⟨hj,y2,rfl⟩:=i
  have hj:(yQ a++v :: rest).length≤a.length:=hj
  rw [List.length_append,lw,List.length_cons] at hj
  omega
theorem yML {P:PV→S→Prop} {E:PV→S→Prop} {s:S} {m:ME} {v:PV} (o:OddW v) (h:(m s).post (fun _ _=>False) (fun x s1=>x=xW v∧s1.h=s.h)) (q:P (.tup [.str "InvalidWish", v]) ⟨s.e,s.h⟩):(yDU okc jJH m s).post P E:=by
 refine vDK (p_mono h (fun _ _ z=>z.elim) fun x s1 ⟨e1,e2⟩=>?_)
 refine ⟨2,_,_,_,e1,rfl,yMP o.own,?_,rfl,by rw [e2]; exact q⟩
 show (noX (.str "InvalidWish")&&(noX v&&true))=true
 rw [o.nx]; rfl
def wD:SpecW:=⟨[116,116,116,116,116,116,116,116],[116,116,116,116],false,false,"none"⟩
def wSt:SpecW:=⟨[116,116,116,116,116,116,116,116],[116,116,116,116],true,false,"none"⟩
theorem good1:jIO wD []=[[]]:=by decide +kernel
theorem good2:jIO wD [3]=[[("hidden" : Str)]]:=by decide +kernel
theorem good3:jIO wD [0]=[[("all" : Str)],["drops"]]:=by decide +kernel
theorem good4:jIO wSt [2]=[[("whole" : Str)],["one"],["all"],["numbers"]]:=by decide +kernel
end
end LW
set_option maxHeartbeats 4000000
namespace LW
open PySem PySem.Spec PyProof.Rows L2 Lp
theorem yMA {h h1 xs:AH} {n:Nat} (hn:n < h.length) (b:BagAt h n h1):BagAt (h++xs) n (h1++xs):=by
 obtain ⟨l,hb,rfl⟩:=b
 exact ⟨l,hb,by rw [List.set_append_left _ _ hn]⟩
theorem vCG {h h1 h2:AH} {n:Nat} (hn:n < h.length) (b:BagAt h n h1) (g:Gw h1 h2):∃ g0,n < g0.length∧BagAt g0 n h2:=by
 obtain ⟨z,rfl⟩:=g
 exact ⟨h++z,by rw [List.length_append]; omega,yMA hn b⟩
theorem yJN (a:List Nat):yQ a=(a.map kZ).map PV.str:=by unfold yQ; rw [List.map_map]; rfl
theorem vDW {a:List Nat} {w:Nat} {h:AH}:jIF h (.str (kZ w)) (.lst (yQ a))=some (.bl (!decide (kZ w∈a.map kZ))):=by
 rw [yJN]
 exact (jQX false).2
theorem ySR {P:PV→S→Prop} {E:PV→S→Prop} {p:SpecW} {s:S} {m:ME} (k:p.Ok) (h:(m s).post (fun v s1=>∃ g,v=.cel (s.h.length+g.length)∧s1=⟨s.e,s.h++g++[some (.lst (yQ (jQI.filter (jAQ p))))]⟩) E) (q:∀ g,P (.lst (yQ (jQI.filter (jAQ p)))) ⟨s.e,s.h++g⟩):(yBQ m s).post P E:=by
 refine yUL (p_mono h (fun v s1 ⟨g,e1,e2⟩=>?_) fun _ _ z=>z)
 subst e1 e2
 refine ⟨_,yQ (jQI.filter (jAQ p)),rfl,by omega,?_,?_⟩
 ·rw [List.getElem?_append_right (by rw [List.length_append]; exact Nat.le_refl _),List.length_append,Nat.sub_self]; rfl
 ·have:(s.h++g++[some (Cell.lst (yQ (jQI.filter (jAQ p))))]).set (s.h.length+g.length) none=s.h++(g++[none]):=by
   rw [List.set_append_right _ _ (by rw [List.length_append]; exact Nat.le_refl _),List.length_append,Nat.sub_self,List.append_assoc]; rfl
  rw [this]
  exact q _
theorem yDF {h:AH}:uY [] h=.ok (.lst (yQ jQI)) h:=by kernel_rfl
theorem yLN {p:SpecW} {ws:List Nat} (hw:∀ w∈ws,w < 6) (hk:ws.all (jAQ p)=true):ws.filter (fun w=>!decide (kZ w∈(jQI.filter (jAQ p)).map kZ))=[]:=List.filter_eq_nil_iff.mpr fun w hm=>by
 have h1:=hw w hm
 have h2:w∈jQI:=by
  unfold jQI
  simp only [List.mem_cons,List.not_mem_nil,or_false]
  omega
 have h3:=List.mem_filter.mpr ⟨h2,List.all_eq_true.mp hk w hm⟩
 rw [decide_eq_true (List.mem_map_of_mem h3)]
 exact Bool.false_ne_true
def InvL (ns:List Int) (s:S):Prop:=(∃ ys:List (Option PV),ys.length=13∧s.e=some (.scr (ns.map .int)) :: some (.cel 0) :: ys)∧∃ h0:AH,0 < h0.length∧BagAt h0 0 s.h
theorem exp13 (ys:List (Option PV)) (h:ys.length=13):∃ a b c d e f g i j k l m n,ys=[a,b,c,d,e,f,g,i,j,k,l,m,n] :=
 match ys,h with
 | [a,b,c,d,e,f,g,i,j,k,l,m,n],_=>⟨a,b,c,d,e,f,g,i,j,k,l,m,n,rfl⟩
theorem yLJ (ns:List Int) (h63:ns.length≤63) (hb:∀ z∈ns,Builtin.Int.intBits z≤1048576):∃ h',jQL [.scr (ns.map .int)] []=.ok (.bl true) h':=by
 suffices H:(jQL [.scr (ns.map .int)] []).post (fun v h'=>v=.bl true) NE by
  obtain ⟨v,h',e,rfl⟩:=vEM H
  exact ⟨h',e⟩
 unfold jQL
 rw [yUU]
 unfold yII
 rw [jYC,like_eq,of_eq]
 refine jCW (some (.scr (ns.map .int)) :: List.replicate 14 none) rfl ?_
 (repeat walk_at "p1")
 refine yZ (open_spec h63) fun v h' z=>?_
 obtain ⟨rfl,b⟩:=z
 (repeat walk_at "p1")
 refine jKJ (yCF ?_)
 (repeat walk_at "p1")
 refine ⟨by decide,rfl,rfl,by decide,jJE (fun _ s=>InvL ns s) ?_ (fun j v s e i=>?_) fun s i=>?_⟩
 ·exact ⟨⟨_,rfl,rfl⟩,[none],by decide,b⟩
 ·obtain ⟨turn,_,rfl⟩:=List.mem_map.mp (List.mem_of_getElem? e)
  obtain ⟨⟨ys,hl,he⟩,g0,hg,bg⟩:=i
  obtain ⟨y2,y3,y4,y5,y6,y7,y8,y9,y10,y11,y12,y13,y14,rfl⟩:=exp13 ys hl
  obtain ⟨e0,h0⟩:=s
  simp only at he bg
  subst he
  refine ⟨_,rfl,?_⟩
  dsimp only [List.set_cons_succ,List.set_cons_zero]
  (repeat walk_at "p1")
  refine yZ (yGA hg bg) fun v h' z=>?_
  obtain ⟨⟨p,kp,rfl⟩,bg⟩:=z
  (repeat walk_at "p1")
  refine yZ (yJO kp) fun v h'' z=>?_
  obtain ⟨rfl,rfl⟩:=z
  (repeat walk_at "p1")
  refine jJG (yCF ?_)
  (repeat walk_at "p1")
  refine yZ (jLU hg bg (by decide) (by decide)) fun v h' z=>?_
  obtain ⟨⟨dn,rfl,d0,d5⟩,bg⟩:=z
  (repeat walk_at "p1")
  refine ⟨by omega,rfl,fun j acc hh=>(∃ l:List Nat,l.length=j∧(∀ w∈l,w < 6)∧acc=yQ l)∧BagAt g0 0 hh,⟨⟨[],rfl,nofun,rfl⟩,bg⟩,fun j v acc hh e i=>?_,fun acc hh i=>?_⟩
  ·obtain ⟨q,_,rfl⟩:=List.mem_map.mp (List.mem_of_getElem? e)
   obtain ⟨⟨l,hl,ha,rfl⟩,bb⟩:=i
   refine ⟨_,rfl,yFU (wJ rfl ?_)⟩
   try dsimp only [jP,List.set_cons_succ,List.set_cons_zero]
   refine uD (yK (yH rfl (yK (jRT ⟨⟨rfl,rfl⟩,?_⟩))))
   rw [yDF]
   refine vW ⟨⟨rfl,rfl⟩,yZ (yCH hg bb (xs:=yQ jQI) (by decide) (by decide) rfl) fun v h' z=>?_⟩
   obtain ⟨hv,bb⟩:=z
   obtain ⟨w,hw,rfl⟩:=List.mem_map.mp hv
   refine ⟨rfl,rfl,⟨l++[w],by rw [List.length_append,hl]; rfl,fun u hu=>?_,by unfold yQ; rw [List.map_append]; rfl⟩,bb⟩
   rcases List.mem_append.mp hu with hu | hu
   ·exact ha u hu
   ·rw [List.mem_singleton] at hu
    rw [hu]; exact yEF hw
  obtain ⟨⟨ws,hl5,hw6,rfl⟩,bg⟩:=i
  have hl5:ws.length < 5:=by
   rw [hl5]
   simp only [List.length_map,List.length_range]
   omega
  have hz:ws.length≤1000:=by omega
  have LL:∀ h:AH,(vR [p.v,.lst (yQ ws)] h).post (fun v h'=>v=.lst (gP (jIO p ws))∧h'=h) NE:=fun h=>yBD kp hw6 hz
  have LS:∀ (t:Bool) (h:AH),(yG [jBF p,lsV t (yQ ws)] h).post (fun v h'=>v=.cel h.length∧h'[h.length]?=some (some (.lst (gP (jIO p ws))))∧Gw h h') NE:=fun t h=>jHF kp hw6 hz
  have hG:∀ x∈jIO p ws,x∈jHV∧ws.all (jAQ (jCQ x p))=true:=fun x h=>yLQ h
  have gl:(gP (jIO p ws)).length≤64:=by
   have:=jLY (p:=p) (ws:=ws) (L:=jHV) (g:=[])
   rw [jKO] at this
   have h0:([]:List (List Str)).length=0:=rfl
   unfold gP jIO
   rw [List.length_map]
   omega
  generalize jIO p ws=G at LL LS hG gl
  try dsimp only [jP,List.set_cons_succ,List.set_cons_zero]
  (repeat walk_at "p1")
  refine yZ (LL _) fun v h'' z=>?_
  obtain ⟨rfl,rfl⟩:=z
  (repeat walk_at "p1")
  refine jVL (jNH ?_)
  (repeat walk_at "p1")
  refine yZ (LS false _) fun v h1 z=>?_
  obtain ⟨rfl,c1,g1⟩:=z
  (repeat walk_at "p1")
  refine yZ (LS true _) fun v h2 z=>?_
  obtain ⟨rfl,c2,g2⟩:=z
  (repeat walk_at "p1")
  have g3:Gw h2 (h2++[some (.lst [PV.cel h''.length,PV.cel h1.length])]):=⟨_,rfl⟩
  have c3:(h2++[some (Cell.lst [PV.cel h''.length,PV.cel h1.length])])[h2.length]?=some (some (.lst [PV.cel h''.length,PV.cel h1.length])):=by
   rw [List.getElem?_append_right (Nat.le_refl _),Nat.sub_self]; rfl
  have c1:=g3.at (g2.at c1)
  have c2:=g3.at c2
  have gA:=(g1.trans g2).trans g3
  have hle:=(g1.trans g2).le
  generalize h2++[some (Cell.lst [PV.cel h''.length,PV.cel h1.length])]=hA at c1 c2 c3 gA ⊢
  have hf:=jTL (h:=hA) (n:=h2.length) (L:=[(PV.cel h''.length,G),(PV.cel h1.length,G)]) c3 (fun q hq=>by
   simp only [List.mem_cons,List.not_mem_nil,or_false] at hq
   rcases hq with rfl | rfl
   ·exact .inr ⟨_,rfl,c1⟩
   ·exact .inr ⟨_,rfl,c2⟩)
  refine yZ hf fun v h3 z=>?_
  obtain ⟨rfl,rfl⟩:=z
  (repeat (first | walk_at "p1" | refine ⟨_,vBK,?_⟩))
  refine jWZ (uX (yH rfl (p_c ⟨_,vEQ c3 rfl,?_⟩)))
  have cl:jCI h3 h''.length=some (gP G):=by unfold jCI; rw [c1]
  have ad:jNZ (gP G) .non=some (gP G++[.non]):=by
   unfold jNZ
   rw [if_neg (by rw [sizeLine_eq]; simp [isOwn]; omega)]
  refine ⟨_,_,rfl,cl,p_c ⟨_,_,cl,ad,?_⟩⟩
  have gB:=gA.set (n:=h''.length) (c:=some (.lst (gP G++[.non]))) (Nat.le_refl _)
  generalize h3.set h''.length (some (.lst (gP G++[.non])))=hB at gB ⊢
  refine uH (jKJ (jEA (yH rfl ⟨_,rfl,rfl,rfl,by rw [sizeLine_eq]; show (gP G).length≤_; omega,jJE (fun j s=>∃ y9 y10 y14,s.e=[some (.scr (ns.map .int)),some (.cel 0),some (.int turn),some p.v,some (jBF p),some (.lst (yQ ws)),some (.lst (yQ ws)),some (.lst (gP G)),some (.cel h2.length),y9,y10,y11,y12,none,y14]∧Gw h'' s.h) ⟨_,_,_,rfl,gB⟩ (fun j v s ev i=>?_) fun s i=>?_⟩)))
  ·obtain ⟨y9,y10,y14,he,gw⟩:=i
   obtain ⟨se,sh⟩:=s
   dsimp only at he gw
   subst he
   have ev:(G.map tuS)[j]?=some v:=ev
   obtain ⟨l,hlm,rfl⟩:=List.mem_map.mp (List.mem_of_getElem? ev)
   obtain ⟨hs,hk⟩:=hG l hlm
   obtain ⟨hm,hll⟩:=jXR l hs
   have kml:=jXV (l:=l) kp
   refine ⟨_,rfl,?_⟩
   dsimp only [List.set_cons_succ,List.set_cons_zero]
   refine uH (wL (ySR kml ?_ fun g4=>?_))
   ·refine uD (yK (uD (yK (yH rfl (yK (yH rfl (vW ⟨⟨rfl,rfl⟩,yZ (jQS (t:=true) kp hm hll) fun v h5 z=>?_⟩)))))))
    obtain ⟨rfl,rfl⟩:=z
    exact vW ⟨⟨rfl,rfl⟩,p_mono (yGZ kml) (fun v h' ⟨g,e1,e2⟩=>⟨g,e1,by rw [e2]⟩) fun _ _ z=>z⟩
   refine ⟨rfl,?_⟩
   dsimp only [List.set_cons_succ,List.set_cons_zero]
   refine jAE (jCT (uX (jCU (jMA (α:=Nat) (jEA (yH rfl ⟨_,rfl,rfl,ws,fun w=>.str (kZ w),fun w=>!decide (kZ w∈(jQI.filter (jAQ (jCQ l p))).map kZ),rfl,fun w hw=>⟨rfl,_,rfl,?_⟩,?_⟩))))))
   ·refine jCT (uX (yH rfl (yH rfl ⟨_,vDW,_,rfl,rfl,yH rfl ⟨rfl,rfl,rfl⟩,rfl,rfl⟩)))
   rw [yLN hw6 hk]
   dsimp only [jP,List.set_cons_succ,List.set_cons_zero,List.foldl]
   refine jBE (vW ⟨⟨rfl,Nat.zero_le _⟩,_,rfl,_,rfl,?_⟩)
   refine qC rfl (wB ?_)
   exact ⟨_,_,_,rfl,gw.trans ⟨_,rfl⟩⟩
  obtain ⟨y9,y10,y14,he,gw⟩:=i
  obtain ⟨se,sh⟩:=s
  dsimp only at he gw
  subst he
  obtain ⟨g5,hg5,bg5⟩:=vCG hg bg gw
  refine uH (yCG (jBD ?_))
  have bl:∀ h,jDS h [.lst (yQ ws)]=some (.int (ws.length:Nat)):=fun h=>by
   show some (PV.int ((yQ ws).length:Nat))=_
   unfold yQ
   rw [List.length_map]
  (repeat (first | refine ⟨_,bl _,?_⟩ | walk_at "p1"))
  refine yZ (jLU hg5 bg5 (by omega) (by omega)) fun v h3 z=>?_
  obtain ⟨⟨da,rfl,a0,a5⟩,bg7⟩:=z
  (repeat walk_at "p1")
  refine yZ (yCH hg5 bg7 (xs:=yUN) (Nat.le_of_ble_eq_true rfl) (Nat.le_of_ble_eq_true rfl) rfl) fun v h4 z=>?_
  obtain ⟨hv,bg8⟩:=z
  have ov:=vBH v hv
  have oo:=ov.own
  have lwz:(yQ ws).length=ws.length:=List.length_map ..
  have s1:∀ h,fSl h (.lst (yQ ws)) none (some da)=some (.lst (yQ (ws.take da.toNat))):=fun h=>by
   show some (PV.lst (jIG (yQ ws) none (some da)))=_
   rw [vCC a0 (by rw [lwz]; omega)]
   unfold yQ
   rw [List.map_take]
  have s2:∀ h,fSl h (.lst (yQ ws)) (some da) none=some (.lst (yQ (ws.drop da.toNat))):=fun h=>by
   show some (PV.lst (jIG (yQ ws) (some da) none))=_
   rw [yLU a0 (by rw [lwz]; omega)]
   unfold yQ
   rw [List.map_drop]
  have lt:(yQ (ws.take da.toNat)).length≤5:=by
   unfold yQ
   rw [List.length_map,List.length_take]
   omega
  have ld:(yQ (ws.drop da.toNat)).length≤5:=by
   unfold yQ
   rw [List.length_map,List.length_drop]
   omega
  have a1:∀ h,zH h (.lst (yQ (ws.take da.toNat))) (.lst [v,.str "x"])=some (.lst (yQ (ws.take da.toNat)++[v,.str "x"])):=fun h=>by
   show (if (yQ (ws.take da.toNat)).length+[v,PV.str "x"].length≤sizeLine then _ else _)=_
   rw [if_pos (by rw [sizeLine_eq]; show _+2≤_; omega)]
  have a2:∀ h,zH h (.lst (yQ (ws.take da.toNat)++[v,.str "x"])) (.lst (yQ (ws.drop da.toNat)))=some (.lst (yQ (ws.take da.toNat)++v :: ([.str "x"]++yQ (ws.drop da.toNat)))):=fun h=>by
   show (if (yQ (ws.take da.toNat)++[v,PV.str "x"]).length+(yQ (ws.drop da.toNat)).length≤sizeLine then _ else _)=_
   rw [if_pos (by rw [List.length_append,sizeLine_eq]; show _+2+_≤_; omega)]
   simp
  (repeat (first | refine ⟨⟨by unfold vM; rw [List.all_cons,oo]; rfl,Nat.le_of_ble_eq_true rfl⟩,?_⟩ | refine ⟨⟨rfl,oo⟩,?_⟩ | walk_at "p1"))
  refine ⟨⟨by unfold vM; rw [List.all_cons,List.all_cons,oo]; rfl,Nat.le_of_ble_eq_true rfl⟩,?_⟩
  refine ⟨rfl,[some (.scr (ns.map .int)),some (.cel 0),some (.int turn),some p.v,some (jBF p),some (.lst (yQ ws)),some (.lst (yQ ws)),some (.lst (gP G)),some (.cel h2.length),y9,y10,some (.int da),some v,none,y14],by simp [zR,bindTs,oo,show isOwn (PV.int da)=false from rfl],?_⟩
  refine jAE (qG (jEY (uD (yK (yML ov ?_ ?_)))))
  ·refine vEC ?_
   (repeat (first | refine ⟨_,s1 _,?_⟩ | refine ⟨_,s2 _,?_⟩ | refine ⟨_,a1 _,?_⟩ | refine ⟨_,a2 _,?_⟩ | refine ⟨⟨by unfold vM; rw [List.all_cons,oo]; rfl,Nat.le_of_ble_eq_true rfl⟩,?_⟩ | walk_at "p1"))
   refine p_mono (refused (a:=ws.take da.toNat) (rest:=[.str "x"]++yQ (ws.drop da.toNat)) ov (fun w hw=>hw6 w (List.mem_of_mem_take hw)) ?_) (fun _ _ z=>z) fun x h' z=>z
   rw [List.length_take,List.length_append]
   show _+(1+_) < 1000
   omega
  (repeat (first | refine ⟨⟨rfl,by unfold vM; rw [List.all_cons,List.all_cons,oo]; rfl⟩,?_⟩ | refine ⟨⟨by unfold vM; rw [List.all_cons,List.all_cons,oo]; rfl,Nat.le_of_ble_eq_true rfl⟩,?_⟩ | walk_at "p1"))
  refine yZ (yLI (n:=7) rfl ?_) fun v2 h5 z=>?_
  ·intro y hy
   rcases List.mem_cons.mp hy with rfl | hy
   ·trivial
   ·rw [List.mem_singleton] at hy
    rw [hy]
    exact ov.dp
  obtain ⟨rfl,rfl⟩:=z
  (repeat walk_at "p1")
  exact ⟨⟨_,rfl,rfl⟩,_,hg5,bg8⟩
 ·obtain ⟨⟨ys,hl,he⟩,g0,hg,bg⟩:=i
  obtain ⟨y2,y3,y4,y5,y6,y7,y8,y9,y10,y11,y12,y13,y14,rfl⟩:=exp13 ys hl
  obtain ⟨e0,hh⟩:=s
  simp only at he
  subst he
  have e8:("tttttttt" : Str)=mkS [116,116,116,116,116,116,116,116]:=by decide +kernel
  have e4:("tttt" : Str)=mkS [116,116,116,116]:=by decide +kernel
  have t8:TabC [116,116,116,116,116,116,116,116] 8:=⟨rfl,rfl,fun c hc=>by simp at hc; exact .inl hc⟩
  have t4:TabC [116,116,116,116] 4:=⟨rfl,rfl,fun c hc=>by simp at hc; exact .inl hc⟩
  have kD:wD.Ok:=⟨t8,t4,.inl rfl⟩
  have kS:wSt.Ok:=⟨t8,t4,.inl rfl⟩
  rw [e8,e4]
  refine uH (wL (jVL (jNH (yK ?_))))
  (repeat (first | walk_at "p1" | refine jVJ ?_))
  refine yZ (jIW kD) fun v h2 z=>?_
  obtain ⟨rfl,rfl⟩:=z
  refine ⟨rfl,_,rfl,rfl,?_⟩
  (repeat walk_at "p1")
  refine yZ (jHF (t:=false) (p:=wD) (ws:=[]) kD nofun (Nat.zero_le _)) fun v h1 z=>?_
  obtain ⟨rfl,c1,g1⟩:=z
  (repeat (first | walk_at "p1" | refine jVJ ?_))
  refine yZ (jIW kD) fun v h2 z=>?_
  obtain ⟨rfl,rfl⟩:=z
  refine ⟨rfl,_,rfl,rfl,?_⟩
  (repeat walk_at "p1")
  refine yZ (jHF (t:=false) (p:=wD) (ws:=[3]) kD (by decide) (by decide)) fun v h2 z=>?_
  obtain ⟨rfl,c2,g2⟩:=z
  (repeat (first | walk_at "p1" | refine jVJ ?_))
  refine yZ (jIW kD) fun v h2 z=>?_
  obtain ⟨rfl,rfl⟩:=z
  refine ⟨rfl,_,rfl,rfl,?_⟩
  (repeat walk_at "p1")
  refine yZ (jHF (t:=false) (p:=wD) (ws:=[0]) kD (by decide) (by decide)) fun v h3 z=>?_
  obtain ⟨rfl,c3,g3⟩:=z
  (repeat walk_at "p1")
  have g2:Gw h1 h2:=g2
  have g3:Gw h2 h3:=g3
  rw [good1] at c1
  rw [good2] at c2
  rw [good3] at c3
  have l1:hh.length < h1.length:=(List.getElem?_eq_some_iff.mp c1).1
  have l2:h1.length < h2.length:=(List.getElem?_eq_some_iff.mp c2).1
  have l3:h2.length < h3.length:=(List.getElem?_eq_some_iff.mp c3).1
  have gC:Gw h3 (h3++[some (.lst [PV.cel hh.length,PV.cel h1.length,PV.cel h2.length])]):=⟨_,rfl⟩
  have c4:(h3++[some (Cell.lst [PV.cel hh.length,PV.cel h1.length,PV.cel h2.length])])[h3.length]?=some (some (.lst [PV.cel hh.length,PV.cel h1.length,PV.cel h2.length])):=by
   rw [List.getElem?_append_right (Nat.le_refl _),Nat.sub_self]; rfl
  have c1:=gC.at (g3.at (g2.at c1))
  have c2:=gC.at (g3.at c2)
  have c3:=gC.at c3
  have lC:(h3++[some (Cell.lst [PV.cel hh.length,PV.cel h1.length,PV.cel h2.length])]).length=h3.length+1:=by rw [List.length_append]; rfl
  refine jWZ (yH rfl ⟨_,_,rfl,show jCI _ _=_ by unfold jCI; rw [c4],?_⟩)
  generalize h3++[some (Cell.lst [PV.cel hh.length,PV.cel h1.length,PV.cel h2.length])]=hC at c1 c2 c3 c4 lC ⊢
  refine yUL ?_
  (repeat (first | walk_at "p1" | refine jVJ ?_))
  refine yZ (jIW kS) fun v h4 z=>?_
  obtain ⟨rfl,rfl⟩:=z
  refine ⟨rfl,_,rfl,rfl,?_⟩
  (repeat walk_at "p1")
  refine yZ (jHF (t:=false) (p:=wSt) (ws:=[2]) kS (by decide) (by decide)) fun v h4 z=>?_
  obtain ⟨rfl,c5,g5⟩:=z
  have g5:Gw hC h4:=g5
  refine ⟨_,_,rfl,Nat.le_refl _,c5,?_⟩
  rw [good4]
  have g6:=g5.set (n:=hC.length) (c:=none) (Nat.le_refl _)
  generalize h4.set hC.length none=h5 at g6
  have c1:=g6.at c1
  have c2:=g6.at c2
  have c3:=g6.at c3
  have c4:=g6.at c4
  have cl:jCI h5 h3.length=some [PV.cel hh.length,PV.cel h1.length,PV.cel h2.length]:=by unfold jCI; rw [c4]
  have ad:jNZ [PV.cel hh.length,PV.cel h1.length,PV.cel h2.length] (.lst (gP [[("whole" : Str)],["one"],["all"],["numbers"]]))=some [PV.cel hh.length,PV.cel h1.length,PV.cel h2.length,.lst (gP [[("whole" : Str)],["one"],["all"],["numbers"]])]:=rfl
  refine ⟨_,_,cl,ad,?_⟩
  have z3:h3.length < h5.length:=(List.getElem?_eq_some_iff.mp c4).1
  have ne:∀ {n:Nat} {c:Cell} {d:Option Cell},h5[n]?=some (some c)→n < h3.length→(h5.set h3.length d)[n]?=some (some c):=fun {n c d} e hn=>by
   rw [List.getElem?_set_ne (by omega)]; exact e
  have k1:=ne (d:=some (.lst [PV.cel hh.length,PV.cel h1.length,PV.cel h2.length,.lst (gP [[("whole" : Str)],["one"],["all"],["numbers"]])])) c1 (Nat.lt_trans l1 (Nat.lt_trans l2 l3))
  have k2:=ne (d:=some (.lst [PV.cel hh.length,PV.cel h1.length,PV.cel h2.length,.lst (gP [[("whole" : Str)],["one"],["all"],["numbers"]])])) c2 (Nat.lt_trans l2 l3)
  have k3:=ne (d:=some (.lst [PV.cel hh.length,PV.cel h1.length,PV.cel h2.length,.lst (gP [[("whole" : Str)],["one"],["all"],["numbers"]])])) c3 l3
  have k4:(h5.set h3.length (some (Cell.lst [PV.cel hh.length,PV.cel h1.length,PV.cel h2.length,.lst (gP [[("whole" : Str)],["one"],["all"],["numbers"]])])))[h3.length]?=some (some (.lst [PV.cel hh.length,PV.cel h1.length,PV.cel h2.length,.lst (gP [[("whole" : Str)],["one"],["all"],["numbers"]])])):=List.getElem?_set_self z3
  have hf:=jTL (n:=h3.length) (L:=[(PV.cel hh.length,[[]]),(PV.cel h1.length,[[("hidden" : Str)]]),(PV.cel h2.length,[[("all" : Str)],["drops"]]),(.lst (gP [[("whole" : Str)],["one"],["all"],["numbers"]]),[[("whole" : Str)],["one"],["all"],["numbers"]])]) k4 (fun q hq=>by
   simp only [List.mem_cons,List.not_mem_nil,or_false] at hq
   rcases hq with rfl | rfl | rfl | rfl
   ·exact .inr ⟨_,rfl,k1⟩
   ·exact .inr ⟨_,rfl,k2⟩
   ·exact .inr ⟨_,rfl,k3⟩
   ·exact .inl rfl)
  (repeat walk_at "p1")
  refine yZ hf fun v h6 z=>?_
  obtain ⟨rfl,rfl⟩:=z
  exact ⟨rfl,rfl⟩
end LW
set_option maxHeartbeats 0
theorem PySem.Challenge.cw_latedrops_k40_whole_least_mends_holds : PySem.Challenge.rw_latedrops_k40_whole_least_mends.Holds := by
 exact LW.vDZ LW.yLJ

