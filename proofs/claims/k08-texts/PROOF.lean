import PyProof.Rows.All
import Wide.All
import OpenK.AllK
import Wide.FinOn
import HandS.ForMost
import HandS.Defaults
import HandS.MakeKw
import HandS.MakeKwOnly
import HandS.Exc
import HandS.IsInst
import HandS.Lambda
import HandS.Dict
import KE.KeyNested
import HandS.TupAny
import HandS.TupMul
import HandS.TupLe
import HandS.Style
import HandS.Deep
import HandS.Star
import HandS.Text
import HandS.Zip
import HandS.ExcOwn
import HandS.EndBits
import HandS.Head0
import HandS.Head1
import HandS.Head2
import HandS.HeadEnd
import HandS.HeadHook1
import HandS.HeadHook2
import HandS.ExcInit
import HandS.ExcInitHot
import HandS.Nested
import KE.KExcSuper
import KE.KSuper
import KE.KExcInit
import HandS.ExcField
import HandS.HotCalls
import KE.KTryMore
import HandS.HeadWalk
import HandS.HeadHook3
import KE.KUnpackStar
import HandS.ClsMeth
import KE.SortData
import HandS.Replace
import HandS.FStr
import HandS.OwnEq
import HandS.TupSets
import HandS.NamedTupSort
import HandS.Conv
import KE.KDictDisplayH
import HandS.SortKw
import KE.SortKeyHeap
import KE.KWithOwn
import HandS.Property
import HandS.MethStar
import HandS.DictComp
import KE.KDictCopyH
import KE.GoesEnum
import KE.GoesNew
import KE.GoesZip
import KE.GoesMore
import HandS.Finally
import HandS.ListEq
import OpenK.KOps
import KE.KStateDown
import KE.IntTextLaws
import PySem.Challenge.RW_latedrops_k08_whole_texts_of_deeds
set_option Elab.async false
set_option linter.all false
set_option maxRecDepth 100000
set_option maxHeartbeats 4000000
namespace Lp
open PySem PySem.Spec PyProof.Rows L2
inductive PV where
 | non | bl (b:Bool) | int (i:Int) | str (x:Str)
 | tup (xs:List PV) | lst (xs:List PV) | scr (xs:List PV) | own (xs:List PV)
 | dic (ks:List (PV × PV)) | don (ks:List (PV × PV))
 | ins (c:Nat) (fs:List PV) | cel (n:Nat) | exn (c:Nat) (fs:List PV)
 | ty (n:String) | cls (c:Nat)
mutual
def peq:PV→PV→Bool
 | .non,y=>match y with | .non=>true | _=>false
 | .bl a,y=>match y with | .bl b=>a == b | _=>false
 | .int a,y=>match y with | .int b=>decide (a=b) | _=>false
 | .str a,y=>match y with | .str b=>decide (a=b) | _=>false
 | .tup a,y=>match y with | .tup b=>peqs a b | _=>false
 | .lst a,y=>match y with | .lst b=>peqs a b | _=>false
 | .scr a,y=>match y with | .scr b=>peqs a b | _=>false
 | .own a,y=>match y with | .own b=>peqs a b | _=>false
 | .dic a,y=>match y with | .dic b=>peqp a b | _=>false
 | .don a,y=>match y with | .don b=>peqp a b | _=>false
 | .ins c a,y=>match y with | .ins d b=>decide (c=d)&&peqs a b | _=>false
 | .cel a,y=>match y with | .cel b=>decide (a=b) | _=>false
 | .exn c a,y=>match y with | .exn d b=>decide (c=d)&&peqs a b | _=>false
 | .ty a,y=>match y with | .ty b=>decide (a=b) | _=>false
 | .cls a,y=>match y with | .cls b=>decide (a=b) | _=>false
def peqs:List PV→List PV→Bool
 | [],y=>match y with | []=>true | _=>false
 | a :: r,y=>match y with | b :: t=>peq a b&&peqs r t | _=>false
def peqp:List (PV × PV)→List (PV × PV)→Bool
 | [],y=>match y with | []=>true | _=>false
 | a :: r,y=>match y with | b :: t=>peqq a b&&peqp r t | _=>false
def peqq:PV × PV→PV × PV→Bool
 | (a,b),y=>peq a y.1&&peq b y.2
end
mutual
theorem jTM:∀ (x y:PV),peq x y=true→x=y
 | .non,y,h=>by
  unfold peq at h
  split at h
  ·rfl
  ·cases h
 | .bl a,y,h=>by
  unfold peq at h
  split at h
  ·exact congrArg PV.bl (eq_of_beq h)
  ·cases h
 | .int a,y,h=>by
  unfold peq at h
  split at h
  ·exact congrArg PV.int (of_decide_eq_true h)
  ·cases h
 | .str a,y,h=>by
  unfold peq at h
  split at h
  ·exact congrArg PV.str (of_decide_eq_true h)
  ·cases h
 | .cel a,y,h=>by
  unfold peq at h
  split at h
  ·exact congrArg PV.cel (of_decide_eq_true h)
  ·cases h
 | .ty a,y,h=>by
  unfold peq at h
  split at h
  ·exact congrArg PV.ty (of_decide_eq_true h)
  ·cases h
 | .cls a,y,h=>by
  unfold peq at h
  split at h
  ·exact congrArg PV.cls (of_decide_eq_true h)
  ·cases h
 | .tup a,y,h=>by
  unfold peq at h
  split at h
  ·exact congrArg PV.tup (peqs_of _ _ h)
  ·cases h
 | .lst a,y,h=>by
  unfold peq at h
  split at h
  ·exact congrArg PV.lst (peqs_of _ _ h)
  ·cases h
 | .scr a,y,h=>by
  unfold peq at h
  split at h
  ·exact congrArg PV.scr (peqs_of _ _ h)
  ·cases h
 | .own a,y,h=>by
  unfold peq at h
  split at h
  ·exact congrArg PV.own (peqs_of _ _ h)
  ·cases h
 | .dic a,y,h=>by
  unfold peq at h
  split at h
  ·exact congrArg PV.dic (peqp_of _ _ h)
  ·cases h
 | .don a,y,h=>by
  unfold peq at h
  split at h
  ·exact congrArg PV.don (peqp_of _ _ h)
  ·cases h
 | .ins c a,y,h=>by
  unfold peq at h
  split at h
  ·have h:=Bool.and_eq_true_iff.mp h; rw [of_decide_eq_true h.1,peqs_of _ _ h.2]
  ·cases h
 | .exn c a,y,h=>by
  unfold peq at h
  split at h
  ·have h:=Bool.and_eq_true_iff.mp h; rw [of_decide_eq_true h.1,peqs_of _ _ h.2]
  ·cases h
theorem peqs_of:∀ (x y:List PV),peqs x y=true→x=y
 | [],y,h=>by
  unfold peqs at h
  split at h
  ·rfl
  ·cases h
 | a :: r,y,h=>by
  unfold peqs at h
  split at h
  ·have h:=Bool.and_eq_true_iff.mp h; rw [jTM _ _ h.1,peqs_of _ _ h.2]
  ·cases h
theorem peqp_of:∀ (x y:List (PV × PV)),peqp x y=true→x=y
 | [],y,h=>by
  unfold peqp at h
  split at h
  ·rfl
  ·cases h
 | a :: r,y,h=>by
  unfold peqp at h
  split at h
  ·have h:=Bool.and_eq_true_iff.mp h; rw [peqq_of _ _ h.1,peqp_of _ _ h.2]
  ·cases h
theorem peqq_of:∀ (x y:PV × PV),peqq x y=true→x=y
 | (a,b),y,h=>by
  unfold peqq at h
  have h:=Bool.and_eq_true_iff.mp h
  have h1:=jTM _ _ h.1
  have h2:=jTM _ _ h.2
  rw [h1,h2]
end
mutual
theorem jMG:∀ x:PV,peq x x=true
 | .non=>by unfold peq; rfl
 | .bl a=>by unfold peq; simp
 | .int a=>by unfold peq; exact decide_eq_true rfl
 | .str a=>by unfold peq; exact decide_eq_true rfl
 | .cel a=>by unfold peq; exact decide_eq_true rfl
 | .ty a=>by unfold peq; exact decide_eq_true rfl
 | .cls a=>by unfold peq; exact decide_eq_true rfl
 | .tup a=>by unfold peq; exact peqs_self a
 | .lst a=>by unfold peq; exact peqs_self a
 | .scr a=>by unfold peq; exact peqs_self a
 | .own a=>by unfold peq; exact peqs_self a
 | .dic a=>by unfold peq; exact peqp_self a
 | .don a=>by unfold peq; exact peqp_self a
 | .ins c a=>by unfold peq; exact Bool.and_eq_true_iff.mpr ⟨decide_eq_true rfl,peqs_self a⟩
 | .exn c a=>by unfold peq; exact Bool.and_eq_true_iff.mpr ⟨decide_eq_true rfl,peqs_self a⟩
theorem peqs_self:∀ x:List PV,peqs x x=true
 | []=>by unfold peqs; rfl
 | a :: r=>by unfold peqs; exact Bool.and_eq_true_iff.mpr ⟨jMG a,peqs_self r⟩
theorem peqp_self:∀ x:List (PV × PV),peqp x x=true
 | []=>by unfold peqp; rfl
 | a :: r=>by unfold peqp; exact Bool.and_eq_true_iff.mpr ⟨peqq_self a,peqp_self r⟩
theorem peqq_self:∀ x:PV × PV,peqq x x=true
 | (a,b)=>by unfold peqq; exact Bool.and_eq_true_iff.mpr ⟨jMG a,jMG b⟩
end
instance:DecidableEq PV:=fun a b=>match h:peq a b with
 | true=>.isTrue (jTM _ _ h)
 | false=>.isFalse fun e=>by rw [e,jMG] at h; cases h
inductive Cell where
 | lst (xs:List PV) | dic (ks:List (PV × PV)) | ins (c:Nat) (fs:List PV)
 | dik (ks:List (L2.Key × PV))
def ceq:Cell→Cell→Bool
 | .lst x,.lst y=>peqs x y
 | .dic x,.dic y=>peqp x y
 | .ins c x,.ins d y=>decide (c=d)&&peqs x y
 | .dik x,.dik y=>decide (x=y)
 | _,_=>false
theorem yUT:∀ (a b:Cell),ceq a b=true→a=b
 | .lst x,.lst y,h=>congrArg Cell.lst (peqs_of x y h)
 | .dic x,.dic y,h=>congrArg Cell.dic (peqp_of x y h)
 | .ins c x,.ins d y,h=>by
  have h:=Bool.and_eq_true_iff.mp h
  rw [of_decide_eq_true h.1,peqs_of _ _ h.2]
 | .dik x,.dik y,h=>congrArg Cell.dik (of_decide_eq_true h)
 | .lst _,.dic _,h=>by cases h
 | .lst _,.ins _ _,h=>by cases h
 | .lst _,.dik _,h=>by cases h
 | .dic _,.lst _,h=>by cases h
 | .dic _,.ins _ _,h=>by cases h
 | .dic _,.dik _,h=>by cases h
 | .ins _ _,.lst _,h=>by cases h
 | .ins _ _,.dic _,h=>by cases h
 | .ins _ _,.dik _,h=>by cases h
 | .dik _,.lst _,h=>by cases h
 | .dik _,.dic _,h=>by cases h
 | .dik _,.ins _ _,h=>by cases h
theorem yMV:∀ a:Cell,ceq a a=true
 | .lst x=>peqs_self x
 | .dic x=>peqp_self x
 | .ins c x=>Bool.and_eq_true_iff.mpr ⟨decide_eq_true rfl,peqs_self x⟩
 | .dik x=>decide_eq_true rfl
instance:DecidableEq Cell:=fun a b=>match h:ceq a b with
 | true=>.isTrue (yUT _ _ h)
 | false=>.isFalse fun e=>by rw [e,yMV] at h; cases h
abbrev AH:=List (Option Cell)
structure S where
 e:List (Option PV)
 h:AH
inductive R (τ:Type) (α:Type) where
 | ok (a:α) (s:τ) | exc (x:PV) (s:τ) | bad
def R.bind {τ α β:Type} (r:R τ α) (f:α→τ→R τ β):R τ β:=match r with
 | .ok a s=>f a s
 | .exc x s=>.exc x s
 | .bad=>.bad
@[simp] theorem R.bind_ok {τ α β:Type} (a:α) (s:τ) (f:α→τ→R τ β):(R.ok a s).bind f=f a s:=rfl
@[simp] theorem R.bind_exc {τ α β:Type} (x:PV) (s:τ) (f:α→τ→R τ β):(R.exc x s:R τ α).bind f=.exc x s:=rfl
@[simp] theorem R.bind_bad {τ α β:Type} (f:α→τ→R τ β):(R.bad:R τ α).bind f=.bad:=rfl
def R.post {τ α:Type} (r:R τ α) (P:α→τ→Prop) (E:PV→τ→Prop):Prop:=match r with
 | .ok a s=>P a s
 | .exc x s=>E x s
 | .bad=>False
theorem R.post_bind {τ α β:Type} {r:R τ α} {f:α→τ→R τ β} {P:β→τ→Prop} {E:PV→τ→Prop} (h:(r.bind f).post P E):r.post (fun a s=>(f a s).post P E) E:=by
 cases r with
 | ok a s=>exact h
 | exc x s=>exact h
 | bad=>exact h
theorem R.post_mono {τ α:Type} {r:R τ α} {P P':α→τ→Prop} {E E':PV→τ→Prop} (h:r.post P E) (hp:∀ a s,P a s→P' a s) (he:∀ x s,E x s→E' x s):r.post P' E':=by
 cases r with
 | ok a s=>exact hp _ _ h
 | exc x s=>exact he _ _ h
 | bad=>exact h
structure Bs where
 K:PySem.W.Frag
 cad:Nat→Addr
 fld:Nat→List Str
 T:List (Addr × Str)
 w:World
 xn:Option (Addr × Nat × Addr):=none
structure Wd where
 F:Hp
 m:List Addr
def TupAt (B:Bs) (W:Wd) (a:Addr) (vs:List V):Prop:=W.F a=some (.tup vs) ∨
 ∃ (o:Obj) (its:Array Value) (n:Nat),B.K.lookup a=some o∧o.cls=.type "tuple" ∧ o.data=.seq its n∧its.size≤sizeLine∧Vals vs its.toList
def ScrAt (B:Bs) (W:Wd) (a:Addr) (vs:List V):Prop:=((W.F a=some (.lst vs)∨∃ o,W.F a=some (.frz o (.lst vs)))∧vs.length≤sizeLine) ∨
 ∃ (o:Obj) (its:Array Value) (n:Nat),B.K.lookup a=some o∧o.cls=.type "list" ∧ o.dict=none∧o.data=.seq its n∧its.size≤sizeLine∧Vals vs its.toList
def SOk (x:Str):Prop:=PyData.strOk x=true∧x.length≤sizeLine
mutual
inductive Rep (B:Bs) (W:Wd):PV→V→Prop where
 | non:Rep B W .non .non
 | bl (b:Bool):Rep B W (.bl b) (.bl b)
 | int (i:Int):Rep B W (.int i) (.int i)
 | str (x:Str) (h:SOk x):Rep B W (.str x) (.str x)
 | ty (n:String):Rep B W (.ty n) (.ty n)
 | cls (c:Nat):Rep B W (.cls c) (.ref (B.cad c))
 | cel {n:Nat} {a:Addr} (h:W.m[n]?=some a):Rep B W (.cel n) (.ref a)
 | tup {xs:List PV} {a:Addr} {vs:List V} (h:TupAt B W a vs) (r:Reps B W xs vs):Rep B W (.tup xs) (.ref a)
 | lst {xs:List PV} {a:Addr} {vs:List V} (h:W.F a=some (.lst vs)) (r:Reps B W xs vs):Rep B W (.lst xs) (.ref a)
 | scr {xs:List PV} {a:Addr} {vs:List V} (h:ScrAt B W a vs) (r:Reps B W xs vs):Rep B W (.scr xs) (.ref a)
 | ins {c:Nat} {fs:List PV} {a dx:Addr} {vs:List V} (h:W.F a=some (.ins (B.cad c) dx ((B.fld c).zip vs))) (hl:vs.length≤(B.fld c).length) (r:Reps B W fs vs):Rep B W (.ins c fs) (.ref a)
 | exn {c:Nat} {fs:List PV} {a dd:Addr} {vs:List V} (hx:B.xn=some (a,c,dd)) (h:W.F dd=some (.xd ((B.fld c).zip vs))) (hl:vs.length=(B.fld c).length) (r:Reps B W fs vs):Rep B W (.exn c fs) (.ref a)
inductive Reps (B:Bs) (W:Wd):List PV→List V→Prop where
 | nil:Reps B W [] []
 | cons {x:PV} {v:V} {xs:List PV} {vs:List V} (h:Rep B W x v) (t:Reps B W xs vs):Reps B W (x :: xs) (v :: vs)
end
structure Wd.Le (W W':Wd):Prop where
 F:∀ a o,W.F a=some o→W'.F a=some o
 m:W.m <+: W'.m
theorem Wd.Le.refl (W:Wd):W.Le W:=⟨fun _ _ h=>h,List.prefix_refl _⟩
theorem Wd.Le.trans {W W1 W2:Wd} (a:W.Le W1) (b:W1.Le W2):W.Le W2:=⟨fun c o h=>b.F c o (a.F c o h),a.m.trans b.m⟩
theorem Wd.Le.at {W W':Wd} (l:W.Le W') {n:Nat} {a:Addr} (h:W.m[n]?=some a):W'.m[n]?=some a:=by
 obtain ⟨t,e⟩:=l.m
 rw [← e,List.getElem?_append_left (List.getElem?_eq_some_iff.mp h).1]
 exact h
mutual
theorem Rep.mono {B:Bs} {W W':Wd} (l:W.Le W'):∀ {x:PV} {v:V},Rep B W x v→Rep B W' x v
 | _,_,.non=>.non
 | _,_,.bl b=>.bl b
 | _,_,.int i=>.int i
 | _,_,.str x h=>.str x h
 | _,_,.ty n=>.ty n
 | _,_,.cls c=>.cls c
 | _,_,.cel h=>.cel (l.at h)
 | _,_,.tup h r=>.tup (h.imp (l.F _ _) fun z=>z) (Reps.mono l r)
 | _,_,.lst h r=>.lst (l.F _ _ h) (Reps.mono l r)
 | _,_,.scr h r=>.scr (h.imp (fun ⟨e,z⟩=>⟨e.imp (l.F _ _) fun ⟨o,e⟩=>⟨o,l.F _ _ e⟩,z⟩) fun z=>z) (Reps.mono l r)
 | _,_,.ins h hl r=>.ins (l.F _ _ h) hl (Reps.mono l r)
 | _,_,.exn hx h hl r=>.exn hx (l.F _ _ h) hl (Reps.mono l r)
theorem Reps.mono {B:Bs} {W W':Wd} (l:W.Le W'):∀ {xs:List PV} {vs:List V},Reps B W xs vs→Reps B W' xs vs
 | _,_,.nil=>.nil
 | _,_,.cons h t=>.cons (Rep.mono l h) (Reps.mono l t)
end
section
variable {B:Bs} {W:Wd}
theorem Reps.length:∀ {xs:List PV} {vs:List V},Reps B W xs vs→xs.length=vs.length
 | _,_,.nil=>rfl
 | _,_,.cons _ t=>congrArg Nat.succ (Reps.length t)
theorem Reps.append:∀ {xs ys:List PV} {vs ws:List V},Reps B W xs vs→Reps B W ys ws→Reps B W (xs++ys) (vs++ws)
 | _,_,_,_,.nil,s=>s
 | _,_,_,_,.cons r t,s=>.cons r (Reps.append t s)
theorem Reps.get:∀ {xs:List PV} {vs:List V} {i:Nat} {x:PV},Reps B W xs vs→xs[i]?=some x→∃ v,vs[i]?=some v∧Rep B W x v
 | _,_,_,_,.nil,e=>by simp at e
 | _,_,0,_,.cons r _,e=>by simp at e; subst e; exact ⟨_,rfl,r⟩
 | _,_,i+1,x,.cons _ t,e=>by
  obtain ⟨u,h1,h2⟩:=Reps.get (i:=i) (x:=x) t (by simpa using e)
  exact ⟨u,by simpa using h1,h2⟩
theorem Reps.set {x:PV} {v:V} (r:Rep B W x v):∀ {xs:List PV} {vs:List V} (i:Nat),Reps B W xs vs→Reps B W (xs.set i x) (vs.set i v)
 | _,_,_,.nil=>.nil
 | _,_,0,.cons _ t=>.cons r t
 | _,_,i+1,.cons q t=>.cons q (Reps.set r i t)
theorem Reps.take:∀ {xs:List PV} {vs:List V} (n:Nat),Reps B W xs vs→Reps B W (xs.take n) (vs.take n)
 | _,_,0,_=>.nil
 | _,_,_+1,.nil=>.nil
 | _,_,n+1,.cons r t=>.cons r (Reps.take n t)
theorem Reps.drop:∀ {xs:List PV} {vs:List V} (n:Nat),Reps B W xs vs→Reps B W (xs.drop n) (vs.drop n)
 | _,_,0,r=>r
 | _,_,_+1,.nil=>.nil
 | _,_,n+1,.cons _ t=>Reps.drop n t
theorem Reps.one {x:PV} {v:V} (r:Rep B W x v):Reps B W [x] [v]:=.cons r .nil
theorem Reps.rep {xs:List PV} {vs:List V} (h:Reps B W xs vs):∀ k:Nat,Reps B W (List.replicate k xs).flatten (List.replicate k vs).flatten
 | 0=>.nil
 | k+1=>by
  rw [List.replicate_succ,List.replicate_succ,List.flatten_cons,List.flatten_cons]
  exact h.append (Reps.rep h k)
theorem Reps.reverse:∀ {xs:List PV} {vs:List V},Reps B W xs vs→Reps B W xs.reverse vs.reverse
 | _,_,.nil=>.nil
 | _,_,.cons r t=>by rw [List.reverse_cons,List.reverse_cons]; exact (Reps.reverse t).append (.one r)
end
mutual
def nk:PV→Option NestedKey
 | .non=>some .none
 | .bl b=>some (.num (if b=true then 1 else 0))
 | .int i=>some (.num i)
 | .str x=>some (.text x)
 | .tup xs=>(nks xs).map .tup
 | .lst _=>none
 | .scr _=>none
 | .own _=>none
 | .dic _=>none
 | .don _=>none
 | .ins _ _=>none
 | .cel _=>none
 | .exn _ _=>none
 | .ty _=>none
 | .cls _=>none
def nks:List PV→Option (List NestedKey)
 | []=>some []
 | x :: xs=>match nk x,nks xs with
  | some k,some ks=>some (k :: ks)
  | _,_=>none
end
def DicO (w:World) (a:Addr) (L:List (NestedKey × Addr × Value)):HO:=.ext fun h=>(a == sysModules)=false∧∃ (o:Obj) (es:Array DictEntry) (ep:Nat),h.get? a=some o∧o.ExactDict∧o.data=.dict es ep∧es.toList=L.map (fun x=>⟨x.1.hash w,.ref x.2.1,x.2.2⟩)∧(L.map (·.1)).Nodup
inductive DRel (B:Bs) (W:Wd):List (PV × PV)→List (NestedKey × Addr × Value)→Prop where
 | nil:DRel B W [] []
 | cons {k v:PV} {κ:NestedKey} {b:Addr} {u:Value} {y:V} {ks:List (PV × PV)} {L:List (NestedKey × Addr × Value)} (h1:nk k=some κ) (h2:κ.depth≤8) (h3:Rep B W k (.ref b)) (h4:Rep B W v y) (h5:RelV y u) (t:DRel B W ks L):DRel B W ((k,v) :: ks) ((κ,b,u) :: L)
theorem DRel.mono {B:Bs} {W W':Wd} (l:W.Le W') {ks:List (PV × PV)} {L:List (NestedKey × Addr × Value)} (r:DRel B W ks L):DRel B W' ks L:=by
 induction r with
 | nil=>exact .nil
 | cons h1 h2 h3 h4 h5 _ ih=>exact .cons h1 h2 (h3.mono l) (h4.mono l) h5 ih
theorem yTX {w:World} {a:Addr} {L:List (NestedKey × Addr × Value)}:∀ c q,DicO w a L≠LamX.CodeO c q:=fun c q z=>by
  unfold DicO LamX.CodeO at z
  injection z with z
  have e:=congrFun z ⟨Array.replicate (c+1) { cls:=.none,data:=.fields #[.none,.str q 0] },{}⟩
  have r:∃ (oc:Obj) (vs:Array Value) (t:Tok),Heap.get? ⟨Array.replicate (c+1) { cls:=.none,data:=.fields #[.none,.str q 0] },{}⟩ c=some oc∧oc.data=.fields vs∧vs[1]?=some (.str q t):=by
    refine ⟨{ cls:=.none,data:=.fields #[.none,.str q 0] },_,0,?_,rfl,rfl⟩
    unfold Heap.get?
    simp
  rw [← e] at r
  obtain ⟨_,o,es,ep,h1,_,h3,_⟩:=r
  unfold Heap.get? at h1
  rw [Array.getElem?_replicate] at h1
  by_cases ha:a < c+1
  · rw [if_pos ha] at h1
    cases h1
    cases h3
  · rw [if_neg ha] at h1
    cases h1
def DicR (B:Bs) (W:Wd) (H:Hp) (a:Addr) (ks:List (PV × PV)):Prop:=∃ L,H a=some (DicO B.w a L)∧L.length≤sizeLine∧DRel B W ks L
def DikR (B:Bs) (W:Wd) (H:Hp) (a:Addr) (ks:List (L2.Key × PV)):Prop:=∃ kvs:List (L2.Key × V),H a=some (.dK kvs)∧(ks.map (·.1)=kvs.map (·.1)∧kvs.length≤sizeLine)∧Reps B W (ks.map (·.2)) (kvs.map (·.2))
def Live (W:Wd) (h:AH) (a:Addr):Prop:=∃ (n:Nat) (c:Cell),h[n]?=some (some c)∧W.m[n]?=some a
def CellR (B:Bs) (W:Wd) (H:Hp) (a:Addr):Cell→Prop
 | .lst xs=>∃ vs,H a=some (.lst vs)∧Reps B W xs vs
 | .dic ks=>DicR B W H a ks
 | .dik ks=>DikR B W H a ks
 | .ins c fs=>∃ dx vs,H a=some (.ins (B.cad c) dx ((B.fld c).zip vs))∧vs.length≤(B.fld c).length∧Reps B W fs vs
def SzO:HO→Prop
 | .lst vs=>vs.length≤sizeLine
 | .tup vs=>vs.length≤sizeLine
 | .tbl _=>False
 | _=>True
def NT (o:HO):Prop:=∀ ps,o≠.tbl ps
theorem SzO.nt {o:HO} (h:SzO o):NT o:=fun ps e=>by rw [e] at h; exact h
theorem jBT {vs:List V}:NT (.lst vs):=fun _ z=>nomatch z
theorem yTU {vs:List V}:NT (.tup vs):=fun _ z=>nomatch z
theorem yJM {a b:Addr} {fs:List (Str × V)}:NT (.ins a b fs):=fun _ z=>nomatch z
def FG (o:Option HO):Prop:=∃ u,o=some u∧NT u∧∀ c q,u≠LamX.CodeO c q
theorem FG.ne {o:Option HO} (f:FG o):o≠none:=let ⟨_,e,_⟩:=f; by rw [e]; exact fun z=>nomatch z
theorem FG.lst {o:Option HO} {vs:List V} (e:o=some (.lst vs)):FG o:=⟨_,e,jBT,fun _ _ z=>by unfold LamX.CodeO at z; cases z⟩
structure HRel (B:Bs) (W:Wd) (h:AH) (H:Hp):Prop where
 agree:∀ a o,W.F a=some o→H a=some o
 len:W.m.length=h.length
 nd:W.m.Nodup
 mt:∀ a∈W.m,H a≠none
 hz:∀ a o,H a=some o→NT o→SzO o
 fz:∀ a o,W.F a=some o→NT o
 tb:LamX.Tabs B.T H
 cell:∀ (n:Nat) (c:Cell) (a:Addr),h[n]?=some (some c)→W.m[n]?=some a→W.F a=none∧CellR B W H a c
structure Step (W:Wd) (h:AH) (H:Hp) (W':Wd) (h':AH) (H':Hp):Prop where
 le:W.Le W'
 hl:h.length≤h'.length
 dead:∀ (n:Nat) (c:Cell),n < h.length→h'[n]?=some (some c)→∃ c0,h[n]?=some (some c0)
 keep:∀ a o,H a=some o→NT o→¬ Live W h a→H' a=some o
 tr:∀ a,H' a=none→H a=none
 fgrow:∀ a,W.F a=none→FG (H a)→¬ Live W h a→W'.F a=none
 hm:W'.m.length=h'.length
 mnew:∀ (n:Nat) (a:Addr),h.length≤n→W'.m[n]?=some a→H a=none
section
variable {B:Bs} {W W' W1:Wd} {h h' h1:AH} {H H' H1:Hp}
theorem Step.refl (r:HRel B W h H):Step W h H W h H:=⟨.refl W,Nat.le_refl _,fun n c _ e=>⟨c,e⟩,fun _ _ e _ _=>e,fun _ e=>e,fun _ e _ _=>e,r.len,fun n a hn e=>by
 have:=(List.getElem?_eq_some_iff.mp e).1
 rw [r.len] at this; omega⟩
theorem Live.back (s:Step W h H W1 h1 H1) (r:W.m.length=h.length) {a:Addr} (l:Live W1 h1 a) (e:H a≠none):Live W h a:=by
 obtain ⟨n,c,e1,e2⟩:=l
 by_cases hn:n < h.length
 ·obtain ⟨c0,e0⟩:=s.dead n c hn e1
  have hm:n < W.m.length:=by omega
  have q:=s.le.at (List.getElem?_eq_getElem hm)
  rw [e2] at q
  cases q
  exact ⟨n,c0,e0,List.getElem?_eq_getElem hm⟩
 ·exact absurd (s.mnew n a (by omega) e2) e
theorem Step.trans (r:W.m.length=h.length) (a:Step W h H W1 h1 H1) (b:Step W1 h1 H1 W' h' H'):Step W h H W' h' H' where
 le:=a.le.trans b.le
 hl:=Nat.le_trans a.hl b.hl
 dead:=fun n c hn e=>by
  obtain ⟨c1,e1⟩:=b.dead n c (Nat.lt_of_lt_of_le hn a.hl) e
  exact a.dead n c1 hn e1
 keep:=fun x o e nt nl=>b.keep x o (a.keep x o e nt nl) nt fun l=>nl (l.back a r (by rw [e]; exact fun z=>nomatch z))
 tr:=fun x e=>a.tr x (b.tr x e)
 fgrow:=fun x e ne nl=>b.fgrow x (a.fgrow x e ne nl) (let ⟨u,e1,nt,nx⟩:=ne; ⟨u,a.keep x u e1 nt nl,nt,nx⟩) fun l=>nl (l.back a r ne.ne)
 hm:=b.hm
 mnew:=fun n x hn e=>by
  by_cases h1':h1.length≤n
  ·exact a.tr x (b.mnew n x h1' e)
  ·have hm:n < W1.m.length:=by rw [a.hm]; omega
   have q:=b.le.at (List.getElem?_eq_getElem hm)
   rw [e] at q
   cases q
   exact a.mnew n _ hn (List.getElem?_eq_getElem hm)
end
end Lp
set_option maxHeartbeats 4000000
namespace Lp
open PySem PySem.Spec PyProof.Rows L2
def isOwn:PV→Bool
 | .own _=>true
 | .don _=>true
 | _=>false
def DonR (B:Bs) (W:Wd) (ks:List (PV × PV)) (v:V):Prop:=∃ (a:Addr) (vs:List V) (o:Obj),v=.ref a∧W.F a=some (.frz o (.tup vs))∧o.dict=none∧vs.length≤sizeLine∧Reps B W (ks.map (·.1)) vs
theorem DonR.mono {B:Bs} {W W':Wd} {ks:List (PV × PV)} {v:V} (l:W.Le W') (r:DonR B W ks v):DonR B W' ks v :=
 let ⟨a,vs,o,e1,e2,e3,e4,e5⟩:=r
 ⟨a,vs,o,e1,l.F _ _ e2,e3,e4,e5.mono l⟩
def SlotR (B:Bs) (W:Wd) (H H0:Hp) (x:PV) (v:V):Prop:=match x with
 | .own xs=>∃ a vs,v=.ref a∧H a=some (.lst vs)∧Reps B W xs vs∧W.F a=none∧a∉W.m∧H0 a=none
 | .don ks=>DonR B W ks v
 | x=>Rep B W x v
def RepT (B:Bs) (W:Wd) (H:Hp) (x:PV) (v:V):Prop:=match x with
 | .own xs=>∃ a vs,v=.ref a∧H a=some (.lst vs)∧Reps B W xs vs∧a∉W.m
 | .don ks=>DonR B W ks v
 | x=>Rep B W x v
def RepTs (B:Bs) (W:Wd) (H:Hp):List PV→List V→Prop
 | [],[]=>True
 | x :: xs,v :: vs=>RepT B W H x v∧RepTs B W H xs vs
 | _,_=>False
structure Ent where
 W:Wd
 h:AH
 H:Hp
 len:W.m.length=h.length
 P:Wd
structure Rel (B:Bs) (N:Ent) (W:Wd) (s:S) (σ:L2.St) (H:Hp):Prop where
 hr:HRel B W s.h H
 st:Step N.W N.h N.H W s.h H
 len:σ.length=s.e.length
 env:∀ (i:Nat) (x:PV),s.e[i]?=some (some x)→∃ v,σ[i]?=some (some v)∧SlotR B W H N.H x v
 dis:∀ (i j:Nat) (x y:PV) (a:Addr),i≠j→s.e[i]?=some (some x)→s.e[j]?=some (some y)→isOwn x=true→isOwn y=true→σ[i]?=some (some (.ref a))→σ[j]?=some (some (.ref a))→False
 pin:N.P.Le W
theorem Rep.slot {B:Bs} {W:Wd} {H H0:Hp} {x:PV} {v:V} (r:Rep B W x v):SlotR B W H H0 x v:=by
 cases r <;> (first | exact .non | exact .bl _ | exact .int _ | (rename_i h; exact .str _ h) | exact .ty _ | exact .cls _ | (rename_i h; exact .cel h) | skip)
 ·rename_i h r; exact Rep.tup h r
 ·rename_i h r; exact Rep.lst h r
 ·rename_i h r; exact Rep.scr h r
 ·rename_i h hl r; exact Rep.ins h hl r
 ·rename_i hx h hl r; exact Rep.exn hx h hl r
theorem Rep.hand {B:Bs} {W:Wd} {H:Hp} {x:PV} {v:V} (r:Rep B W x v):RepT B W H x v:=by
 cases r <;> (first | exact .non | exact .bl _ | exact .int _ | (rename_i h; exact .str _ h) | exact .ty _ | exact .cls _ | (rename_i h; exact .cel h) | skip)
 ·rename_i h r; exact Rep.tup h r
 ·rename_i h r; exact Rep.lst h r
 ·rename_i h r; exact Rep.scr h r
 ·rename_i h hl r; exact Rep.ins h hl r
 ·rename_i hx h hl r; exact Rep.exn hx h hl r
theorem SlotR.hand {B:Bs} {W:Wd} {H H0:Hp} {x:PV} {v:V} (r:SlotR B W H H0 x v):RepT B W H x v:=by
 cases x with
 | own xs =>
  obtain ⟨a,vs,e,h,r,_,nm,_⟩:=r
  exact ⟨a,vs,e,h,r,nm⟩
 | don ks=>exact r
 | _=>exact r
theorem RepT.rep {B:Bs} {W:Wd} {H:Hp} {x:PV} {v:V} (r:RepT B W H x v) (o:isOwn x=false):Rep B W x v:=by
 cases x with
 | own xs=>cases o
 | don ks=>cases o
 | _=>exact r
section
variable {B:Bs} {N:Ent} {W W':Wd} {s s':S} {σ:L2.St} {H H':Hp}
theorem Rel.slen (r:Rel B N W s σ H):W.m.length=s.h.length:=r.hr.len
theorem Live.mem {W:Wd} {h:AH} {a:Addr} (l:Live W h a):a∈W.m:=let ⟨_,_,_,e⟩:=l; List.mem_of_getElem? e
theorem Step.notm {W W':Wd} {h h':AH} {H H':Hp} {a:Addr} (st:Step W h H W' h' H') (hl:W.m.length=h.length) (n:a∉W.m) (e:H a≠none):a∉W'.m:=fun z=>by
 obtain ⟨k,e1⟩:=List.mem_iff_getElem?.mp z
 by_cases hk:h.length≤k
 ·exact e (st.mnew k a hk e1)
 ·have hm:k < W.m.length:=by omega
  have q:=st.le.at (List.getElem?_eq_getElem hm)
  rw [e1] at q
  cases q
  exact n (List.getElem_mem hm)
theorem RepT.on {x:PV} {v:V} (hl:W.m.length=s.h.length) (st:Step W s.h H W' s'.h H') (r:RepT B W H x v):RepT B W' H' x v:=by
 cases x with
 | own xs =>
  obtain ⟨a,vs,e,h,r,n⟩:=r
  exact ⟨a,vs,e,st.keep _ _ h jBT fun l=>n l.mem,r.mono st.le,st.notm hl n (by rw [h]; exact fun z=>nomatch z)⟩
 | don ks=>exact DonR.mono st.le r
 | _=>exact Rep.mono st.le r
theorem RepTs.on (hl:W.m.length=s.h.length) (st:Step W s.h H W' s'.h H'):∀ {xs:List PV} {vs:List V},RepTs B W H xs vs→RepTs B W' H' xs vs
 | [],[],_=>trivial
 | x :: xs,v :: vs,⟨h,t⟩=>⟨h.on hl st,RepTs.on hl st t⟩
 | [],_ :: _,h=>h.elim
 | _ :: _,[],h=>h.elim
end
def ExcR (B:Bs) (H0:Hp) (W:Wd) (H:Hp) (x:PV) (cls:Value) (d:Option Addr):Prop :=
 ∃ (c:Nat) (fs:List PV) (dd:Addr) (vs:List V),x=.ins c fs∧cls=.ref (B.cad c)∧d=some dd∧H dd=some (.xd ((B.fld c).zip vs))∧vs.length=(B.fld c).length∧Reps B W fs vs∧(H0 dd=none∧W.F dd=none∧dd∉W.m)
theorem ExcR.old {B:Bs} {H0 H1:Hp} {W:Wd} {H:Hp} {x:PV} {cls:Value} {d:Option Addr} (e:ExcR B H0 W H x cls d) (h:∀ a,H0 a=none→H1 a=none):ExcR B H1 W H x cls d :=
 let ⟨c,fs,dd,vs,a1,a2,a3,a4,a5,a6,a7,a8⟩:=e
 ⟨c,fs,dd,vs,a1,a2,a3,a4,a5,a6,h _ a7,a8⟩
def Nw (H:Hp) (d:Option Addr):Prop:=∀ dd,d=some dd→H dd=none
theorem ExcR.nw {B:Bs} {H0:Hp} {W:Wd} {H:Hp} {x:PV} {cls:Value} {d:Option Addr} (e:ExcR B H0 W H x cls d):Nw H0 d:=fun dd ed=>by
 obtain ⟨c,fs,dd',vs,a1,a2,a3,a4,a5,a6,a7,a8⟩:=e
 rw [a3] at ed
 cases ed
 exact a7
abbrev ME:=S→R S PV
structure StepE (W:Wd) (s:S) (H:Hp) (W':Wd) (s':S) (H':Hp):Prop where
 st:Step W s.h H W' s'.h H'
 eo:∀ (i:Nat) (x:PV),s'.e[i]?=some (some x)→isOwn x=true→s.e[i]?=some (some x)
theorem StepE.refl {B:Bs} {W:Wd} {s:S} {H:Hp} (r:HRel B W s.h H):StepE W s H W s H:=⟨Step.refl r,fun _ _ e _=>e⟩
theorem StepE.trans {W W1 W2:Wd} {s s1 s2:S} {H H1 H2:Hp} (hl:W.m.length=s.h.length) (a:StepE W s H W1 s1 H1) (b:StepE W1 s1 H1 W2 s2 H2):StepE W s H W2 s2 H2:=⟨a.st.trans hl b.st,fun i x e o=>a.eo i x (b.eo i x e o) o⟩
def Post (B:Bs) (N:Ent) (WX:WX) {α:Type} (W:Wd) (s:S) (H:Hp) (σ:L2.St) (r:R S α) (P:α→Wd→S→Hp→Prop):Prop:=r.post
 (fun v s'=>∀ W' H',Rel B N W' s' σ H'→StepE W s H W' s' H'→P v W' s' H')
 (fun x s'=>∀ W' H' cls d,Rel B N W' s' σ H'→StepE W s H W' s' H'→ExcR B N.H W' H' x cls d→Nw H d→WX cls d σ H')
section
variable {B:Bs} {N:Ent} {WX:WX} {α β:Type} {W W1:Wd} {s s1:S} {H H1:Hp} {σ:L2.St}
theorem Post.from {r:R S α} {P:α→Wd→S→Hp→Prop} (hl:W.m.length=s.h.length) (st:StepE W s H W1 s1 H1) (q:Post B N WX W s H σ r P):Post B N WX W1 s1 H1 σ r P :=
 R.post_mono q (fun _ _ q W' H' r' st'=>q W' H' r' (st.trans hl st')) fun _ _ q W' H' cls d r' st' e nw=>q W' H' cls d r' (st.trans hl st') e fun dd ed=>st.st.tr _ (nw dd ed)
theorem Post.mono {r:R S α} {P P':α→Wd→S→Hp→Prop} (q:Post B N WX W s H σ r P) (k:∀ v W' s' H',Rel B N W' s' σ H'→StepE W s H W' s' H'→P v W' s' H'→P' v W' s' H'):Post B N WX W s H σ r P' :=
 R.post_mono q (fun _ _ q W' H' r' st'=>k _ _ _ _ r' st' (q W' H' r' st')) fun _ _ q=>q
theorem Post.bind {r:R S α} {f:α→S→R S β} {P:β→Wd→S→Hp→Prop} (hl:W.m.length=s.h.length) (q:Post B N WX W s H σ (r.bind f) P):Post B N WX W s H σ r fun v W' s' H'=>Post B N WX W' s' H' σ (f v s') P :=
 R.post_mono (R.post_bind q) (fun _ _ q W' H' r' st'=>Post.from hl st' q) fun _ _ q=>q
theorem Post.ok {v:α} {P:α→Wd→S→Hp→Prop} (r:Rel B N W s σ H) (q:Post B N WX W s H σ (.ok v s) P):P v W s H:=q W H r (StepE.refl r.hr)
end
def tE (B:Bs) (N:Ent) (WX:WX) (m:ME):TE:=fun σ H Q=>∃ W s,Rel B N W s σ H∧Post B N WX W s H σ (m s) fun v W' _ H'=>∀ v',RepT B W' H' v v'→Q v' H'
def tT (B:Bs) (N:Ent) (WX:WX) (m:S→R S Bool):TT:=fun σ H Q=>∃ W s,Rel B N W s σ H∧Post B N WX W s H σ (m s) fun v _ _ H'=>Q v H'
def tA (B:Bs) (N:Ent) (WX:WX) (m:S→R S (List PV)):TA:=fun σ H Q=>∃ W s,Rel B N W s σ H∧Post B N WX W s H σ (m s) fun v W' _ H'=>∀ v',RepTs B W' H' v v'→Q v' H'
abbrev SimE (X:Cx) (B:Bs) (N:Ent) (WX:WX) (e:Expr) (m:ME):Prop:=PE X e (tE B N WX m)
abbrev SimT (X:Cx) (B:Bs) (N:Ent) (WX:WX) (e:Expr) (m:S→R S Bool):Prop:=PT X e (tT B N WX m)
abbrev SimW (X:Cx) (B:Bs) (N:Ent) (WX:WX) (e:Expr) (m:S→R S Bool):Prop:=PW X e (tT B N WX m)
abbrev SimA (X:Cx) (B:Bs) (N:Ent) (WX:WX) (es:List Expr) (m:S→R S (List PV)):Prop:=PA X es (tA B N WX m)
theorem _root_.L2.PE.imp {X:Cx} {e:Expr} {t t':TE} (h:PE X e t) (w:∀ σ H Q,t' σ H Q→t σ H Q):PE X e t':=⟨fun pins s σ H Q I q=>h.run pins s σ H Q I (w _ _ _ q)⟩
theorem _root_.L2.PT.imp {X:Cx} {e:Expr} {t t':TT} (h:PT X e t) (w:∀ σ H Q,t' σ H Q→t σ H Q):PT X e t':=⟨fun pins s σ H Q I q=>h.run pins s σ H Q I (w _ _ _ q)⟩
theorem _root_.L2.PW.imp {X:Cx} {e:Expr} {t t':TT} (h:PW X e t) (w:∀ σ H Q,t' σ H Q→t σ H Q):PW X e t':=⟨fun wh pins s σ H Q I q=>h.run wh pins s σ H Q I (w _ _ _ q)⟩
theorem _root_.L2.PA.imp {X:Cx} {e:List Expr} {t t':TA} (h:PA X e t) (w:∀ σ H Q,t' σ H Q→t σ H Q):PA X e t':=⟨fun p pins s σ H Q I q=>h.run p pins s σ H Q I (w _ _ _ q)⟩
theorem _root_.L2.PS.imp {X:Cx} {e:Stmt} {t t':TS} (h:PS X e t) (w:∀ D σ H,t' D σ H→t D σ H):PS X e t':=⟨fun pins s σ H D I q=>h.run pins s σ H D I (w _ _ _ q)⟩
theorem _root_.L2.PSs.imp {X:Cx} {e:List Stmt} {t t':TS} (h:PSs X e t) (w:∀ D σ H,t' D σ H→t D σ H):PSs X e t':=⟨fun pins s σ H D I q=>h.run pins s σ H D I (w _ _ _ q)⟩
def jG (i:Nat):ME:=fun s=>match s.e[i]? with
 | some (some v)=>.ok v s
 | _=>.bad
def eC (v:PV):ME:=fun s=>.ok v s
section
variable {X:Cx} {B:Bs} {N:Ent} {WX:WX}
theorem jB {i:Nat} {x:Str} {pos:Pos} (hN:X.N[i]?=some x) (hv:Vis X.env.scope x) (hd:(x == ("__debug__" : Str))=false) (hcd:(x == ("__classdict__" : Str))=false):SimE X B N WX (.Name x pos) (jG i) :=
 (pe_var hN hv hd hcd).imp fun σ H Q ⟨W,s,r,h⟩=>by
  unfold jG at h
  split at h
  ·rename_i v e
   obtain ⟨v',e',sl⟩:=r.env i v e
   exact ⟨v',e',h.ok r v' sl.hand⟩
  ·exact h.elim
theorem jSC {e:Expr} {x:PV} {v:V} (h:PE X e (tC v)) (rx:∀ W,Rep B W x v):SimE X B N WX e (eC x) :=
 h.imp fun σ H Q ⟨W,s,r,h⟩=>h.ok r v (rx W).hand
theorem jH {i:Int} {j pos}:SimE X B N WX (.Constant (.int i) j pos) (eC (.int i)):=jSC pe_int fun _=>.int i
theorem jEE {b:Bool} {j pos}:SimE X B N WX (.Constant (.bool b) j pos) (eC (.bl b)):=jSC pe_bl fun _=>.bl b
theorem vA {j pos}:SimE X B N WX (.Constant .none j pos) (eC .non):=jSC pe_non fun _=>.non
theorem jR {x:Str} {j pos} (h:SOk x):SimE X B N WX (.Constant (.str x) j pos) (eC (.str x)):=jSC pe_str fun _=>.str x h
end
def jM (f:AH→PV→PV→Option PV) (a b:ME):ME:=fun s=>(a s).bind fun x s1=>(b s1).bind fun y s2=>match f s2.h x y with
 | some z=>.ok z s2
 | none=>.bad
section
variable {X:Cx} {B:Bs} {N:Ent} {WX:WX} {a b:Expr} {ma mb:ME} {pos:Pos}
theorem two {f:PV→PV→S→R S PV} {σ:L2.St} {H:Hp} {Q:VK} (h:tE B N WX (fun s=>(ma s).bind fun x s1=>(mb s1).bind fun y s2=>f x y s2) σ H Q) {k:V→V→Hp→Prop}
  (hk:∀ W2 s2 H2 x y x' y',Rel B N W2 s2 σ H2→RepT B W2 H2 x x'→RepT B W2 H2 y y'→Post B N WX W2 s2 H2 σ (f x y s2) (fun u W' _ H'=>∀ u',RepT B W' H' u u'→Q u' H')→k x' y' H2) :
  tE B N WX ma σ H fun x' H1=>tE B N WX mb σ H1 fun y' H2=>k x' y' H2:=by
 obtain ⟨W,s,r,h⟩:=h
 refine ⟨W,s,r,(h.bind r.slen).mono fun x W1 s1 H1 r1 _ q x' rx=>⟨W1,s1,r1,(q.bind r1.slen).mono fun y W2 s2 H2 r2 st2 q y' ry=>?_⟩⟩
 exact hk W2 s2 H2 x y x' y' r2 (rx.on r1.slen st2.st) ry q
end
def asL (h:AH):PV→Option (List PV)
 | .lst xs=>some xs
 | .own xs=>some xs
 | .scr xs=>some xs
 | .cel n=>match h[n]? with
  | some (some (.lst xs))=>some xs
  | _=>none
 | _=>none
def tru (h:AH):PV→Option Bool
 | .non=>some false
 | .bl b=>some b
 | .int i=>some (i != 0)
 | .str x=>some ((x.length:Int) != 0)
 | .tup xs=>some (!xs.isEmpty)
 | x=>(asL h x).map fun xs=>!xs.isEmpty
section
variable {X:Cx} {B:Bs} {N:Ent} {WX:WX} {W:Wd} {h:AH} {H:Hp}
theorem jIW (hr:HRel B W h H) {x:PV} {x':V} {xs:List PV} (rx:RepT B W H x x') (e:asL h x=some xs):∃ a vs,x'=.ref a∧SqL B.K H a vs∧Reps B W xs vs:=by
 cases x with
 | lst ys =>
  cases e
  cases (show Rep B W (.lst _) x' from rx) with
  | lst h r=>exact ⟨_,_,rfl,.inl (.inl (hr.agree _ _ h)),r⟩
 | scr ys =>
  cases e
  cases (show Rep B W (.scr _) x' from rx) with
  | scr h r=>exact ⟨_,_,rfl,h.imp (fun ⟨e,_⟩=>e.imp (hr.agree _ _) fun ⟨o,e⟩=>⟨o,hr.agree _ _ e⟩) fun z=>z,r⟩
 | own ys =>
  cases e
  obtain ⟨a,vs,rfl,h,r,_⟩:=rx
  exact ⟨a,vs,rfl,.inl (.inl h),r⟩
 | cel n =>
  cases (show Rep B W (.cel n) x' from rx) with
  | cel h1 =>
   unfold asL at e
   dsimp only at e
   split at e
   ·rename_i ys q
    cases e
    obtain ⟨_,vs,h2,r⟩:=hr.cell n _ _ q h1
    exact ⟨_,vs,rfl,.inl (.inl h2),r⟩
   ·cases e
 | _=>cases e
theorem jQG (hr:HRel B W h H) {x:PV} {x':V} {xs:List PV} (rx:RepT B W H x x') (e:asL h x=some xs):xs.length≤sizeLine:=by
 cases x with
 | lst ys =>
  cases e
  cases (show Rep B W (.lst _) x' from rx) with
  | lst h r=>rw [r.length]; exact hr.hz _ _ (hr.agree _ _ h) jBT
 | scr ys =>
  cases e
  cases (show Rep B W (.scr _) x' from rx) with
  | scr h r =>
   rw [r.length]
   rcases h with ⟨_,z⟩ | ⟨o,its,n,_,_,_,_,z,q⟩
   ·exact z
   ·rw [q.length,Array.length_toList]; exact z
 | own ys =>
  cases e
  obtain ⟨a,vs,rfl,h,r,_⟩:=rx
  rw [r.length]; exact hr.hz _ _ h jBT
 | cel n =>
  cases (show Rep B W (.cel n) x' from rx) with
  | cel h1 =>
   unfold asL at e
   dsimp only at e
   split at e
   ·rename_i ys q
    cases e
    obtain ⟨_,vs,h2,r⟩:=hr.cell n _ _ q h1
    rw [r.length]; exact hr.hz _ _ h2 jBT
   ·cases e
 | _=>cases e
theorem jKT (hK:X.K=B.K) {a:Addr} {vs:List V} (h:SqL B.K H a vs):SqL X.K H a vs:=hK ▸ h
theorem jFC (hK:X.K=B.K) (hr:HRel B W h H) {x':V} {xs:List PV} (rx:Rep B W (.tup xs) x'):∃ a vs,x'=.ref a∧SqT X.K H a vs∧Reps B W xs vs:=by
 cases rx with
 | tup h r =>
  refine ⟨_,_,rfl,?_,r⟩
  rcases h with h | ⟨o,its,n,h1,h2,h3,h4,h5⟩
  ·exact .inl (.inl (hr.agree _ _ h))
  ·exact .inr ⟨o,its,n,hK ▸ h1,h2,h3,h4,h5⟩
theorem jXQ {xs:List PV} {vs:List V} (r:Reps B W xs vs):(!xs.isEmpty)=!vs.isEmpty:=by
 cases r <;> rfl
theorem yNM (hK:X.K=B.K) (hr:HRel B W h H) {x:PV} {x':V} {b:Bool} (rx:RepT B W H x x') (e:tru h x=some b):TruV X.K x' H b:=by
 have fin:∀ xs,asL h x=some xs→b=!xs.isEmpty→TruV X.K x' H b:=fun xs e1 e2=>by
  obtain ⟨a,vs,rfl,h1,r⟩:=jIW hr rx e1
  exact .inl ⟨vs,jKT hK h1,by rw [e2,jXQ r]⟩
 cases x with
 | non=>cases (show Rep B W .non x' from rx); cases e; exact rfl
 | bl c=>cases (show Rep B W (.bl c) x' from rx); cases e; exact rfl
 | int i=>cases (show Rep B W (.int i) x' from rx); cases e; exact rfl
 | str y =>
  cases (show Rep B W (.str y) x' from rx) with
  | str _ hy =>
   cases e
   exact ⟨hy.2,rfl⟩
 | tup xs =>
  obtain ⟨a,vs,rfl,h1,r⟩:=jFC hK hr (show Rep B W (.tup xs) x' from rx)
  cases e
  exact .inr (.inl ⟨vs,h1,jXQ r⟩)
 | lst ys=>cases e; exact fin ys rfl rfl
 | scr ys=>cases e; exact fin ys rfl rfl
 | own ys=>cases e; exact fin ys rfl rfl
 | cel n =>
  have e':(asL h (.cel n)).map (fun xs=>!xs.isEmpty)=some b:=e
  cases q:asL h (.cel n) with
  | none=>rw [q] at e'; cases e'
  | some xs =>
   rw [q] at e'
   cases e'
   exact fin xs q rfl
 | _=>cases e
end
def tM (m:ME):S→R S Bool:=fun s=>(m s).bind fun v s1=>match tru s1.h v with
 | some b=>.ok b s1
 | none=>.bad
def andM (a b:S→R S Bool):S→R S Bool:=fun s=>(a s).bind fun c s1=>if c=true then b s1 else .ok false s1
def orM (a b:S→R S Bool):S→R S Bool:=fun s=>(a s).bind fun c s1=>if c=true then .ok true s1 else b s1
def jIP (a:S→R S Bool):S→R S Bool:=fun s=>(a s).bind fun c s1=>.ok (!c) s1
def ifM (c:S→R S Bool) (a b:ME):ME:=fun s=>(c s).bind fun k s1=>if k=true then a s1 else b s1
def bM (m:ME):S→R S Bool:=fun s=>(m s).bind fun v s1=>match v with
 | .bl b=>.ok b s1
 | _=>.bad
section
variable {X:Cx} {B:Bs} {N:Ent} {WX:WX} {a b c:Expr} {rest:List Expr} {ma mb:ME} {ta tb:S→R S Bool} {pos:Pos}
theorem uC (hK:X.K=B.K) (ha:SimE X B N WX a ma) (he:∀ whole,isTrue a X.env whole=(do let v ← whole; standAt a.pos; holding [v] (truthy v))):SimT X B N WX a (tM ma) :=
 (pt_truth ha he).imp fun σ H Q ⟨W,s,r,h⟩=>⟨W,s,r,(h.bind r.slen).mono fun v W1 s1 H1 r1 _ q v' rv=>by
  split at q
  ·rename_i k e
   exact ⟨k,yNM hK r1.hr rv e,q.ok r1⟩
  ·exact q.elim⟩
theorem yQR {ma:ME} {σ:L2.St} {H:Hp} {Q:Bool→Hp→Prop} (h:tT B N WX (bM ma) σ H Q):tE B N WX ma σ H fun x H1=>∃ c,x=.bl c∧Q c H1:=by
 obtain ⟨W,s,r,h⟩:=h
 refine ⟨W,s,r,(h.bind r.slen).mono fun v W1 s1 H1 r1 _ q v' rv=>?_⟩
 cases v with
 | bl c =>
  cases (show Rep B W1 (.bl c) v' from rv)
  exact ⟨c,rfl,q.ok r1⟩
 | _=>exact q.elim
theorem yNP {σ:L2.St} {H:Hp} {Q:Bool→Hp→Prop} (h:tT B N WX (andM ta tb) σ H Q):tAnd (tT B N WX ta) (tT B N WX tb) σ H Q:=by
 obtain ⟨W,s,r,h⟩:=h
 refine ⟨W,s,r,(h.bind r.slen).mono fun c W1 s1 H1 r1 _ q=>?_⟩
 cases c with
 | true=>exact iteT ⟨W1,s1,r1,q⟩
 | false=>exact iteF (q.ok r1)
theorem yRV {σ:L2.St} {H:Hp} {Q:Bool→Hp→Prop} (h:tT B N WX (orM ta tb) σ H Q):tOr (tT B N WX ta) (tT B N WX tb) σ H Q:=by
 obtain ⟨W,s,r,h⟩:=h
 refine ⟨W,s,r,(h.bind r.slen).mono fun c W1 s1 H1 r1 _ q=>?_⟩
 cases c with
 | true=>exact iteT (q.ok r1)
 | false=>exact iteF ⟨W1,s1,r1,q⟩
theorem jDL (ha:SimT X B N WX a ta):SimW X B N WX (.BoolOp .And [a] pos) ta:=pw_and1 ha
theorem qX (ha:SimT X B N WX a ta):SimW X B N WX (.BoolOp .Or [a] pos) ta:=pw_or1 ha
theorem jFF (ha:SimT X B N WX a ta) (hb:SimW X B N WX (.BoolOp .And (b :: rest) pos) tb):SimW X B N WX (.BoolOp .And (a :: b :: rest) pos) (andM ta tb):=(pw_and ha hb).imp fun _ _ _ h=>yNP h
theorem wW (ha:SimT X B N WX a ta) (hb:SimW X B N WX (.BoolOp .Or (b :: rest) pos) tb):SimW X B N WX (.BoolOp .Or (a :: b :: rest) pos) (orM ta tb):=(pw_or ha hb).imp fun _ _ _ h=>yRV h
theorem vU {op:BoolOp} {es:List Expr} (h:SimW X B N WX (.BoolOp op es pos) ta):SimT X B N WX (.BoolOp op es pos) ta:=h.pt
theorem qY (ha:SimT X B N WX a ta):SimT X B N WX (.UnaryOp .Not a pos) (jIP ta):=(pt_not ha).imp fun σ H Q ⟨W,s,r,h⟩=>⟨W,s,r,(h.bind r.slen).mono fun c W1 s1 H1 r1 _ q=>q.ok r1⟩
theorem vJ (hc:SimT X B N WX c ta) (ha:SimE X B N WX a ma) (hb:SimE X B N WX b mb):SimE X B N WX (.IfExp c a b pos) (ifM ta ma mb) :=
 (pe_ifExp hc ha hb).imp fun σ H Q ⟨W,s,r,h⟩=>⟨W,s,r,(h.bind r.slen).mono fun k W1 s1 H1 r1 _ q=>by
  cases k with
  | true=>exact iteT ⟨W1,s1,r1,q⟩
  | false=>exact iteF ⟨W1,s1,r1,q⟩⟩
def jGK (a b:ME):ME:=fun s=>(a s).bind fun v s1=>match v with
 | .bl true=>b s1
 | .bl false=>.ok (.bl false) s1
 | _=>.bad
def orV (a b:ME):ME:=fun s=>(a s).bind fun v s1=>match v with
 | .bl true=>.ok (.bl true) s1
 | .bl false=>b s1
 | _=>.bad
def yHS (a:ME):ME:=fun s=>(a s).bind fun v s1=>match v with
 | .bl k=>.ok (.bl (!k)) s1
 | _=>.bad
theorem jDR {op:BoolOp} (ha:SimE X B N WX a ma):SimE X B N WX (.BoolOp op [a] pos) ma:=pe_one ha
theorem jBK (ha:SimE X B N WX a ma) (hb:SimE X B N WX (.BoolOp .And (b :: rest) pos) mb):SimE X B N WX (.BoolOp .And (a :: b :: rest) pos) (jGK ma mb) :=
 (pe_and ha hb).imp fun σ H Q ⟨W,s,r,h⟩=>⟨W,s,r,(h.bind r.slen).mono fun v W1 s1 H1 r1 _ q v' rv=>by
  cases v with
  | bl k =>
   cases (show Rep B W1 (.bl k) v' from rv)
   cases k with
   | true=>exact ⟨true,rfl,iteT ⟨W1,s1,r1,q⟩⟩
   | false=>exact ⟨false,rfl,iteF (q.ok r1 _ (Rep.bl false).hand)⟩
  | _=>exact q.elim⟩
theorem yRZ (ha:SimE X B N WX a ma) (hb:SimE X B N WX (.BoolOp .Or (b :: rest) pos) mb):SimE X B N WX (.BoolOp .Or (a :: b :: rest) pos) (orV ma mb) :=
 (pe_or ha hb).imp fun σ H Q ⟨W,s,r,h⟩=>⟨W,s,r,(h.bind r.slen).mono fun v W1 s1 H1 r1 _ q v' rv=>by
  cases v with
  | bl k =>
   cases (show Rep B W1 (.bl k) v' from rv)
   cases k with
   | true=>exact ⟨true,rfl,iteT (q.ok r1 _ (Rep.bl true).hand)⟩
   | false=>exact ⟨false,rfl,iteF ⟨W1,s1,r1,q⟩⟩
  | _=>exact q.elim⟩
theorem yDM (ha:SimE X B N WX a ma):SimE X B N WX (.UnaryOp .Not a pos) (yHS ma) :=
 (pe_not ha).imp fun σ H Q ⟨W,s,r,h⟩=>⟨W,s,r,(h.bind r.slen).mono fun v W1 s1 H1 r1 _ q v' rv=>by
  cases v with
  | bl k =>
   cases (show Rep B W1 (.bl k) v' from rv)
   exact ⟨k,rfl,q.ok r1 _ (Rep.bl (!k)).hand⟩
  | _=>exact q.elim⟩
end
end Lp
set_option maxHeartbeats 4000000
namespace Lp
open PySem PySem.Spec PyProof.Rows L2
inductive Grow:Wd→Hp→Wd→Hp→Prop where
 | refl (W:Wd) (H:Hp):Grow W H W H
 | new {W:Wd} {H:Hp} {p:Addr} {o:HO} (hp:H p=none) (ho:SzO o):Grow W H ⟨upd W.F p o,W.m⟩ (upd H p o)
section
variable {B:Bs} {N:Ent} {W W':Wd} {h:AH} {s:S} {σ:L2.St} {H H':Hp} {p:Addr} {o:HO}
theorem HRel.fnone (r:HRel B W h H) (hp:H p=none):W.F p=none:=by
 cases e:W.F p with
 | none=>rfl
 | some o=>rw [r.agree _ _ e] at hp; cases hp
theorem jCN (hF:W.F p=none):W.Le ⟨upd W.F p o,W.m⟩:=⟨fun a u e=>by
 show upd W.F p o a=some u
 rw [upd_ne (ne_of_none e hF)]; exact e,List.prefix_refl _⟩
theorem CellR.mono {c:Cell} {a:Addr} (l:W.Le W') (hH:∀ u,H a=some u→H' a=some u) (r:CellR B W H a c):CellR B W' H' a c:=by
 cases c with
 | lst xs=>obtain ⟨vs,h1,h2⟩:=r; exact ⟨vs,hH _ h1,h2.mono l⟩
 | dic ks=>obtain ⟨L,h1,h2,h3⟩:=r; exact ⟨L,hH _ h1,h2,h3.mono l⟩
 | dik ks=>obtain ⟨L,h1,h2,h3⟩:=r; exact ⟨L,hH _ h1,h2,h3.mono l⟩
 | ins c fs=>obtain ⟨dx,vs,h1,h2,h3⟩:=r; exact ⟨dx,vs,hH _ h1,h2,h3.mono l⟩
theorem jXE {T:List (Addr × Str)} (t:LamX.Tabs T H) (hp:H p=none):LamX.Tabs T (upd H p o):=t.ext fun b u e=>by rw [upd_ne (ne_of_none e hp)]; exact e
theorem jLW {T:List (Addr × Str)} {a:Addr} {o0:HO} (t:LamX.Tabs T H) (ha:H a=some o0) (nt:NT o0) (nc:∀ c q,o0≠LamX.CodeO c q):LamX.Tabs T (upd H a o):=fun p hp=>by
 obtain ⟨ps,h1,h2,h3⟩:=t p hp
 refine ⟨ps,by rw [upd_ne fun z=>nt ps (by rw [z,ha] at h1; exact Option.some.inj h1)]; exact h1,h2,fun pos cv hc=>?_⟩
 obtain ⟨c,e1,e2⟩:=h3 pos cv hc
 exact ⟨c,e1,by rw [upd_ne fun z=>nc c p.2 (by rw [z,ha] at e2; rw [z]; exact Option.some.inj e2)]; exact e2⟩
theorem yJP {vs:List V}:∀ c q,HO.lst vs≠LamX.CodeO c q:=fun c q z=>by unfold LamX.CodeO at z; cases z
theorem yWI {ks:List (L2.Key × V)}:∀ c q,HO.dK ks≠LamX.CodeO c q:=fun c q z=>by unfold LamX.CodeO at z; cases z
theorem yRA {ks:List (L2.Key × V)}:NT (.dK ks):=fun _ z=>nomatch z
theorem yJN {w:World} {a:Addr} {L:List (NestedKey × Addr × Value)}:NT (DicO w a L):=fun _ z=>by unfold DicO at z; cases z
theorem yTW {a b:Addr} {fs:List (Str × V)}:∀ c q,HO.ins a b fs≠LamX.CodeO c q:=fun c q z=>by unfold LamX.CodeO at z; cases z
theorem yMH (r:HRel B W h H) (hp:H p=none) (ho:SzO o):HRel B ⟨upd W.F p o,W.m⟩ h (upd H p o):=by
 have hF:=r.fnone hp
 refine ⟨fun a u e=>?_,r.len,r.nd,fun a hm=>?_,fun a u e nt=>?_,fun a u e=>?_,jXE r.tb hp,fun n c a e1 e2=>?_⟩
 ·by_cases ha:a=p
  ·subst ha
   have e:upd W.F a o a=some u:=e
   rw [upd_same] at e
   rw [upd_same]; exact e
  ·have e:upd W.F p o a=some u:=e
   rw [upd_ne ha] at e
   rw [upd_ne ha]; exact r.agree _ _ e
 ·have ha:a≠p:=fun z=>r.mt a hm (by rw [z]; exact hp)
  rw [upd_ne ha]; exact r.mt a hm
 ·by_cases ha:a=p
  ·rw [ha,upd_same] at e
   cases e
   exact ho
  ·rw [upd_ne ha] at e
   exact r.hz a u e nt
 ·by_cases ha:a=p
  ·have e:upd W.F p o a=some u:=e
   rw [ha,upd_same] at e
   cases e
   exact ho.nt
  ·have e:upd W.F p o a=some u:=e
   rw [upd_ne ha] at e
   exact r.fz a u e
 ·obtain ⟨h1,h2⟩:=r.cell n c a e1 e2
  have ha:a≠p:=by
   cases c with
   | lst xs=>obtain ⟨vs,h,_⟩:=h2; exact ne_of_none h hp
   | dic ks=>obtain ⟨L,h,_⟩:=h2; exact ne_of_none h hp
   | dik ks=>obtain ⟨L,h,_⟩:=h2; exact ne_of_none h hp
   | ins c fs=>obtain ⟨dx,vs,h,_⟩:=h2; exact ne_of_none h hp
  exact ⟨by show upd W.F p o a=none; rw [upd_ne ha]; exact h1,h2.mono (jCN hF) fun u e=>by rw [upd_ne ha]; exact e⟩
theorem jGN (r:HRel B W h H) (hp:H p=none):Step W h H ⟨upd W.F p o,W.m⟩ h (upd H p o):=by
 have hF:=r.fnone hp
 refine ⟨jCN hF,Nat.le_refl _,fun n c _ e=>⟨c,e⟩,fun a u e _ _=>by rw [upd_ne (ne_of_none e hp)]; exact e,fun a e=>?_,fun a e ne _=>?_,r.len,fun n a hn e=>?_⟩
 ·by_cases ha:a=p
  ·subst ha; exact hp
  ·rw [upd_ne ha] at e; exact e
 ·have ha:a≠p:=fun z=>ne.ne (z ▸ hp)
  show upd W.F p o a=none
  rw [upd_ne ha]; exact e
 ·have e:W.m[n]?=some a:=e
  have:=(List.getElem?_eq_some_iff.mp e).1
  rw [r.len] at this
  omega
theorem SlotR.mono {x:PV} {v:V} {H0:Hp} (l:W.Le W') (hm:W'.m=W.m) (hH:∀ a u,H a=some u→H' a=some u) (hF:∀ a,W.F a=none→H a≠none→W'.F a=none) (r:SlotR B W H H0 x v):SlotR B W' H' H0 x v:=by
 cases x with
 | own xs =>
  obtain ⟨a,vs,e,h,r,f,nm,h0⟩:=r
  exact ⟨a,vs,e,hH _ _ h,r.mono l,hF a f (by rw [h]; exact fun z=>nomatch z),by rw [hm]; exact nm,h0⟩
 | don ks=>exact DonR.mono l r
 | _=>exact Rep.mono l r
theorem jJR (r:Rel B N W s σ H) (hp:H p=none) (ho:SzO o):Rel B N ⟨upd W.F p o,W.m⟩ s σ (upd H p o) :=
 ⟨yMH r.hr hp ho,r.st.trans N.len (jGN r.hr hp),r.len,fun i x e=>by
  obtain ⟨v,e',sl⟩:=r.env i x e
  refine ⟨v,e',sl.mono (jCN (r.hr.fnone hp)) rfl (fun a u q=>by rw [upd_ne (ne_of_none q hp)]; exact q) fun a q ne=>?_⟩
  show upd W.F p o a=none
  have ha:a≠p:=fun z=>ne (by rw [z]; exact hp)
  rw [upd_ne ha]; exact q,r.dis,r.pin.trans (jCN (r.hr.fnone hp))⟩
theorem Grow.rel (g:Grow W H W' H') (r:Rel B N W s σ H):Rel B N W' s σ H':=by
 cases g with
 | refl=>exact r
 | new hp ho=>exact jJR r hp ho
theorem Grow.step (g:Grow W H W' H') (r:HRel B W h H):Step W h H W' h H':=by
 cases g with
 | refl=>exact Step.refl r
 | new hp _=>exact jGN r hp
theorem Grow.stepE (g:Grow W H W' H') (r:HRel B W s.h H):StepE W s H W' s H':=⟨g.step r,fun _ _ e _=>e⟩
theorem jBY {xs:List PV} {vs:List V} (hF:W.F p=none) (r:Reps B W xs vs):Rep B ⟨upd W.F p (.tup vs),W.m⟩ (.tup xs) (.ref p):=.tup (.inl upd_same) (r.mono (jCN hF))
theorem qZ {xs:List PV} {vs:List V} (hF:W.F p=none) (r:Reps B W xs vs):Rep B ⟨upd W.F p (.lst vs),W.m⟩ (.lst xs) (.ref p):=.lst upd_same (r.mono (jCN hF))
end
def OpSem (X:Cx) (B:Bs) (f:AH→PV→PV→Option PV) (r:R2):Prop:=∀ (W:Wd) (h:AH) (H:Hp) (x y z:PV) (x' y':V) (Q:VK),HRel B W h H→RepT B W H x x'→RepT B W H y y'→f h x y=some z →
 (∀ W' H' z',Grow W H W' H'→RepT B W' H' z z'→Q z' H')→r x' y' H Q
theorem OpSem.or {X:Cx} {B:Bs} {f g:AH→PV→PV→Option PV} {r r':R2} (a:OpSem X B f r) (b:OpSem X B g r'):OpSem X B (fun h x y=>(f h x y).or (g h x y)) (fun x y H Q=>r x y H Q∨r' x y H Q):=by
 intro W h H x y z x' y' Q hr rx ry e q
 have e:(f h x y).or (g h x y)=some z:=e
 cases ef:f h x y with
 | some z' =>
  rw [ef] at e
  cases e
  exact .inl (a W h H x y z x' y' Q hr rx ry ef q)
 | none =>
  rw [ef] at e
  exact .inr (b W h H x y z x' y' Q hr rx ry e q)
section
variable {X:Cx} {B:Bs} {N:Ent} {WX:WX} {a b:Expr} {ma mb:ME} {pos:Pos}
theorem jQC {f:AH→PV→PV→Option PV} {r:R2} (hf:OpSem X B f r) {W2:Wd} {s2:S} {σ:L2.St} {H2:Hp} {x y:PV} {x' y':V} {Q:VK} (r2:Rel B N W2 s2 σ H2) (rx:RepT B W2 H2 x x') (ry:RepT B W2 H2 y y')
  (q:Post B N WX W2 s2 H2 σ (match f s2.h x y with | some z=>R.ok z s2 | none=>.bad) fun u W' _ H'=>∀ u',RepT B W' H' u u'→Q u' H'):r x' y' H2 Q:=by
 split at q
 ·rename_i z e
  exact hf W2 s2.h H2 x y z x' y' Q r2.hr rx ry e fun W' H' z' g rz=>q W' H' (g.rel r2) (g.stepE r2.hr) z' rz
 ·exact q.elim
theorem jNM {op:Operator} {r:R2} {f:AH→PV→PV→Option PV} (ho:OpR X (binaryOp op) r) (hf:OpSem X B f r) (ha:SimE X B N WX a ma) (hb:SimE X B N WX b mb):SimE X B N WX (.BinOp a op b pos) (jM f ma mb) :=
 (pe_op ho ha hb).imp fun σ H Q h=>two h fun W2 s2 H2 x y x' y' r2 rx ry q=>jQC hf r2 rx ry q
theorem yKT {op:CmpOp} {r:R2} {f:AH→PV→PV→Option PV} (ho:OpR X (compareOp op) r) (hf:OpSem X B f r) (ha:SimE X B N WX a ma) (hb:SimE X B N WX b mb) (hm:behindInMarks op b=false):SimE X B N WX (.Compare a [op] [b] pos) (jM f ma mb) :=
 (pe_cmpR ho ha hb hm).imp fun σ H Q h=>two h fun W2 s2 H2 x y x' y' r2 rx ry q=>jQC hf r2 rx ry q
theorem yFX {op:CmpOp} {r:R2} {f:AH→PV→PV→Option PV} (ho:OpR X (compareOp op) r) (hf:OpSem X B f r) (ha:SimE X B N WX a ma) (hb:SimE X B N WX b mb) (hm:behindInMarks op b=false):SimT X B N WX (.Compare a [op] [b] pos) (bM (jM f ma mb)) :=
 (pt_cmpR ho ha hb hm).imp fun σ H Q h=>two (yQR h) fun W2 s2 H2 x y x' y' r2 rx ry q=>jQC hf r2 rx ry q
end
def fI (g:Int→Int→Option Int):AH→PV→PV→Option PV:=fun _ x y=>match x,y with
 | .int i,.int j=>(g i j).map .int
 | _,_=>none
def fIB (g:Int→Int→Bool):AH→PV→PV→Option PV:=fun _ x y=>match x,y with
 | .int i,.int j=>some (.bl (g i j))
 | _,_=>none
section
variable {X:Cx} {B:Bs} {W:Wd} {H:Hp}
theorem jAI {i:Int} {v:V} (r:RepT B W H (.int i) v):v=.int i:=by cases (show Rep B W (.int i) v from r); rfl
theorem yAL {b:Bool} {v:V} (r:RepT B W H (.bl b) v):v=.bl b:=by cases (show Rep B W (.bl b) v from r); rfl
theorem yDU {v:V} (r:RepT B W H .non v):v=.non:=by cases (show Rep B W .non v from r); rfl
theorem jAH {x:Str} {v:V} (r:RepT B W H (.str x) v):v=.str x∧SOk x:=by
 cases (show Rep B W (.str x) v from r) with
 | str _ h=>exact ⟨rfl,h⟩
theorem yCU {g:Int→Int→Option Int} {C:Int→Int→Prop} {f:Int→Int→Int} (hg:∀ i j k,g i j=some k→C i j∧f i j=k):OpSem X B (fI g) (rI C fun i j=>.int (f i j)):=by
 intro W h H x y z x' y' Q hr rx ry e q
 unfold fI at e
 split at e
 ·rename_i i j
  cases eg:g i j with
  | none=>rw [eg] at e; cases e
  | some k =>
   rw [eg] at e
   cases e
   obtain ⟨c,ek⟩:=hg i j k eg
   exact ⟨i,j,jAI rx,jAI ry,c,q W H _ (.refl W H) (by show RepT B W H (.int k) (.int (f i j)); rw [ek]; exact (Rep.int k).hand)⟩
 ·cases e
theorem yJG {f:Int→Int→Int}:OpSem X B (fI fun i j=>some (f i j)) (rI0 fun i j=>.int (f i j)):=by
 intro W h H x y z x' y' Q hr rx ry e q
 unfold fI at e
 split at e
 ·rename_i i j
  cases e
  exact ⟨i,j,jAI rx,jAI ry,q W H _ (.refl W H) (Rep.int _).hand⟩
 ·cases e
theorem jTK {g:Int→Int→Bool}:OpSem X B (fIB g) (rI0 fun i j=>.bl (g i j)):=by
 intro W h H x y z x' y' Q hr rx ry e q
 unfold fIB at e
 split at e
 ·rename_i i j
  cases e
  exact ⟨i,j,jAI rx,jAI ry,q W H _ (.refl W H) (Rep.bl _).hand⟩
 ·cases e
end
def jZZ (i j:Int):Option Int:=if (i.natAbs < 18446744073709551616)∨(j.natAbs < 18446744073709551616) then some (i * j) else none
def jWS (i j:Int):Option Int:=if j≠0∧j.natAbs < 1073741824 then some (i.fdiv j) else none
def yHU (i j:Int):Option Int:=if j≠0 then some (i.fmod j) else none
def yRL (i j:Int):Option Int:=if 0≤j∧j≤1000∧i.natAbs < 18446744073709551616 then some (i ^ j.toNat) else none
theorem yPK:∀ i j k,jZZ i j=some k→CMul i j∧i * j=k:=fun i j k e=>by
 unfold jZZ at e
 split at e
 ·rename_i h
  refine ⟨?_,Option.some.inj e⟩
  unfold CMul
  rcases h with h | h
  ·exact .inl (by omega)
  ·exact .inr (by omega)
 ·cases e
theorem yMJ:∀ i j k,jWS i j=some k→CDivN i j∧i.fdiv j=k:=fun i j k e=>by
 unfold jWS at e
 split at e
 ·rename_i h
  exact ⟨h,Option.some.inj e⟩
 ·cases e
theorem yPL:∀ i j k,yHU i j=some k→j≠0∧i.fmod j=k:=fun i j k e=>by
 unfold yHU at e
 split at e
 ·rename_i h
  exact ⟨h,Option.some.inj e⟩
 ·cases e
theorem yOR:∀ i j k,yRL i j=some k→CPow i j∧i ^ j.toNat=k:=fun i j k e=>by
 unfold yRL at e
 split at e
 ·rename_i h
  exact ⟨⟨h.1,by omega,by have:=h.2.2; omega⟩,Option.some.inj e⟩
 ·cases e
def yIO:AH→PV→PV→Option PV:=fun _ x y=>match x,y with
 | .str i,.str j=>if i.length+j.length≤sizeLine then some (.str (i++j)) else none
 | _,_=>none
def asM (h:AH):PV→Option (List PV)
 | .lst xs=>some xs
 | .own xs=>some xs
 | .cel n=>match h[n]? with
  | some (some (.lst xs))=>some xs
  | _=>none
 | _=>none
def yIP:AH→PV→PV→Option PV:=fun h x y=>match asM h x,asM h y with
 | some xs,some ys=>if xs.length+ys.length≤sizeLine then some (.lst (xs++ys)) else none
 | _,_=>none
def yIN:AH→PV→PV→Option PV:=fun _ x y=>match x,y with
 | .tup xs,.tup ys=>if xs.length+ys.length≤sizeLine then some (.tup (xs++ys)) else none
 | _,_=>none
def yIL:AH→PV→PV→Option PV:=fun h x y=>match asM h x,y with
 | some xs,.int k=>if k.natAbs < 1000000∧xs.length * k.toNat≤sizeLine then some (.lst (List.replicate k.toNat xs).flatten) else none
 | _,_=>none
section
variable {X:Cx} {B:Bs} {W:Wd} {h:AH} {H:Hp}
theorem jNR (hr:HRel B W h H) {x:PV} {x':V} {xs:List PV} (rx:RepT B W H x x') (e:asM h x=some xs):∃ a vs,x'=.ref a∧H a=some (.lst vs)∧Reps B W xs vs:=by
 cases x with
 | lst ys =>
  cases e
  cases (show Rep B W (.lst _) x' from rx) with
  | lst h r=>exact ⟨_,_,rfl,hr.agree _ _ h,r⟩
 | own ys =>
  cases e
  obtain ⟨a,vs,rfl,h,r,_⟩:=rx
  exact ⟨a,vs,rfl,h,r⟩
 | cel n =>
  cases (show Rep B W (.cel n) x' from rx) with
  | cel h1 =>
   unfold asM at e
   dsimp only at e
   split at e
   ·rename_i ys q
    cases e
    obtain ⟨_,vs,h2,r⟩:=hr.cell n _ _ q h1
    exact ⟨_,vs,rfl,h2,r⟩
   ·cases e
 | _=>cases e
theorem jQU {i j:Str} (a:SOk i) (b:SOk j) (h:i.length+j.length≤sizeLine):SOk (i++j):=by
 have e:(i++j).cps=i.cps++j.cps:=rfl
 refine ⟨?_,?_⟩
 ·show (i++j).cps.all (· < 0x110000)=true
  rw [e,Array.all_append]
  rw [show i.cps.all (· < 0x110000)=true from a.1,show j.cps.all (· < 0x110000)=true from b.1]
  rfl
 ·show (i++j).cps.size≤sizeLine
  rw [e,Array.size_append]
  exact h
theorem yLE:OpSem X B yIO (fun x y H Q=>∃ i j,x=.str i∧y=.str j∧i.length+j.length≤sizeLine∧Q (.str (i++j)) H):=by
 intro W h H x y z x' y' Q hr rx ry e q
 unfold yIO at e
 split at e
 ·rename_i i j
  split at e
  ·rename_i hz
   cases e
   obtain ⟨e1,k1⟩:=jAH rx
   obtain ⟨e2,k2⟩:=jAH ry
   exact ⟨i,j,e1,e2,hz,q W H _ (.refl W H) (Rep.str _ (jQU k1 k2 hz)).hand⟩
  ·cases e
 ·cases e
theorem yLF:OpSem X B yIP rCat:=by
 intro W h H x y z x' y' Q hr rx ry e q
 unfold yIP at e
 split at e
 ·rename_i xs ys ex ey
  split at e
  ·rename_i hz
   cases e
   obtain ⟨a,vs,rfl,ha,ra⟩:=jNR hr rx ex
   obtain ⟨b,ws,rfl,hb,rb⟩:=jNR hr ry ey
   refine ⟨a,b,vs,ws,rfl,rfl,ha,hb,by rw [← ra.length,← rb.length]; exact hz,fun p hp=>q _ _ _ (.new hp (by show (vs++ws).length≤sizeLine; rw [List.length_append,← ra.length,← rb.length]; exact hz)) ?_⟩
   exact (qZ (hr.fnone hp) (ra.append rb)).hand
  ·cases e
 ·cases e
theorem yLD (hK:X.K=B.K):OpSem X B yIN (rCatA X.K):=by
 intro W h H x y z x' y' Q hr rx ry e q
 unfold yIN at e
 split at e
 ·rename_i xs ys
  split at e
  ·rename_i hz
   cases e
   obtain ⟨a,vs,rfl,ha,ra⟩:=jFC hK hr (show Rep B W (.tup xs) x' from rx)
   obtain ⟨b,ws,rfl,hb,rb⟩:=jFC hK hr (show Rep B W (.tup ys) y' from ry)
   refine ⟨a,b,vs,ws,rfl,rfl,ha,hb,by rw [← ra.length,← rb.length]; exact hz,fun z=>?_,fun _ z=>?_,fun _ _ p hp=>q _ _ _ (.new hp (by show (vs++ws).length≤sizeLine; rw [List.length_append,← ra.length,← rb.length]; exact hz)) ?_⟩
   ·subst z
    have e0:xs=[]:=List.length_eq_zero_iff.mp ra.length
    subst e0
    exact q W H _ (.refl W H) ry
   ·subst z
    have e0:ys=[]:=List.length_eq_zero_iff.mp rb.length
    subst e0
    rw [List.append_nil] at q
    exact q W H _ (.refl W H) rx
   ·exact (jBY (hr.fnone hp) (ra.append rb)).hand
  ·cases e
 ·cases e
theorem jYQ {α:Type} (xs:List α) (k:Nat):(List.replicate k xs).flatten.length=xs.length * k:=by
 rw [List.length_flatten,List.map_replicate,List.sum_replicate_nat,Nat.mul_comm]
theorem yKY:OpSem X B yIL rRep:=by
 intro W h H x y z x' y' Q hr rx ry e q
 unfold yIL at e
 split at e
 ·rename_i xs k ex
  split at e
  ·rename_i hz
   cases e
   obtain ⟨a,vs,rfl,ha,ra⟩:=jNR hr rx ex
   refine ⟨a,k,vs,rfl,jAI ry,ha,by omega,by omega,by rw [← ra.length]; exact hz.2,fun p hp=>q _ _ _ (.new hp (by show (List.replicate k.toNat vs).flatten.length≤sizeLine; rw [jYQ,← ra.length]; exact hz.2)) ?_⟩
   exact (qZ (hr.fnone hp) (ra.rep _)).hand
  ·cases e
 ·cases e
end
mutual
def toD:PV→Option PyData
 | .non=>some .none
 | .bl b=>some (.bool b)
 | .int i=>some (.int i)
 | .str x=>some (.str x)
 | .tup xs=>(toDs xs).map .tuple
 | .lst xs=>(toDs xs).map .list
 | _=>none
def toDs:List PV→Option (List PyData)
 | []=>some []
 | x :: xs=>match toD x,toDs xs with
  | some d,some ds=>some (d :: ds)
  | _,_=>none
end
def jEW (h:AH) (x:PV):Option PyData:=match x with
 | .own xs=>(toDs xs).map .list
 | .cel n=>match h[n]? with
  | some (some (.lst xs))=>(toDs xs).map .list
  | _=>none
 | x=>toD x
def dOk (d:PyData):Bool:=decide (d.depth≤64)
def fEq:AH→PV→PV→Option PV:=fun h x y=>match jEW h x,jEW h y with
 | some d,some e=>if dOk d&&dOk e then some (.bl (PyData.eqv d e)) else none
 | _,_=>none
def fNe:AH→PV→PV→Option PV:=fun h x y=>match jEW h x,jEW h y with
 | some d,some e=>if dOk d&&dOk e then some (.bl (!PyData.eqv d e)) else none
 | _,_=>none
section
variable {X:Cx} {B:Bs} {W:Wd} {h:AH} {H:Hp}
mutual
theorem jPX (hK:X.K=B.K) (hr:HRel B W h H):∀ {x:PV} {v:V} {d:PyData},Rep B W x v→toD x=some d→Dp X.K H v d∧d.canLay0=true
 | _,_,_,.non,e=>by cases e; exact ⟨.non,rfl⟩
 | _,_,_,.bl b,e=>by cases e; exact ⟨.bl b,rfl⟩
 | _,_,_,.int i,e=>by cases e; exact ⟨.int i,rfl⟩
 | _,_,_,.str x k,e=>by cases e; exact ⟨.str x,by simpa [PyData.canLay0] using k.1⟩
 | _,_,_,.ty n,e=>by simp [toD] at e
 | _,_,_,.cls c,e=>by simp [toD] at e
 | _,_,_,.cel h,e=>by simp [toD] at e
 | _,_,_,.ins h1 h2 h3,e=>by simp [toD] at e
 | .tup xs,_,_,.tup h1 r,e=>by
  rw [toD] at e
  cases q:toDs xs with
  | none=>rw [q] at e; cases e
  | some ds =>
   rw [q] at e
   cases e
   obtain ⟨h2,h3⟩:=toDs_dp hK hr r q
   refine ⟨.tup ?_ h2,by simpa [PyData.canLay0] using h3⟩
   rcases h1 with h1 | ⟨o,its,n,k1,k2,k3,k4,k5⟩
   ·exact .inl (.inl (hr.agree _ _ h1))
   ·exact .inr ⟨o,its,n,hK ▸ k1,k2,k3,k4,k5⟩
 | .lst xs,_,_,.lst h1 r,e=>by
  rw [toD] at e
  cases q:toDs xs with
  | none=>rw [q] at e; cases e
  | some ds =>
   rw [q] at e
   cases e
   obtain ⟨h2,h3⟩:=toDs_dp hK hr r q
   exact ⟨.lst (.inl (.inl (hr.agree _ _ h1))) h2,by simpa [PyData.canLay0] using h3⟩
 | .scr xs,_,_,.scr h1 r,e=>by simp [toD] at e
theorem toDs_dp (hK:X.K=B.K) (hr:HRel B W h H):∀ {xs:List PV} {vs:List V} {ds:List PyData},Reps B W xs vs→toDs xs=some ds→DpAll X.K H vs ds∧PyData.canLayAll0 ds=true
 | _,_,_,.nil,e=>by cases e; exact ⟨.nil,rfl⟩
 | x :: xs,_,_,.cons r t,e=>by
  rw [toDs] at e
  cases q1:toD x with
  | none=>rw [q1] at e; cases e
  | some d =>
   cases q2:toDs xs with
   | none=>rw [q1,q2] at e; cases e
   | some ds =>
    rw [q1,q2] at e
    cases e
    obtain ⟨a1,a2⟩:=jPX hK hr r q1
    obtain ⟨b1,b2⟩:=toDs_dp hK hr t q2
    exact ⟨.cons a1 b1,by simp [PyData.canLayAll0,a2,b2]⟩
end
theorem jCK (hK:X.K=B.K) (hr:HRel B W h H) {x:PV} {v:V} {d:PyData} (r:RepT B W H x v) (e:jEW h x=some d):Dp X.K H v d∧d.canLay0=true:=by
 have fin:∀ (xs:List PV) (a:Addr) (vs:List V),v=.ref a→H a=some (.lst vs)→Reps B W xs vs→(toDs xs).map PyData.list=some d→Dp X.K H v d∧d.canLay0=true:=fun xs a vs ev ha ra e=>by
  cases q:toDs xs with
  | none=>rw [q] at e; cases e
  | some ds =>
   rw [q] at e
   cases e
   obtain ⟨h2,h3⟩:=toDs_dp hK hr ra q
   rw [ev]
   exact ⟨.lst (.inl (.inl ha)) h2,by simpa [PyData.canLay0] using h3⟩
 cases x with
 | own xs =>
  obtain ⟨a,vs,ev,ha,ra,_⟩:=r
  exact fin xs a vs ev ha ra e
 | cel n =>
  unfold jEW at e
  dsimp only at e
  split at e
  ·rename_i xs q
   obtain ⟨a,vs,ev,ha,ra⟩:=jNR (x:=.cel n) (xs:=xs) hr r (by unfold asM; dsimp only; rw [q])
   exact fin xs a vs ev ha ra e
  ·cases e
 | don ks=>simp [jEW,toD] at e
 | _=>exact jPX hK hr r e
theorem wX {d:PyData} (a:d.canLay0=true) (b:dOk d=true):SeqAt.shaped d=true:=by
 unfold SeqAt.shaped
 rw [a]
 exact b
theorem ySF (hK:X.K=B.K):OpSem X B fEq (rEqD X.K):=by
 intro W h H x y z x' y' Q hr rx ry e q
 unfold fEq at e
 split at e
 ·rename_i d f ed ef
  split at e
  ·rename_i hz
   cases e
   obtain ⟨z1,z2⟩:=Bool.and_eq_true_iff.mp hz
   obtain ⟨a1,a2⟩:=jCK hK hr rx ed
   obtain ⟨b1,b2⟩:=jCK hK hr ry ef
   exact ⟨d,f,a1,b1,wX a2 z1,wX b2 z2,q W H _ (.refl W H) (Rep.bl _).hand⟩
  ·cases e
 ·cases e
theorem ySC (hK:X.K=B.K):OpSem X B fNe (rNeD X.K):=by
 intro W h H x y z x' y' Q hr rx ry e q
 unfold fNe at e
 split at e
 ·rename_i d f ed ef
  split at e
  ·rename_i hz
   cases e
   obtain ⟨z1,z2⟩:=Bool.and_eq_true_iff.mp hz
   obtain ⟨a1,a2⟩:=jCK hK hr rx ed
   obtain ⟨b1,b2⟩:=jCK hK hr ry ef
   exact ⟨d,f,a1,b1,wX a2 z1,wX b2 z2,q W H _ (.refl W H) (Rep.bl _).hand⟩
  ·cases e
 ·cases e
end
def isNon:PV→Bool
 | .non=>true
 | _=>false
def jAL:AH→PV→PV→Option PV:=fun _ x y=>match y with
 | .non=>some (.bl (isNon x))
 | _=>none
section
variable {X:Cx} {B:Bs} {W:Wd} {h:AH} {H:Hp}
theorem yGJ {x:PV} {v:V} (r:RepT B W H x v):decide (v=.non)=isNon x:=by
 cases x with
 | own xs=>obtain ⟨a,vs,rfl,_⟩:=r; rfl
 | don ks=>obtain ⟨a,vs,o,rfl,_⟩:=r; rfl
 | _=>cases r <;> rfl
theorem yOG:OpSem X B jAL (fun x y H Q=>y=.non∧Q (.bl (decide (x=.non))) H):=by
 intro W h H x y z x' y' Q hr rx ry e q
 unfold jAL at e
 split at e
 ·cases e
  refine ⟨yDU ry,?_⟩
  rw [yGJ rx]
  exact q W H _ (.refl W H) (Rep.bl _).hand
 ·cases e
end
end Lp
set_option maxHeartbeats 4000000
namespace Lp
open PySem PySem.Spec PyProof.Rows L2
abbrev MA:=S→R S (List PV)
def jO:MA:=fun s=>.ok [] s
def jE (m:ME) (r:MA):MA:=fun s=>(m s).bind fun v s1=>(r s1).bind fun vs s2=>.ok (v :: vs) s2
def asS (h:AH) (x:PV):Option (List PV):=match x with
 | .tup xs=>some xs
 | x=>asL h x
def yDD (m:ME) (r:MA):MA:=fun s=>(m s).bind fun v s1=>match asS s1.h v with
 | some xs=>(r s1).bind fun vs s2=>.ok (xs++vs) s2
 | none=>.bad
section
variable {X:Cx} {B:Bs} {N:Ent} {WX:WX} {W:Wd} {h:AH} {H:Hp} {e:Expr} {es:List Expr} {m:ME} {ma:MA}
theorem RepTs.append:∀ {xs ys:List PV} {vs ws:List V},RepTs B W H xs vs→RepTs B W H ys ws→RepTs B W H (xs++ys) (vs++ws)
 | [],_,[],_,_,s=>s
 | _ :: _,_,_ :: _,_,⟨r,t⟩,s=>⟨r,RepTs.append t s⟩
 | [],_,_ :: _,_,h,_=>h.elim
 | _ :: _,_,[],_,h,_=>h.elim
theorem Reps.hand:∀ {xs:List PV} {vs:List V},Reps B W xs vs→RepTs B W H xs vs
 | _,_,.nil=>trivial
 | _,_,.cons r t=>⟨r.hand,Reps.hand t⟩
theorem RepTs.length:∀ {xs:List PV} {vs:List V},RepTs B W H xs vs→xs.length=vs.length
 | [],[],_=>rfl
 | _ :: _,_ :: _,⟨_,t⟩=>congrArg Nat.succ (RepTs.length t)
 | [],_ :: _,h=>h.elim
 | _ :: _,[],h=>h.elim
def uB (xs:List PV):Bool:=xs.all fun x=>!isOwn x
theorem RepTs.reps:∀ {xs:List PV} {vs:List V},RepTs B W H xs vs→uB xs=true→Reps B W xs vs
 | [],[],_,_=>.nil
 | x :: xs,_ :: _,⟨r,t⟩,o=>by
  unfold uB at o
  rw [List.all_cons] at o
  obtain ⟨o1,o2⟩:=Bool.and_eq_true_iff.mp o
  exact .cons (r.rep (by simpa using o1)) (RepTs.reps t o2)
 | [],_ :: _,h,_=>h.elim
 | _ :: _,[],h,_=>h.elim
theorem jD:SimA X B N WX [] jO:=pa_nil.imp fun σ H Q ⟨W,s,r,h⟩=>h.ok r [] trivial
theorem jA (he:SimE X B N WX e m) (hr:SimA X B N WX es ma) (hs:starEach (e :: es) X.env=(false,eval e X.env) :: starEach es X.env):SimA X B N WX (e :: es) (jE m ma) :=
 (pa_cons he hr hs).imp fun σ H Q ⟨W,s,r,h⟩=>⟨W,s,r,(h.bind r.slen).mono fun v W1 s1 H1 r1 _ q v' rv=>⟨W1,s1,r1,(q.bind r1.slen).mono fun vs W2 s2 H2 r2 st2 q vs' rvs =>
  q.ok r2 (v' :: vs') ⟨rv.on r1.slen st2.st,rvs⟩⟩⟩
theorem jQF (hK:X.K=B.K) (hr:HRel B W h H) {x:PV} {x':V} {xs:List PV} (rx:RepT B W H x x') (e:asS h x=some xs):∃ a vs,x'=.ref a∧(SqT X.K H a vs∨SqL X.K H a vs)∧Reps B W xs vs:=by
 have fin:asL h x=some xs→∃ a vs,x'=.ref a∧(SqT X.K H a vs∨SqL X.K H a vs)∧Reps B W xs vs:=fun e=>by
  obtain ⟨a,vs,e1,h1,r1⟩:=jIW hr rx e
  exact ⟨a,vs,e1,.inr (jKT hK h1),r1⟩
 cases x with
 | tup ys =>
  cases e
  obtain ⟨a,vs,e1,h1,r1⟩:=jFC hK hr (show Rep B W (.tup _) x' from rx)
  exact ⟨a,vs,e1,.inl h1,r1⟩
 | _=>exact fin e
theorem yGB {p:Pos} (hK:X.K=B.K) (he:SimE X B N WX e m) (hr:SimA X B N WX es ma) (hs:starEach (.Starred e p :: es) X.env=(true,eval e X.env) :: starEach es X.env):SimA X B N WX (.Starred e p :: es) (yDD m ma) :=
 (StX.pa_star he hr hs).imp fun σ H Q ⟨W,s,r,h⟩=>⟨W,s,r,(h.bind r.slen).mono fun v W1 s1 H1 r1 _ q v' rv=>by
  split at q
  ·rename_i xs ex
   obtain ⟨a,vs,rfl,h1,r2⟩:=jQF hK r1.hr rv ex
   exact ⟨a,vs,rfl,h1,W1,s1,r1,(q.bind r1.slen).mono fun us W2 s2 H2 r3 st2 q us' rus=>q.ok r3 (vs++us') ((r2.mono st2.st.le).hand.append rus)⟩
  ·exact q.elim⟩
def jAU (ma:MA):ME:=fun s=>(ma s).bind fun vs s1=>if uB vs&&decide (vs.length≤16777216) then .ok (.tup vs) s1 else .bad
def jDU (ma:MA):ME:=fun s=>(ma s).bind fun vs s1=>if uB vs&&decide (vs.length≤16777216) then .ok (.lst vs) s1 else .bad
theorem vD {x1 pos} (ha:SimA X B N WX es ma):SimE X B N WX (.Tuple es x1 pos) (jAU ma) :=
 (pe_tup ha).imp fun σ H Q ⟨W,s,r,h⟩=>⟨W,s,r,(h.bind r.slen).mono fun vs W1 s1 H1 r1 _ q vs' rvs=>by
  split at q
  ·rename_i c
   obtain ⟨c1,c2⟩:=Bool.and_eq_true_iff.mp c
   have rr:=rvs.reps c1
   refine ⟨by rw [← rr.length,sizeLine_eq]; exact of_decide_eq_true c2,fun p hp=>?_⟩
   have hsz:vs'.length≤sizeLine:=by rw [← rr.length,sizeLine_eq]; exact of_decide_eq_true c2
   exact q _ _ (jJR (o:=.tup vs') r1 hp hsz) ⟨jGN r1.hr hp,fun _ _ e _=>e⟩ _ (jBY (r1.hr.fnone hp) rr).hand
  ·exact q.elim⟩
theorem zP {pos} (ha:SimA X B N WX es ma):SimE X B N WX (.List es pos) (jDU ma) :=
 (pe_lst ha).imp fun σ H Q ⟨W,s,r,h⟩=>⟨W,s,r,(h.bind r.slen).mono fun vs W1 s1 H1 r1 _ q vs' rvs=>by
  split at q
  ·rename_i c
   obtain ⟨c1,c2⟩:=Bool.and_eq_true_iff.mp c
   have rr:=rvs.reps c1
   refine ⟨by rw [← rr.length,sizeLine_eq]; exact of_decide_eq_true c2,fun p hp=>?_⟩
   have hsz:vs'.length≤sizeLine:=by rw [← rr.length,sizeLine_eq]; exact of_decide_eq_true c2
   exact q _ _ (jJR (o:=.lst vs') r1 hp hsz) ⟨jGN r1.hr hp,fun _ _ e _=>e⟩ _ (qZ (r1.hr.fnone hp) rr).hand
  ·exact q.elim⟩
end
def fIx:AH→PV→PV→Option PV:=fun h x y=>match x,y with
 | .str z,.int i=>(atI z.cps.toList i).map fun c=>.str ⟨#[c]⟩
 | x,.int i=>match asS h x with
  | some xs=>atI xs i
  | none=>none
 | _,_=>none
section
variable {X:Cx} {B:Bs} {N:Ent} {WX:WX} {W:Wd} {h:AH} {H:Hp} {a b c:Expr} {ma mb mc:ME} {pos:Pos}
theorem yQJ {xs:List PV} {vs:List V} {i:Int} {x:PV} (r:Reps B W xs vs) (e:atI xs i=some x):∃ v,atI vs i=some v∧Rep B W x v:=by
 unfold atI at e ⊢
 rw [← r.length]
 cases q:ixN xs.length i with
 | none=>rw [q] at e; cases e
 | some j =>
  rw [q] at e
  obtain ⟨v,e1,r1⟩:=r.get (show xs[j]?=some x from e)
  exact ⟨v,e1,r1⟩
theorem jUD {z w:Str} (k:SOk z) (hl:w.length≤z.length) (hm:∀ c∈w.cps.toList,c∈z.cps.toList):SOk w:=by
 refine ⟨?_,Nat.le_trans hl k.2⟩
 have k1:z.cps.all (· < 0x110000)=true:=k.1
 show w.cps.all (· < 0x110000)=true
 rw [← Array.all_toList,List.all_eq_true] at k1 ⊢
 exact fun c hc=>k1 c (hm c hc)
theorem yQK {α:Type} {xs:List α} {i:Int} {x:α} (e:atI xs i=some x):x∈xs:=by
 unfold atI at e
 cases q:ixN xs.length i with
 | none=>rw [q] at e; cases e
 | some j =>
  rw [q] at e
  exact List.mem_of_getElem? (show xs[j]?=some x from e)
theorem ySD (hK:X.K=B.K):OpSem X B fIx (rIx X.K):=by
 intro W h H x y z x' y' Q hr rx ry e q
 have go:∀ (i:Int) (xs:List PV),asS h x=some xs→y=.int i→atI xs i=some z→rIx X.K x' y' H Q:=fun i xs ex ey ea=>by
  obtain ⟨a,vs,rfl,h1,r1⟩:=jQF hK hr rx ex
  obtain ⟨v,e1,rv⟩:=yQJ r1 ea
  subst ey
  rcases h1 with h1 | h1
  ·exact .inr (.inl ⟨a,vs,i,v,rfl,jAI ry,h1,e1,q W H v (.refl W H) rv.hand⟩)
  ·exact .inl ⟨a,vs,i,v,rfl,jAI ry,h1,e1,q W H v (.refl W H) rv.hand⟩
 unfold fIx at e
 split at e
 ·rename_i z0 i
  cases ea:atI z0.cps.toList i with
  | none=>rw [ea] at e; cases e
  | some c =>
   rw [ea] at e
   cases e
   obtain ⟨e1,k⟩:=jAH rx
   refine .inr (.inr ⟨z0,i,c,e1,jAI ry,k.2,ea,q W H _ (.refl W H) (Rep.str _ ?_).hand⟩)
   have hm:=yQK ea
   refine jUD k ?_ fun d hd=>by
    have:d=c:=by simpa using hd
    rw [this]; exact hm
   show (#[c]:Array Nat).size≤z0.cps.size
   have:=List.length_pos_of_mem hm
   simp only [Array.length_toList] at this
   show 1≤z0.cps.size
   omega
 ·rename_i i _
  split at e
  ·rename_i xs ex
   exact go i xs ex rfl e
  ·cases e
 ·cases e
theorem yE (hK:X.K=B.K) (ha:SimE X B N WX a ma) (hb:SimE X B N WX b mb) (hs:PlainIx b):SimE X B N WX (.Subscript a b pos) (jM fIx ma mb) :=
 (pe_ix ix_seq ha hb hs).imp fun σ H Q h=>two h fun W2 s2 H2 x y x' y' r2 rx ry q=>jQC (ySD hK) r2 rx ry q
def jAY {α:Type} (xs:List α) (lo hi:Option Int):List α:=(xs.drop (HT.sIx xs.length 0 lo)).take (HT.sIx xs.length xs.length hi - HT.sIx xs.length 0 lo)
def jHA (z:Str) (lo hi:Option Int):Str:=⟨(jAY z.cps.toList lo hi).toArray⟩
def fSl (h:AH) (x:PV) (lo hi:Option Int):Option PV:=match x with
 | .str z=>some (.str (jHA z lo hi))
 | .tup xs=>some (.tup (jAY xs lo hi))
 | x=>(asL h x).map fun xs=>.lst (jAY xs lo hi)
def jDJ:S→R S (Option Int):=fun s=>.ok none s
def jCG (m:ME):S→R S (Option Int):=fun s=>(m s).bind fun v s1=>match v with
 | .int i=>.ok (some i) s1
 | _=>.bad
def eSl (m:ME) (lo hi:S→R S (Option Int)):ME:=fun s=>(m s).bind fun v s1=>(lo s1).bind fun l s2=>(hi s2).bind fun u s3=>match fSl s3.h v l u with
 | some z=>.ok z s3
 | none=>.bad
def tO (B:Bs) (N:Ent) (WX:L2.WX) (m:S→R S (Option Int)):TO:=fun σ H Q=>∃ W s,Rel B N W s σ H∧Post B N WX W s H σ (m s) fun v _ _ H'=>Q v H'
abbrev SimO (X:Cx) (B:Bs) (N:Ent) (WX:L2.WX) (e:Option Expr) (m:S→R S (Option Int)):Prop:=PO X e (tO B N WX m)
theorem yKI {e:Option Expr} {t t':TO} (h:PO X e t) (w:∀ σ H Q,t' σ H Q→t σ H Q):PO X e t':=by
 constructor
 intro pins s σ H Q I q
 exact h.run pins s σ H Q I (w _ _ _ q)
theorem zX:SimO X B N WX none jDJ:=yKI po_none fun σ H Q ⟨W,s,r,h⟩=>h.ok r
theorem uJ (ha:SimE X B N WX a ma):SimO X B N WX (some a) (jCG ma):=yKI (po_some ha) fun σ H Q ⟨W,s,r,h⟩=>⟨W,s,r,(h.bind r.slen).mono fun v W1 s1 H1 r1 _ q v' rv=>by
 cases v with
 | int i=>exact ⟨i,jAI rv,q.ok r1⟩
 | _=>exact q.elim⟩
theorem jPW (hr:HRel B W h H) {x':V} {xs:List PV} (rx:Rep B W (.tup xs) x'):xs.length≤sizeLine:=by
 cases rx with
 | tup h r =>
  rw [r.length]
  rcases h with h | ⟨o,its,n,_,_,_,z,q⟩
  ·exact hr.hz _ _ (hr.agree _ _ h) yTU
  ·rw [q.length,Array.length_toList]; exact z
theorem yUW (hr:HRel B W h H) {x:PV} {x':V} {xs:List PV} (rx:RepT B W H x x') (e:asS h x=some xs):xs.length≤sizeLine:=by
 cases x with
 | tup ys=>cases e; exact jPW hr (show Rep B W (.tup _) x' from rx)
 | _=>exact jQG hr rx e
theorem jTC {xs:List PV} {vs:List V} (r:Reps B W xs vs) (lo hi:Option Int):Reps B W (jAY xs lo hi) (cutV vs lo hi):=by
 unfold jAY cutV
 rw [r.length]
 exact (r.drop _).take _
theorem yMR {α:Type} {xs:List α} {lo hi:Option Int} (h:HT.sIx xs.length 0 lo=0∧HT.sIx xs.length xs.length hi=xs.length):jAY xs lo hi=xs:=by
 unfold jAY
 rw [h.1,h.2]
 simp
theorem yQF (z:Str) (lo hi:Option Int):cutS z lo hi=jHA z lo hi:=by
 unfold cutS jHA jAY
 first | rfl | simp
theorem yRY (hK:X.K=B.K) {x z:PV} {x':V} {lo hi:Option Int} {Q:VK} (hr:HRel B W h H) (rx:RepT B W H x x') (e:fSl h x lo hi=some z) (q:∀ W' H' z',Grow W H W' H'→RepT B W' H' z z'→Q z' H') :
  rSlL X.K x' lo hi H Q∨rSlA X.K x' lo hi H Q∨rSlS x' lo hi H Q:=by
 have go:∀ xs,asL h x=some xs→z=.lst (jAY xs lo hi)→rSlL X.K x' lo hi H Q:=fun xs ex ez=>by
  obtain ⟨a,vs,rfl,h1,r1⟩:=jIW hr rx ex
  subst ez
  exact ⟨a,vs,rfl,jKT hK h1,fun p hp=>q _ _ _ (.new hp (Nat.le_trans (cutV_length _ _ _) (by rw [← r1.length]; exact jQG hr rx ex))) (qZ (hr.fnone hp) (jTC r1 lo hi)).hand⟩
 unfold fSl at e
 split at e
 ·rename_i y
  cases e
  obtain ⟨e1,k⟩:=jAH rx
  refine .inr (.inr ⟨y,e1,k.2,?_⟩)
  rw [yQF]
  refine q W H _ (.refl W H) (Rep.str _ (jUD k ?_ fun c hc=>?_)).hand
  ·show (jAY y.cps.toList lo hi).toArray.size≤y.cps.size
   unfold jAY
   simp only [List.size_toArray,List.length_take,List.length_drop,Array.length_toList]
   omega
  ·have hc:c∈jAY y.cps.toList lo hi:=by simpa [jHA] using hc
   unfold jAY at hc
   exact List.mem_of_mem_drop (List.mem_of_mem_take hc)
 ·rename_i xs
  cases e
  obtain ⟨a,vs,rfl,h1,r1⟩:=jFC hK hr (show Rep B W (.tup xs) x' from rx)
  refine .inr (.inl ⟨a,vs,rfl,h1,fun z=>?_,fun _ p hp=>q _ _ _ (.new hp (Nat.le_trans (cutV_length _ _ _) (by rw [← r1.length]; exact jPW hr (show Rep B W (.tup xs) _ from rx)))) (jBY (hr.fnone hp) (jTC r1 lo hi)).hand⟩)
  rw [yMR (by rw [r1.length]; exact z)] at q
  exact q W H _ (.refl W H) rx
 ·cases ex:asL h x with
  | none=>rw [ex] at e; cases e
  | some xs =>
   rw [ex] at e
   exact .inl (go xs ex (Option.some.inj e).symm)
theorem jBS {lo hi:Option Expr} {ml mh:S→R S (Option Int)} {p2:Pos} (hK:X.K=B.K) (ha:SimE X B N WX a ma) (hl:SimO X B N WX lo ml) (hh:SimO X B N WX hi mh):SimE X B N WX (.Subscript a (.Slice lo hi none p2) pos) (eSl ma ml mh) :=
 (pe_slice (sl_list.or (sl_tupA.or sl_str)) ha hl hh).imp fun σ H Q ⟨W,s,r,h⟩=>⟨W,s,r,(h.bind r.slen).mono fun v W1 s1 H1 r1 _ q v' rv=>⟨W1,s1,r1,(q.bind r1.slen).mono fun l W2 s2 H2 r2 st2 q =>
  ⟨W2,s2,r2,(q.bind r2.slen).mono fun u W3 s3 H3 r3 st3 q=>by
   split at q
   ·rename_i z ez
    exact yRY hK r3.hr ((rv.on r1.slen st2.st).on r2.slen st3.st) ez fun W' H' z' g rz=>q W' H' (g.rel r3) (g.stepE r3.hr) z' rz
   ·exact q.elim⟩⟩⟩
def jGF (f g:AH→PV→PV→Option PV) (a b c:ME):ME:=fun s=>(a s).bind fun x s1=>(b s1).bind fun y s2=>match f s2.h x y with
 | some (.bl true)=>(c s2).bind fun w s3=>match g s3.h y w with
  | some z=>.ok z s3
  | none=>.bad
 | some (.bl false)=>.ok (.bl false) s2
 | _=>.bad
theorem jYV {f g:AH→PV→PV→Option PV} {r r':R2} (hf:OpSem X B f r) (hg:OpSem X B g r') {σ:L2.St} {H:Hp} {Q:VK} (h:tE B N WX (jGF f g ma mb mc) σ H Q) :
  tChain r r' (tE B N WX ma) (tE B N WX mb) (tE B N WX mc) σ H Q:=by
 obtain ⟨W,s,r,h⟩:=h
 refine ⟨W,s,r,(h.bind r.slen).mono fun x W1 s1 H1 r1 _ q x' rx=>⟨W1,s1,r1,(q.bind r1.slen).mono fun y W2 s2 H2 r2 st2 q y' ry=>?_⟩⟩
 have rx2:=rx.on r1.slen st2.st
 have h0:∃ b,f s2.h x y=some (.bl b):=by
  split at q
  ·rename_i e; exact ⟨true,e⟩
  ·rename_i e; exact ⟨false,e⟩
  ·exact q.elim
 obtain ⟨b,eb⟩:=h0
 refine hf W2 s2.h H2 x y _ x' y' _ r2.hr rx2 ry eb fun W3 H3 z' g3 rz=>?_
 refine ⟨b,yAL rz,?_⟩
 have r3:=g3.rel r2
 have st3:=g3.stepE (s:=s2) r2.hr
 cases b with
 | false =>
  rw [eb] at q
  exact iteF ((Post.from r2.slen st3 q).ok r3 _ (Rep.bl false).hand)
 | true =>
  rw [eb] at q
  refine iteT ⟨W3,s2,r3,((Post.from r2.slen st3 q).bind r3.slen).mono fun w W4 s4 H4 r4 st4 q w' rw'=>?_⟩
  exact jQC hg r4 ((ry.on r2.slen st3.st).on r3.slen st4.st) rw' q
theorem yFY {op op':CmpOp} {r r':R2} {f g:AH→PV→PV→Option PV} (ho:OpR X (compareOp op) r) (ho':OpR X (compareOp op') r') (hf:OpSem X B f r) (hg:OpSem X B g r') (ha:SimE X B N WX a ma) (hb:SimE X B N WX b mb) (hc:SimE X B N WX c mc)
  (hm:lastMarks [op,op'] [b,c]=false):SimE X B N WX (.Compare a [op,op'] [b,c] pos) (jGF f g ma mb mc) :=
 (pe_chain ho ho' ha hb hc hm).imp fun σ H Q h=>jYV hf hg h
theorem yBL {op op':CmpOp} {r r':R2} {f g:AH→PV→PV→Option PV} (ho:OpR X (compareOp op) r) (ho':OpR X (compareOp op') r') (hf:OpSem X B f r) (hg:OpSem X B g r') (ha:SimE X B N WX a ma) (hb:SimE X B N WX b mb) (hc:SimE X B N WX c mc)
  (hm:lastMarks [op,op'] [b,c]=false):SimT X B N WX (.Compare a [op,op'] [b,c] pos) (bM (jGF f g ma mb mc)) :=
 (pt_chain ho ho' ha hb hc hm).imp fun σ H Q h=>jYV hf hg (yQR h)
end
end Lp
set_option maxHeartbeats 4000000
namespace Lp
open PySem PySem.Spec PyProof.Rows L2
def jKF (neg:Bool):AH→PV→PV→Option PV:=fun h x y=>match jEW h x,jEW h y with
 | some d,some (.list ds)=>if dOk d&&dOk (.list ds) then some (.bl (neg ^^ ds.any fun z=>PyData.eqv z d)) else none
 | some d,some (.tuple ds)=>if dOk d&&dOk (.tuple ds) then some (.bl (neg ^^ ds.any fun z=>PyData.eqv z d)) else none
 | _,_=>none
def jWG (K:PySem.W.Frag) (neg:Bool):R2:=fun x y H Q=>∃ d ds,Dp K H x d∧Dp K H y (.tuple ds)∧SeqAt.shaped d=true∧SeqAt.shaped (.tuple ds)=true∧Q (.bl (neg ^^ ds.any fun z=>PyData.eqv z d)) H
section
variable {X:Cx} {B:Bs}
theorem jXP {A:Around} {ds:List PyData} {d:PyData} (h:SeqAt.shaped (.tuple ds)=true) (hu:A.units+66 < cLine):A.units+1+min (PyData.depthAll ds) d.depth < cLine:=by
 have h1:=SeqAt.depth_of_shaped h
 simp only [PyData.depth] at h1
 have h2:min (PyData.depthAll ds) d.depth≤PyData.depthAll ds:=Nat.min_le_left _ _
 omega
theorem yTR (hu:X.A.units+66 < cLine):OpR X (compareOp .In) (jWG X.K false):=by
 intro pins s σ H x y v u Q I rx ry h
 obtain ⟨d,ds,hd,he,sd,se,q⟩:=h
 obtain ⟨as,r1⟩:=Dp.reads I d x v hd rx
 obtain ⟨bs,r2⟩:=Dp.reads I (.tuple ds) y u he ry
 exact SeqAt.in_tuple_reads r2 r1 (SeqAt.canLay_of_shaped se) (SeqAt.canLay_of_shaped sd) (jXP se hu) ⟨.bl _,H,I,by simp; rfl,q⟩
theorem yPF (hu:X.A.units+66 < cLine):OpR X (compareOp .NotIn) (jWG X.K true):=by
 intro pins s σ H x y v u Q I rx ry h
 obtain ⟨d,ds,hd,he,sd,se,q⟩:=h
 obtain ⟨as,r1⟩:=Dp.reads I d x v hd rx
 obtain ⟨bs,r2⟩:=Dp.reads I (.tuple ds) y u he ry
 exact SeqAt.notIn_tuple_reads r2 r1 (SeqAt.canLay_of_shaped se) (SeqAt.canLay_of_shaped sd) (jXP se hu) ⟨.bl _,H,I,by simp; rfl,q⟩
def yFG (neg:Bool):AH→PV→PV→Option PV:=fun _ x y=>match x,y with
 | .str i,.str j=>match i.cps.toList with
  | [c]=>some (.bl (neg ^^ decide (c∈j.cps.toList)))
  | _=>some (.bl (neg ^^ !(Builtin.Str.occurrences j i 0 j.length 1).isEmpty))
 | _,_=>none
theorem yOH (hK:X.K=B.K):OpSem X B (jKF false) (fun x y H Q=>rInD X.K x y H Q∨jWG X.K false x y H Q):=by
 intro W h H x y z x' y' Q hr rx ry e q
 unfold jKF at e
 split at e
 ·rename_i d ds ed ef
  split at e
  ·rename_i hz
   cases e
   obtain ⟨z1,z2⟩:=Bool.and_eq_true_iff.mp hz
   obtain ⟨a1,a2⟩:=jCK hK hr rx ed
   obtain ⟨b1,b2⟩:=jCK hK hr ry ef
   exact .inl ⟨d,ds,a1,b1,wX a2 z1,wX b2 z2,q W H _ (.refl W H) (by simp only [Bool.false_xor]; exact (Rep.bl _).hand)⟩
  ·cases e
 ·rename_i d ds ed ef
  split at e
  ·rename_i hz
   cases e
   obtain ⟨z1,z2⟩:=Bool.and_eq_true_iff.mp hz
   obtain ⟨a1,a2⟩:=jCK hK hr rx ed
   obtain ⟨b1,b2⟩:=jCK hK hr ry ef
   exact .inr ⟨d,ds,a1,b1,wX a2 z1,wX b2 z2,q W H _ (.refl W H) (Rep.bl _).hand⟩
  ·cases e
 ·cases e
theorem yKZ (hK:X.K=B.K):OpSem X B (jKF true) (fun x y H Q=>rNotInD X.K x y H Q∨jWG X.K true x y H Q):=by
 intro W h H x y z x' y' Q hr rx ry e q
 unfold jKF at e
 split at e
 ·rename_i d ds ed ef
  split at e
  ·rename_i hz
   cases e
   obtain ⟨z1,z2⟩:=Bool.and_eq_true_iff.mp hz
   obtain ⟨a1,a2⟩:=jCK hK hr rx ed
   obtain ⟨b1,b2⟩:=jCK hK hr ry ef
   exact .inl ⟨d,ds,a1,b1,wX a2 z1,wX b2 z2,q W H _ (.refl W H) (by simp only [Bool.true_xor]; exact (Rep.bl _).hand)⟩
  ·cases e
 ·rename_i d ds ed ef
  split at e
  ·rename_i hz
   cases e
   obtain ⟨z1,z2⟩:=Bool.and_eq_true_iff.mp hz
   obtain ⟨a1,a2⟩:=jCK hK hr rx ed
   obtain ⟨b1,b2⟩:=jCK hK hr ry ef
   exact .inr ⟨d,ds,a1,b1,wX a2 z1,wX b2 z2,q W H _ (.refl W H) (Rep.bl _).hand⟩
  ·cases e
 ·cases e
def rInS (neg:Bool):R2:=fun x y H Q=>∃ i j:Str,x=.str i∧y=.str j∧Q (.bl (neg ^^ !(Builtin.Str.occurrences j i 0 j.length 1).isEmpty)) H
theorem op_inS:OpR X (compareOp .In) (rInS false):=by
 intro pins s σ H x y v u Q I rx ry h
 obtain ⟨i,j,e1,e2,q⟩:=h
 exact op_in_str pins s σ H x y v u Q I rx ry ⟨i,j,e1,e2,by simpa using q⟩
theorem yWZ:OpR X (compareOp .NotIn) (rInS true):=by
 intro pins s σ H x y v u Q I rx ry h
 obtain ⟨i,j,e1,e2,q⟩:=h
 exact L2.op_notin_str pins s σ H x y v u Q I rx ry ⟨i,j,e1,e2,by simpa using q⟩
theorem yWY {neg:Bool}:OpSem X B (yFG neg) (rInS neg):=by
 intro W h H x y z x' y' Q hr rx ry e q
 unfold yFG at e
 split at e
 ·rename_i i j
  refine ⟨i,j,(jAH rx).1,(jAH ry).1,?_⟩
  split at e
  ·rename_i c ec
   cases e
   have ei:i=⟨#[c]⟩:=by
    obtain ⟨a⟩:=i
    congr 1
    exact Array.toList_inj.mp ec
   subst ei
   have:=PySem.StrLaws.found_one j c
   rw [this]
   exact q W H _ (.refl W H) (Rep.bl _).hand
  ·cases e
   exact q W H _ (.refl W H) (Rep.bl _).hand
 ·cases e
end
def fIn:AH→PV→PV→Option PV:=fun h x y=>(yFG false h x y).or (jKF false h x y)
def jOZ:AH→PV→PV→Option PV:=fun h x y=>(yFG true h x y).or (jKF true h x y)
section
variable {X:Cx} {B:Bs}
theorem yWC (hu:X.A.units+66 < cLine):OpR X (compareOp .In) (fun x y H Q=>rInS false x y H Q∨(rInD X.K x y H Q∨jWG X.K false x y H Q)):=op_inS.or ((op_inD (by omega)).or (yTR hu))
theorem yTQ (hu:X.A.units+66 < cLine):OpR X (compareOp .NotIn) (fun x y H Q=>rInS true x y H Q∨(rNotInD X.K x y H Q∨jWG X.K true x y H Q)):=yWZ.or ((op_notInD (by omega)).or (yPF hu))
theorem ySE (hK:X.K=B.K):OpSem X B fIn (fun x y H Q=>rInS false x y H Q∨(rInD X.K x y H Q∨jWG X.K false x y H Q)):=yWY.or (yOH hK)
theorem yOD (hK:X.K=B.K):OpSem X B jOZ (fun x y H Q=>rInS true x y H Q∨(rNotInD X.K x y H Q∨jWG X.K true x y H Q)):=yWY.or (yKZ hK)
end
def CallSem (X:Cx) (B:Bs) (f:AH→List PV→Option PV) (r:List V→Hp→VK→Prop):Prop:=∀ (W:Wd) (h:AH) (H:Hp) (xs:List PV) (z:PV) (xs':List V) (Q:VK),HRel B W h H→RepTs B W H xs xs'→f h xs=some z →
 (∀ W' H' z',Grow W H W' H'→RepT B W' H' z z'→Q z' H')→r xs' H Q
def eCB (f:AH→List PV→Option PV) (ma:MA):ME:=fun s=>(ma s).bind fun vs s1=>match f s1.h vs with
 | some z=>.ok z s1
 | none=>.bad
section
variable {X:Cx} {B:Bs} {N:Ent} {WX:L2.WX} {x:Str} {p pos:Pos} {e:Expr} {es:List Expr} {ma:MA} {id T:String} {f:AH→List PV→Option PV} {r:List V→Hp→VK→Prop}
theorem yKD (hf:CallSem X B f r) {σ:L2.St} {H:Hp} {Q:VK} (h:tE B N WX (eCB f ma) σ H Q):tCB r (tA B N WX ma) σ H Q:=by
 obtain ⟨W,s,r0,h⟩:=h
 refine ⟨W,s,r0,(h.bind r0.slen).mono fun vs W1 s1 H1 r1 _ q vs' rvs=>?_⟩
 split at q
 ·rename_i z ez
  exact hf W1 s1.h H1 vs z vs' Q r1.hr rvs ez fun W' H' z' g rz=>q W' H' (g.rel r1) (g.stepE r1.hr) z' rz
 ·exact q.elim
theorem yGA (hc:CallR X (.builtin id) r) (hf:CallSem X B f r) (hg:Gl X x) (hm:X.mg x=none) (hv:bootBuiltins x=some (.builtin id)) (ha:SimA X B N WX (e :: es) ma) (hn:x ≠ "__name__") (hdb:(x == ("__debug__" : Str))=false)
  (he:starEach (e :: es) X.env=(false,eval e X.env) :: starEach es X.env) (hpl:(backTo pos (starEach es X.env)).any (·.1)=false):SimE X B N WX (.Call (.Name x p) (e :: es) [] pos) (eCB f ma) :=
 (pe_callB hc hg hm hv ha hn hdb he hpl).imp fun σ H Q h=>yKD hf h
theorem yBN (hc:CallR X (.type T) r) (hf:CallSem X B f r) (hg:Gl X x) (hm:X.mg x=none) (hv:bootBuiltins x=some (.type T)) (ha:SimA X B N WX (e :: es) ma) (hn:x ≠ "__name__") (hdb:(x == ("__debug__" : Str))=false)
  (he:starEach (e :: es) X.env=(false,eval e X.env) :: starEach es X.env) (hpl:(backTo pos (starEach es X.env)).any (·.1)=false):SimE X B N WX (.Call (.Name x p) (e :: es) [] pos) (eCB f ma) :=
 (pe_callTy hc hg hm hv ha hn hdb he hpl).imp fun σ H Q h=>yKD hf h
end
def vP:AH→List PV→Option PV:=fun h xs=>match xs with
 | [.str x]=>some (.int x.length)
 | [x]=>(asS h x).map fun ys=>.int ys.length
 | _=>none
def jIN:AH→List PV→Option PV:=fun _ xs=>match xs with
 | [.int i]=>some (.int i)
 | [.bl k]=>some (.int (if k then 1 else 0))
 | _=>none
def yFJ:PV→Option Bool
 | .bl b=>some b
 | _=>none
def jKG:AH→List PV→Option PV:=fun h xs=>match xs with
 | [x]=>match asL h x with
  | some ys=>(ys.mapM yFJ).map fun bs=>.bl (bs.all fun b=>b)
  | none=>none
 | _=>none
def jPV:AH→List PV→Option PV:=fun h xs=>match xs with
 | [x]=>(asS h x).map .lst
 | _=>none
def kJ:AH→List PV→Option PV:=fun h xs=>match xs with
 | [x]=>(asS h x).map .tup
 | _=>none
section
variable {X:Cx} {B:Bs} {W:Wd} {h:AH} {H:Hp}
theorem repts1 {x:PV} {vs:List V} (r:RepTs B W H [x] vs):∃ v,vs=[v]∧RepT B W H x v:=by
 cases vs with
 | nil=>exact r.elim
 | cons v t =>
  obtain ⟨r1,r2⟩:=r
  cases t with
  | nil=>exact ⟨v,rfl,r1⟩
  | cons _ _=>exact r2.elim
theorem repts2 {x y:PV} {vs:List V} (r:RepTs B W H [x,y] vs):∃ v w,vs=[v,w]∧RepT B W H x v∧RepT B W H y w:=by
 cases vs with
 | nil=>exact r.elim
 | cons v t =>
  obtain ⟨r1,r2⟩:=r
  obtain ⟨w,rfl,r3⟩:=repts1 r2
  exact ⟨v,w,rfl,r1,r3⟩
theorem yOE (hK:X.K=B.K):CallSem X B vP (fun xs H Q=>∃ x n,xs=[x]∧LenV X.K x H n∧Q (.int n) H):=by
 intro W h H xs z xs' Q hr rx e q
 unfold vP at e
 split at e
 ·rename_i x
  cases e
  obtain ⟨v,rfl,r1⟩:=repts1 rx
  obtain ⟨rfl,k⟩:=jAH r1
  exact ⟨_,x.length,rfl,⟨k.2,rfl⟩,q W H _ (.refl W H) (Rep.int _).hand⟩
 ·rename_i x _
  obtain ⟨v,rfl,r1⟩:=repts1 rx
  cases ex:asS h x with
  | none=>rw [ex] at e; cases e
  | some ys =>
   rw [ex] at e
   cases e
   obtain ⟨a,vs,rfl,h1,r2⟩:=jQF hK hr r1 ex
   refine ⟨_,ys.length,rfl,?_,q W H _ (.refl W H) (Rep.int _).hand⟩
   rcases h1 with h1 | h1
   ·exact .inr ⟨vs,h1,r2.length⟩
   ·exact .inl ⟨vs,h1,r2.length⟩
 ·cases e
theorem yLC:CallSem X B jIN (fun xs H Q=>(∃ i,xs=[.int i]∧Q (.int i) H)∨∃ k,xs=[.bl k]∧Q (.int (if k then 1 else 0)) H):=by
 intro W h H xs z xs' Q hr rx e q
 unfold jIN at e
 split at e
 ·rename_i i
  cases e
  obtain ⟨v,rfl,r1⟩:=repts1 rx
  exact .inl ⟨i,by rw [jAI r1],q W H _ (.refl W H) (Rep.int _).hand⟩
 ·rename_i k
  cases e
  obtain ⟨v,rfl,r1⟩:=repts1 rx
  exact .inr ⟨k,by rw [yAL r1],q W H _ (.refl W H) (Rep.int _).hand⟩
 ·cases e
theorem jXR:∀ {ys:List PV} {vs:List V} {bs:List Bool},Reps B W ys vs→ys.mapM yFJ=some bs→vs=bs.map V.bl
 | [],_,_,.nil,e=>by cases e; rfl
 | y :: ys,_,bs,.cons r t,e=>by
  rw [List.mapM_cons] at e
  cases y with
  | bl b =>
   cases eq:ys.mapM yFJ with
   | none=>rw [eq] at e; cases e
   | some cs =>
    rw [eq] at e
    cases e
    cases r
    rw [jXR t eq]
    rfl
  | _=>cases e
theorem yOI (hK:X.K=B.K):CallSem X B jKG (rAll X.K):=by
 intro W h H xs z xs' Q hr rx e q
 unfold jKG at e
 split at e
 ·rename_i x
  obtain ⟨v,rfl,r1⟩:=repts1 rx
  split at e
  ·rename_i ys ex
   obtain ⟨a,vs,rfl,h1,r2⟩:=jIW hr r1 ex
   cases eb:ys.mapM yFJ with
   | none=>rw [eb] at e; cases e
   | some bs =>
    rw [eb] at e
    cases e
    refine ⟨a,bs,rfl,by rw [← jXR r2 eb]; exact jKT hK h1,?_⟩
    have:(bs.all id)=(bs.all fun b=>b):=rfl
    rw [this]
    exact q W H _ (.refl W H) (Rep.bl _).hand
  ·cases e
 ·cases e
theorem yLA (hK:X.K=B.K):CallSem X B jPV (fun xs H Q=>∃ p ys,xs=[.ref p]∧(SqL X.K H p ys∨SqT X.K H p ys)∧∀ l,H l=none→Q (.ref l) (upd H l (.lst ys))):=by
 intro W h H xs z xs' Q hr rx e q
 unfold jPV at e
 split at e
 ·rename_i x
  obtain ⟨v,rfl,r1⟩:=repts1 rx
  cases ex:asS h x with
  | none=>rw [ex] at e; cases e
  | some ys =>
   rw [ex] at e
   cases e
   obtain ⟨a,vs,rfl,h1,r2⟩:=jQF hK hr r1 ex
   exact ⟨a,vs,rfl,h1.symm,fun p hp=>q _ _ _ (.new hp (show vs.length≤sizeLine from by rw [← r2.length]; exact yUW hr r1 ex)) (qZ (hr.fnone hp) r2).hand⟩
 ·cases e
theorem yGD (hK:X.K=B.K):CallSem X B kJ (fun xs H Q=>∃ p ys,xs=[.ref p]∧((SqL X.K H p ys∧∀ l,H l=none→Q (.ref l) (upd H l (.tup ys)))∨(SqT X.K H p ys∧Q (.ref p) H))):=by
 intro W h H xs z xs' Q hr rx e q
 unfold kJ at e
 split at e
 ·rename_i x
  obtain ⟨v,rfl,r1⟩:=repts1 rx
  cases ex:asS h x with
  | none=>rw [ex] at e; cases e
  | some ys =>
   rw [ex] at e
   cases e
   have go:asL h x=some ys→∃ p zs,[v]=[.ref p]∧((SqL X.K H p zs∧∀ l,H l=none→Q (.ref l) (upd H l (.tup zs)))∨(SqT X.K H p zs∧Q (.ref p) H)):=fun ex=>by
    obtain ⟨a,vs,rfl,h1,r2⟩:=jIW hr r1 ex
    exact ⟨a,vs,rfl,.inl ⟨jKT hK h1,fun p hp=>q _ _ _ (.new hp (show SzO (.tup vs) from by show vs.length≤sizeLine; rw [← r2.length]; exact jQG hr r1 ex)) (jBY (hr.fnone hp) r2).hand⟩⟩
   cases x with
   | tup xs =>
    cases ex
    obtain ⟨a,vs,rfl,h1,r2⟩:=jFC hK hr (show Rep B W (.tup _) v from r1)
    exact ⟨a,vs,rfl,.inr ⟨h1,q W H _ (.refl W H) r1⟩⟩
   | _=>exact go ex
 ·cases e
end
end Lp
set_option maxHeartbeats 4000000
namespace Lp
open PySem PySem.Spec PyProof.Rows L2
structure Loose (N:Ent) (W:Wd) (s:S) (σ:L2.St) (p:Addr):Prop where
 F:W.F p=none
 m:p∉W.m
 o:∀ (i:Nat) (x:PV),s.e[i]?=some (some x)→isOwn x=true→σ[i]?≠some (some (.ref p))
 e:N.H p=none
section
variable {B:Bs} {N:Ent} {W W':Wd} {s s':S} {σ:L2.St} {H H':Hp} {p:Addr} {o:HO}
theorem CellR.off {c:Cell} {a:Addr} (r:CellR B W H a c) (ne:a≠p):CellR B W (upd H p o) a c:=r.mono (.refl W) (fun u e=>by rw [upd_ne ne]; exact e)
def Wr (H:Hp) (p:Addr):Prop:=H p=none∨∃ o0,H p=some o0∧NT o0∧∀ c q,o0≠LamX.CodeO c q
theorem yIV {vs:List V} (h:H p=some (.lst vs)):Wr H p:=.inr ⟨_,h,jBT,yJP⟩
theorem yKO {T:List (Addr × Str)} (t:LamX.Tabs T H) (h:Wr H p):LamX.Tabs T (upd H p o):=by
 rcases h with h | ⟨o0,h,nt,nc⟩
 ·exact jXE t h
 ·exact jLW t h nt nc
theorem jJQ (r:Rel B N W s σ H) (l:Loose N W s σ p) (ho:SzO o) (wr:Wr H p):Rel B N W s σ (upd H p o):=by
 refine ⟨⟨fun a u e=>?_,r.hr.len,r.hr.nd,fun a hm=>?_,fun a u e nt=>?_,r.hr.fz,yKO r.hr.tb wr,fun n c a e1 e2=>?_⟩,?_,r.len,fun i x e=>?_,r.dis,r.pin⟩
 ·have ne:a≠p:=fun z=>by rw [z,l.F] at e; cases e
  rw [upd_ne ne]; exact r.hr.agree _ _ e
 ·have ne:a≠p:=fun z=>l.m (z ▸ hm)
  rw [upd_ne ne]; exact r.hr.mt a hm
 ·by_cases ha:a=p
  ·rw [ha,upd_same] at e
   cases e
   exact ho
  ·rw [upd_ne ha] at e
   exact r.hr.hz a u e nt
 ·obtain ⟨h1,h2⟩:=r.hr.cell n c a e1 e2
  exact ⟨h1,h2.off fun z=>l.m (z ▸ List.mem_of_getElem? e2)⟩
 ·have st:=r.st
  refine ⟨st.le,st.hl,st.dead,fun a u e nt nl=>?_,fun a e=>?_,fun a e ne nl=>?_,st.hm,st.mnew⟩
  ·have ne:a≠p:=fun z=>by rw [z,l.e] at e; cases e
   rw [upd_ne ne]; exact st.keep a u e nt nl
  ·by_cases ha:a=p
   ·rw [ha,upd_same] at e; cases e
   ·rw [upd_ne ha] at e; exact st.tr a e
  ·exact st.fgrow a e ne nl
 ·obtain ⟨v,e1,sl⟩:=r.env i x e
  refine ⟨v,e1,?_⟩
  cases x with
  | own xs =>
   obtain ⟨a,vs,rfl,h1,h2,h3,h4,h5⟩:=sl
   have ne:a≠p:=fun z=>l.o i _ e rfl (by rw [e1,z])
   exact ⟨a,vs,rfl,by rw [upd_ne ne]; exact h1,h2,h3,h4,h5⟩
  | don ks=>exact sl
  | _=>exact sl
theorem jXS (r:Rel B N W s σ H) (l:Loose N W s σ p) (hp:H p=some o) (nt:NT o):Rel B N ⟨upd W.F p o,W.m⟩ s σ H:=by
 have le:W.Le ⟨upd W.F p o,W.m⟩:=jCN l.F
 refine ⟨⟨fun a u e=>?_,r.hr.len,r.hr.nd,r.hr.mt,r.hr.hz,fun a u e=>?_,r.hr.tb,fun n c a e1 e2=>?_⟩,?_,r.len,fun i x e=>?_,r.dis,r.pin.trans le⟩
 ·by_cases ha:a=p
  ·have e:upd W.F p o a=some u:=e
   rw [ha,upd_same] at e
   rw [ha,hp]; exact e
  ·have e:upd W.F p o a=some u:=e
   rw [upd_ne ha] at e
   exact r.hr.agree _ _ e
 ·by_cases ha:a=p
  ·have e:upd W.F p o a=some u:=e
   rw [ha,upd_same] at e
   cases e
   exact nt
  ·have e:upd W.F p o a=some u:=e
   rw [upd_ne ha] at e
   exact r.hr.fz a u e
 ·obtain ⟨h1,h2⟩:=r.hr.cell n c a e1 e2
  have ne:a≠p:=fun z=>l.m (z ▸ List.mem_of_getElem? e2)
  exact ⟨by show upd W.F p o a=none; rw [upd_ne ne]; exact h1,h2.mono le fun _ z=>z⟩
 ·have st:=r.st
  refine ⟨st.le.trans le,st.hl,st.dead,st.keep,st.tr,fun a e ne nl=>?_,st.hm,st.mnew⟩
  have ha:a≠p:=fun z=>ne.ne (z ▸ l.e)
  show upd W.F p o a=none
  rw [upd_ne ha]; exact st.fgrow a e ne nl
 ·obtain ⟨v,e1,sl⟩:=r.env i x e
  refine ⟨v,e1,?_⟩
  cases x with
  | own xs =>
   obtain ⟨a,vs,rfl,h1,h2,h3,h4,h5⟩:=sl
   have ne:a≠p:=fun z=>l.o i _ e rfl (by rw [e1,z])
   exact ⟨a,vs,rfl,h1,h2.mono le,by show upd W.F p o a=none; rw [upd_ne ne]; exact h3,h4,h5⟩
  | don ks=>exact DonR.mono le sl
  | _=>exact Rep.mono le sl
theorem Rel.loose (r:Rel B N W s σ H) (hp:H p=none):Loose N W s σ p:=by
 refine ⟨r.hr.fnone hp,fun z=>r.hr.mt p z hp,fun i x e o q=>?_,r.st.tr _ hp⟩
 ·obtain ⟨v,e1,sl⟩:=r.env i x e
  rw [q] at e1
  cases e1
  cases x with
  | own xs =>
   obtain ⟨a,vs,e2,h1,_⟩:=sl
   cases e2
   rw [hp] at h1
   cases h1
  | don ks =>
   obtain ⟨a,vs,o',e2,h1,_⟩:=sl
   cases e2
   rw [r.hr.fnone hp] at h1
   cases h1
  | _=>cases o
theorem Loose.on (l:Loose N W s σ p) (hl:W.m.length=s.h.length) (st:StepE W s H W' s' H') (hp:FG (H p)):Loose N W' s' σ p :=
 ⟨st.st.fgrow p l.F hp fun z=>l.m z.mem,st.st.notm hl l.m hp.ne,fun i x e o=>l.o i x (st.eo i x e o) o,l.e⟩
theorem Loose.held (l:Loose N W s σ p) (st:StepE W s H W' s' H') (hp:H p=some o) (nt:NT o):H' p=some o:=st.st.keep p o hp nt fun z=>l.m z.mem
theorem StepE.put (st:StepE W s H W' s' H') (hp:H p=none) (hm:p∉W'.m):StepE W s H W' s' (upd H' p o):=by
 refine ⟨⟨st.st.le,st.st.hl,st.st.dead,fun a u e nt nl=>?_,fun a e=>?_,st.st.fgrow,st.st.hm,st.st.mnew⟩,st.eo⟩
 ·rw [upd_ne (ne_of_none e hp)]; exact st.st.keep a u e nt nl
 ·by_cases ha:a=p
  ·rw [ha,upd_same] at e; cases e
  ·rw [upd_ne ha] at e; exact st.st.tr a e
theorem StepE.keepNew (st:StepE W s H W' s' H') (hp:H p=none) (hF:W'.F p=none):StepE W s H ⟨upd W'.F p o,W'.m⟩ s' H':=by
 refine ⟨⟨st.st.le.trans (jCN hF),st.st.hl,st.st.dead,st.st.keep,st.st.tr,fun a e ne nl=>?_,st.st.hm,st.st.mnew⟩,st.eo⟩
 have ha:a≠p:=fun z=>ne.ne (z ▸ hp)
 show upd W'.F p o a=none
 rw [upd_ne ha]; exact st.st.fgrow a e ne nl
end
def jU (e:List (Option PV)):List Nat→List (Option PV)
 | []=>e
 | v :: vs=>(jU e vs).set v none
section
variable {B:Bs} {N:Ent} {W W':Wd} {s s':S} {σ:L2.St} {H H':Hp} {p:Addr} {o:HO}
theorem jHM (e:List (Option PV)):∀ vs:List Nat,(jU e vs).length=e.length
 | []=>rfl
 | v :: vs=>by unfold jU; rw [List.length_set,jHM e vs]
theorem jAM {e:List (Option PV)} {i:Nat} {x:PV}:∀ {vs:List Nat},(jU e vs)[i]?=some (some x)→e[i]?=some (some x)∧i∉vs
 | [],h=>⟨h,by simp⟩
 | v :: vs,h=>by
  unfold jU at h
  by_cases hi:v=i
  ·subst hi
   by_cases hv:v < (jU e vs).length
   ·rw [List.getElem?_set_self hv] at h; cases h
   ·rw [List.getElem?_eq_none (by simpa using hv)] at h; cases h
  ·rw [List.getElem?_set_ne hi] at h
   obtain ⟨h1,h2⟩:=jAM h
   exact ⟨h1,by simp only [List.mem_cons,not_or]; exact ⟨fun e=>hi e.symm,h2⟩⟩
theorem jDO {σ:L2.St} {i:Nat}:∀ {vs:List Nat},i∉vs→(wipe σ vs)[i]?=σ[i]?
 | [],_=>rfl
 | v :: vs,h=>by
  simp only [List.mem_cons,not_or] at h
  unfold wipe
  rw [List.getElem?_set_ne (fun e=>h.1 e.symm)]
  exact jDO h.2
theorem jQH {σ:L2.St} {i:Nat} {x:Option V}:∀ {vs:List Nat},i∈vs→wipe (σ.set i x) vs=wipe σ vs
 | [],h=>by cases h
 | v :: vs,h=>by
  unfold wipe
  by_cases hm:i∈vs
  ·rw [jQH hm]
  ·have hv:i=v:=by
    rcases List.mem_cons.mp h with z | z
    ·exact z
    ·exact absurd z hm
   subst hv
   have go:∀ ws:List Nat,i∉ws→wipe (σ.set i x) ws=(wipe σ ws).set i x:=by
    intro ws
    induction ws with
    | nil=>intro _; rfl
    | cons w ws ih =>
     intro hw
     simp only [List.mem_cons,not_or] at hw
     unfold wipe
     rw [ih hw.2,List.set_comm _ _ hw.1]
   rw [go vs hm,List.set_set]
theorem jFQ {i:Nat} {x:PV} {v:V} (r:Rel B N W s σ H) (rx:Rep B W x v):Rel B N W ⟨s.e.set i (some x),s.h⟩ (σ.set i (some v)) H:=by
 have nx:isOwn x=false:=by cases rx <;> rfl
 refine ⟨r.hr,r.st,by simp only [List.length_set]; exact r.len,fun j y e=>?_,fun j k y z a hjk e1 e2 o1 o2 s1 s2=>?_,r.pin⟩
 ·by_cases hj:i=j
  ·subst hj
   by_cases hi:i < s.e.length
   ·have e:(s.e.set i (some x))[i]?=some (some y):=e
    rw [List.getElem?_set_self hi] at e
    cases e
    exact ⟨v,List.getElem?_set_self (by rw [r.len]; exact hi),rx.slot⟩
   ·have e:(s.e.set i (some x))[i]?=some (some y):=e
    rw [List.getElem?_eq_none (by rw [List.length_set]; omega)] at e
    cases e
  ·have e:(s.e.set i (some x))[j]?=some (some y):=e
   rw [List.getElem?_set_ne hj] at e
   rw [List.getElem?_set_ne hj]
   exact r.env j y e
 ·have g:∀ (j:Nat) (y:PV),(s.e.set i (some x))[j]?=some (some y)→isOwn y=true→j≠i:=fun j y e o z=>by
   subst z
   by_cases hi:j < s.e.length
   ·rw [List.getElem?_set_self hi] at e
    cases e
    rw [nx] at o
    cases o
   ·rw [List.getElem?_eq_none (by rw [List.length_set]; omega)] at e
    cases e
  have hj:=g j y e1 o1
  have hk:=g k z e2 o2
  have e1:(s.e.set i (some x))[j]?=some (some y):=e1
  have e2:(s.e.set i (some x))[k]?=some (some z):=e2
  rw [List.getElem?_set_ne (Ne.symm hj)] at e1 s1
  rw [List.getElem?_set_ne (Ne.symm hk)] at e2 s2
  exact r.dis j k y z a hjk e1 e2 o1 o2 s1 s2
theorem yLH {vs:List Nat} (r:Rel B N W s σ H):Rel B N W ⟨jU s.e vs,s.h⟩ (wipe σ vs) H:=by
 refine ⟨r.hr,r.st,by simp only [jHM,wipe_length]; exact r.len,fun j y e=>?_,fun j k y z a hjk e1 e2 o1 o2 s1 s2=>?_,r.pin⟩
 ·obtain ⟨e1,hj⟩:=jAM e
  rw [jDO hj]
  exact r.env j y e1
 ·obtain ⟨f1,hj⟩:=jAM e1
  obtain ⟨f2,hk⟩:=jAM e2
  rw [jDO hj] at s1
  rw [jDO hk] at s2
  exact r.dis j k y z a hjk f1 f2 o1 o2 s1 s2
theorem jXT {σ2:L2.St} {vs:List Nat} (r:Rel B N W s σ2 H) (e:wipe σ2 vs=wipe σ vs):Rel B N W ⟨jU s.e vs,s.h⟩ σ H:=by
 have hlen:σ2.length=σ.length:=by
  have:=congrArg List.length e
  rw [wipe_length,wipe_length] at this
  exact this
 have g:∀ j,j∉vs→σ2[j]?=σ[j]?:=fun j hj=>by rw [← jDO (σ:=σ2) hj,e,jDO hj]
 refine ⟨r.hr,r.st,by simp only [jHM]; rw [← hlen]; exact r.len,fun j y e=>?_,fun j k y z a hjk e1 e2 o1 o2 s1 s2=>?_,r.pin⟩
 ·obtain ⟨e1,hj⟩:=jAM e
  rw [← g j hj]
  exact r.env j y e1
 ·obtain ⟨f1,hj⟩:=jAM e1
  obtain ⟨f2,hk⟩:=jAM e2
  rw [← g j hj] at s1
  rw [← g k hk] at s2
  exact r.dis j k y z a hjk f1 f2 o1 o2 s1 s2
end
inductive Tg where
 | n (i:Nat) | t (ts:List Tg)
mutual
def gT (K:PySem.W.Frag):Tg→TG
 | .n i=>gName i
 | .t ts=>gTup K ts.length (gTs K ts)
def gTs (K:PySem.W.Frag):List Tg→TGs
 | []=>gNil
 | t :: ts=>gCons (gT K t) (gTs K ts)
end
mutual
def qK:Tg→PV→List (Option PV)→Option (List (Option PV))
 | .n i,v,e=>if isOwn v then none else some (e.set i (some v))
 | .t ts,.tup xs,e=>bindTs ts xs e
 | .t _,_,_=>none
def bindTs:List Tg→List PV→List (Option PV)→Option (List (Option PV))
 | [],[],e=>some e
 | t :: ts,x :: xs,e=>match qK t x e with
  | some e1=>bindTs ts xs e1
  | none=>none
 | _,_,_=>none
end
mutual
def Tg.sl:Tg→List Nat
 | .n i=>[i]
 | .t ts=>Tg.sls ts
def Tg.sls:List Tg→List Nat
 | []=>[]
 | g :: gs=>g.sl++Tg.sls gs
end
section
variable {X:Cx} {B:Bs} {N:Ent} {W W':Wd} {s s':S} {σ:L2.St} {H H':Hp} {vs:List Nat}
theorem Reps.len_of {xs:List PV} {us:List V} (r:Reps B W xs us) {n:Nat} (h:xs.length=n):us.length=n:=by rw [← r.length]; exact h
mutual
theorem jRG:∀ {ts:List Tg} {xs:List PV} {e e':List (Option PV)},bindTs ts xs e=some e'→xs.length=ts.length
 | [],[],_,_,_=>rfl
 | [],_ :: _,_,_,h=>by simp [bindTs] at h
 | _ :: _,[],_,_,h=>by simp [bindTs] at h
 | t :: ts,x :: xs,e,e',h=>by
  rw [bindTs] at h
  cases q:qK t x e with
  | none=>rw [q] at h; cases h
  | some e1 =>
   rw [q] at h
   exact congrArg Nat.succ (jRG h)
end
mutual
theorem yDB (hK:X.K=B.K):∀ {t:Tg} {x:PV} {v:V} {s:S} {σ:L2.St} {e':List (Option PV)} {Q:L2.St→Hp→Prop},(∀ i∈t.sl,i∈vs)→Rel B N W s σ H→Rep B W x v→qK t x s.e=some e' →
  (∀ σ',Rel B N W ⟨e',s.h⟩ σ' H→wipe σ' vs=wipe σ vs→Q σ' H)→gT X.K t v σ H Q
 | .n i,x,v,s,σ,e',Q,hv,r,rx,hb,k=>by
  rw [qK] at hb
  split at hb
  ·cases hb
  ·cases hb
   exact k _ (jFQ r rx) (jQH (hv i (by simp [Tg.sl])))
 | .t ts,x,v,s,σ,e',Q,hv,r,rx,hb,k=>by
  cases x with
  | tup xs =>
   rw [qK] at hb
   obtain ⟨a,us,rfl,h1,ru⟩:=jFC hK r.hr rx
   exact ⟨a,us,rfl,h1,ru.len_of (jRG hb),gTs_ok hK (by rw [Tg.sl] at hv; exact hv) r ru hb k⟩
  | _=>simp [qK] at hb
theorem gTs_ok (hK:X.K=B.K):∀ {ts:List Tg} {xs:List PV} {us:List V} {s:S} {σ:L2.St} {e':List (Option PV)} {Q:L2.St→Hp→Prop},(∀ i∈Tg.sls ts,i∈vs)→Rel B N W s σ H→Reps B W xs us→bindTs ts xs s.e=some e' →
  (∀ σ',Rel B N W ⟨e',s.h⟩ σ' H→wipe σ' vs=wipe σ vs→Q σ' H)→gTs X.K ts us σ H Q
 | [],[],_,s,σ,e',Q,_,r,.nil,hb,k=>by
  rw [bindTs] at hb
  cases hb
  exact ⟨rfl,k σ r rfl⟩
 | [],_ :: _,_,_,_,_,_,_,_,_,hb,_=>by simp [bindTs] at hb
 | _ :: _,[],_,_,_,_,_,_,_,_,hb,_=>by simp [bindTs] at hb
 | t :: ts,x :: xs,_,s,σ,e',Q,hv,r,.cons rx rt,hb,k=>by
  rw [bindTs] at hb
  cases q:qK t x s.e with
  | none=>rw [q] at hb; cases hb
  | some e1 =>
   rw [q] at hb
   refine ⟨_,_,rfl,yDB hK (fun i hi=>hv i (by rw [Tg.sls]; exact List.mem_append_left _ hi)) r rx q fun σ1 r1 w1=>?_⟩
   exact gTs_ok hK (s:=⟨e1,s.h⟩) (fun i hi=>hv i (by rw [Tg.sls]; exact List.mem_append_right _ hi)) r1 rt hb fun σ2 r2 w2=>k σ2 r2 (w2.trans w1)
end
end
end Lp
set_option maxHeartbeats 4000000
namespace Lp
open PySem PySem.Spec PyProof.Rows L2
structure Sr where
 xs:List PV
 w:List (Nat × List PV)
 o:Bool
def qO (h:AH) (r:Sr):Prop:=∀ p∈r.w,h[p.1]?=some (some (.lst p.2))
instance {h:AH} {r:Sr}:Decidable (qO h r):=inferInstanceAs (Decidable (∀ p∈r.w,h[p.1]?=some (some (.lst p.2))))
structure Walks (B:Bs) (J:It) (r:Sr) (W:Wd) (s:S) (H:Hp):Prop where
 go:∀ (W':Wd) (s':S) (H':Hp),HRel B W' s'.h H'→W.Le W'→qO s'.h r→(r.o=true→Step W s.h H W' s'.h H')→∀ (i:Nat) (x:PV),r.xs[i]?=some x→J.go i H'∧∀ v H'',J.yld i H' v H''→∃ W'',Grow W' H' W'' H''∧Rep B W'' x v
 stop:∀ (W':Wd) (s':S) (H':Hp),HRel B W' s'.h H'→W.Le W'→qO s'.h r→(r.o=true→Step W s.h H W' s'.h H')→∀ i:Nat,r.xs.length≤i→J.stop i H'
def tI (B:Bs) (N:Ent) (WX:L2.WX) (m:S→R S Sr):TI:=fun σ H R=>∃ W s,Rel B N W s σ H∧Post B N WX W s H σ (m s) fun r W' s' H'=>qO s'.h r→r.xs.length≤sizeLine→∀ J,Walks B J r W' s' H'→R J H'
abbrev SimI (X:Cx) (B:Bs) (N:Ent) (WX:L2.WX) (tg:Expr) (e:Expr) (m:S→R S Sr):Prop:=PI X tg e (tI B N WX m)
theorem yBA {X:Cx} {tg e:Expr} {t t':TI} (h:PI X tg e t) (w:∀ σ H Q,t' σ H Q→t σ H Q):PI X tg e t':=⟨fun pins s σ H Q I q=>h.run pins s σ H Q I (w _ _ _ q)⟩
def srcOf (h:AH):PV→Option Sr
 | .str x=>some ⟨x.cps.toList.map fun c=>.str ⟨#[c]⟩,[],false⟩
 | .tup xs=>some ⟨xs,[],false⟩
 | .lst xs=>some ⟨xs,[],false⟩
 | .own xs=>some ⟨xs,[],true⟩
 | .cel n=>match h[n]? with
  | some (some (.lst xs))=>some ⟨xs,[(n,xs)],false⟩
  | _=>none
 | _=>none
def jFM (m:ME):S→R S Sr:=fun s=>(m s).bind fun v s1=>match srcOf s1.h v with
 | some r=>.ok r s1
 | none=>.bad
def jKK (m:MA):S→R S Sr:=fun s=>(m s).bind fun v s1=>match v with
 | [.int j]=>if j.natAbs≤16777216 then .ok ⟨(List.range j.toNat).map fun (k:Nat)=>.int k,[],false⟩ s1 else .bad
 | _=>.bad
def jIO (xs ys:List PV):List PV:=List.zipWith (fun x y=>.tup [x,y]) xs ys
def jCH:Nat→List PV→List PV
 | _,[]=>[]
 | n,x :: xs=>.tup [.int (n:Int),x] :: jCH (n+1) xs
def lsrc (h:AH):PV→Option Sr
 | .tup _=>none
 | .str _=>none
 | x=>srcOf h x
def yCP:PV→Option (List PV)
 | .tup xs=>some xs
 | _=>none
def yND (m:MA):S→R S Sr:=fun s=>(m s).bind fun v s1=>match v with
 | [x,y]=>match yCP x,yCP y with
  | some xs,some ys=>.ok ⟨jIO xs ys,[],false⟩ s1
  | _,_=>match lsrc s1.h x,lsrc s1.h y with
   | some a,some b=>.ok ⟨jIO a.xs b.xs,a.w++b.w,a.o||b.o⟩ s1
   | _,_=>.bad
 | _=>.bad
theorem jUK {h:AH} {x:PV} {r:Sr} (e:lsrc h x=some r):srcOf h x=some r∧(∀ xs,x≠.tup xs)∧∀ y,x≠.str y:=by
 cases x with
 | tup xs=>cases e
 | str x=>cases e
 | _=>exact ⟨e,(fun _ z=>nomatch z),(fun _ z=>nomatch z)⟩
theorem jQI {x:PV} {xs:List PV} (e:yCP x=some xs):x=.tup xs:=by
 cases x with
 | tup ys=>cases e; rfl
 | _=>cases e
section
variable {X:Cx} {B:Bs} {N:Ent} {WX:L2.WX} {W W':Wd} {s s':S} {σ:L2.St} {H H':Hp} {tg e:Expr} {m:ME} {ma:MA}
theorem jAS {h:AH} {v:PV} {r:Sr} (e:srcOf h v=some r):qO h r:=by
 intro p hp
 cases v with
 | cel n =>
  unfold srcOf at e
  dsimp only at e
  split at e
  ·rename_i xs q
   cases e
   simp only [List.mem_singleton] at hp
   rw [hp]; exact q
  ·cases e
 | str x=>cases e; cases hp
 | tup x=>cases e; cases hp
 | lst x=>cases e; cases hp
 | own x=>cases e; cases hp
 | _=>cases e
theorem yAH {x:PV} {x':V} {r:Sr} {Wq:Wd} {hq:AH} {Hq:Hp} (hr:HRel B Wq hq Hq) (rx:RepT B Wq Hq x x') (e:srcOf hq x=some r) (nt:∀ xs,x≠.tup xs) (ns:∀ y,x≠.str y):r.xs.length≤sizeLine:=by
 refine jQG hr rx (xs:=r.xs) ?_
 cases x with
 | tup xs=>exact absurd rfl (nt xs)
 | str y=>exact absurd rfl (ns y)
 | lst xs=>cases e; rfl
 | own xs=>cases e; rfl
 | cel n =>
  unfold srcOf at e
  unfold asL
  dsimp only at e ⊢
  split at e
  ·cases e; rename_i q; first | rw [q] | rfl
  ·cases e
 | _=>cases e
theorem yNB {v:PV} {v':V} {r:Sr} (rx:RepT B W H v v') (e:srcOf s.h v=some r) (nt:∀ xs,v≠.tup xs) (ns:∀ x,v≠.str x) (hr0:HRel B W s.h H) :
  ∃ a,v'=.ref a∧∀ (W':Wd) (s':S) (H':Hp),HRel B W' s'.h H'→W.Le W'→qO s'.h r→(r.o=true→Step W s.h H W' s'.h H')→∃ vs,SqL X.K H' a vs∧Reps B W' r.xs vs:=by
 cases v with
 | tup xs=>exact absurd rfl (nt xs)
 | str x=>exact absurd rfl (ns x)
 | lst xs =>
  cases e
  cases (show Rep B W (.lst xs) v' from rx) with
  | lst h r=>exact ⟨_,rfl,fun W' s' H' hr le _ _=>⟨_,.inl (.inl (hr.agree _ _ (le.F _ _ h))),r.mono le⟩⟩
 | own xs =>
  cases e
  obtain ⟨a,vs,rfl,h,r,nm⟩:=rx
  exact ⟨a,rfl,fun W' s' H' hr le _ st=>⟨vs,.inl (.inl ((st rfl).keep _ _ h jBT fun z=>nm z.mem)),r.mono le⟩⟩
 | cel n =>
  cases (show Rep B W (.cel n) v' from rx) with
  | @cel _ a h =>
   unfold srcOf at e
   dsimp only at e
   split at e
   ·rename_i xs q
    cases e
    refine ⟨a,rfl,fun W' s' H' hr le st _=>?_⟩
    obtain ⟨_,vs,h2,r2⟩:=hr.cell n _ a (st (n,xs) (by simp)) (le.at h)
    exact ⟨vs,.inl (.inl h2),r2⟩
   ·cases e
 | _=>cases e
theorem jJV {xs:List PV} {vs:List V} (r:Reps B W xs vs) {i:Nat} (h:xs.length≤i):vs.length≤i:=by rw [← r.length]; exact h
theorem qI (hK:X.K=B.K) (he:SimE X B N WX e m):SimI X B N WX tg e (jFM m):=by
 refine ⟨fun pins sp σ H RR I h=>?_⟩
 obtain ⟨W,s,r,h⟩:=h
 have q:=h.bind r.slen
 cases em:m s with
 | bad=>rw [em] at q; exact q.elim
 | exc x s' =>
  refine (pi_list he).run pins sp σ H RR I ⟨W,s,r,?_⟩
  rw [em] at q ⊢
  exact q
 | ok v s1 =>
  rw [em] at q
  have done:∀ (P:V→Hp→Prop),(∀ W1 H1,Rel B N W1 s1 σ H1→StepE W s H W1 s1 H1→Post B N WX W1 s1 H1 σ (match srcOf s1.h v with | some r=>R.ok r s1 | none=>.bad) (fun r W' s' H'=>qO s'.h r→r.xs.length≤sizeLine→∀ J,Walks B J r W' s' H'→RR J H')→∀ v',RepT B W1 H1 v v'→P v' H1)→tE B N WX m σ H P:=fun P k=>by
   refine ⟨W,s,r,?_⟩
   rw [em]
   exact fun W1 H1 r1 st v' rv=>k W1 H1 r1 st (q W1 H1 r1 st) v' rv
  have lst:(∀ xs,v≠.tup xs)→(∀ x,v≠.str x)→iList X.K (tE B N WX m) σ H RR:=fun nt ns=>done _ fun W1 H1 r1 st q v' rv=>by
   split at q
   ·rename_i rr er
    obtain ⟨a,rfl,hl⟩:=yNB (X:=X) rv er nt ns r1.hr
    obtain ⟨vs,h1,hrv⟩:=hl W1 s1 H1 r1.hr (.refl _) (jAS er) fun _=>Step.refl r1.hr
    have k:=q.ok r1 (jAS er) (yAH r1.hr rv er nt ns)
    refine ⟨a,rfl,⟨vs,h1⟩,k _ ⟨fun W' s' H' hr le st2 so i x ex=>?_,fun W' s' H' hr le st2 so i hi=>?_⟩⟩
    ·obtain ⟨vs,h1,h2⟩:=hl W' s' H' hr le st2 so
     obtain ⟨u,e1,ru⟩:=h2.get ex
     refine ⟨⟨vs,u,h1,e1⟩,fun w H'' y=>?_⟩
     obtain ⟨rfl,y⟩:=y
     have:=y vs h1
     rw [e1] at this
     cases this
     exact ⟨W',.refl _ _,ru⟩
    ·obtain ⟨vs,h1,h2⟩:=hl W' s' H' hr le st2 so
     exact ⟨vs,h1,jJV h2 hi⟩
   ·exact q.elim
  cases v with
  | tup xs =>
   refine (pi_tup he).run pins sp σ H RR I (done _ fun W1 H1 r1 st q v' rv=>?_)
   have k0:=(show Post B N WX W1 s1 H1 σ (R.ok (Sr.mk xs [] false) s1) (fun r W' s' H'=>qO s'.h r→r.xs.length≤sizeLine→∀ J,Walks B J r W' s' H'→RR J H') from q).ok r1 (fun _ hp=>nomatch hp)
   cases (show Rep B W1 (.tup xs) v' from rv) with
   | @tup _ a vs h1 h2 =>
    have hl:∀ W' s' H',HRel B W' s' H'→W1.Le W'→SqT X.K H' a vs:=fun W' s' H' hr le=>by
     rcases h1 with h1 | ⟨o,its,n,k1,k2,k3,k4,k5⟩
     ·exact .inl (.inl (hr.agree _ _ (le.F _ _ h1)))
     ·exact .inr ⟨o,its,n,hK ▸ k1,k2,k3,k4,k5⟩
    have k:=k0 (by show xs.length≤sizeLine; exact jPW r1.hr (.tup h1 h2))
    refine ⟨a,rfl,⟨vs,hl W1 s1.h H1 r1.hr (.refl _)⟩,k _ ⟨fun W' s' H' hr le st2 so i x ex=>?_,fun W' s' H' hr le st2 so i hi=>?_⟩⟩
    ·obtain ⟨u,e1,ru⟩:=(h2.mono le).get ex
     refine ⟨⟨vs,u,hl W' s'.h H' hr le,e1⟩,fun w H'' y=>?_⟩
     obtain ⟨rfl,y⟩:=y
     have:=y vs (hl W' s'.h _ hr le)
     rw [e1] at this
     cases this
     exact ⟨W',.refl _ _,ru⟩
    ·exact ⟨vs,hl W' s'.h H' hr le,jJV h2 hi⟩
  | str x =>
   refine (pi_str he).run pins sp σ H RR I (done _ fun W1 H1 r1 st q v' rv=>?_)
   have k0:=(show Post B N WX W1 s1 H1 σ (R.ok (Sr.mk (x.cps.toList.map fun c=>.str ⟨#[c]⟩) [] false) s1) (fun r W' s' H'=>qO s'.h r→r.xs.length≤sizeLine→∀ J,Walks B J r W' s' H'→RR J H') from q).ok r1 (fun _ hp=>nomatch hp)
   obtain ⟨e1,kx⟩:=jAH rv
   have k:=k0 (by show (x.cps.toList.map fun c=>PV.str ⟨#[c]⟩).length≤sizeLine; rw [List.length_map,Array.length_toList]; exact kx.2)
   refine ⟨x,e1,k _ ⟨fun W' s' H' hr le st2 so i y ey=>?_,fun W' s' H' hr le st2 so i hi=>?_⟩⟩
   ·have ey:(x.cps.toList.map fun c=>PV.str ⟨#[c]⟩)[i]?=some y:=ey
    rw [List.getElem?_map] at ey
    cases ec:x.cps.toList[i]? with
    | none=>rw [ec] at ey; cases ey
    | some c =>
     rw [ec] at ey
     cases ey
     have hi:i < x.cps.size:=by simpa using (List.getElem?_eq_some_iff.mp ec).1
     refine ⟨hi,fun w H'' y=>?_⟩
     obtain ⟨rfl,d,e2,rfl⟩:=y
     have ed:d=c:=by
      have e3:x.cps.toList[i]?=x.cps[i]?:=by simp
      rw [e3,e2] at ec
      exact Option.some.inj ec
     subst ed
     refine ⟨W',.refl _ _,.str _ (jUD kx ?_ fun z hz=>?_)⟩
     ·show 1≤x.cps.size
      omega
     ·have:z=d:=by simpa using hz
      rw [this]; exact List.mem_of_getElem? ec
   ·have hi:(x.cps.toList.map fun c=>PV.str ⟨#[c]⟩).length≤i:=hi
    rw [List.length_map,Array.length_toList] at hi
    exact hi
  | lst xs=>exact (pi_list he).run pins sp σ H RR I (lst (by intro _ z; cases z) (by intro _ z; cases z))
  | scr xs=>exact (pi_list he).run pins sp σ H RR I (lst (by intro _ z; cases z) (by intro _ z; cases z))
  | own xs=>exact (pi_list he).run pins sp σ H RR I (lst (by intro _ z; cases z) (by intro _ z; cases z))
  | cel xs=>exact (pi_list he).run pins sp σ H RR I (lst (by intro _ z; cases z) (by intro _ z; cases z))
  | _=>exact (pi_list he).run pins sp σ H RR I (lst (by intro _ z; cases z) (by intro _ z; cases z))
theorem jDW {a:Expr} {p pos:Pos} (hg:Gl X "range") (hm:X.mg "range" = none) (ha:SimA X B N WX [a] ma) (hs:starEach [a] X.env=[(false,eval a X.env)]):SimI X B N WX tg (.Call (.Name "range" p) [a] [] pos) (jKK ma) :=
 yBA (pi_range1 hg hm ha hs) fun σ H Q ⟨W,s,r,h⟩=>⟨W,s,r,(h.bind r.slen).mono fun v W1 s1 H1 r1 _ q v' rv=>by
  split at q
  ·rename_i j
   split at q
   ·rename_i hj
    obtain ⟨u,rfl,ru⟩:=repts1 rv
    have k:=q.ok r1 (fun _ hp=>nomatch hp) (by show ((List.range j.toNat).map fun (k:Nat)=>PV.int k).length≤sizeLine; rw [List.length_map,List.length_range,sizeLine_eq]; omega)
    refine ⟨j,by rw [jAI ru],by omega,by omega,k _ ⟨fun W' s' H' hr le st2 so i x ex=>?_,fun W' s' H' hr le st2 so i hi=>?_⟩⟩
    ·have ex:((List.range j.toNat).map fun (k:Nat)=>PV.int k)[i]?=some x:=ex
     rw [List.getElem?_map] at ex
     cases ei:(List.range j.toNat)[i]? with
     | none=>rw [ei] at ex; cases ex
     | some k =>
      rw [ei] at ex
      cases ex
      obtain ⟨h1,h2⟩:=List.getElem?_eq_some_iff.mp ei
      simp only [List.getElem_range] at h2
      simp only [List.length_range] at h1
      refine ⟨h1,fun w H'' y=>?_⟩
      obtain ⟨rfl,rfl⟩:=y
      exact ⟨W',.refl _ _,by rw [← h2]; simpa using Rep.int (i:Int)⟩
    ·have hi:((List.range j.toNat).map fun (k:Nat)=>PV.int k).length≤i:=hi
     rw [List.length_map,List.length_range] at hi
     exact hi
   ·exact q.elim
  ·exact q.elim⟩
theorem jOH:∀ {xs:List PV} {n i:Nat} {z:PV},(jCH n xs)[i]?=some z→∃ x,xs[i]?=some x∧z=.tup [.int ((n+i:Nat):Int),x]
 | [],_,_,_,h=>by simp [jCH] at h
 | x :: xs,n,0,z,h=>by
  simp only [jCH,List.getElem?_cons_zero,Option.some.injEq] at h
  exact ⟨x,rfl,by rw [← h]; rfl⟩
 | x :: xs,n,i+1,z,h=>by
  simp only [jCH,List.getElem?_cons_succ] at h
  obtain ⟨y,e1,e2⟩:=jOH h
  exact ⟨y,by simpa using e1,by rw [e2]; congr 3; congr 1; omega⟩
theorem jGW:∀ {xs:List PV} {n:Nat},(jCH n xs).length=xs.length
 | [],_=>rfl
 | _ :: xs,n=>by simp only [jCH,List.length_cons,jGW]
theorem jJY {T:Addr} {x y:PV} {u v:V} {Wq:Wd} {Hq:Hp} {hq:AH} (hr:HRel B Wq hq Hq) (hT:Hq T=none) (rx:Rep B Wq x u) (ry:Rep B Wq y v):∃ W'',Grow Wq Hq W'' (upd Hq T (.tup [u,v]))∧Rep B W'' (.tup [x,y]) (.ref T) :=
 ⟨_,.new hT (by show 2≤sizeLine; decide),jBY (hr.fnone hT) (.cons rx (.cons ry .nil))⟩
theorem yDJ {h:AH} {a b:Sr} {zs:List PV} {o:Bool} (st:qO h ⟨zs,a.w++b.w,o⟩):qO h a:=fun p hp=>st p (List.mem_append_left _ hp)
theorem yDI {h:AH} {a b:Sr} {zs:List PV} {o:Bool} (st:qO h ⟨zs,a.w++b.w,o⟩):qO h b:=fun p hp=>st p (List.mem_append_right _ hp)
theorem yIS {xs ys:List PV} {vs ws:List V} {Wq:Wd} {Hq:Hp} {hq:AH} {i:Nat} {z:PV} (hr:HRel B Wq hq Hq) (h2:Reps B Wq xs vs) (h4:Reps B Wq ys ws) (ez:(jIO xs ys)[i]?=some z) :
  ∃ x y u v,xs[i]?=some x∧ys[i]?=some y∧vs[i]?=some u∧ws[i]?=some v∧Rep B Wq x u∧Rep B Wq y v∧z=.tup [x,y]:=by
 unfold jIO at ez
 rw [List.getElem?_zipWith] at ez
 cases ex:xs[i]? with
 | none=>rw [ex] at ez; cases ez
 | some x =>
  cases ey:ys[i]? with
  | none=>rw [ex,ey] at ez; cases ez
  | some y =>
   rw [ex,ey] at ez
   cases ez
   obtain ⟨u,e1,ru⟩:=h2.get ex
   obtain ⟨v,e2,rv⟩:=h4.get ey
   exact ⟨x,y,u,v,rfl,rfl,e1,e2,ru,rv,rfl⟩
theorem yNV {a b:Expr} {p pos tpos:Pos} {elts:List Expr} {kk:Nat} (hK:X.K=B.K) (hg:Gl X "zip") (hm:X.mg "zip" = none) (ha:SimA X B N WX [a,b] ma) (hs:starEach [a,b] X.env=[(false,eval a X.env),(false,eval b X.env)]) (hs2:starEach [b] X.env=[(false,eval b X.env)]) (hpl:(backTo pos (starEach [b] X.env)).any (·.1)=false):SimI X B N WX (.Tuple elts kk tpos) (.Call (.Name "zip" p) [a,b] [] pos) (yND ma) :=
 yBA (RZ.pi_zipA hg hm ha (by rw [hs,hs2]) hpl) fun σ H Q ⟨W,s,r,h⟩=>⟨W,s,r,(h.bind r.slen).mono fun v W1 s1 H1 r1 _ q v' rv=>by
  split at q
  ·rename_i x y
   obtain ⟨u,u2,rfl,ru,ru2⟩:=repts2 rv
   split at q
   ·rename_i xs ys ex ey
    have ex:=jQI ex
    have ey:=jQI ey
    subst ex ey
    have k0:=q.ok r1 (fun _ hp=>nomatch hp)
    cases (show Rep B W1 (.tup xs) u from ru) with
    | @tup _ a vs h1 h2 =>
     cases (show Rep B W1 (.tup ys) u2 from ru2) with
     | @tup _ b ws h3 h4 =>
      have hl:∀ {a:Addr} {vs:List V},TupAt B W1 a vs→∀ W' s' H',HRel B W' s' H'→W1.Le W'→SqT X.K H' a vs:=fun h1 W' s' H' hr le=>by
       rcases h1 with h1 | ⟨o,its,n,k1,k2,k3,k4,k5⟩
       ·exact .inl (.inl (hr.agree _ _ (le.F _ _ h1)))
       ·exact .inr ⟨o,its,n,hK ▸ k1,k2,k3,k4,k5⟩
      have k:=k0 (by
       have:=jPW r1.hr (.tup h1 h2)
       show (jIO xs ys).length≤sizeLine
       unfold jIO
       rw [List.length_zipWith]
       omega)
      refine ⟨a,b,vs,ws,rfl,.inr ⟨hl h1 _ _ _ r1.hr (.refl _),hl h3 _ _ _ r1.hr (.refl _),k _ ⟨fun W' s' H' hr le st2 so i z ez=>?_,fun W' s' H' hr le st2 so i hi=>?_⟩⟩⟩
      ·obtain ⟨x,y,u,v,e1,e2,e3,e4,rx,ry,rfl⟩:=yIS hr (h2.mono le) (h4.mono le) ez
       refine ⟨⟨vs,ws,u,v,hl h1 _ _ _ hr le,hl h3 _ _ _ hr le,e3,e4⟩,fun w H'' yl=>?_⟩
       obtain ⟨T,w1,w2,rfl,hT,rfl,y3,y4⟩:=yl
       have t1:=y3 vs (hl h1 _ _ _ hr le)
       have t2:=y4 ws (hl h3 _ _ _ hr le)
       rw [e3] at t1
       rw [e4] at t2
       cases t1
       cases t2
       exact jJY hr hT rx ry
      ·refine ⟨vs,ws,hl h1 _ _ _ hr le,hl h3 _ _ _ hr le,?_⟩
       have hi:(jIO xs ys).length≤i:=hi
       unfold jIO at hi
       rw [List.length_zipWith,h2.length,h4.length] at hi
       omega
   ·split at q
    ·rename_i ra rb ea eb
     obtain ⟨ea,nt,ns⟩:=jUK ea
     obtain ⟨eb,nt2,ns2⟩:=jUK eb
     obtain ⟨a,rfl,hl⟩:=yNB (X:=X) ru ea nt ns r1.hr
     obtain ⟨b,rfl,hl2⟩:=yNB (X:=X) ru2 eb nt2 ns2 r1.hr
     have oa:∀ {Z:Prop},((ra.o||rb.o)=true→Z)→ra.o=true→Z:=fun f e=>f (by rw [e]; rfl)
     have ob:∀ {Z:Prop},((ra.o||rb.o)=true→Z)→rb.o=true→Z:=fun f e=>f (by rw [e,Bool.or_true])
     obtain ⟨vs0,h10,hr10⟩:=hl W1 s1 H1 r1.hr (.refl _) (jAS ea) fun _=>Step.refl r1.hr
     obtain ⟨ws0,h30,_⟩:=hl2 W1 s1 H1 r1.hr (.refl _) (jAS eb) fun _=>Step.refl r1.hr
     have k:=q.ok r1 (fun p hp=>(List.mem_append.mp hp).elim (jAS ea p) (jAS eb p)) (by
      have:=yAH r1.hr ru ea nt ns
      show (jIO ra.xs rb.xs).length≤sizeLine
      unfold jIO
      rw [List.length_zipWith]
      omega)
     refine ⟨a,b,vs0,ws0,rfl,.inl ⟨h10,h30,k _ ⟨fun W' s' H' hr le st2 so i z ez=>?_,fun W' s' H' hr le st2 so i hi=>?_⟩⟩⟩
     ·obtain ⟨vs,h1,h2⟩:=hl W' s' H' hr le (yDJ st2) (oa so)
      obtain ⟨ws,h3,h4⟩:=hl2 W' s' H' hr le (yDI st2) (ob so)
      obtain ⟨x,y,u,v,e1,e2,e3,e4,rx,ry,rfl⟩:=yIS hr h2 h4 ez
      refine ⟨⟨vs,ws,u,v,h1,h3,e3,e4⟩,fun w H'' yl=>?_⟩
      obtain ⟨T,w1,w2,rfl,hT,rfl,y3,y4⟩:=yl
      have t1:=y3 vs h1
      have t2:=y4 ws h3
      rw [e3] at t1
      rw [e4] at t2
      cases t1
      cases t2
      exact jJY hr hT rx ry
     ·obtain ⟨vs,h1,h2⟩:=hl W' s' H' hr le (yDJ st2) (oa so)
      obtain ⟨ws,h3,h4⟩:=hl2 W' s' H' hr le (yDI st2) (ob so)
      refine ⟨vs,ws,h1,h3,?_⟩
      have hi:(jIO ra.xs rb.xs).length≤i:=hi
      unfold jIO at hi
      rw [List.length_zipWith,h2.length,h4.length] at hi
      omega
    ·exact q.elim
  ·exact q.elim⟩
end
def uR:S→R S Bool:=fun s=>.ok true s
section
variable {X:Cx} {B:Bs} {N:Ent} {WX:L2.WX}
def SimTs (X:Cx) (B:Bs) (N:Ent) (WX:L2.WX) (ifs:List Expr) (m:S→R S Bool):Prop:=PTs X ifs (tT B N WX m)
theorem yQL {ifs:List Expr} {t t':TT} (h:PTs X ifs t) (w:∀ σ H Q,t' σ H Q→t σ H Q):PTs X ifs t':=⟨fun pins s σ H Q I q=>h.run pins s σ H Q I (w _ _ _ q)⟩
theorem uQ:SimTs X B N WX [] uR:=yQL pts_nil fun σ H Q ⟨W,s,r,h⟩=>h.ok r
theorem jET {c:Expr} {m:S→R S Bool} (h:SimT X B N WX c m):SimTs X B N WX [c] m:=pts_one h
end
def R.nx {τ α:Type} (r:R τ α):R τ α:=match r with
 | .ok a s=>.ok a s
 | _=>.bad
@[simp] theorem R.nx_ok {τ α:Type} (a:α) (s:τ):(R.ok a s).nx=.ok a s:=rfl
@[simp] theorem R.nx_bad {τ α:Type}:(R.bad:R τ α).nx=.bad:=rfl
theorem R.post_nx {τ α:Type} {r:R τ α} {P:α→τ→Prop} {E E':PV→τ→Prop} (h:r.nx.post P E):r.post P E':=by
 cases r with
 | ok a s=>exact h
 | exc x s=>exact h.elim
 | bad=>exact h
def jSA (t:Tg) (tt:S→R S Bool) (te:ME) (vs:List Nat) (x:PV) (acc:List PV):S→R S (List PV):=fun s=>match qK t x (jU s.e vs) with
 | some e1=>(tt ⟨e1,s.h⟩).nx.bind fun b s2=>if b=true then (te s2).nx.bind fun y s3=>if isOwn y=true then .bad else .ok (acc++[y]) ⟨jU s3.e vs,s3.h⟩ else .ok acc ⟨jU s2.e vs,s2.h⟩
 | none=>.bad
noncomputable def jIK (r:Sr) (t:Tg) (tt:S→R S Bool) (te:ME) (vs:List Nat):List PV→List PV→S→R S (List PV)
 | [],acc,s=>.ok acc s
 | x :: xs,acc,s=>(jSA t tt te vs x acc s).bind fun acc' s'=>if qO s'.h r then jIK r t tt te vs xs acc' s' else .bad
noncomputable def zG (src:S→R S Sr) (t:Tg) (tt:S→R S Bool) (te:ME) (vs:List Nat):S→R S (List PV):=fun s=>(src s).bind fun r s1=>jIK r t tt te vs r.xs [] ⟨jU s1.e vs,s1.h⟩
def R.Nx {τ α:Type}:R τ α→Prop
 | .exc _ _=>False
 | _=>True
theorem R.Nx.bind {τ α β:Type} {r:R τ α} {f:α→τ→R τ β} (h:r.Nx) (k:∀ a s,(f a s).Nx):(r.bind f).Nx:=by
 cases r with
 | ok a s=>exact k a s
 | exc x s=>exact h
 | bad=>exact trivial
theorem R.nx_Nx {τ α:Type} (r:R τ α):r.nx.Nx:=by cases r <;> exact trivial
theorem R.post_of_nx {τ α:Type} {r:R τ α} {P:α→τ→Prop} {E E':PV→τ→Prop} (n:r.Nx) (h:r.post P E):r.post P E':=by
 cases r with
 | ok a s=>exact h
 | exc x s=>exact n.elim
 | bad=>exact h
theorem yKR (t:Tg) (tt:S→R S Bool) (te:ME) (vs:List Nat) (x:PV) (acc:List PV) (s:S):(jSA t tt te vs x acc s).Nx:=by
 unfold jSA
 split
 ·refine (R.nx_Nx _).bind fun b s2=>?_
  split
  ·refine (R.nx_Nx _).bind fun y s3=>?_
   split <;> exact trivial
  ·exact trivial
 ·exact trivial
theorem jYB (r:Sr) (t:Tg) (tt:S→R S Bool) (te:ME) (vs:List Nat):∀ (xs acc:List PV) (s:S),(jIK r t tt te vs xs acc s).Nx
 | [],_,_=>trivial
 | x :: xs,acc,s=>by
  unfold jIK
  refine (yKR t tt te vs x acc s).bind fun acc' s'=>?_
  split
  ·exact jYB r t tt te vs xs acc' s'
  ·exact trivial
section
variable {X:Cx} {B:Bs} {N:Ent} {WX:L2.WX} {W W':Wd} {s s':S} {σ:L2.St} {H H':Hp}
def tN (B:Bs) (N:Ent) (WX:L2.WX) (m:S→R S (List PV)):TE:=fun σ H Q=>∃ W s,Rel B N W s σ H∧Post B N WX W s H σ (m s) fun xs W' s' H'=>∀ p vs,H p=none→Loose N W' s' σ p→H' p=some (.lst vs)→Reps B W' xs vs→Q (.ref p) H'
abbrev SimN (X:Cx) (B:Bs) (N:Ent) (WX:L2.WX) (e:Expr) (m:S→R S (List PV)):Prop:=PE X e (tN B N WX m)
def shN (m:S→R S (List PV)):ME:=fun s=>(m s).bind fun xs s1=>.ok (.lst xs) s1
theorem yQQ {m:S→R S (List PV)} {Q:VK} (h:tE B N WX (shN m) σ H Q):tN B N WX m σ H Q:=by
 obtain ⟨W,s,r,h⟩:=h
 refine ⟨W,s,r,R.post_mono (R.post_bind h) (fun xs s1 q W1 H1 r1 st p vs hp l hH rv=>?_) fun x s1 q=>q⟩
 exact q _ H1 (jXS r1 l hH jBT) (st.keepNew hp l.F) _ (Rep.lst upd_same (rv.mono (jCN l.F))).hand
theorem SimN.sh {e:Expr} {m:S→R S (List PV)} (h:SimN X B N WX e m):SimE X B N WX e (shN m):=h.imp fun _ _ _ h=>yQQ h
theorem yMU {σ:L2.St}:∀ vs:List Nat,wipe (wipe σ vs) vs=wipe σ vs:=fun vs=>by
 have key:∀ (us:List Nat),(∀ u∈us,u∈vs)→wipe (wipe σ us) vs=wipe σ vs:=by
  intro us
  induction us with
  | nil=>intro _; rfl
  | cons u us ih =>
   intro h
   show wipe ((wipe σ us).set u none) vs=wipe σ vs
   rw [jQH (h u (by simp))]
   exact ih fun w hw=>h w (List.mem_cons_of_mem _ hw)
 exact key vs fun _ h=>h
mutual
theorem jOI:∀ {t:Tg} {x:PV} {e e':List (Option PV)},qK t x e=some e'→∀ (i:Nat) (y:PV),e'[i]?=some (some y)→isOwn y=true→e[i]?=some (some y)
 | .n j,x,e,e',h,i,y,e1,o=>by
  rw [qK] at h
  split at h
  ·cases h
  ·rename_i hx
   cases h
   by_cases hj:j=i
   ·subst hj
    by_cases hl:j < e.length
    ·rw [List.getElem?_set_self hl] at e1
     cases e1
     exact absurd o hx
    ·rw [List.getElem?_eq_none (by rw [List.length_set]; omega)] at e1
     cases e1
   ·rw [List.getElem?_set_ne hj] at e1
    exact e1
 | .t ts,x,e,e',h,i,y,e1,o=>by
  cases x with
  | tup xs=>rw [qK] at h; exact bindTs_own h i y e1 o
  | _=>simp [qK] at h
theorem bindTs_own:∀ {ts:List Tg} {xs:List PV} {e e':List (Option PV)},bindTs ts xs e=some e'→∀ (i:Nat) (y:PV),e'[i]?=some (some y)→isOwn y=true→e[i]?=some (some y)
 | [],[],e,e',h,i,y,e1,o=>by rw [bindTs] at h; cases h; exact e1
 | [],_ :: _,_,_,h,_,_,_,_=>by simp [bindTs] at h
 | _ :: _,[],_,_,h,_,_,_,_=>by simp [bindTs] at h
 | t :: ts,x :: xs,e,e',h,i,y,e1,o=>by
  rw [bindTs] at h
  cases q:qK t x e with
  | none=>rw [q] at h; cases h
  | some e2 =>
   rw [q] at h
   exact jOI q i y (bindTs_own h i y e1 o) o
end
theorem jQT {vs:List Nat} (st:StepE W s H W' s' H'):StepE W s H W' ⟨jU s'.e vs,s'.h⟩ H':=⟨st.st,fun i x e o=>st.eo i x (jAM e).1 o⟩
theorem yBH {t:Tg} {x:PV} {vs:List Nat} {e1:List (Option PV)} (st:StepE W s H W' s' H') (hb:qK t x (jU s'.e vs)=some e1):StepE W s H W' ⟨e1,s'.h⟩ H':=⟨st.st,fun i x e o=>st.eo i x (jAM (jOI hb i x e o)).1 o⟩
theorem yBX {t:Tg} {x:PV} {vs:List Nat} {e1:List (Option PV)} {p:Addr} {σ2:L2.St} (l:Loose N W s σ p) (hb:qK t x (jU s.e vs)=some e1) (hw:wipe σ2 vs=wipe σ vs):Loose N W ⟨e1,s.h⟩ σ2 p :=
 ⟨l.F,l.m,fun i x e o z=>by
  obtain ⟨e2,hi⟩:=jAM (jOI hb i x e o)
  have:σ2[i]?=σ[i]?:=by rw [← jDO (σ:=σ2) hi,hw,jDO hi]
  rw [this] at z
  exact l.o i x e2 o z,l.e⟩
theorem yBY {vs:List Nat} {p:Addr} {σ2:L2.St} (l:Loose N W s σ2 p) (hw:wipe σ2 vs=wipe σ vs):Loose N W ⟨jU s.e vs,s.h⟩ σ p :=
 ⟨l.F,l.m,fun i x e o z=>by
  obtain ⟨e2,hi⟩:=jAM e
  have:σ2[i]?=σ[i]?:=by rw [← jDO (σ:=σ2) hi,hw,jDO hi]
  rw [← this] at z
  exact l.o i x e2 o z,l.e⟩
abbrev WF:L2.WX:=fun _ _ _ _=>False
theorem yHB {r:Sr} {t:Tg} {tt:S→R S Bool} {te:ME} {vs:List Nat} {J:It} {W1:Wd} {s0 s1:S} {H1:Hp} {D:Addr} {Q:VK} {Pf:List PV→Wd→S→Hp→Prop} (hK:X.K=B.K) (hv:∀ i∈t.sl,i∈vs)
  (r1:Rel B N W1 s1 σ H1) (wk:Walks B J r W1 s0 H1) (e0:s0.h=s1.h) (st0:qO s1.h r) (hD:H1 D=none) (hline:r.xs.length≤sizeLine)
  (q:Post B N WF W1 s1 H1 σ (jIK r t tt te vs r.xs [] s1) Pf) (fin:∀ xs av W' s' H',Rel B N W' s' σ H'→StepE W1 s1 H1 W' s' H'→Pf xs W' s' H'→Loose N W' s' σ D→H' D=some (.lst av)→Reps B W' xs av→Q (.ref D) H') :
  ∃ Wm:Nat→Nat→Hp→Prop,(∃ m,Wm 0 m (upd H1 D (.lst [])))∧∀ i m H,Wm i m H →
   (J.stop i H∧Q (.ref D) H)∨(J.go i H∧∃ Nx:Hp→Prop,(∀ H',Nx H'→∃ m',m' < m∧Wm (i+1) m' H')∧∀ x H',J.yld i H x H'→gT X.K t x (wipe σ vs) H' fun σ2 H2=>wipe σ2 vs=wipe σ vs∧tT B N WF tt σ2 H2 fun b H3 =>
    if b=true then tE B N WF te σ2 H3 fun y H4=>∃ acc,H4 D=some (.lst acc)∧acc.length < sizeLine∧Nx (upd H4 D (.lst (acc++[y]))) else Nx H3):=by
 -- what holds ahead of turn i
 let Iv:Nat→Hp→Prop:=fun i H=>∃ W' s' acc av,Rel B N W' s' σ H∧StepE W1 s1 H1 W' s' H∧Loose N W' s' σ D∧H D=some (.lst av)∧Reps B W' acc av∧acc.length≤i∧i≤r.xs.length∧qO s'.h r ∧
  Post B N WF W1 s1 H1 σ (jIK r t tt te vs (r.xs.drop i) acc s') Pf
 refine ⟨fun i m H=>m=r.xs.length - i∧Iv i H,⟨r.xs.length,rfl,W1,s1,[],[],jJQ r1 (r1.loose hD) (Nat.zero_le _) (.inl hD),(StepE.refl r1.hr).put hD (r1.loose hD).m,r1.loose hD,upd_same,.nil,Nat.le_refl _,Nat.zero_le _,st0,by simpa using q⟩,?_⟩
 rintro i m H ⟨rfl,W',s',acc,av,r',st',l',hDv,ra,hacc,hi,sl',q'⟩
 have own_st:r.o=true→Step W1 s0.h H1 W' s'.h H:=fun _=>by rw [e0]; exact st'.st
 by_cases hlt:i < r.xs.length
 ·refine .inr ?_
  have ex:=List.getElem?_eq_getElem hlt
  obtain ⟨g1,g2⟩:=wk.go W' s' H r'.hr st'.st.le sl' own_st i _ ex
  refine ⟨g1,fun H'=>Iv (i+1) H',fun H' hv'=>⟨r.xs.length - (i+1),by omega,rfl,hv'⟩,fun v H2 y=>?_⟩
  obtain ⟨W2,gr,rx⟩:=g2 v H2 y
  rw [List.drop_eq_getElem_cons hlt] at q'
  have q2:=R.post_bind (show ((jSA t tt te vs r.xs[i] acc s').bind fun acc' s'=>if qO s'.h r then jIK r t tt te vs (r.xs.drop (i+1)) acc' s' else .bad).post _ _ from q')
  have r2:=gr.rel r'
  have st2:=st'.trans r1.slen (gr.stepE r'.hr)
  have l2:=l'.on r'.slen (gr.stepE r'.hr) (.lst hDv)
  have d2:=l'.held (gr.stepE r'.hr) hDv jBT
  unfold jSA at q2
  cases eb:qK t r.xs[i] (jU s'.e vs) with
  | none=>rw [eb] at q2; exact q2.elim
  | some e1 =>
   rw [eb] at q2
   refine yDB hK (vs:=vs) (s:=⟨jU s'.e vs,s'.h⟩) hv (yLH r2) rx eb fun σ2 r3 w3=>?_
   have w3:wipe σ2 vs=wipe σ vs:=w3.trans (yMU vs)
   have st3:StepE W1 s1 H1 W2 ⟨e1,s'.h⟩ H2:=yBH st2 eb
   have l3:Loose N W2 ⟨e1,s'.h⟩ σ2 D:=yBX l2 eb w3
   refine ⟨w3,W2,⟨e1,s'.h⟩,r3,R.post_mono (R.post_nx (E':=fun _ _=>False) (R.post_bind q2)) (fun b s4 q4 W4 H4 r4 st4=>?_) fun x s4 q4=>q4.elim⟩
   have l4:=l3.on r3.slen st4 (.lst d2)
   have d4:=l3.held st4 d2 jBT
   have st14:=st3.trans r1.slen st4
   have go:∀ {acc':List PV} {av':List V} {W5:Wd} {s5:S} {H5:Hp},Rel B N W5 s5 σ2 H5→StepE W1 s1 H1 W5 s5 H5→Loose N W5 s5 σ2 D→H5 D=some (.lst av')→Reps B W5 acc' av'→acc'.length≤i+1 →
     (if qO s5.h r then jIK r t tt te vs (r.xs.drop (i+1)) acc' ⟨jU s5.e vs,s5.h⟩ else R.bad).post (fun v s'=>∀ W' H',Rel B N W' s' σ H'→StepE W1 s1 H1 W' s' H'→Pf v W' s' H') (fun x s'=>∀ W' H' cls d,Rel B N W' s' σ H'→StepE W1 s1 H1 W' s' H'→ExcR B N.H W' H' x cls d→Nw H1 d→WF cls d σ H') →
     Iv (i+1) H5:=fun {acc' av' W5 s5 H5} r5 st5 l5 d5 ra5 h5 q5=>by
    split at q5
    ·rename_i hst
     exact ⟨W5,⟨jU s5.e vs,s5.h⟩,acc',av',jXT r5 w3,jQT st5,yBY l5 w3,d5,ra5,h5,hlt,hst,q5⟩
    ·exact q5.elim
   cases b with
   | false =>
    refine iteF (go r4 st14 l4 d4 (ra.mono (gr.stepE r'.hr).st.le |>.mono st4.st.le) (by omega) ?_)
    exact q4
   | true =>
    refine iteT ⟨W4,s4,r4,R.post_mono (R.post_nx (E':=fun _ _=>False) (R.post_bind (show ((te s4).nx.bind fun y s3=>if isOwn y=true then R.bad else R.ok (acc++[y]) ⟨jU s3.e vs,s3.h⟩).post _ _ from q4))) (fun y s5 q5 W5 H5 r5 st5 y' ry=>?_) fun x s5 q5=>q5.elim⟩
    ·split at q5
     ·exact q5.elim
     ·rename_i oy
      have l5:=l4.on r4.slen st5 (.lst d4)
      have d5:=l4.held st5 d4 jBT
      have ra5:Reps B W5 acc av:=((ra.mono (gr.stepE r'.hr).st.le).mono st4.st.le).mono st5.st.le
      refine ⟨av,d5,by rw [← ra5.length]; omega,?_⟩
      have st15:=st14.trans r1.slen st5
      exact go (jJQ r5 l5 (by show (av++[y']).length≤sizeLine; rw [List.length_append,List.length_singleton,← ra5.length]; omega) (yIV d5)) (st15.put hD l5.m) l5 upd_same (ra5.append (.one (ry.rep (by simpa using oy)))) (by rw [List.length_append,List.length_singleton]; omega) q5
 ·refine .inl ⟨wk.stop W' s' H r'.hr st'.st.le sl' own_st i (by omega),?_⟩
  have hn:r.xs.drop i=[]:=List.drop_eq_nil_of_le (by omega)
  rw [hn] at q'
  exact fin acc av W' s' H r' st' (q' W' H r' st') l' hDv ra
theorem yEH {src:S→R S Sr} {t:Tg} {tt:S→R S Bool} {te:ME} {vs:List Nat} {Q:VK} (hK:X.K=B.K) (hv:∀ i∈t.sl,i∈vs) (h:tN B N WX (zG src t tt te vs) σ H Q) :
  tLc (tI B N WX src) (gT X.K t) (tT B N WF tt) (tE B N WF te) vs σ H Q:=by
 obtain ⟨W,s,r0,h⟩:=h
 refine ⟨W,s,r0,R.post_mono (R.post_bind h) (fun r s1 q W1 H1 r1 st1 still hline J wk D hD=>?_) fun x s1 q=>q⟩
 have rw1:Rel B N W1 ⟨jU s1.e vs,s1.h⟩ σ H1:=jXT r1 rfl
 have q':Post B N WF W1 ⟨jU s1.e vs,s1.h⟩ H1 σ (jIK r t tt te vs r.xs [] ⟨jU s1.e vs,s1.h⟩) fun xs W' s' H'=>∀ p us,H p=none→Loose N W' s' σ p→H' p=some (.lst us)→Reps B W' xs us→Q (.ref p) H':=by
  have nx:=jYB r t tt te vs r.xs [] ⟨jU s1.e vs,s1.h⟩
  refine R.post_of_nx nx (R.post_mono q (fun xs s2 q W2 H2 r2 st2=>q W2 H2 r2 ((jQT st1).trans r0.slen st2)) fun x s2 q=>trivial)
 exact yHB hK hv rw1 wk rfl still hD hline q' fun xs av W' s' H' r' st' k l hH rv=>k D av (st1.st.tr _ hD) l hH rv
theorem qW {elt tg iter:Expr} {ifs:List Expr} {scope:Scope} {own:List (Str × Nat)} {pos:Pos} {src:S→R S Sr} {t:Tg} {tt:S→R S Bool} {te:ME} (hK:X.K=B.K) (hc:X.calm=true) (hN:X.N.Nodup) (hi:SimI X B N WX tg iter src) (ok:BlkOk X.N X.env.scope scope own)
  (hv:∀ i∈t.sl,i∈own.map (·.2))
  (hg:∀ (s:Shared) (H:Hp) (C:Addr) (cl:List (Str × Addr)) (fp:List Addr),PG (X.blk s H scope (compEnvC scope cl C X.env) fp) tg (gT X.K t)) (ht:∀ (s:Shared) (H:Hp) (C:Addr) (cl:List (Str × Addr)) (fp:List Addr),SimTs (X.blk s H scope (compEnvC scope cl C X.env) fp) B N WF ifs tt)
  (he:∀ (s:Shared) (H:Hp) (C:Addr) (cl:List (Str × Addr)) (fp:List Addr),SimE (X.blk s H scope (compEnvC scope cl C X.env) fp) B N WF elt te) (hs:∀ x,foldedSetIterable iter X.env x=pure x) :
  SimN X B N WX (.ListComp elt [⟨tg,iter,ifs,0⟩] scope pos) (zG src t tt te (own.map (·.2))) :=
 (pe_lc hc hN hi ok hg ht he hs).imp fun σ H Q h=>yEH hK hv h
theorem zJ {K:PySem.W.Frag} {e:Expr} {i:Nat} (h:PG X e (gName i)):PG X e (gT K (.n i)):=by
 rw [gT]; exact h
theorem jOO {es:List Expr} {k:Nat} {ts:List Tg} {pos:Pos} (hc:X.calm=true) (h:PGs X es (gTs X.K ts)) (hn:(assignEach es X.env).length=ts.length) (hst:(assignEach es X.env).findIdx? (·.1)=none):PG X (.Tuple es k pos) (gT X.K (.t ts)):=by
 rw [gT]; exact pg_tup hc h hn hst
theorem jDY {K:PySem.W.Frag}:PGs X [] (gTs K []):=by
 rw [gTs]; exact pgs_nil
theorem zR {K:PySem.W.Frag} {e:Expr} {es:List Expr} {t:Tg} {ts:List Tg} (h1:PG X e (gT K t)) (h2:PGs X es (gTs K ts)) (hs:(assignEach (e :: es) X.env).map (·.2)=assign e X.env :: (assignEach es X.env).map (·.2)):PGs X (e :: es) (gTs K (t :: ts)):=by
 rw [gTs]; exact pgs_cons h1 h2 hs
end
end Lp
set_option maxHeartbeats 4000000
namespace Lp
open PySem PySem.Spec PyProof.Rows L2
inductive Fl where
 | nx | rt (v:PV) | bk | ct
abbrev MS:=S→R S Fl
def PostS (B:Bs) (N:Ent) (WX:L2.WX) (D:Ends) (r:R S Fl):Prop:=r.post
 (fun f s'=>match f with
  | .nx=>∀ W' σ' H',Rel B N W' s' σ' H'→D.nx σ' H'
  | .rt v=>∀ W' σ' H' v',Rel B N W' s' σ' H'→Rep B W' v v'→D.rt v' H'
  | .bk=>∀ W' σ' H',Rel B N W' s' σ' H'→D.bk σ' H'
  | .ct=>∀ W' σ' H',Rel B N W' s' σ' H'→D.ct σ' H')
 (fun x s'=>∀ W' σ' H' cls d,Rel B N W' s' σ' H'→ExcR B N.H W' H' x cls d→WX cls d σ' H')
def tS (B:Bs) (N:Ent) (WX:L2.WX) (m:MS):TS:=fun D σ H=>∃ W s,Rel B N W s σ H∧PostS B N WX D (m s)
abbrev SimS (X:Cx) (B:Bs) (N:Ent) (WX:L2.WX) (st:Stmt) (m:MS):Prop:=PS X st (tS B N WX m)
abbrev SimSs (X:Cx) (B:Bs) (N:Ent) (WX:L2.WX) (st:List Stmt) (m:MS):Prop:=PSs X st (tS B N WX m)
section
variable {X:Cx} {B:Bs} {N:Ent} {WX:L2.WX} {W W':Wd} {s s':S} {σ:L2.St} {H H':Hp} {D:Ends} {α:Type}
theorem PostS.bindE {r:R S α} {f:α→S→R S Fl} (h:PostS B N WX D (r.bind f)):Post B N WX W s H σ r fun v W' s' H'=>PostS B N WX D (f v s') :=
 R.post_mono (R.post_bind h) (fun _ _ q W' H' _ _=>q) fun _ _ q W' H' cls d r' _ e _=>q W' σ H' cls d r' e
end
def wY:MS:=fun s=>.ok .nx s
def yN (a b:MS):MS:=fun s=>(a s).bind fun f s1=>match f with
 | .nx=>b s1
 | f=>.ok f s1
def yCW (m:ME):MS:=fun s=>(m s).bind fun _ s1=>.ok .nx s1
def vO (m:ME):MS:=fun s=>(m s).bind fun v s1=>if isOwn v=true then .bad else .ok (.rt v) s1
def yQU:MS:=fun s=>.ok (.rt .non) s
def sIf (c:S→R S Bool) (a b:MS):MS:=fun s=>(c s).bind fun k s1=>if k=true then a s1 else b s1
def wZ (i:Nat) (m:ME):MS:=fun s=>(m s).bind fun v s1=>if isOwn v=true then .bad else .ok .nx ⟨s1.e.set i (some v),s1.h⟩
def jON (i:Nat) (m:S→R S (List PV)):MS:=fun s=>(m s).bind fun xs s1=>.ok .nx ⟨s1.e.set i (some (.own xs)),s1.h⟩
def jWP (t:Tg) (m:ME):MS:=fun s=>(m s).bind fun v s1=>match qK t v s1.e with
 | some e1=>if isOwn v=true then .bad else .ok .nx ⟨e1,s1.h⟩
 | none=>.bad
section
variable {X:Cx} {B:Bs} {N:Ent} {WX:L2.WX} {W W':Wd} {s s':S} {σ:L2.St} {H H':Hp} {st:Stmt} {rest:List Stmt} {ma mb:MS} {e c:Expr} {m:ME} {mc:S→R S Bool} {pos:Pos}
theorem yI:SimSs X B N WX [] wY:=pss_nil.imp fun D σ H ⟨W,s,r,h⟩=>h W σ H r
theorem jN (h:SimS X B N WX st ma):SimSs X B N WX [st] ma:=pss_one h
theorem jL (h1:SimS X B N WX st ma) (h2:SimSs X B N WX rest mb):SimSs X B N WX (st :: rest) (yN ma mb) :=
 (pss_cons h1 h2).imp fun D σ H ⟨W,s,r,h⟩=>⟨W,s,r,R.post_mono (R.post_bind h) (fun f s1 q=>by
  cases f with
  | nx=>exact fun W' σ' H' r'=>⟨W',s1,r',q⟩
  | rt v=>exact q
  | bk=>exact q
  | ct=>exact q) fun x s1 q=>q⟩
theorem yFW (he:SimE X B N WX e m) (hs:swapsWith e none pos.line X.env=pure false):SimS X B N WX (.Expr e pos) (yCW m) :=
 (ps_expr he hs).imp fun D σ H ⟨W,s,r,h⟩=>⟨W,s,r,h.bindE.mono fun v W1 s1 H1 r1 _ q v' rv=>q W1 σ H1 r1⟩
theorem jV (he:SimE X B N WX e m):SimS X B N WX (.Return (some e) pos) (vO m) :=
 (ps_ret he).imp fun D σ H ⟨W,s,r,h⟩=>⟨W,s,r,h.bindE.mono fun v W1 s1 H1 r1 _ q v' rv=>by
  split at q
  ·exact q.elim
  ·rename_i o
   exact q W1 σ H1 v' r1 (rv.rep (by simpa using o))⟩
theorem yQ {a b:List Stmt} (hc:SimT X B N WX c mc) (ha:SimSs X B N WX a ma) (hb:SimSs X B N WX b mb):SimS X B N WX (.If c a b pos) (sIf mc ma mb) :=
 (ps_if hc ha hb).imp fun D σ H ⟨W,s,r,h⟩=>⟨W,s,r,h.bindE.mono fun k W1 s1 H1 r1 _ q=>by
  cases k with
  | true=>exact iteT ⟨W1,s1,r1,q⟩
  | false=>exact iteF ⟨W1,s1,r1,q⟩⟩
theorem yFA {i:Nat} {D:Ends} {v:PV} {v':V} {W1:Wd} {s1:S} {H1:Hp} (r1:Rel B N W1 s1 σ H1) (rv:RepT B W1 H1 v v') (q:PostS B N WX D (if isOwn v=true then R.bad else R.ok Fl.nx ⟨s1.e.set i (some v),s1.h⟩)):D.nx (σ.set i (some v')) H1:=by
 split at q
 ·exact q.elim
 ·rename_i o
  exact q W1 _ H1 (jFQ r1 (rv.rep (by simpa using o)))
theorem yM {i:Nat} {x:Str} {pos':Pos} (hN:X.N.Nodup) (hi:X.N[i]?=some x) (hx:Loc X.env.scope x) (he:SimE X B N WX e m) (hs:swapsWith e (some (.Name x pos')) pos.line X.env=pure false) (hf:X.fn x=true∨X.env.scope.names.lookup x=some .local) :
  SimS X B N WX (.Assign [.Name x pos'] e pos) (wZ i m) :=
 (ps_set hN hi hx he hs hf).imp fun D σ H ⟨W,s,r,h⟩=>⟨W,s,r,h.bindE.mono fun v W1 s1 H1 r1 _ q v' rv=>yFA r1 rv q⟩
theorem yDW {i:Nat} {p:Addr} {xs:List PV} {vs:List V} {σ':L2.St} (r:Rel B N W s σ H) (hl:σ'.length=σ.length) (hj:∀ j,j≠i→σ'[j]?=σ[j]?) (hi:σ'[i]?=some (some (.ref p))∨s.e.length≤i)
  (l:W.F p=none∧p∉W.m∧(∀ (j:Nat) (x:PV),j≠i→s.e[j]?=some (some x)→isOwn x=true→σ[j]?≠some (some (.ref p)))∧N.H p=none) (hp:H p=some (.lst vs)) (rv:Reps B W xs vs):Rel B N W ⟨s.e.set i (some (.own xs)),s.h⟩ σ' H:=by
 obtain ⟨l1,l2,l3,l4⟩:=l
 have at_:∀ (j:Nat) (y:PV),(s.e.set i (some (.own xs)))[j]?=some (some y)→(j=i∧y=.own xs∧i < s.e.length)∨(j≠i∧s.e[j]?=some (some y)):=fun j y e=>by
  by_cases hji:i=j
  ·subst hji
   by_cases hb:i < s.e.length
   ·rw [List.getElem?_set_self hb] at e
    cases e
    exact .inl ⟨rfl,rfl,hb⟩
   ·rw [List.getElem?_eq_none (by rw [List.length_set]; omega)] at e
    cases e
  ·rw [List.getElem?_set_ne hji] at e
   exact .inr ⟨fun z=>hji z.symm,e⟩
 refine ⟨r.hr,r.st,by rw [hl,r.len]; simp,fun j y e=>?_,fun j k y z a hjk e1 e2 o1 o2 s1 s2=>?_,r.pin⟩
 ·rcases at_ j y e with ⟨rfl,rfl,hb⟩ | ⟨ne,e⟩
  ·rcases hi with hi | hi
   ·exact ⟨_,hi,p,vs,rfl,hp,rv,l1,l2,l4⟩
   ·omega
  ·rw [hj j ne]
   exact r.env j y e
 ·rcases at_ j y e1 with ⟨rfl,rfl,hb⟩ | ⟨ne,f1⟩
  ·rcases at_ k z e2 with ⟨rfl,_,_⟩ | ⟨ne2,f2⟩
   ·exact hjk rfl
   ·rcases hi with hi | hi
    ·rw [hi] at s1
     cases s1
     rw [hj k ne2] at s2
     exact l3 k z ne2 f2 o2 s2
    ·omega
  ·rcases at_ k z e2 with ⟨rfl,rfl,hb⟩ | ⟨ne2,f2⟩
   ·rcases hi with hi | hi
    ·rw [hi] at s2
     cases s2
     rw [hj j ne] at s1
     exact l3 j y ne f1 o1 s1
    ·omega
   ·rw [hj j ne] at s1
    rw [hj k ne2] at s2
    exact r.dis j k y z a hjk f1 f2 o1 o2 s1 s2
theorem yHM {i:Nat} {mn:S→R S (List PV)} {D:Ends} (h:tS B N WX (jON i mn) D σ H):tN B N WX mn σ H fun x H1=>D.nx (σ.set i (some x)) H1:=by
 obtain ⟨W,s,r,h⟩:=h
 refine ⟨W,s,r,h.bindE.mono fun xs W1 s1 H1 r1 _ q p vs hp l hH rv=>q W1 _ H1 (yDW r1 (by simp) (fun j hj=>by rw [List.getElem?_set_ne (Ne.symm hj)]) ?_ ⟨l.F,l.m,fun j x _ e o=>l.o j x e o,l.e⟩ hH rv)⟩
 by_cases hb:i < s1.e.length
 ·exact .inl (List.getElem?_set_self (by rw [r1.len]; exact hb))
 ·exact .inr (by omega)
theorem jJT {i:Nat} {x:Str} {pos':Pos} {mn:S→R S (List PV)} (hN:X.N.Nodup) (hi:X.N[i]?=some x) (hx:Loc X.env.scope x) (he:SimN X B N WX e mn) (hs:swapsWith e (some (.Name x pos')) pos.line X.env=pure false) (hf:X.fn x=true∨X.env.scope.names.lookup x=some .local) :
  SimS X B N WX (.Assign [.Name x pos'] e pos) (jON i mn) :=
 (ps_set hN hi hx he hs hf).imp fun D σ H h=>yHM h
theorem yUV {i:Nat} {mn:S→R S (List PV)} {D:Ends} (h:tS B N WX (wZ i (shN mn)) D σ H):tE B N WX (shN mn) σ H fun x H1=>D.nx (σ.set i (some x)) H1:=by
 obtain ⟨W,s,r,h⟩:=h
 exact ⟨W,s,r,h.bindE.mono fun v W1 s1 H1 r1 _ q v' rv=>yFA r1 rv q⟩
theorem jQV {i:Nat} {y:Str} {py:Pos} {elt tg iter:Expr} {ifs:List Expr} {scope:Scope} {own:List (Str × Nat)} {spos:Pos} {src:S→R S Sr} {t:Tg} {tt:S→R S Bool} {te:ME} (hK:X.K=B.K) (hc:X.calm=true) (hN:X.N.Nodup) (hy:X.N[i]?=some y) (hyl:X.env.scope.names.lookup y=some .local)
  (hsw:swapsWith (.ListComp elt [⟨tg,iter,ifs,0⟩] scope pos) (some (.Name y py)) spos.line X.env=pure true) (hi:SimI X B N WX tg iter src) (ok:BlkOk X.N X.env.scope scope own) (hv:∀ i∈t.sl,i∈own.map (·.2))
  (hg:∀ (s:Shared) (H:Hp) (C:Addr) (cl:List (Str × Addr)) (fp:List Addr),PG (X.blk s H scope (compEnvC scope cl C X.env) fp) tg (gT X.K t)) (ht:∀ (s:Shared) (H:Hp) (C:Addr) (cl:List (Str × Addr)) (fp:List Addr),SimTs (X.blk s H scope (compEnvC scope cl C X.env) fp) B N WF ifs tt)
  (he:∀ (s:Shared) (H:Hp) (C:Addr) (cl:List (Str × Addr)) (fp:List Addr),SimE (X.blk s H scope (compEnvC scope cl C X.env) fp) B N WF elt te) (hs:∀ x,foldedSetIterable iter X.env x=pure x) :
  SimS X B N WX (.Assign [.Name y py] (.ListComp elt [⟨tg,iter,ifs,0⟩] scope pos) spos) (wZ i (shN (zG src t tt te (own.map (·.2))))) :=
 (ps_setLc hc hN hy hyl hsw hi ok hg ht he hs).imp fun D σ H h=>yEH hK hv (yQQ (yUV h))
theorem jSN {tg:Expr} {t:Tg} (hK:X.K=B.K) (he:SimE X B N WX e m) (hg:PG X tg (gT X.K t)) (hs:swapsWithSole [tg] e pos.line X.env=pure false) (hw:swappedStores [tg] e X.env=pure none) (h1:(assignEach [tg] X.env).map (·.2)=[assign tg X.env]) :
  SimS X B N WX (.Assign [tg] e pos) (jWP t m) :=
 (ps_asg he hg hs hw h1).imp fun D σ H ⟨W,s,r,h⟩=>⟨W,s,r,h.bindE.mono fun v W1 s1 H1 r1 _ q v' rv=>by
  split at q
  ·rename_i e1 eb
   split at q
   ·exact q.elim
   ·rename_i o
    exact yDB hK (vs:=t.sl) (fun i hi=>hi) r1 (rv.rep (by simpa using o)) eb fun σ' r' _=>q W1 σ' H1 r'
  ·exact q.elim⟩
def yHP (i j:Nat) (ma:MA):MS:=fun s=>(ma s).bind fun vs s1=>match vs with
 | [v,w]=>if isOwn v=true∨isOwn w=true then .bad else .ok .nx ⟨(s1.e.set i (some v)).set j (some w),s1.h⟩
 | _=>.bad
theorem jXK {i j:Nat} {x y:Str} {a b:Expr} {mz:MA} {px py pt:Pos} {kt k2 pt2} (hc:X.calm=true) (hN:X.N.Nodup) (hi:X.N[i]?=some x) (hj:X.N[j]?=some y) (hij:i≠j)
  (hx:X.env.scope.names.lookup x=some .local) (hy:X.env.scope.names.lookup y=some .local) (ha:SimA X B N WX [a,b] mz)
  (hw:swappedStores [.Tuple [.Name x px,.Name y py] kt pt] (.Tuple [a,b] k2 pt2) X.env=pure (some [x,y]))
  (hs:swapsWithSole [.Tuple [.Name x px,.Name y py] kt pt] (.Tuple [a,b] k2 pt2) pos.line X.env=pure false) :
  SimS X B N WX (.Assign [.Tuple [.Name x px,.Name y py] kt pt] (.Tuple [a,b] k2 pt2) pos) (yHP i j mz) :=
 (ps_par hc hN hi hj hij hx hy ha hw hs).imp fun D σ H ⟨W,s,r,h⟩=>⟨W,s,r,h.bindE.mono fun vs W1 s1 H1 r1 _ q vs' rv=>by
  split at q
  ·rename_i v w
   obtain ⟨v',w',rfl,rv1,rv2⟩:=repts2 rv
   split at q
   ·exact q.elim
   ·rename_i o
    simp only [not_or] at o
    refine ⟨v',w',rfl,q W1 _ H1 (jFQ (jFQ r1 (rv1.rep (by simpa using o.1))) (rv2.rep (by simpa using o.2)))⟩
  ·exact q.elim⟩
theorem yOP {i:Nat} {xs:List PV} (r:Rel B N W s σ H) (e:s.e[i]?=some (some (.own xs))):∃ p vs,σ[i]?=some (some (.ref p))∧H p=some (.lst vs)∧Reps B W xs vs∧W.F p=none∧p∉W.m∧N.H p=none ∧
  Rel B N ⟨upd W.F p (.lst vs),W.m⟩ ⟨s.e.set i (some (.lst xs)),s.h⟩ σ H:=by
 obtain ⟨v,e1,p,vs,rfl,hH,rv,hF,hm,h0⟩:=r.env i _ e
 have hi:i < s.e.length:=(List.getElem?_eq_some_iff.mp e).1
 refine ⟨p,vs,e1,hH,rv,hF,hm,h0,?_⟩
 -- first the slot is cleared
 have rc:Rel B N W ⟨s.e.set i none,s.h⟩ σ H:=by
  refine ⟨r.hr,r.st,by rw [r.len]; simp,fun j y ej=>?_,fun j k y z a hjk f1 f2 o1 o2 s1 s2=>?_,r.pin⟩
  ·by_cases hj:i=j
   ·subst hj
    rw [List.getElem?_set_self hi] at ej
    cases ej
   ·rw [List.getElem?_set_ne hj] at ej
    exact r.env j y ej
  ·have g:∀ (j:Nat) (y:PV),(s.e.set i none)[j]?=some (some y)→s.e[j]?=some (some y):=fun j y f=>by
    by_cases hj:i=j
    ·subst hj
     rw [List.getElem?_set_self hi] at f
     cases f
    ·rw [List.getElem?_set_ne hj] at f
     exact f
   exact r.dis j k y z a hjk (g j y f1) (g k z f2) o1 o2 s1 s2
 have lc:Loose N W ⟨s.e.set i none,s.h⟩ σ p:=⟨hF,hm,fun j y f o z=>by
  by_cases hj:i=j
  ·subst hj
   have f:(s.e.set i none)[i]?=some (some y):=f
   rw [List.getElem?_set_self hi] at f
   cases f
  ·have f:(s.e.set i none)[j]?=some (some y):=f
   rw [List.getElem?_set_ne hj] at f
   exact r.dis i j _ y p hj e f rfl o e1 z,h0⟩
 have rk:=jXS rc lc hH jBT
 have rs:=jFQ (i:=i) rk (Rep.lst (xs:=xs) (vs:=vs) upd_same (rv.mono (jCN hF)))
 have es:σ.set i (some (.ref p))=σ:=by
  apply List.ext_getElem?
  intro j
  by_cases hj:i=j
  ·subst hj
   rw [List.getElem?_set_self (by rw [r.len]; exact hi),e1]
  ·rw [List.getElem?_set_ne hj]
 rw [es] at rs
 simpa using rs
end
end Lp
set_option maxHeartbeats 4000000
namespace Lp
open PySem PySem.Spec PyProof.Rows L2
section
variable {B:Bs} {N:Ent} {W W':Wd} {s s':S} {σ:L2.St} {H H':Hp} {h':AH}
theorem jGR (r:Rel B N W s σ H) (hr':HRel B W' h' H') (st:Step W s.h H W' h' H'):Rel B N W' ⟨s.e,h'⟩ σ H':=by
 refine ⟨hr',r.st.trans N.len st,r.len,fun i x e=>?_,r.dis,r.pin.trans st.le⟩
 obtain ⟨v,e1,sl⟩:=r.env i x e
 refine ⟨v,e1,?_⟩
 cases x with
 | own xs =>
  obtain ⟨a,vs,rfl,hH,rv,hF,hm,h0⟩:=sl
  have nl:¬ Live W s.h a:=fun l=>hm l.mem
  have ne:H a≠none:=by rw [hH]; exact fun z=>nomatch z
  exact ⟨a,vs,rfl,st.keep _ _ hH jBT nl,rv.mono st.le,st.fgrow a hF (.lst hH) nl,st.notm r.slen hm ne,h0⟩
 | don ks=>exact DonR.mono st.le sl
 | _=>exact Rep.mono st.le sl
theorem jIX {s:S} (st:Step W s.h H W' h' H'):StepE W s H W' ⟨s.e,h'⟩ H':=⟨st,fun _ _ e _=>e⟩
end
abbrev MF:=List PV→AH→R AH PV
def spF (B:Bs) (n:Nat) (m:MF):Sp:=fun vs H Q E=>∃ W h xs,HRel B W h H∧Reps B W xs vs∧xs.length=n∧(m xs h).post
 (fun v h'=>∀ W' H' v',HRel B W' h' H'→Step W h H W' h' H'→Rep B W' v v'→Q v' H')
 (fun x h'=>∀ W' H' cls d,HRel B W' h' H'→Step W h H W' h' H'→ExcR B H W' H' x cls d→E cls d H')
def mkF (k:Nat) (mb:MS):MF:=fun xs h=>match mb ⟨xs.map some++List.replicate k none,h⟩ with
 | .ok (.rt v) s=>.ok v s.h
 | .ok .nx s=>.ok .non s.h
 | .ok _ _=>.bad
 | .exc x s=>.exc x s.h
 | .bad=>.bad
theorem Rep.no {B:Bs} {W:Wd} {x:PV} {v:V} (r:Rep B W x v):isOwn x=false:=by cases r <;> rfl
theorem Reps.no {B:Bs} {W:Wd}:∀ {xs:List PV} {vs:List V},Reps B W xs vs→∀ x∈xs,isOwn x=false
 | _,_,.nil,_,h=>by cases h
 | _,_,.cons r t,x,h=>by
  rcases List.mem_cons.mp h with rfl | h
  ·exact r.no
  ·exact Reps.no t x h
theorem jNV {B:Bs} {W:Wd} {h:AH} {H:Hp} {xs:List PV} {vs:List V} {k:Nat} (hr:HRel B W h H) (r:Reps B W xs vs) :
  Rel B ⟨W,h,H,hr.len,W⟩ W ⟨xs.map some++List.replicate k none,h⟩ (vs.map some++List.replicate k none) H:=by
 have at_:∀ (i:Nat) (x:PV),(xs.map some++List.replicate k none)[i]?=some (some x)→xs[i]?=some x:=fun i x e=>by
  by_cases hi:i < (xs.map some).length
  ·rw [List.getElem?_append_left hi,List.getElem?_map] at e
   cases q:xs[i]? with
   | none=>rw [q] at e; cases e
   | some y=>rw [q] at e; cases e; rfl
  ·rw [List.getElem?_append_right (by omega)] at e
   rw [List.getElem?_replicate] at e
   split at e <;> cases e
 refine ⟨hr,Step.refl hr,by simp [r.length],fun i x e=>?_,fun i j x y a hij e1 e2 o1 o2 s1 s2=>?_,.refl W⟩
 ·obtain ⟨v,ev,rv⟩:=r.get (at_ i x e)
  refine ⟨v,?_,rv.slot⟩
  rw [List.getElem?_append_left (by rw [List.length_map]; exact (List.getElem?_eq_some_iff.mp ev).1),List.getElem?_map,ev]
  rfl
 ·rw [r.no x (List.mem_of_getElem? (at_ i x e1))] at o1
  cases o1
structure Bdy (X:Cx) (E:XK) (k:Nat):Prop where
 tk:Takes X fun c d _ H=>E c d H
 pa:PassesOwn (model X.prog X.w) X.A X.env X.xe
 rm:Room k X.A
theorem fn_ok {P:Program} {w:World} {K:PySem.W.Frag} {mg:Str→Option Value} {base:Heap} {x qual:Str} {params:Arguments} {body:List Stmt} {scope:Scope} {dvs:List V} {kws:List (Str × V)} {f:Addr} {fd:FuncData} {names ps:List Str} {k n kk:Nat} {B:Bs} {mb:MS}
  (F:FunD K x qual params body scope dvs kws f fd) (S:FnScope names ps scope) (hn:ps.length=n) (hk:names.length - n=kk)
  (hb:∀ (cdv:Value) (A:Around) (outer:List Env) (s:Shared) (H:Hp) (E:XK) (N:Ent),Bdy (cxOf (L2.CX P w) P w K mg base names qual scope f cdv A outer s H E) E k →
   SimSs (cxOf (L2.CX P w) P w K mg base names qual scope f cdv A outer s H E) B N (fun c d _ H=>E c d H) body mb):FnOk P w K mg base (L2.CX P w) (k+1) f fd ps (spF B n (mkF kk mb)):=by
 refine F.ok S (fun vs H Q E ⟨W,h,xs,hr,r,e,_⟩=>by rw [hn,← e,r.length]) fun cdv A outer s H vs Q E hr ⟨W,h,xs,hrel,r,e,q⟩=>?_
 have bd:Bdy (cxOf (L2.CX P w) P w K mg base names qual scope f cdv A outer s H E) E k:=⟨takes_of rfl rfl rfl rfl,passes_of rfl,hr⟩
 refine ⟨_,hb cdv A outer s H E ⟨W,h,H,hrel.len,W⟩ bd,W,⟨xs.map some++List.replicate kk none,h⟩,?_,?_⟩
 ·have:=jNV (k:=kk) hrel r
  unfold L2.start
  rw [show names.length - vs.length=kk by rw [← r.length,e,hk]]
  exact this
 ·unfold PostS
  unfold mkF at q
  split at q
  ·rename_i v s1 e1
   rw [e1]
   exact fun W' σ' H' v' r' rv=>q W' H' v' r'.hr r'.st rv
  ·rename_i s1 e1
   rw [e1]
   exact fun W' σ' H' r'=>q W' H' .non r'.hr r'.st .non
  ·exact q.elim
  ·rename_i x1 s1 e1
   rw [e1]
   exact fun W' σ' H' cls d r' ex=>q W' H' cls d r'.hr r'.st ex
  ·exact q.elim
def lift (r:R AH PV) (e:List (Option PV)):R S PV:=match r with
 | .ok v h=>.ok v ⟨e,h⟩
 | .exc x h=>.exc x ⟨e,h⟩
 | .bad=>.bad
def jOS (n:Nat) (m:MF) (vs:List PV):ME:=fun s=>if vs.length=n∧uB vs=true then lift (m vs s.h) s.e else .bad
def yL (n:Nat) (m:MF) (ma:MA):ME:=fun s=>(ma s).bind fun vs s1=>jOS n m vs s1
def pick {α:Type} (ix:List Nat) (l:List α):List α:=ix.filterMap (l[·]?)
structure Fn (P:Program) (w:World) (K:PySem.W.Frag) (mg:Str→Option Value) (base:Heap) (B:Bs) (k:Nat) (x:Str) (n:Nat) (m:MF):Prop where
 ex:∃ f fd ps,FnOk P w K mg base (L2.CX P w) k f fd ps (spF B n m)∧mg x=some (.ref f)∧PySem.W.keepIn K (.ref f)=true∧Binds K fd ps []
structure FnK (P:Program) (w:World) (K:PySem.W.Frag) (mg:Str→Option Value) (base:Heap) (B:Bs) (k:Nat) (x:Str) (n0:Nat) (ks:List Str) (ix:List Nat) (n:Nat) (m:MF):Prop where
 ex:∃ f fd ps,FnOk P w K mg base (L2.CX P w) k f fd ps (spF B n m)∧mg x=some (.ref f)∧PySem.W.keepIn K (.ref f)=true∧KBn K fd ps n0 ks (fun us ws=>pick ix (us++ws)) fun vs zs=>pick ix (vs++zs)
section
variable {P:Program} {w:World} {K:PySem.W.Frag} {mg:Str→Option Value} {base:Heap} {B:Bs} {j k n n0:Nat} {x:Str} {m:MF} {ks:List Str} {ix:List Nat}
theorem Fn.mono (F:Fn P w K mg base B j x n m) (h:j≤k):Fn P w K mg base B k x n m :=
 let ⟨f,fd,ps,a,b⟩:=F.ex
 ⟨f,fd,ps,a.mono h,b⟩
theorem FnK.mono (F:FnK P w K mg base B j x n0 ks ix n m) (h:j≤k):FnK P w K mg base B k x n0 ks ix n m :=
 let ⟨f,fd,ps,a,b⟩:=F.ex
 ⟨f,fd,ps,a.mono h,b⟩
theorem jWZ:∀ {vs:List V} {us:List Value} {i:Nat},Vals vs us→(∃ v u,vs[i]?=some v∧us[i]?=some u∧RelV v u)∨(vs[i]?=none∧us[i]?=none)
 | _,_,_,.nil=>.inr ⟨rfl,rfl⟩
 | _,_,0,.cons r _=>.inl ⟨_,_,rfl,rfl,r⟩
 | _,_,i+1,.cons _ t=>by simpa using jWZ (i:=i) t
theorem jNT {vs:List V} {us:List Value} (r:Vals vs us):∀ ix:List Nat,Vals (pick ix vs) (pick ix us)
 | []=>.nil
 | i :: ix=>by
  unfold pick
  rcases jWZ (i:=i) r with ⟨v,u,e1,e2,q⟩ | ⟨e1,e2⟩
  ·rw [List.filterMap_cons_some e1,List.filterMap_cons_some e2]
   exact .cons q (jNT r ix)
  ·rw [List.filterMap_cons_none e1,List.filterMap_cons_none e2]
   exact jNT r ix
theorem jNU {W:Wd} {xs:List PV} {vs:List V} (r:Reps B W xs vs):∀ ix:List Nat,Reps B W (pick ix xs) (pick ix vs)
 | []=>.nil
 | i :: ix=>by
  unfold pick
  cases e1:xs[i]? with
  | some x =>
   obtain ⟨v,e2,q⟩:=r.get e1
   rw [List.filterMap_cons_some e1,List.filterMap_cons_some e2]
   exact .cons q (jNU r ix)
  | none =>
   have e2:vs[i]?=none:=by
    rw [List.getElem?_eq_none_iff] at e1 ⊢
    rw [← r.length]; exact e1
   rw [List.filterMap_cons_none e1,List.filterMap_cons_none e2]
   exact jNU r ix
theorem yJV {qual:Str} {params:Arguments} {body:List Stmt} {scope:Scope} {kws:List (Str × V)} {f:Addr} {fd:FuncData} {ps:List Str} (F:FunD K x qual params body scope [] kws f fd)
  (h:∀ (kV doc pm:Value) (an:Option Addr) (cdv ct:Value) (us ws:List Value),us.length=n0→ws.length=ks.length→bindArgs (PySem.W.fnOf x qual params body scope .none kV doc pm an cdv ct) ⟨us,ks.zip ws⟩=pure (ps.zip (pick ix (us++ws)))) :
  KBn K fd ps n0 ks (fun us ws=>pick ix (us++ws)) fun vs zs=>pick ix (vs++zs):=by
 obtain ⟨oc,od,dV,kV,doc,pm,an,cdv,ct,osl,rfl,lk,hcd,hD,hK⟩:=F.ex
 rcases hD with ⟨_,rfl⟩ | ⟨e,_⟩
 ·exact ⟨fun s us ws _ l1 l2=>.of_eq (h kV doc pm an cdv ct us ws l1 l2),fun r1 r2=>jNT (r1.append r2) ix⟩
 ·exact absurd rfl e
end
section
variable {X:Cx} {B:Bs} {N:Ent} {WX:L2.WX} {W W':Wd} {s s':S} {σ:L2.St} {H H':Hp} {e:Expr} {es:List Expr} {ma mk:MA} {me:ME} {p pos kpos:Pos} {x:Str} {k n n0:Nat} {m:MF} {kws:List Keyword} {nm:Option Str} {ks:List Str} {ix:List Nat} {E:XK}
theorem jQN {vs:List PV} {vs':List V} {Q:VK} (r:Rel B N W s σ H) (rv:Reps B W vs vs') (q:Post B N WX W s H σ (jOS n m vs s) fun u W' _ H'=>∀ u',RepT B W' H' u u'→Q u' H') :
  spF B n m vs' H Q fun c d H=>WX c d σ H:=by
 unfold jOS at q
 split at q
 ·rename_i hc
  refine ⟨W,s.h,vs,r.hr,rv,hc.1,?_⟩
  unfold lift at q
  split at q
  ·rename_i v h e
   rw [e]
   exact fun W' H' v' hr' st ru=>q W' H' (jGR r hr' st) (jIX st) v' ru.hand
  ·rename_i y h e
   rw [e]
   exact fun W' H' cls d hr' st ex=>q W' H' cls d (jGR r hr' st) (jIX st) (ex.old r.st.tr) ex.nw
  ·exact q.elim
 ·exact q.elim
theorem jYX {vs:List PV} {P:PV→Wd→S→Hp→Prop} (q:Post B N WX W s H σ (jOS n m vs s) P):uB vs=true:=by
 unfold jOS at q
 split at q
 ·rename_i hc; exact hc.2
 ·exact q.elim
theorem jT (F:Fn X.prog X.w X.K X.mg X.base B k x n m) (tk:Takes X WX) (hr:Room k X.A) (hg:Gl X x) (ha:SimA X B N WX (e :: es) ma) (hdb:(x == ("__debug__" : Str))=false)
  (he:starEach (e :: es) X.env=(false,eval e X.env) :: starEach es X.env) (hpl:(backTo pos (starEach es X.env)).any (·.1)=false):SimE X B N WX (.Call (.Name x p) (e :: es) [] pos) (yL n m ma):=by
 obtain ⟨f,fd,ps,F1,hm,hk,hb⟩:=F.ex
 exact (pe_callS (E:=WE WX) F1 hr hg hm hk hb (fun σ=>passAt tk σ) ha hdb he hpl).imp fun σ H Q ⟨W,s,r,h⟩=>⟨W,s,r,(h.bind r.slen).mono fun vs W1 s1 H1 r1 _ q vs' rv=>jQN r1 (rv.reps (jYX q)) q⟩
abbrev SimK (X:Cx) (B:Bs) (N:Ent) (WX:L2.WX) (kws:List Keyword) (m:MA):Prop:=PK X kws (tA B N WX m)
theorem _root_.L2.PK.imp {X:Cx} {e:List Keyword} {t t':TA} (h:PK X e t) (w:∀ σ H Q,t' σ H Q→t σ H Q):PK X e t':=⟨fun p pins s σ H Q I q=>h.run p pins s σ H Q I (w _ _ _ q)⟩
theorem jXN:SimK X B N WX [] jO:=pk_nil.imp fun σ H Q ⟨W,s,r,h⟩=>h.ok r [] trivial
theorem jSQ (he:SimE X B N WX e me) (hr:SimK X B N WX kws mk):SimK X B N WX (⟨nm,e,kpos⟩ :: kws) (jE me mk) :=
 (pk_cons he hr).imp fun σ H Q ⟨W,s,r,h⟩=>⟨W,s,r,(h.bind r.slen).mono fun v W1 s1 H1 r1 _ q v' rv=>⟨W1,s1,r1,(q.bind r1.slen).mono fun vs W2 s2 H2 r2 st2 q2 vs' rvs=>q2.ok r2 (v' :: vs') ⟨rv.on r1.slen st2.st,rvs⟩⟩⟩
def jNQ (n0 nk:Nat) (ix:List Nat) (n:Nat) (m:MF) (ma mk:MA):ME:=fun s=>(ma s).bind fun vs s1=>(mk s1).bind fun zs s2=>if (vs.length=n0∧zs.length=nk)∧uB vs=true∧uB zs=true then jOS n m (pick ix (vs++zs)) s2 else .bad
theorem yHD {nk:Nat} (hl:ks.length=nk) {σ:L2.St} {H:Hp} {Q:VK} (h:tE B N (fun c d _ H=>E c d H) (jNQ n0 nk ix n m ma mk) σ H Q):tCallN n0 ks.length (spF B n m) (fun vs zs=>pick ix (vs++zs)) E (tA B N (fun c d _ H=>E c d H) ma) (tA B N (fun c d _ H=>E c d H) mk) σ H Q:=by
 obtain ⟨W,s,r,h⟩:=h
 refine ⟨W,s,r,(h.bind r.slen).mono fun vs W1 s1 H1 r1 _ q vs' rv=>⟨W1,s1,r1,(q.bind r1.slen).mono fun zs W2 s2 H2 r2 st2 q2 zs' rz=>?_⟩⟩
 split at q2
 ·rename_i hc
  have r1':=(rv.reps hc.2.1).mono st2.st.le
  have r2':=rz.reps hc.2.2
  exact ⟨by rw [← r1'.length]; exact hc.1.1,by rw [← r2'.length,hl]; exact hc.1.2,jQN r2 (jNU (r1'.append r2') ix) q2⟩
 ·exact q2.elim
theorem jQW {nk:Nat} (F:FnK X.prog X.w X.K X.mg X.base B k x 0 ks ix n m) (tk:Takes X fun c d _ H=>E c d H) (hr:Room k X.A) (hg:Gl X x) (hkw:SimK X B N (fun c d _ H=>E c d H) kws mk)
  (hl:ks.length=nk) (hall:(backToKw pos (keywordEach kws X.env)).all (·.1.isSome)=true) (hks:(backToKw pos (keywordEach kws X.env)).filterMap (·.1)=ks) (hdb:(x == ("__debug__" : Str))=false)
  (hpl:((backTo pos (starEach [] X.env)).any (·.1)||(backToKw pos (keywordEach kws X.env)).any (·.1.isNone))=false) :
  SimE X B N (fun c d _ H=>E c d H) (.Call (.Name x p) [] kws pos) (jNQ 0 nk ix n m jO mk):=by
 obtain ⟨f,fd,ps,F1,hm,hk,hb⟩:=F.ex
 refine ⟨fun pins s σ H Q I h=>?_⟩
 refine wpAny_Call_Name_kw (ld_glob I hg hm ?_ hdb)
 obtain ⟨W,s1,r,h⟩:=yHD hl h
 have h:=h.ok r [] trivial
 refine PySem.W.callWith_KW0 (h₀:=X.base) I.ok.mod.kin hk hall ?_ hpl
 refine thn (hkw.run pos pins s σ H _ I h) fun ws s2 ⟨zs,H2,I2,rz,l1,l2,q2⟩=>⟨I2.kIn,?_⟩
 rw [hks]
 exact run_fnN (us:=[]) (vs:=[]) F1 hr hb (passes_call tk fun _ _ _ _ h=>h) I2 .nil rz rfl l2 q2
end
end Lp
set_option maxHeartbeats 4000000
namespace Lp
open PySem PySem.Spec PyProof.Rows L2
def Ent.at (N:Ent) (W:Wd):Ent:=⟨N.W,N.h,N.H,N.len,W⟩
section
variable {B:Bs} {N:Ent} {W W':Wd} {s s':S} {σ:L2.St} {H H':Hp}
theorem Rel.pinAt (r:Rel B N W s σ H):Rel B (N.at W) W s σ H:=⟨r.hr,r.st,r.len,r.env,r.dis,.refl W⟩
theorem Rel.unpin (r:Rel B (N.at W) W' s σ H) (l:N.P.Le W):Rel B N W' s σ H:=⟨r.hr,r.st,r.len,r.env,r.dis,l.trans r.pin⟩
end
noncomputable def jCV (r:Sr) (t:Tg) (body:MS):List PV→MS
 | [],s=>if qO s.h r then .ok .nx s else .bad
 | x :: xs,s=>if qO s.h r then match qK t x s.e with
   | some e1=>(body ⟨e1,s.h⟩).bind fun f s'=>match f with
    | .nx=>jCV r t body xs s'
    | .ct=>jCV r t body xs s'
    | .bk=>.ok .nx s'
    | .rt v=>.ok (.rt v) s'
   | none=>.bad
  else .bad
noncomputable def jTE (src:S→R S Sr) (t:Tg) (body:MS):MS:=fun s=>(src s).bind fun r s1=>if r.o=true∨sizeLine < r.xs.length then .bad else jCV r t body r.xs s1
section
variable {X:Cx} {B:Bs} {N:Ent} {WX:L2.WX} {W W':Wd} {s s':S} {σ:L2.St} {H H':Hp} {tg iter:Expr} {body:List Stmt} {mb:MS} {src:S→R S Sr} {t:Tg} {pos:Pos}
theorem yOQ {st:List Stmt} (h:∀ N,SimSs X B N WX st mb):PSs X st (fun D σ H=>∃ N,tS B N WX mb D σ H):=⟨fun pins s σ H D I ⟨N,q⟩=>(h N).run pins s σ H D I q⟩
theorem PostS.unpin {D:Ends} {r:R S Fl} (l:N.P.Le W) (q:PostS B N WX D r):PostS B (N.at W) WX D r:=R.post_mono q (fun f s' q=>by
  cases f with
  | nx=>exact fun W' σ' H' r'=>q W' σ' H' (r'.unpin l)
  | rt v=>exact fun W' σ' H' v' r'=>q W' σ' H' v' (r'.unpin l)
  | bk=>exact fun W' σ' H' r'=>q W' σ' H' (r'.unpin l)
  | ct=>exact fun W' σ' H' r'=>q W' σ' H' (r'.unpin l)) fun x s' q W' σ' H' cls d r'=>q W' σ' H' cls d (r'.unpin l)
theorem jGO (hp:PassesOwn (model X.prog X.w) X.A X.env X.xe) (hK:X.K=B.K) (hc:X.calm=true) (hi:SimI X B N WX tg iter src) (hg:PG X tg (gT X.K t)) (hb:∀ N,SimSs X B N WX body mb) (hs:∀ x,foldedSetIterable iter X.env x=pure x) :
  SimS X B N WX (.For tg iter body [] pos) (jTE src t mb) :=
 (ps_for hp hc hi hg (yOQ hb) hs).imp fun D σ H ⟨W,s,r,h⟩=>by
  refine ⟨W,s,r,h.bindE.mono fun rr W1 s1 H1 r1 _ q st hz J wk=>?_⟩
  split at q
  ·exact q.elim
  ·rename_i ho
   simp only [not_or] at ho
   have no:rr.o=true→∀ {P:Prop},P:=fun z=>absurd z ho.1
   refine ⟨fun i m σ' H'=>m=rr.xs.length - i∧i≤rr.xs.length∧∃ W' s',Rel B (N.at W1) W' s' σ' H'∧PostS B (N.at W1) WX D (jCV rr t mb (rr.xs.drop i) s'),⟨_,rfl,Nat.zero_le _,W1,s1,r1.pinAt,q.unpin r1.pin⟩,?_⟩
   rintro i m σ' H' ⟨rfl,hi,W',s',r',q'⟩
   by_cases hl:i < rr.xs.length
   ·right
    rw [List.drop_eq_getElem_cons hl] at q'
    unfold jCV at q'
    split at q'
    ·rename_i st'
     obtain ⟨g1,g2⟩:=wk.go W' s' H' r'.hr r'.pin st' (fun z=>no z) i rr.xs[i] (List.getElem?_eq_getElem hl)
     refine ⟨g1,fun σ2 H2=>(rr.xs.length - (i+1)=rr.xs.length - (i+1))∧i+1≤rr.xs.length∧∃ W' s',Rel B (N.at W1) W' s' σ2 H2∧PostS B (N.at W1) WX D (jCV rr t mb (rr.xs.drop (i+1)) s'),fun σ2 H2 z=>⟨_,by omega,z⟩,fun x H2 y=>?_⟩
     obtain ⟨W2,gr,rx⟩:=g2 x H2 y
     split at q'
     ·rename_i e1 eb
      refine yDB hK (vs:=t.sl) (fun i hi=>hi) (gr.rel r') rx eb fun σ3 r3 _=>⟨N.at W1,W2,⟨e1,s'.h⟩,r3,R.post_mono (R.post_bind q') (fun f s4 q4=>?_) fun x s4 q4=>q4⟩
      cases f with
      | nx=>exact fun W5 σ5 H5 r5=>⟨rfl,hl,W5,s4,r5,q4⟩
      | ct=>exact fun W5 σ5 H5 r5=>⟨rfl,hl,W5,s4,r5,q4⟩
      | bk=>exact q4
      | rt v=>exact q4
     ·exact q'.elim
    ·exact q'.elim
   ·left
    rw [List.drop_eq_nil_of_le (by omega)] at q'
    unfold jCV at q'
    split at q'
    ·rename_i st'
     exact ⟨wk.stop W' s' H' r'.hr r'.pin st' (fun z=>no z) i (by omega),q' W' σ' H' r'⟩
    ·exact q'.elim
end
section
variable {B:Bs} {N:Ent} {W W':Wd} {s s':S} {σ:L2.St} {h h':AH} {H H':Hp} {n:Nat} {c c':Cell} {a p:Addr} {o:HO}
theorem yJF {α:Type} {l:List (Option α)} {n m:Nat} {c:α} {x:α} (e:(l.set n (some c))[m]?=some (some x)):(m=n∧x=c)∨(m≠n∧l[m]?=some (some x)):=by
 by_cases hm:n=m
 ·subst hm
  by_cases hl:n < l.length
  ·rw [List.getElem?_set_self hl] at e
   cases e
   exact .inl ⟨rfl,rfl⟩
  ·rw [List.getElem?_eq_none (by rw [List.length_set]; omega)] at e
   cases e
 ·rw [List.getElem?_set_ne hm] at e
  exact .inr ⟨fun z=>hm z.symm,e⟩
theorem yGT (hr:HRel B W h H) (e:h[n]?=some (some c)) (em:W.m[n]?=some a) (ho:SzO o) (hc:CellR B W (upd H a o) a c'):HRel B W (h.set n (some c')) (upd H a o):=by
 have hF:=(hr.cell n c a e em).1
 refine ⟨fun b u e1=>?_,by rw [List.length_set]; exact hr.len,hr.nd,fun b hb=>?_,fun b u e1 nt=>?_,hr.fz,?_,fun m c1 b e1 e2=>?_⟩
 ·have ne:b≠a:=fun z=>by rw [z,hF] at e1; cases e1
  rw [upd_ne ne]; exact hr.agree _ _ e1
 ·by_cases hba:b=a
  ·rw [hba,upd_same]; exact fun z=>nomatch z
  ·rw [upd_ne hba]; exact hr.mt b hb
 ·by_cases hba:b=a
  ·rw [hba,upd_same] at e1; cases e1; exact ho
  ·rw [upd_ne hba] at e1; exact hr.hz b u e1 nt
 ·have q:=(hr.cell n c a e em).2
  cases c with
  | lst xs=>obtain ⟨vs,q,_⟩:=q; exact jLW hr.tb q jBT yJP
  | dic ks=>obtain ⟨L,q,_⟩:=q; exact jLW hr.tb q yJN yTX
  | dik ks=>obtain ⟨L,q,_⟩:=q; exact jLW hr.tb q yRA yWI
  | ins c fs=>obtain ⟨dx,vs,q,_⟩:=q; exact jLW hr.tb q yJM yTW
 ·rcases yJF e1 with ⟨rfl,rfl⟩ | ⟨hm,e3⟩
  ·rw [em] at e2; cases e2
   exact ⟨hF,hc⟩
  ·have ne:b≠a:=fun z=>by
    subst z
    have i1:=(List.getElem?_eq_some_iff.mp e2).1
    have i2:=(List.getElem?_eq_some_iff.mp em).1
    exact hm ((List.getElem?_inj i1 hr.nd).mp (e2.trans em.symm))
   obtain ⟨h1,h2⟩:=hr.cell m c1 b e3 e2
   exact ⟨h1,h2.off ne⟩
theorem yFQ (hr:HRel B W h H) (e:h[n]?=some (some c)) (em:W.m[n]?=some a):Step W h H W (h.set n (some c')) (upd H a o):=by
 refine ⟨.refl W,by rw [List.length_set]; exact Nat.le_refl _,fun m c1 hm e1=>?_,fun b u e1 _ nl=>?_,fun b e1=>?_,fun b e1 _ _=>e1,by rw [List.length_set]; exact hr.len,fun m b hm e1=>?_⟩
 ·rcases yJF e1 with ⟨rfl,rfl⟩ | ⟨_,e3⟩
  ·exact ⟨_,e⟩
  ·exact ⟨_,e3⟩
 ·have ne:b≠a:=fun z=>nl (z ▸ ⟨n,c,e,em⟩)
  rw [upd_ne ne]; exact e1
 ·by_cases hba:b=a
  ·rw [hba,upd_same] at e1; cases e1
  ·rw [upd_ne hba] at e1; exact e1
 ·have:=(List.getElem?_eq_some_iff.mp e1).1
  rw [hr.len] at this; omega
theorem jHC:W.Le ⟨W.F,W.m++[p]⟩:=⟨fun _ _ e=>e,List.prefix_append _ _⟩
theorem jPG {α:Type} {l:List α} {x y:α} {n:Nat} (e:(l++[x])[n]?=some y):(n < l.length∧l[n]?=some y)∨(n=l.length∧y=x):=by
 by_cases hn:n < l.length
 ·rw [List.getElem?_append_left hn] at e
  exact .inl ⟨hn,e⟩
 ·rw [List.getElem?_append_right (by omega)] at e
  by_cases h0:n - l.length=0
  ·rw [h0] at e
   cases e
   exact .inr ⟨by omega,rfl⟩
  ·obtain ⟨m,hm⟩:=Nat.exists_eq_succ_of_ne_zero h0
   rw [hm] at e
   simp at e
theorem yGR (hr:HRel B W h H) (hF:W.F p=none) (hm:p∉W.m) (hp:H p≠none) (hc:CellR B W H p c):HRel B ⟨W.F,W.m++[p]⟩ (h++[some c]) H:=by
 refine ⟨hr.agree,by simp [hr.len],?_,fun b hb=>?_,hr.hz,hr.fz,hr.tb,fun m c1 b e1 e2=>?_⟩
 ·rw [List.nodup_append]
  exact ⟨hr.nd,by simp,fun x hx y hy e=>hm (by simp at hy; rw [← hy,← e]; exact hx)⟩
 ·rcases List.mem_append.mp hb with hb | hb
  ·exact hr.mt b hb
  ·simp at hb; rw [hb]; exact hp
 ·have e2:(W.m++[p])[m]?=some b:=e2
  rcases jPG e1 with ⟨hn,e3⟩ | ⟨rfl,e3⟩
  ·rcases jPG e2 with ⟨_,e4⟩ | ⟨e4,_⟩
   ·obtain ⟨h1,h2⟩:=hr.cell m c1 b e3 e4
    exact ⟨h1,h2.mono jHC fun _ z=>z⟩
   ·rw [hr.len] at e4; omega
  ·cases e3
   rcases jPG e2 with ⟨hn,_⟩ | ⟨_,rfl⟩
   ·rw [hr.len] at hn; omega
   ·exact ⟨hF,hc.mono jHC fun _ z=>z⟩
theorem Step.snoc {H0:Hp} {W0:Wd} {h0:AH} (st:Step W0 h0 H0 W h H) (hp:H0 p=none):Step W0 h0 H0 ⟨W.F,W.m++[p]⟩ (h++[some c]) H:=by
 refine ⟨st.le.trans jHC,by rw [List.length_append]; exact Nat.le_trans st.hl (Nat.le_add_right _ _),fun m c1 hm e=>?_,st.keep,st.tr,st.fgrow,by simp [st.hm],fun m b hm e=>?_⟩
 ·rw [List.getElem?_append_left (Nat.lt_of_lt_of_le hm st.hl)] at e
  exact st.dead m c1 hm e
 ·rcases jPG e with ⟨_,e4⟩ | ⟨_,rfl⟩
  ·exact st.mnew m b hm e4
  ·exact hp
theorem yLI (r:Rel B N W s σ H) (l:Loose N W s σ p) (hp:H p≠none) (hc:CellR B W H p c):Rel B N ⟨W.F,W.m++[p]⟩ ⟨s.e,s.h++[some c]⟩ σ H:=by
 refine ⟨yGR r.hr l.F l.m hp hc,r.st.snoc l.e,r.len,fun i x e=>?_,r.dis,r.pin.trans jHC⟩
 obtain ⟨v,e1,sl⟩:=r.env i x e
 refine ⟨v,e1,?_⟩
 cases x with
 | own xs =>
  obtain ⟨b,vs,rfl,h1,h2,h3,h4,h5⟩:=sl
  refine ⟨b,vs,rfl,h1,h2.mono jHC,h3,fun z=>?_,h5⟩
  rcases List.mem_append.mp z with z | z
  ·exact h4 z
  ·simp at z
   subst z
   exact l.o i _ e rfl e1
 | don ks=>exact DonR.mono jHC sl
 | _=>exact Rep.mono jHC sl
end
def jWJ (mn:S→R S (List PV)):ME:=fun s=>(mn s).bind fun xs s1=>.ok (.cel s1.h.length) ⟨s1.e,s1.h++[some (.lst xs)]⟩
section
variable {X:Cx} {B:Bs} {N:Ent} {WX:L2.WX} {W W':Wd} {s s':S} {σ:L2.St} {H H':Hp} {e o i:Expr} {es:List Expr} {mn:S→R S (List PV)} {ma:MA} {m mo mi:ME} {pos:Pos}
theorem jLY (h:SimN X B N WX e mn):SimE X B N WX e (jWJ mn):=h.imp fun σ H Q ⟨W,s,r,h⟩=>⟨W,s,r,R.post_mono (R.post_bind h) (fun xs s1 q W1 H1 r1 st p vs hp l hH rv=>by
 have ne:H1 p≠none:=by rw [hH]; exact fun z=>nomatch z
 have r2:=yLI (c:=.lst xs) r1 l ne ⟨vs,hH,rv⟩
 exact q _ H1 r2 ⟨st.st.snoc hp,st.eo⟩ _ (Rep.cel (by show (W1.m++[p])[s1.h.length]?=some p; rw [← r1.hr.len]; simp)).hand) fun x s1 q=>q⟩
def jRR (ma:MA):S→R S (List PV):=fun s=>(ma s).bind fun vs s1=>if uB vs=true∧vs.length≤sizeLine then .ok vs s1 else .bad
theorem jFG (ha:SimA X B N WX es ma):SimN X B N WX (.List es pos) (jRR ma) :=
 (pe_lst ha).imp fun σ H Q ⟨W,s,r,h⟩=>⟨W,s,r,R.post_mono (R.post_bind h) (fun vs s1 q W1 H1 r1 st vs' rv=>by
  split at q
  ·rename_i hc
   have rv':=rv.reps hc.1
   have hz:vs'.length≤sizeLine:=by rw [← rv'.length]; exact hc.2
   refine ⟨hz,fun p hp=>?_⟩
   have l:=r1.loose hp
   have hp0:H p=none:=st.st.tr _ hp
   exact q W1 _ (jJQ r1 l (o:=.lst vs') hz (.inl hp)) (st.put hp0 l.m) p vs' hp0 l upd_same rv'
  ·exact q.elim) fun x s1 q=>q⟩
end
end Lp
set_option maxHeartbeats 4000000
namespace Lp
open PySem PySem.Spec PyProof.Rows L2
section
variable {B:Bs} {N:Ent} {W W':Wd} {s s':S} {σ:L2.St} {H H':Hp} {i:Nat} {xs:List PV}
theorem yGK (r:Rel B N W s σ H) (e:s.e[i]?=some (some (.own xs))):∃ p vs,σ[i]?=some (some (.ref p))∧H p=some (.lst vs)∧Reps B W xs vs∧Rel B N W ⟨s.e.set i none,s.h⟩ σ H∧Loose N W ⟨s.e.set i none,s.h⟩ σ p:=by
 obtain ⟨v,e1,p,vs,rfl,hH,rv,hF,hm,h0⟩:=r.env i _ e
 have g:∀ (j:Nat) (y:PV),(s.e.set i none)[j]?=some (some y)→j≠i∧s.e[j]?=some (some y):=fun j y f=>by
  by_cases hj:i=j
  ·subst hj
   by_cases hl:i < s.e.length
   ·rw [List.getElem?_set_self hl] at f; cases f
   ·rw [List.getElem?_eq_none (by rw [List.length_set]; omega)] at f; cases f
  ·rw [List.getElem?_set_ne hj] at f
   exact ⟨fun z=>hj z.symm,f⟩
 refine ⟨p,vs,e1,hH,rv,⟨r.hr,r.st,by rw [r.len]; simp,fun j y ej=>r.env j y (g j y ej).2,fun j k y z a hjk f1 f2 o1 o2 s1 s2=>r.dis j k y z a hjk (g j y f1).2 (g k z f2).2 o1 o2 s1 s2,r.pin⟩,hF,hm,fun j y f o z=>?_,h0⟩
 obtain ⟨ne,f'⟩:=g j y f
 exact r.dis i j _ y p (Ne.symm ne) e f' rfl o e1 z
theorem yBU (r:Rel B N W s σ H) (e:s.e[i]?=some (some (.own xs))):∃ p vs,σ[i]?=some (some (.ref p))∧H p=some (.lst vs)∧Reps B W xs vs ∧
  ∀ ys us,Reps B W ys us→us.length≤sizeLine→Rel B N W ⟨s.e.set i (some (.own ys)),s.h⟩ σ (upd H p (.lst us)):=by
 obtain ⟨p,vs,e1,hH,rv,rc,lc⟩:=yGK r e
 refine ⟨p,vs,e1,hH,rv,fun ys us ru hz=>?_⟩
 have r2:=jJQ rc lc (o:=.lst us) hz (yIV hH)
 have:=yDW (i:=i) (p:=p) (xs:=ys) (vs:=us) (σ':=σ) r2 rfl (fun _ _=>rfl) (.inl e1) ⟨lc.F,lc.m,fun j x _ f o=>lc.o j x f o,lc.e⟩ upd_same ru
 simpa using this
end
def yFE (xs:List PV) (k:PV) (v:PV):Option (List PV):=match k with
 | .int j=>if isOwn v=true then none else (ixN xs.length j).map fun q=>xs.set q v
 | _=>none
def jFA (h:AH) (n:Nat):Option (List PV):=match h[n]? with
 | some (some (.lst xs))=>some xs
 | _=>none
def yFI:PV→Option Nat
 | .cel n=>some n
 | _=>none
def jEY (mv mo mi:ME):MS:=fun s=>(mv s).bind fun v s1=>(mo s1).bind fun o s2=>(mi s2).bind fun k s3=>match yFI o with
 | some n=>match jFA s3.h n with
  | some xs=>match yFE xs k v with
   | some ys=>.ok .nx ⟨s3.e,s3.h.set n (some (.lst ys))⟩
   | none=>.bad
  | none=>.bad
 | none=>.bad
def ownAt (e:List (Option PV)) (i:Nat):Option (List PV):=match e[i]? with
 | some (some (.own xs))=>some xs
 | _=>none
def jTF (xs:List PV) (v:PV):Option (List PV):=if isOwn v=true∨sizeLine≤xs.length then none else some (xs++[v])
def jWU (mo me:ME):ME:=fun s=>(mo s).bind fun o s1=>match yFI o with
 | some n=>match jFA s1.h n with
  | some _=>(me s1).bind fun v s2=>match jFA s2.h n with
   | some xs=>match jTF xs v with
    | some ys=>.ok .non ⟨s2.e,s2.h.set n (some (.lst ys))⟩
    | none=>.bad
   | none=>.bad
  | none=>.bad
 | none=>.bad
def jLS (i:Nat) (me:ME):MS:=fun s=>match ownAt s.e i with
 | some _=>(me s).bind fun v s1=>match ownAt s1.e i with
  | some xs=>match jTF xs v with
   | some ys=>.ok .nx ⟨s1.e.set i (some (.own ys)),s1.h⟩
   | none=>.bad
  | none=>.bad
 | none=>.bad
theorem jGT {h:AH} {n:Nat} {xs:List PV} (e:jFA h n=some xs):h[n]?=some (some (.lst xs)):=by
 unfold jFA at e
 split at e
 ·rename_i ys q; cases e; exact q
 ·cases e
theorem yEX {x:PV} {n:Nat} (e:yFI x=some n):x=.cel n:=by
 unfold yFI at e
 split at e
 ·cases e; rfl
 ·cases e
theorem jXX {e:List (Option PV)} {i:Nat} {xs:List PV} (h:ownAt e i=some xs):e[i]?=some (some (.own xs)):=by
 unfold ownAt at h
 split at h
 ·rename_i ys q; cases h; exact q
 ·cases h
theorem yOC {xs ys:List PV} {k v:PV} (e:yFE xs k v=some ys):∃ j q,k=.int j∧isOwn v=false∧ixN xs.length j=some q∧ys=xs.set q v:=by
 unfold yFE at e
 split at e
 ·rename_i j
  split at e
  ·cases e
  ·rename_i o
   cases q:ixN xs.length j with
   | none=>rw [q] at e; cases e
   | some m=>rw [q] at e; cases e; exact ⟨j,m,rfl,by simpa using o,q,rfl⟩
 ·cases e
theorem yFC {xs ys:List PV} {v:PV} (e:jTF xs v=some ys):isOwn v=false∧xs.length < sizeLine∧ys=xs++[v]:=by
 unfold jTF at e
 split at e
 ·cases e
 ·rename_i o
  cases e
  simp only [not_or] at o
  exact ⟨by simpa using o.1,by omega,rfl⟩
section
variable {X:Cx} {B:Bs} {N:Ent} {WX:L2.WX} {W W':Wd} {s s':S} {σ:L2.St} {H H':Hp} {e o ie:Expr} {mv mo mi me:ME} {pos tpos apos cpos npos:Pos} {x:Str} {i:Nat}
theorem yDV {n:Nat} {v:V} (r:RepT B W H (.cel n) v):∃ a,v=.ref a∧W.m[n]?=some a:=by
 cases (show Rep B W (.cel n) v from r) with
 | cel h=>exact ⟨_,rfl,h⟩
theorem jYW {n:Nat} {a:Addr} {xs ys:List PV} {us:List V} (r:Rel B N W s σ H) (e:jFA s.h n=some xs) (em:W.m[n]?=some a) (ru:Reps B W ys us) (hz:us.length≤sizeLine):Rel B N W ⟨s.e,s.h.set n (some (.lst ys))⟩ σ (upd H a (.lst us))∧StepE W s H W ⟨s.e,s.h.set n (some (.lst ys))⟩ (upd H a (.lst us)):=by
 have hr2:=yGT (c':=.lst ys) r.hr (jGT e) em (o:=.lst us) hz ⟨us,upd_same,ru⟩
 have st:=yFQ (c':=.lst ys) (o:=.lst us) r.hr (jGT e) em
 exact ⟨jGR r hr2 st,jIX st⟩
theorem jES (hv:SimE X B N WX e mv) (ho:SimE X B N WX o mo) (hi:SimE X B N WX ie mi)
  (ha:∀ v,assign (.Subscript o ie tpos) X.env v=(do
   let ov ← holding [v] (eval o X.env)
   let iv ← holding [v,ov] (eval ie X.env)
   standAt tpos
   holding [v,ov,iv] (setItem ov iv v)
   release [v,ov,iv] []))
  (hs:swapsWithSole [.Subscript o ie tpos] e pos.line X.env=pure false) (hw:swappedStores [.Subscript o ie tpos] e X.env=pure none) (h1:(assignEach [.Subscript o ie tpos] X.env).map (·.2)=[assign (.Subscript o ie tpos) X.env]) :
  SimS X B N WX (.Assign [.Subscript o ie tpos] e pos) (jEY mv mo mi) :=
 (ps_asg hv (pg_sub ho hi set_list ha) hs hw h1).imp fun D σ H ⟨W,s,r,h⟩=>⟨W,s,r,h.bindE.mono fun v W1 s1 H1 r1 _ q v' rv=>⟨W1,s1,r1,q.bindE.mono fun ov W2 s2 H2 r2 st2 q o' ro=>⟨W2,s2,r2,q.bindE.mono fun k W3 s3 H3 r3 st3 q3 k' rk=>by
  split at q3
  ·rename_i n en
   split at q3
   ·rename_i xs ex
    split at q3
    ·rename_i ys ey
     obtain ⟨j,m,rfl,ov1,e3,rfl⟩:=yOC ey
     obtain rfl:=yEX en
     obtain ⟨a,rfl,em⟩:=yDV (ro.on r2.slen st3.st)
     obtain ⟨_,vs,hH,rvs⟩:=r3.hr.cell n _ a (jGT ex) em
     have rv3:=((rv.on r1.slen st2.st).on r2.slen st3.st).rep ov1
     have hz:(vs.set m v').length≤sizeLine:=by rw [List.length_set]; exact r3.hr.hz a _ hH jBT
     refine ⟨a,vs,j,m,rfl,jAI rk,hH,by rw [← rvs.length]; exact e3,?_⟩
     exact q3 W3 σ _ (jYW r3 ex em (rvs.set rv3 m) hz).1
    ·exact q3.elim
   ·exact q3.elim
  ·exact q3.elim⟩⟩⟩
theorem yKU (ho:SimE X B N WX o mo) (he:SimE X B N WX e me) (hbase:attributeBase o "append" X.env (eval o X.env)=eval o X.env)
  (hfew:((backTo cpos (starEach [e] X.env)).all (fun x=>!x.1)&&(backToKw cpos (keywordEach [] X.env)).all (fun x=>x.1.isSome)&&decide (([e]:List Expr).length+([]:List Keyword).length+(if ([]:List Keyword).isEmpty then 0 else 1) < 30))=true)
  (hline:(apos.endLine == cpos.line)=true) (hs:starEach [e] X.env=(false,eval e X.env) :: starEach [] X.env) (hplain:(backTo cpos (starEach [] X.env)).any (·.1)=false) :
  SimE X B N WX (.Call (.Attribute o "append" apos) [e] [] cpos) (jWU mo me) :=
 (pe_bm PySem.F.plainAttrs_list PySem.F.slot_list_append PySem.F.type_list_append mt_append ho (pa_cons he pa_nil hs) hbase hfew hline hs hplain).imp fun σ H Q ⟨W,s,r,h⟩=>⟨W,s,r,(h.bind r.slen).mono fun o1 W1 s1 H1 r1 _ q o' ro=>by
  split at q
  ·rename_i n en
   obtain rfl:=yEX en
   obtain ⟨a,rfl,em⟩:=yDV ro
   split at q
   ·rename_i xs0 e0
    obtain ⟨_,vs0,hH0,_⟩:=r1.hr.cell n _ a (jGT e0) em
    refine ⟨.inl ⟨rfl,vs0,.inl (.inl hH0)⟩,W1,s1,r1,(q.bind r1.slen).mono fun v W2 s2 H2 r2 st2 q v' rv=>?_⟩
    split at q
    ·rename_i xs ex
     split at q
     ·rename_i ys ey
      obtain ⟨ov1,hz,rfl⟩:=yFC ey
      have em2:=st2.st.le.at em
      obtain ⟨_,vs,hH,rvs⟩:=r2.hr.cell n _ a (jGT ex) em2
      have hz':vs.length < sizeLine:=by rw [← rvs.length]; exact hz
      refine ⟨a,vs,v',rfl,rfl,hH,hz',?_⟩
      obtain ⟨r3,st3⟩:=jYW r2 ex em2 (rvs.append (.one (rv.rep ov1))) (by rw [List.length_append]; exact hz')
      exact q W2 _ r3 st3 .non Rep.non.hand
     ·exact q.elim
    ·exact q.elim
   ·exact q.elim
  ·exact q.elim⟩
theorem jSO (hN:X.N[i]?=some x) (hx:Vis X.env.scope x) (hd:(x == ("__debug__" : Str))=false) (hcd:(x == ("__classdict__" : Str))=false) (he:SimE X B N WX e me) (hbase:attributeBase (.Name x npos) "append" X.env (eval (.Name x npos) X.env)=eval (.Name x npos) X.env)
  (hfew:((backTo cpos (starEach [e] X.env)).all (fun x=>!x.1)&&(backToKw cpos (keywordEach [] X.env)).all (fun x=>x.1.isSome)&&decide (([e]:List Expr).length+([]:List Keyword).length+(if ([]:List Keyword).isEmpty then 0 else 1) < 30))=true)
  (hline:(apos.endLine == cpos.line)=true) (hs:starEach [e] X.env=(false,eval e X.env) :: starEach [] X.env) (hplain:(backTo cpos (starEach [] X.env)).any (·.1)=false)
  (hsw:swapsWith (.Call (.Attribute (.Name x npos) "append" apos) [e] [] cpos) none pos.line X.env=pure false) :
  SimS X B N WX (.Expr (.Call (.Attribute (.Name x npos) "append" apos) [e] [] cpos) pos) (jLS i me) :=
 (ps_expr (pe_bm PySem.F.plainAttrs_list PySem.F.slot_list_append PySem.F.type_list_append mt_append (pe_var hN hx hd hcd) (pa_cons he pa_nil hs) hbase hfew hline hs hplain) hsw).imp fun D σ H ⟨W,s,r,h⟩=>by
  unfold jLS at h
  split at h
  ·rename_i xs0 e0
   obtain ⟨ov,eo,p0,vs0,rfl,hH0,_⟩:=r.env i _ (jXX e0)
   refine ⟨_,eo,.inl ⟨rfl,vs0,.inl (.inl hH0)⟩,W,s,r,h.bindE.mono fun v W2 s2 H2 r2 st2 q v' rv=>?_⟩
   split at q
   ·rename_i xs ex
    split at q
    ·rename_i ys ey
     obtain ⟨ov1,hz,rfl⟩:=yFC ey
     obtain ⟨p,vs,e1,hH,rvs,fin⟩:=yBU r2 (jXX ex)
     rw [e1] at eo
     cases eo
     have hz':vs.length < sizeLine:=by rw [← rvs.length]; exact hz
     exact ⟨_,vs,v',rfl,rfl,hH,hz',q W2 σ _ (fin _ _ (rvs.append (.one (rv.rep ov1))) (by rw [List.length_append]; exact hz'))⟩
    ·exact q.elim
   ·exact q.elim
  ·exact h.elim
end
def MethS (X:Cx) (B:Bs) (f:AH→Str→List PV→Option PV) (r:V→List V→Hp→VK→Prop):Prop:=∀ (W:Wd) (h:AH) (H:Hp) (x:Str) (xs:List PV) (z:PV) (xs':List V) (Q:VK),HRel B W h H→SOk x→RepTs B W H xs xs'→f h x xs=some z →
 (∀ W' H' z',Grow W H W' H'→RepT B W' H' z z'→Q z' H')→r (.str x) xs' H Q
def strN:PV→Option Str
 | .str x=>some x
 | _=>none
def eMS (f:AH→Str→List PV→Option PV) (mo:ME) (ma:MA):ME:=fun s=>(mo s).bind fun o s1=>match strN o with
 | some x=>(ma s1).bind fun vs s2=>match f s2.h x vs with
  | some z=>.ok z s2
  | none=>.bad
 | none=>.bad
section
variable {X:Cx} {B:Bs} {N:Ent} {WX:L2.WX} {W W':Wd} {s s':S} {σ:L2.St} {H H':Hp} {o e:Expr} {es:List Expr} {mo:ME} {ma:MA} {name:Str} {apos cpos:Pos} {id:String} {r:V→List V→Hp→VK→Prop} {f:AH→Str→List PV→Option PV}
theorem jTY {x:PV} {y:Str} (e:strN x=some y):x=.str y:=by
 unfold strN at e
 split at e
 ·cases e; rfl
 ·cases e
theorem jDD (slot:Slot "str" name id) (hty:typeOf (.builtin id)=pure (.type "method_descriptor")) (hm:MtR X id r) (hf:MethS X B f r) (ho:SimE X B N WX o mo) (ha:SimA X B N WX (e :: es) ma) (hbase:attributeBase o name X.env (eval o X.env)=eval o X.env)
  (hfew:((backTo cpos (starEach (e :: es) X.env)).all (fun x=>!x.1)&&(backToKw cpos (keywordEach [] X.env)).all (fun x=>x.1.isSome)
   && decide ((e :: es).length+([]:List Keyword).length+(if ([]:List Keyword).isEmpty then 0 else 1) < 30))=true)
  (hline:(apos.endLine == cpos.line)=true) (hs:starEach (e :: es) X.env=(false,eval e X.env) :: starEach es X.env) (hplain:(backTo cpos (starEach es X.env)).any (·.1)=false) :
  SimE X B N WX (.Call (.Attribute o name apos) (e :: es) [] cpos) (eMS f mo ma) :=
 (pe_bm PySem.F.plainAttrs_str slot hty hm ho ha hbase hfew hline hs hplain).imp fun σ H Q ⟨W,s,r0,h⟩=>⟨W,s,r0,(h.bind r0.slen).mono fun o1 W1 s1 H1 r1 _ q o' ro=>by
  split at q
  ·rename_i x ex
   obtain rfl:=jTY ex
   obtain ⟨rfl,hx⟩:=jAH ro
   refine ⟨rfl,W1,s1,r1,(q.bind r1.slen).mono fun vs W2 s2 H2 r2 st2 q vs' rvs=>?_⟩
   split at q
   ·rename_i z ez
    exact hf W2 s2.h H2 x vs z vs' Q r2.hr hx rvs ez fun W' H' z' g rz=>q W' H' (g.rel r2) (g.stepE r2.hr) z' rz
   ·exact q.elim
  ·exact q.elim⟩
theorem yNY (slot:Slot "str" name id) (hty:typeOf (.builtin id)=pure (.type "method_descriptor")) (hm:MtR X id r) (hf:MethS X B f r) (ho:SimE X B N WX o mo) (hbase:attributeBase o name X.env (eval o X.env)=eval o X.env) (hline:(apos.endLine == cpos.line)=true) :
  SimE X B N WX (.Call (.Attribute o name apos) [] [] cpos) (eMS f mo jO) :=
 (pe_bm0 PySem.F.plainAttrs_str slot hty hm ho hbase hline).imp fun σ H Q ⟨W,s,r0,h⟩=>⟨W,s,r0,(h.bind r0.slen).mono fun o1 W1 s1 H1 r1 _ q o' ro=>by
  split at q
  ·rename_i x ex
   obtain rfl:=jTY ex
   obtain ⟨rfl,hx⟩:=jAH ro
   refine ⟨rfl,?_⟩
   have q:=(q.bind r1.slen).ok r1
   split at q
   ·rename_i z ez
    exact hf W1 s1.h H1 x [] z [] Q r1.hr hx trivial ez fun W' H' z' g rz=>q W' H' (g.rel r1) (g.stepE r1.hr) z' rz
   ·exact q.elim
  ·exact q.elim⟩
end
def strsOf (xs:List PV):Option (List Str):=xs.mapM strN
def jBR:AH→Str→List PV→Option PV:=fun h x xs=>match xs with
 | [y]=>(asS h y).bind fun zs=>(strsOf zs).bind fun ys=>if (ys.map (·.length)).sum+ys.length * x.length≤16777216∧PyData.strOk (Txt.join x ys)=true∧(Txt.join x ys).length≤sizeLine then some (.str (Txt.join x ys)) else none
 | _=>none
theorem jSL {B:Bs} {W:Wd}:∀ {ys:List PV} {vs:List V} {bs:List Str},Reps B W ys vs→strsOf ys=some bs→vs=bs.map V.str
 | _,_,bs,.nil,e=>by
  simp [strsOf] at e; subst e; rfl
 | x :: xs,_,bs,.cons (v:=v) r t,e=>by
  unfold strsOf at e
  rw [List.mapM_cons] at e
  cases q:strN x with
  | none=>rw [q] at e; cases e
  | some y =>
   rw [q] at e
   cases q2:xs.mapM strN with
   | none=>rw [q2] at e; cases e
   | some zs =>
    rw [q2] at e
    cases e
    obtain rfl:=jTY q
    rw [jSL t (show strsOf xs=some zs from q2)]
    cases r
    rfl
theorem jDX {X:Cx} {B:Bs} (hK:X.K=B.K):MethS X B jBR (fun x xs H Q=>∃ a p,∃ ys:List Str,x=.str a∧xs=[.ref p]∧(SqL X.K H p (ys.map V.str)∨SqT X.K H p (ys.map V.str))∧(ys.map (·.length)).sum+ys.length * a.length≤16777216∧Q (.str (Txt.join a ys)) H):=by
 intro W h H x xs z xs' Q hr hx rxs e q
 unfold jBR at e
 split at e
 ·rename_i y
  obtain ⟨v,rfl,rv⟩:=repts1 rxs
  cases q1:asS h y with
  | none=>rw [q1] at e; cases e
  | some zs =>
   rw [q1] at e
   cases q2:strsOf zs with
   | none =>
    have e:(strsOf zs).bind _=some z:=e
    rw [q2] at e; cases e
   | some ys =>
    have e:(strsOf zs).bind _=some z:=e
    rw [q2] at e
    have e:(if _ then _ else _)=some z:=e
    split at e
    ·rename_i hz
     cases e
     obtain ⟨a,vs,rfl,hs,rvs⟩:=jQF hK hr rv q1
     have:=jSL rvs q2
     subst this
     exact ⟨x,a,ys,rfl,rfl,hs.symm,hz.1,q W H _ (.refl W H) (Rep.str _ ⟨hz.2.1,hz.2.2⟩).hand⟩
    ·cases e
 ·cases e
inductive BT where
 | non | bl | int | str | tup | lst | dic
 deriving DecidableEq
def BT.nm:BT→String
 | .non => "NoneType" | .bl => "bool" | .int => "int" | .str => "str" | .tup => "tuple" | .lst => "list" | .dic => "dict"
def BT.of (n:String):Option BT:=if n = "bool" then some .bl else if n = "int" then some .int else if n = "str" then some .str else if n = "tuple" then some .tup else if n = "list" then some .lst else if n = "dict" then some .dic else none
@[simp] theorem BT.of_bool:BT.of "bool" = some .bl:=rfl
@[simp] theorem BT.of_int:BT.of "int" = some .int:=rfl
@[simp] theorem BT.of_str:BT.of "str" = some .str:=rfl
@[simp] theorem BT.of_tuple:BT.of "tuple" = some .tup:=rfl
@[simp] theorem BT.of_list:BT.of "list" = some .lst:=rfl
@[simp] theorem BT.of_dict:BT.of "dict" = some .dic:=rfl
def subT:BT→BT→Bool
 | .bl,.int=>true
 | .non,.non=>true
 | .bl,.bl=>true
 | .int,.int=>true
 | .str,.str=>true
 | .tup,.tup=>true
 | .lst,.lst=>true
 | .dic,.dic=>true
 | _,_=>false
theorem BT.of_nm {n:String} {t:BT} (e:BT.of n=some t):n=t.nm:=by
 unfold BT.of at e
 repeat (split at e; · (rename_i h; cases e; exact h))
 cases e
theorem yEJ:∀ {a b:BT},b≠.non→kitB a.nm b.nm=some (subT a b):=fun {a b} h=>by
 cases b <;> (first | exact absurd rfl h | skip) <;> cases a <;> decide +kernel
theorem BT.of_ne {n:String} {t:BT} (e:BT.of n=some t):t≠.non:=by
 unfold BT.of at e
 repeat (split at e; · (cases e; exact fun z=>nomatch z))
 cases e
def tyN (h:AH):PV→Option BT
 | .non=>some .non
 | .bl _=>some .bl
 | .int _=>some .int
 | .str _=>some .str
 | .tup _=>some .tup
 | x=>(asL h x).map fun _=>.lst
def jLQ:List PV→Option (List BT)
 | []=>some []
 | .ty n :: xs=>(BT.of n).bind fun t=>(jLQ xs).map fun ts=>t :: ts
 | _=>none
def wQ:AH→List PV→Option PV:=fun h xs=>match xs with
 | [x,.ty n]=>(tyN h x).bind fun t=>(BT.of n).map fun u=>.bl (subT t u)
 | [x,.tup cs]=>(tyN h x).bind fun t=>(jLQ cs).map fun us=>.bl (us.any (subT t))
 | _=>none
section
variable {X:Cx} {B:Bs} {W:Wd} {h:AH} {H:Hp}
theorem yAF (hK:X.K=B.K) (hr:HRel B W h H) {x:PV} {x':V} {t:BT} (rx:RepT B W H x x') (e:tyN h x=some t):TyX X.K H x' (.type t.nm):=by
 have fin:(asL h x).map (fun _=>BT.lst)=some t→TyX X.K H x' (.type t.nm):=fun e=>by
  cases q:asL h x with
  | none=>rw [q] at e; cases e
  | some xs =>
   rw [q] at e; cases e
   obtain ⟨a,vs,rfl,h1,_⟩:=jIW hr rx q
   rcases h1 with (h1 | ⟨o,h1⟩) | ⟨o,its,n,h1,h2,_⟩
   ·exact .base (.lst h1)
   ·exact .base (.frz h1)
   ·exact .kList (hK ▸ h1) h2
 cases x with
 | non=>cases e; rw [yDU rx]; exact .base .non
 | bl b=>cases e; rw [yAL rx]; exact .base (.bl b)
 | int i=>cases e; rw [jAI rx]; exact .base (.int i)
 | str y=>cases e; rw [(jAH rx).1]; exact .base (.str y)
 | tup xs =>
  cases e
  cases (show Rep B W (.tup xs) x' from rx) with
  | tup h1 r =>
   rcases h1 with h1 | ⟨o,its,n,h1,h2,_⟩
   ·exact .base (.tup (hr.agree _ _ h1))
   ·exact .kTuple (hK ▸ h1) h2
 | _=>exact fin e
theorem jXB:∀ {cs:List PV} {vs:List V} {us:List BT},Reps B W cs vs→jLQ cs=some us→(∀ u∈us,u≠.non)∧Paired ClsV vs (us.map fun u=>.type u.nm)
 | _,_,us,.nil,e=>by cases e; exact ⟨fun _ h=>(by cases h),.nil⟩
 | .ty n :: cs,_,us,.cons r t,e=>by
  rw [jLQ] at e
  cases q:BT.of n with
  | none=>rw [q] at e; cases e
  | some b =>
   rw [q] at e
   cases q2:jLQ cs with
   | none=>have e:(jLQ cs).map _=some us:=e; rw [q2] at e; cases e
   | some bs =>
    have e:(jLQ cs).map _=some us:=e
    rw [q2] at e
    cases e
    obtain ⟨h1,h2⟩:=jXB t q2
    cases r
    refine ⟨fun u hu=>?_,?_⟩
    ·rcases List.mem_cons.mp hu with rfl | hu
     ·exact BT.of_ne q
     ·exact h1 u hu
    ·rw [BT.of_nm q]
     exact .cons (.ty _) h2
 | .non :: _,_,_,.cons _ _,e=>by cases e
 | .bl _ :: _,_,_,.cons _ _,e=>by cases e
 | .int _ :: _,_,_,.cons _ _,e=>by cases e
 | .str _ :: _,_,_,.cons _ _,e=>by cases e
 | .tup _ :: _,_,_,.cons _ _,e=>by cases e
 | .lst _ :: _,_,_,.cons _ _,e=>by cases e
 | .scr _ :: _,_,_,.cons _ _,e=>by cases e
 | .own _ :: _,_,_,.cons _ _,e=>by cases e
 | .dic _ :: _,_,_,.cons _ _,e=>by cases e
 | .don _ :: _,_,_,.cons _ _,e=>by cases e
 | .ins _ _ :: _,_,_,.cons _ _,e=>by cases e
 | .cel _ :: _,_,_,.cons _ _,e=>by cases e
 | .cls _ :: _,_,_,.cons _ _,e=>by cases e
theorem jOE {K:PySem.W.Frag} {t:BT}:∀ {us:List BT},(∀ u∈us,u≠.non)→PySem.W.kitAny K (.type t.nm) (us.map fun u=>.type u.nm)=some (us.any (subT t))
 | [],_=>rfl
 | u :: us,h=>by
  have h1:PySem.W.kitOne K (.type t.nm) (.type u.nm)=some (subT t u):=kit_ty (yEJ (h u (by simp)))
  have h2:=jOE (K:=K) (t:=t) (us:=us) fun v hv=>h v (List.mem_cons_of_mem _ hv)
  rw [List.map_cons,List.any_cons]
  exact kitAny_cons h1 (fun e=>by rw [e,Bool.false_or]; exact h2) (fun e=>by rw [e,Bool.true_or])
theorem yNK {us:List BT}:∀ {vs:List V} {ws:List Value},Paired ClsV vs (us.map fun u=>.type u.nm)→Vals vs ws→ws=us.map fun u=>.type u.nm:=fun a b=>ClsV.all a b
abbrev yQW (K:PySem.W.Frag):List V→Hp→VK→Prop:=fun xs H Q=>rIsi K xs H Q∨rIsiT K xs H Q∨rIsiK K xs H Q
theorem yHC:CallR X (.builtin "isinstance") (yQW X.K):=fun pins s σ H xs us Q I r h=>h.elim (call_isi pins s σ H xs us Q I r) fun h=>h.elim (call_isiT pins s σ H xs us Q I r) (call_isiK pins s σ H xs us Q I r)
theorem yOF (hK:X.K=B.K):CallSem X B wQ (yQW X.K):=by
 intro W h H xs z xs' Q hr rxs e q
 unfold wQ at e
 split at e
 ·rename_i x n
  obtain ⟨v,w,rfl,rv,rw'⟩:=repts2 rxs
  cases q1:tyN h x with
  | none=>rw [q1] at e; cases e
  | some t =>
   rw [q1] at e
   have e:(BT.of n).map _=some z:=e
   cases q2:BT.of n with
   | none=>rw [q2] at e; cases e
   | some u =>
    rw [q2] at e
    cases e
    cases (show Rep B W (.ty n) w from rw')
    refine .inl ⟨v,.ty n,_,.type n,subT t u,rfl,.ty n,yAF hK hr rv q1,?_,q W H _ (.refl W H) (Rep.bl _).hand⟩
    rw [BT.of_nm q2]
    exact kit_ty (yEJ (BT.of_ne q2))
 ·rename_i x cs
  obtain ⟨v,w,rfl,rv,rw'⟩:=repts2 rxs
  cases q1:tyN h x with
  | none=>rw [q1] at e; cases e
  | some t =>
   rw [q1] at e
   have e:(jLQ cs).map _=some z:=e
   cases q2:jLQ cs with
   | none=>rw [q2] at e; cases e
   | some us =>
    rw [q2] at e
    cases e
    cases (show Rep B W (.tup cs) w from rw') with
    | tup h1 r =>
     obtain ⟨k1,k2⟩:=jXB r q2
     rcases h1 with h1 | ⟨o,its,m,h1,h2,h3,h4,h5⟩
     ·exact .inr (.inl ⟨v,_,_,_,us.map fun u=>.type u.nm,_,rfl,hr.agree _ _ h1,k2,yAF hK hr rv q1,jOE k1,q W H _ (.refl W H) (Rep.bl _).hand⟩)
     ·have e5:=yNK k2 h5
      obtain ⟨oc,od,dt,sl⟩:=o
      simp only at h2 h3
      subst h2 h3
      refine .inr (.inr ⟨v,_,od,us.map fun u=>.type u.nm,m,sl,_,_,rfl,?_,yAF hK hr rv q1,jOE k1,q W H _ (.refl W H) (Rep.bl _).hand⟩)
      rw [hK,h1,← e5]
 ·cases e
theorem jAV {N:Ent} {WX:L2.WX} {x:Str} {T:String} {pos:Pos} (hg:Gl X x) (hm:X.mg x=none) (hv:bootBuiltins x=some (.type T)) (hn:x ≠ "__name__") (hdb:(x == ("__debug__" : Str))=false):SimE X B N WX (.Name x pos) (eC (.ty T)) :=
 jSC (pe_bltn (v:=.ty T) hg hm hv rfl hn hdb) fun _=>.ty T
end
end Lp
set_option maxHeartbeats 4000000
namespace Lp
open PySem PySem.Spec PyProof.Rows L2
def intsOf (xs:List PV):Option (List Int):=xs.mapM fun x=>match x with
 | .int i=>some i
 | _=>none
theorem jOG {B:Bs} {W:Wd}:∀ {ys:List PV} {vs:List V} {bs:List Int},Reps B W ys vs→intsOf ys=some bs→vs=bs.map V.int
 | _,_,bs,.nil,e=>by
  simp [intsOf] at e; subst e; rfl
 | x :: xs,_,bs,.cons (v:=v) r t,e=>by
  unfold intsOf at e
  rw [List.mapM_cons] at e
  cases x with
  | int i =>
   cases q2:xs.mapM (fun x=>match x with | PV.int i=>some i | _=>none) with
   | none=>rw [q2] at e; cases e
   | some zs =>
    rw [q2] at e
    cases e
    rw [jOG t (show intsOf xs=some zs from q2)]
    cases r
    rfl
  | _=>cases e
def yIJ (g:List Int→List Int→Bool):AH→PV→PV→Option PV:=fun _ x y=>match x,y with
 | .tup xs,.tup ys=>match intsOf xs,intsOf ys with
  | some ns,some ms=>some (.bl (g ns ms))
  | _,_=>none
 | _,_=>none
def yIK:AH→PV→PV→Option PV:=fun _ x y=>match x,y with
 | .tup xs,.int k=>if xs≠[]∧2≤k∧k≤1000∧xs.length≤1000 then some (.tup (List.replicate k.toNat xs).flatten) else none
 | _,_=>none
section
variable {X:Cx} {B:Bs}
theorem yGE (hK:X.K=B.K):OpSem X B (yIJ HT.lexLt) (rLtT X.K):=by
 intro W h H x y z x' y' Q hr rx ry e q
 unfold yIJ at e
 split at e
 ·rename_i xs ys
  split at e
  ·rename_i ns ms e1 e2
   cases e
   obtain ⟨a,vs,rfl,h1,r1⟩:=jFC hK hr (show Rep B W (.tup xs) x' from rx)
   obtain ⟨b,us,rfl,h2,r2⟩:=jFC hK hr (show Rep B W (.tup ys) y' from ry)
   rw [jOG r1 e1] at h1
   rw [jOG r2 e2] at h2
   exact ⟨a,b,ns,ms,rfl,rfl,h1,h2,q W H _ (.refl W H) (Rep.bl _).hand⟩
  ·cases e
 ·cases e
theorem yKX (hK:X.K=B.K):OpSem X B yIK (rRepT X.K):=by
 intro W h H x y z x' y' Q hr rx ry e q
 unfold yIK at e
 split at e
 ·rename_i xs k
  split at e
  ·rename_i hz
   cases e
   obtain ⟨a,vs,rfl,h1,r1⟩:=jFC hK hr (show Rep B W (.tup xs) x' from rx)
   have hl:=r1.length
   have l2:vs.length≤1000:=by omega
   refine ⟨a,k,vs,rfl,jAI ry,h1,fun z=>hz.1 (by rw [z] at hl; exact List.length_eq_zero_iff.mp hl),hz.2.1,hz.2.2.1,l2,fun p hp=>?_⟩
   refine q _ _ _ (.new hp ?_) (jBY (hr.fnone hp) (r1.rep k.toNat)).hand
   show (List.replicate k.toNat vs).flatten.length≤sizeLine
   rw [jYQ]
   have h3:k.toNat≤1000:=by have:=hz.2.2.1; omega
   have h4:vs.length * k.toNat≤1000 * 1000:=Nat.mul_le_mul l2 h3
   have h5:1000 * 1000≤sizeLine:=by decide
   omega
  ·cases e
 ·cases e
def yO:AH→PV→PV→Option PV:=fun h x y=>match x,y with
 | .int i,.int j=>some (.int (i+j))
 | .str _,_=>yIO h x y
 | .tup _,_=>yIN h x y
 | _,_=>yIP h x y
def rAdd (K:PySem.W.Frag):R2:=fun x y H Q=>rI0 (fun i j=>.int (i+j)) x y H Q∨(∃ i j,x=.str i∧y=.str j∧i.length+j.length≤sizeLine∧Q (.str (i++j)) H)∨rCatA K x y H Q∨rCat x y H Q
theorem yWE:OpR X (binaryOp .Add) (rAdd X.K):=op_add.or (op_add_str.or (op_catA.or op_cat))
theorem ySH (hK:X.K=B.K):OpSem X B yO (rAdd X.K):=by
 intro W h H x y z x' y' Q hr rx ry e q
 unfold yO at e
 split at e
 ·exact .inl (yJG (X:=X) (f:=fun i j=>i+j) W h H _ _ z x' y' Q hr rx ry e q)
 ·exact .inr (.inl (yLE (X:=X) (B:=B) W h H _ _ z x' y' Q hr rx ry e q))
 ·exact .inr (.inr (.inl (yLD hK W h H _ _ z x' y' Q hr rx ry e q)))
 ·exact .inr (.inr (.inr (yLF (X:=X) W h H _ _ z x' y' Q hr rx ry e q)))
def jEX:AH→PV→PV→Option PV:=fI fun i j=>some (i - j)
def jDT:AH→PV→PV→Option PV:=fun h x y=>match x,y with
 | .int _,_=>fI jZZ h x y
 | .tup _,_=>yIK h x y
 | _,_=>yIL h x y
def yVA (K:PySem.W.Frag):R2:=fun x y H Q=>rI CMul (fun i j=>.int (i * j)) x y H Q∨rRepT K x y H Q∨rRep x y H Q
theorem yWD:OpR X (binaryOp .Mult) (yVA X.K):=op_mul.or (op_repT.or op_rep)
theorem ySG (hK:X.K=B.K):OpSem X B jDT (yVA X.K):=by
 intro W h H x y z x' y' Q hr rx ry e q
 unfold jDT at e
 split at e
 ·exact .inl (yCU (X:=X) yPK W h H _ _ z x' y' Q hr rx ry e q)
 ·exact .inr (.inl (yKX hK W h H _ _ z x' y' Q hr rx ry e q))
 ·exact .inr (.inr (yKY (X:=X) W h H _ _ z x' y' Q hr rx ry e q))
def jWH:AH→PV→PV→Option PV:=fI jWS
def jIQ:AH→PV→PV→Option PV:=fI yHU
def jOY:AH→PV→PV→Option PV:=fI yRL
def fLt:AH→PV→PV→Option PV:=fun h x y=>match x,y with
 | .int i,.int j=>some (.bl (decide (i < j)))
 | _,_=>yIJ HT.lexLt h x y
def rLt (K:PySem.W.Frag):R2:=fun x y H Q=>rI0 (fun i j=>.bl (decide (i < j))) x y H Q∨rLtT K x y H Q
theorem yXF (hu:X.A.units < cLine):OpR X (compareOp .Lt) (rLt X.K):=op_lt.or (op_ltT hu)
theorem yVR (hK:X.K=B.K):OpSem X B fLt (rLt X.K):=by
 intro W h H x y z x' y' Q hr rx ry e q
 unfold fLt at e
 split at e
 ·exact .inl (jTK (X:=X) (g:=fun i j=>decide (i < j)) W h H _ _ z x' y' Q hr rx ry e q)
 ·exact .inr (yGE hK W h H _ _ z x' y' Q hr rx ry e q)
def fLe:AH→PV→PV→Option PV:=fIB fun i j=>decide (i≤j)
def fGt:AH→PV→PV→Option PV:=fIB fun i j=>decide (j < i)
def fGe:AH→PV→PV→Option PV:=fIB fun i j=>decide (j≤i)
end
section
variable {X:Cx} {B:Bs} {N:Ent} {WX:L2.WX} {a b:Expr} {ma mb:ME} {pos:Pos} {k:Nat}
theorem yR (hK:X.K=B.K) (ha:SimE X B N WX a ma) (hb:SimE X B N WX b mb):SimE X B N WX (.BinOp a .Add b pos) (jM yO ma mb):=jNM yWE (ySH hK) ha hb
theorem jDQ (ha:SimE X B N WX a ma) (hb:SimE X B N WX b mb):SimE X B N WX (.BinOp a .Sub b pos) (jM jEX ma mb):=jNM op_sub (yJG (f:=fun i j=>i - j)) ha hb
theorem jHB (hK:X.K=B.K) (ha:SimE X B N WX a ma) (hb:SimE X B N WX b mb):SimE X B N WX (.BinOp a .Mult b pos) (jM jDT ma mb):=jNM yWD (ySG hK) ha hb
theorem yDO (ha:SimE X B N WX a ma) (hb:SimE X B N WX b mb):SimE X B N WX (.BinOp a .FloorDiv b pos) (jM jWH ma mb):=jNM op_fdivN (yCU yMJ) ha hb
theorem jLX (ha:SimE X B N WX a ma) (hb:SimE X B N WX b mb):SimE X B N WX (.BinOp a .Mod b pos) (jM jIQ ma mb):=jNM op_modN (yCU (f:=fun i j=>i.fmod j) yPL) ha hb
theorem jPH (ha:SimE X B N WX a ma) (hb:SimE X B N WX b mb):SimE X B N WX (.BinOp a .Pow b pos) (jM jOY ma mb):=jNM op_pow (yCU yOR) ha hb
structure CmpOk (X:Cx) (B:Bs) (op:CmpOp) (f:AH→PV→PV→Option PV):Prop where
 ex:∃ r:R2,OpR X (compareOp op) r∧OpSem X B f r
abbrev U9 (A:Around):Prop:=A.units+200 < cLine
theorem _root_.L2.Room.u9 {k:Nat} {A:Around} (r:Room k A):U9 A:=by have:=r.un; show A.units+200 < cLine; omega
theorem wR (hK:X.K=B.K) (hr:U9 X.A):CmpOk X B .Eq fEq:=⟨_,op_eqD (Nat.lt_of_le_of_lt (by omega) hr),ySF hK⟩
theorem jFO (hK:X.K=B.K) (hr:U9 X.A):CmpOk X B .NotEq fNe:=⟨_,op_neD (Nat.lt_of_le_of_lt (by omega) hr),ySC hK⟩
theorem jWW (hK:X.K=B.K) (hr:U9 X.A):CmpOk X B .Lt fLt:=⟨_,yXF (Nat.lt_of_le_of_lt (by omega) hr),yVR hK⟩
theorem jPU:CmpOk X B .LtE fLe:=⟨_,op_le,jTK⟩
theorem jKM:CmpOk X B .Gt fGt:=⟨_,op_gt,jTK⟩
theorem yWV:CmpOk X B .GtE fGe:=⟨_,op_ge,jTK⟩
theorem jCO:CmpOk X B .Is jAL:=⟨_,op_isN,yOG⟩
theorem jKL (hK:X.K=B.K) (hr:U9 X.A):CmpOk X B .In fIn:=⟨_,yWC (by have hr:X.A.units+200 < cLine:=hr; omega),ySE hK⟩
theorem yAZ (hK:X.K=B.K) (hr:U9 X.A):CmpOk X B .NotIn jOZ:=⟨_,yTQ (by have hr:X.A.units+200 < cLine:=hr; omega),yOD hK⟩
variable {op op':CmpOp} {f g:AH→PV→PV→Option PV} {c:Expr} {mc:ME}
theorem jCM (o:CmpOk X B op f) (ha:SimE X B N WX a ma) (hb:SimE X B N WX b mb) (hm:behindInMarks op b=false):SimE X B N WX (.Compare a [op] [b] pos) (jM f ma mb):=by
 obtain ⟨r,h1,h2⟩:=o.ex
 exact yKT h1 h2 ha hb hm
theorem jY (o:CmpOk X B op f) (ha:SimE X B N WX a ma) (hb:SimE X B N WX b mb) (hm:behindInMarks op b=false):SimT X B N WX (.Compare a [op] [b] pos) (bM (jM f ma mb)):=by
 obtain ⟨r,h1,h2⟩:=o.ex
 exact yFX h1 h2 ha hb hm
theorem ySA (o:CmpOk X B op f) (o':CmpOk X B op' g) (ha:SimE X B N WX a ma) (hb:SimE X B N WX b mb) (hc:SimE X B N WX c mc) (hm:lastMarks [op,op'] [b,c]=false):SimE X B N WX (.Compare a [op,op'] [b,c] pos) (jGF f g ma mb mc):=by
 obtain ⟨r,h1,h2⟩:=o.ex
 obtain ⟨r',h3,h4⟩:=o'.ex
 exact yFY h1 h3 h2 h4 ha hb hc hm
theorem yDL (o:CmpOk X B op f) (o':CmpOk X B op' g) (ha:SimE X B N WX a ma) (hb:SimE X B N WX b mb) (hc:SimE X B N WX c mc) (hm:lastMarks [op,op'] [b,c]=false):SimT X B N WX (.Compare a [op,op'] [b,c] pos) (bM (jGF f g ma mb mc)):=by
 obtain ⟨r,h1,h2⟩:=o.ex
 obtain ⟨r',h3,h4⟩:=o'.ex
 exact yBL h1 h3 h2 h4 ha hb hc hm
structure BiOk (X:Cx) (B:Bs) (x:Str) (f:AH→List PV→Option PV):Prop where
 ex:∃ (v:Value) (r:List V→Hp→VK→Prop),bootBuiltins x=some v∧CallR X v r∧CallSem X B f r∧((∃ id,v=.builtin id)∨∃ T,v=.type T)
variable {x:Str} {p:Pos} {e:Expr} {es:List Expr} {ma:MA} {fb:AH→List PV→Option PV}
theorem yH (o:BiOk X B x fb) (hg:Gl X x) (hm:X.mg x=none) (ha:SimA X B N WX (e :: es) ma) (hn:x ≠ "__name__") (hdb:(x == ("__debug__" : Str))=false)
  (he:starEach (e :: es) X.env=(false,eval e X.env) :: starEach es X.env) (hpl:(backTo pos (starEach es X.env)).any (·.1)=false):SimE X B N WX (.Call (.Name x p) (e :: es) [] pos) (eCB fb ma):=by
 obtain ⟨v,r,h1,h2,h3,h4⟩:=o.ex
 rcases h4 with ⟨id,rfl⟩ | ⟨T,rfl⟩
 ·exact yGA h2 h3 hg hm h1 ha hn hdb he hpl
 ·exact yBN h2 h3 hg hm h1 ha hn hdb he hpl
theorem boot_all:bootBuiltins "all" = some (.builtin "all"):=by decide +kernel
theorem jBF (hK:X.K=B.K):BiOk X B "isinstance" wQ:=⟨_,_,PyProof.Rows.boot_isinstance,yHC,yOF hK,.inl ⟨_,rfl⟩⟩
theorem bi_len (hK:X.K=B.K):BiOk X B "len" vP:=⟨_,_,PySem.boot_len,call_len,yOE hK,.inl ⟨_,rfl⟩⟩
theorem jTW (hK:X.K=B.K) (hc:X.calm=true):BiOk X B "all" jKG:=⟨_,_,boot_all,cr_all hc,yOI hK,.inl ⟨_,rfl⟩⟩
theorem jQE:BiOk X B "int" jIN:=⟨_,_,PyProof.Rows.boot_int,call_int1,yLC,.inr ⟨_,rfl⟩⟩
theorem yEZ (hK:X.K=B.K):BiOk X B "list" jPV:=⟨_,_,PyProof.Rows.boot_list,call_list_of,yLA hK,.inr ⟨_,rfl⟩⟩
theorem jEA (hK:X.K=B.K):BiOk X B "tuple" kJ:=⟨_,_,PyProof.Rows.boot_tuple,call_tuple_of,yGD hK,.inr ⟨_,rfl⟩⟩
end
end Lp
set_option maxHeartbeats 4000000
namespace Lp
open PySem PySem.Spec PyProof.Rows L2
def jRP (x:Str):Bool:=PyData.strOk x&&decide (x.length≤sizeLine)
theorem jW {x:Str} (h:jRP x=true):SOk x:=by
 obtain ⟨a,b⟩:=Bool.and_eq_true_iff.mp h
 exact ⟨a,of_decide_eq_true b⟩
theorem jDP (X:Cx) (u:Value) (s:Shared) (x:XE X WF u s):X.xe u s:=by
 obtain ⟨a,B,sI,pins,σ,H,cls,d,e,I,nb,up,sky,na,os,ag,w⟩:=x
 exact w.elim
section
variable {X:Cx} {B:Bs} {N:Ent} {WX:L2.WX} {x:Str} {pos:Pos} {v:V} {y:PV}
theorem jKS (hg:Gl X x) (h:∃ u,X.mg x=some u∧RelV v u) (rx:∀ W,Rep B W y v) (hd:(x == ("__debug__" : Str))=false:=by rfl):SimE X B N WX (.Name x pos) (eC y):=by
 obtain ⟨u,hm,r⟩:=h
 exact jSC (pe_glob hg hm r hd) rx
end
def yVH (N:List Str) (sc scope:Scope) (own:List (Str × Nat)):Bool:=(match scope.kind with | .function=>true | _=>false)&&(scope.names.all (fun y=>decide (scope.names.lookup y.1=some y.2))&&(own.all (fun p=>decide (N[p.2]?=some p.1)) &&
 (scope.names.all (fun y=>!decide (y.2=.free)||(decide (sc.names.lookup y.1=some .cell)||decide (sc.names.lookup y.1=some .free)))&&scope.names.all fun y=>!(decide (y.2=.local)||decide (y.2=.cell))||(decide (y.1∈own.map (·.1))||!decide (y.1∈N)))))
theorem qH {N:List Str} {sc scope:Scope} {own:List (Str × Nat)} (h:yVH N sc scope own=true):BlkOk N sc scope own:=by
 unfold yVH at h
 simp only [Bool.and_eq_true,List.all_eq_true,Bool.or_eq_true,Bool.not_eq_true',decide_eq_true_eq,decide_eq_false_iff_not] at h
 obtain ⟨h1,h2,h3,h4,h5⟩:=h
 refine ⟨?_,h2,h3,fun y hy e=>?_,fun y hy e=>?_⟩
 ·split at h1
  ·assumption
  ·cases h1
 ·exact (h4 y hy).resolve_left fun z=>z e
 ·exact (h5 y hy).resolve_left fun z=>by rcases e with e | e <;> rw [e] at z <;> simp at z
end Lp
set_option maxHeartbeats 4000000
namespace Lp
open PySem PySem.Spec PyProof.Rows L2
theorem jSU {B:Bs} {W:Wd}:∀ ns:List Int,Reps B W (ns.map PV.int) (ns.map V.int)
 | []=>.nil
 | n :: ns=>.cons (.int n) (jSU ns)
def HzO (H:Hp):Prop:=∀ b o,H b=some o→NT o→SzO o
theorem yJU {B:Bs} {W:Wd} {m:MF} {ns:List Int} {H:Hp} {a:Addr} (hz:HzO H) (hT:LamX.Tabs B.T H) (hm:W.m=[]) (ag:∀ b o,W.F b=some o→H b=some o) (nt:∀ b o,W.F b=some o→NT o) (sc:ScrAt B W a (ns.map V.int))
  (h:∃ h',m [.scr (ns.map .int)] []=.ok (.bl true) h'):spF B 1 m [.ref a] H (fun v _=>v=.bl true) fun _ _ _=>False:=by
 refine ⟨W,[],[.scr (ns.map .int)],⟨ag,by rw [hm]; rfl,by rw [hm]; exact List.nodup_nil,fun _ z=>(by rw [hm] at z; cases z),hz,nt,hT,fun n c b e=>(by cases e)⟩,.cons (.scr sc (jSU ns)) .nil,rfl,?_⟩
 obtain ⟨h',e⟩:=h
 rw [e]
 intro W' H' v' _ _ rv
 cases rv
 rfl
theorem yUB {B:Bs} {m:MF} {ns:List Int} {H:Hp} {a:Addr} (hz:HzO H) (hT:LamX.Tabs B.T H) (hl:ns.length≤sizeLine) (hS:SqL B.K H a (ns.map V.int)) (h:∃ h',m [.scr (ns.map .int)] []=.ok (.bl true) h') :
  spF B 1 m [.ref a] H (fun v _=>v=.bl true) fun _ _ _=>False:=by
 have hl':(ns.map V.int).length≤sizeLine:=by rw [List.length_map]; exact hl
 have one:∀ o,H a=some o→NT o→ScrAt B ⟨fun b=>if b=a then some o else none,[]⟩ a (ns.map V.int)→spF B 1 m [.ref a] H (fun v _=>v=.bl true) fun _ _ _=>False:=fun o e nt sc=>by
  have at_:∀ b u,(if b=a then some o else none)=some u→b=a∧u=o:=fun b u z=>by
   split at z
   ·rename_i hb; cases z; exact ⟨hb,rfl⟩
   ·cases z
  exact yJU hz hT rfl (fun b u z=>by obtain ⟨rfl,rfl⟩:=at_ b u z; exact e) (fun b u z=>by obtain ⟨rfl,rfl⟩:=at_ b u z; exact nt) sc h
 rcases hS with (q | ⟨o,q⟩) | q
 ·exact one _ q jBT (.inl ⟨.inl (if_pos rfl),hl'⟩)
 ·exact one _ q (fun _ z=>nomatch z) (.inl ⟨.inr ⟨o,if_pos rfl⟩,hl'⟩)
 ·exact yJU (W:=⟨fun _=>none,[]⟩) hz hT rfl (fun _ _ z=>nomatch z) (fun _ _ z=>nomatch z) (.inr q) h
def spZ (n:Nat) (sp:Sp):Sp:=fun vs H Q E=>vs.length=n∧(HzO H→sp vs H Q E)
theorem yUK {P:Program} {w:World} {K:PySem.W.Frag} {mg:Str→Option Value} {base:Heap} {x qual:Str} {params:Arguments} {body:List Stmt} {scope:Scope} {dvs:List V} {kws:List (Str × V)} {f:Addr} {fd:FuncData} {names ps:List Str} {k n:Nat} {B:Bs}
  (F:FunD K x qual params body scope dvs kws f fd) (S:FnScope names ps scope):FnOk P w K mg base (L2.CX P w) (k+1) f fd ps (spF B n fun _ _=>.bad) :=
 F.ok S (fun vs H Q E ⟨_,_,_,_,_,_,z⟩=>z.elim) fun _ _ _ _ _ _ _ _ _ ⟨_,_,_,_,_,_,z⟩=>z.elim
theorem yUG {P:Program} {w:World} {H:Hp} {h:Heap} (x:HOk P w H h):HzO H:=fun b o e nt=>by
 have q:=x b o e
 cases o with
 | lst vs=>exact q.1
 | tup vs=>exact q.1
 | tbl ps=>exact absurd rfl (nt ps)
 | _=>trivial
theorem yRW {P:Program} {w:World} {K:PySem.W.Frag} {mg:Str→Option Value} {base:Heap} {CX:CXT} {k n:Nat} {f:Addr} {fd:FuncData} {ps:List Str} {sp:Sp} (F:FnOk P w K mg base CX k f fd ps sp) (hn:ps.length=n):FnOk P w K mg base CX k f fd ps (spZ n sp) :=
 ⟨fun vs H Q E q=>by rw [q.1,hn],fun A outer s H args us vs Q E hr e0 hb hv q=>F.run A outer s H args us vs Q E hr e0 hb hv (q.2 (yUG e0.hok))⟩
end Lp
set_option maxHeartbeats 4000000
namespace Lp
open PySem PySem.Spec PyProof.Rows L2
section
variable {τ α β:Type} {P:α→τ→Prop} {E:PV→τ→Prop}
theorem yRM {a:α} {s:τ} (h:P a s):(R.ok a s).post P E:=h
theorem yK {r:R τ α} {f:α→τ→R τ β} {Q:β→τ→Prop} (h:r.post (fun a s=>(f a s).post Q E) E):(r.bind f).post Q E:=by
 cases r with
 | ok a s=>exact h
 | exc x s=>exact h
 | bad=>exact h
theorem p_mono {r:R τ α} {P':α→τ→Prop} {E':PV→τ→Prop} (h:r.post P' E') (k:∀ a s,P' a s→P a s) (k':∀ x s,E' x s→E x s):r.post P E:=R.post_mono h k k'
def NE {τ:Type}:PV→τ→Prop:=fun _ _=>False
theorem jX {r:R τ α} {P':α→τ→Prop} (h:r.post P' NE) (k:∀ a s,P' a s→P a s):r.post P E:=R.post_mono h k fun _ _ z=>z.elim
theorem yXC {r:R τ α} (h:r.post P NE):∃ a s,r=.ok a s∧P a s:=by
 cases r with
 | ok a s=>exact ⟨a,s,rfl,h⟩
 | exc x s=>exact h.elim
 | bad=>exact h.elim
end
def br0 (c:Bool) (A C:Prop):Prop:=match c with
 | true=>A
 | false=>C
@[irreducible] def br (c:Bool) (A C:Prop):Prop:=br0 c A C
theorem jFP:br=br0:=by
 funext c A C
 unfold br
 rfl
theorem zW {c:Bool} {A C:Prop} (h1:c=true→A) (h2:c=false→C):br c A C:=by
 rw [jFP]
 cases c
 ·exact h2 rfl
 ·exact h1 rfl
theorem vR {c:Bool} {A C:Prop} (e:c=true) (h:A):br c A C:=by rw [jFP]; subst e; exact h
theorem vX {c:Bool} {A C:Prop} (e:c=false) (h:C):br c A C:=by rw [jFP]; subst e; exact h
section
variable {P:PV→S→Prop} {PB:Bool→S→Prop} {PA:List PV→S→Prop} {PO:Option Int→S→Prop} {PF:Fl→S→Prop} {E:PV→S→Prop} {s:S}
variable {a b c m:ME} {ma:MA} {ta tb:S→R S Bool} {f g:AH→PV→PV→Option PV} {v:PV} {i:Nat}
theorem ySZ (e:s.e[i]?=some (some v)) (h:P v s):(jG i s).post P E:=by unfold jG; rw [e]; exact h
theorem yXD (h:P v s):(eC v s).post P E:=h
theorem yTM (h:(a s).post (fun x s1=>(b s1).post (fun y s2=>∃ z,f s2.h x y=some z∧P z s2) E) E):(jM f a b s).post P E :=
 yK (p_mono h (fun x s1 q=>yK (p_mono q (fun y s2 ⟨z,e,q⟩=>by simp only [e]; exact q) fun _ _ z=>z)) fun _ _ z=>z)
theorem yTH (h:PA [] s):(jO s).post PA E:=h
theorem yOZ (h:(a s).post (fun v s1=>(ma s1).post (fun vs s2=>PA (v :: vs) s2) E) E):(jE a ma s).post PA E :=
 yK (p_mono h (fun x s1 q=>yK q) fun _ _ z=>z)
theorem yOS (h:(a s).post (fun v s1=>∃ xs,asS s1.h v=some xs∧(ma s1).post (fun vs s2=>PA (xs++vs) s2) E) E):(yDD a ma s).post PA E :=
 yK (p_mono h (fun x s1 ⟨xs,e,q⟩=>by simp only [e]; exact yK q) fun _ _ z=>z)
theorem yTA (h:(ma s).post (fun vs s1=>(uB vs=true∧vs.length≤16777216)∧P (.tup vs) s1) E):(jAU ma s).post P E :=
 yK (p_mono h (fun vs s1 ⟨⟨h1,h2⟩,q⟩=>by rw [h1,decide_eq_true h2]; exact q) fun _ _ z=>z)
theorem yTI (h:(ma s).post (fun vs s1=>(uB vs=true∧vs.length≤16777216)∧P (.lst vs) s1) E):(jDU ma s).post P E :=
 yK (p_mono h (fun vs s1 ⟨⟨h1,h2⟩,q⟩=>by rw [h1,decide_eq_true h2]; exact q) fun _ _ z=>z)
theorem yOY (h:(ma s).post (fun vs s1=>(uB vs=true∧vs.length≤sizeLine)∧PA vs s1) E):(jRR ma s).post PA E :=
 yK (p_mono h (fun vs s1 ⟨h1,q⟩=>by simp only [if_pos h1]; exact q) fun _ _ z=>z)
theorem yVY {mn:S→R S (List PV)} (h:(mn s).post (fun xs s1=>P (.lst xs) s1) E):(shN mn s).post P E:=yK h
theorem yTL {mn:S→R S (List PV)} (h:(mn s).post (fun xs s1=>P (.cel s1.h.length) ⟨s1.e,s1.h++[some (.lst xs)]⟩) E):(jWJ mn s).post P E:=yK h
theorem yWA {fb:AH→List PV→Option PV} (h:(ma s).post (fun vs s1=>∃ z,fb s1.h vs=some z∧P z s1) E):(eCB fb ma s).post P E :=
 yK (p_mono h (fun vs s1 ⟨z,e,q⟩=>by simp only [e]; exact q) fun _ _ z=>z)
theorem yLT (h:(a s).post (fun x s1=>(b s1).post (fun y s2=>∃ k,f s2.h x y=some (.bl k)∧br0 k ((c s2).post (fun w s3=>∃ z,g s3.h y w=some z∧P z s3) E) (P (.bl false) s2)) E) E):(jGF f g a b c s).post P E :=
 yK (p_mono h (fun x s1 q=>yK (p_mono q (fun y s2 ⟨k,e,q⟩=>by
  simp only [e]
  cases k with
  | true=>exact yK (p_mono q (fun w s3 ⟨z,e,q⟩=>by simp only [e]; exact q) fun _ _ z=>z)
  | false=>exact q) fun _ _ z=>z)) fun _ _ z=>z)
theorem yLR (h:PO none s):(jDJ s).post PO E:=h
theorem yLQ (h:(a s).post (fun v s1=>∃ i,v=.int i∧PO (some i) s1) E):(jCG a s).post PO E :=
 yK (p_mono h (fun v s1 ⟨i,e,q⟩=>by subst e; exact q) fun _ _ z=>z)
theorem yVX {lo hi:S→R S (Option Int)} (h:(a s).post (fun v s1=>(lo s1).post (fun l s2=>(hi s2).post (fun u s3=>∃ z,fSl s3.h v l u=some z∧P z s3) E) E) E):(eSl a lo hi s).post P E :=
 yK (p_mono h (fun x s1 q=>yK (p_mono q (fun y s2 q=>yK (p_mono q (fun u s3 ⟨z,e,q⟩=>by simp only [e]; exact q) fun _ _ z=>z)) fun _ _ z=>z)) fun _ _ z=>z)
theorem jXW {n:Nat} {mf:MF} {vs:List PV} (h:(vs.length=n∧uB vs=true)∧(mf vs s.h).post (fun v h=>P v ⟨s.e,h⟩) (fun x h=>E x ⟨s.e,h⟩)):(jOS n mf vs s).post P E:=by
 unfold jOS
 rw [if_pos h.1]
 unfold lift
 have q:=h.2
 split <;> rename_i e <;> rw [e] at q <;> exact q
theorem yPA {n:Nat} {mf:MF} (h:(ma s).post (fun vs s1=>(vs.length=n∧uB vs=true)∧(mf vs s1.h).post (fun v h=>P v ⟨s1.e,h⟩) (fun x h=>E x ⟨s1.e,h⟩)) E):(yL n mf ma s).post P E :=
 yK (p_mono h (fun vs s1 q=>jXW q) fun _ _ z=>z)
theorem yLU {n0 nk n:Nat} {ix:List Nat} {mf:MF} {mk:MA} (h:(ma s).post (fun vs s1=>(mk s1).post (fun zs s2=>((vs.length=n0∧zs.length=nk)∧uB vs=true∧uB zs=true)∧((pick ix (vs++zs)).length=n∧uB (pick ix (vs++zs))=true) ∧
  (mf (pick ix (vs++zs)) s2.h).post (fun v h=>P v ⟨s2.e,h⟩) (fun x h=>E x ⟨s2.e,h⟩)) E) E):(jNQ n0 nk ix n mf ma mk s).post P E :=
 yK (p_mono h (fun vs s1 q=>yK (p_mono q (fun zs s2 q=>by simp only [if_pos q.1]; exact jXW q.2) fun _ _ z=>z)) fun _ _ z=>z)
theorem yPD (h:(a s).post (fun v s1=>∃ k,v=.bl k∧br0 k ((b s1).post P E) (P (.bl false) s1)) E):(jGK a b s).post P E :=
 yK (p_mono h (fun v s1 ⟨k,e,q⟩=>by subst e; cases k <;> exact q) fun _ _ z=>z)
theorem yTF (h:(a s).post (fun v s1=>∃ k,v=.bl k∧br0 k (P (.bl true) s1) ((b s1).post P E)) E):(orV a b s).post P E :=
 yK (p_mono h (fun v s1 ⟨k,e,q⟩=>by subst e; cases k <;> exact q) fun _ _ z=>z)
theorem yOW (h:(a s).post (fun v s1=>∃ k,v=.bl k∧P (.bl (!k)) s1) E):(yHS a s).post P E :=
 yK (p_mono h (fun v s1 ⟨k,e,q⟩=>by subst e; exact q) fun _ _ z=>z)
theorem yTJ (h:(ta s).post (fun k s1=>br0 k ((a s1).post P E) ((b s1).post P E)) E):(ifM ta a b s).post P E :=
 yK (p_mono h (fun k s1 q=>by cases k <;> exact q) fun _ _ z=>z)
theorem yVW (h:(a s).post (fun v s1=>∃ k,tru s1.h v=some k∧PB k s1) E):(tM a s).post PB E :=
 yK (p_mono h (fun v s1 ⟨k,e,q⟩=>by simp only [e]; exact q) fun _ _ z=>z)
theorem yWB (h:(a s).post (fun v s1=>∃ k,v=.bl k∧PB k s1) E):(bM a s).post PB E :=
 yK (p_mono h (fun v s1 ⟨k,e,q⟩=>by subst e; exact q) fun _ _ z=>z)
theorem yPE (h:(ta s).post (fun k s1=>br0 k ((tb s1).post PB E) (PB false s1)) E):(andM ta tb s).post PB E :=
 yK (p_mono h (fun k s1 q=>by cases k <;> exact q) fun _ _ z=>z)
theorem yTG (h:(ta s).post (fun k s1=>br0 k (PB true s1) ((tb s1).post PB E)) E):(orM ta tb s).post PB E :=
 yK (p_mono h (fun k s1 q=>by cases k <;> exact q) fun _ _ z=>z)
theorem yOX (h:(ta s).post (fun k s1=>PB (!k) s1) E):(jIP ta s).post PB E:=yK h
theorem yVZ {fm:AH→Str→List PV→Option PV} (h:(a s).post (fun o s1=>∃ x,o=.str x∧(ma s1).post (fun vs s2=>∃ z,fm s2.h x vs=some z∧P z s2) E) E):(eMS fm a ma s).post P E :=
 yK (p_mono h (fun o s1 ⟨x,e,q⟩=>by subst e; exact yK (p_mono q (fun vs s2 ⟨z,e,q⟩=>by simp only [e]; exact q) fun _ _ z=>z)) fun _ _ z=>z)
variable {x y:MS}
theorem yOT (h:PF .nx s):(wY s).post PF E:=h
theorem yTC (h:(x s).post (fun fl s1=>match fl with | .nx=>(y s1).post PF E | fl=>PF fl s1) E):(yN x y s).post PF E :=
 yK (p_mono h (fun fl s1 q=>by cases fl <;> exact q) fun _ _ z=>z)
theorem yLP (h:(a s).post (fun _ s1=>PF .nx s1) E):(yCW a s).post PF E:=yK h
theorem yTD (h:(a s).post (fun v s1=>isOwn v=false∧PF (.rt v) s1) E):(vO a s).post PF E :=
 yK (p_mono h (fun v s1 ⟨e,q⟩=>by rw [e]; exact q) fun _ _ z=>z)
theorem yOV (h:PF (.rt .non) s):(yQU s).post PF E:=h
theorem yTB (h:(ta s).post (fun k s1=>br0 k ((x s1).post PF E) ((y s1).post PF E)) E):(sIf ta x y s).post PF E :=
 yK (p_mono h (fun k s1 q=>by cases k <;> exact q) fun _ _ z=>z)
theorem yTN (h:(a s).post (fun v s1=>isOwn v=false∧PF .nx ⟨s1.e.set i (some v),s1.h⟩) E):(wZ i a s).post PF E :=
 yK (p_mono h (fun v s1 ⟨e,q⟩=>by rw [e]; exact q) fun _ _ z=>z)
theorem yPC {mn:S→R S (List PV)} (h:(mn s).post (fun v s1=>PF .nx ⟨s1.e.set i (some (.own v)),s1.h⟩) E):(jON i mn s).post PF E:=yK h
theorem yPB {t:Tg} (h:(a s).post (fun v s1=>isOwn v=false∧∃ e1,qK t v s1.e=some e1∧PF .nx ⟨e1,s1.h⟩) E):(jWP t a s).post PF E :=
 yK (p_mono h (fun v s1 ⟨e,e1,e2,q⟩=>by simp only [e2,e]; exact q) fun _ _ z=>z)
theorem yTE {j:Nat} (h:(ma s).post (fun vs s1=>∃ v w,vs=[v,w]∧(isOwn v=false∧isOwn w=false)∧PF .nx ⟨(s1.e.set i (some v)).set j (some w),s1.h⟩) E):(yHP i j ma s).post PF E :=
 yK (p_mono h (fun vs s1 ⟨v,w,e,⟨e1,e2⟩,q⟩=>by subst e; simp only [e1,e2]; exact q) fun _ _ z=>z)
theorem yOU (h:(a s).post (fun v s1=>(b s1).post (fun o s2=>(c s2).post (fun k s3=>∃ n xs ys,o=.cel n∧jFA s3.h n=some xs∧yFE xs k v=some ys∧PF .nx ⟨s3.e,s3.h.set n (some (.lst ys))⟩) E) E) E):(jEY a b c s).post PF E :=
 yK (p_mono h (fun v s1 q=>yK (p_mono q (fun o s2 q2=>yK (p_mono q2 (fun k s3 ⟨n,xs,ys,e1,e2,e3,q3⟩=>by subst e1; simp only [yFI,e2,e3]; exact q3) fun _ _ z=>z)) fun _ _ z=>z)) fun _ _ z=>z)
theorem wV {k:Nat} {mb:MS} {xs:List PV} {h:AH} (e0:List (Option PV)) (he:xs.map some++List.replicate k none=e0) {Q:PV→AH→Prop} {E:PV→AH→Prop} (q:(mb ⟨e0,h⟩).post (fun fl s=>match fl with
  | .rt v=>Q v s.h
  | .nx=>Q .non s.h
  | _=>False) (fun x s=>E x s.h)):(mkF k mb xs h).post Q E:=by
 subst he
 unfold mkF
 cases e:mb ⟨xs.map some++List.replicate k none,h⟩ with
 | ok fl s =>
  rw [e] at q
  cases fl <;> exact q
 | exc x s=>rw [e] at q; exact q
 | bad=>rw [e] at q; exact q
theorem jTZ {h:AH} {r:Sr} (hr:r.w=[]):qO h r:=fun p hp=>by rw [hr] at hp; cases hp
theorem yAO {xs:List PV} {t:Tg} (I:Nat→S→Prop) (h0:I 0 s) (hs:∀ (j:Nat) (v:PV) (s:S),xs[j]?=some v→I j s→∃ e1,qK t v s.e=some e1∧(x ⟨e1,s.h⟩).post (fun fl s'=>match fl with
  | .nx=>I (j+1) s'
  | .ct=>I (j+1) s'
  | .bk=>PF .nx s'
  | .rt v=>PF (.rt v) s') E) (hn:∀ s,I xs.length s→PF .nx s) {o:Bool}:(jCV ⟨xs,[],o⟩ t x xs s).post PF E:=by
 have go:∀ (ys:List PV) (r:Sr) (j:Nat) (s:S),r.w=[]→(∀ k,ys[k]?=xs[j+k]?)→j+ys.length=xs.length→I j s→(jCV r t x ys s).post PF E:=by
  intro ys
  induction ys with
  | nil =>
   intro r j s hr hy hl hI
   unfold jCV
   rw [if_pos (jTZ hr)]
   exact hn s (by rw [← hl]; exact hI)
  | cons y ys ih =>
   intro r j s hr hy hl hI
   unfold jCV
   rw [if_pos (jTZ hr)]
   obtain ⟨e1,eb,q⟩:=hs j y s (by have:=hy 0; simpa using this.symm) hI
   rw [eb]
   refine yK (p_mono q (fun fl s' q=>?_) fun _ _ z=>z)
   have nxt:I (j+1) s'→(jCV r t x ys s').post PF E:=fun hI=>ih r (j+1) s' hr (fun k=>by have:=hy (k+1); simp only [List.getElem?_cons_succ] at this; rw [this]; congr 1; omega) (by simp only [List.length_cons] at hl; omega) hI
   cases fl with
   | nx=>exact nxt q
   | ct=>exact nxt q
   | bk=>exact q
   | rt v=>exact q
 exact go xs _ 0 s rfl (fun k=>by simp) (by simp) h0
theorem yTK {src:S→R S Sr} {t:Tg} (h:(src s).post (fun r s1=>r.w=[]∧r.o=false∧r.xs.length≤sizeLine∧(jCV ⟨r.xs,[],false⟩ t x r.xs s1).post PF E) E):(jTE src t x s).post PF E :=
 yK (p_mono h (fun r s1 ⟨e1,e2,e3,q⟩=>by
  obtain ⟨xs,w,o⟩:=r
  simp only at e1 e2 e3 q
  subst e1 e2
  simp only [Bool.false_eq_true,false_or,if_neg (Nat.not_lt.mpr e3)]
  exact q) fun _ _ z=>z)
theorem yTO {m:ME} {PS:Sr→S→Prop} (h:(m s).post (fun v s1=>∃ r,srcOf s1.h v=some r∧PS r s1) E):(jFM m s).post PS E :=
 yK (p_mono h (fun v s1 ⟨z,e,q⟩=>by simp only [e]; exact q) fun _ _ z=>z)
theorem yLS {src:S→R S Sr} {t:Tg} {tt:S→R S Bool} {te:ME} {vs:List Nat}
  (h:(src s).post (fun r s1=>r.w=[]∧∃ I:Nat→List PV→AH→Prop,I 0 [] s1.h∧(∀ (j:Nat) (v:PV) (acc:List PV) (h:AH),r.xs[j]?=some v→I j acc h→∃ e1,qK t v (jU s1.e vs)=some e1 ∧
   (tt ⟨e1,h⟩).post (fun k s2=>br0 k ((te s2).post (fun y s3=>isOwn y=false∧jU s3.e vs=jU s1.e vs∧I (j+1) (acc++[y]) s3.h) NE) (jU s2.e vs=jU s1.e vs∧I (j+1) acc s2.h)) NE)∧∀ acc h,I r.xs.length acc h→PA acc ⟨jU s1.e vs,h⟩) E):(zG src t tt te vs s).post PA E:=by
 refine yK (p_mono h (fun r s1 ⟨hw,I,h0,hs,hn⟩=>?_) fun _ _ z=>z)
 have ww:jU (jU s1.e vs) vs=jU s1.e vs:=by
  have key:∀ (us:List Nat) (e:List (Option PV)),(∀ u∈us,u∈vs)→jU (jU e us) vs=jU e vs:=by
   intro us e
   induction us with
   | nil=>intro _; rfl
   | cons u us ih =>
    intro hu
    show jU ((jU e us).set u none) vs=jU e vs
    have:∀ (l:List (Option PV)) (ws:List Nat),u∈ws→jU (l.set u none) ws=jU l ws:=by
     intro l ws
     induction ws with
     | nil=>intro z; cases z
     | cons w ws ih2 =>
      intro z
      show (jU (l.set u none) ws).set w none=(jU l ws).set w none
      by_cases hm:u∈ws
      ·rw [ih2 hm]
      ·have hw:u=w:=by
        rcases List.mem_cons.mp z with z | z
        ·exact z
        ·exact absurd z hm
       subst hw
       have go:∀ zs:List Nat,u∉zs→jU (l.set u none) zs=(jU l zs).set u none:=by
        intro zs
        induction zs with
        | nil=>intro _; rfl
        | cons y zs ih3 =>
         intro hy
         simp only [List.mem_cons,not_or] at hy
         show (jU (l.set u none) zs).set y none=((jU l zs).set y none).set u none
         rw [ih3 hy.2,List.set_comm _ _ hy.1]
       rw [go ws hm,List.set_set]
    rw [this _ _ (hu u (by simp))]
    exact ih fun w hw=>hu w (List.mem_cons_of_mem _ hw)
  exact key vs _ fun _ h=>h
 have go:∀ (ys:List PV) (j:Nat) (acc:List PV) (h:AH) (e:List (Option PV)),jU e vs=jU s1.e vs→(∀ k,ys[k]?=r.xs[j+k]?)→j+ys.length=r.xs.length→I j acc h→(ys=[]→e=jU s1.e vs)→(jIK r t tt te vs ys acc ⟨e,h⟩).post PA E:=by
  intro ys
  induction ys with
  | nil =>
   intro j acc h e he hy hl hI hz
   unfold jIK
   rw [hz rfl]
   exact hn acc h (by rw [← hl]; exact hI)
  | cons y ys ih =>
   intro j acc h e he hy hl hI hz
   unfold jIK
   obtain ⟨e1,eb,q⟩:=hs j y acc h (by have:=hy 0; simpa using this.symm) hI
   unfold jSA
   simp only [he,eb]
   have nx:∀ {α:Type} {r:R S α} {P:α→S→Prop},r.post P NE→r.nx.post P NE:=fun {α r P} z=>by
    cases r with
    | ok a s=>exact z
    | exc x s=>exact z.elim
    | bad=>exact z.elim
   refine yK (jX (P':=fun acc' s'=>s'.e=jU s1.e vs∧I (j+1) acc' s'.h) (yK (p_mono (nx q) (fun k s2 q=>?_) fun _ _ z=>z)) fun acc' s' ⟨q1,q2⟩=>?_)
   ·cases k with
    | true =>
     rw [if_pos rfl]
     refine yK (p_mono (nx q) (fun v s3 ⟨o,q1,q2⟩=>?_) fun _ _ z=>z)
     rw [o]
     exact ⟨q1,q2⟩
    | false =>
     rw [if_neg (by decide)]
     exact q
   ·rw [if_pos (jTZ hw)]
    obtain ⟨e',h'⟩:=s'
    simp only at q1 q2
    subst q1
    exact ih (j+1) acc' h' _ ww (fun k=>by have:=hy (k+1); simp only [List.getElem?_cons_succ] at this; rw [this]; congr 1; omega) (by simp only [List.length_cons] at hl; omega) q2 fun _=>rfl
 exact go r.xs 0 [] s1.h _ ww (fun k=>by simp) (by simp) h0 fun _=>rfl
end
@[irreducible] def jF (i:Nat):ME:=jG i
@[irreducible] def xEC (v:PV):ME:=eC v
@[irreducible] def jJ (f:AH→PV→PV→Option PV) (a b:ME):ME:=jM f a b
@[irreducible] def jK:MA:=jO
@[irreducible] def jC (m:ME) (r:MA):MA:=jE m r
@[irreducible] def yAD (m:ME) (r:MA):MA:=yDD m r
@[irreducible] def zU (ma:MA):ME:=jAU ma
@[irreducible] def jCZ (ma:MA):ME:=jDU ma
@[irreducible] def jKI (ma:MA):S→R S (List PV):=jRR ma
@[irreducible] def jCY (m:S→R S (List PV)):ME:=shN m
@[irreducible] def jPR (m:S→R S (List PV)):ME:=jWJ m
@[irreducible] def xECB (f:AH→List PV→Option PV) (ma:MA):ME:=eCB f ma
@[irreducible] def jLV (f g:AH→PV→PV→Option PV) (a b c:ME):ME:=jGF f g a b c
@[irreducible] def jBE:S→R S (Option Int):=jDJ
@[irreducible] def kZ (m:ME):S→R S (Option Int):=jCG m
@[irreducible] def jGE (m:ME) (lo hi:S→R S (Option Int)):ME:=eSl m lo hi
@[irreducible] def yD (n:Nat) (m:MF) (ma:MA):ME:=yL n m ma
@[irreducible] def jPF (n0 nk:Nat) (ix:List Nat) (n:Nat) (m:MF) (ma mk:MA):ME:=jNQ n0 nk ix n m ma mk
@[irreducible] def jDI (a b:ME):ME:=jGK a b
@[irreducible] def yRI (a b:ME):ME:=orV a b
@[irreducible] def jWK (a:ME):ME:=yHS a
@[irreducible] def jEC (c:S→R S Bool) (a b:ME):ME:=ifM c a b
@[irreducible] def xTM (m:ME):S→R S Bool:=tM m
@[irreducible] def xBM (m:ME):S→R S Bool:=bM m
@[irreducible] def jKJ (a b:S→R S Bool):S→R S Bool:=Lp.andM a b
@[irreducible] def jDK (a b:S→R S Bool):S→R S Bool:=Lp.orM a b
@[irreducible] def jDV (a:S→R S Bool):S→R S Bool:=Lp.jIP a
@[irreducible] def jIM (f:AH→Str→List PV→Option PV) (mo:ME) (ma:MA):ME:=eMS f mo ma
@[irreducible] def zH:MS:=wY
@[irreducible] def yG (a b:MS):MS:=yN a b
@[irreducible] def yAC (m:ME):MS:=yCW m
@[irreducible] def yX (m:ME):MS:=vO m
@[irreducible] def yIU:MS:=yQU
@[irreducible] def jAK (c:S→R S Bool) (a b:MS):MS:=sIf c a b
@[irreducible] def uA (i:Nat) (m:ME):MS:=wZ i m
@[irreducible] def jKR (i:Nat) (m:S→R S (List PV)):MS:=jON i m
@[irreducible] def jTH (t:Tg) (m:ME):MS:=jWP t m
@[irreducible] def yCM (i j:Nat) (ma:MA):MS:=yHP i j ma
@[irreducible] def jGY (mv mo mi:ME):MS:=jEY mv mo mi
@[irreducible] noncomputable def jII (src:S→R S Sr) (t:Tg) (body:MS):MS:=jTE src t body
@[irreducible] def jAZ (m:ME):S→R S Sr:=jFM m
@[irreducible] noncomputable def vI (src:S→R S Sr) (t:Tg) (tt:S→R S Bool) (te:ME) (vs:List Nat):S→R S (List PV):=zG src t tt te vs
section
variable {P:PV→S→Prop} {PB:Bool→S→Prop} {PA:List PV→S→Prop} {PO:Option Int→S→Prop} {PF:Fl→S→Prop} {E:PV→S→Prop} {s:S}
variable {a b c m:ME} {ma:MA} {ta tb:S→R S Bool} {f g:AH→PV→PV→Option PV} {v:PV} {i:Nat} {x y:MS}
theorem jQ (e:s.e[i]?=some (some v)) (h:P v s):(jF i s).post P E:=by
 unfold jF
 exact ySZ e h
theorem p_c (h:P v s):(xEC v s).post P E:=by
 unfold xEC
 exact yXD h
theorem yC (h:(a s).post (fun x s1=>(b s1).post (fun y s2=>∃ z,f s2.h x y=some z∧P z s2) E) E):(jJ f a b s).post P E:=by
 unfold jJ
 exact yTM h
theorem yF (h:PA [] s):(jK s).post PA E:=by
 unfold jK
 exact yTH h
theorem jP (h:(a s).post (fun v s1=>(ma s1).post (fun vs s2=>PA (v :: vs) s2) E) E):(jC a ma s).post PA E:=by
 unfold jC
 exact yOZ h
theorem ySU (h:(a s).post (fun v s1=>∃ xs,asS s1.h v=some xs∧(ma s1).post (fun vs s2=>PA (xs++vs) s2) E) E):(yAD a ma s).post PA E:=by
 unfold yAD
 exact yOS h
theorem kW (h:(ma s).post (fun vs s1=>(uB vs=true∧vs.length≤16777216)∧P (.tup vs) s1) E):(zU ma s).post P E:=by
 unfold zU
 exact yTA h
theorem qU (h:(ma s).post (fun vs s1=>(uB vs=true∧vs.length≤16777216)∧P (.lst vs) s1) E):(jCZ ma s).post P E:=by
 unfold jCZ
 exact yTI h
theorem jKU (h:(ma s).post (fun vs s1=>(uB vs=true∧vs.length≤sizeLine)∧PA vs s1) E):(jKI ma s).post PA E:=by
 unfold jKI
 exact yOY h
theorem jAX {mn:S→R S (List PV)} (h:(mn s).post (fun xs s1=>P (.lst xs) s1) E):(jCY mn s).post P E:=by
 unfold jCY
 exact yVY h
theorem jWQ {mn:S→R S (List PV)} (h:(mn s).post (fun xs s1=>P (.cel s1.h.length) ⟨s1.e,s1.h++[some (.lst xs)]⟩) E):(jPR mn s).post P E:=by
 unfold jPR
 exact yTL h
theorem qT {fb:AH→List PV→Option PV} (h:(ma s).post (fun vs s1=>∃ z,fb s1.h vs=some z∧P z s1) E):(xECB fb ma s).post P E:=by
 unfold xECB
 exact yWA h
theorem zE (h:(a s).post (fun x s1=>(b s1).post (fun y s2=>∃ k,f s2.h x y=some (.bl k)∧br k ((c s2).post (fun w s3=>∃ z,g s3.h y w=some z∧P z s3) E) (P (.bl false) s2)) E) E):(jLV f g a b c s).post P E:=by
 unfold jLV
 simp only [jFP] at h
 exact yLT h
theorem vY (h:PO none s):(jBE s).post PO E:=by
 unfold jBE
 exact yLR h
theorem vQ (h:(a s).post (fun v s1=>∃ i,v=.int i∧PO (some i) s1) E):(kZ a s).post PO E:=by
 unfold kZ
 exact yLQ h
theorem jCW {lo hi:S→R S (Option Int)} (h:(a s).post (fun v s1=>(lo s1).post (fun l s2=>(hi s2).post (fun u s3=>∃ z,fSl s3.h v l u=some z∧P z s3) E) E) E):(jGE a lo hi s).post P E:=by
 unfold jGE
 exact yVX h
theorem yP {n:Nat} {mf:MF} (h:(ma s).post (fun vs s1=>(vs.length=n∧uB vs=true)∧(mf vs s1.h).post (fun v h=>P v ⟨s1.e,h⟩) (fun x h=>E x ⟨s1.e,h⟩)) E):(yD n mf ma s).post P E:=by
 unfold yD
 exact yPA h
theorem zF {n0 nk n:Nat} {ix:List Nat} {mf:MF} {mk:MA} (h:(ma s).post (fun vs s1=>(mk s1).post (fun zs s2=>((vs.length=n0∧zs.length=nk)∧uB vs=true∧uB zs=true)∧((pick ix (vs++zs)).length=n∧uB (pick ix (vs++zs))=true) ∧
  (mf (pick ix (vs++zs)) s2.h).post (fun v h=>P v ⟨s2.e,h⟩) (fun x h=>E x ⟨s2.e,h⟩)) E) E):(jPF n0 nk ix n mf ma mk s).post P E:=by
 unfold jPF
 exact yLU h
theorem wU (h:(a s).post (fun v s1=>∃ k,v=.bl k∧br k ((b s1).post P E) (P (.bl false) s1)) E):(jDI a b s).post P E:=by
 unfold jDI
 simp only [jFP] at h
 exact yPD h
theorem jBH (h:(a s).post (fun v s1=>∃ k,v=.bl k∧br k (P (.bl true) s1) ((b s1).post P E)) E):(yRI a b s).post P E:=by
 unfold yRI
 simp only [jFP] at h
 exact yTF h
theorem kE (h:(a s).post (fun v s1=>∃ k,v=.bl k∧P (.bl (!k)) s1) E):(jWK a s).post P E:=by
 unfold jWK
 exact yOW h
theorem zN (h:(ta s).post (fun k s1=>br k ((a s1).post P E) ((b s1).post P E)) E):(jEC ta a b s).post P E:=by
 unfold jEC
 simp only [jFP] at h
 exact yTJ h
theorem jAW (h:(a s).post (fun v s1=>∃ k,tru s1.h v=some k∧PB k s1) E):(xTM a s).post PB E:=by
 unfold xTM
 exact yVW h
theorem uO (h:(a s).post (fun v s1=>∃ k,v=.bl k∧PB k s1) E):(xBM a s).post PB E:=by
 unfold xBM
 exact yWB h
theorem uW (h:(ta s).post (fun k s1=>br k ((tb s1).post PB E) (PB false s1)) E):(jKJ ta tb s).post PB E:=by
 unfold jKJ
 simp only [jFP] at h
 exact yPE h
theorem wA (h:(ta s).post (fun k s1=>br k (PB true s1) ((tb s1).post PB E)) E):(jDK ta tb s).post PB E:=by
 unfold jDK
 simp only [jFP] at h
 exact yTG h
theorem uU (h:(ta s).post (fun k s1=>PB (!k) s1) E):(jDV ta s).post PB E:=by
 unfold jDV
 exact yOX h
theorem jKE {fm:AH→Str→List PV→Option PV} (h:(a s).post (fun o s1=>∃ x,o=.str x∧(ma s1).post (fun vs s2=>∃ z,fm s2.h x vs=some z∧P z s2) E) E):(jIM fm a ma s).post P E:=by
 unfold jIM
 exact yVZ h
theorem vL (h:PF .nx s):(zH s).post PF E:=by
 unfold zH
 exact yOT h
theorem yS (h:(x s).post (fun fl s1=>match fl with | .nx=>(y s1).post PF E | fl=>PF fl s1) E):(yG x y s).post PF E:=by
 unfold yG
 exact yTC h
theorem zB (h:(a s).post (fun _ s1=>PF .nx s1) E):(yAC a s).post PF E:=by
 unfold yAC
 exact yLP h
theorem vM (h:(a s).post (fun v s1=>isOwn v=false∧PF (.rt v) s1) E):(yX a s).post PF E:=by
 unfold yX
 exact yTD h
theorem qG (h:PF (.rt .non) s):(yIU s).post PF E:=by
 unfold yIU
 exact yOV h
theorem uI (h:(ta s).post (fun k s1=>br k ((x s1).post PF E) ((y s1).post PF E)) E):(jAK ta x y s).post PF E:=by
 unfold jAK
 simp only [jFP] at h
 exact yTB h
theorem zK (h:(a s).post (fun v s1=>isOwn v=false∧PF .nx ⟨s1.e.set i (some v),s1.h⟩) E):(uA i a s).post PF E:=by
 unfold uA
 exact yTN h
theorem jTN {mn:S→R S (List PV)} (h:(mn s).post (fun v s1=>PF .nx ⟨s1.e.set i (some (.own v)),s1.h⟩) E):(jKR i mn s).post PF E:=by
 unfold jKR
 exact yPC h
theorem yJK {t:Tg} (h:(a s).post (fun v s1=>isOwn v=false∧∃ e1,qK t v s1.e=some e1∧PF .nx ⟨e1,s1.h⟩) E):(jTH t a s).post PF E:=by
 unfold jTH
 exact yPB h
theorem jBG {j:Nat} (h:(ma s).post (fun vs s1=>∃ v w,vs=[v,w]∧(isOwn v=false∧isOwn w=false)∧PF .nx ⟨(s1.e.set i (some v)).set j (some w),s1.h⟩) E):(yCM i j ma s).post PF E:=by
 unfold yCM
 exact yTE h
theorem ySV (h:(a s).post (fun v s1=>(b s1).post (fun o s2=>(c s2).post (fun k s3=>∃ n xs ys,o=.cel n∧jFA s3.h n=some xs∧yFE xs k v=some ys∧PF .nx ⟨s3.e,s3.h.set n (some (.lst ys))⟩) E) E) E):(jGY a b c s).post PF E:=by
 unfold jGY
 exact yOU h
theorem yIF {src:S→R S Sr} {t:Tg} (h:(src s).post (fun r s1=>r.w=[]∧r.o=false∧r.xs.length≤sizeLine∧(jCV ⟨r.xs,[],false⟩ t x r.xs s1).post PF E) E):(jII src t x s).post PF E:=by
 unfold jII
 exact yTK h
theorem jDB {m:ME} {PS:Sr→S→Prop} (h:(m s).post (fun v s1=>∃ r,srcOf s1.h v=some r∧PS r s1) E):(jAZ m s).post PS E:=by
 unfold jAZ
 exact yTO h
theorem jPI {src:S→R S Sr} {t:Tg} {tt:S→R S Bool} {te:ME} {vs:List Nat}
  (h:(src s).post (fun r s1=>r.w=[]∧∃ I:Nat→List PV→AH→Prop,I 0 [] s1.h∧(∀ (j:Nat) (v:PV) (acc:List PV) (h:AH),r.xs[j]?=some v→I j acc h→∃ e1,qK t v (jU s1.e vs)=some e1 ∧
   (tt ⟨e1,h⟩).post (fun k s2=>br k ((te s2).post (fun y s3=>isOwn y=false∧jU s3.e vs=jU s1.e vs∧I (j+1) (acc++[y]) s3.h) NE) (jU s2.e vs=jU s1.e vs∧I (j+1) acc s2.h)) NE)∧∀ acc h,I r.xs.length acc h→PA acc ⟨jU s1.e vs,h⟩) E):(vI src t tt te vs s).post PA E:=by
 unfold vI
 simp only [jFP] at h
 exact yLS h
end
end Lp
set_option maxHeartbeats 4000000
namespace Lp
open PySem PySem.Spec PyProof.Rows L2
def Bag (l:List PV):Prop:=∃ (ns:List Int) (i c sd t:Int),l=[.lst (ns.map .int),.int i,.int c,.int sd,.int t]∧0≤i∧0≤c∧0≤sd∧sd < 2147483587
theorem jCE {h:AH} {n:Nat} {l:List PV} (hn:n < h.length):jFA (h.set n (some (.lst l))) n=some l:=by
 unfold jFA
 rw [List.getElem?_set_self hn]
theorem jFR {h:AH} {n:Nat} {l:List PV} {i:Int} {z:PV} (e:jFA h n=some l) (e2:atI l i=some z):fIx h (.cel n) (.int i)=some z:=by
 have q:=jGT e
 unfold fIx
 show (match asS h (.cel n) with | some xs=>atI xs i | none=>none)=some z
 have:asS h (.cel n)=some l:=by
  unfold asS asL
  simp only [q]
 rw [this]
 exact e2
theorem qD {PF:Fl→S→Prop} {E:PV→S→Prop} {a b c:ME} {s:S} (q:(a s).post (fun v s1=>(b s1).post (fun o s2=>(c s2).post (fun k s3=>∃ (n:Nat) (h:AH) (l ys:List PV),o=.cel n∧n < h.length∧s3.h=h.set n (some (.lst l))∧yFE l k v=some ys∧PF .nx ⟨s3.e,h.set n (some (.lst ys))⟩) E) E) E) :
  (jGY a b c s).post PF E :=
 ySV (p_mono q (fun v s1 q=>p_mono q (fun o s2 q=>p_mono q (fun k s3 ⟨n,h,l,ys,e1,e2,e3,e4,q⟩=>⟨n,l,ys,e1,by rw [e3]; exact jCE e2,e4,by rw [e3,List.set_set]; exact q⟩) fun _ _ z=>z) fun _ _ z=>z) fun _ _ z=>z)
theorem yMZ {ns:List Int} {i:Int} (h0:0≤i) (h1:i < ns.length):∃ k,atI (ns.map PV.int) i=some (.int k):=by
 unfold atI ixN
 rw [if_pos h0,List.length_map,if_pos h1]
 show ∃ k,(ns.map PV.int)[i.toNat]?=some (.int k)
 rw [List.getElem?_map,List.getElem?_eq_getElem (by omega)]
 exact ⟨_,rfl⟩
theorem yTY {i j:Int} (h:j.natAbs < 18446744073709551616):jZZ i j=some (i * j):=if_pos (.inr h)
theorem yTZ {i j:Int} (h:i.natAbs < 18446744073709551616):jZZ i j=some (i * j):=if_pos (.inl h)
theorem yAW {h:AH} {i j:Int} (hj:j.natAbs < 18446744073709551616):jDT h (.int i) (.int j)=some (.int (i * j)):=by
 show (jZZ i j).map PV.int=_
 rw [yTY hj]; rfl
theorem yUO {h:AH} {i j:Int} (hj:i.natAbs < 18446744073709551616):jDT h (.int i) (.int j)=some (.int (i * j)):=by
 show (jZZ i j).map PV.int=_
 rw [yTZ hj]; rfl
theorem jTQ {h:AH} {i j:Int} (hj:j≠0):jIQ h (.int i) (.int j)=some (.int (i.fmod j)):=by
 show (yHU i j).map PV.int=_
 unfold yHU
 rw [if_pos hj]; rfl
theorem yJX {h:AH} {i j:Int} (hj:j≠0) (h2:j.natAbs < 1073741824):jWH h (.int i) (.int j)=some (.int (i.fdiv j)):=by
 show (jWS i j).map PV.int=_
 unfold jWS
 rw [if_pos ⟨hj,h2⟩]; rfl
theorem jCC (i j:Int):PyData.eqv (.int i) (.int j)=decide (i=j):=rfl
theorem jHE {a b:Int} (h:0 < b):0≤a.fmod b∧a.fmod b < b:=⟨Int.fmod_nonneg_of_pos a h,Int.fmod_lt_of_pos a h⟩
noncomputable def yKB:MS:=(yN (sIf (andM (bM (jM fEq (jM fIx (jG 0) (eC (.int 2))) (eC (.int 0)))) (bM (jM fLt (jM fIx (jG 0) (eC (.int 1))) (eCB vP (jE (jM fIx (jG 0) (eC (.int 0))) jO))))) (yN (wZ 2 (jM fIx (jM fIx (jG 0) (eC (.int 0))) (jM fIx (jG 0) (eC (.int 1)))))
 (yN (jEY (jM yO (jM fIx (jG 0) (eC (.int 1))) (eC (.int 1))) (jG 0) (eC (.int 1)))
 (yN (jEY (ifM (bM (jM fGe (jG 2) (jM jOY (eC (.int 10)) (eC (.int 18))))) (jG 2) (eC (.int 0))) (jG 0) (eC (.int 2)))
 (jEY (jM jIQ (eCB jIN (jE (jM yO (jM yO (jM jDT (jM fIx (jG 0) (eC (.int 3))) (eC (.int 40031))) (jM jDT (jM jIQ (eCB jIN (jE (jG 2) jO)) (eC (.int 2147483549))) (eC (.int 331)))) (eC (.int 2011))) jO)) (eC (.int 2147483587))) (jG 0) (eC (.int 3)))))) wY)
 (yN (sIf (bM (jM fGt (jM fIx (jG 0) (eC (.int 2))) (eC (.int 0)))) (yN (wZ 3 (jM jIQ (eCB jIN (jE (jM fIx (jG 0) (eC (.int 2))) jO)) (jG 1)))
 (yN (jEY (jM jWH (jM fIx (jG 0) (eC (.int 2))) (jG 1)) (jG 0) (eC (.int 2)))
 (vO (jG 3)))) wY)
 (yN (jEY (jM yO (jM fIx (jG 0) (eC (.int 4))) (eC (.int 1))) (jG 0) (eC (.int 4)))
 (yN (wZ 4 (jM fIx (jG 0) (eC (.int 3))))
 (yN (jEY (jM jIQ (eCB jIN (jE (jM yO (jM yO (jM yO (jM jDT (jG 4) (jG 4)) (jM jDT (eC (.int 65071)) (jG 4))) (jM jDT (eC (.int 6673)) (jM fIx (jG 0) (eC (.int 4))))) (eC (.int 40013))) jO)) (eC (.int 2147483587))) (jG 0) (eC (.int 3)))
 (vO (jM jIQ (eCB jIN (jE (jM yO (jM yO (jM jWH (jM fIx (jG 0) (eC (.int 3))) (eC (.int 61))) (jM jDT (jG 4) (eC (.int 32009)))) (jM fIx (jG 0) (eC (.int 4)))) jO)) (jG 1))))))))
noncomputable def yKA:MS:=(yG (jAK (jKJ (xBM (jJ fEq (jJ fIx (jF 0) (xEC (.int 2))) (xEC (.int 0)))) (xBM (jJ fLt (jJ fIx (jF 0) (xEC (.int 1))) (xECB vP (jC (jJ fIx (jF 0) (xEC (.int 0))) jK))))) (yG (uA 2 (jJ fIx (jJ fIx (jF 0) (xEC (.int 0))) (jJ fIx (jF 0) (xEC (.int 1)))))
 (yG (jGY (jJ yO (jJ fIx (jF 0) (xEC (.int 1))) (xEC (.int 1))) (jF 0) (xEC (.int 1)))
 (yG (jGY (jEC (xBM (jJ fGe (jF 2) (jJ jOY (xEC (.int 10)) (xEC (.int 18))))) (jF 2) (xEC (.int 0))) (jF 0) (xEC (.int 2)))
 (jGY (jJ jIQ (xECB jIN (jC (jJ yO (jJ yO (jJ jDT (jJ fIx (jF 0) (xEC (.int 3))) (xEC (.int 40031))) (jJ jDT (jJ jIQ (xECB jIN (jC (jF 2) jK)) (xEC (.int 2147483549))) (xEC (.int 331)))) (xEC (.int 2011))) jK)) (xEC (.int 2147483587))) (jF 0) (xEC (.int 3)))))) zH)
 (yG (jAK (xBM (jJ fGt (jJ fIx (jF 0) (xEC (.int 2))) (xEC (.int 0)))) (yG (uA 3 (jJ jIQ (xECB jIN (jC (jJ fIx (jF 0) (xEC (.int 2))) jK)) (jF 1)))
 (yG (jGY (jJ jWH (jJ fIx (jF 0) (xEC (.int 2))) (jF 1)) (jF 0) (xEC (.int 2)))
 (yX (jF 3)))) zH)
 (yG (jGY (jJ yO (jJ fIx (jF 0) (xEC (.int 4))) (xEC (.int 1))) (jF 0) (xEC (.int 4)))
 (yG (uA 4 (jJ fIx (jF 0) (xEC (.int 3))))
 (yG (jGY (jJ jIQ (xECB jIN (jC (jJ yO (jJ yO (jJ yO (jJ jDT (jF 4) (jF 4)) (jJ jDT (xEC (.int 65071)) (jF 4))) (jJ jDT (xEC (.int 6673)) (jJ fIx (jF 0) (xEC (.int 4))))) (xEC (.int 40013))) jK)) (xEC (.int 2147483587))) (jF 0) (xEC (.int 3)))
 (yX (jJ jIQ (xECB jIN (jC (jJ yO (jJ yO (jJ jWH (jJ fIx (jF 0) (xEC (.int 3))) (xEC (.int 61))) (jJ jDT (jF 4) (xEC (.int 32009)))) (jJ fIx (jF 0) (xEC (.int 4)))) jK)) (jF 1))))))))
theorem yQA:yKB=yKA:=by kernel_rfl
@[irreducible] noncomputable def jPT:MF:=mkF 3 yKB
section
theorem yGY {h:AH} {n:Nat} {l:List PV} (hn:n < h.length) (b:Bag l) {k:Int} (hk:1≤k) (hk2:k < 1073741824) :
  (jPT [.cel n,.int k] (h.set n (some (.lst l)))).post (fun v h'=>∃ d l',v=.int d∧0≤d∧d < k∧Bag l'∧h'=h.set n (some (.lst l'))) NE:=by
 obtain ⟨ns,i,c,sd,t,rfl,h1,h2,h3,h4⟩:=b
 unfold jPT
 rw [yQA]
 unfold yKA
 refine wV [some (.cel n),some (.int k),none,none,none] rfl (yS (jX (P':=fun fl s1=>fl=.nx∧∃ l' x,Bag l'∧s1=⟨[some (.cel n),some (.int k),x,none,none],h.set n (some (.lst l'))⟩) ?_ ?_))
 ·(repeat (first | refine jQ rfl ?_ | refine p_c ?_ | refine yC ?_ | refine jP ?_ | refine yF ?_ | refine yS ?_ | refine zK ?_ | refine uI ?_ | refine vM ?_ | refine uO ?_ | refine jAW ?_ | refine qT ?_ | refine uW ?_ | refine wA ?_ | refine uU ?_ | refine zE ?_ | refine wU ?_ | refine jBH ?_ | refine kE ?_ | refine zN ?_ | refine kW ?_ | refine qU ?_ | refine yP ?_ | refine zF ?_ | refine ⟨⟨⟨rfl,rfl⟩,rfl,rfl⟩,⟨rfl,rfl⟩,?_⟩ | refine qD ?_ | refine jCW ?_ | refine vQ ?_ | refine vY ?_ | refine vL ?_ | refine zB ?_ | refine qG ?_ | refine jBG ?_ | refine jAX ?_ | refine vR rfl ?_ | refine vX rfl ?_ | refine ⟨_,rfl,?_⟩ | refine ⟨⟨rfl,rfl⟩,?_⟩ | refine ⟨⟨rfl,Nat.le_of_ble_eq_true rfl⟩,?_⟩ | refine ⟨_,_,_,_,rfl,hn,rfl,rfl,?_⟩ | (refine ⟨_,_,rfl,⟨rfl,rfl⟩,?_⟩; try dsimp only [jU,List.set_cons_succ,List.set_cons_zero]) | (refine ⟨rfl,?_⟩; try dsimp only [jU,List.set_cons_succ,List.set_cons_zero]) | refine ⟨_,jFR (jCE hn) rfl,?_⟩))
  refine zW (fun hc=>?_) fun hc=>?_
  ·(repeat (first | refine jQ rfl ?_ | refine p_c ?_ | refine yC ?_ | refine jP ?_ | refine yF ?_ | refine yS ?_ | refine zK ?_ | refine uI ?_ | refine vM ?_ | refine uO ?_ | refine jAW ?_ | refine qT ?_ | refine uW ?_ | refine wA ?_ | refine uU ?_ | refine zE ?_ | refine wU ?_ | refine jBH ?_ | refine kE ?_ | refine zN ?_ | refine kW ?_ | refine qU ?_ | refine yP ?_ | refine zF ?_ | refine ⟨⟨⟨rfl,rfl⟩,rfl,rfl⟩,⟨rfl,rfl⟩,?_⟩ | refine qD ?_ | refine jCW ?_ | refine vQ ?_ | refine vY ?_ | refine vL ?_ | refine zB ?_ | refine qG ?_ | refine jBG ?_ | refine jAX ?_ | refine vR rfl ?_ | refine vX rfl ?_ | refine ⟨_,rfl,?_⟩ | refine ⟨⟨rfl,rfl⟩,?_⟩ | refine ⟨⟨rfl,Nat.le_of_ble_eq_true rfl⟩,?_⟩ | refine ⟨_,_,_,_,rfl,hn,rfl,rfl,?_⟩ | (refine ⟨_,_,rfl,⟨rfl,rfl⟩,?_⟩; try dsimp only [jU,List.set_cons_succ,List.set_cons_zero]) | (refine ⟨rfl,?_⟩; try dsimp only [jU,List.set_cons_succ,List.set_cons_zero]) | refine ⟨_,jFR (jCE hn) rfl,?_⟩))
   refine zW (fun hi=>?_) fun hi=>?_
   ·have hi:i < (((ns.map PV.int).length:Nat):Int):=of_decide_eq_true hi
    obtain ⟨q,eq⟩:=yMZ h1 (by simpa using hi)
    (repeat (first | refine jQ rfl ?_ | refine p_c ?_ | refine yC ?_ | refine jP ?_ | refine yF ?_ | refine yS ?_ | refine zK ?_ | refine uI ?_ | refine vM ?_ | refine uO ?_ | refine jAW ?_ | refine qT ?_ | refine uW ?_ | refine wA ?_ | refine uU ?_ | refine zE ?_ | refine wU ?_ | refine jBH ?_ | refine kE ?_ | refine zN ?_ | refine kW ?_ | refine qU ?_ | refine yP ?_ | refine zF ?_ | refine ⟨⟨⟨rfl,rfl⟩,rfl,rfl⟩,⟨rfl,rfl⟩,?_⟩ | refine qD ?_ | refine jCW ?_ | refine vQ ?_ | refine vY ?_ | refine vL ?_ | refine zB ?_ | refine qG ?_ | refine jBG ?_ | refine jAX ?_ | refine vR rfl ?_ | refine vX rfl ?_ | refine ⟨_,rfl,?_⟩ | refine ⟨⟨rfl,rfl⟩,?_⟩ | refine ⟨⟨rfl,Nat.le_of_ble_eq_true rfl⟩,?_⟩ | refine ⟨_,_,_,_,rfl,hn,rfl,rfl,?_⟩ | (refine ⟨_,_,rfl,⟨rfl,rfl⟩,?_⟩; try dsimp only [jU,List.set_cons_succ,List.set_cons_zero]) | (refine ⟨rfl,?_⟩; try dsimp only [jU,List.set_cons_succ,List.set_cons_zero]) | refine ⟨_,jFR (jCE hn) rfl,?_⟩ | refine ⟨_,eq,?_⟩))
    have fin:=@jHE
    refine zW (fun hq=>?_) fun hq=>?_
    ·have hq:(10:Int) ^ 18≤q:=of_decide_eq_true hq
     (repeat (first | refine jQ rfl ?_ | refine p_c ?_ | refine yC ?_ | refine jP ?_ | refine yF ?_ | refine yS ?_ | refine zK ?_ | refine uI ?_ | refine vM ?_ | refine uO ?_ | refine jAW ?_ | refine qT ?_ | refine uW ?_ | refine wA ?_ | refine uU ?_ | refine zE ?_ | refine wU ?_ | refine jBH ?_ | refine kE ?_ | refine zN ?_ | refine kW ?_ | refine qU ?_ | refine yP ?_ | refine zF ?_ | refine ⟨⟨⟨rfl,rfl⟩,rfl,rfl⟩,⟨rfl,rfl⟩,?_⟩ | refine qD ?_ | refine jCW ?_ | refine vQ ?_ | refine vY ?_ | refine vL ?_ | refine zB ?_ | refine qG ?_ | refine jBG ?_ | refine jAX ?_ | refine vR rfl ?_ | refine vX rfl ?_ | refine ⟨_,rfl,?_⟩ | refine ⟨⟨rfl,rfl⟩,?_⟩ | refine ⟨⟨rfl,Nat.le_of_ble_eq_true rfl⟩,?_⟩ | refine ⟨_,_,_,_,rfl,hn,rfl,rfl,?_⟩ | (refine ⟨_,_,rfl,⟨rfl,rfl⟩,?_⟩; try dsimp only [jU,List.set_cons_succ,List.set_cons_zero]) | (refine ⟨rfl,?_⟩; try dsimp only [jU,List.set_cons_succ,List.set_cons_zero]) | refine ⟨_,jFR (jCE hn) rfl,?_⟩ | refine ⟨_,eq,?_⟩ | refine ⟨_,yAW (by decide),?_⟩ | refine ⟨_,jTQ (by decide),?_⟩))
     refine ⟨_,some _,⟨ns,i+1,q,_,t,rfl,by omega,by omega,(fin (by decide)).1,(fin (by decide)).2⟩,rfl⟩
    ·(repeat (first | refine jQ rfl ?_ | refine p_c ?_ | refine yC ?_ | refine jP ?_ | refine yF ?_ | refine yS ?_ | refine zK ?_ | refine uI ?_ | refine vM ?_ | refine uO ?_ | refine jAW ?_ | refine qT ?_ | refine uW ?_ | refine wA ?_ | refine uU ?_ | refine zE ?_ | refine wU ?_ | refine jBH ?_ | refine kE ?_ | refine zN ?_ | refine kW ?_ | refine qU ?_ | refine yP ?_ | refine zF ?_ | refine ⟨⟨⟨rfl,rfl⟩,rfl,rfl⟩,⟨rfl,rfl⟩,?_⟩ | refine qD ?_ | refine jCW ?_ | refine vQ ?_ | refine vY ?_ | refine vL ?_ | refine zB ?_ | refine qG ?_ | refine jBG ?_ | refine jAX ?_ | refine vR rfl ?_ | refine vX rfl ?_ | refine ⟨_,rfl,?_⟩ | refine ⟨⟨rfl,rfl⟩,?_⟩ | refine ⟨⟨rfl,Nat.le_of_ble_eq_true rfl⟩,?_⟩ | refine ⟨_,_,_,_,rfl,hn,rfl,rfl,?_⟩ | (refine ⟨_,_,rfl,⟨rfl,rfl⟩,?_⟩; try dsimp only [jU,List.set_cons_succ,List.set_cons_zero]) | (refine ⟨rfl,?_⟩; try dsimp only [jU,List.set_cons_succ,List.set_cons_zero]) | refine ⟨_,jFR (jCE hn) rfl,?_⟩ | refine ⟨_,eq,?_⟩ | refine ⟨_,yAW (by decide),?_⟩ | refine ⟨_,jTQ (by decide),?_⟩))
     refine ⟨_,some _,⟨ns,i+1,0,_,t,rfl,by omega,by omega,(fin (by decide)).1,(fin (by decide)).2⟩,rfl⟩
   ·(repeat (first | refine jQ rfl ?_ | refine p_c ?_ | refine yC ?_ | refine jP ?_ | refine yF ?_ | refine yS ?_ | refine zK ?_ | refine uI ?_ | refine vM ?_ | refine uO ?_ | refine jAW ?_ | refine qT ?_ | refine uW ?_ | refine wA ?_ | refine uU ?_ | refine zE ?_ | refine wU ?_ | refine jBH ?_ | refine kE ?_ | refine zN ?_ | refine kW ?_ | refine qU ?_ | refine yP ?_ | refine zF ?_ | refine ⟨⟨⟨rfl,rfl⟩,rfl,rfl⟩,⟨rfl,rfl⟩,?_⟩ | refine qD ?_ | refine jCW ?_ | refine vQ ?_ | refine vY ?_ | refine vL ?_ | refine zB ?_ | refine qG ?_ | refine jBG ?_ | refine jAX ?_ | refine vR rfl ?_ | refine vX rfl ?_ | refine ⟨_,rfl,?_⟩ | refine ⟨⟨rfl,rfl⟩,?_⟩ | refine ⟨⟨rfl,Nat.le_of_ble_eq_true rfl⟩,?_⟩ | refine ⟨_,_,_,_,rfl,hn,rfl,rfl,?_⟩ | (refine ⟨_,_,rfl,⟨rfl,rfl⟩,?_⟩; try dsimp only [jU,List.set_cons_succ,List.set_cons_zero]) | (refine ⟨rfl,?_⟩; try dsimp only [jU,List.set_cons_succ,List.set_cons_zero])))
    exact ⟨_,none,⟨ns,i,c,sd,t,rfl,h1,h2,h3,h4⟩,rfl⟩
  ·(repeat (first | refine jQ rfl ?_ | refine p_c ?_ | refine yC ?_ | refine jP ?_ | refine yF ?_ | refine yS ?_ | refine zK ?_ | refine uI ?_ | refine vM ?_ | refine uO ?_ | refine jAW ?_ | refine qT ?_ | refine uW ?_ | refine wA ?_ | refine uU ?_ | refine zE ?_ | refine wU ?_ | refine jBH ?_ | refine kE ?_ | refine zN ?_ | refine kW ?_ | refine qU ?_ | refine yP ?_ | refine zF ?_ | refine ⟨⟨⟨rfl,rfl⟩,rfl,rfl⟩,⟨rfl,rfl⟩,?_⟩ | refine qD ?_ | refine jCW ?_ | refine vQ ?_ | refine vY ?_ | refine vL ?_ | refine zB ?_ | refine qG ?_ | refine jBG ?_ | refine jAX ?_ | refine vR rfl ?_ | refine vX rfl ?_ | refine ⟨_,rfl,?_⟩ | refine ⟨⟨rfl,rfl⟩,?_⟩ | refine ⟨⟨rfl,Nat.le_of_ble_eq_true rfl⟩,?_⟩ | refine ⟨_,_,_,_,rfl,hn,rfl,rfl,?_⟩ | (refine ⟨_,_,rfl,⟨rfl,rfl⟩,?_⟩; try dsimp only [jU,List.set_cons_succ,List.set_cons_zero]) | (refine ⟨rfl,?_⟩; try dsimp only [jU,List.set_cons_succ,List.set_cons_zero])))
   exact ⟨_,none,⟨ns,i,c,sd,t,rfl,h1,h2,h3,h4⟩,rfl⟩
 ·rintro fl s1 ⟨rfl,l',x,⟨ns,i,c,sd,t,rfl,h1,h2,h3,h4⟩,rfl⟩
  dsimp only
  (repeat (first | refine jQ rfl ?_ | refine p_c ?_ | refine yC ?_ | refine jP ?_ | refine yF ?_ | refine yS ?_ | refine zK ?_ | refine uI ?_ | refine vM ?_ | refine uO ?_ | refine jAW ?_ | refine qT ?_ | refine uW ?_ | refine wA ?_ | refine uU ?_ | refine zE ?_ | refine wU ?_ | refine jBH ?_ | refine kE ?_ | refine zN ?_ | refine kW ?_ | refine qU ?_ | refine yP ?_ | refine zF ?_ | refine ⟨⟨⟨rfl,rfl⟩,rfl,rfl⟩,⟨rfl,rfl⟩,?_⟩ | refine qD ?_ | refine jCW ?_ | refine vQ ?_ | refine vY ?_ | refine vL ?_ | refine zB ?_ | refine qG ?_ | refine jBG ?_ | refine jAX ?_ | refine vR rfl ?_ | refine vX rfl ?_ | refine ⟨_,rfl,?_⟩ | refine ⟨⟨rfl,rfl⟩,?_⟩ | refine ⟨⟨rfl,Nat.le_of_ble_eq_true rfl⟩,?_⟩ | refine ⟨_,_,_,_,rfl,hn,rfl,rfl,?_⟩ | (refine ⟨_,_,rfl,⟨rfl,rfl⟩,?_⟩; try dsimp only [jU,List.set_cons_succ,List.set_cons_zero]) | (refine ⟨rfl,?_⟩; try dsimp only [jU,List.set_cons_succ,List.set_cons_zero]) | refine ⟨_,jFR (jCE hn) rfl,?_⟩))
  refine zW (fun hc=>?_) fun hc=>?_
  ·have hc:(0:Int) < c:=of_decide_eq_true hc
   (repeat (first | refine jQ rfl ?_ | refine p_c ?_ | refine yC ?_ | refine jP ?_ | refine yF ?_ | refine yS ?_ | refine zK ?_ | refine uI ?_ | refine vM ?_ | refine uO ?_ | refine jAW ?_ | refine qT ?_ | refine uW ?_ | refine wA ?_ | refine uU ?_ | refine zE ?_ | refine wU ?_ | refine jBH ?_ | refine kE ?_ | refine zN ?_ | refine kW ?_ | refine qU ?_ | refine yP ?_ | refine zF ?_ | refine ⟨⟨⟨rfl,rfl⟩,rfl,rfl⟩,⟨rfl,rfl⟩,?_⟩ | refine qD ?_ | refine jCW ?_ | refine vQ ?_ | refine vY ?_ | refine vL ?_ | refine zB ?_ | refine qG ?_ | refine jBG ?_ | refine jAX ?_ | refine vR rfl ?_ | refine vX rfl ?_ | refine ⟨_,rfl,?_⟩ | refine ⟨⟨rfl,rfl⟩,?_⟩ | refine ⟨⟨rfl,Nat.le_of_ble_eq_true rfl⟩,?_⟩ | refine ⟨_,_,_,_,rfl,hn,rfl,rfl,?_⟩ | (refine ⟨_,_,rfl,⟨rfl,rfl⟩,?_⟩; try dsimp only [jU,List.set_cons_succ,List.set_cons_zero]) | (refine ⟨rfl,?_⟩; try dsimp only [jU,List.set_cons_succ,List.set_cons_zero]) | refine ⟨_,jFR (jCE hn) rfl,?_⟩ | refine ⟨_,jTQ (by omega),?_⟩ | refine ⟨_,yJX (by omega) (by omega),?_⟩))
   refine ⟨_,_,rfl,(jHE (by omega)).1,(jHE (by omega)).2,⟨ns,i,_,sd,t,rfl,h1,?_,h3,h4⟩,rfl⟩
   exact Int.fdiv_nonneg (by omega) (by omega)
  ·(repeat (first | refine jQ rfl ?_ | refine p_c ?_ | refine yC ?_ | refine jP ?_ | refine yF ?_ | refine yS ?_ | refine zK ?_ | refine uI ?_ | refine vM ?_ | refine uO ?_ | refine jAW ?_ | refine qT ?_ | refine uW ?_ | refine wA ?_ | refine uU ?_ | refine zE ?_ | refine wU ?_ | refine jBH ?_ | refine kE ?_ | refine zN ?_ | refine kW ?_ | refine qU ?_ | refine yP ?_ | refine zF ?_ | refine ⟨⟨⟨rfl,rfl⟩,rfl,rfl⟩,⟨rfl,rfl⟩,?_⟩ | refine qD ?_ | refine jCW ?_ | refine vQ ?_ | refine vY ?_ | refine vL ?_ | refine zB ?_ | refine qG ?_ | refine jBG ?_ | refine jAX ?_ | refine vR rfl ?_ | refine vX rfl ?_ | refine ⟨_,rfl,?_⟩ | refine ⟨⟨rfl,rfl⟩,?_⟩ | refine ⟨⟨rfl,Nat.le_of_ble_eq_true rfl⟩,?_⟩ | refine ⟨_,_,_,_,rfl,hn,rfl,rfl,?_⟩ | (refine ⟨_,_,rfl,⟨rfl,rfl⟩,?_⟩; try dsimp only [jU,List.set_cons_succ,List.set_cons_zero]) | (refine ⟨rfl,?_⟩; try dsimp only [jU,List.set_cons_succ,List.set_cons_zero]) | refine ⟨_,jFR (jCE hn) rfl,?_⟩ | refine ⟨_,jTQ (by omega),?_⟩ | refine ⟨_,yJX (by omega) (by omega),?_⟩ | refine ⟨_,yUO (by omega),?_⟩ | refine ⟨_,yAW (by omega),?_⟩))
   exact ⟨_,_,rfl,(jHE (by omega)).1,(jHE (by omega)).2,⟨ns,i,c,_,_,rfl,h1,h2,(jHE (by decide)).1,(jHE (by decide)).2⟩,rfl⟩
end
end Lp
set_option maxHeartbeats 4000000
namespace Lp
open PySem PySem.Spec PyProof.Rows L2
noncomputable def yVC:MS:=(vO (jM fIx (jG 1) (yL 2 jPT (jE (jG 0) (jE (eCB vP (jE (jG 1) jO)) jO)))))
noncomputable def yRN:MS:=(yX (jJ fIx (jF 1) (yD 2 jPT (jC (jF 0) (jC (xECB vP (jC (jF 1) jK)) jK)))))
theorem yQZ:yVC=yRN:=by kernel_rfl
@[irreducible] noncomputable def ofM:MF:=mkF 0 yVC
def BagAt (h:AH) (n:Nat) (h':AH):Prop:=∃ l,Bag l∧h'=h.set n (some (.lst l))
section
theorem jME {h h1:AH} {n:Nat} (hn:n < h.length) (b:BagAt h n h1) {k:Int} (hk:1≤k) (hk2:k < 1073741824):(jPT [.cel n,.int k] h1).post (fun v h'=>(∃ d,v=.int d∧0≤d∧d < k)∧BagAt h n h') NE:=by
 obtain ⟨l,b,rfl⟩:=b
 exact p_mono (yGY hn b hk hk2) (fun v h' ⟨d,l',e,h1,h2,b,e'⟩=>⟨⟨d,e,h1,h2⟩,l',b,e'⟩) fun _ _ z=>z
theorem yKF {α:Type} {xs:List α} {d:Int} (h0:0≤d) (h1:d < xs.length):∃ x,atI xs d=some x∧x∈xs:=by
 unfold atI ixN
 rw [if_pos h0,if_pos h1]
 have:d.toNat < xs.length:=by omega
 exact ⟨xs[d.toNat],by show xs[d.toNat]?=_; exact List.getElem?_eq_getElem this,List.getElem_mem this⟩
theorem yPS {h:AH} {xs:List PV} {i:Int}:fIx h (.lst xs) (.int i)=atI xs i:=rfl
theorem yER {h:AH} {xs:List PV} {i:Int}:fIx h (.tup xs) (.int i)=atI xs i:=rfl
theorem yPR {h:AH} {x:Str} {i:Int}:fIx h (.str x) (.int i)=(atI x.cps.toList i).map fun c=>.str ⟨#[c]⟩:=rfl
theorem yAQ {h h1:AH} {n:Nat} (hn:n < h.length) (b:BagAt h n h1) {xs:List PV} (h0:1≤xs.length) (h2:xs.length < 1073741824) (hs:uB xs=true) :
  (ofM [.cel n,.lst xs] h1).post (fun v h'=>v∈xs∧BagAt h n h') NE:=by
 unfold ofM
 rw [yQZ]
 unfold yRN
 refine wV [some (.cel n),some (.lst xs)] rfl ?_
 (repeat (first | refine jQ rfl ?_ | refine p_c ?_ | refine yC ?_ | refine jP ?_ | refine yF ?_ | refine yS ?_ | refine zK ?_ | refine uI ?_ | refine vM ?_ | refine uO ?_ | refine jAW ?_ | refine qT ?_ | refine uW ?_ | refine wA ?_ | refine uU ?_ | refine zE ?_ | refine wU ?_ | refine jBH ?_ | refine kE ?_ | refine zN ?_ | refine kW ?_ | refine qU ?_ | refine yP ?_ | refine zF ?_ | refine ⟨⟨⟨rfl,rfl⟩,rfl,rfl⟩,⟨rfl,rfl⟩,?_⟩ | refine qD ?_ | refine jCW ?_ | refine vQ ?_ | refine vY ?_ | refine vL ?_ | refine zB ?_ | refine qG ?_ | refine jBG ?_ | refine jAX ?_ | refine vR rfl ?_ | refine vX rfl ?_ | refine ⟨_,rfl,?_⟩ | refine ⟨⟨rfl,rfl⟩,?_⟩ | refine ⟨⟨rfl,Nat.le_of_ble_eq_true rfl⟩,?_⟩ | refine ⟨_,_,_,_,rfl,hn,rfl,rfl,?_⟩ | (refine ⟨_,_,rfl,⟨rfl,rfl⟩,?_⟩; try dsimp only [jU,List.set_cons_succ,List.set_cons_zero]) | (refine ⟨rfl,?_⟩; try dsimp only [jU,List.set_cons_succ,List.set_cons_zero])))
 refine jX (jME hn b (k:=(xs.length:Int)) (by omega) (by omega)) fun v h' ⟨⟨d,e,d0,d1⟩,b'⟩=>?_
 subst e
 obtain ⟨x,ex,hx⟩:=yKF (xs:=xs) d0 (by simpa using d1)
 refine ⟨x,ex,?_,hx,b'⟩
 unfold uB at hs
 have:=List.all_eq_true.mp hs x hx
 simpa using this
theorem yTS {h h1:AH} {n:Nat} (hn:n < h.length) (b:BagAt h n h1) {x:Str} (h0:1≤x.length) (h2:x.length < 1073741824) :
  (ofM [.cel n,.str x] h1).post (fun v h'=>(∃ c∈x.cps.toList,v=.str ⟨#[c]⟩)∧BagAt h n h') NE:=by
 unfold ofM
 rw [yQZ]
 unfold yRN
 refine wV [some (.cel n),some (.str x)] rfl ?_
 (repeat (first | refine jQ rfl ?_ | refine p_c ?_ | refine yC ?_ | refine jP ?_ | refine yF ?_ | refine yS ?_ | refine zK ?_ | refine uI ?_ | refine vM ?_ | refine uO ?_ | refine jAW ?_ | refine qT ?_ | refine uW ?_ | refine wA ?_ | refine uU ?_ | refine zE ?_ | refine wU ?_ | refine jBH ?_ | refine kE ?_ | refine zN ?_ | refine kW ?_ | refine qU ?_ | refine yP ?_ | refine zF ?_ | refine ⟨⟨⟨rfl,rfl⟩,rfl,rfl⟩,⟨rfl,rfl⟩,?_⟩ | refine qD ?_ | refine jCW ?_ | refine vQ ?_ | refine vY ?_ | refine vL ?_ | refine zB ?_ | refine qG ?_ | refine jBG ?_ | refine jAX ?_ | refine vR rfl ?_ | refine vX rfl ?_ | refine ⟨_,rfl,?_⟩ | refine ⟨⟨rfl,rfl⟩,?_⟩ | refine ⟨⟨rfl,Nat.le_of_ble_eq_true rfl⟩,?_⟩ | refine ⟨_,_,_,_,rfl,hn,rfl,rfl,?_⟩ | (refine ⟨_,_,rfl,⟨rfl,rfl⟩,?_⟩; try dsimp only [jU,List.set_cons_succ,List.set_cons_zero]) | (refine ⟨rfl,?_⟩; try dsimp only [jU,List.set_cons_succ,List.set_cons_zero])))
 refine jX (jME hn b (k:=(x.length:Int)) (by omega) (by omega)) fun v h' ⟨⟨d,e,d0,d1⟩,b'⟩=>?_
 subst e
 obtain ⟨c,ec,hc⟩:=yKF (xs:=x.cps.toList) d0 (by simpa [Str.length] using d1)
 refine ⟨.str ⟨#[c]⟩,by rw [yPR,ec]; rfl,rfl,⟨c,hc,rfl⟩,b'⟩
end
end Lp
set_option maxHeartbeats 4000000
namespace Lp
open PySem PySem.Spec PyProof.Rows L2
def Pl:PV→Prop
 | .non=>True
 | .bl _=>True
 | .int _=>True
 | .str _=>True
 | .tup _=>True
 | .lst _=>True
 | _=>False
def tyP:PV→BT
 | .non=>.non
 | .bl _=>.bl
 | .int _=>.int
 | .str _=>.str
 | .tup _=>.tup
 | _=>.lst
theorem yRS {v:PV} (p:Pl v) (h:AH):tyN h v=some (tyP v):=by cases v <;> first | rfl | exact p.elim
theorem qP {v:PV} (p:Pl v):isOwn v=false:=by cases v <;> first | rfl | exact p.elim
theorem jOQ {h:AH} {v:PV} {u:BT} {n:String} (p:Pl v) (e2:BT.of n=some u):wQ h [v,.ty n]=some (.bl (subT (tyP v) u)):=by
 show ((tyN h v).bind fun t=>(BT.of n).map fun u=>PV.bl (subT t u))=_
 rw [yRS p,e2]; rfl
theorem jER {α:Type} {xs:List α} {j:Nat} {x:α} (e:xs[j]?=some x):xs.take (j+1)=xs.take j++[x]:=by
 obtain ⟨h,rfl⟩:=List.getElem?_eq_some_iff.mp e
 rw [List.take_succ,List.getElem?_eq_getElem h]; rfl
theorem yMB (bs:List Bool):(bs.map PV.bl).mapM yFJ=some bs:=by
 induction bs with
 | nil=>rfl
 | cons b bs ih=>rw [List.map_cons,List.mapM_cons,ih]; rfl
theorem yFB {h:AH} (bs:List Bool):jKG h [.lst (bs.map PV.bl)]=some (.bl (bs.all fun b=>b)):=by
 show ((bs.map PV.bl).mapM yFJ).map _=_
 rw [yMB]; rfl
theorem all_map {h:AH} {xs:List PV} (f:PV→Bool):jKG h [.lst (xs.map fun v=>.bl (f v))]=some (.bl ((xs.map f).all fun b=>b)):=by
 rw [show (xs.map fun v=>PV.bl (f v))=(xs.map f).map PV.bl by rw [List.map_map]; rfl]
 exact yFB _
section
variable {PA:List PV→S→Prop} {E:PV→S→Prop} {s:S}
theorem jBD {src:S→R S Sr} {t:Tg} {te:ME} {vs:List Nat}
  (h:(src s).post (fun r s1=>r.w=[]∧∃ f:PV→PV,(∀ v∈r.xs,∃ e1,qK t v (jU s1.e vs)=some e1∧(te ⟨e1,s1.h⟩).post (fun y s3=>y=f v∧isOwn y=false∧jU s3.e vs=jU s1.e vs∧s3.h=s1.h) NE)∧PA (r.xs.map f) ⟨jU s1.e vs,s1.h⟩) E) :
  (vI src t uR te vs s).post PA E:=by
 refine jPI (p_mono h (fun r s1 ⟨hw,f,hs,hn⟩=>⟨hw,fun j acc h=>acc=(r.xs.take j).map f∧h=s1.h,⟨rfl,rfl⟩,fun j v acc h e ⟨i1,i2⟩=>?_,fun acc h ⟨i1,i2⟩=>?_⟩) fun _ _ z=>z)
 ·obtain ⟨e1,eb,q⟩:=hs v (List.mem_of_getElem? e)
  subst i2
  refine ⟨e1,eb,yRM (vR rfl (p_mono q (fun y s3 ⟨ey,o,w,eh⟩=>⟨o,w,?_,eh⟩) fun _ _ z=>z))⟩
  rw [jER e,List.map_append,i1,ey]; rfl
 ·rw [i1,i2,List.take_length]; exact hn
end
end Lp
set_option maxHeartbeats 4000000
namespace Lp
open PySem PySem.Spec PyProof.Rows L2
@[irreducible] def jFB (m:MA):S→R S Sr:=jKK m
@[irreducible] def yHX (m:MA):S→R S Sr:=yND m
noncomputable def yDA (m:MF):MS:=(yN (sIf (tM (eCB wQ (jE (jG 1) (jE (jAU (jE (eC (.ty "list")) (jE (eC (.ty "tuple")) jO))) jO)))) (yN (sIf (orM (bM (jM fNe (eCB wQ (jE (jG 0) (jE (eC (.ty "list")) jO))) (eCB wQ (jE (jG 1) (jE (eC (.ty "list")) jO))))) (bM (jM fNe (eCB wQ (jE (jG 0) (jE (eC (.ty "tuple")) jO))) (eCB wQ (jE (jG 1) (jE (eC (.ty "tuple")) jO)))))) (vO (eC (.bl false))) wY)
 (vO (jGK (jM fEq (eCB vP (jE (jG 0) jO)) (eCB vP (jE (jG 1) jO))) (eCB jKG (jE (shN (zG (yND (jE (jG 0) (jE (jG 1) jO))) (.t [(.n 2),(.n 3)]) uR (yL 2 m (jE (jG 2) (jE (jG 3) jO))) [2,3])) jO))))) wY)
 (yN (sIf (orM (bM (jM jAL (jG 1) (eC .non))) (bM (jM jAL (jG 0) (eC .non)))) (vO (jGK (jM jAL (jG 1) (eC .non)) (jM jAL (jG 0) (eC .non)))) wY)
 (yN (sIf (orM (bM (jM fNe (eCB wQ (jE (jG 0) (jE (eC (.ty "bool")) jO))) (eCB wQ (jE (jG 1) (jE (eC (.ty "bool")) jO))))) (bM (jM fNe (eCB wQ (jE (jG 0) (jE (eC (.ty "int")) jO))) (eCB wQ (jE (jG 1) (jE (eC (.ty "int")) jO)))))) (vO (eC (.bl false))) wY)
 (vO (jGK (jM fEq (eCB wQ (jE (jG 0) (jE (eC (.ty "str")) jO))) (eCB wQ (jE (jG 1) (jE (eC (.ty "str")) jO)))) (jM fEq (jG 0) (jG 1)))))))
noncomputable def yIG (m:MF):MS:=(yG (jAK (xTM (xECB wQ (jC (jF 1) (jC (zU (jC (xEC (.ty "list")) (jC (xEC (.ty "tuple")) jK))) jK)))) (yG (jAK (jDK (xBM (jJ fNe (xECB wQ (jC (jF 0) (jC (xEC (.ty "list")) jK))) (xECB wQ (jC (jF 1) (jC (xEC (.ty "list")) jK))))) (xBM (jJ fNe (xECB wQ (jC (jF 0) (jC (xEC (.ty "tuple")) jK))) (xECB wQ (jC (jF 1) (jC (xEC (.ty "tuple")) jK)))))) (yX (xEC (.bl false))) zH)
 (yX (jDI (jJ fEq (xECB vP (jC (jF 0) jK)) (xECB vP (jC (jF 1) jK))) (xECB jKG (jC (jCY (vI (yHX (jC (jF 0) (jC (jF 1) jK))) (.t [(.n 2),(.n 3)]) uR (yD 2 m (jC (jF 2) (jC (jF 3) jK))) [2,3])) jK))))) zH)
 (yG (jAK (jDK (xBM (jJ jAL (jF 1) (xEC .non))) (xBM (jJ jAL (jF 0) (xEC .non)))) (yX (jDI (jJ jAL (jF 1) (xEC .non)) (jJ jAL (jF 0) (xEC .non)))) zH)
 (yG (jAK (jDK (xBM (jJ fNe (xECB wQ (jC (jF 0) (jC (xEC (.ty "bool")) jK))) (xECB wQ (jC (jF 1) (jC (xEC (.ty "bool")) jK))))) (xBM (jJ fNe (xECB wQ (jC (jF 0) (jC (xEC (.ty "int")) jK))) (xECB wQ (jC (jF 1) (jC (xEC (.ty "int")) jK)))))) (yX (xEC (.bl false))) zH)
 (yX (jDI (jJ fEq (xECB wQ (jC (jF 0) (jC (xEC (.ty "str")) jK))) (xECB wQ (jC (jF 1) (jC (xEC (.ty "str")) jK)))) (jJ fEq (jF 0) (jF 1)))))))
theorem yEF (m:MF):yDA m=yIG m:=by kernel_rfl
noncomputable def yAS:Nat→MF
 | 0=>fun _ _=>.bad
 | n+1=>mkF 2 (yDA (yAS n))
@[irreducible] noncomputable def jWR (n:Nat):MF:=yAS n
def DPl:Nat→PV→Prop
 | _,.non=>True
 | _,.bl _=>True
 | _,.int _=>True
 | _,.str _=>True
 | n+1,.tup xs=>∀ x∈xs,DPl n x
 | n+1,.lst xs=>∀ x∈xs,DPl n x
 | _,_=>False
def yRO:Nat→PV→Bool
 | _,.non=>true
 | _,.bl _=>true
 | _,.int _=>true
 | _,.str _=>true
 | n+1,.tup xs=>xs.all (yRO n)
 | n+1,.lst xs=>xs.all (yRO n)
 | _,_=>false
theorem jTS:∀ {n:Nat} {v:PV},yRO n v=true→DPl n v
 | 0,v,h=>by cases v <;> first | trivial | cases h
 | n+1,v,h=>by
  cases v with
  | tup xs=>exact fun x hx=>jTS (List.all_eq_true.mp h x hx)
  | lst xs=>exact fun x hx=>jTS (List.all_eq_true.mp h x hx)
  | _=>first | trivial | cases h
theorem DPl.pl:∀ {n:Nat} {v:PV},DPl n v→Pl v:=fun {n v} h=>by
 cases n <;> cases v <;> first | trivial | exact h.elim
theorem jHF (x y:Str):PyData.eqv (.str x) (.str y)=decide (x=y):=by
 first | rfl | (simp [PyData.eqv]; done) | (show (x == y)=_; rfl)
theorem yMK (x y:Bool):PyData.eqv (.bool x) (.bool y)=decide (x=y):=by
 cases x <;> cases y <;> rfl
section
variable {P:PV→S→Prop} {PS:Sr→S→Prop} {E:PV→S→Prop} {s:S} {ma:MA}
theorem yQX (h:(ma s).post (fun vs s1=>(∃ xs ys,vs=[.tup xs,.tup ys]∧PS ⟨jIO xs ys,[],false⟩ s1)∨∃ xs ys,vs=[.lst xs,.lst ys]∧PS ⟨jIO xs ys,[],false⟩ s1) E):(yHX ma s).post PS E:=by
 unfold yHX
 exact yK (p_mono h (fun vs s1 q=>by
  rcases q with ⟨xs,ys,rfl,q⟩ | ⟨xs,ys,rfl,q⟩
  ·exact q
  ·exact q) fun _ _ z=>z)
theorem jIT (h:(ma s).post (fun vs s1=>∃ j,vs=[.int j]∧j.natAbs≤16777216∧PS ⟨(List.range j.toNat).map fun (k:Nat)=>.int k,[],false⟩ s1) E):(jFB ma s).post PS E:=by
 unfold jFB
 exact yK (p_mono h (fun vs s1 ⟨j,e,hj,q⟩=>by subst e; simp only [if_pos hj]; exact q) fun _ _ z=>z)
theorem zip_self {xs:List PV} {v:PV} (h:v∈jIO xs xs):∃ x∈xs,v=.tup [x,x]:=by
 unfold jIO at h
 induction xs with
 | nil=>cases h
 | cons y ys ih =>
  rw [List.zipWith_cons_cons] at h
  rcases List.mem_cons.mp h with h | h
  ·exact ⟨y,by simp,h⟩
  ·obtain ⟨x,hx,e⟩:=ih h
   exact ⟨x,List.mem_cons_of_mem _ hx,e⟩
end
section
theorem jYZ {h:AH} (xs:List PV):jKG h [.lst (xs.map fun _=>PV.bl true)]=some (.bl true):=by
 rw [all_map fun _=>true]
 congr 2
 rw [List.all_eq_true]
 intro x hx
 obtain ⟨_,_,rfl⟩:=List.mem_map.mp hx
 rfl
theorem jMB {m:MF} {v:PV} {h:AH} (d:DPl 0 v):(mkF 2 (yDA m) [v,v] h).post (fun r h'=>r=.bl true∧h'=h) NE:=by
 rw [yEF]
 unfold yIG
 refine wV [some v,some v,none,none] rfl ?_
 cases v with
 | non=>(repeat (first | refine jQ rfl ?_ | refine p_c ?_ | refine yC ?_ | refine jP ?_ | refine yF ?_ | refine yS ?_ | refine zK ?_ | refine uI ?_ | refine vM ?_ | refine uO ?_ | refine jAW ?_ | refine qT ?_ | refine uW ?_ | refine wA ?_ | refine uU ?_ | refine zE ?_ | refine wU ?_ | refine jBH ?_ | refine kE ?_ | refine zN ?_ | refine kW ?_ | refine qU ?_ | refine yP ?_ | refine zF ?_ | refine ⟨⟨⟨rfl,rfl⟩,rfl,rfl⟩,⟨rfl,rfl⟩,?_⟩ | refine qD ?_ | refine jCW ?_ | refine vQ ?_ | refine vY ?_ | refine vL ?_ | refine zB ?_ | refine qG ?_ | refine jBG ?_ | refine jAX ?_ | refine vR rfl ?_ | refine vX rfl ?_ | refine ⟨_,rfl,?_⟩ | refine ⟨⟨rfl,rfl⟩,?_⟩ | refine ⟨⟨rfl,Nat.le_of_ble_eq_true rfl⟩,?_⟩ | refine ⟨_,_,_,_,rfl,hn,rfl,rfl,?_⟩ | (refine ⟨_,_,rfl,⟨rfl,rfl⟩,?_⟩; try dsimp only [jU,List.set_cons_succ,List.set_cons_zero]) | (refine ⟨rfl,?_⟩; try dsimp only [jU,List.set_cons_succ,List.set_cons_zero])))
 | bl b =>
  (repeat (first | refine jQ rfl ?_ | refine p_c ?_ | refine yC ?_ | refine jP ?_ | refine yF ?_ | refine yS ?_ | refine zK ?_ | refine uI ?_ | refine vM ?_ | refine uO ?_ | refine jAW ?_ | refine qT ?_ | refine uW ?_ | refine wA ?_ | refine uU ?_ | refine zE ?_ | refine wU ?_ | refine jBH ?_ | refine kE ?_ | refine zN ?_ | refine kW ?_ | refine qU ?_ | refine yP ?_ | refine zF ?_ | refine ⟨⟨⟨rfl,rfl⟩,rfl,rfl⟩,⟨rfl,rfl⟩,?_⟩ | refine qD ?_ | refine jCW ?_ | refine vQ ?_ | refine vY ?_ | refine vL ?_ | refine zB ?_ | refine qG ?_ | refine jBG ?_ | refine jAX ?_ | refine vR rfl ?_ | refine vX rfl ?_ | refine ⟨_,rfl,?_⟩ | refine ⟨⟨rfl,rfl⟩,?_⟩ | refine ⟨⟨rfl,Nat.le_of_ble_eq_true rfl⟩,?_⟩ | refine ⟨_,_,_,_,rfl,hn,rfl,rfl,?_⟩ | (refine ⟨_,_,rfl,⟨rfl,rfl⟩,?_⟩; try dsimp only [jU,List.set_cons_succ,List.set_cons_zero]) | (refine ⟨rfl,?_⟩; try dsimp only [jU,List.set_cons_succ,List.set_cons_zero])))
  exact ⟨by rw [yMK,decide_eq_true rfl],rfl⟩
 | int i =>
  (repeat (first | refine jQ rfl ?_ | refine p_c ?_ | refine yC ?_ | refine jP ?_ | refine yF ?_ | refine yS ?_ | refine zK ?_ | refine uI ?_ | refine vM ?_ | refine uO ?_ | refine jAW ?_ | refine qT ?_ | refine uW ?_ | refine wA ?_ | refine uU ?_ | refine zE ?_ | refine wU ?_ | refine jBH ?_ | refine kE ?_ | refine zN ?_ | refine kW ?_ | refine qU ?_ | refine yP ?_ | refine zF ?_ | refine ⟨⟨⟨rfl,rfl⟩,rfl,rfl⟩,⟨rfl,rfl⟩,?_⟩ | refine qD ?_ | refine jCW ?_ | refine vQ ?_ | refine vY ?_ | refine vL ?_ | refine zB ?_ | refine qG ?_ | refine jBG ?_ | refine jAX ?_ | refine vR rfl ?_ | refine vX rfl ?_ | refine ⟨_,rfl,?_⟩ | refine ⟨⟨rfl,rfl⟩,?_⟩ | refine ⟨⟨rfl,Nat.le_of_ble_eq_true rfl⟩,?_⟩ | refine ⟨_,_,_,_,rfl,hn,rfl,rfl,?_⟩ | (refine ⟨_,_,rfl,⟨rfl,rfl⟩,?_⟩; try dsimp only [jU,List.set_cons_succ,List.set_cons_zero]) | (refine ⟨rfl,?_⟩; try dsimp only [jU,List.set_cons_succ,List.set_cons_zero])))
  exact ⟨by rw [jCC,decide_eq_true rfl],rfl⟩
 | str x =>
  (repeat (first | refine jQ rfl ?_ | refine p_c ?_ | refine yC ?_ | refine jP ?_ | refine yF ?_ | refine yS ?_ | refine zK ?_ | refine uI ?_ | refine vM ?_ | refine uO ?_ | refine jAW ?_ | refine qT ?_ | refine uW ?_ | refine wA ?_ | refine uU ?_ | refine zE ?_ | refine wU ?_ | refine jBH ?_ | refine kE ?_ | refine zN ?_ | refine kW ?_ | refine qU ?_ | refine yP ?_ | refine zF ?_ | refine ⟨⟨⟨rfl,rfl⟩,rfl,rfl⟩,⟨rfl,rfl⟩,?_⟩ | refine qD ?_ | refine jCW ?_ | refine vQ ?_ | refine vY ?_ | refine vL ?_ | refine zB ?_ | refine qG ?_ | refine jBG ?_ | refine jAX ?_ | refine vR rfl ?_ | refine vX rfl ?_ | refine ⟨_,rfl,?_⟩ | refine ⟨⟨rfl,rfl⟩,?_⟩ | refine ⟨⟨rfl,Nat.le_of_ble_eq_true rfl⟩,?_⟩ | refine ⟨_,_,_,_,rfl,hn,rfl,rfl,?_⟩ | (refine ⟨_,_,rfl,⟨rfl,rfl⟩,?_⟩; try dsimp only [jU,List.set_cons_succ,List.set_cons_zero]) | (refine ⟨rfl,?_⟩; try dsimp only [jU,List.set_cons_succ,List.set_cons_zero])))
  exact ⟨by rw [jHF,decide_eq_true rfl],rfl⟩
 | _=>exact d.elim
theorem yEE {m:MF} {v:PV} {xs:List PV} {h:AH} (hv:v=.tup xs∨v=.lst xs) (hp:∀ x∈xs,Pl x) (ih:∀ x∈xs,(m [x,x] h).post (fun r h'=>r=.bl true∧h'=h) NE) :
  (mkF 2 (yDA m) [v,v] h).post (fun r h'=>r=.bl true∧h'=h) NE:=by
 have item:∀ (w:PV),w∈jIO xs xs→∀ (u:PV),Pl u→∃ e1,qK (.t [(.n 2),(.n 3)]) w (jU [some u,some u,none,none] [2,3])=some e1 ∧
   (yD 2 m (jC (jF 2) (jC (jF 3) jK)) ⟨e1,h⟩).post (fun y s3=>y=(fun _=>PV.bl true) w∧isOwn y=false∧jU s3.e [2,3]=jU [some u,some u,none,none] [2,3]∧s3.h=h) NE:=fun w hw u pu=>by
  obtain ⟨x,hx,rfl⟩:=zip_self hw
  have ox:isOwn x=false:=qP (hp x hx)
  refine ⟨[some u,some u,some x,some x],by simp [qK,bindTs,jU,ox],?_⟩
  (repeat (first | refine jQ rfl ?_ | refine p_c ?_ | refine yC ?_ | refine jP ?_ | refine yF ?_ | refine yS ?_ | refine zK ?_ | refine uI ?_ | refine vM ?_ | refine uO ?_ | refine jAW ?_ | refine qT ?_ | refine uW ?_ | refine wA ?_ | refine uU ?_ | refine zE ?_ | refine wU ?_ | refine jBH ?_ | refine kE ?_ | refine zN ?_ | refine kW ?_ | refine qU ?_ | refine yP ?_ | refine zF ?_ | refine ⟨⟨⟨rfl,rfl⟩,rfl,rfl⟩,⟨rfl,rfl⟩,?_⟩ | refine qD ?_ | refine jCW ?_ | refine vQ ?_ | refine vY ?_ | refine vL ?_ | refine zB ?_ | refine qG ?_ | refine jBG ?_ | refine jAX ?_ | refine vR rfl ?_ | refine vX rfl ?_ | refine ⟨_,rfl,?_⟩ | refine ⟨⟨rfl,rfl⟩,?_⟩ | refine ⟨⟨rfl,Nat.le_of_ble_eq_true rfl⟩,?_⟩ | refine ⟨_,_,_,_,rfl,hn,rfl,rfl,?_⟩ | (refine ⟨_,_,rfl,⟨rfl,rfl⟩,?_⟩; try dsimp only [jU,List.set_cons_succ,List.set_cons_zero]) | (refine ⟨rfl,?_⟩; try dsimp only [jU,List.set_cons_succ,List.set_cons_zero]) | refine ⟨⟨rfl,by simp [uB,ox]⟩,jX (ih x hx) fun r h' z=>?_⟩))
  obtain ⟨rfl,rfl⟩:=z
  exact ⟨rfl,rfl,rfl,rfl⟩
 rw [yEF]
 unfold yIG
 refine wV [some v,some v,none,none] rfl ?_
 rcases hv with rfl | rfl
 ·(repeat (first | refine jQ rfl ?_ | refine p_c ?_ | refine yC ?_ | refine jP ?_ | refine yF ?_ | refine yS ?_ | refine zK ?_ | refine uI ?_ | refine vM ?_ | refine uO ?_ | refine jAW ?_ | refine qT ?_ | refine uW ?_ | refine wA ?_ | refine uU ?_ | refine zE ?_ | refine wU ?_ | refine jBH ?_ | refine kE ?_ | refine zN ?_ | refine kW ?_ | refine qU ?_ | refine yP ?_ | refine zF ?_ | refine ⟨⟨⟨rfl,rfl⟩,rfl,rfl⟩,⟨rfl,rfl⟩,?_⟩ | refine qD ?_ | refine jCW ?_ | refine vQ ?_ | refine vY ?_ | refine vL ?_ | refine zB ?_ | refine qG ?_ | refine jBG ?_ | refine jAX ?_ | refine vR rfl ?_ | refine vX rfl ?_ | refine ⟨_,rfl,?_⟩ | refine ⟨⟨rfl,rfl⟩,?_⟩ | refine ⟨⟨rfl,Nat.le_of_ble_eq_true rfl⟩,?_⟩ | refine ⟨_,_,_,_,rfl,hn,rfl,rfl,?_⟩ | (refine ⟨_,_,rfl,⟨rfl,rfl⟩,?_⟩; try dsimp only [jU,List.set_cons_succ,List.set_cons_zero]) | (refine ⟨rfl,?_⟩; try dsimp only [jU,List.set_cons_succ,List.set_cons_zero])))
  refine vR (by show PyData.eqv (.int _) (.int _)=true; rw [jCC,decide_eq_true rfl]) ?_
  (repeat (first | refine jQ rfl ?_ | refine p_c ?_ | refine yC ?_ | refine jP ?_ | refine yF ?_ | refine yS ?_ | refine zK ?_ | refine uI ?_ | refine vM ?_ | refine uO ?_ | refine jAW ?_ | refine qT ?_ | refine uW ?_ | refine wA ?_ | refine uU ?_ | refine zE ?_ | refine wU ?_ | refine jBH ?_ | refine kE ?_ | refine zN ?_ | refine kW ?_ | refine qU ?_ | refine yP ?_ | refine zF ?_ | refine ⟨⟨⟨rfl,rfl⟩,rfl,rfl⟩,⟨rfl,rfl⟩,?_⟩ | refine qD ?_ | refine jCW ?_ | refine vQ ?_ | refine vY ?_ | refine vL ?_ | refine zB ?_ | refine qG ?_ | refine jBG ?_ | refine jAX ?_ | refine vR rfl ?_ | refine vX rfl ?_ | refine ⟨_,rfl,?_⟩ | refine ⟨⟨rfl,rfl⟩,?_⟩ | refine ⟨⟨rfl,Nat.le_of_ble_eq_true rfl⟩,?_⟩ | refine ⟨_,_,_,_,rfl,hn,rfl,rfl,?_⟩ | (refine ⟨_,_,rfl,⟨rfl,rfl⟩,?_⟩; try dsimp only [jU,List.set_cons_succ,List.set_cons_zero]) | (refine ⟨rfl,?_⟩; try dsimp only [jU,List.set_cons_succ,List.set_cons_zero])))
  refine jBD (yQX (jP (jQ rfl (jP (jQ rfl (yF (.inl ⟨xs,xs,rfl,rfl,fun _=>.bl true,fun w hw=>item w hw _ trivial,?_⟩)))))))
  (repeat (first | refine jQ rfl ?_ | refine p_c ?_ | refine yC ?_ | refine jP ?_ | refine yF ?_ | refine yS ?_ | refine zK ?_ | refine uI ?_ | refine vM ?_ | refine uO ?_ | refine jAW ?_ | refine qT ?_ | refine uW ?_ | refine wA ?_ | refine uU ?_ | refine zE ?_ | refine wU ?_ | refine jBH ?_ | refine kE ?_ | refine zN ?_ | refine kW ?_ | refine qU ?_ | refine yP ?_ | refine zF ?_ | refine ⟨⟨⟨rfl,rfl⟩,rfl,rfl⟩,⟨rfl,rfl⟩,?_⟩ | refine qD ?_ | refine jCW ?_ | refine vQ ?_ | refine vY ?_ | refine vL ?_ | refine zB ?_ | refine qG ?_ | refine jBG ?_ | refine jAX ?_ | refine vR rfl ?_ | refine vX rfl ?_ | refine ⟨_,rfl,?_⟩ | refine ⟨⟨rfl,rfl⟩,?_⟩ | refine ⟨⟨rfl,Nat.le_of_ble_eq_true rfl⟩,?_⟩ | refine ⟨_,_,_,_,rfl,hn,rfl,rfl,?_⟩ | (refine ⟨_,_,rfl,⟨rfl,rfl⟩,?_⟩; try dsimp only [jU,List.set_cons_succ,List.set_cons_zero]) | (refine ⟨rfl,?_⟩; try dsimp only [jU,List.set_cons_succ,List.set_cons_zero]) | refine ⟨_,jYZ _,?_⟩))
 ·(repeat (first | refine jQ rfl ?_ | refine p_c ?_ | refine yC ?_ | refine jP ?_ | refine yF ?_ | refine yS ?_ | refine zK ?_ | refine uI ?_ | refine vM ?_ | refine uO ?_ | refine jAW ?_ | refine qT ?_ | refine uW ?_ | refine wA ?_ | refine uU ?_ | refine zE ?_ | refine wU ?_ | refine jBH ?_ | refine kE ?_ | refine zN ?_ | refine kW ?_ | refine qU ?_ | refine yP ?_ | refine zF ?_ | refine ⟨⟨⟨rfl,rfl⟩,rfl,rfl⟩,⟨rfl,rfl⟩,?_⟩ | refine qD ?_ | refine jCW ?_ | refine vQ ?_ | refine vY ?_ | refine vL ?_ | refine zB ?_ | refine qG ?_ | refine jBG ?_ | refine jAX ?_ | refine vR rfl ?_ | refine vX rfl ?_ | refine ⟨_,rfl,?_⟩ | refine ⟨⟨rfl,rfl⟩,?_⟩ | refine ⟨⟨rfl,Nat.le_of_ble_eq_true rfl⟩,?_⟩ | refine ⟨_,_,_,_,rfl,hn,rfl,rfl,?_⟩ | (refine ⟨_,_,rfl,⟨rfl,rfl⟩,?_⟩; try dsimp only [jU,List.set_cons_succ,List.set_cons_zero]) | (refine ⟨rfl,?_⟩; try dsimp only [jU,List.set_cons_succ,List.set_cons_zero])))
  refine vR (by show PyData.eqv (.int _) (.int _)=true; rw [jCC,decide_eq_true rfl]) ?_
  (repeat (first | refine jQ rfl ?_ | refine p_c ?_ | refine yC ?_ | refine jP ?_ | refine yF ?_ | refine yS ?_ | refine zK ?_ | refine uI ?_ | refine vM ?_ | refine uO ?_ | refine jAW ?_ | refine qT ?_ | refine uW ?_ | refine wA ?_ | refine uU ?_ | refine zE ?_ | refine wU ?_ | refine jBH ?_ | refine kE ?_ | refine zN ?_ | refine kW ?_ | refine qU ?_ | refine yP ?_ | refine zF ?_ | refine ⟨⟨⟨rfl,rfl⟩,rfl,rfl⟩,⟨rfl,rfl⟩,?_⟩ | refine qD ?_ | refine jCW ?_ | refine vQ ?_ | refine vY ?_ | refine vL ?_ | refine zB ?_ | refine qG ?_ | refine jBG ?_ | refine jAX ?_ | refine vR rfl ?_ | refine vX rfl ?_ | refine ⟨_,rfl,?_⟩ | refine ⟨⟨rfl,rfl⟩,?_⟩ | refine ⟨⟨rfl,Nat.le_of_ble_eq_true rfl⟩,?_⟩ | refine ⟨_,_,_,_,rfl,hn,rfl,rfl,?_⟩ | (refine ⟨_,_,rfl,⟨rfl,rfl⟩,?_⟩; try dsimp only [jU,List.set_cons_succ,List.set_cons_zero]) | (refine ⟨rfl,?_⟩; try dsimp only [jU,List.set_cons_succ,List.set_cons_zero])))
  refine jBD (yQX (jP (jQ rfl (jP (jQ rfl (yF (.inr ⟨xs,xs,rfl,rfl,fun _=>.bl true,fun w hw=>item w hw _ trivial,?_⟩)))))))
  (repeat (first | refine jQ rfl ?_ | refine p_c ?_ | refine yC ?_ | refine jP ?_ | refine yF ?_ | refine yS ?_ | refine zK ?_ | refine uI ?_ | refine vM ?_ | refine uO ?_ | refine jAW ?_ | refine qT ?_ | refine uW ?_ | refine wA ?_ | refine uU ?_ | refine zE ?_ | refine wU ?_ | refine jBH ?_ | refine kE ?_ | refine zN ?_ | refine kW ?_ | refine qU ?_ | refine yP ?_ | refine zF ?_ | refine ⟨⟨⟨rfl,rfl⟩,rfl,rfl⟩,⟨rfl,rfl⟩,?_⟩ | refine qD ?_ | refine jCW ?_ | refine vQ ?_ | refine vY ?_ | refine vL ?_ | refine zB ?_ | refine qG ?_ | refine jBG ?_ | refine jAX ?_ | refine vR rfl ?_ | refine vX rfl ?_ | refine ⟨_,rfl,?_⟩ | refine ⟨⟨rfl,rfl⟩,?_⟩ | refine ⟨⟨rfl,Nat.le_of_ble_eq_true rfl⟩,?_⟩ | refine ⟨_,_,_,_,rfl,hn,rfl,rfl,?_⟩ | (refine ⟨_,_,rfl,⟨rfl,rfl⟩,?_⟩; try dsimp only [jU,List.set_cons_succ,List.set_cons_zero]) | (refine ⟨rfl,?_⟩; try dsimp only [jU,List.set_cons_succ,List.set_cons_zero]) | refine ⟨_,jYZ _,?_⟩))
theorem jLH:∀ (n:Nat) {v:PV} {h:AH},DPl n v→(yAS (n+1) [v,v] h).post (fun r h'=>r=.bl true∧h'=h) NE
 | 0,v,h,d=>jMB d
 | n+1,v,h,d=>by
  cases v with
  | tup xs=>exact yEE (.inl rfl) (fun x hx=>DPl.pl (d x hx)) fun x hx=>jLH n (d x hx)
  | lst xs=>exact yEE (.inr rfl) (fun x hx=>DPl.pl (d x hx)) fun x hx=>jLH n (d x hx)
  | non=>exact jMB trivial
  | bl b=>exact jMB trivial
  | int i=>exact jMB trivial
  | str x=>exact jMB trivial
  | _=>exact d.elim
theorem yGO {n:Nat} {v:PV} {h:AH} (d:DPl n v):(jWR (n+1) [v,v] h).post (fun r h'=>r=.bl true∧h'=h) NE:=by
 unfold jWR
 exact jLH n d
theorem jIZ {n:Nat} {a b:PV} {h:AH} (e:a=b) (d:DPl n b):(jWR (n+1) [a,b] h).post (fun r h'=>r=.bl true∧h'=h) NE:=by
 subst e; exact yGO d
end
end Lp
set_option maxHeartbeats 4000000
namespace Lp
open PySem PySem.Spec PyProof.Rows L2
def mkS (cs:List Nat):Str:=⟨cs.toArray⟩
theorem jUI (cs:List Nat):(mkS cs).length=cs.length:=by show cs.toArray.size=_; simp
theorem jUJ (a b:List Nat):mkS a++mkS b=mkS (a++b):=by
 show (⟨a.toArray++b.toArray⟩:Str)=⟨(a++b).toArray⟩
 rw [List.append_toArray]
theorem yPT {h:AH} {a b:List Nat} (z:a.length+b.length≤sizeLine):yO h (.str (mkS a)) (.str (mkS b))=some (.str (mkS (a++b))):=by
 show (if (mkS a).length+(mkS b).length≤sizeLine then some (PV.str (mkS a++mkS b)) else none)=_
 rw [jUI,jUI,if_pos z,jUJ]
theorem yFP (cs:List Nat):strsOf (cs.map fun c=>PV.str (mkS [c]))=some (cs.map fun c=>mkS [c]):=by
 unfold strsOf
 induction cs with
 | nil=>rfl
 | cons c cs ih=>rw [List.map_cons,List.mapM_cons,ih]; rfl
theorem join_ones:∀ cs:List Nat,Txt.join (mkS []) (cs.map fun c=>mkS [c])=mkS cs:=fun cs=>by
 rw [TL.join_eq]
 induction cs with
 | nil=>rfl
 | cons c cs ih =>
  cases cs with
  | nil=>rfl
  | cons d ds =>
   show mkS [c]++mkS []++Str.join (mkS []) ((d :: ds).map fun c=>mkS [c])=_
   rw [ih,jUJ,jUJ]; rfl
theorem yRX {cs:List Nat} (h:∀ c∈cs,c < 1114112):PyData.strOk (mkS cs)=true:=by
 show (cs.toArray.all fun c=>decide (c < 0x110000))=true
 rw [List.all_toArray]
 rw [List.all_eq_true]
 exact fun c hc=>decide_eq_true (h c hc)
theorem yBV {h:AH} {cs:List Nat} (z:cs.length≤16777216) (hc:∀ c∈cs,c < 1114112):jBR h (mkS []) [.lst (cs.map fun c=>.str (mkS [c]))]=some (.str (mkS cs)):=by
 show (strsOf (cs.map fun c=>PV.str (mkS [c]))).bind _=_
 rw [yFP]
 show (if _ then _ else _)=_
 rw [join_ones]
 rw [if_pos]
 refine ⟨?_,yRX hc,?_⟩
 ·have e1:((cs.map fun c=>mkS [c]).map (·.length)).sum=cs.length:=by
   clear z hc
   induction cs with
   | nil=>rfl
   | cons c cs ih=>rw [List.map_cons,List.map_cons,List.sum_cons,ih]; show 1+cs.length=cs.length+1; omega
  rw [e1]
  show cs.length+_ * 0≤_
  omega
 ·rw [jUI]
  have:16777216≤sizeLine:=by decide
  omega
theorem yKC {α:Type} {xs:List α} {i:Int} (h0:0≤i) (h1:i≤xs.length):jAY xs none (some i)=xs.take i.toNat:=by
 unfold jAY
 have e1:HT.sIx xs.length 0 none=0:=rfl
 have e2:HT.sIx xs.length xs.length (some i)=i.toNat:=by
  unfold HT.sIx
  simp only
  split <;> omega
 rw [e1,e2,List.drop_zero,Nat.sub_zero]
theorem jJB {α:Type} {xs:List α} {i:Int} (h0:0≤i) (h1:i≤xs.length):jAY xs (some i) none=xs.drop i.toNat:=by
 unfold jAY
 have e1:HT.sIx xs.length 0 (some i)=i.toNat:=by
  unfold HT.sIx
  simp only
  split <;> omega
 have e2:HT.sIx xs.length xs.length none=xs.length:=rfl
 rw [e1,e2]
 rw [List.take_of_length_le (by rw [List.length_drop]; omega)]
end Lp
set_option maxHeartbeats 4000000
namespace Lp
open PySem PySem.Spec PyProof.Rows L2
abbrev FL:=Nat→List Str
structure ClsF (K:PySem.W.Frag) (B:Bs) (fl:FL):Prop where
 fld:∀ c,fl c≠[]→B.fld c=fl c
 cls:∀ c f,f∈fl c→Cls K (B.cad c)∧NoAttr K (B.cad c) f
 few:∀ c,(fl c).length < 1000
 nd:∀ c,(fl c).Nodup
theorem ClsF.at_ {K:PySem.W.Frag} {B:Bs} {fl:FL} (C:ClsF K B fl) {c:Nat} {f:Str} (h:f∈fl c):B.fld c=fl c:=C.fld c fun z=>by rw [z] at h; cases h
section
variable {X:Cx} {B:Bs} {N:Ent} {WX:L2.WX} {W W':Wd} {s s':S} {h:AH} {σ:L2.St} {H H':Hp} {e o:Expr} {mo mv:ME} {f:Str} {fl:FL} {pos pos':Pos}
theorem jOW:∀ {ns:List Str} {fs:List PV} {vs:List V} {v:PV},Reps B W fs vs→(ns.zip fs).lookup f=some v→∃ v',(ns.zip vs).lookup f=some v'∧Rep B W v v'∧f∈ns
 | [],_,_,_,_,e=>by simp at e
 | n :: ns,_,_,_,.nil,e=>by simp at e
 | n :: ns,x :: xs,u :: us,v,.cons r t,e=>by
  rw [List.zip_cons_cons,List.lookup_cons] at e
  rw [List.zip_cons_cons,List.lookup_cons]
  cases q:f == n with
  | true =>
   rw [q] at e
   cases e
   exact ⟨u,rfl,r,by rw [beq_iff_eq.mp q]; simp⟩
  | false =>
   rw [q] at e
   obtain ⟨v',e1,r1,m⟩:=jOW t e
   exact ⟨v',e1,r1,List.mem_cons_of_mem _ m⟩
end
end Lp
set_option maxHeartbeats 4000000
namespace Lp
open PySem PySem.Spec PyProof.Rows L2
section
variable {B:Bs} {W W1 W2:Wd} {h h1 h2:AH} {H H1 H2:Hp} {p x dx:Addr} {o:HO} {c:Nat} {C:Cell}
theorem Step.loose (st:Step W h H W1 h1 H1) (hp:H p=none):Step W h H W1 h1 (upd H1 p o):=by
 refine ⟨st.le,st.hl,st.dead,fun a u e nt nl=>?_,fun a e=>?_,st.fgrow,st.hm,st.mnew⟩
 ·rw [upd_ne (ne_of_none e hp)]; exact st.keep a u e nt nl
 ·by_cases ha:a=p
  ·rw [ha,upd_same] at e; cases e
  ·rw [upd_ne ha] at e; exact st.tr a e
end
mutual
def yXK (n:Nat):PV→Bool
 | .cel k=>decide (k < n)
 | .tup xs=>celsB n xs
 | .lst xs=>celsB n xs
 | .scr xs=>celsB n xs
 | .ins _ fs=>celsB n fs
 | .exn _ fs=>celsB n fs
 | _=>true
def celsB (n:Nat):List PV→Bool
 | []=>true
 | x :: xs=>yXK n x&&celsB n xs
end
section
variable {B:Bs} {W W1 W2:Wd} {h h1 h2:AH} {H H1 H2:Hp} {p x dx:Addr} {o:HO} {c:Nat} {C:Cell}
theorem yGS (hr:HRel B W h H) (hF:W.F p=none) (hm:p∉W.m) (hp:H p=some o) (nt:NT o):HRel B ⟨upd W.F p o,W.m⟩ h H:=by
 refine ⟨fun a u e=>?_,hr.len,hr.nd,hr.mt,hr.hz,fun a u e=>?_,hr.tb,fun n c a e1 e2=>?_⟩
 ·by_cases ha:a=p
  ·have e:upd W.F p o a=some u:=e
   rw [ha,upd_same] at e
   rw [ha,hp]; exact e
  ·have e:upd W.F p o a=some u:=e
   rw [upd_ne ha] at e
   exact hr.agree _ _ e
 ·by_cases ha:a=p
  ·have e:upd W.F p o a=some u:=e
   rw [ha,upd_same] at e
   cases e
   exact nt
  ·have e:upd W.F p o a=some u:=e
   rw [upd_ne ha] at e
   exact hr.fz a u e
 ·obtain ⟨g1,g2⟩:=hr.cell n c a e1 e2
  have ne:a≠p:=fun z=>hm (z ▸ List.mem_of_getElem? e2)
  exact ⟨by show upd W.F p o a=none; rw [upd_ne ne]; exact g1,g2.mono (jCN hF) fun _ z=>z⟩
theorem Step.keepNew (st:Step W h H W1 h1 H1) (hp:H p=none) (hF:W1.F p=none):Step W h H ⟨upd W1.F p o,W1.m⟩ h1 H1 :=
 ⟨st.le.trans (jCN hF),st.hl,st.dead,st.keep,st.tr,fun a e ne nl=>by
  have ha:a≠p:=fun z=>ne.ne (z ▸ hp)
  show upd W1.F p o a=none
  rw [upd_ne ha]; exact st.fgrow a e ne nl,st.hm,st.mnew⟩
end
instance decIns {h h2:AH} {c n:Nat}:Decidable (∃ fs,h2=h++[some (.ins c fs)]∧celsB n fs=true) :=
 match e:h2[h.length]? with
 | some (some (.ins c' fs))=>if q:h2=h++[some (.ins c fs)]∧celsB n fs=true then .isTrue ⟨fs,q⟩ else .isFalse fun ⟨fs',q'⟩=>by
   obtain ⟨rfl,q2⟩:=q'
   rw [List.getElem?_append_right (Nat.le_refl _),Nat.sub_self] at e
   cases e
   exact q ⟨rfl,q2⟩
 | some (some (.lst _))=>.isFalse fun ⟨fs',q',_⟩=>by rw [q',List.getElem?_append_right (Nat.le_refl _),Nat.sub_self] at e; cases e
 | some (some (.dic _))=>.isFalse fun ⟨fs',q',_⟩=>by rw [q',List.getElem?_append_right (Nat.le_refl _),Nat.sub_self] at e; cases e
 | some (some (.dik _))=>.isFalse fun ⟨fs',q',_⟩=>by rw [q',List.getElem?_append_right (Nat.le_refl _),Nat.sub_self] at e; cases e
 | some none=>.isFalse fun ⟨fs',q',_⟩=>by rw [q',List.getElem?_append_right (Nat.le_refl _),Nat.sub_self] at e; cases e
 | none=>.isFalse fun ⟨fs',q',_⟩=>by rw [q',List.getElem?_append_right (Nat.le_refl _),Nat.sub_self] at e; cases e
instance decOne {h h2:AH}:Decidable (∃ C,h2=h++[some C]) :=
 match e:h2[h.length]? with
 | some (some C)=>if q:h2=h++[some C] then .isTrue ⟨C,q⟩ else .isFalse fun ⟨C',q'⟩=>by
   subst q'
   rw [List.getElem?_append_right (Nat.le_refl _),Nat.sub_self] at e
   cases e
   exact q rfl
 | some none=>.isFalse fun ⟨fs',q'⟩=>by rw [q',List.getElem?_append_right (Nat.le_refl _),Nat.sub_self] at e; cases e
 | none=>.isFalse fun ⟨fs',q'⟩=>by rw [q',List.getElem?_append_right (Nat.le_refl _),Nat.sub_self] at e; cases e
structure MkC (P:Program) (w:World) (K:PySem.W.Frag) (mg:Str→Option Value) (base:Heap) (B:Bs) (k:Nat) (x:Str) (c n0:Nat) (ks:List Str) (g:List PV→List PV→List PV) (n:Nat) (m:MF):Prop where
 ex:∃ f fd ps gW gV,Mk K (B.cad c) f∧FnOk P w K mg base (L2.CX P w) k f fd ps (spF B n m)∧mg x=some (.ref (B.cad c))∧KBn K fd ps (n0+1) ks gW gV ∧
  ∀ (W:Wd) (xs ys:List PV) (vs zs:List V),Reps B W xs vs→Reps B W ys zs→Reps B W (g xs ys) (gV vs zs)
end Lp
set_option maxHeartbeats 4000000
namespace Lp
open PySem PySem.Spec PyProof.Rows L2
structure Me (P:Program) (w:World) (K:PySem.W.Frag) (mg:Str→Option Value) (base:Heap) (B:Bs) (k:Nat) (c:Nat) (x:Str) (n0:Nat) (ks:List Str) (g:List PV→List PV→List PV) (n:Nat) (m:MF):Prop where
 ex:∃ f fd ps gW gV,Meth K (B.cad c) x f∧FnOk P w K mg base (L2.CX P w) k f fd ps (spF B n m)∧KBn K fd ps (n0+1) ks gW gV ∧
  ∀ (W:Wd) (xs ys:List PV) (vs zs:List V),Reps B W xs vs→Reps B W ys zs→Reps B W (g xs ys) (gV vs zs)
theorem Me.mono {P:Program} {w:World} {K:PySem.W.Frag} {mg:Str→Option Value} {base:Heap} {B:Bs} {j k:Nat} {c:Nat} {x:Str} {n0:Nat} {ks:List Str} {g:List PV→List PV→List PV} {n:Nat} {m:MF} (F:Me P w K mg base B j c x n0 ks g n m) (h:j≤k):Me P w K mg base B k c x n0 ks g n m :=
 let ⟨f,fd,ps,gW,gV,a,b,d⟩:=F.ex
 ⟨f,fd,ps,gW,gV,a,b.mono h,d⟩
theorem MkC.mono {P:Program} {w:World} {K:PySem.W.Frag} {mg:Str→Option Value} {base:Heap} {B:Bs} {j k:Nat} {c:Nat} {x:Str} {n0:Nat} {ks:List Str} {g:List PV→List PV→List PV} {n:Nat} {m:MF} (F:MkC P w K mg base B j x c n0 ks g n m) (h:j≤k):MkC P w K mg base B k x c n0 ks g n m :=
 let ⟨f,fd,ps,gW,gV,a,b,d⟩:=F.ex
 ⟨f,fd,ps,gW,gV,a,b.mono h,d⟩
end Lp
set_option maxHeartbeats 4000000
namespace Lp
open PySem PySem.Spec PyProof.Rows L2 LamX
def LamH (H H1:Hp) (P c1:Addr) (q:Str):Prop:=H1=H∨∃ ps ps1,H P=some (.tbl ps)∧H c1=none∧H1=upd (upd H P (.tbl ps1)) c1 (CodeO c1 q)
theorem yEC {c:Addr} {q:Str}:NT (CodeO c q):=codeO_ne
theorem yFO {T:List (Addr × Str)} {H:Hp} {P c1:Addr} {q:Str} {pos:Pos} {ps:Array Value} (t:Tabs T H) (hm:(P,q)∈T) (hu:∀ p∈T,p.1=P→p.2=q) (hP:H P=some (.tbl ps)) (hc:H c1=none) :
  Tabs T (upd (upd H P (.tbl (ps++#[rawInt pos.line,rawInt pos.col,.ref c1]))) c1 (CodeO c1 q)):=by
 have old:∀ b o,H b=some o→NT o→upd (upd H P (.tbl (ps++#[rawInt pos.line,rawInt pos.col,.ref c1]))) c1 (CodeO c1 q) b=some o:=fun b o e n=>by
  have n1:b≠P:=fun z=>n ps (by rw [z,hP] at e; exact (Option.some.inj e).symm)
  rw [upd_ne (ne_of_none e hc),upd_ne n1]; exact e
 intro p hp
 obtain ⟨ps0,e0,tr,am⟩:=t p hp
 by_cases h:p.1=P
 ·have e0':=e0
  rw [h,hP] at e0'
  cases e0'
  refine ⟨_,by rw [h,upd_ne (ne_of_none hP hc),upd_same],?_,fun pos' cv z=>?_⟩
  ·rw [Array.toList_append]; exact PySem.TriplesOk_snoc _ _ _ _ tr
  ·rw [Array.toList_append] at z
   rcases among_app _ tr z with z | z
   ·obtain ⟨c0,f1,f2⟩:=am pos' cv z
    exact ⟨c0,f1,old _ _ f2 yEC⟩
   ·exact ⟨c1,z,by rw [upd_same,hu p hp h]⟩
 ·refine ⟨ps0,by rw [upd_ne (ne_of_none e0 hc),upd_ne h]; exact e0,tr,fun pos' cv z=>?_⟩
  obtain ⟨c0,f1,f2⟩:=am pos' cv z
  exact ⟨c0,f1,old _ _ f2 yEC⟩
section
variable {X:Cx} {pins:List (Addr × Obj)} {σ:L2.St} {H:Hp} {s:Shared}
theorem jSX (I:Inv X pins σ H s) {f:Addr} (hf:s.heap.objs.size≤f):f∉frs X.stack:=fun z=>by
 rcases List.mem_cons.mp (I.stkSub f z) with e | e
 ·have h1:=I.lt
  rw [← e] at h1
  exact absurd (Nat.lt_of_lt_of_le h1 hf) (Nat.lt_irrefl f)
 ·exact I.nofs hf e
abbrev lamO (X:Cx) (params:Arguments) (body:Expr) (scope:Scope) (pm:Value) (c1:Addr) (ctv:Value):Obj:=PySem.W.kla_obj "<lambda>" (X.env.qual ++ "<lambda>") params body scope (cloFrom X.env.cells scope.names []) pm c1 ctv
theorem yPN {T:List (Addr × Str)} {c P:Addr} {params:Arguments} {body:Expr} {scope:Scope} {pos:Pos} {E Q:Value→Shared→Prop} (I:Inv X pins σ H s) (B:TabB X.base X.mg c P) (hc:X.env.code=.ref c)
  (hm:(P,X.env.qual ++ "<lambda>")∈T) (hu:∀ p∈T,p.1=P→p.2=X.env.qual ++ "<lambda>") (t:Tabs T H) (hd:defaultsOf params X.env=([],[])) (hf:∀ y∈scope.names,y.2=.free→∃ c,X.env.cells.lookup y.1=some c)
  (k:∀ (f c1:Addr) (pm ctv:Value) (H1:Hp) (s1:Shared),Inv X pins σ H1 s1→LamH H H1 P c1 (X.env.qual ++ "<lambda>")→Tabs T H1→s1.heap.get? f=some (lamO X params body scope pm c1 ctv)→H1 f=none→f∉frs X.stack →
   H1 c1=some (CodeO c1 (X.env.qual ++ "<lambda>"))→Q (.ref f) s1):wpAny (model X.prog X.w) X.A (eval (.Lambda params body scope pos) X.env) Q E s:=by
 obtain ⟨ps,eP,tr,am⟩:=t _ hm
 have gP:s.heap.get? P=some (PySem.W.tabObj ps):=I.hok P _ eP
 have ltP:=Heap.lt_size gP
 have cl:=closure_ok hf
 have ns:=I.mod.glob.keeps I.bk
 have cd:=B.code.keeps I.bk
 have bb:=B.bm.keeps I.bk
 refine PySem.W.kla_eval hd ?_
 cases e:codeAmong pos ps.toList with
 | some cv =>
  obtain ⟨c1,rfl,o1⟩:=am pos cv e
  exact PySem.W.kla_makeFunctionHit cl I.ok.glob ns hc cd gP tr e bb fun ctv h1 tk hx sz =>
   k _ c1 _ ctv H _ (I.kept (h':=h1.push (lamO X params body scope ((X.mg "__name__").getD .none) c1 ctv)) (t':=tk) fun b o z=>Heap.get?_push_of_some _ (hx b o z)) (.inl rfl) t (Heap.get?_push_size _ rfl) (I.hok.fresh sz) (jSX I sz) o1
 | none =>
  refine PySem.W.kla_makeFunction cl I.ok.glob ns hc cd gP tr e B.gP bb fun c1 ctv h1 tk hx ge lt rc tb=>?_
  obtain ⟨c2,oc,vs,tq,z,g1,g2,g3⟩:=rc
  cases z
  have sz:s.heap.objs.size≤h1.objs.size:=by omega
  have n1:H c1=none:=I.hok.fresh ge
  have J:=inv_table (t':=tk) (h':=h1.push (lamO X params body scope ((X.mg "__name__").getD .none) c1 ctv)) I eP (fun b o n z=>Heap.get?_push_of_some _ (hx b o n z)) (Heap.get?_push_of_some _ tb) ge ⟨oc,vs,tq,Heap.get?_push_of_some _ g1,g2,g3⟩
  refine k _ c1 _ ctv _ _ J (.inr ⟨ps,_,eP,n1,rfl⟩) (yFO t hm hu eP n1) (Heap.get?_push_size _ rfl) ?_ (jSX I sz) upd_same
  rw [upd_ne (Nat.ne_of_gt lt),upd_ne (Nat.ne_of_gt (Nat.lt_of_lt_of_le ltP sz))]
  exact I.hok.fresh sz
end
section
variable {B:Bs} {W:Wd} {h:AH} {H H1:Hp} {P c1:Addr} {q:Str}
theorem LamH.old (l:LamH H H1 P c1 q) {b:Addr} {o:HO} (e:H b=some o) (n:NT o):H1 b=some o:=by
 rcases l with rfl | ⟨ps,ps1,eP,ec,rfl⟩
 ·exact e
 ·rw [upd_ne (ne_of_none e ec),upd_ne fun z=>n ps (by rw [z,eP] at e; exact (Option.some.inj e).symm)]; exact e
theorem LamH.none (l:LamH H H1 P c1 q) {b:Addr} (e:H1 b=none):H b=none:=by
 rcases l with rfl | ⟨ps,ps1,eP,ec,rfl⟩
 ·exact e
 ·by_cases h1:b=c1
  ·rw [h1,upd_same] at e; cases e
  ·rw [upd_ne h1] at e
   by_cases h2:b=P
   ·rw [h2,upd_same] at e; cases e
   ·rw [upd_ne h2] at e; exact e
theorem LamH.new (l:LamH H H1 P c1 q) {b:Addr} {o:HO} (e:H1 b=some o):H b=some o∨(∃ ps,o=.tbl ps)∨o=CodeO c1 q:=by
 rcases l with rfl | ⟨ps,ps1,eP,ec,rfl⟩
 ·exact .inl e
 ·by_cases h1:b=c1
  ·rw [h1,upd_same] at e; cases e; exact .inr (.inr rfl)
  ·rw [upd_ne h1] at e
   by_cases h2:b=P
   ·rw [h2,upd_same] at e; cases e; exact .inr (.inl ⟨_,rfl⟩)
   ·rw [upd_ne h2] at e; exact .inl e
theorem yMI (hr:HRel B W h H) (l:LamH H H1 P c1 q) (t:Tabs B.T H1):HRel B W h H1:=by
 refine ⟨fun a o e=>l.old (hr.agree a o e) (hr.fz a o e),hr.len,hr.nd,fun a ha z=>hr.mt a ha (l.none z),fun a o e nt=>?_,hr.fz,t,fun n c a e1 e2=>?_⟩
 ·rcases l.new e with z | ⟨ps,rfl⟩ | rfl
  ·exact hr.hz a o z nt
  ·exact absurd rfl (nt ps)
  ·trivial
 ·obtain ⟨g1,g2⟩:=hr.cell n c a e1 e2
  refine ⟨g1,?_⟩
  cases c with
  | lst xs=>obtain ⟨vs,h1,h2⟩:=g2; exact ⟨vs,l.old h1 jBT,h2⟩
  | dic ks=>obtain ⟨L,h1,h2,h3⟩:=g2; exact ⟨L,l.old h1 yJN,h2,h3⟩
  | dik ks=>obtain ⟨L,h1,h2,h3⟩:=g2; exact ⟨L,l.old h1 yRA,h2,h3⟩
  | ins c fs=>obtain ⟨dx,vs,h1,h2,h3⟩:=g2; exact ⟨dx,vs,l.old h1 yJM,h2,h3⟩
theorem jXH (hr:HRel B W h H) (l:LamH H H1 P c1 q):Step W h H W h H1 :=
 ⟨.refl W,Nat.le_refl _,fun n c _ e=>⟨c,e⟩,fun a o e nt _=>l.old e nt,fun a e=>l.none e,fun a e _ _=>e,hr.len,fun n a hn e=>by
  have:=(List.getElem?_eq_some_iff.mp e).1
  rw [hr.len] at this; omega⟩
end
end Lp
set_option maxHeartbeats 4000000
namespace Lp
open PySem PySem.Spec PyProof.Rows L2 LamX NdefX
section
open PySem.W
variable {prog:Program} {w:World} {A:Around} {E:Value→Shared→Prop} {s:Shared} {K:Frag} {x C D u:Addr} {ox:Obj} {odx:Option Obj} {B i newId:String} {bmB:List Value}
theorem yNQ {so:Addr} {pl:Sem Bool} {cd:ClassData} {Q:Value × List Value→Shared→Prop} (KF:KxsFacts B i) (X:K.In s.heap) (hso:s.heap.get? so=some (ks_superObj D x C)) (I:InstAt s.heap x ox C odx) (ho:nsIn K cStatics "thirdparty.any" = some none)
  (hc:clsIn K C=some cd) (hm:ks_superIn K C D "__init__" = some (some (.builtin i))) (hB:subIn K (.ref C) (.type B)=some true)
  (h:Q (.ref s.heap.objs.size,[]) { s with heap:=s.heap.push (kxs_mw i x),toks:=s.toks+1 }):wpAny (model prog w) A (getMethod (.ref so) "__init__" pl) Q E s:=by
 have hI:Looks (model prog w) s.heap (isInstance (.ref x) (.type B)) true:=I.type.andThen (looks_subIn X hB)
 obtain ⟨hh,g,d,t,os⟩:=s
 unfold ks_superIn at hm
 rw [hc] at hm
 exact kxs_getMethod KF hso (looks_opaque X ho) (l₀:=cd.mro) (fun A Q E s k q=>wpAny_bind ((looks_clsIn X hc) A _ E s k (wpAny_pure q))) rfl X hm hI (ks_ne X I hc) rfl h
theorem yKQ {t:Addr} {rest:List Value} {Q:Value→Shared→Prop} (FB:ExcBaseFacts B newId i bmB) (X:K.In s.heap) (q:excInitIn K C bmB newId=true) (hu:s.heap.get? u=some (kxs_mw i x)) (he:s.heap.get? x=some (excObj C t none .none)) (hz:rest.length≤sizeLine)
  (fin:∀ h' t',(∀ b o,b≠x→s.heap.get? b=some o→h'.get? b=some o)→h'.get? x=some (excObj C t' none .none)→Q .none { s with heap:=h' }) :
  wpAny (model prog w) A (call (.ref u) rest) Q E s:=by
 obtain ⟨nm,N',qn,bs,bm,hdct,sn,sub,ab,col,dd,k0,k1,k2,k3,k5,hC,hT⟩:=excInit_of X q
 obtain ⟨hh,g,d,tk,os⟩:=s
 refine wpAny_call (codeAny_of_tree ?_)
 show wpAny _ A.in1 (callAny (.ref u) ⟨rest,[]⟩) _ _ _
 simp only [callAny]
 refine wpAny_bind (wpAny_load hu ?_)
 simp only [kxs_mw,show (Value.type "method-wrapper" == Value.type "method" || Value.type "method-wrapper" == Value.type "builtin_function_or_method" || Value.type "method-wrapper" == Value.type "method-wrapper")=true by decide,if_true]
 refine KFB.if_so (by decide) ?_
 refine wpAny_bind (check_bound_init FB.toExcCallFacts hC he rfl ?_)
 refine wpAny_bind (wpAny_pure (wpAny_pure ?_))
 refine ⟨plainId_quiet FB.init.plain _,codeAny_builtin FB.initEntry ?_⟩
 exact exc_init_tree (cls:=.ref C) (t0:=t) (dv:=none) (c2:=.none) (c3:=.none) (b4:=.bool false) he hz fun h' k e' _=>fin h' _ k e'
end
structure SupF (P:Program) (K:PySem.W.Frag) (D:Addr) (qual:Str) (params:Arguments) (body:List Stmt) (scope:Scope) (f cc cda:Addr) (fd:FuncData):Prop where
 fn:∃ (oc:Value) (od:Option Addr) (dV kV doc pm:Value) (an:Option Addr) (ct:Value) (osl:Array (Option Value)),fd=PySem.W.ksFn "__init__" qual params body scope dV kV doc pm an (.ref cda) ct cc∧K.lookup f=some ⟨oc,od,.func fd,osl⟩
 code:PySem.W.codeIn K (.ref cda) qual=true
 file:∃ (ccl:Value) (cdd:Option Addr) (vs:Array Value) (ccs:Array (Option Value)) (file:Str) (tf:Tok),K.lookup cda=some ⟨ccl,cdd,.fields vs,ccs⟩∧vs[2]?=some (.str file tf)∧((P.main.file:Str) == file)=true
 cell:∃ (cl:Value) (cld:Option Addr) (csl:Array (Option Value)),K.lookup cc=some ⟨cl,cld,.cell (some (.ref D)),csl⟩
 cls:∃ cd,PySem.W.clsIn K D=some cd
 sta:PySem.W.nsIn K cStatics "thirdparty.any" = some none
 self:∃ ar:Arg,(params.posonlyargs++params.args).head?=some ar∧ar.arg=("self" : Str)
 hs:scope.names.lookup ("super" : Str)=some .globalImplicit
 hc:scope.names.lookup ("__class__" : Str)=some .free
 hl:scope.names.lookup ("self" : Str)=some .local
 top:(P.main.scope.names.lookup ("super" : Str)).isSome=false
structure SupC (K:PySem.W.Frag) (B i newId:String) (bmB:List Value) (C D:Addr):Prop where
 ini:PySem.W.excInitIn K C bmB newId=true
 sup:PySem.W.ks_superIn K C D "__init__" = some (some (.builtin i))
 sub:PySem.W.subIn K (.ref C) (.type B)=some true
 mro:PySem.W.mroIn K C (.ref D)=some true
section
variable {P:Program} {w:World} {K:PySem.W.Frag} {mg:Str→Option Value} {base:Heap} {CX:CXT} {D f cc cda C a:Addr} {qual:Str} {params:Arguments} {body:List Stmt} {scope:Scope} {fd:FuncData} {A:Around} {outer:List Env} {s0 s:Shared} {H H0:Hp} {E:XK} {N:List Str} {pins:List (Addr × Obj)} {σ:L2.St}
variable {B i newId:String} {bmB:List Value} {TEXT:Str} {j:Nat} {p0 p1 p2 p3 cp ap:Pos}
abbrev jAR (qual:Str) (params:Arguments) (body:List Stmt) (scope:Scope) (cc cda:Addr):NF:=⟨"__init__", qual,params,body,scope,[("__class__", cc)],cda⟩
theorem yKP {pl:Sem Bool} {body':List Stmt} {E':Value→Shared→Prop} {R:Flow→Shared→Prop} (S:SupF P K D qual params body scope f cc cda fd) (T:SupC K B i newId bmB C D) (KF:PySem.W.KxsFacts B i) (FB:ExcBaseFacts B newId i bmB) (hsu:mg "super" = none)
  (I:Inv (ncx CX P w K mg base N (jAR qual params body scope cc cda) f A outer s0 H0 E) pins σ H s) (hN:N[0]?=some ("self" : Str)) (h0:σ[0]?=some (some (.ref a))) (ha:H a=some (exo a C none))
  (ht:eval (.Call (.Attribute (.Call (.Name "super" p0) [] [] p1) "__init__" ap) [.Constant (.str TEXT) j cp] [] p2) (envF (jAR qual params body scope cc cda) f s0.heap.objs.size)=(do
   let ov ← attributeBase (.Call (.Name "super" p0) [] [] p1) "__init__" (envF (jAR qual params body scope cc cda) f s0.heap.objs.size) (eval (.Call (.Name "super" p0) [] [] p1) (envF (jAR qual params body scope cc cda) f s0.heap.objs.size))
   standAt ap.atName
   let (f1,first) ← holding [ov] (getMethod ov "__init__" pl)
   callWith p2 f1 first (backTo p2 (starEach [.Constant (.str TEXT) j cp] (envF (jAR qual params body scope cc cda) f s0.heap.objs.size))) []))
  (h:∀ s',Inv (ncx CX P w K mg base N (jAR qual params body scope cc cda) f A outer s0 H0 E) pins σ H s'→R .next s') :
  _root_.PySem.wpAt (model P w) (A.deeper (envF (jAR qual params body scope cc cda) f s0.heap.objs.size)) (.func body' (envF (jAR qual params body scope cc cda) f s0.heap.objs.size))
   (exec (.Expr (.Call (.Attribute (.Call (.Name "super" p0) [] [] p1) "__init__" ap) [.Constant (.str TEXT) j cp] [] p2) p3) (envF (jAR qual params body scope cc cda) f s0.heap.objs.size)) R E' s:=by
 obtain ⟨oc,od,dV,kV,doc,pm,an,ct,osl,rfl,lk⟩:=S.fn
 obtain ⟨ccl,cdd,vs,ccs,file,tf,lc,hvs,hfile⟩:=S.file
 obtain ⟨cl,cld,csl,lcc⟩:=S.cell
 obtain ⟨cdD,hD⟩:=S.cls
 obtain ⟨ar,hp,har⟩:=S.self
 have X:=I.kIn
 have X:K.In s.heap:=X
 obtain ⟨oD,hD1,hD2⟩:∃ oD,s.heap.get? D=some oD∧oD.data=.cls cdD:=by
  unfold PySem.W.clsIn at hD
  split at hD
  ·rename_i c d cd' sl ho
   cases hD
   exact ⟨_,X _ _ ho,rfl⟩
  ·cases hD
 obtain ⟨t1,hx⟩:=exo_at I.hok ha
 have hcC:∃ cd,PySem.W.clsIn K C=some cd:=by
  have q:=T.mro
  unfold PySem.W.mroIn at q
  cases e:PySem.W.clsIn K C with
  | none=>rw [e] at q; cases q
  | some cd=>exact ⟨cd,rfl⟩
 obtain ⟨cdC,hcC⟩:=hcC
 have Ins:∀ {h':Heap},h'.get? a=some (PySem.W.excObj C t1 none .none)→PySem.W.InstAt h' a (PySem.W.excObj C t1 none .none) C none:=fun e=>⟨e,rfl,rfl,trivial⟩
 have hint:interactive (envF (jAR qual params body scope cc cda) f s0.heap.objs.size)=false:=by
  have hk:scope.kind=.function:=I.ok.kind
  unfold interactive
  simp [hk]
 refine PySem.ks_wpAt_Expr_any ?_ hint
 refine PySem.ks_wpAt_MethodCall (pl:=pl) ?_ ht
 refine PySem.ks_wpAt_super_base (env:=envF (jAR qual params body scope cc cda) f s0.heap.objs.size) S.hs S.hc rfl rfl (X _ _ lk) rfl hp rfl (X _ _ lc) rfl hvs hfile S.top ?_
 obtain ⟨mb,b1,b2⟩:=I.mod.blt
 have b1:base.Ns builtinsNs mb:=b1
 refine PySem.W.ks_loadName_global I.ok.kind S.hs (Calls.loadGlobal_builtin (env:=envF (jAR qual params body scope cc cda) f s0.heap.objs.size) (I.mod.glob.keeps I.bk) hsu (b1.keeps I.bk) ((b2 _ (by decide)).trans (show bootBuiltins "super" = some (.type "super") by decide +kernel)) ⟨rfl,?_⟩)
 refine wpAny_loadName_free I.ok.kind S.hc rfl ⟨_,X _ _ lcc,rfl⟩ ?_
 obtain ⟨m,hns,hl⟩:=I.loc
 obtain ⟨u,ru,lu⟩:=hl 0 "self" _ hN h0 (.inl S.hl)
 obtain rfl:u=Value.ref a:=ru
 have hm:m ("self" : Str)=some (.ref a):=by
  rcases lu with ⟨_,z⟩ | ⟨z,_⟩
  ·exact z
  ·have z:scope.names.lookup ("self" : Str)=some .cell∨scope.names.lookup ("self" : Str)=some .free:=z
   rw [S.hl] at z
   rcases z with z | z <;> cases z
 rw [har]
 refine wpAny_loadName_local I.ok.kind S.hl hns hm ?_
 have I0:=I
 obtain ⟨hh,g,d,t,os⟩:=s
 refine PySem.ks_wpAny_isType_cls hD1 hD2 ⟨rfl,?_⟩
 refine PySem.ks_wpAny_call_super hD1 hD2 hx rfl (fun c z=>nomatch z) (PySem.W.looks_mroIn X T.mro) (fun h1 e1 k1=>?_)
 have I1:=I.kept (h':=h1) (t':=t) k1
 refine yNQ (s:=⟨h1,g,d,t,os⟩) (pl:=_) KF I1.kIn e1 (Ins (k1 _ _ hx)) S.sta hcC T.sup T.sub ?_
 have k2:∀ b o,h1.get? b=some o→(h1.push (PySem.W.kxs_mw i a)).get? b=some o:=fun b o e=>Heap.get?_push_of_some _ e
 have I2:=I1.kept (h':=h1.push (PySem.W.kxs_mw i a)) (t':=t+1) k2
 have hu:(h1.push (PySem.W.kxs_mw i a)).get? h1.objs.size=some (PySem.W.kxs_mw i a):=Heap.get?_push_at rfl rfl
 refine PySem.W.kxs_callWith (i:=i) (x:=a) rfl ?_
 refine Calls.evalArgs_plain ?_
 refine Calls.spliced_cons (Calls.Constant_str (pos:=cp) (k:=j) ?_)
 refine Calls.spliced_nil ⟨hu,?_⟩
 refine yKQ (s:=⟨h1.push (PySem.W.kxs_mw i a),g,d,t+1+1,os⟩) FB I2.kIn T.ini hu (k2 _ _ (k1 _ _ hx)) (by rw [sizeLine_eq]; exact Nat.le_of_ble_eq_true rfl) fun h' t' k' e'=>?_
 have J:=(I2.tok (t+1+1)).write (h':=h') (t':=t+1+1) (x:=a) (e:=a) (o:=exo a C none) (by rw [ha]; exact True.intro) (.inl rfl) k' ⟨_,e'⟩ (exo_ok e')
 have eu:upd H a (exo a C none)=H:=by
  funext b
  by_cases hb:b=a
  ·rw [hb,upd_same,ha]
  ·rw [upd_ne hb]
 rw [eu] at J
 exact h _ J
theorem yIZ {st0:Stmt} {rest:List Stmt} {sp:Sp} {k:Nat} {ps N:List Str} (S:SupF P K D qual params (st0 :: rest) scope f cc cda fd) (KF:PySem.W.KxsFacts B i) (FB:ExcBaseFacts B newId i bmB) (hsu:mg "super" = none) (sc:NScope N ps ["__class__"] scope)
    (hps:ps[0]?=some ("self" : Str)) (e0:st0=.Expr (.Call (.Attribute (.Call (.Name "super" p0) [] [] p1) "__init__" ap) [.Constant (.str TEXT) j cp] [] p2) p3)
    (ht:∀ L:Addr,∃ pl:Sem Bool,eval (.Call (.Attribute (.Call (.Name "super" p0) [] [] p1) "__init__" ap) [.Constant (.str TEXT) j cp] [] p2) (envF (jAR qual params (st0 :: rest) scope cc cda) f L)=(do
      let ov ← attributeBase (.Call (.Name "super" p0) [] [] p1) "__init__" (envF (jAR qual params (st0 :: rest) scope cc cda) f L) (eval (.Call (.Name "super" p0) [] [] p1) (envF (jAR qual params (st0 :: rest) scope cc cda) f L))
      standAt ap.atName
      let (f1,first) ← holding [ov] (getMethod ov "__init__" pl)
      callWith p2 f1 first (backTo p2 (starEach [.Constant (.str TEXT) j cp] (envF (jAR qual params (st0 :: rest) scope cc cda) f L))) []))
    (hsp:∀ vs H Q E,sp vs H Q E→vs.length=ps.length∧∃ (a C:Addr) (us:List V),vs=.ref a :: us∧H a=some (exo a C none)∧SupC K B i newId bmB C D)
    (hbody:∀ (A:Around) (outer:List Env) (s:Shared) (H:Hp) (vs:List V) (Q:VK) (E:XK),Room k (A.deeper (envF (jAR qual params (st0 :: rest) scope cc cda) f s.heap.objs.size))→sp vs H Q E →
      ∃ t,PSs (ncx CX P w K mg base N (jAR qual params (st0 :: rest) scope cc cda) f A outer s H E) rest t∧t { nx:=fun _ H'=>Q .non H',rt:=Q } (startF N vs [some (.ref D)]) H) :
    FnOk P w K mg base CX (k+1) f fd ps sp:=by
  refine ⟨fun vs H Q E q=>(hsp vs H Q E q).1,fun A outer s H args us vs Q E hr e1 hb r q=>?_⟩
  obtain ⟨hl,a,C,us',rfl,ha,T⟩:=hsp _ _ _ _ q
  have S0:=S
  obtain ⟨oc,od,dV,kV,doc,pm,an,ct,osl,rfl,lk⟩:=S.fn
  obtain ⟨cl,cld,csl,lcc⟩:=S.cell
  have KX:K.In s.heap:=e1.mod.kin.keeps fun b o e=>(e1.bs b o e).1
  have lim:s.heap.NoLimit:=e1.mod.nolimit.keeps fun b o e=>(e1.bs b o e).1
  have hcc0:H cc=none:=(e1.bs cc _ (e1.mod.kin _ _ lcc)).2
  have CA:CellsAt [(("__class__" : Str),cc)] ["__class__"] [some (.ref D)] s.heap H:=by
    have one:∀ (y:Str) (c:Addr),([(("__class__" : Str),cc)]:List (Str × Addr)).lookup y=some c→y = "__class__" ∧ c=cc:=fun y c e=>by
      rw [List.lookup_cons] at e
      split at e
      · rename_i z; cases e; exact ⟨beq_iff_eq.mp z,rfl⟩
      · cases e
    refine ⟨rfl,fun y c e=>?_,fun x y c e1 e2=>?_,fun i y e=>?_⟩
    · obtain ⟨_,rfl⟩:=one y c e
      exact ⟨hcc0,_,_,KX _ _ lcc,rfl⟩
    · rw [(one x c e1).1,(one y c e2).1]
    · cases i with
      | zero =>
        cases e
        refine ⟨cc,rfl,fun v ev=>?_⟩
        cases ev
        exact ⟨.ref D,rfl,_,KX _ _ lcc,rfl⟩
      | succ i=>simp at e
  have hk:scope.kind=.function:=sc.kind
  refine PySem.ks_codeAny_call_defAt (fd:=PySem.W.ksFn "__init__" qual params (st0 :: rest) scope dV kV doc pm an (.ref cda) ct cc) (body:=st0 :: rest) (binds:=ps.zip us) hr.depth (KX _ _ lk) rfl lim (PySem.W.codeRec_of KX S.code) rfl hb sc.nocell (fun ⟨n,_⟩ hy=>sc.par n (List.of_mem_zip hy).1) (fun h₁ hns kp=>?_) sc.co sc.gen hk
  have I:Inv (ncx CX P w K mg base N (jAR qual params (st0 :: rest) scope cc cda) f A outer s H E) [] (startF N (.ref a :: us') [some (.ref D)]) H { s with heap:=h₁,toks:=s.toks+(ps.zip us).length }:=inv_startN sc hr.hd e1 hl r CA hns kp
  obtain ⟨pl,ht⟩:=ht s.heap.objs.size
  show _root_.PySem.wpAt (model P w) (A.deeper (envF (jAR qual params (st0 :: rest) scope cc cda) f s.heap.objs.size)) (.func (st0 :: rest) (envF (jAR qual params (st0 :: rest) scope cc cda) f s.heap.objs.size)) (execs (st0 :: rest) (envF (jAR qual params (st0 :: rest) scope cc cda) f s.heap.objs.size)) _ _ _
  refine PySem.ks_wpAt_execs_cons ?_
  have hN:N[0]?=some ("self" : Str):=by
    have q:=sc.pre
    have:(N.take (ps.length+(["__class__"]:List Str).length))[0]?=(ps++(["__class__"]:List Str))[0]?:=by rw [q]
    rw [List.getElem?_take_of_lt (by simp)] at this
    rw [this,List.getElem?_append_left (by rw [← hl]; simp)]
    exact hps
  subst e0
  refine yKP (R:=_) S0 T KF FB hsu I hN rfl ha ht fun s' J=>?_
  obtain ⟨t,hp,hq⟩:=hbody A outer s H _ Q E (hr.deeper _) q
  refine wpAt_of_wpAny (wpAny_mono (hp.run [] s' _ H _ J hq) (fun fl s2 hs=>?_) fun _ _ z=>z)
  cases fl with
  | ret u =>
    obtain ⟨v,σ',H',J,rv,q⟩:=hs
    exact ⟨v,H',J.os,J.bare,J.base,J.hok,rv,q⟩
  | next =>
    obtain ⟨σ',H',J,q⟩:=hs
    exact ⟨V.non,H',J.os,J.bare,J.base,J.hok,rfl,q⟩
  | brk =>
    obtain ⟨_,_,_,q⟩:=hs
    exact False.elim q
  | cont =>
    obtain ⟨_,_,_,q⟩:=hs
    exact False.elim q
end
end Lp
set_option maxHeartbeats 4000000
namespace Lp
open PySem PySem.Spec PyProof.Rows L2 LamX NdefX
structure OexB (K:PySem.W.Frag) (bmB:List Value) (C:Addr):Prop where
 over:PySem.W.excOver K C bmB=true
 hd:∃ cd,PySem.W.clsIn K C=some cd∧cd.hasDict=true
 sa:PySem.W.findIn K (.ref C) "__setattr__" = some (some (.builtin "object.__setattr__"))
section
open PySem.W Builtin Builtin.ObjectAttr
variable {prog:Program} {w:World} {A:Around} {R:Result→Shared→Prop} {hp:Heap} {g:Array GenState} {d:Drawn} {t:Nat} {os:OsState} {K:Frag} {bmB:List Value} {B:String} {C x dx:Addr} {name:Str} {tk:Tok} {v:Value}
theorem jXD (ha:findIn K (.ref C) name=some none):takerIn K C name=some none:=by
 unfold takerIn
 rw [ha]; rfl
theorem yLY {t1:Addr} (SF:StoreFacts B bmB "object.__setattr__" "object") (O:OexB K bmB C) (X:K.In hp) (hx:hp.get? x=some (excObj C t1 none .none)) (ha:findIn K (.ref C) name=some none)
    (hq:∀ h' tk' dx,(∀ b o,b≠x→hp.get? b=some o→h'.get? b=some o)→hp.objs.size≤dx→dx≠x→h'.get? x=some (excObj C t1 (some dx) .none)→h'.Ns1 dx (fun y=>if y=name then some v else none)→R (.ok (.ret .none)) ⟨h',g,d,tk',os⟩) :
    codeAny (model prog w) A (.call (.builtin "object.__setattr__") ⟨[.ref x,.str name tk,v],[]⟩) R ⟨hp,g,d,t,os⟩:=by
  obtain ⟨cd,hcd,hh⟩:=O.hd
  have xs:x≠hp.objs.size:=Nat.ne_of_lt (Heap.lt_size hx)
  have hcls:Looks (model prog w) hp (classData C) cd:=looks_clsIn X hcd
  refine osa_openX (ox:=excObj C t1 none .none) (od:=none) SF X ⟨hx,rfl,rfl,trivial⟩ O.over (jXD ha) fun b=>?_
  obtain ⟨nm,bs,mro,ns,qn,hd,sn,sb,ab,col,del⟩:=cd
  dsimp only at hh
  subst hh
  dsimp only
  unfold storeInOwnDict ownDictForStores
  repeat (first | with_reducible refine HandSPX.store_in_new ?_ ?_ | with_reducible refine wpAny_loadPart_at hx ?_ | with_reducible refine hcls.at ?_ | wp_step)
  · have e0:=(Heap.get?_update_ne _ _ _ (fun o=>{ o with dict:=some hp.objs.size }) xs.symm).trans (Heap.get?_push_at (h:=hp) (o:={ cls:=.type "dict", data:=.dict #[] }) rfl rfl)
    exact ⟨_,#[],_,e0,rfl,fun e he=>absurd he (by simp),fun _=>rfl⟩
  · intro h' tk' hn' hs
    have hx1:(hp.push { cls:=.type "dict", data:=.dict #[] }).get? x=some (excObj C t1 none .none):=Heap.get?_push_of_some _ hx
    refine hq h' tk' hp.objs.size (fun b o hb ho=>?_) (Nat.le_refl _) xs.symm ((hs.2 x xs).trans (Heap.get?_update_self _ hx1 rfl)) hn'
    refine (hs.2 b (Nat.ne_of_lt (Heap.lt_size ho))).trans ?_
    exact (Heap.get?_update_ne _ _ _ _ hb).trans (Heap.get?_push_of_some _ ho)
theorem yLX {t1:Addr} {m0:Str→Option Value} {nl:List Str} (SF:StoreFacts B bmB "object.__setattr__" "object") (O:OexB K bmB C) (X:K.In hp) (hx:hp.get? x=some (excObj C t1 (some dx) .none)) (hns:hp.Ns1 dx m0) (hw:Within m0 nl) (hz:nl.length≤1000) (ha:findIn K (.ref C) name=some none)
  (hq:∀ h' tk',(∀ b o,b≠dx→hp.get? b=some o→h'.get? b=some o)→h'.Ns1 dx (fun y=>if y=name then some v else m0 y)→R (.ok (.ret .none)) ⟨h',g,d,tk',os⟩) :
  codeAny (model prog w) A (.call (.builtin "object.__setattr__") ⟨[.ref x,.str name tk,v],[]⟩) R ⟨hp,g,d,t,os⟩:=by
 obtain ⟨cd,hcd,hh⟩:=O.hd
 obtain ⟨oD,esD,epD,hoD,hdD,_⟩:=hns.count hw
 have hcls:Looks (model prog w) hp (classData C) cd:=looks_clsIn X hcd
 refine osa_openX (ox:=excObj C t1 (some dx) .none) (od:=some oD) SF X ⟨hx,rfl,rfl,hoD⟩ O.over (jXD ha) fun b=>?_
 obtain ⟨nm,bs,mro,ns,qn,hd,sn,sb,ab,col,del⟩:=cd
 dsimp only at hh
 subst hh
 dsimp only
 unfold storeInOwnDict ownDictForStores
 repeat (first | with_reducible refine OEX.store_in_old hns hw hz ?_ | with_reducible refine wpAny_loadPart_at hx ?_ | with_reducible refine hcls.at ?_ | wp_step)
 intro h' tk' hn' hs
 exact hq h' tk' (fun b o hb ho=>(hs.2 b hb).trans ho) hn'
end
section
variable {X:Cx} {pins:List (Addr × Obj)} {σ:L2.St} {H:Hp} {s:Shared} {a C dx:Addr} {f:Str} {y:V} {u:Value} {fs:List (Str × V)} {Q:Unit→Shared→Prop} {E:Value→Shared→Prop} {A:Around} {bmB:List Value} {B:String}
theorem yLW (SF:StoreFacts B bmB "object.__setattr__" "object") (T:OexB X.K bmB C) (I:Inv X pins σ H s) (e:H a=some (exo a C none)) (hno:PySem.W.findIn X.K (.ref C) f=some none) (ry:RelV y u)
  (h:∀ dx s',H dx=none→dx≠a→Inv X pins σ (upd (upd H dx (exd dx [(f,y)])) a (exo a C (some dx))) s'→Q () s'):wpAny (model X.prog X.w) A (setAttr (.ref a) f u) Q E s:=by
 obtain ⟨t1,ho⟩:=exo_at I.hok e
 obtain ⟨hp,g,d,t,os⟩:=s
 refine PySem.W.set_plain I.kIn (ox:=PySem.W.excObj C t1 none .none) (od:=none) ⟨ho,rfl,rfl,trivial⟩ T.sa ?_
 refine yLY SF T I.kIn ho hno fun h' tk' dx k dn dne hx hn=>?_
 have hnd:H dx=none:=I.hok.fresh dn
 have nd:∀ {b:Addr} {o:Obj},hp.get? b=some o→b≠dx:=fun {b o} q z=>Nat.lt_irrefl _ (Nat.lt_of_lt_of_le (z ▸ Heap.lt_size q) dn)
 have na:∀ {b:Addr},H b=none→b≠a:=fun {b} n z=>by
  rw [z,e] at n
  cases n
 have k1:∀ {b:Addr} {o:Obj},H b=none→hp.get? b=some o→h'.get? b=some o:=fun {b o} n q=>k b o (na n) q
 have U:Un X.fs [] H (upd (upd H dx (exd dx [(f,y)])) a (exo a C (some dx))) hp h':=by
  refine ⟨fun b o q n _ _=>k1 n q,fun b o q n _ _=>⟨o.slots,k1 n q⟩,fun b o q n _=>?_,fun b o q _=>?_,fun b xs q=>?_,fun b o v q=>?_,fun b ps q=>⟨#[],?_⟩⟩
  ·rw [upd_ne (na n),upd_ne (nd q)]; exact n
  ·by_cases hb:b=a
   ·subst hb; exact ⟨_,hx⟩
   ·exact ⟨o,k b o hb q⟩
  ·rw [upd_ne (at_ne e q exo_tup),upd_ne (ne_of_none q hnd)]; exact q
  ·rw [upd_ne (at_ne e q exo_frz),upd_ne (ne_of_none q hnd)]; exact q
  ·rw [upd_ne (at_ne e q exo_tbl),upd_ne (ne_of_none q hnd),q,Array.append_empty]
 refine h dx _ hnd dne (I.un (t':=tk') U fun b o q=>?_)
 by_cases hb:b=a
 ·subst hb
  rw [upd_same] at q
  cases q
  exact exo_ok hx
 rw [upd_ne hb] at q
 by_cases hd:b=dx
 ·subst hd
  rw [upd_same] at q
  cases q
  exact exd_ok hn (relO_put (fs:=[]) ry fun g=>True.intro)
 rw [upd_ne hd] at q
 refine (I.hok b o q).stay (fun c v hc z=>k c v ?_ z) (fun c hc=>?_) fun c xs hc=>?_
 ·rcases hc with rfl | hc
  ·exact hb
  ·exact at_ne e hc exo_own
 ·rw [upd_ne (at_ne e hc exo_own),upd_ne (ne_of_none hc hnd)]; exact hc
 ·rw [upd_ne (at_ne e hc exo_tup),upd_ne (ne_of_none hc hnd)]; exact hc
theorem yLV (SF:StoreFacts B bmB "object.__setattr__" "object") (T:OexB X.K bmB C) (I:Inv X pins σ H s) (e:H a=some (exo a C (some dx))) (ed:H dx=some (exd dx fs)) (hl:fs.length≤900) (hno:PySem.W.findIn X.K (.ref C) f=some none) (ry:RelV y u)
  (h:∀ s',Inv X pins σ (upd H dx (exd dx ((f,y) :: fs))) s'→Q () s'):wpAny (model X.prog X.w) A (setAttr (.ref a) f u) Q E s:=by
 obtain ⟨t1,ho⟩:=exo_at I.hok e
 obtain ⟨mA,hns,rel⟩:=exd_at I.hok ed
 have hw:=within_of rel
 obtain ⟨hp,g,d,t,os⟩:=s
 obtain ⟨oD,_,_,hoD,_,_⟩:=hns.count hw
 refine PySem.W.set_plain I.kIn (ox:=PySem.W.excObj C t1 (some dx) .none) (od:=some oD) ⟨ho,rfl,rfl,hoD⟩ T.sa ?_
 refine yLX SF T I.kIn ho hns hw (by rw [List.length_map]; omega) hno fun h' tk' k hn=>?_
 have hd:∃ o,h'.get? dx=some o:=let ⟨o,_,_,e',_⟩:=hn; ⟨o,e'⟩
 have J:=I.write (t':=tk') (x:=dx) (e:=dx) (o:=exd dx ((f,y) :: fs)) (by rw [ed]; exact True.intro) (.inl rfl) k hd (exd_ok hn (relO_put ry rel))
 exact h _ J
end
def yVO (K:PySem.W.Frag) (bmB:List Value) (f:Str) (to te:TE):TS:=fun D σ H=>te σ H fun y H1=>to σ H1 fun x H2=>∃ a C:Addr,x=.ref a∧OexB K bmB C∧PySem.W.findIn K (.ref C) f=some none ∧
 ((H2 a=some (exo a C none)∧∀ dx,H2 dx=none→dx≠a→D.nx σ (upd (upd H2 dx (exd dx [(f,y)])) a (exo a C (some dx)))) ∨
  ∃ (dx:Addr) (fs:List (Str × V)),H2 a=some (exo a C (some dx))∧H2 dx=some (exd dx fs)∧fs.length≤900∧D.nx σ (upd H2 dx (exd dx ((f,y) :: fs))))
theorem jUE {X:Cx} {o e:Expr} {to te:TE} {f:Str} {p' pos:Pos} {bmB:List Value} {B:String} (SF:StoreFacts B bmB "object.__setattr__" "object") (ho:PE X o to) (he:PE X e te) (hs:swapsWith e (some (.Attribute o f p')) pos.line X.env=pure false:=by rfl) :
  PS X (.Assign [.Attribute o f p'] e pos) (yVO X.K bmB f to te):=by
 refine ⟨fun pins s σ H D I h=>plainObj_wpAny_Assign_Attribute (thn (he.run pins s σ H _ I h) fun v s1 ⟨y,H1,I1,r1,q1⟩=>thn (ho.run pins s1 σ H1 _ I1 q1) fun u s2 ⟨x,H2,I2,r2,a,C,ex,T,hno,q⟩=>?_) hs⟩
 subst ex
 obtain rfl:u=Value.ref a:=r2
 rcases q with ⟨ea,q⟩ | ⟨dx,fs,ea,ed,hl,q⟩
 ·exact yLW SF T I2 ea hno r1 fun dx s' n ne J=>⟨σ,_,J,q dx n ne⟩
 ·exact yLV SF T I2 ea ed hl hno r1 fun s' J=>⟨σ,_,J,q⟩
end Lp
set_option maxHeartbeats 4000000
namespace Lp
open PySem PySem.Spec PyProof.Rows L2 LamX NdefX
def jSB (C:Addr) (n:Nat) (fs:List V→List (Str × V)):Sp:=fun vs H Q E=>∃ (a:Addr) (us:List V),vs=.ref a :: us∧us.length=n∧H a=some (exo a C none) ∧
 ∀ (dx:Addr) (H':Hp),H dx=none→dx≠a→H' a=some (exo a C (some dx))→H' dx=some (exd dx (fs us))→(∀ b,b≠a→b≠dx→H' b=H b)→Q .non H'
section
variable {P:Program} {w:World} {K:PySem.W.Frag} {mg:Str→Option Value} {base:Heap} {CX:CXT} {D f cc cda a:Addr} {qual:Str} {params:Arguments} {body:List Stmt} {scope:Scope} {fd:FuncData} {k:Nat}
variable {B i newId:String} {bmB:List Value} {TEXT f1 f2 x1 x2:Str} {st0:Stmt} {j j2:Nat} {p0 p1 p2 p3 cp ap q0 q1 q2 q3 r0 r1 r2 r3 t0 t1 t2 t3:Pos}
abbrev jFN (TEXT:Str) (j:Nat) (p0 p1 p2 p3 cp ap:Pos):Stmt:=.Expr (.Call (.Attribute (.Call (.Name "super" p0) [] [] p1) "__init__" ap) [.Constant (.str TEXT) j cp] [] p2) p3
def SupEv (TEXT:Str) (j:Nat) (p0 p1 p2 cp ap:Pos) (env:Env):Prop:=∃ pl:Sem Bool,eval (.Call (.Attribute (.Call (.Name "super" p0) [] [] p1) "__init__" ap) [.Constant (.str TEXT) j cp] [] p2) env=(do
   let ov ← attributeBase (.Call (.Name "super" p0) [] [] p1) "__init__" env (eval (.Call (.Name "super" p0) [] [] p1) env)
   standAt ap.atName
   let (f1,first) ← holding [ov] (getMethod ov "__init__" pl)
   callWith p2 f1 first (backTo p2 (starEach [.Constant (.str TEXT) j cp] env)) [])
theorem yEN {n:Nat} {fs:List V→List (Str × V)} {ps:List Str} (hps:ps.length=n+1) (T:SupC K B i newId bmB D D):∀ vs H Q E,jSB D n fs vs H Q E→vs.length=ps.length∧∃ (a C:Addr) (us:List V),vs=.ref a :: us∧H a=some (exo a C none)∧SupC K B i newId bmB C D :=
 fun vs H Q E ⟨a,us,e,hl,ha,_⟩=>⟨by rw [e,List.length_cons,hl,hps],a,D,us,e,ha,T⟩
structure OstR (a dx:Addr) (H H':Hp) (C:Addr) (fs:List (Str × V)):Prop where
 hd:H dx=none
 ne:dx≠a
 at_:H' a=some (exo a C (some dx))
 dd:H' dx=some (exd dx fs)
 keep:∀ b,b≠a→b≠dx→H' b=H b
theorem OstR.first {H:Hp} {C dx:Addr} {g:Str} {y:V} (n:H dx=none) (ne:dx≠a):OstR a dx H (upd (upd H dx (exd dx [(g,y)])) a (exo a C (some dx))) C [(g,y)] :=
 ⟨n,ne,upd_same,by rw [upd_ne ne,upd_same],fun b h1 h2=>by rw [upd_ne h1,upd_ne h2]⟩
theorem OstR.next {H H':Hp} {C dx:Addr} {g:Str} {y:V} {fs:List (Str × V)} (r:OstR a dx H H' C fs):OstR a dx H (upd H' dx (exd dx ((g,y) :: fs))) C ((g,y) :: fs) :=
 ⟨r.hd,r.ne,by rw [upd_ne (Ne.symm r.ne)]; exact r.at_,upd_same,fun b h1 h2=>by rw [upd_ne h2]; exact r.keep b h1 h2⟩
structure BltX (B i newId:String) (bmB:List Value):Prop where
 kx:PySem.W.KxsFacts B i
 ba:ExcBaseFacts B newId i bmB
 st:StoreFacts B bmB "object.__setattr__" "object"
theorem yKE:BltX "ValueError" "ValueError.__init__" "ValueError.__new__" [.type "ValueError", .type "Exception", .type "BaseException", .type "object"]:=⟨PySem.W.kxs_ValueError,PySem.F.excBase_ValueError,PySem.F.store_ValueError⟩
structure VeC (K:PySem.W.Frag) (B i newId:String) (bmB:List Value) (D:Addr):Prop where
 sup:SupC K B i newId bmB D D
 oex:OexB K bmB D
 exC:PySem.W.subIn K (.ref D) (.type "BaseException")=some true
 tyC:PySem.W.typeIn K (.ref D)=some (.type "type")
 kC:PySem.W.keepIn K (.ref D)=true
theorem ini0 (S:SupF P K D qual params [jFN TEXT j p0 p1 p2 p3 cp ap,.Assign [.Attribute (.Name "self" t0) "code" t1] (.Constant (.str TEXT) j2 t2) t3] scope f cc cda fd) (G:BltX B i newId bmB) (V:VeC K B i newId bmB D) (hsu:mg "super" = none) (sc:NScope ["self", "__class__"] ["self"] ["__class__"] scope)
  (ht:∀ L:Addr,SupEv TEXT j p0 p1 p2 cp ap (envF (jAR qual params [jFN TEXT j p0 p1 p2 p3 cp ap,.Assign [.Attribute (.Name "self" t0) "code" t1] (.Constant (.str TEXT) j2 t2) t3] scope cc cda) f L))
  (nc:PySem.W.findIn K (.ref D) "code" = some none) :
  FnOk P w K mg base CX (k+1) f fd ["self"] (jSB D 0 fun _=>[("code", .str TEXT)]):=by
 refine yIZ S G.kx G.ba hsu sc rfl rfl ht (yEN rfl V.sup) fun A outer s H vs Q E hr ⟨a,us,e,hl,ha,q⟩=>?_
 subst e
 obtain rfl:=List.length_eq_zero_iff.mp hl
 refine ⟨_,pss_one (jUE G.st (pe_var (i:=0) rfl (.inl (sc.par _ (by simp))) rfl rfl) pe_str),?_⟩
 refine ⟨.ref a,rfl,a,D,rfl,V.oex,nc,.inl ⟨ha,fun dx n ne=>?_⟩⟩
 have o:=OstR.first (C:=D) (g := "code") (y:=.str TEXT) n ne
 exact q dx _ n ne o.at_ o.dd o.keep
theorem ini1 (S:SupF P K D qual params [jFN TEXT j p0 p1 p2 p3 cp ap,.Assign [.Attribute (.Name "self" q0) f1 q1] (.Name x1 q2) q3,.Assign [.Attribute (.Name "self" t0) "code" t1] (.Constant (.str TEXT) j2 t2) t3] scope f cc cda fd) (G:BltX B i newId bmB) (V:VeC K B i newId bmB D) (hsu:mg "super" = none)
  (sc:NScope ["self", x1,"__class__"] ["self", x1] ["__class__"] scope)
  (ht:∀ L:Addr,SupEv TEXT j p0 p1 p2 cp ap (envF (jAR qual params [jFN TEXT j p0 p1 p2 p3 cp ap,.Assign [.Attribute (.Name "self" q0) f1 q1] (.Name x1 q2) q3,.Assign [.Attribute (.Name "self" t0) "code" t1] (.Constant (.str TEXT) j2 t2) t3] scope cc cda) f L))
  (hx:(x1 == ("__debug__" : Str))=false) (hx2:(x1 == ("__classdict__" : Str))=false) (n1:PySem.W.findIn K (.ref D) f1=some none) (nc:PySem.W.findIn K (.ref D) "code" = some none) :
  FnOk P w K mg base CX (k+1) f fd ["self", x1] (jSB D 1 fun us=>[("code", .str TEXT),(f1,us.headD .non)]):=by
 refine yIZ S G.kx G.ba hsu sc rfl rfl ht (yEN rfl V.sup) fun A outer s H vs Q E hr ⟨a,us,e,hl,ha,q⟩=>?_
 subst e
 obtain ⟨v,rfl⟩:=List.length_eq_one_iff.mp hl
 refine ⟨_,pss_cons (jUE G.st (pe_var (i:=0) rfl (.inl (sc.par _ (by simp))) rfl rfl) (pe_var (i:=1) rfl (.inl (sc.par _ (by simp))) hx hx2)) (pss_one (jUE G.st (pe_var (i:=0) rfl (.inl (sc.par _ (by simp))) rfl rfl) pe_str)),?_⟩
 refine ⟨v,rfl,.ref a,rfl,a,D,rfl,V.oex,n1,.inl ⟨ha,fun dx n ne=>?_⟩⟩
 have o:=OstR.first (C:=D) (g:=f1) (y:=v) n ne
 refine ⟨.ref a,rfl,a,D,rfl,V.oex,nc,.inr ⟨dx,_,o.at_,o.dd,by simp,?_⟩⟩
 have o2:=o.next (g := "code") (y:=.str TEXT)
 exact q dx _ n ne o2.at_ o2.dd o2.keep
end
section
variable {X:Cx} {N:Ent} {WX:L2.WX} {CX:CXT} {C fI:Addr} {fd:FuncData} {ps:List Str} {k n:Nat} {B i newId:String} {bmB:List Value} {fs:List V→List (Str × V)} {x:Str} {p pos:Pos} {e:Expr} {es:List Expr} {ta:TA}
structure ExcK (P:Program) (w:World) (K:PySem.W.Frag) (mg:Str→Option Value) (base:Heap) (k:Nat) (x:Str) (C:Addr) (n:Nat) (fs:List V→List (Str × V)):Prop where
 ex:∃ B i newId bmB fI fd ps,BltX B i newId bmB∧VeC K B i newId bmB C∧PySem.W.findIn K (.ref C) "__init__" = some (some (.ref fI))∧PySem.W.typeIn K (.ref fI)=some (.type "function")∧FnOk P w K mg base (L2.CX P w) k fI fd ps (jSB C n fs)∧Binds K fd ps []∧mg x=some (.ref C)
theorem ExcK.mono {P:Program} {w:World} {K:PySem.W.Frag} {mg:Str→Option Value} {base:Heap} {j:Nat} (F:ExcK P w K mg base j x C n fs) (h:j≤k):ExcK P w K mg base k x C n fs :=
 let ⟨B,i,ne,bm,fI,fd,ps,a,b,c,d,e,f⟩:=F.ex
 ⟨B,i,ne,bm,fI,fd,ps,a,b,c,d,e.mono h,f⟩
def yUY (C:Addr) (n:Nat) (fs:List V→List (Str × V)) (ta:TA):L2.St→Hp→XK→Prop:=fun σ H Q=>ta σ H fun vs H1=>vs.length=n∧n≤1000∧∀ d,H1 d=none→Q (.ref C) (some d) (upd H1 d (.xd (fs vs)))
theorem yES {pins:List (Addr × Obj)} {σ:L2.St} {H:Hp} {s:Shared} {Q:XK} {us:List Value} {vs:List V} (F:ExcK X.prog X.w X.K X.mg X.base k x C n fs) (hr:Room (k+1) X.A) (hx:Passes (L2.CX X.prog X.w) X (fun _ _ _=>False)) (I:Inv X pins σ H s) (r:Vals vs us) (hn:vs.length=n) (h1:n≤1000)
  (q:∀ d,H d=none→Q (.ref C) (some d) (upd H d (.xd (fs vs)))):wpAny (model X.prog X.w) X.A (call (.ref C) us) (MkP X pins σ Q) X.xe s:=by
 obtain ⟨B,i,newId,bmB,fI,fd,ps,G,V,iC,tI,F1,hb,hm⟩:=F.ex
 obtain ⟨nm,N',qn,bs,bm,hdct,sn,sub,ab,col,dd,k0,k1,k2,k3,k5,hC,hT⟩:=PySem.W.excInit_of I.kIn V.sup.ini
 obtain ⟨hp,g,dr,tk,os⟩:=s
 have hsz:hp.objs.size≤hp.objs.size+1:=Nat.le_succ _
 have na:H (hp.objs.size+1)=none:=I.hok.fresh hsz
 have kk:∀ b o,hp.get? b=some o→((hp.push (PySem.W.kdv_tup us)).push (PySem.HandSPX.excO C hp.objs.size)).get? b=some o:=fun b o e=>Heap.get?_push_of_some _ (Heap.get?_push_of_some _ e)
 have ge:((hp.push (PySem.W.kdv_tup us)).push (PySem.HandSPX.excO C hp.objs.size)).get? (hp.objs.size+1)=some (PySem.HandSPX.excO C hp.objs.size):=by heap_get
 have I2:=I.laid (t':=tk) (a:=hp.objs.size+1) (o:=exo (hp.objs.size+1) C none) (h':=(hp.push (PySem.W.kdv_tup us)).push (PySem.HandSPX.excO C hp.objs.size)) kk hsz (exo_ok ge)
 have sp:jSB C n fs (.ref (hp.objs.size+1) :: vs) (upd H (hp.objs.size+1) (exo (hp.objs.size+1) C none))
   (fun v H2=>v=.non∧∃ d,H2 (hp.objs.size+1)=some (exo (hp.objs.size+1) C (some d))∧H2 d=some (exd d (fs vs))∧H d=none∧d≠hp.objs.size+1∧∀ b,b≠hp.objs.size+1→b≠d→H2 b=H b) (fun _ _ _=>False) :=
  ⟨_,vs,rfl,hn,upd_same,fun dx H' n1 n2 e1 e2 e3=>⟨rfl,dx,e1,e2,by rw [upd_ne n2] at n1; exact n1,n2,fun b h1 h2=>by rw [e3 b h1 h2,upd_ne h1]⟩⟩
 have r2:Vals (L2.V.ref (hp.objs.size+1) :: vs) (Value.ref (hp.objs.size+1) :: us):=.cons rfl r
 have hl:(Value.ref (hp.objs.size+1) :: us).length=ps.length:=by rw [← r2.length]; exact F1.len _ _ _ _ sp
 have hz:us.length≤sizeLine:=by rw [← r.length,hn,sizeLine_eq]; omega
 refine wpAny_call (PySem.HandSPX.call_own G.ba hT hC (PySem.W.looks_findIn I.kIn iC) (fun self=>PySem.W.bind_fn I.kIn self tI) hz ?_)
 have hbb:=hb ⟨(hp.push (PySem.W.kdv_tup us)).push (PySem.HandSPX.excO C hp.objs.size),g,dr,tk,os⟩ (Value.ref (hp.objs.size+1) :: us) I2.kIn (by rw [List.append_nil]; exact hl)
 rw [List.append_nil] at hbb
 refine codeAny_mono (F1.run _ X.stack _ _ _ _ _ _ (fun _ _ _=>False) (hr.make C us []) (I2.env0.make C us []) hbb r2 sp) fun r s' hq=>?_
 cases r with
 | error er=>exact hx pins σ _ _ er s' I2 hq
 | ok fl =>
  cases fl with
  | ret u =>
   obtain ⟨v,H2,os2,bare2,un2,hok2,rv,ev,d,ea,ed,hd1,hda,keep⟩:=hq
   subst ev
   obtain ⟨h2,g2,d2,t2,os'⟩:=s'
   have eH:upd (del H2 (hp.objs.size+1)) d (.xd (fs vs))=upd H d (.xd (fs vs)):=by
    funext b
    by_cases hbd:b=d
    ·rw [hbd,upd_same,upd_same]
    ·rw [upd_ne hbd,upd_ne hbd]
     by_cases hba:b=hp.objs.size+1
     ·rw [hba,del_same,na]
     ·rw [del_ne hba,keep b hba hbd]
   exact ⟨rv,mk_end (raises_own V.exC V.tyC) I hsz kk un2 hok2 os2 bare2 ea ed hd1 (by rw [eH]; exact q d hd1)⟩
  | next=>exact False.elim hq
  | brk=>exact False.elim hq
  | cont=>exact False.elim hq
theorem pmk_exc (F:ExcK X.prog X.w X.K X.mg X.base k x C n fs) (hr:Room (k+1) X.A) (hx:Passes (L2.CX X.prog X.w) X (fun _ _ _=>False)) (hg:Gl X x) (ha:PA X (e :: es) ta)
  (hdb:(x == ("__debug__" : Str))=false:=by decide) (he:starEach (e :: es) X.env=(false,eval e X.env) :: starEach es X.env:=by rfl) (hpl:(backTo pos (starEach es X.env)).any (·.1)=false:=by rfl) :
  PMk X (.Call (.Name x p) (e :: es) [] pos) (yUY C n fs ta):=by
 intro pins s σ H Q I h
 obtain ⟨B,i,newId,bmB,fI,fd,ps,G,V,iC,tI,F1,hb,hm⟩:=id F.ex
 refine wpAny_Call_Name_kw (ld_glob I hg hm ?_ hdb)
 refine PySem.W.callWith_K (h₀:=X.base) I.ok.mod.kin V.kC (thn (ha.run pos pins s σ H _ I h) fun us s1 ⟨vs,H1,I1,r1,hn,hz,q1⟩=>⟨I1.kIn,?_⟩) he hpl
 exact yES F hr hx I1 r1 hn hz q1
theorem yLL (F:ExcK X.prog X.w X.K X.mg X.base k x C 0 fs) (hr:Room (k+1) X.A) (hx:Passes (L2.CX X.prog X.w) X (fun _ _ _=>False)) (hg:Gl X x) (hdb:(x == ("__debug__" : Str))=false:=by decide) :
  PMk X (.Call (.Name x p) [] [] pos) (yUY C 0 fs tNil):=by
 intro pins s σ H Q I h
 obtain ⟨B,i,newId,bmB,fI,fd,ps,G,V,iC,tI,F1,hb,hm⟩:=id F.ex
 obtain ⟨_,_,q⟩:=h
 refine wpAny_Call_Name_kw (ld_glob I hg hm ?_ hdb)
 exact PySem.W.callWith_K0 I.kIn V.kC (yES (us:=[]) F hr hx I .nil rfl (by decide) q)
end
structure ExcC (P:Program) (w:World) (K:PySem.W.Frag) (mg:Str→Option Value) (base:Heap) (B:Bs) (k:Nat) (x:Str) (c n:Nat) (fv:List PV→List PV):Prop where
 ex:∃ fs,ExcK P w K mg base k x (B.cad c) n fs∧n≤1000∧∀ (W:Wd) (xs:List PV) (vs:List V),Reps B W xs vs→xs.length=n→∃ us,fs vs=(B.fld c).zip us∧us.length=(B.fld c).length∧Reps B W (fv xs) us
theorem ExcC.mono {P:Program} {w:World} {K:PySem.W.Frag} {mg:Str→Option Value} {base:Heap} {B:Bs} {j k:Nat} {x:Str} {c n:Nat} {fv:List PV→List PV} (F:ExcC P w K mg base B j x c n fv) (h:j≤k):ExcC P w K mg base B k x c n fv :=
 let ⟨fs,a,b⟩:=F.ex
 ⟨fs,a.mono h,b⟩
def jIS (c n:Nat) (fv:List PV→List PV) (ma:MA):MS:=fun s=>(ma s).bind fun vs s1=>if vs.length=n∧uB vs=true then .exc (.ins c (fv vs)) s1 else .bad
section
variable {X:Cx} {B:Bs} {N:Ent} {WX:L2.WX} {x:Str} {c n k:Nat} {fv:List PV→List PV} {ma:MA} {e:Expr} {es:List Expr} {p pos pos':Pos} {W:Wd} {s:S} {σ:L2.St} {H:Hp}
theorem jSV {vs:List PV} {vs':List V} {D:Ends} {fs:List V→List (Str × V)} (hf:∀ (W:Wd) (xs:List PV) (vs:List V),Reps B W xs vs→xs.length=n→∃ us,fs vs=(B.fld c).zip us∧us.length=(B.fld c).length∧Reps B W (fv xs) us)
  (r:Rel B N W s σ H) (rv:RepTs B W H vs vs') (q:PostS B N WX D (if vs.length=n∧uB vs=true then R.exc (.ins c (fv vs)) s else R.bad)):vs'.length=n∧∀ d,H d=none→WX (.ref (B.cad c)) (some d) σ (upd H d (.xd (fs vs'))):=by
 split at q
 ·rename_i hc
  have rr:=rv.reps hc.2
  refine ⟨by rw [← rr.length]; exact hc.1,fun d hd=>?_⟩
  obtain ⟨us,e1,e2,e3⟩:=hf W vs vs' rr hc.1
  have r2:=jJQ (o:=.xd (fs vs')) r (r.loose hd) trivial (.inl hd)
  exact q W σ _ _ _ r2 ⟨c,fv vs,d,us,rfl,rfl,rfl,by rw [upd_same,e1],e2,e3,r.st.tr _ hd,r.hr.fnone hd,fun z=>r.hr.mt _ z hd⟩
 ·exact q.elim
theorem jYA {X:Cx}:Takes X (fun _ _ _ _=>False):=takes0
theorem yBK (F:ExcC X.prog X.w X.K X.mg X.base B k x c n fv) (hc:X.calm=true) (tk:Takes X WX) (hr:Room (k+1) X.A) (hg:Gl X x) (ha:SimA X B N WX (e :: es) ma) (hdb:(x == ("__debug__" : Str))=false)
  (he:starEach (e :: es) X.env=(false,eval e X.env) :: starEach es X.env) (hpl:(backTo pos (starEach es X.env)).any (·.1)=false):SimS X B N WX (.Raise (some (.Call (.Name x p) (e :: es) [] pos)) none pos') (jIS c n fv ma):=by
 obtain ⟨fs,F1,hn,hf⟩:=F.ex
 exact (ps_raise hc tk (pmk_exc F1 hr (passes_call jYA fun _ _ _ _ h=>h) hg ha hdb he hpl)).imp fun D σ H ⟨W,s,r,h⟩=>⟨W,s,r,h.bindE.mono fun vs W1 s1 H1 r1 _ q vs' rv=>by
  obtain ⟨q1,q2⟩:=jSV hf r1 rv q
  exact ⟨q1,hn,q2⟩⟩
theorem jZD (F:ExcC X.prog X.w X.K X.mg X.base B k x c 0 fv) (hc:X.calm=true) (tk:Takes X WX) (hr:Room (k+1) X.A) (hg:Gl X x) (hdb:(x == ("__debug__" : Str))=false):SimS X B N WX (.Raise (some (.Call (.Name x p) [] [] pos)) none pos') (jIS c 0 fv jO):=by
 obtain ⟨fs,F1,hn,hf⟩:=F.ex
 exact (ps_raise hc tk (yLL F1 hr (passes_call jYA fun _ _ _ _ h=>h) hg hdb)).imp fun D σ H ⟨W,s,r,h⟩=>by
  have h0:PostS B N WX D (if ([]:List PV).length=0∧uB []=true then R.exc (.ins c (fv [])) s else R.bad):=h
  obtain ⟨q1,q2⟩:=jSV (vs:=[]) (vs':=[]) hf r trivial h0
  exact ⟨q1,by decide,q2⟩
end
end Lp
set_option maxHeartbeats 4000000
namespace Lp
open PySem PySem.Spec PyProof.Rows L2 LamX NdefX
theorem yCH {B:Heap} {l:List Env} {e:Addr} {Z:Obj→Prop} {h h':Heap} (R:HandSPX.FlyingZ B l e Z h) (k:∀ b o,h.get? b=some o→h'.get? b=some o):HandSPX.FlyingZ B l e Z h':=by
 obtain ⟨f1,f2,f3,oe,vs,T,oT,ts,he,hz,hd,h1,hn,hne,hT,hdT,h3⟩:=R
 exact ⟨fun b o q=>k b o (f1 b o q),f2,f3.of_keeps fun b o q _=>⟨o,k b o q,rfl⟩,oe,vs,T,oT,ts,k _ _ he,hz,hd,h1,hn,hne,k _ _ hT,hdT,h3⟩
structure TestX (X:Cx) (t:Expr) (cs:List Value):Prop where
 run:∀ (a:Addr) (pn pins:List (Addr × Obj)) (σ:L2.St) (H:Hp) (s:Shared) (cls:Value) (b:Bool) (Q:Bool→Shared→Prop) (E:Value→Shared→Prop),Inv (X.suite a pn) pins σ H s→PySem.W.Looks (model X.prog X.w) s.heap (typeOf (.ref a)) cls→PySem.W.exmAny X.K cls cs=some b →
  (∀ h',(∀ q o,s.heap.get? q=some o→h'.get? q=some o)→Q b { s with heap:=h' }) →
  wpAny (model X.prog X.w) (X.A.mark (some (.ref a))) (eval t X.env) (fun c s₁=>wpAny (model X.prog X.w) (X.A.mark (some (.ref a))) (excMatches (.ref a) c) Q E s₁) E s
section
variable {X:Cx} {x1 x2 x3:Str} {c1 c2 c3:Value} {p1 p2 p3 tp:Pos} {kk:Nat}
theorem jUH {a:Addr} {pn pins:List (Addr × Obj)} {σ:L2.St} {H:Hp} {s:Shared} {Q E:Value→Shared→Prop} (n:Names X x1 c1) (I:Inv (X.suite a pn) pins σ H s) (q:Q c1 s):wpAny (model X.prog X.w) (X.A.mark (some (.ref a))) (eval (.Name x1 p1) X.env) Q E s:=by
 obtain ⟨hg,hd,hm | ⟨hm,hv,hn⟩⟩:=n
 ·exact ld_glob (X:=X.suite a pn) I hg hm q hd
 ·exact ld_blt (X:=X.suite a pn) I hg hm hv q hn hd
theorem yBG (n1:Names X x1 c1) (n2:Names X x2 c2) (n3:Names X x3 c3):TestX X (.Tuple [.Name x1 p1,.Name x2 p2,.Name x3 p3] kk tp) [c1,c2,c3]:=by
  refine ⟨fun a pn pins σ H s cls b Q E I LT hb q=>?_⟩
  have kp:∀ q o,s.heap.get? q=some o→(s.heap.push { cls:=.type "tuple", data:=.seq [c1,c2,c3].toArray }).get? q=some o:=fun _ _ z=>Heap.get?_push_of_some _ z
  refine wpAny_Tuple (wpAny_items_cons (jUH n1 I (wpAny_items_cons (jUH n2 I (wpAny_items_cons (jUH n3 I (wpAny_items_nil ⟨by size_fits,?_⟩)))))))
  exact (PySem.W.exm_tup3 (I.kIn.keeps kp) (LT.keeps kp) (Heap.get?_push_size s.heap rfl) hb).here (q _ kp)
end
def yHO (K:PySem.W.Frag) (cs:List Value) (i:Nat) (ts:Addr→Value→Option Addr→TS) (D:Ends):WX:=fun cls d σ H=>PySem.W.exmAny K cls cs=some true ∧
  ∀ a,H a=none→ts a cls d { nx:=fun σ' H'=>D.nx (σ'.set i none) H',rt:=D.rt,bk:=fun σ' H'=>D.bk (σ'.set i none) H',ct:=fun σ' H'=>D.ct (σ'.set i none) H' } (σ.set i (some (.ref a))) H
section
variable {X:Cx} {n:Str} {t:Expr} {cs:List Value} {i:Nat} {body suite:List Stmt} {b₀:Stmt} {pos pos':Pos} {tb:WX→TS} {ts:Addr→Value→Option Addr→TS}
theorem yGL (hs:X.stack=X.env :: X.outer) (hf:X.env.frame=some X.env.locals) (hN:X.N.Nodup) (hi:X.N[i]?=some n) (hln:X.env.kindOf n=some .local) (T:TestX X t cs)
  (hb:∀ (W:WX) (pn:List (Addr × Obj)) (xe:Value→Shared→Prop),Takes (X.tr pn xe) W→PassesOwn (model X.prog X.w) X.A X.env xe→PSs (X.tr pn xe) body (tb W))
  (hsu:∀ (a:Addr) (oe:Obj) (cls:Value) (d:Option Addr) (pn:List (Addr × Obj)),Zc cls d oe→(∃ vs,oe.data=.fields vs)→PSs (X.suite a ((a,oe) :: pn)) (b₀ :: suite) (ts a cls d)) :
  PS X (.Try body [.ExceptHandler (some t) (some n) (b₀ :: suite) pos'] [] [] pos) (fun D σ H=>tb (yHO X.K cs i ts D) D σ H):=by
 refine ⟨fun pins s σ H D I h=>wpAny_Try_except ?_⟩
 have ok:=I.ok
 have fr0:X.A.frames=some (X.env :: X.outer):=by rw [ok.frames,hs]
 refine wpAny_mono ((hb (yHO X.K cs i ts D) (X.pn++pins) _ (fun u s' xx=>?_) PassesOwn.looking).run [] s σ H D (I.toTry (fun e s₁=>wpAny (model X.prog X.w) X.A (noteFrame e X.env) (fun _ s₂=>wpAny (model X.prog X.w) X.A (setFlight e none) (fun _ s₃ =>
  wpAny (model X.prog X.w) X.A (handleBy e X.env [.ExceptHandler (some t) (some n) (b₀ :: suite) pos']) (SP X pins D) X.xe s₃) X.xe s₂) X.xe s₁)) h) (fun f s1 q=>?_) (fun e s1 z=>z)
 ·obtain ⟨a,B,sI,pins',σ',H',cls,d,rfl,J',nb,up,sky,na,os,ag,hm,yes⟩:=xx
  have Jn:Inv X pins σ' H' sI:=J'.ofTry ok
  have sk:Sky B (X.env :: X.outer) a (Zc cls d) X.env.locals s'.heap:=by rw [← hs]; exact sky
  show wpAny (model X.prog X.w) X.A (noteFrame (.ref a) X.env) _ _ _
  refine Sky.land Zc.steady fr0 hf sk fun g3 fz uz=>?_
  have J3:Inv X pins σ' H' { s' with heap:=g3 }:=Jn.landed nb fz.1 (up.trans uz) os ag
  obtain ⟨oe,ws,ge,hz,hd⟩:=fz.there
  have out:a∉frs (X.env :: X.outer):=fun hm=>by
   obtain ⟨_,o',e',hnf⟩:=fz.2.2.1.mem hm
   rw [ge] at e'
   cases e'
   exact hnf _ hd
  have nL:a≠X.env.locals:=fun z=>out (List.mem_filterMap.mpr ⟨X.env,List.mem_cons_self,by rw [hf,z]⟩)
  have nF:a∉X.fs:=fun hm=>by
   obtain ⟨e,he,q⟩:=List.mem_filterMap.mp hm
   exact out (List.mem_filterMap.mpr ⟨e,List.mem_cons_of_mem _ he,q⟩)
  refine wpAny_handleBy_cons (codeAny_handlers_test ?_) (by intro q; cases q)
  refine T.run a _ _ _ _ _ cls true _ _ (J3.suite ge hd na nL nF) (fun A Q E s k q=>wpAny_typeOf_ref (k _ _ ge) (by rw [hz.1]; exact q)) hm fun g4 k4=>?_
  have fz4:=yCH fz k4
  have u4:s'.heap.UpToSlots g4:=uz.trans (Heap.UpToSlots.of_keeps k4)
  refine codeAny_handlers_suite_as (HandSPX.lands_againZ fz4 fun g5 fz5 u5=>?_)
  have J5:Inv X pins σ' H' { s' with heap:=g5 }:=Jn.landed nb fz5.1 ((up.trans u4).trans u5) os ag
  obtain ⟨oe5,ws5,ge5,hz5,hd5⟩:=fz5.there
  refine store_ok (X:=X.suite a ((a,oe5) :: (X.pn++pins))) (v:=.ref a) (J5.suite ge5 hd5 na nL nF) hN hi (.inl hln) rfl (fun s5 S5=>?_) (.inr hln)
  refine wpAny_mono ((hsu a oe5 cls d (X.pn++pins) hz5 ⟨_,hd5⟩).run [] s5 _ H' _ S5 (yes a na)) (fun f s6 hsp=>?_) (fun _ _ z=>False.elim z)
  have leave:∀ {σ6:L2.St} {H6:Hp} {Q:Shared→Prop},Inv (X.suite a ((a,oe5) :: (X.pn++pins))) [] σ6 H6 s6→(∀ s7,Inv X pins (σ6.set i none) H6 s7→Q s7) →
    wpAny (model X.prog X.w) X.A (do bindName X.env n .none; unbindBehindTheSuite X.env n pos') (fun _ s7=>Q s7) X.xe s6:=fun S6 hq=>gone_ok (S6.unsuite ok) hN hi hln hq
  cases f with
  | next=>obtain ⟨σ6,H6,S6,q6⟩:=hsp; exact leave S6 fun s7 J7=>⟨_,_,J7,q6⟩
  | brk=>obtain ⟨σ6,H6,S6,q6⟩:=hsp; exact leave S6 fun s7 J7=>⟨_,_,J7,q6⟩
  | cont=>obtain ⟨σ6,H6,S6,q6⟩:=hsp; exact leave S6 fun s7 J7=>⟨_,_,J7,q6⟩
  | ret u=>obtain ⟨v6,σ6,H6,S6,r6,q6⟩:=hsp; exact leave S6 fun s7 J7=>⟨_,_,_,J7,r6,q6⟩
 ·cases f with
  | next=>obtain ⟨σ',H',K',q⟩:=q; exact wpAny_execs_nil ⟨σ',H',K'.ofTry ok,q⟩
  | brk=>obtain ⟨σ',H',K',q⟩:=q; exact ⟨σ',H',K'.ofTry ok,q⟩
  | cont=>obtain ⟨σ',H',K',q⟩:=q; exact ⟨σ',H',K'.ofTry ok,q⟩
  | ret u=>obtain ⟨v,σ',H',K',r,q⟩:=q; exact ⟨v,σ',H',K'.ofTry ok,r,q⟩
end
end Lp
set_option maxHeartbeats 4000000
namespace Lp
open PySem PySem.Spec PyProof.Rows L2 LamX NdefX
abbrev Bs.with (B:Bs) (x:Addr × Nat × Addr):Bs:={ B with xn:=some x }
mutual
def noX:PV→Bool
 | .exn _ _=>false
 | .tup xs=>noXs xs
 | .lst xs=>noXs xs
 | .scr xs=>noXs xs
 | .ins _ fs=>noXs fs
 | _=>true
def noXs:List PV→Bool
 | []=>true
 | x :: xs=>noX x&&noXs xs
end
section
variable {B:Bs} {x:Addr × Nat × Addr}
mutual
theorem Rep.up {W:Wd} (h0:B.xn=none):∀ {y:PV} {v:V},Rep B W y v→Rep (B.with x) W y v
 | _,_,.non=>.non
 | _,_,.bl b=>.bl b
 | _,_,.int i=>.int i
 | _,_,.str s h=>.str s h
 | _,_,.ty n=>.ty n
 | _,_,.cls c=>.cls (B:=B.with x) c
 | _,_,.cel h=>.cel h
 | _,_,.tup h r=>.tup h (Reps.up h0 r)
 | _,_,.lst h r=>.lst h (Reps.up h0 r)
 | _,_,.scr h r=>.scr h (Reps.up h0 r)
 | _,_,.ins h hl r=>.ins (B:=B.with x) h hl (Reps.up h0 r)
 | _,_,.exn hx _ _ _=>by rw [h0] at hx; cases hx
theorem Reps.up {W:Wd} (h0:B.xn=none):∀ {ys:List PV} {vs:List V},Reps B W ys vs→Reps (B.with x) W ys vs
 | _,_,.nil=>.nil
 | _,_,.cons h t=>.cons (Rep.up h0 h) (Reps.up h0 t)
end
mutual
theorem Rep.down {W:Wd}:∀ {y:PV} {v:V},Rep (B.with x) W y v→noX y=true→Rep B W y v
 | _,_,.non,_=>.non
 | _,_,.bl b,_=>.bl b
 | _,_,.int i,_=>.int i
 | _,_,.str s h,_=>.str s h
 | _,_,.ty n,_=>.ty n
 | _,_,.cls c,_=>.cls (B:=B) c
 | _,_,.cel h,_=>.cel h
 | _,_,.tup h r,e=>.tup h (Reps.down r e)
 | _,_,.lst h r,e=>.lst h (Reps.down r e)
 | _,_,.scr h r,e=>.scr h (Reps.down r e)
 | _,_,.ins h hl r,e=>.ins (B:=B) h hl (Reps.down r e)
 | _,_,.exn _ _ _ _,e=>by cases e
theorem Reps.down {W:Wd}:∀ {ys:List PV} {vs:List V},Reps (B.with x) W ys vs→noXs ys=true→Reps B W ys vs
 | _,_,.nil,_=>.nil
 | _,_,.cons h t,e=>by
  obtain ⟨e1,e2⟩:=Bool.and_eq_true_iff.mp (show (noX _&&noXs _)=true from e)
  exact .cons (Rep.down h e1) (Reps.down t e2)
end
mutual
theorem Rep.noX {W:Wd} (h0:B.xn=none):∀ {y:PV} {v:V},Rep B W y v→noX y=true
 | _,_,.non=>rfl
 | _,_,.bl b=>rfl
 | _,_,.int i=>rfl
 | _,_,.str s h=>rfl
 | _,_,.ty n=>rfl
 | _,_,.cls c=>rfl
 | _,_,.cel h=>rfl
 | _,_,.tup h r=>Reps.noX h0 r
 | _,_,.lst h r=>Reps.noX h0 r
 | _,_,.scr h r=>Reps.noX h0 r
 | _,_,.ins h hl r=>Reps.noX h0 r
 | _,_,.exn hx _ _ _=>by rw [h0] at hx; cases hx
theorem Reps.noX {W:Wd} (h0:B.xn=none):∀ {ys:List PV} {vs:List V},Reps B W ys vs→noXs ys=true
 | _,_,.nil=>rfl
 | _,_,.cons h t=>by
  show (Lp.noX _&&noXs _)=true
  rw [Rep.noX h0 h,Reps.noX h0 t]; rfl
end
variable {N:Ent} {W W1:Wd} {h:AH} {H H1:Hp} {s:S} {σ:L2.St}
theorem DRel.up {ks:List (PV × PV)} {L:List (NestedKey × Addr × Value)} (h0:B.xn=none) (r:DRel B W ks L):DRel (B.with x) W ks L:=by
 induction r with
 | nil=>exact .nil
 | cons h1 h2 h3 h4 h5 _ ih=>exact .cons h1 h2 (h3.up h0) (h4.up h0) h5 ih
theorem DRel.down {ks:List (PV × PV)} {L L':List (NestedKey × Addr × Value)} (r:DRel (B.with x) W1 ks L) (r0:DRel B W ks L') (h0:B.xn=none):DRel B W1 ks L:=by
 induction r generalizing L' with
 | nil=>exact .nil
 | cons h1 h2 h3 h4 h5 _ ih =>
  cases r0 with
  | cons g1 g2 g3 g4 g5 t=>exact .cons h1 h2 (h3.down (g3.noX h0)) (h4.down (g4.noX h0)) h5 (ih t)
theorem CellR.up {a:Addr} {c:Cell} (h0:B.xn=none) (r:CellR B W H a c):CellR (B.with x) W H a c:=by
 cases c with
 | lst xs=>obtain ⟨vs,h1,h2⟩:=r; exact ⟨vs,h1,h2.up h0⟩
 | dic ks=>obtain ⟨L,h1,h2,h3⟩:=r; exact ⟨L,h1,h2,h3.up h0⟩
 | dik ks=>obtain ⟨L,h1,h2,h3⟩:=r; exact ⟨L,h1,h2,h3.up h0⟩
 | ins c fs=>obtain ⟨dx,vs,h1,h2,h3⟩:=r; exact ⟨dx,vs,h1,h2,h3.up h0⟩
theorem HRel.up (h0:B.xn=none) (r:HRel B W h H):HRel (B.with x) W h H :=
 ⟨r.agree,r.len,r.nd,r.mt,r.hz,r.fz,r.tb,fun n c a e1 e2=>let ⟨g1,g2⟩:=r.cell n c a e1 e2; ⟨g1,g2.up h0⟩⟩
theorem HRel.down (h0:B.xn=none) (r0:HRel B W h H) (r:HRel (B.with x) W1 h H1) (em:W1.m=W.m):HRel B W1 h H1 :=
 ⟨r.agree,r.len,r.nd,r.mt,r.hz,r.fz,r.tb,fun n c a e1 e2=>by
  obtain ⟨g1,g2⟩:=r.cell n c a e1 e2
  obtain ⟨_,g3⟩:=r0.cell n c a e1 (em ▸ e2)
  refine ⟨g1,?_⟩
  cases c with
  | lst xs=>obtain ⟨vs,h1,h2⟩:=g2; obtain ⟨_,_,h4⟩:=g3; exact ⟨vs,h1,h2.down (h4.noX h0)⟩
  | dic ks=>obtain ⟨L,h1,h2,h3⟩:=g2; obtain ⟨_,_,_,h4⟩:=g3; exact ⟨L,h1,h2,h3.down h4 h0⟩
  | dik ks=>obtain ⟨L,h1,h2,h3⟩:=g2; obtain ⟨_,_,_,h4⟩:=g3; exact ⟨L,h1,h2,h3.down (h4.noX h0)⟩
  | ins c fs=>obtain ⟨dx,vs,h1,h2,h3⟩:=g2; obtain ⟨_,_,_,_,h4⟩:=g3; exact ⟨dx,vs,h1,h2,h3.down (h4.noX h0)⟩⟩
theorem SlotR.up {y:PV} {v:V} {H0:Hp} (h0:B.xn=none) (r:SlotR B W H H0 y v):SlotR (B.with x) W H H0 y v:=by
 cases y with
 | own xs=>obtain ⟨a,vs,e,h1,h2,h3⟩:=r; exact ⟨a,vs,e,h1,h2.up h0,h3⟩
 | don ks=>obtain ⟨a,vs,o,e1,e2,e3,e4,e5⟩:=r; exact ⟨a,vs,o,e1,e2,e3,e4,e5.up h0⟩
 | _=>exact Rep.up h0 r
theorem Rel.up (h0:B.xn=none) (r:Rel B N W s σ H):Rel (B.with x) N W s σ H :=
 ⟨r.hr.up h0,r.st,r.len,fun i y e=>let ⟨v,e1,sl⟩:=r.env i y e; ⟨v,e1,sl.up h0⟩,r.dis,r.pin⟩
end
def eXf (fl:FL) (f:Str) (mo:ME):ME:=fun s=>(mo s).bind fun o s1=>match o with
 | .exn c fs=>match ((fl c).zip fs).lookup f with
  | some v=>.ok v s1
  | none=>.bad
 | _=>.bad
structure HasX (X:Cx) (B:Bs):Prop where
 at_:∀ a c dd,B.xn=some (a,c,dd)→∃ oe,(a,oe)∈X.pn∧Zc (.ref (B.cad c)) (some dd) oe∧∃ vs,oe.data=.fields vs
structure XClsF (K:PySem.W.Frag) (B:Bs) (fl:FL):Prop where
 fld:∀ c,fl c≠[]→B.fld c=fl c
 cls:∀ c f,f∈fl c→XfC K (B.cad c)∧PySem.W.findIn K (.ref (B.cad c)) f=some none
section
variable {X:Cx} {B:Bs} {N:Ent} {WX:L2.WX} {W:Wd} {s:S} {σ:L2.St} {H:Hp} {e o:Expr} {mo:ME} {f:Str} {fl:FL} {pos:Pos}
theorem qC (HX:HasX X B) (C:XClsF X.K B fl) (he:SimE X B N WX o mo) (hb:attributeBase o f X.env (eval o X.env)=eval o X.env):SimE X B N WX (.Attribute o f pos) (eXf fl f mo):=by
 refine ⟨fun pins s σ H Q I ⟨W,s0,r,h⟩=>?_⟩
 refine attr_of hb (thn (he.run pins s σ H (fun v' H1=>∃ W1 s1 v,Rel B N W1 s1 σ H1∧StepE W s0 H W1 s1 H1∧RepT B W1 H1 v v'∧Post B N WX W1 s1 H1 σ (match v with
  | .exn c fs=>match ((fl c).zip fs).lookup f with
   | some v=>R.ok v s1
   | none=>.bad
  | _=>.bad) fun u W' _ H'=>∀ u',RepT B W' H' u u'→Q u' H') I ⟨W,s0,r,(h.bind r.slen).mono fun v W1 s1 H1 r1 st q v' rv=>⟨W1,s1,v,r1,st,rv,q⟩⟩) fun u s1 hh=>?_)
 obtain ⟨x,H1,I1,rx,W1,s2,v,r1,st,rv,q⟩:=hh
 split at q
 ·rename_i c fs
  split at q
  ·rename_i y ey
   cases (show Rep B W1 (.exn c fs) x from rv) with
   | exn hx hF hl rs =>
    rename_i a dd vs
    obtain rfl:u=Value.ref a:=rx
    obtain ⟨oe,hp,hz,ws,hd⟩:=HX.at_ a c dd hx
    obtain ⟨y',e1,ry,m⟩:=jOW rs ey
    obtain ⟨T,hno⟩:=C.cls c f m
    have ea:H1 dd=some (.xd ((B.fld c).zip vs)):=r1.hr.agree _ _ hF
    rw [C.fld c fun z=>by rw [z] at m; cases m] at ea
    obtain ⟨ha,_⟩:=I1.pin (a,oe) (List.mem_append_left _ hp)
    have hx:ObjOk X.prog X.w H1 s1.heap dd (.xd ((fl c).zip vs)):=I1.hok dd _ ea
    obtain ⟨mA,hns,hr⟩:=hx
    obtain ⟨od,ho,hl2⟩:=lookIn_ns hns
    obtain ⟨u,hu,ru⟩:=RelO.some_of (v:=y') (o:=mA f) (by rw [← e1]; exact hr f)
    have J:PySem.W.InstAt s1.heap a oe (B.cad c) (some od):=⟨ha,hz.1,by unfold PySem.W.notCls; rw [hd] <;> rfl,by rw [hz.2]; exact ho⟩
    exact HandSPX.exc_get I1.kIn J T.ga T.gg T.exC (PySem.W.findObj_own T.hdC hno rfl (by rw [hl2,hu])) (handed_of ru) ⟨y',H1,I1.tok _,ru,q.ok r1 y' ry.hand⟩
  ·exact q.elim
 ·exact q.elim
end
structure FnX (P:Program) (w:World) (K:PySem.W.Frag) (mg:Str→Option Value) (base:Heap) (B:Bs) (k:Nat) (x:Str) (n:Nat) (m:MF):Prop where
 ex:∃ f fd ps,mg x=some (.ref f)∧PySem.W.keepIn K (.ref f)=true∧Binds K fd ps []∧ps.length=n ∧
  ∀ (A:Around) (outer:List Env) (s:Shared) (H:Hp) (args:Args) (us:List Value) (vs:List V) (Q:VK) (E:XK) (p:Addr × Obj) (c:Nat) (dd:Addr),L2H.RoomH k A→L2H.PinOk outer H s p→Zc (.ref (B.cad c)) (some dd) p.2→(∃ ws,p.2.data=.fields ws)→Env0 P w K mg base A outer s H→BindsTo s fd args (ps.zip us)→Vals vs us →
   spF (B.with (p.1,c,dd)) n m vs H Q E→codeAny (model P w) A (.call (.ref f) args) (CR (L2.CX P w) outer P w H s Q E) s
theorem FnX.mono {P:Program} {w:World} {K:PySem.W.Frag} {mg:Str→Option Value} {base:Heap} {B:Bs} {j k:Nat} {x:Str} {n:Nat} {m:MF} (F:FnX P w K mg base B j x n m) (h:j≤k):FnX P w K mg base B k x n m :=
 let ⟨f,fd,ps,a,b,c,d,e⟩:=F.ex
 ⟨f,fd,ps,a,b,c,d,fun A outer s H args us vs Q E p c dd r=>e A outer s H args us vs Q E p c dd (r.mono h)⟩
structure BdyX (X:Cx) (B:Bs) (E:XK) (k:Nat):Prop where
 tk:Takes X fun c d _ H=>E c d H
 pa:PassesOwn (model X.prog X.w) X.A X.env X.xe
 rm:L2H.RoomH k X.A
 hx:HasX X B
theorem yUI {P:Program} {w:World} {K:PySem.W.Frag} {mg:Str→Option Value} {base:Heap} {x qual:Str} {params:Arguments} {body:List Stmt} {scope:Scope} {dvs:List V} {kws:List (Str × V)} {f:Addr} {fd:FuncData} {names ps:List Str} {k n kk:Nat} {B:Bs} {mb:MS}
    (F:FunD K x qual params body scope dvs kws f fd) (S:FnScope names ps scope) (hm:mg x=some (.ref f)) (hbi:Binds K fd ps []) (hn:ps.length=n) (hk:names.length - n=kk)
    (hb:∀ (cdv:Value) (A:Around) (outer:List Env) (s:Shared) (H:Hp) (E:XK) (N:Ent) (p:Addr × Obj) (c:Nat) (dd:Addr),BdyX (L2H.cxH (L2.CX P w) P w K mg base names qual scope f cdv A outer s H E p) (B.with (p.1,c,dd)) E k →
      SimSs (L2H.cxH (L2.CX P w) P w K mg base names qual scope f cdv A outer s H E p) (B.with (p.1,c,dd)) N (fun c d _ H=>E c d H) body mb):FnX P w K mg base B (k+1) x n (mkF kk mb):=by
  refine ⟨f,fd,ps,hm,F.kp,hbi,hn,fun A outer s H args us vs Q E p c dd hr hpin hz hd e0 hbt r hsp=>?_⟩
  obtain ⟨oc,od,dV,kV,doc,pm,an,cdv,ct,osl,rfl,lk,hcd,_,_⟩:=F.ex
  obtain ⟨W,h,xs,hrel,rr,el,q⟩:=hsp
  have hl:vs.length=ps.length:=by rw [hn,← el,rr.length]
  have KX:K.In s.heap:=e0.mod.kin.keeps fun b o e=>(e0.bs b o e).1
  have lim:s.heap.NoLimit:=e0.mod.nolimit.keeps fun b o e=>(e0.bs b o e).1
  have kinds:∀ y∈ps.zip us,scope.names.lookup y.1=some .local∨(scope.names.lookup y.1=some .cell∧((cellsFrom (s.heap.objs.size+1) scope.names []).lookup y.1).isSome=true):=fun ⟨n,v⟩ hy=>(S.par n (List.of_mem_zip hy).1).imp id fun q=>⟨q,PySem.W.cellsFrom_some _ _ _ (.inl q)⟩
  refine codeAny_call_function hr.depth (KX _ _ lk) rfl S.co S.gen rfl (PySem.W.codeRec_of KX hcd) (hbt _ _ _ _ (wpAny_newFunctionEnv_cells S.kind kinds fun env he s1 xx=>?_))
  subst he
  refine ⟨lim.keeps xx.toInCall.keep,codeAny_func ?_⟩
  have I:=L2H.inv_startH (CX:=L2.CX P w) (E:=E) (cd:=cdv) (qual:=qual) (f:=f) S hpin e0 hl r xx
  have bd:BdyX (L2H.cxH (L2.CX P w) P w K mg base names qual scope f cdv A outer s H E p) (B.with (p.1,c,dd)) E k:=⟨takes_of rfl rfl rfl rfl,passes_of rfl,hr.deeper _,⟨fun a c' dd' e=>by cases e; exact ⟨p.2,List.mem_singleton.mpr rfl,hz,hd⟩⟩⟩
  have st:=jNV (k:=kk) hrel rr
  have hq:tS (B.with (p.1,c,dd)) ⟨W,h,H,hrel.len,W⟩ (fun c d _ H=>E c d H) mb { nx:=fun _ H'=>Q .non H',rt:=Q } (L2.start names vs) H:=by
    refine ⟨W,⟨xs.map some++List.replicate kk none,h⟩,?_,?_⟩
    · unfold L2.start
      rw [show names.length - vs.length=kk by rw [← rr.length,el,hk]]
      exact st
    · unfold PostS
      unfold mkF at q
      split at q
      · rename_i v s1 e1
        rw [e1]
        exact fun W' σ' H' v' r' rv=>q W' H' v' r'.hr r'.st rv
      · rename_i s1 e1
        rw [e1]
        exact fun W' σ' H' r'=>q W' H' .non r'.hr r'.st .non
      · exact q.elim
      · rename_i x1 s1 e1
        rw [e1]
        exact fun W' σ' H' cls d r' ex=>q W' H' cls d r'.hr r'.st ex
      · exact q.elim
  refine wpAny_mono ((hb cdv A outer s H E ⟨W,h,H,hrel.len,W⟩ p c dd bd).run [] s1 _ H _ I hq) (fun fl s' hs=>?_) fun e s' hs=>hs
  cases fl with
  | ret u =>
    obtain ⟨v,σ',H',J,rv,q⟩:=hs
    exact ⟨v,H',J.os,J.bare,J.base,J.hok,rv,q⟩
  | next =>
    obtain ⟨σ',H',J,q⟩:=hs
    exact ⟨V.non,H',J.os,J.bare,J.base,J.hok,rfl,q⟩
  | brk =>
    obtain ⟨_,_,_,q⟩:=hs
    exact False.elim q
  | cont =>
    obtain ⟨_,_,_,q⟩:=hs
    exact False.elim q
section
variable {X:Cx} {B:Bs} {N:Ent} {WX:L2.WX} {x:Str} {c n k:Nat} {m:MF} {ma:MA} {e:Expr} {es:List Expr} {p pos:Pos} {y:Addr × Nat × Addr}
theorem yFZ (F:FnX X.prog X.w X.K X.mg X.base B k x n m) (HX:HasX X (B.with y)) (tk:Takes X WX) (hr:L2H.RoomH k X.A) (hg:Gl X x) (ha:SimA X (B.with y) N WX (e :: es) ma) (hdb:(x == ("__debug__" : Str))=false)
  (he:starEach (e :: es) X.env=(false,eval e X.env) :: starEach es X.env) (hpl:(backTo pos (starEach es X.env)).any (·.1)=false):SimE X (B.with y) N WX (.Call (.Name x p) (e :: es) [] pos) (yL n m ma):=by
 obtain ⟨f,fd,ps,hm,hk,hb,hn,run⟩:=F.ex
 refine ⟨fun pins s σ H Q I ⟨W,s0,r,h⟩=>?_⟩
 refine wpAny_Call_Name_kw (ld_glob I hg hm ?_ hdb)
 refine PySem.W.callWith_K (h₀:=X.base) I.ok.mod.kin hk (thn (ha.run pos pins s σ H (fun vs' H1=>spF (B.with y) n m vs' H1 Q fun c d H=>WX c d σ H) I ⟨W,s0,r,(h.bind r.slen).mono fun vs W1 s1 H1 r1 _ q vs' rv=>jQN r1 (rv.reps (jYX q)) q⟩) fun us s1 ⟨vs,H1,I1,rv2,q⟩=>⟨I1.kIn,?_⟩) he hpl
 show wpAny _ _ (call (.ref f) us) _ _ _
 obtain ⟨a,c,dd⟩:=y
 obtain ⟨oe,hp,hz,hd⟩:=HX.at_ a c dd rfl
 have hl:us.length=ps.length:=by
  obtain ⟨_,_,xs,_,rr,el,_⟩:=q
  rw [← rv2.length,hn,← el,rr.length]
 have b:=hb s1 us I1.kIn (by rw [List.append_nil]; exact hl)
 rw [List.append_nil] at b
 have P1:=I1.pin (a,oe) (List.mem_append_left _ hp)
 refine wpAny_call (codeAny_mono (run X.A X.stack s1 H1 ⟨us,[]⟩ us vs Q _ (a,oe) c dd hr ⟨P1.1,P1.2.1,fun hm=>(List.mem_cons.mp (I1.stkSub a hm)).elim P1.2.2.1 P1.2.2.2.1,P1.2.2.2.2⟩ hz hd I1.env0 b rv2 q) fun r s' hq=>?_)
 cases r with
 | error e=>exact passAt tk σ pins H1 s1 e s' I1 hq
 | ok fl =>
  cases fl with
  | ret u=>exact I1.after hq
  | next=>exact False.elim hq
  | brk=>exact False.elim hq
  | cont=>exact False.elim hq
end
end Lp
set_option maxHeartbeats 4000000
namespace Lp
open PySem PySem.Spec PyProof.Rows L2 LamX NdefX
noncomputable def jWI (okc:Nat→Bool) (ms:MS) (ml:ME):ME:=fun s=>match ml s with
 | .ok v s1=>if isOwn v=true then .bad else .ok (.tup [.str "", v]) ⟨s.e,s1.h⟩
 | .exc x s1=>match x with
  | .ins c fs=>if okc c=true then (match ms ⟨[none,some (.exn c fs)],s1.h⟩ with
   | .ok (.rt v) s2=>if noX v=true∧s2.h=s1.h then .ok v ⟨s.e,s1.h⟩ else .bad
   | _=>.bad) else .bad
  | _=>.bad
 | .bad=>.bad
section
variable {X:Cx} {B:Bs} {N:Ent} {WX:L2.WX} {W:Wd} {s:S} {σ σZ:L2.St} {H:Hp} {ms:MS} {ml:ME} {okc:Nat→Bool} {cs:List Value}
theorem ySS (h0:HRel B W s.h H) (hl:σZ.length=2) (N2:Ent) (e1:N2.W=W) (e2:N2.h=s.h) (e3:N2.H=H) (e4:N2.P=W):Rel B N2 W ⟨[none,none],s.h⟩ σZ H:=by
 obtain ⟨w,h,hh,l,p⟩:=N2
 simp only at e1 e2 e3 e4
 subst e1 e2 e3 e4
 have no:∀ (j:Nat) (x:PV),([none,none]:List (Option PV))[j]?=some (some x)→False:=fun j x e=>by
  have:=List.mem_of_getElem? e
  simp at this
 exact ⟨h0,Step.refl h0,by simpa using hl,fun j x e=>(no j x e).elim,fun j k x y a _ e=>(no j x e).elim,.refl _⟩
noncomputable def yJA (ms:MS) (c:Nat) (fs:List PV) (e:List (Option PV)) (h:AH):R S PV:=match ms ⟨[none,some (.exn c fs)],h⟩ with
 | .ok (.rt v) s2=>if noX v=true∧s2.h=h then .ok v ⟨e,h⟩ else .bad
 | _=>.bad
theorem yPW:jWI okc ms ml=fun s=>match ml s with
 | .ok v s1=>if isOwn v=true then R.bad else .ok (.tup [.str "", v]) ⟨s.e,s1.h⟩
 | .exc (.ins c fs) s1=>if okc c=true then yJA ms c fs s.e s1.h else .bad
 | _=>.bad:=by
 funext s
 unfold jWI
 cases ml s with
 | ok v s1=>rfl
 | bad=>rfl
 | exc x s1=>cases x <;> rfl
theorem yKK {K:PySem.W.Frag} {D:Ends} (hB:B.xn=none) (hm:∀ c,okc c=true→PySem.W.exmAny K (.ref (B.cad c)) cs=some true) (r:Rel B N W s σ H) {Q:VK} (h:Post B N WX W s H σ (jWI okc ms ml s) fun u W' _ H'=>∀ u',RepT B W' H' u u'→Q u' H') (hD:∀ v H',Q v H'→D.rt v H') :
  tE B N (fun cls d _ H'=>∀ σ':L2.St,σ'.length=2→yHO K cs 1 (fun a cls d D σ H=>∃ (N':Ent) (c:Nat) (dd:Addr),cls=.ref (B.cad c)∧d=some dd∧tS (B.with (a,c,dd)) N' (fun _ _ _ _=>False) ms D σ H) D cls d σ' H') ml σ H
   fun v' H'=>([V.str "", v']:List V).length≤sizeLine∧∀ p,H' p=none→D.rt (.ref p) (upd H' p (.tup [.str "", v'])):=by
 refine ⟨W,s,r,?_⟩
 rw [yPW] at h
 unfold Post at h ⊢
 cases e:ml s with
 | bad=>simp only [e] at h; exact h.elim
 | ok v s1 =>
  simp only [e] at h
  intro W' H' r1 st v' rv
  refine ⟨by show 2≤sizeLine; rw [sizeLine_eq]; exact Nat.le_of_ble_eq_true rfl,fun p hp=>?_⟩
  refine hD _ _ ?_
  split at h
  ·exact h.elim
  ·rename_i ow
   have rr:=rv.rep (by simpa using ow)
   have r2:=jGR r r1.hr st.st
   have r3:=jJR (o:=.tup [.str "", v']) r2 hp (by show 2≤sizeLine; rw [sizeLine_eq]; exact Nat.le_of_ble_eq_true rfl)
   have st3:StepE W s H ⟨upd W'.F p (.tup [.str "", v']),W'.m⟩ ⟨s.e,s1.h⟩ (upd H' p (.tup [.str "", v'])):=⟨st.st.trans r.slen (jGN r1.hr hp),fun _ _ e _=>e⟩
   exact h _ _ r3 st3 _ (jBY (r1.hr.fnone hp) (.cons (.str _ ⟨by decide +kernel,by decide +kernel⟩) (.cons rr .nil))).hand
 | exc x s1 =>
  simp only [e] at h
  intro W' H' cls d r1 st ex nw σ' hl
  obtain ⟨c,fs,dd,vs,rfl,rfl,rfl,e1,e2,e3,e4,e5,e6⟩:=ex
  dsimp only at h
  split at h
  ·rename_i oc
   refine ⟨hm c oc,fun a ha=>?_⟩
   -- the exception's dict stands still from now on
   have nd:H dd=none:=nw dd rfl
   have nt:NT (.xd ((B.fld c).zip vs)):=fun _ z=>nomatch z
   have hr1:=yGS r1.hr e5 e6 e1 nt
   have st1:Step W s.h H ⟨upd W'.F dd (.xd ((B.fld c).zip vs)),W'.m⟩ s1.h H':=st.st.keepNew nd e5
   have rx:Rep (B.with (a,c,dd)) ⟨upd W'.F dd (.xd ((B.fld c).zip vs)),W'.m⟩ (.exn c fs) (.ref a):=Rep.exn (B:=B.with (a,c,dd)) rfl upd_same e2 ((e3.mono (jCN e5)).up hB)
   generalize (⟨upd W'.F dd (.xd ((B.fld c).zip vs)),W'.m⟩:Wd)=W1 at hr1 st1 rx
   have ri:=ySS (σZ:=σ') (s:=⟨s.e,s1.h⟩) (hr1.up (x:=(a,c,dd)) hB) hl ⟨W1,s1.h,H',hr1.len,W1⟩ rfl rfl rfl rfl
   refine ⟨⟨W1,s1.h,H',hr1.len,W1⟩,c,dd,rfl,rfl,W1,⟨[none,some (.exn c fs)],s1.h⟩,jFQ (i:=1) ri rx,?_⟩
   unfold PostS
   unfold yJA at h
   cases e9:ms ⟨[none,some (.exn c fs)],s1.h⟩ with
   | bad=>rw [e9] at h; exact h.elim
   | exc x2 s2=>rw [e9] at h; exact h.elim
   | ok fl s2 =>
    rw [e9] at h
    cases fl with
    | rt v =>
     intro W2 σ2 H2 v' r2 rv
     dsimp only at h
     split at h
     ·rename_i hc
      obtain ⟨nv,eh⟩:=hc
      obtain ⟨e3',h3⟩:=s2
      simp only at eh
      subst eh
      have em:W2.m=W1.m:=by
       obtain ⟨t,et⟩:=r2.pin.m
       have l1:=hr1.len
       have l2:=r2.hr.len
       have et:W1.m++t=W2.m:=et
       rw [← et,List.length_append] at l2
       have l2:W1.m.length+t.length=s1.h.length:=l2
       have:t=[]:=List.length_eq_zero_iff.mp (by omega)
       rw [← et,this,List.append_nil]
      have hr2:=HRel.down hB hr1 r2.hr em
      have st2:Step W1 s1.h H' W2 s1.h H2:=r2.st
      have stf:=st1.trans r.slen st2
      exact hD _ _ (h W2 H2 (jGR r hr2 stf) (jIX stf) v' (rv.down nv).hand)
     ·exact h.elim
    | nx=>exact h.elim
    | bk=>exact h.elim
    | ct=>exact h.elim
  ·exact h.elim
end
structure TryF (P:Program) (w:World) (K:PySem.W.Frag) (mg:Str→Option Value) (base:Heap) (B:Bs) (k:Nat) (x:Str) (okc:Nat→Bool) (ms:MS):Prop where
 ex:∃ (g:Addr) (oc:Value) (od:Option Addr) (pg:Arguments) (bg:List Stmt) (sg:Scope) (dV kV doc pm cdv ct:Value) (an:Option Addr) (osl:Array (Option Value)) (cs:List Value),
  mg x=some (.ref g)∧PySem.W.keepIn K (.ref g)=true∧K.lookup g=some ⟨oc,od,.func (PySem.W.fnOf x x pg bg sg dV kV doc pm an cdv ct),osl⟩∧PySem.W.codeIn K cdv x=true∧L2.Binds K (PySem.W.fnOf x x pg bg sg dV kV doc pm an cdv ct) ["_law_ask"] []∧FnScope ["_law_ask", "_law_e"] ["_law_ask"] sg∧Vis sg "_law_ask" ∧
  (∀ c,okc c=true→PySem.W.exmAny K (.ref (B.cad c)) cs=some true) ∧
  ∀ (A:Around) (outer:List Env) (s:Shared) (H:Hp),Room k (A.deeper (envOfC x sg s.heap.objs.size g cdv)) →
   ∀ (tl:XK→Hp→VK→Prop) (f:Addr),(∀ (W:L2.WX) (pn:List (Addr × Obj)) (xe:Value→Shared→Prop) (E:XK) (p1 p2:Pos),Takes ((cxOf C8.CX0 P w K mg base ["_law_ask", "_law_e"] x sg g cdv A outer s H C8.E0).tr pn xe) W→(∀ cls d σ' H',E cls d H'→W cls d σ' H') →
    PE ((cxOf C8.CX0 P w K mg base ["_law_ask", "_law_e"] x sg g cdv A outer s H C8.E0).tr pn xe) (.Call (.Name "_law_ask" p1) [] [] p2) (fun σZ HZ Q=>σZ[0]?=some (some (.ref f))∧tl E HZ Q)) →
   ∃ t,PSs (cxOf C8.CX0 P w K mg base ["_law_ask", "_law_e"] x sg g cdv A outer s H C8.E0) bg t∧∀ (D:Ends) (σ:L2.St) (H:Hp),σ.length=2→σ[0]?=some (some (.ref f)) →
    tl (fun cls d H'=>∀ σ':L2.St,σ'.length=2→yHO K cs 1 (fun a cls d D σ H=>∃ (N':Ent) (c:Nat) (dd:Addr),cls=.ref (B.cad c)∧d=some dd∧tS (B.with (a,c,dd)) N' (fun _ _ _ _=>False) ms D σ H) D cls d σ' H') H (fun v' H'=>([V.str "", v']:List V).length≤sizeLine∧∀ p,H' p=none→D.rt (.ref p) (upd H' p (.tup [.str "", v'])))→t D σ H
section
variable {P:Program} {w:World} {K:PySem.W.Frag} {mg:Str→Option Value} {base:Heap} {B:Bs} {k:Nat} {x:Str} {sg:Scope} {g:Addr} {cdv:Value} {A:Around} {outer:List Env} {s:Shared} {H:Hp} {okc:Nat→Bool} {ms:MS} {cs:List Value} {f:Addr} {tl:XK→Hp→VK→Prop}
variable {tt:Expr} {b₀:Stmt} {suite:List Stmt} {j k1:Nat} {q1 q2 q2' q3 q4 q5 q6 q7:Pos}
theorem yKL (hN:(["_law_ask", "_law_e"]:List Str).Nodup) (he:sg.names.lookup ("_law_e" : Str)=some .local) (T:TestX (cxOf C8.CX0 P w K mg base ["_law_ask", "_law_e"] x sg g cdv A outer s H C8.E0) tt cs)
  (act:∀ (W:L2.WX) (pn:List (Addr × Obj)) (xe:Value→Shared→Prop) (E:XK) (p1 p2:Pos),Takes ((cxOf C8.CX0 P w K mg base ["_law_ask", "_law_e"] x sg g cdv A outer s H C8.E0).tr pn xe) W→(∀ cls d σ' H',E cls d H'→W cls d σ' H') →
    PE ((cxOf C8.CX0 P w K mg base ["_law_ask", "_law_e"] x sg g cdv A outer s H C8.E0).tr pn xe) (.Call (.Name "_law_ask" p1) [] [] p2) (fun σZ HZ Q=>σZ[0]?=some (some (.ref f))∧tl E HZ Q))
  (hsu:∀ (a:Addr) (oe:Obj) (c:Nat) (dd:Addr) (pn:List (Addr × Obj)) (N':Ent),HasX ((cxOf C8.CX0 P w K mg base ["_law_ask", "_law_e"] x sg g cdv A outer s H C8.E0).suite a ((a,oe) :: pn)) (B.with (a,c,dd)) →
   SimSs ((cxOf C8.CX0 P w K mg base ["_law_ask", "_law_e"] x sg g cdv A outer s H C8.E0).suite a ((a,oe) :: pn)) (B.with (a,c,dd)) N' (fun _ _ _ _=>False) (b₀ :: suite) ms) :
  ∃ t,PSs (cxOf C8.CX0 P w K mg base ["_law_ask", "_law_e"] x sg g cdv A outer s H C8.E0) [.Try [.Return (some (.Tuple [.Constant (.str "") j q1,.Call (.Name "_law_ask" q2) [] [] q2'] k1 q3)) q4] [.ExceptHandler (some tt) (some "_law_e") (b₀ :: suite) q5] [] [] q6] t∧∀ (D:Ends) (σ:L2.St) (H:Hp),σ.length=2→σ[0]?=some (some (.ref f)) →
    tl (fun cls d H'=>∀ σ':L2.St,σ'.length=2→yHO K cs 1 (fun a cls d D σ H=>∃ (N':Ent) (c:Nat) (dd:Addr),cls=.ref (B.cad c)∧d=some dd∧tS (B.with (a,c,dd)) N' (fun _ _ _ _=>False) ms D σ H) D cls d σ' H') H (fun v' H'=>([V.str "", v']:List V).length≤sizeLine∧∀ p,H' p=none→D.rt (.ref p) (upd H' p (.tup [.str "", v'])))→t D σ H:=by
 refine ⟨_,pss_one (yGL (tb:=fun W D σ H=>∃ E:XK,(∀ cls d H',E cls d H'→∀ σ':L2.St,σ'.length=2→W cls d σ' H')∧σ[0]?=some (some (.ref f))∧tl E H (fun v' H'=>([V.str "", v']:List V).length≤sizeLine∧∀ p,H' p=none→D.rt (.ref p) (upd H' p (.tup [.str "", v']))))
  (ts:=fun a cls d D σ H=>∃ (N':Ent) (c:Nat) (dd:Addr),cls=.ref (B.cad c)∧d=some dd∧tS (B.with (a,c,dd)) N' (fun _ _ _ _=>False) ms D σ H) (i:=1) rfl rfl hN rfl he T (fun W pn xe tk pa=>?_) fun a oe cls d pn hz hd=>?_),fun D σ H hl h0 h=>⟨_,fun cls d H' q=>q,h0,h⟩⟩
 ·-- the wish told of frames of two slots
  have tk2:Takes ((cxOf C8.CX0 P w K mg base ["_law_ask", "_law_e"] x sg g cdv A outer s H C8.E0).tr pn xe) (fun cls d σ H=>σ.length=2→W cls d σ H):=fun u s' ⟨a,B,sI,pins,σ,H,cls,d,e,I,nb,up,sky,na,os,ag,w⟩=>tk u s' ⟨a,B,sI,pins,σ,H,cls,d,e,I,nb,up,sky,na,os,ag,w I.len⟩
  refine ⟨fun pins s2 σ H D I ⟨E,hE,h0,h⟩=>?_⟩
  refine (pss_one (ps_ret (pos:=q4) (pe_tup (x1:=k1) (pos:=q3) (pa_cons (pe_str (j:=j) (pos:=q1)) (pa_cons (act _ pn xe E q2 q2' tk2 fun cls d σ' H' q hl=>hE cls d H' q σ' hl) pa_nil))))).run pins s2 σ H D I ?_
  refine ⟨h0,?_⟩
  exact h
 ·refine ⟨fun pins s2 σ H D I ⟨N',c,dd,e1,e2,h⟩=>?_⟩
  subst e1
  subst e2
  refine (hsu a oe c dd pn N' ⟨fun a' c' dd' e=>?_⟩).run pins s2 σ H D I h
  cases e
  exact ⟨oe,List.mem_cons_self,hz,hd⟩
end
structure LamT (X:Cx) (B:Bs):Prop where
 ex:∃ c P,TabB X.base X.mg c P∧X.env.code=.ref c∧(P,X.env.qual ++ "<lambda>")∈B.T∧∀ p∈B.T,p.1=P→p.2=X.env.qual ++ "<lambda>"
section
variable {X:Cx} {B:Bs} {N:Ent} {WX:L2.WX} {k j:Nat} {x:Str} {okc:Nat→Bool} {ms:MS} {ml:ME} {params:Arguments} {body:Expr} {scope:Scope} {p lpos pos:Pos}
theorem yDK (F:TryF X.prog X.w X.K X.mg X.base B k x okc ms) (hB:B.xn=none) (LT:LamT X B) (hr:Room (k+1) X.A) (hg:Gl X x) (L:LamS X.env.scope scope) (hdef:defaultsOf params X.env=([],[]))
    (hbind:∀ (q:Str) (cl:List (Str × Addr)) (pm cv ctv:Value),bindArgs (PySem.W.kla_fn "<lambda>" q params body scope cl pm cv ctv) ⟨[],[]⟩=pure [])
    (hbody:∀ (A:Around) (outer:List Env) (s:Shared) (H:Hp) (E:XK) (f c':Addr),Room j (A.deeper (lamEnv X scope s.heap.objs.size f c'))→Takes (lamCx X A outer s H E scope f c') (fun c d _ H=>E c d H)→SimE (lamCx X A outer s H E scope f c') B N (fun c d _ H=>E c d H) body ml) (hjk:j+1≤k)
    (hdb:(x == ("__debug__" : Str))=false:=by decide) :
    SimE X B N WX (.Call (.Name x p) [.Lambda params body scope lpos] [] pos) (jWI okc ms ml):=by
  refine ⟨fun pins s σ H Q I h=>?_⟩
  obtain ⟨g,oc,od,pg,bg,sg,dV,kV,doc,pm,cdv,ct,an,osl,cs,hm,hk,lk,hcg,hb,Sg,hva,hok,giv⟩:=F.ex
  obtain ⟨c,P,TB,hcode,hmT,hu⟩:=LT.ex
  obtain ⟨W,s0,r,h⟩:=h
  refine wpAny_Call_Name_kw (ld_glob I hg hm ?_ hdb)
  refine PySem.W.callWith_K (h₀:=X.base) I.ok.mod.kin hk ?_ (by rfl) (by rfl)
  show wpAny _ _ (spliced ((false,eval (.Lambda params body scope lpos) X.env) :: backTo pos (starEach [] X.env))) _ _ s
  refine Calls.spliced_cons (yPN I TB hcode hmT hu r.hr.tb hdef (L.has I.ok) fun f c1 pm' ctv H1 s1 I1 lh T1 hf hfn hfr hco=>?_)
  refine Calls.spliced_nil ⟨I1.kIn,?_⟩
  have r1:=jGR r (yMI r.hr lh T1) (jXH r.hr lh)
  have h1:=Post.from r.slen (jIX (jXH r.hr lh)) h
  have rc:codeAny (model X.prog X.w) X.A (.call (.ref g) ⟨[.ref f],[]⟩) (CR C8.CX0 X.stack X.prog X.w H1 s1 Q C8.E0) s1:=by
    refine run_ofS (N:=["_law_ask", "_law_e"]) (ps:=["_law_ask"]) (us:=[.ref f]) (vs:=[.ref f]) lk hcg Sg hr I1.env0 (hb s1 [.ref f] I1.kIn rfl) (.cons rfl .nil) rfl fun hr'=>?_
    obtain ⟨t,ht,hq⟩:=giv X.A X.stack s1 H1 hr' (fun E HZ Q'=>HZ c1=some (CodeO c1 (X.env.qual ++ "<lambda>"))∧tE B N (fun c d _ H=>E c d H) ml σ HZ Q') f fun W pn xe E p1 p2 tk hW =>
      pe_act (i:=0) I1 L hf hfn hfr (hbind _ _ _ _ _) tk hW (hr'.mono hjk) (fun A outer s H hr2=>hbody A outer s H E f c1 hr2 (takes_of rfl rfl rfl rfl)) rfl hva rfl rfl
    refine ⟨t,ht,hq _ _ _ rfl rfl ⟨hco,?_⟩⟩
    exact yKK (D:={ nx:=fun _ H'=>Q .non H',rt:=Q }) hB hok r1 h1 fun _ _ q=>q
  refine wpAny_call (codeAny_mono rc fun r s2 hq=>?_)
  cases r with
  | error e=>exact (show False from hq).elim
  | ok fl =>
    cases fl with
    | ret u=>exact I1.after hq
    | next=>exact False.elim hq
    | brk=>exact False.elim hq
    | cont=>exact False.elim hq
end
end Lp
set_option maxHeartbeats 4000000
namespace Lp
open PySem PySem.Spec PyProof.Rows L2 LamX NdefX
def jSD:Obj→Bool
 | ⟨.none,none,.fields vs,sl⟩=>decide (vs.size=0)&&decide (sl.size=0)
 | _=>false
theorem yMG {o:Obj} (h:jSD o=true):o={ cls:=.none,data:=.fields #[] }:=by
  unfold jSD at h
  split at h
  · rename_i vs sl
    obtain ⟨h1,h2⟩:=Bool.and_eq_true_iff.mp h
    rw [Array.eq_empty_of_size_eq_zero (of_decide_eq_true h1),Array.eq_empty_of_size_eq_zero (of_decide_eq_true h2)]
  · cases h
def yVN (g:Addr→Option Obj) (as:List Addr):List Addr:=as.filter fun a=>match g a with
 | some o=>jSD o
 | none=>false
def yWO (g:Addr→Option Obj) (as:List Addr):List Addr:=as.filter fun a=>match g a with
 | some o=>!jSD o
 | none=>true
theorem yAV {g:Addr→Option Obj} {a:Addr}:∀ {as:List Addr},a∉as→(He.frG g as).lookup a=none
 | [],_=>rfl
 | b :: r,h=>by
  simp only [List.mem_cons,not_or] at h
  unfold He.frG
  cases e:g b with
  | none =>
   rw [List.filterMap_cons,e]
   exact yAV h.2
  | some o =>
   rw [List.filterMap_cons,e]
   show (((b,o) :: He.frG g r).lookup a)=none
   rw [List.lookup_cons,show (a == b)=false from beq_false_of_ne h.1]
   exact yAV h.2
abbrev FactL:Type:=PySem.W.Frag→List Addr→Bool
abbrev FnL:Type:=Option (Str × Str × Arguments × FuncBody × Scope × Addr × List Str × Addr)
def fnL (K:PySem.W.Frag) (a:Addr):FnL:=match K.lookup a with
 | some ⟨_,_,.func fd,_⟩=>some (fd.name,fd.qualname,fd.params,fd.body,fd.scope,fd.globals,fd.closure.map (·.1),fd.builtins)
 | _=>none
structure DefL where
 at_:PySem.W.Frag→Addr
 name:Str
 qual:Str
 params:Arguments
 body:List Stmt
 scope:Scope
 cl:List Str:=[]
 dfl:List He.Dv:=[]
 kwd:List (Str × He.Dv):=[]
def DefL.val (d:DefL):FnL:=some (d.name,d.qual,d.params,.stmts d.body,d.scope,mainGlobals,d.cl,builtinsNs)
def DefL.ok (K:PySem.W.Frag) (d:DefL):Bool:=PySem.W.keepIn K (.ref (d.at_ K))&&(match K.lookup (d.at_ K) with
 | some ⟨_,_,.func fd,_⟩=>PySem.W.codeIn K fd.code d.qual&&(He.dflB K fd.defaults (d.dfl.map (He.Dv.v K))&&He.kwdB K fd.kwdefaults (d.kwd.map fun q=>(q.1,q.2.v K)))
 | _=>false)
def jWD (P:Program) (K:PySem.W.Frag) (a D:Addr):Bool:=match K.lookup a with
 | some ⟨_,_,.func fd,_⟩=>(match fd.code,fd.closure with
  | .ref c,[(_,cc)]=>(match K.lookup c with
   | some ⟨_,_,.fields vs,_⟩=>(match (vs[2]?:Option Value) with
    | some (.str file _)=>((P.main.file:Str) == file)
    | _=>false)
   | _=>false)&&(match K.lookup cc with
   | some ⟨_,_,.cell (some (.ref D')),_⟩=>decide (D'=D)
   | _=>false)
  | _,_=>false)&&((PySem.W.clsIn K D).isSome&&decide (PySem.W.nsIn K cStatics "thirdparty.any" = some none))
 | _=>false
section
variable {K:PySem.W.Frag} {d:DefL}
theorem DefL.get (e:fnL K (d.at_ K)=d.val) (c:d.ok K=true):PySem.W.keepIn K (.ref (d.at_ K))=true∧∃ (oc:Value) (od:Option Addr) (fd:FuncData) (osl:Array (Option Value)),K.lookup (d.at_ K)=some ⟨oc,od,.func fd,osl⟩ ∧
  PySem.W.codeIn K fd.code d.qual=true∧DflV K fd.defaults (d.dfl.map (He.Dv.v K))∧KwdV K fd.kwdefaults (d.kwd.map fun q=>(q.1,q.2.v K)) ∧
  fd.name=d.name∧fd.qualname=d.qual∧fd.params=d.params∧fd.body=.stmts d.body∧fd.scope=d.scope∧fd.globals=mainGlobals∧fd.closure.map (·.1)=d.cl∧fd.builtins=builtinsNs:=by
 obtain ⟨kp,c2⟩:=Bool.and_eq_true_iff.mp c
 refine ⟨kp,?_⟩
 unfold fnL at e
 cases q:K.lookup (d.at_ K) with
 | none=>rw [q] at c2; cases c2
 | some o =>
  obtain ⟨oc,od,dt,osl⟩:=o
  rw [q] at c2 e
  cases dt with
  | func fd =>
   have e2:(some (fd.name,fd.qualname,fd.params,fd.body,fd.scope,fd.globals,fd.closure.map (·.1),fd.builtins):FnL)=some (d.name,d.qual,d.params,.stmts d.body,d.scope,mainGlobals,d.cl,builtinsNs):=e
   simp only [Option.some.injEq,Prod.mk.injEq] at e2
   obtain ⟨h1,h2,h3,h4,h5,h6,h7,h8⟩:=e2
   obtain ⟨k1,k2⟩:=Bool.and_eq_true_iff.mp (show (PySem.W.codeIn K fd.code d.qual&&(He.dflB K fd.defaults (d.dfl.map (He.Dv.v K))&&He.kwdB K fd.kwdefaults (d.kwd.map fun q=>(q.1,q.2.v K))))=true from c2)
   obtain ⟨k3,k4⟩:=Bool.and_eq_true_iff.mp k2
   exact ⟨oc,od,fd,osl,rfl,k1,He.dflB_ok k3,He.kwdB_ok k4,h1,h2,h3,h4,h5,h6,h7,h8⟩
  | _=>cases c2
theorem DefL.funD (e:fnL K (d.at_ K)=d.val) (c:d.ok K=true) (hc:d.cl=[]):∃ fd,FunD K d.name d.qual d.params d.body d.scope (d.dfl.map (He.Dv.v K)) (d.kwd.map fun q=>(q.1,q.2.v K)) (d.at_ K) fd:=by
 obtain ⟨kp,oc,od,fd,osl,lk,k1,k2,k3,h1,h2,h3,h4,h5,h6,h7,h8⟩:=d.get e c
 obtain ⟨n1,n2,n3,n4,n5,n6,n7,n8,n9,n10,n11,n12,n13,n14,n15⟩:=fd
 simp only at h1 h2 h3 h4 h5 h6 h7 h8 k1 k2 k3
 rw [hc,List.map_eq_nil_iff] at h7
 subst h1 h2 h3 h4 h5 h6 h7 h8
 exact ⟨_,⟨oc,od,n8,n9,n10,n11,n12,n13,n14,osl,rfl,lk,k1,k2,k3⟩,kp⟩
theorem DefL.sup {P:Program} {D:Addr} (e:fnL K (d.at_ K)=d.val) (c:d.ok K=true) (hc:d.cl=[("__class__" : Str)]) (hn:d.name = "__init__") (hb:jWD P K (d.at_ K) D=true)
  (self:∃ ar:Arg,(d.params.posonlyargs++d.params.args).head?=some ar∧ar.arg=("self" : Str)) (hs:d.scope.names.lookup ("super" : Str)=some .globalImplicit) (hcl:d.scope.names.lookup ("__class__" : Str)=some .free) (hl:d.scope.names.lookup ("self" : Str)=some .local)
  (top:(P.main.scope.names.lookup ("super" : Str)).isSome=false):∃ cc cda fd,SupF P K D d.qual d.params d.body d.scope (d.at_ K) cc cda fd∧∃ (oc:Value) (od:Option Addr) (dV kV doc pm:Value) (an:Option Addr) (ct:Value) (osl:Array (Option Value)),fd=PySem.W.ksFn "__init__" d.qual d.params d.body d.scope dV kV doc pm an (.ref cda) ct cc∧DflV K dV (d.dfl.map (He.Dv.v K)):=by
 obtain ⟨kp,oc,od,fd,osl,lk,k1,k2,k3,h1,h2,h3,h4,h5,h6,h7,h8⟩:=d.get e c
 unfold jWD at hb
 rw [lk] at hb
 obtain ⟨n1,n2,n3,n4,n5,n6,n7,n8,n9,n10,n11,n12,n13,n14,n15⟩:=fd
 simp only at h1 h2 h3 h4 h5 h6 h7 h8 k1 k2 k3
 rw [hc] at h7
 rw [hn] at h1
 obtain ⟨p,rfl,hp⟩:=List.map_eq_singleton_iff.mp h7
 obtain ⟨pn,cc⟩:=p
 have hp:pn = "__class__" := hp
 subst hp
 dsimp only at hb
 obtain ⟨hb1,hb2⟩:=Bool.and_eq_true_iff.mp hb
 obtain ⟨hb2,hb3⟩:=Bool.and_eq_true_iff.mp hb2
 cases n13 with
 | ref cda =>
  dsimp only at hb1
  obtain ⟨f1,f2⟩:=Bool.and_eq_true_iff.mp hb1
  have hfile:∃ (ccl:Value) (cdd:Option Addr) (vs:Array Value) (ccs:Array (Option Value)) (file:Str) (tf:Tok),K.lookup cda=some ⟨ccl,cdd,.fields vs,ccs⟩∧vs[2]?=some (.str file tf)∧((P.main.file:Str) == file)=true:=by
   split at f1
   ·rename_i ccl cdd vs ccs q
    split at f1
    ·rename_i file tf q2
     exact ⟨ccl,cdd,vs,ccs,file,tf,q,q2,f1⟩
    ·cases f1
   ·cases f1
  have hcell:∃ (cl:Value) (cld:Option Addr) (csl:Array (Option Value)),K.lookup cc=some ⟨cl,cld,.cell (some (.ref D)),csl⟩:=by
   split at f2
   ·rename_i cl cld D' csl q
    have:=of_decide_eq_true f2
    subst this
    exact ⟨cl,cld,csl,q⟩
   ·cases f2
  subst h1 h2 h3 h4 h5 h6 h8
  refine ⟨cc,cda,_,⟨⟨oc,od,n8,n9,n10,n11,n12,n14,osl,rfl,lk⟩,k1,hfile,hcell,?_,of_decide_eq_true hb3,self,hs,hcl,hl,top⟩,oc,od,n8,n9,n10,n11,n12,n14,osl,rfl,k2⟩
  cases z:PySem.W.clsIn K D with
  | none=>rw [z] at hb2; cases hb2
  | some cd=>exact ⟨cd,rfl⟩
 | _=>cases hb1
end
def jWC (K:PySem.W.Frag) (B i newId:String) (bmB:List Value) (D:Addr):Bool:=PySem.W.excInitIn K D bmB newId&&(decide (PySem.W.ks_superIn K D D "__init__" = some (some (.builtin i)))&&(decide (PySem.W.subIn K (.ref D) (.type B)=some true)&&(decide (PySem.W.mroIn K D (.ref D)=some true)&&(PySem.W.excOver K D bmB &&
 ((match PySem.W.clsIn K D with
  | some cd=>cd.hasDict
  | none=>false)&&(decide (PySem.W.findIn K (.ref D) "__setattr__" = some (some (.builtin "object.__setattr__")))&&(decide (PySem.W.subIn K (.ref D) (.type "BaseException")=some true)&&(decide (PySem.W.typeIn K (.ref D)=some (.type "type"))&&PySem.W.keepIn K (.ref D)))))))))
theorem yDE {K:PySem.W.Frag} {B i newId:String} {bmB:List Value} {D:Addr} (h:jWC K B i newId bmB D=true):VeC K B i newId bmB D:=by
 unfold jWC at h
 simp only [Bool.and_eq_true,decide_eq_true_eq] at h
 obtain ⟨h1,h2,h3,h4,h5,h6,h7,h8,h9,h10⟩:=h
 refine ⟨⟨h1,h2,h3,h4⟩,⟨h5,?_,h7⟩,h8,h9,h10⟩
 split at h6
 ·rename_i cd q; exact ⟨cd,q,h6⟩
 ·cases h6
def jTD (K:PySem.W.Frag) (C:Addr) (fs:List Str):Bool:=xfB K C&&fs.all fun f=>decide (PySem.W.findIn K (.ref C) f=some none)
theorem jLT {K:PySem.W.Frag} {C:Addr} {fs:List Str} (h:jTD K C fs=true) {f:Str} (hf:f∈fs):XfC K C∧PySem.W.findIn K (.ref C) f=some none:=by
 obtain ⟨h1,h2⟩:=Bool.and_eq_true_iff.mp h
 exact ⟨xfB_ok h1,of_decide_eq_true (List.all_eq_true.mp h2 f hf)⟩
def jCI (K:PySem.W.Frag) (a:Addr):Addr:=match K.lookup a with
 | some ⟨_,_,.func fd,_⟩=>(match fd.code with
  | .ref c=>c
  | _=>0)
 | _=>0
def jDA (K:PySem.W.Frag) (a:Addr):Addr:=match K.lookup (jCI K a) with
 | some ⟨_,_,.fields vs,_⟩=>(match (vs[11]?:Option Value) with
  | some (.ref P)=>P
  | _=>0)
 | _=>0
def jZY (K:PySem.W.Frag) (T:List Addr) (a:Addr):Bool:=decide (jDA K a∈T)&&(decide (jCI K a≠jDA K a)&&(decide (mainGlobals≠jDA K a)&&((match K.lookup a with
 | some ⟨_,_,.func fd,_⟩=>(match fd.code with
  | .ref c=>true
  | _=>false)
 | _=>false)&&(match K.lookup (jCI K a) with
 | some ⟨.type c,_,.fields vs,_⟩=>decide (c = "code")&&((match (vs[11]?:Option Value) with
   | some (.ref _)=>true
   | _=>false)&&((match (vs[18]?:Option Value) with
   | some (.str _ _)=>true
   | _=>false)&&((match (vs[7]?:Option Value) with
   | some (.int _ _)=>true
   | _=>false)&&((match (vs[9]?:Option Value) with
   | some (.bool _)=>true
   | _=>false)&&(match (vs[10]?:Option Value) with
   | some (.int _ _)=>true
   | _=>false)))))
 | _=>false))))
theorem yDH {K:PySem.W.Frag} {T:List Addr} {a:Addr} (b:jZY K T a=true):jDA K a∈T∧mainGlobals≠jDA K a∧(∀ {fd:FuncData} {oc:Value} {od:Option Addr} {osl:Array (Option Value)},K.lookup a=some ⟨oc,od,.func fd,osl⟩→fd.code=.ref (jCI K a))∧∀ h:Heap,K.In h→PySem.W.CodeHd h (jCI K a) (jDA K a):=by
 unfold jZY at b
 simp only [Bool.and_eq_true,decide_eq_true_eq] at b
 obtain ⟨b1,b2,b3,b4,b5⟩:=b
 refine ⟨b1,b3,fun {fd oc od osl} lk=>?_,fun h X=>?_⟩
 ·unfold jCI
  rw [lk] at b4 ⊢
  dsimp only at b4 ⊢
  cases e:fd.code with
  | ref c=>rfl
  | _=>rw [e] at b4; cases b4
 ·split at b5
  ·rename_i c od vs sl q
   simp only [Bool.and_eq_true,decide_eq_true_eq] at b5
   obtain ⟨rfl,c1,c2,c3,c4,c5⟩:=b5
   have hP:jDA K a=(match (vs[11]?:Option Value) with
    | some (.ref P)=>P
    | _=>0):=by
    unfold jDA
    rw [q]
   obtain ⟨P,e1⟩:∃ P,vs[11]?=some (Value.ref P):=by
    split at c1
    ·rename_i P e; exact ⟨P,e⟩
    ·cases c1
   obtain ⟨file,tf,e2⟩:∃ file tf,vs[18]?=some (Value.str file tf):=by
    split at c2
    ·rename_i f t e; exact ⟨f,t,e⟩
    ·cases c2
   obtain ⟨flags,tg,e3⟩:∃ i t,vs[7]?=some (Value.int i t):=by
    split at c3
    ·rename_i f t e; exact ⟨f,t,e⟩
    ·cases c3
   obtain ⟨inF,e4⟩:∃ b,vs[9]?=some (Value.bool b):=by
    split at c4
    ·rename_i f e; exact ⟨f,e⟩
    ·cases c4
   obtain ⟨text,tt,e5⟩:∃ i t,vs[10]?=some (Value.int i t):=by
    split at c5
    ·rename_i f t e; exact ⟨f,t,e⟩
    ·cases c5
   have hP:jDA K a=P:=by rw [hP,e1]
   have gd:∀ {i:Nat} {v:Value},vs[i]?=some v→vs.getD i .none=v:=fun {i v} e=>by
    rw [Array.getD_eq_getD_getElem?,e]; rfl
   exact ⟨_,vs,file,tf,flags,tg,inF,text,tt,X _ _ q,rfl,rfl,by rw [hP]; exact e1,by rw [hP]; exact gd e1,gd e2,gd e3,gd e4,gd e5,b2⟩
  ·cases b5
abbrev AlL:Type:=(Bool × List FnL) × List (Option (List (Option (Str × Int))))
def yVD (fa:List FactL) (fn:List DefL) (ts:List He.Tab) (K:PySem.W.Frag) (T:List Addr):AlL:=(((fa.all fun f=>f K T)&&fn.all fun d=>d.ok K,fn.map fun d=>fnL K (d.at_ K)),ts.map fun t=>He.dicW K (t.1 K))
def yRJ (fn:List DefL) (ts:List He.Tab) (w:World):AlL:=((true,fn.map DefL.val),ts.map fun t=>some (He.keysIn w.params t.2))
def SaysL (fa:List FactL) (fn:List DefL) (ts:List He.Tab) (w:World) (K:PySem.W.Frag) (T:List Addr):Prop:=yVD fa fn ts K T=yRJ fn ts w
def yWF (fa:List FactL) (fn:List DefL) (ts:List He.Tab) (g:Addr→Option Obj) (as:List Addr):AlL:=yVD fa fn ts (He.frG g (yWO g as)) (yVN g as)
def SayL (fa:List FactL) (fn:List DefL) (ts:List He.Tab) (w:World) (h:Heap) (K:PySem.W.Frag) (T:List Addr):Prop:=K.In h∧(∀ P∈T,h.get? P=some { cls:=.none,data:=.fields #[] }∧K.lookup P=none)∧SaysL fa fn ts w K T
section
variable {fa:List FactL} {fn:List DefL} {ts:List He.Tab} {w:World} {K:PySem.W.Frag} {T:List Addr}
theorem SaysL.fact (c:SaysL fa fn ts w K T) (i:Nat) {f:FactL} (h:fa[i]?=some f:=by rfl):f K T=true:=by
 have c1:=(Bool.and_eq_true_iff.mp (show ((fa.all fun f=>f K T)&&fn.all fun d=>d.ok K)=true from congrArg (fun z:AlL=>z.1.1) c)).1
 exact List.all_eq_true.mp c1 f (List.mem_of_getElem? h)
theorem SaysL.def_ (c:SaysL fa fn ts w K T) (i:Nat) {d:DefL} (h:fn[i]?=some d:=by rfl):fnL K (d.at_ K)=d.val∧d.ok K=true:=by
 have c2:=(Bool.and_eq_true_iff.mp (show ((fa.all fun f=>f K T)&&fn.all fun d=>d.ok K)=true from congrArg (fun z:AlL=>z.1.1) c)).2
 have e:fn.map (fun d=>fnL K (d.at_ K))=fn.map DefL.val:=congrArg (fun z:AlL=>z.1.2) c
 have e2:(fn.map fun d=>fnL K (d.at_ K))[i]?=(fn.map DefL.val)[i]?:=by rw [e]
 rw [List.getElem?_map,List.getElem?_map,h] at e2
 exact ⟨Option.some.inj e2,List.all_eq_true.mp c2 d (List.mem_of_getElem? h)⟩
theorem SaysL.dicW (c:SaysL fa fn ts w K T) (i:Nat) {t:He.Tab} (h:ts[i]?=some t:=by rfl):He.dicW K (t.1 K)=some (He.keysIn w.params t.2):=by
 have e:ts.map (fun t=>He.dicW K (t.1 K))=ts.map fun t=>some (He.keysIn w.params t.2):=congrArg (fun z:AlL=>z.2) c
 have e2:(ts.map fun t=>He.dicW K (t.1 K))[i]?=(ts.map fun t=>some (He.keysIn w.params t.2))[i]?:=by rw [e]
 rw [List.getElem?_map,List.getElem?_map,h] at e2
 exact Option.some.inj e2
theorem SaysL.dic (c:SaysL fa fn ts w K T) (i:Nat) {t:He.Tab} (h:ts[i]?=some t:=by rfl):∃ es n,KDict K w (t.1 K) es n:=by
 have e:ts.map (fun t=>He.dicW K (t.1 K))=ts.map fun t=>some (He.keysIn w.params t.2):=congrArg (fun z:AlL=>z.2) c
 have e2:(ts.map fun t=>He.dicW K (t.1 K))[i]?=(ts.map fun t=>some (He.keysIn w.params t.2))[i]?:=by rw [e]
 rw [List.getElem?_map,List.getElem?_map,h] at e2
 exact He.dicW_ok (Option.some.inj e2)
end
def yFD (K:PySem.W.Frag) (ls:List ((PySem.W.Frag→Addr) × Str)):List (Addr × Str):=ls.map fun p=>(jDA K (p.1 K),p.2)
theorem yVJ {l:PySem.W.OpenLaw} {n k:Nat} {q:Program} {loose:List Str} {XP:(Str→Option Value)→Heap→Prop} {YP:World→Heap→Prop} {d:DefRec} {x:Str} {fa:List FactL} {fn:List DefL} {ts:List He.Tab} {B:World→PySem.W.Frag→Bs} {m:MF} {ls:List ((PySem.W.Frag→Addr) × Str)}
  (hn:l.most=some n) (hn2:n≤sizeLine) (hdf:d.params.defaults=[]) (hr:Room k callerA) (hY:∀ w h,YP w h→∃ K T,SayL fa fn ts w h K T) (hB:∀ w K,(B w K).K=K) (hT:∀ w K,(B w K).T=yFD K ls) (hls:∀ w K T,SaysL fa fn ts w K T→∀ p∈ls,jZY K T (p.1 K)=true)
  (F:∀ (w:World) (mg:Str→Option Value) (f:Addr) (h:Heap) (K:PySem.W.Frag) (T:List Addr),K.In h→h.Ns mainGlobals mg→mg d.name=some (.ref f)→SaysL fa fn ts w K T →
   ∃ fd:FuncData,(∀ (s:Shared) (u:Value),BindsTo s fd ⟨[u],[]⟩ [(x,u)])∧∀ base:Heap,K.In base→base.Ns mainGlobals mg→(∀ p∈ls,TabB base mg (jCI K (p.1 K)) (jDA K (p.1 K)))→FnOk l.prog w K mg base (L2.CX l.prog w) k f fd [x] (spF (B w K) 1 m))
  (law:∀ ns:List Int,ns.length≤n→(∀ z∈ns,Builtin.Int.intBits z≤1048576)→∃ h',m [.scr (ns.map .int)] []=.ok (.bl true) h') :
  PySem.W.WalkO q loose XP YP l.row.toRowW d [] (fun f vs=>PySem.call f vs):=by
 refine walk_ofTsE (CX:=fun w=>L2.CX l.prog w) (x:=x) hn hn2 hdf hr (fun w mg f h Y hns hmg=>?_) fun w H s e s' z=>?_
 ·obtain ⟨K,T,KX,hTT,c⟩:=hY w h Y
  obtain ⟨fd,hb,hF⟩:=F w mg f h K T KX hns hmg c
  have tb:=fun p hp=>yDH (hls w K T c p hp)
  refine ⟨K,KX,fd,ls.map fun p=>(jCI K (p.1 K),jDA K (p.1 K)),spZ 1 (spF (B w K) 1 m),fun p hp=>?_,fun p hp=>?_,fun p hp=>?_,hb,fun H a ns hl hbits hH hS=>⟨rfl,fun hz=>?_⟩,fun base hKb hnb htb=>yRW (hF base hKb hnb fun p hp=>htb (jCI K (p.1 K),jDA K (p.1 K)) (List.mem_map.mpr ⟨p,hp,rfl⟩)) rfl⟩
  ·obtain ⟨q,hq,rfl⟩:=List.mem_map.mp hp
   exact (hTT _ (tb q hq).1).1
  ·obtain ⟨q,hq,rfl⟩:=List.mem_map.mp hp
   exact (hTT _ (tb q hq).1).2
  ·obtain ⟨q,hq,rfl⟩:=List.mem_map.mp hp
   exact (tb q hq).2.2.2 h KX
  ·refine yUB hz (fun p hp=>?_) (Nat.le_trans hl hn2) (by rw [hB]; exact hS) (law ns hl hbits)
   rw [hT] at hp
   obtain ⟨q,hq,rfl⟩:=List.mem_map.mp hp
   exact TabS.nil (hH (jCI K (q.1 K),jDA K (q.1 K)) (List.mem_map.mpr ⟨q,hq,rfl⟩))
 ·obtain ⟨_,_,_,_,_,_,_,_,_,_,_,_,z⟩:=z
  exact z
end Lp
set_option maxHeartbeats 4000000
namespace Lp
open PySem PySem.Spec PyProof.Rows L2 LamX NdefX
theorem _root_.L2H.RoomH.u9 {k:Nat} {A:Around} (r:L2H.RoomH k A):U9 A:=by have:=r.un; show A.units+200 < cLine; omega
def ExcA (P:Program) (w:World) (K:PySem.W.Frag) (mg:Str→Option Value) (base:Heap) (B:Bs) (k:Nat) (x:Str) (c n:Nat) (fv:List PV→List PV):Prop:=∃ j,j+1≤k∧ExcC P w K mg base B j x c n fv
theorem ExcA.mono {P:Program} {w:World} {K:PySem.W.Frag} {mg:Str→Option Value} {base:Heap} {B:Bs} {i k:Nat} {x:Str} {c n:Nat} {fv:List PV→List PV} (F:ExcA P w K mg base B i x c n fv) (h:i≤k):ExcA P w K mg base B k x c n fv :=
 let ⟨j,hj,a⟩:=F
 ⟨j,Nat.le_trans hj h,a⟩
section
variable {X:Cx} {B:Bs} {N:Ent} {WX:L2.WX} {x:Str} {c n k:Nat} {fv:List PV→List PV} {ma:MA} {e:Expr} {es:List Expr} {p pos pos':Pos}
theorem jZC (F:ExcA X.prog X.w X.K X.mg X.base B k x c n fv) (hc:X.calm=true) (tk:Takes X WX) (hr:Room k X.A) (hg:Gl X x) (ha:SimA X B N WX (e :: es) ma) (hdb:(x == ("__debug__" : Str))=false)
  (he:starEach (e :: es) X.env=(false,eval e X.env) :: starEach es X.env) (hpl:(backTo pos (starEach es X.env)).any (·.1)=false):SimS X B N WX (.Raise (some (.Call (.Name x p) (e :: es) [] pos)) none pos') (jIS c n fv ma) :=
 let ⟨j,hj,F⟩:=F
 yBK F hc tk (hr.mono hj) hg ha hdb he hpl
theorem jVD (F:ExcA X.prog X.w X.K X.mg X.base B k x c 0 fv) (hc:X.calm=true) (tk:Takes X WX) (hr:Room k X.A) (hg:Gl X x) (hdb:(x == ("__debug__" : Str))=false):SimS X B N WX (.Raise (some (.Call (.Name x p) [] [] pos)) none pos') (jIS c 0 fv jO) :=
 let ⟨j,hj,F⟩:=F
 jZD F hc tk (hr.mono hj) hg hdb
end
theorem TryF.mono {P:Program} {w:World} {K:PySem.W.Frag} {mg:Str→Option Value} {base:Heap} {B:Bs} {j k:Nat} {x:Str} {okc:Nat→Bool} {ms:MS} (F:TryF P w K mg base B j x okc ms) (h:j≤k):TryF P w K mg base B k x okc ms:=by
 obtain ⟨g,oc,od,pg,bg,sg,dV,kV,doc,pm,cdv,ct,an,osl,cs,h1,h2,h3,h4,h5,h6,h7,h8,h9⟩:=F.ex
 exact ⟨g,oc,od,pg,bg,sg,dV,kV,doc,pm,cdv,ct,an,osl,cs,h1,h2,h3,h4,h5,h6,h7,h8,fun A outer s H hr=>h9 A outer s H (hr.mono h)⟩
theorem XClsF.with {K:PySem.W.Frag} {B:Bs} {fl:FL} (C:XClsF K B fl) {y:Addr × Nat × Addr}:XClsF K (B.with y) fl:=⟨C.fld,C.cls⟩
theorem yJY {P:Program} {w:World} {K:PySem.W.Frag} {mg:Str→Option Value} {base:Heap} {B:Bs} {k:Nat} {x:Str} {c n:Nat} {fv:List PV→List PV} {fs:List V→List (Str × V)} {Bn i newId:String} {bmB:List Value} {fI:Addr} {fd:FuncData} {ps:List Str} (G:BltX Bn i newId bmB) (Ve:VeC K Bn i newId bmB (B.cad c))
  (iC:PySem.W.findIn K (.ref (B.cad c)) "__init__" = some (some (.ref fI))) (tI:PySem.W.typeIn K (.ref fI)=some (.type "function")) (F:FnOk P w K mg base (L2.CX P w) k fI fd ps (jSB (B.cad c) n fs)) (hb:Binds K fd ps []) (hm:mg x=some (.ref (B.cad c))) (hn:n≤1000)
  (hf:∀ (W:Wd) (xs:List PV) (vs:List V),Reps B W xs vs→xs.length=n→∃ us,fs vs=(B.fld c).zip us∧us.length=(B.fld c).length∧Reps B W (fv xs) us):ExcC P w K mg base B k x c n fv:=⟨fs,⟨Bn,i,newId,bmB,fI,fd,ps,G,Ve,iC,tI,F,hb,hm⟩,hn,hf⟩
theorem yUQ {B:Bs} {T:Str} {c:Nat} (e:B.fld c=[("code" : Str)]) (k:SOk T):∀ (W:Wd) (xs:List PV) (vs:List V),Reps B W xs vs→xs.length=0→∃ us,([(("code" : Str),V.str T)]:List (Str × V))=(B.fld c).zip us∧us.length=(B.fld c).length∧Reps B W [.str T] us:=fun W xs vs r hl=>by
 rw [e]
 exact ⟨[.str T],rfl,rfl,.one (.str _ k)⟩
theorem yUP {B:Bs} {T f:Str} {c:Nat} (e:B.fld c=[("code" : Str),f]) (k:SOk T):∀ (W:Wd) (xs:List PV) (vs:List V),Reps B W xs vs→xs.length=1→∃ us,([(("code" : Str),V.str T),(f,vs.headD .non)]:List (Str × V))=(B.fld c).zip us∧us.length=(B.fld c).length∧Reps B W [.str T,xs.headD .non] us:=fun W xs vs r hl=>by
 rw [e]
 match xs,vs,r,hl with
 | [x],[v],.cons r1 .nil,_=>exact ⟨[.str T,v],rfl,rfl,.cons (.str _ k) (.one r1)⟩
theorem yUJ {P:Program} {w:World} {K:PySem.W.Frag} {mg:Str→Option Value} {base:Heap} {x qual:Str} {params:Arguments} {body:List Stmt} {scope:Scope} {dvs:List V} {kws:List (Str × V)} {f:Addr} {fd:FuncData} {names ps:List Str} {k n kk:Nat} {B:Bs} {mb:MS} {cv:Value}
  (F:FunD K x qual params body scope dvs kws f fd) (S:FnScope names ps scope) (hn:ps.length=n) (hk:names.length - n=kk) (hcode:∀ {fd:FuncData} {oc:Value} {od:Option Addr} {osl:Array (Option Value)},K.lookup f=some ⟨oc,od,.func fd,osl⟩→fd.code=cv)
  (hb:∀ (A:Around) (outer:List Env) (s:Shared) (H:Hp) (E:XK) (N:Ent),Bdy (cxOf (L2.CX P w) P w K mg base names qual scope f cv A outer s H E) E k →
   SimSs (cxOf (L2.CX P w) P w K mg base names qual scope f cv A outer s H E) B N (fun c d _ H=>E c d H) body mb):FnOk P w K mg base (L2.CX P w) (k+1) f fd ps (spF B n (mkF kk mb)):=by
 obtain ⟨oc,od,dV,kV,doc,pm,an,cdv,ct,osl,rfl,lk,hcd,_,_⟩:=F.ex
 obtain rfl:cdv=cv:=hcode lk
 refine fn_of lk hcd S (fun vs H Q E ⟨W,h,xs,hr,r,e,_⟩=>by rw [hn,← e,r.length]) fun A outer s H vs Q E hr ⟨W,h,xs,hrel,r,e,q⟩=>?_
 have bd:Bdy (cxOf (L2.CX P w) P w K mg base names qual scope f cdv A outer s H E) E k:=⟨takes_of rfl rfl rfl rfl,passes_of rfl,hr⟩
 refine ⟨_,hb A outer s H E ⟨W,h,H,hrel.len,W⟩ bd,W,⟨xs.map some++List.replicate kk none,h⟩,?_,?_⟩
 ·unfold L2.start
  rw [show names.length - vs.length=kk by rw [← r.length,e,hk]]
  exact jNV (k:=kk) hrel r
 ·unfold PostS
  unfold mkF at q
  cases e1:mb ⟨xs.map some++List.replicate kk none,h⟩ with
  | bad=>rw [e1] at q; exact q.elim
  | exc x1 s1=>rw [e1] at q; exact fun W' σ' H' cls d r' ex=>q W' H' cls d r'.hr r'.st ex
  | ok fl s1 =>
   rw [e1] at q
   cases fl with
   | rt v=>exact fun W' σ' H' v' r' rv=>q W' H' v' r'.hr r'.st rv
   | nx=>exact fun W' σ' H' r'=>q W' H' .non r'.hr r'.st .non
   | bk=>exact q.elim
   | ct=>exact q.elim
theorem jXF:∀ {l:List (Addr × Str)},(l.map (·.1)).Nodup→∀ {a:Addr} {q:Str},(a,q)∈l→∀ p∈l,p.1=a→p.2=q
 | [],_,_,_,h,_,_,_=>by cases h
 | y :: l,nd,a,q,h,p,hp,e=>by
  obtain ⟨n1,n2⟩:=List.nodup_cons.mp nd
  rcases List.mem_cons.mp h with h | h <;> rcases List.mem_cons.mp hp with hp | hp
  ·rw [hp,← h]
  ·exact absurd (List.mem_map.mpr ⟨p,hp,by rw [e,← h]⟩) n1
  ·exact absurd (List.mem_map.mpr ⟨(a,q),h,by rw [← hp]; exact e.symm⟩) n1
  ·exact jXF n2 h p hp e
def ndT (K:PySem.W.Frag) (ls:List ((PySem.W.Frag→Addr) × Str)):Bool:=decide (((yFD K ls).map (·.1)).Nodup)
def yVG:Stmt→List Stmt
 | .ClassDef _ _ _ b _ _ _ _ _ _ _=>b
 | _=>[]
theorem yPO {CX:CXT} {P:Program} {w:World} {K:PySem.W.Frag} {mg:Str→Option Value} {base:Heap} {names:List Str} {qual:Str} {scope:Scope} {f:Addr} {A:Around} {outer:List Env} {s:Shared} {H:Hp} {E:XK} {B:Bs} {ls:List ((PySem.W.Frag→Addr) × Str)} {g:PySem.W.Frag→Addr}
  (TB:TabB base mg (jCI K f) (jDA K f)) (hT:B.T=yFD K ls) (nd:ndT K ls=true) (hg:g K=f) (hm:(g,qual ++ ".<locals>." ++ "<lambda>")∈ls):LamT (cxOf CX P w K mg base names qual scope f (.ref (jCI K f)) A outer s H E) B:=by
 subst hg
 have m1:(jDA K (g K),qual ++ ".<locals>." ++ "<lambda>")∈B.T:=by
  rw [hT]
  exact List.mem_map.mpr ⟨_,hm,rfl⟩
 refine ⟨jCI K (g K),jDA K (g K),TB,rfl,m1,?_⟩
 have nd:((yFD K ls).map (·.1)).Nodup:=of_decide_eq_true nd
 rw [← hT] at nd
 exact jXF nd m1
end Lp
set_option maxHeartbeats 4000000
namespace Lp
open PySem PySem.Spec PyProof.Rows L2 LamX NdefX
section
variable {P:Program} {w:World} {K:PySem.W.Frag} {mg:Str→Option Value} {base:Heap} {B:Bs} {k:Nat} {x:Str} {okc:Nat→Bool} {ms:MS} {cs:List Value} {g:Addr} {fd:FuncData}
variable {tt:Expr} {b₀:Stmt} {suite:List Stmt} {j k1:Nat} {q1 q2 q2' q3 q4 q5 q6 q7:Pos} {params:Arguments} {sg:Scope}
theorem yRT (F:FunD K x x params [.Try [.Return (some (.Tuple [.Constant (.str "") j q1,.Call (.Name "_law_ask" q2) [] [] q2'] k1 q3)) q4] [.ExceptHandler (some tt) (some "_law_e") (b₀ :: suite) q5] [] [] q6] sg [] [] g fd) (hm:mg x=some (.ref g)) (hbi:L2.Binds K fd ["_law_ask"] [])
  (S:FnScope ["_law_ask", "_law_e"] ["_law_ask"] sg) (hva:Vis sg "_law_ask") (he:sg.names.lookup ("_law_e" : Str)=some .local) (hok:∀ c,okc c=true→PySem.W.exmAny K (.ref (B.cad c)) cs=some true)
  (T:∀ (A:Around) (outer:List Env) (s:Shared) (H:Hp) (cdv:Value),TestX (cxOf C8.CX0 P w K mg base ["_law_ask", "_law_e"] x sg g cdv A outer s H C8.E0) tt cs)
  (hsu:∀ (A:Around) (outer:List Env) (s:Shared) (H:Hp) (cdv:Value) (a:Addr) (oe:Obj) (c:Nat) (dd:Addr) (pn:List (Addr × Obj)) (N':Ent),L2H.RoomH k ((A.deeper (envOfC x sg s.heap.objs.size g cdv)).mark (some (.ref a)))→HasX ((cxOf C8.CX0 P w K mg base ["_law_ask", "_law_e"] x sg g cdv A outer s H C8.E0).suite a ((a,oe) :: pn)) (B.with (a,c,dd)) →
   SimSs ((cxOf C8.CX0 P w K mg base ["_law_ask", "_law_e"] x sg g cdv A outer s H C8.E0).suite a ((a,oe) :: pn)) (B.with (a,c,dd)) N' (fun _ _ _ _=>False) (b₀ :: suite) ms):TryF P w K mg base B k x okc ms:=by
 obtain ⟨oc,od,dV,kV,doc,pm,an,cdv,ct,osl,rfl,lk,hcd,_,_⟩:=F.ex
 exact ⟨g,oc,od,params,_,sg,dV,kV,doc,pm,cdv,ct,an,osl,cs,hm,F.kp,lk,hcd,hbi,S,hva,hok,fun A outer s H hr tl f act=>yKL S.nd he (T A outer s H cdv) act fun a oe c dd pn N' HX=>hsu A outer s H cdv a oe c dd pn N' ⟨hr.dp,hr.un⟩ HX⟩
end
def jSE (K:PySem.W.Frag) (D f:Addr):Bool:=decide (PySem.W.findIn K (.ref D) "__init__" = some (some (.ref f)))&&decide (PySem.W.typeIn K (.ref f)=some (.type "function"))
structure IniT (P:Program) (qual:Str) (params:Arguments) (body:List Stmt) (scope:Scope) (ps:List Str):Prop where
 sc:NScope (ps++[("__class__" : Str)]) ps ["__class__"] scope
 self:∃ ar:Arg,(params.posonlyargs++params.args).head?=some ar∧ar.arg=("self" : Str)
 su:scope.names.lookup ("super" : Str)=some .globalImplicit
 cl:scope.names.lookup ("__class__" : Str)=some .free
 sl:scope.names.lookup ("self" : Str)=some .local
 top:(P.main.scope.names.lookup ("super" : Str)).isSome=false
 bind:∀ (kV doc pm:Value) (an:Option Addr) (cdv ct:Value) (cc:Addr) (us:List Value),us.length=ps.length→bindArgs (PySem.W.ksFn "__init__" qual params body scope .none kV doc pm an cdv ct cc) ⟨us,[]⟩=pure (ps.zip us)
section
variable {P:Program} {w:World} {K:PySem.W.Frag} {mg:Str→Option Value} {base:Heap} {B:Bs} {x T f1 f2 x1 x2 qual:Str} {c j j2:Nat} {Bn i newId:String} {bmB:List Value} {at_:PySem.W.Frag→Addr} {params:Arguments} {scope:Scope} {p0 p1 p2 p3 cp ap q0 q1 q2 q3 r0 r1 r2 r3 t0 t1 t2 t3:Pos}
theorem yPV (G:BltX Bn i newId bmB) (hfl:B.fld c=[("code" : Str)]) (v:jWC K Bn i newId bmB (B.cad c)=true) (xf:jTD K (B.cad c) ["code"]=true) (hi:jSE K (B.cad c) (at_ K)=true) (hs:jWD P K (at_ K) (B.cad c)=true)
  (e:fnL K ((DefL.mk at_ "__init__" qual params [jFN T j p0 p1 p2 p3 cp ap,.Assign [.Attribute (.Name "self" t0) "code" t1] (.Constant (.str T) j2 t2) t3] scope ["__class__"] [] []).at_ K)=(DefL.mk at_ "__init__" qual params [jFN T j p0 p1 p2 p3 cp ap,.Assign [.Attribute (.Name "self" t0) "code" t1] (.Constant (.str T) j2 t2) t3] scope ["__class__"] [] []).val∧(DefL.mk at_ "__init__" qual params [jFN T j p0 p1 p2 p3 cp ap,.Assign [.Attribute (.Name "self" t0) "code" t1] (.Constant (.str T) j2 t2) t3] scope ["__class__"] [] []).ok K=true)
  (I:IniT P qual params [jFN T j p0 p1 p2 p3 cp ap,.Assign [.Attribute (.Name "self" t0) "code" t1] (.Constant (.str T) j2 t2) t3] scope ["self"])
  (ht:∀ (cc cda f L:Addr),SupEv T j p0 p1 p2 cp ap (envF (jAR qual params [jFN T j p0 p1 p2 p3 cp ap,.Assign [.Attribute (.Name "self" t0) "code" t1] (.Constant (.str T) j2 t2) t3] scope cc cda) f L))
  (hsu:mg "super" = none) (hm:mg x=some (.ref (B.cad c))) (k:SOk T):ExcC P w K mg base B 1 x c 0 fun _=>[.str T]:=by
 obtain ⟨cc,cda,fd,S,oc,od,dV,kV,doc,pm,an,ct,osl,rfl,hD⟩:=DefL.sup e.1 e.2 rfl rfl hs I.self I.su I.cl I.sl I.top
 obtain ⟨i1,i2⟩:=Bool.and_eq_true_iff.mp hi
 have V:=yDE v
 refine yJY G V (of_decide_eq_true i1) (of_decide_eq_true i2) (ini0 (k:=0) S G V hsu I.sc (fun L=>ht _ _ _ L) (jLT xf (by simp)).2) ?_ hm (by decide) (yUQ hfl k)
 rcases hD with ⟨_,rfl⟩ | ⟨e,_⟩
 ·exact .all (I.bind kV doc pm an _ ct cc)
 ·exact absurd rfl e
theorem yPU (G:BltX Bn i newId bmB) (hfl:B.fld c=[("code" : Str),f1]) (v:jWC K Bn i newId bmB (B.cad c)=true) (xf:jTD K (B.cad c) ["code", f1]=true) (hi:jSE K (B.cad c) (at_ K)=true) (hs:jWD P K (at_ K) (B.cad c)=true)
  (e:fnL K ((DefL.mk at_ "__init__" qual params [jFN T j p0 p1 p2 p3 cp ap,.Assign [.Attribute (.Name "self" q0) f1 q1] (.Name x1 q2) q3,.Assign [.Attribute (.Name "self" t0) "code" t1] (.Constant (.str T) j2 t2) t3] scope ["__class__"] [] []).at_ K)=(DefL.mk at_ "__init__" qual params [jFN T j p0 p1 p2 p3 cp ap,.Assign [.Attribute (.Name "self" q0) f1 q1] (.Name x1 q2) q3,.Assign [.Attribute (.Name "self" t0) "code" t1] (.Constant (.str T) j2 t2) t3] scope ["__class__"] [] []).val∧(DefL.mk at_ "__init__" qual params [jFN T j p0 p1 p2 p3 cp ap,.Assign [.Attribute (.Name "self" q0) f1 q1] (.Name x1 q2) q3,.Assign [.Attribute (.Name "self" t0) "code" t1] (.Constant (.str T) j2 t2) t3] scope ["__class__"] [] []).ok K=true)
  (I:IniT P qual params [jFN T j p0 p1 p2 p3 cp ap,.Assign [.Attribute (.Name "self" q0) f1 q1] (.Name x1 q2) q3,.Assign [.Attribute (.Name "self" t0) "code" t1] (.Constant (.str T) j2 t2) t3] scope ["self", x1])
  (ht:∀ (cc cda f L:Addr),SupEv T j p0 p1 p2 cp ap (envF (jAR qual params [jFN T j p0 p1 p2 p3 cp ap,.Assign [.Attribute (.Name "self" q0) f1 q1] (.Name x1 q2) q3,.Assign [.Attribute (.Name "self" t0) "code" t1] (.Constant (.str T) j2 t2) t3] scope cc cda) f L))
  (hx:(x1 == ("__debug__" : Str))=false) (hx2:(x1 == ("__classdict__" : Str))=false)
  (hsu:mg "super" = none) (hm:mg x=some (.ref (B.cad c))) (k:SOk T):ExcC P w K mg base B 1 x c 1 fun xs=>[.str T,xs.headD .non]:=by
 obtain ⟨cc,cda,fd,S,oc,od,dV,kV,doc,pm,an,ct,osl,rfl,hD⟩:=DefL.sup e.1 e.2 rfl rfl hs I.self I.su I.cl I.sl I.top
 obtain ⟨i1,i2⟩:=Bool.and_eq_true_iff.mp hi
 have V:=yDE v
 refine yJY G V (of_decide_eq_true i1) (of_decide_eq_true i2) (ini1 (k:=0) S G V hsu I.sc (fun L=>ht _ _ _ L) hx hx2 (jLT xf (by simp)).2 (jLT xf (by simp)).2) ?_ hm (by decide) (yUP hfl k)
 rcases hD with ⟨_,rfl⟩ | ⟨e,_⟩
 ·exact .all (I.bind kV doc pm an _ ct cc)
 ·exact absurd rfl e
end
end Lp
set_option maxHeartbeats 4000000
namespace Lp
open PySem PySem.Spec PyProof.Rows L2 LamX NdefX
def yRE (K:PySem.W.Frag) (i j:Nat):TG:=fun v σ H Q=>∃ a x xs,v=.ref a∧SqT K H a (x :: xs)∧xs.length < 16384∧∀ p,H p=none→Q ((σ.set i (some x)).set j (some (.ref p))) (upd H p (.lst xs))
theorem yBI {prog:Program} {w:World} {A:Around} {E:Value→Shared→Prop} {s:Shared} {a:Addr} {y:Value} {ys:List Value} {Q:List Value→Shared→Prop} (hh:A.handled=none) (ht:IsTup s.heap a (y :: ys).toArray) (hz:ys.length < 16384)
    (h:∀ (g:Heap) (tk:Nat),(∀ b o,s.heap.get? b=some o→g.get? b=some o)→Q [y,.ref g.objs.size] { s with heap:=g.push { cls:=.type "list", data:=.seq ys.toArray },toks:=tk }):wpAny (model prog w) A (unpackItems (.ref a) 2 (some 1)) Q E s:=by
  have apart:a≠s.heap.objs.size:=by
    obtain ⟨o,e,_⟩:=ht
    exact Nat.ne_of_lt (Heap.lt_size e)
  unfold unpackItems
  refine wpAny_bind ?_
  unfold notIterableAtAll
  refine wpAny_bind (wpAny_specialOf ht.typeIs slot_tuple_iter.lookup (wpAny_pure ?_))
  rw [if_neg (by decide)]
  refine wpAny_bind (wpAny_holding (iter_tuple ht (wpAny_bind (wpAny_holding ?_))))
  refine draw_tuple apart 1 0 _ _ ⟨_,Heap.get?_push_size _ rfl,rfl,rfl⟩ (ht.push _) (by simp) fun g1 it1 sb=>?_
  rw [Nat.zero_add] at it1
  have ht1:IsTup g1 a (y :: ys).toArray:=(ht.push _).extBut sb.extBut apart
  have lt1:s.heap.objs.size < g1.objs.size:=by
    obtain ⟨o,e,_⟩:=it1
    exact Heap.lt_size e
  have lt2:a < g1.objs.size:=by
    obtain ⟨o,e,_⟩:=ht1
    exact Heap.lt_size e
  show wpAny _ _ (if ([y]:List Value).length < 1 then _ else _) _ _ _
  rw [if_neg (show ¬ ([y]:List Value).length < 1 from Nat.lt_irrefl 1)]
  refine wpAny_bind (wpAny_holding (PySem.W.kun_collect (s:={ s with heap:=g1 }) (T := "tuple_iterator") (.inr (.inr (.inr rfl))) (Walks.tuple (A:=A.in1) hh s.heap.objs.size a apart (y :: ys).toArray) (fun _ _ st=>st.1.typeIs) (k:=1) (by simp) ⟨it1,ht1⟩ lt1 lt2 (fun g2 tk kp=>?_) (by rw [sizeLine_eq,List.size_toArray,List.length_cons]; omega)))
  have e1:((y :: ys).toArray.toList.drop 1)=ys:=rfl
  rw [e1]
  show wpAny _ _ (if ys.length < 2 - 1 - 1 then _ else _) _ _ _
  rw [if_neg (by omega)]
  show wpAny _ _ (newList (ys.take (ys.length - 0)) >>= fun d=>pure ([y]++[d]++ys.drop (ys.length - 0))) _ _ _
  rw [Nat.sub_zero,List.take_length,List.drop_length]
  refine wpAny_bind (wpAny_newList (wpAny_pure ?_) (by rw [sizeLine_eq]; omega))
  have keep:∀ b o,s.heap.get? b=some o→g2.get? b=some o:=fun b o e=>by
    have ne:b≠s.heap.objs.size:=Nat.ne_of_lt (Heap.lt_size e)
    exact kp b o ne (sb.extBut b o ne (Heap.get?_push_of_some _ e))
  exact h g2 tk keep
section
variable {X:Cx} {e1 e2:Expr} {k i j:Nat} {pos p2:Pos}
theorem yDY (hc:X.calm=true) (h1:PG X e1 (gName i)) (h2:PG X e2 (gName j)) (hn:assignEach [e1,.Starred e2 p2] X.env=[(false,assign e1 X.env),(true,assign e2 X.env)]):PG X (.Tuple [e1,.Starred e2 p2] k pos) (yRE X.K i j):=by
  refine ⟨fun pins s σ H v u Q I r hw=>?_⟩
  obtain ⟨a,x,xs,rfl,hq,hz,q⟩:=hw
  cases r
  obtain ⟨its,rv,ht,_⟩:=I.tuple hq
  cases rv with
  | cons r1 rv =>
    rename_i y ys
    have hl:ys.length < 16384:=by rw [← rv.length]; exact hz
    rw [assign_Tuple]
    refine wpAny_bind (wpAny_standAt ?_)
    unfold unpack
    rw [hn]
    refine wpAny_bind (wpAny_holding (yBI (I.ok.hd hc) ht hl fun g tk kp=>?_))
    have I1:Inv X pins σ H { s with heap:=g,toks:=tk }:=I.kept kp
    have I2:Inv X pins σ (upd H g.objs.size (.lst xs)) { s with heap:=g.push { cls:=.type "list", data:=.seq ys.toArray },toks:=tk }:=I1.laid (t':=tk) (fun b o e=>Heap.get?_push_of_some _ e) (Nat.le_refl _) ⟨by rw [sizeLine_eq]; omega,ys,0,rv,Heap.get?_push_size _ rfl⟩
    have q2:=q g.objs.size (I1.hok.fresh (Nat.le_refl _))
    refine assignInOrder_cons (thn (h1.run pins _ σ _ x y _ I2 r1 (show gName i x σ _ fun σ' H'=>σ'=σ.set i (some x)∧H'=upd H g.objs.size (.lst xs) from ⟨rfl,rfl⟩)) fun _ s3 ⟨σ3,H3,I3,e3,e4⟩=>?_)
    subst e3 e4
    refine assignInOrder_cons (thn (h2.run pins _ _ _ (.ref g.objs.size) (.ref g.objs.size) _ I3 rfl (show gName j _ _ _ Q from q2)) fun _ s4 q4=>assignInOrder_nil q4)
end
def jWN (i j:Nat) (m:ME):MS:=fun s=>(m s).bind fun v s1=>match v with
 | .tup (x :: xs)=>if xs.length < 16384 then .ok .nx ⟨(s1.e.set i (some x)).set j (some (.lst xs)),s1.h⟩ else .bad
 | _=>.bad
section
variable {X:Cx} {B:Bs} {N:Ent} {WX:L2.WX} {tg e:Expr} {i j:Nat} {m:ME} {pos:Pos}
theorem jSM (hK:X.K=B.K) (he:SimE X B N WX e m) (hg:PG X tg (yRE X.K i j)) (hs:swapsWithSole [tg] e pos.line X.env=pure false) (hw:swappedStores [tg] e X.env=pure none) (h1:(assignEach [tg] X.env).map (·.2)=[assign tg X.env]) :
  SimS X B N WX (.Assign [tg] e pos) (jWN i j m) :=
 (ps_asg he hg hs hw h1).imp fun D σ H ⟨W,s,r,h⟩=>⟨W,s,r,h.bindE.mono fun v W1 s1 H1 r1 _ q v' rv=>by
  split at q
  ·rename_i x xs
   split at q
   ·rename_i hz
    have rt:Rep B W1 (.tup (x :: xs)) v':=rv.rep rfl
    obtain ⟨a,us,rfl,h1,ru⟩:=jFC hK r1.hr rt
    cases ru with
    | cons rx rxs =>
     rename_i x' xs'
     have hz':xs'.length < 16384:=by rw [← rxs.length]; exact hz
     refine ⟨a,x',xs',rfl,h1,hz',fun p hp=>?_⟩
     have hsz:xs'.length≤sizeLine:=by rw [sizeLine_eq]; omega
     have r2:=jJR (o:=.lst xs') r1 hp hsz
     have le:=jCN (o:=HO.lst xs') (r1.hr.fnone hp)
     exact q _ _ _ (jFQ (jFQ r2 (rx.mono le)) (qZ (r1.hr.fnone hp) rxs))
   ·exact q.elim
  ·exact q.elim⟩
end
end Lp
set_option maxHeartbeats 4000000
namespace Lp
open PySem PySem.Spec PyProof.Rows L2
@[irreducible] noncomputable def jWL (okc:Nat→Bool) (ms:MS) (ml:ME):ME:=jWI okc ms ml
@[irreducible] def jPE (c n:Nat) (fv:List PV→List PV) (ma:MA):MS:=jIS c n fv ma
@[irreducible] def jTG (i j:Nat) (m:ME):MS:=jWN i j m
section
variable {P:PV→S→Prop} {PF:Fl→S→Prop} {E:PV→S→Prop} {s:S} {m:ME} {ma:MA} {i j c n:Nat} {fv:List PV→List PV} {okc:Nat→Bool} {ms:MS}
theorem yQY (h:(m s).post (fun v s1=>isOwn v=false∧P (.tup [.str "", v]) ⟨s.e,s1.h⟩) (fun x s1=>∃ c fs v s2,x=.ins c fs∧okc c=true∧ms ⟨[none,some (.exn c fs)],s1.h⟩=.ok (.rt v) s2∧noX v=true∧s2.h=s1.h∧P v ⟨s.e,s1.h⟩)):(jWL okc ms m s).post P E:=by
 unfold jWL jWI
 cases e:m s with
 | ok v s1 =>
  rw [e] at h
  obtain ⟨h1,h2⟩:=h
  simp only [h1]
  exact h2
 | exc x s1 =>
  rw [e] at h
  obtain ⟨c,fs,v,s2,rfl,h1,h2,h3,h4,h5⟩:=h
  simp only [h1,if_pos,h2,h3,h4,and_self]
  exact h5
 | bad=>rw [e] at h; exact h.elim
theorem yDZ (h:(ma s).post (fun vs s1=>(vs.length=n∧uB vs=true)∧E (.ins c (fv vs)) s1) E):(jPE c n fv ma s).post PF E:=by
 unfold jPE jIS
 exact yK (p_mono h (fun vs s1 ⟨h1,q⟩=>by simp only [if_pos h1]; exact q) fun _ _ z=>z)
theorem jMA (h:(m s).post (fun v s1=>∃ x xs,v=.tup (x :: xs)∧xs.length < 16384∧PF .nx ⟨(s1.e.set i (some x)).set j (some (.lst xs)),s1.h⟩) E):(jTG i j m s).post PF E:=by
 unfold jTG jWN
 exact yK (p_mono h (fun v s1 ⟨x,xs,e,h1,q⟩=>by subst e; simp only [if_pos h1]; exact q) fun _ _ z=>z)
end
end Lp
set_option maxHeartbeats 4000000
namespace Lp
open PySem PySem.Spec PyProof.Rows L2 LamX NdefX
structure KBd (K:PySem.W.Frag) (B:Bs) (fd:FuncData) (ps:List Str) (n:Nat) (ks:List Str) (ix:List Nat) (ds:List PV):Prop where
 ex:∃ gW gV,KBn K fd ps n ks gW gV∧∀ (W:Wd) (xs ys:List PV) (vs zs:List V),Reps B W xs vs→Reps B W ys zs→Reps B W (pick ix (xs++ys++ds)) (gV vs zs)
section
variable {K:PySem.W.Frag} {B:Bs} {x qual:Str} {params:Arguments} {body:List Stmt} {scope:Scope} {dvs:List V} {kws:List (Str × V)} {f:Addr} {fd:FuncData} {ps:List Str}
theorem Reps.app {W:Wd}:∀ {xs ys:List PV} {vs us:List V},Reps B W xs vs→Reps B W ys us→Reps B W (xs++ys) (vs++us)
 | [],_,_,_,.nil,r=>r
 | _ :: _,_,_,_,.cons h t,r=>.cons h (Reps.app t r)
end
theorem MkC.of {P:Program} {w:World} {K:PySem.W.Frag} {mg:Str→Option Value} {base:Heap} {B:Bs} {k c n0 n:Nat} {x:Str} {ks ps:List Str} {ix:List Nat} {ds:List PV} {m:MF} {f:Addr} {fd:FuncData} (M:Mk K (B.cad c) f) (F:FnOk P w K mg base (L2.CX P w) k f fd ps (spF B n m)) (hm:mg x=some (.ref (B.cad c))) (b:KBd K B fd ps (n0+1) ks ix ds) :
  MkC P w K mg base B k x c n0 ks (fun xs ys=>pick ix (xs++ys++ds)) n m:=let ⟨gW,gV,h1,h2⟩:=b.ex; ⟨f,fd,ps,gW,gV,M,F,hm,h1,h2⟩
theorem Me.of {P:Program} {w:World} {K:PySem.W.Frag} {mg:Str→Option Value} {base:Heap} {B:Bs} {k c n0 n:Nat} {x:Str} {ks ps:List Str} {ix:List Nat} {ds:List PV} {m:MF} {f:Addr} {fd:FuncData} (M:Meth K (B.cad c) x f) (F:FnOk P w K mg base (L2.CX P w) k f fd ps (spF B n m)) (b:KBd K B fd ps (n0+1) ks ix ds) :
  Me P w K mg base B k c x n0 ks (fun xs ys=>pick ix (xs++ys++ds)) n m:=let ⟨gW,gV,h1,h2⟩:=b.ex; ⟨f,fd,ps,gW,gV,M,F,h1,h2⟩
end Lp
set_option maxHeartbeats 4000000
namespace Lp
open PySem PySem.Spec PyProof.Rows L2 LamX NdefX
end Lp
set_option maxHeartbeats 4000000
namespace Lp
open PySem PySem.Spec PyProof.Rows L2 LamX NdefX
abbrev TrP:Type:=PV × V × PyData
def yJH (K:PySem.W.Frag):List V→Hp→VK→Prop:=fun xs H Q=>∃ (a:Addr) (bs:List TrP),xs=[.ref a]∧SqL K H a (bs.map (·.2.1))∧(∀ p∈bs,Dp K H p.2.1 p.2.2)∧PySem.W.AllAlike (bs.map (·.2.2))∧PySem.W.Sortable (bs.map (·.2.2))∧bs.length≤sizeLine∧(∀ p∈bs,p.2.2.depth≤64) ∧
 ∀ l,H l=none→Q (.ref l) (upd H l (.lst ((bs.mergeSort (PySem.W.dataLe false (·.2.2))).map (·.2.1))))
theorem yEU {β:Type} {f:β→V}:∀ {bs:List β} {us:List Value},Vals (bs.map f) us→PySem.W.EachIs (fun v p=>RelV (f p) v) us bs
 | [],_,.nil=>.nil
 | _ :: _,_,.cons h t=>.cons h (yEU t)
theorem jMU {β:Type} {f:β→V}:∀ {bs:List β} {us:List Value},PySem.W.EachIs (fun v p=>RelV (f p) v) us bs→Vals (bs.map f) us
 | [],_,.nil=>.nil
 | _ :: _,_,.cons h t=>.cons h (jMU t)
theorem yEV {β:Type} {R R':Value→β→Prop}:∀ {bs:List β} {us:List Value},PySem.W.EachIs R us bs→(∀ p∈bs,∀ v,R v p→R' v p)→PySem.W.EachIs R' us bs
 | [],_,.nil,_=>.nil
 | p :: _,_,.cons h t,k=>.cons (k p (by simp) _ h) (yEV t fun q hq=>k q (by simp [hq]))
section
variable {X:Cx}
theorem yMS (hu:X.A.units+68 < cLine):CallR X (.builtin "sorted") (yJH X.K):=by
 intro pins s σ H vs us Q I r h
 obtain ⟨a,bs,rfl,hq,hd,hal,hk,hl,hdep,q⟩:=h
 obtain ⟨its,rv,hl2,_⟩:=I.list hq
 rw [Vals.ref1 r]
 have e:=yEU rv
 refine PySem.W.sorted_data (R:=fun v p=>RelV p.2.1 v) (enc:=fun p:TrP=>p.2.2) hl2.isList e (yEV e fun p hp v rv=>Dp.reads I _ _ _ (hd p hp) rv) hal hk hl (fun p hp=>by have:=hdep p hp; omega) fun out ho eo=>?_
 obtain ⟨ep,he'⟩:=PyProof.Rows.sortedAll_at s.heap its out.toArray
 have hlen:((bs.mergeSort (PySem.W.dataLe false (·.2.2))).map (·.2.1)).length≤sizeLine:=by rw [List.length_map,List.length_mergeSort]; exact hl
 exact ⟨.ref _,upd H (s.heap.objs.size+1) (.lst ((bs.mergeSort (PySem.W.dataLe false (·.2.2))).map (·.2.1))),I.laid (t':=s.toks) (fun _ _=>PyProof.Rows.sortedAll_old) (Nat.le_succ _) ⟨hlen,out,ep,jMU eo,he'⟩,rfl,q _ (I.hok.fresh (Nat.le_succ _))⟩
end
def encP (x:PV):PyData:=(toD x).getD .none
def leP (a b:PV):Bool:=PySem.W.dataLe false encP a b
def yCR (xs:List PV):List PV:=xs.mergeSort leP
def yKH (ds:List PyData):Bool:=ds.all fun d=>ds.all fun e=>PySem.W.alike d e
def tupB:PyData→Bool
 | .tuple (_ :: _)=>true
 | _=>false
def yXE:PyData→Bool
 | .none=>false
 | .tuple _=>false
 | _=>true
def yCS (ds:List PyData):Bool:=(yKH ds&&(ds.all tupB||ds.all yXE))&&(ds.all dOk&&decide (ds.length≤16777216))
def jWX:AH→List PV→Option PV:=fun h vs=>match vs with
 | [x]=>(match asL h x with
  | some xs=>(match toDs xs with
   | some ds=>if yCS ds=true then some (.lst (yCR xs)) else none
   | none=>none)
  | none=>none)
 | _=>none
def trps:List PV→List V→List PyData→List TrP
 | x :: xs,v :: vs,d :: ds=>(x,v,d) :: trps xs vs ds
 | _,_,_=>[]
section
variable {X:Cx} {B:Bs} {W:Wd} {h:AH} {H:Hp}
theorem yDG (hK:X.K=B.K) (hr:HRel B W h H):∀ {xs:List PV} {vs:List V} {ds:List PyData},Reps B W xs vs→toDs xs=some ds→(trps xs vs ds).map (·.1)=xs∧(trps xs vs ds).map (·.2.1)=vs∧(trps xs vs ds).map (·.2.2)=ds∧∀ p∈trps xs vs ds,Rep B W p.1 p.2.1∧toD p.1=some p.2.2∧Dp X.K H p.2.1 p.2.2
 | [],_,_,.nil,e=>by cases e; exact ⟨rfl,rfl,rfl,fun _ h=>by cases h⟩
 | x :: xs,_,_,.cons r t,e=>by
  rename_i v vs
  rw [toDs] at e
  cases e1:toD x with
  | none=>rw [e1] at e; cases e
  | some d =>
   cases e2:toDs xs with
   | none=>rw [e1,e2] at e; cases e
   | some ds =>
    rw [e1,e2] at e
    cases e
    obtain ⟨h1,h2,h3,h4⟩:=yDG hK hr t e2
    refine ⟨by rw [trps,List.map_cons,h1],by rw [trps,List.map_cons,h2],by rw [trps,List.map_cons,h3],fun p hp=>?_⟩
    rw [trps] at hp
    rcases List.mem_cons.mp hp with rfl | hp
    ·exact ⟨r,e1,(jPX hK hr r e1).1⟩
    ·exact h4 p hp
theorem yOO {ps:List TrP} (h:∀ p∈ps,Rep B W p.1 p.2.1):Reps B W (ps.map (·.1)) (ps.map (·.2.1)):=by
 induction ps with
 | nil=>exact .nil
 | cons p ps ih=>exact .cons (h p (by simp)) (ih fun q hq=>h q (by simp [hq]))
theorem yGF (hK:X.K=B.K):CallSem X B jWX (yJH X.K):=by
 intro W h H xs z xs' Q hr rx e q
 unfold jWX at e
 split at e
 ·rename_i x
  obtain ⟨v,rfl,r1⟩:=repts1 rx
  cases ex:asL h x with
  | none=>rw [ex] at e; cases e
  | some ys =>
   rw [ex] at e
   dsimp only at e
   cases ed:toDs ys with
   | none=>rw [ed] at e; cases e
   | some ds =>
    rw [ed] at e
    dsimp only at e
    split at e
    ·rename_i hb
     cases e
     obtain ⟨a,vs,rfl,h1,r2⟩:=jIW hr r1 ex
     obtain ⟨t1,t2,t3,t4⟩:=yDG hK hr r2 ed
     generalize trps ys vs ds=bs at t1 t2 t3 t4
     obtain ⟨b1,b2⟩:=Bool.and_eq_true_iff.mp hb
     obtain ⟨b3,b4⟩:=Bool.and_eq_true_iff.mp b1
     obtain ⟨b5,b6⟩:=Bool.and_eq_true_iff.mp b2
     have hl:bs.length≤sizeLine:=by
      have:bs.length=ds.length:=by rw [← t3,List.length_map]
      rw [this,sizeLine_eq]; exact of_decide_eq_true b6
     refine ⟨a,bs,rfl,by rw [t2]; exact jKT hK h1,fun p hp=>(t4 p hp).2.2,?_,?_,hl,fun p hp=>?_,fun l hp=>?_⟩
     ·rw [t3]
      intro d hd d' hd'
      exact List.all_eq_true.mp (List.all_eq_true.mp b3 d hd) d' hd'
     ·rw [t3]
      rcases Bool.or_eq_true_iff.mp b4 with b4 | b4
      ·refine .inl fun d hd=>?_
       have:=List.all_eq_true.mp b4 d hd
       unfold tupB at this
       split at this
       ·exact ⟨_,_,rfl⟩
       ·cases this
      ·refine .inr fun d hd=>?_
       have:=List.all_eq_true.mp b4 d hd
       exact ⟨fun z=>(by rw [z] at this; cases this),fun xs z=>(by rw [z] at this; cases this)⟩
     ·have:=List.all_eq_true.mp b5 p.2.2 (by rw [← t3]; exact List.mem_map.mpr ⟨p,hp,rfl⟩)
      exact of_decide_eq_true this
     ·have es:yCR ys=(bs.mergeSort (PySem.W.dataLe false (·.2.2))).map (·.1):=by
       unfold yCR
       rw [← t1]
       refine (List.map_mergeSort (r:=PySem.W.dataLe false (fun p:TrP=>p.2.2)) fun p hp q hq=>?_).symm
       have e1:encP p.1=p.2.2:=by unfold encP; rw [(t4 p hp).2.1]; rfl
       have e2:encP q.1=q.2.2:=by unfold encP; rw [(t4 q hq).2.1]; rfl
       unfold leP
       rw [PySem.W.dataLe_eq,PySem.W.dataLe_eq]
       show cond false _ _=cond false _ _
       rw [e1,e2]
      have hm:∀ p∈bs.mergeSort (PySem.W.dataLe false (·.2.2)),Rep B W p.1 p.2.1:=fun p hp=>(t4 p (List.mem_mergeSort.mp hp)).1
      rw [es] at q
      refine q _ _ _ (.new hp (show ((bs.mergeSort (PySem.W.dataLe false (·.2.2))).map (·.2.1)).length≤sizeLine from by rw [List.length_map,List.length_mergeSort]; exact hl)) (qZ (hr.fnone hp) (yOO hm)).hand
    ·cases e
 ·cases e
theorem yHE (hK:X.K=B.K) (hr:U9 X.A):BiOk X B "sorted" jWX:=⟨_,_,by first | exact PyProof.Rows.boot_sorted | rfl,yMS (by have hr:X.A.units+200 < cLine:=hr; omega),yGF hK,.inl ⟨_,rfl⟩⟩
end
end Lp
set_option maxHeartbeats 4000000
namespace Lp
open PySem PySem.Spec PyProof.Rows L2 LamX NdefX
structure SMet (K:PySem.W.Frag) (C:Addr) (m:Str) (p g:Addr):Prop where
 rd:ClX.CRead K C (.type "type")
 at_:PySem.W.findCls K (.ref C) (.type "type") m=some (.get (.builtin "staticmethod.__get__") (.ref p) .none (.ref C))
 rc:∃ rest,PySem.W.recIn K p "staticmethod" = some (.ref g :: rest)
 kp:PySem.W.keepIn K (.ref g)=true
structure SmK (P:Program) (w:World) (K:PySem.W.Frag) (mg:Str→Option Value) (base:Heap) (B:Bs) (k:Nat) (x m:Str) (n0:Nat) (ks:List Str) (ix:List Nat) (n:Nat) (mf:MF):Prop where
 ex:∃ f fd ps p C,FnOk P w K mg base (L2.CX P w) k f fd ps (spF B n mf)∧mg x=some (.ref C)∧SMet K C m p f∧KBn K fd ps n0 ks (fun us ws=>pick ix (us++ws)) fun vs zs=>pick ix (vs++zs)
theorem SmK.mono {P:Program} {w:World} {K:PySem.W.Frag} {mg:Str→Option Value} {base:Heap} {B:Bs} {j k:Nat} {x m:Str} {n0:Nat} {ks:List Str} {ix:List Nat} {n:Nat} {mf:MF} (F:SmK P w K mg base B j x m n0 ks ix n mf) (h:j≤k):SmK P w K mg base B k x m n0 ks ix n mf :=
 let ⟨f,fd,ps,p,C,a,b⟩:=F.ex
 ⟨f,fd,ps,p,C,a.mono h,b⟩
end Lp
set_option maxHeartbeats 4000000
namespace Lp
open PySem PySem.Spec PyProof.Rows L2 LamX NdefX
structure MkA (P:Program) (w:World) (K:PySem.W.Frag) (mg:Str→Option Value) (base:Heap) (B:Bs) (k:Nat) (x:Str) (c n0:Nat) (ks:List Str) (ix:List Nat) (ds:List PV) (n:Nat) (m:MF):Prop where
 ex:∃ j,j+1≤k∧MkC P w K mg base B j x c n0 ks (fun xs ys=>pick ix (xs++ys++ds)) n m
theorem MkA.mono {P:Program} {w:World} {K:PySem.W.Frag} {mg:Str→Option Value} {base:Heap} {B:Bs} {i k:Nat} {x:Str} {c n0:Nat} {ks:List Str} {ix:List Nat} {ds:List PV} {n:Nat} {m:MF} (F:MkA P w K mg base B i x c n0 ks ix ds n m) (h:i≤k):MkA P w K mg base B k x c n0 ks ix ds n m :=
 let ⟨j,hj,a⟩:=F.ex
 ⟨j,Nat.le_trans hj h,a⟩
abbrev MeA (P:Program) (w:World) (K:PySem.W.Frag) (mg:Str→Option Value) (base:Heap) (B:Bs) (k:Nat) (c:Nat) (x:Str) (n0:Nat) (ks:List Str) (ix:List Nat) (ds:List PV) (n:Nat) (m:MF):Prop:=Me P w K mg base B k c x n0 ks (fun xs ys=>pick ix (xs++ys++ds)) n m
end Lp
set_option maxHeartbeats 4000000
namespace Lp
open PySem PySem.Spec PyProof.Rows L2 LamX NdefX
def yIA (ys:List Str):List PV:=ys.map .str
def jBU:AH→Str→List PV→Option PV:=fun _ x xs=>match xs with
 | [.str b]=>if ((b.length == 0)=false∧x.length+2≤16777216)∧((Txt.split x b).all jRP=true∧(Txt.split x b).length≤16777216) then some (.lst (yIA (Txt.split x b))) else none
 | _=>none
def jPL:AH→Str→List PV→Option PV:=fun _ x xs=>match xs with
 | [.str b]=>some (.bl (Txt.startswith x b))
 | _=>none
def jQD:AH→Str→List PV→Option PV:=fun _ x xs=>match xs with
 | []=>if x.length≤5592405∧jRP (Txt.upper x)=true then some (.str (Txt.upper x)) else none
 | _=>none
section
variable {X:Cx} {B:Bs} {W:Wd}
theorem jST:∀ {ys:List Str},ys.all jRP=true→Reps B W (yIA ys) (ys.map V.str)
 | [],_=>.nil
 | y :: ys,h=>by
  obtain ⟨h1,h2⟩:=Bool.and_eq_true_iff.mp (show (jRP y&&ys.all jRP)=true from h)
  exact .cons (.str y (jW h1)) (jST h2)
theorem jGU:MethS X B jBU (fun x xs H Q=>∃ a b,x=.str a∧xs=[.str b]∧(b.length == 0)=false∧a.length+2≤sizeLine∧rNewStrs (Txt.split a b) H Q):=by
 intro W h H x xs z xs' Q hr hx rxs e q
 unfold jBU at e
 split at e
 ·rename_i b
  split at e
  ·rename_i hc
   cases e
   obtain ⟨v,rfl,rv⟩:=repts1 rxs
   obtain ⟨rfl,_⟩:=jAH rv
   have rs:=jST (B:=B) (W:=W) hc.2.1
   refine ⟨x,b,rfl,rfl,hc.1.1,by rw [sizeLine_eq]; exact hc.1.2,fun p hp=>?_⟩
   exact q _ _ _ (.new hp (show ((Txt.split x b).map V.str).length≤sizeLine from by rw [List.length_map,sizeLine_eq]; exact hc.2.2)) (qZ (hr.fnone hp) rs).hand
  ·cases e
 ·cases e
theorem yBO:MethS X B jPL (fun x xs H Q=>∃ a b,x=.str a∧xs=[.str b]∧Q (.bl (Txt.startswith a b)) H):=by
 intro W h H x xs z xs' Q hr hx rxs e q
 unfold jPL at e
 split at e
 ·rename_i b
  cases e
  obtain ⟨v,rfl,rv⟩:=repts1 rxs
  obtain ⟨rfl,_⟩:=jAH rv
  exact ⟨x,b,rfl,rfl,q W H _ (.refl W H) (Rep.bl _).hand⟩
 ·cases e
theorem yGC:MethS X B jQD (fun x xs H Q=>∃ a,x=.str a∧xs=[]∧a.length≤5592405∧Q (.str (Txt.upper a)) H):=by
 intro W h H x xs z xs' Q hr hx rxs e q
 unfold jQD at e
 split at e
 ·split at e
  ·rename_i hc
   cases e
   cases xs' with
   | nil=>exact ⟨x,rfl,rfl,hc.1,q W H _ (.refl W H) (Rep.str _ (jW hc.2)).hand⟩
   | cons _ _=>exact rxs.elim
  ·cases e
 ·cases e
end
def jNN (ds:List PyData) (d:PyData):Option Nat:=ds.findIdx? fun z=>PyData.eqv z d
def yHW (mo:ME) (ma:MA):ME:=fun s=>(mo s).bind fun o s1=>match o with
 | .lst xs=>(ma s1).bind fun vs s2=>(match vs with
  | [y]=>(match toDs xs,toD y with
   | some ds,some d=>if dOk (.list ds)&&dOk d then (match jNN ds d with
    | some j=>.ok (.int (j:Nat)) s2
    | none=>.bad) else .bad
   | _,_=>.bad)
  | _=>.bad)
 | _=>.bad
section
variable {X:Cx} {B:Bs} {N:Ent} {WX:L2.WX} {o e:Expr} {es:List Expr} {mo:ME} {ma:MA} {apos cpos:Pos}
theorem yLM {ds:List PyData} {d:PyData} {j:Nat} (h:jNN ds d=some j):∃ z,ds[j]?=some z∧PyData.eqv z d=true∧∀ (m:Nat) (z':PyData),m < j→ds[m]?=some z'→PyData.eqv z' d=false:=by
 obtain ⟨hj,h1,h2⟩:=List.findIdx?_eq_some_iff_getElem.mp h
 refine ⟨ds[j],List.getElem?_eq_getElem hj,h1,fun m z' hm e=>?_⟩
 obtain ⟨hm2,rfl⟩:=List.getElem?_eq_some_iff.mp e
 simpa using h2 m hm
theorem yDN (hK:X.K=B.K) (hr:U9 X.A) (ho:SimE X B N WX o mo) (ha:SimA X B N WX (e :: es) ma) (hbase:attributeBase o "index" X.env (eval o X.env)=eval o X.env)
  (hfew:((backTo cpos (starEach (e :: es) X.env)).all (fun x=>!x.1)&&(backToKw cpos (keywordEach [] X.env)).all (fun x=>x.1.isSome)
   && decide ((e :: es).length+([]:List Keyword).length+(if ([]:List Keyword).isEmpty then 0 else 1) < 30))=true)
  (hline:(apos.endLine == cpos.line)=true) (hs:starEach (e :: es) X.env=(false,eval e X.env) :: starEach es X.env) (hplain:(backTo cpos (starEach es X.env)).any (·.1)=false) :
  SimE X B N WX (.Call (.Attribute o "index" apos) (e :: es) [] cpos) (yHW mo ma) :=
 (pe_bm PySem.F.plainAttrs_list PySem.F.slot_list_index PySem.F.type_list_index (mt_indexD (by have hr:X.A.units+200 < cLine:=hr; omega)) ho ha hbase hfew hline hs hplain).imp fun σ H Q ⟨W,s,r0,h⟩=>⟨W,s,r0,(h.bind r0.slen).mono fun o1 W1 s1 H1 r1 _ q o' ro=>by
  split at q
  ·rename_i xs
   cases (show Rep B W1 (.lst xs) o' from ro) with
   | lst hF rs =>
    rename_i a vs0
    refine ⟨.inl ⟨rfl,vs0,.inl (.inl (r1.hr.agree _ _ hF))⟩,W1,s1,r1,(q.bind r1.slen).mono fun vs W2 s2 H2 r2 st2 q vs' rvs=>?_⟩
    split at q
    ·rename_i y
     obtain ⟨v,rfl,rv⟩:=repts1 rvs
     split at q
     ·rename_i ds d ed ey
      split at q
      ·rename_i hz
       split at q
       ·rename_i j ej
        obtain ⟨z1,z2⟩:=Bool.and_eq_true_iff.mp hz
        have rl:Rep B W2 (.lst xs) (.ref a):=(Rep.lst hF rs).mono st2.st.le
        have el:toD (.lst xs)=some (.list ds):=by show (toDs xs).map _=_; rw [ed]; rfl
        obtain ⟨a1,a2⟩:=jPX hK r2.hr rl el
        have oy:isOwn y=false:=by cases y <;> first | rfl | cases ey
        obtain ⟨b1,b2⟩:=jPX hK r2.hr (rv.rep oy) ey
        obtain ⟨z,p1,p2,p3⟩:=yLM ej
        exact ⟨a,v,d,ds,j,z,rfl,rfl,a1,b1,wX a2 z1,wX b2 z2,p1,p2,p3,q.ok r2 _ (Rep.int _).hand⟩
       ·exact q.elim
      ·exact q.elim
     ·exact q.elim
    ·exact q.elim
  ·exact q.elim⟩
end
end Lp
set_option maxHeartbeats 4000000
namespace Lp
open PySem PySem.Spec PyProof.Rows L2 LamX NdefX
def yNH (m:ME):ME:=fun s=>(m s).bind fun v s1=>match v with
 | .int i=>.ok (.int (-i)) s1
 | _=>.bad
def yNG (m:ME):ME:=fun s=>(m s).bind fun v s1=>match v with
 | .lst xs=>.ok (.lst xs.reverse) s1
 | _=>.bad
section
variable {X:Cx} {B:Bs} {N:Ent} {WX:L2.WX} {e:Expr} {m:ME} {k:Nat} {p1 p2 p3 pos:Pos}
theorem yNX (he:SimE X B N WX e m):SimE X B N WX (.UnaryOp .USub e pos) (yNH m) :=
 (pe_un un_neg he).imp fun σ H Q ⟨W,s,r,h⟩=>⟨W,s,r,(h.bind r.slen).mono fun v W1 s1 H1 r1 _ q v' rv=>by
  split at q
  ·rename_i i
   cases (show Rep B W1 (.int i) v' from rv)
   exact ⟨i,rfl,q.ok r1 _ (Rep.int _).hand⟩
  ·exact q.elim⟩
theorem Reps.rev {W:Wd}:∀ {xs:List PV} {vs:List V},Reps B W xs vs→Reps B W xs.reverse vs.reverse
 | _,_,.nil=>.nil
 | x :: xs,v :: vs,.cons h t=>by
  rw [List.reverse_cons,List.reverse_cons]
  exact (Reps.rev t).append (.one h)
theorem yNW (hK:X.K=B.K) (he:SimE X B N WX e m):SimE X B N WX (.Subscript e (.Slice none none (some (.UnaryOp .USub (.Constant (.int 1) k p1) p2)) p3) pos) (yNG m) :=
 (pe_revL he).imp fun σ H Q ⟨W,s,r,h⟩=>⟨W,s,r,(h.bind r.slen).mono fun v W1 s1 H1 r1 _ q v' rv=>by
  split at q
  ·rename_i xs
   obtain ⟨a,vs,rfl,h1,rs⟩:=jIW r1.hr rv (show asL s1.h (.lst xs)=some xs from rfl)
   have hz:=jQG r1.hr rv (show asL s1.h (.lst xs)=some xs from rfl)
   refine ⟨a,vs,rfl,jKT hK h1,fun p hp=>?_⟩
   have hsz:vs.reverse.length≤sizeLine:=by rw [List.length_reverse,← rs.length]; exact hz
   exact q _ _ (jJR (o:=.lst vs.reverse) r1 hp hsz) ⟨jGN r1.hr hp,fun _ _ e _=>e⟩ _ (qZ (r1.hr.fnone hp) rs.rev).hand
  ·exact q.elim⟩
end
def yAA:AH→List PV→Option PV:=fun _ xs=>match xs with
 | [.int i]=>some (.int (if i < 0 then -i else i))
 | _=>none
section
variable {X:Cx} {B:Bs} {W:Wd}
theorem yOJ:CallSem X B yAA (fun xs H Q=>∃ i,xs=[.int i]∧Q (.int (if i < 0 then -i else i)) H):=by
 intro W h H xs z xs' Q hr rx e q
 unfold yAA at e
 split at e
 ·rename_i i
  cases e
  obtain ⟨v,rfl,rv⟩:=repts1 rx
  cases (show Rep B W (.int i) v from rv)
  exact ⟨i,rfl,q W H _ (.refl W H) (Rep.int _).hand⟩
 ·cases e
theorem yUU:BiOk X B "abs" yAA:=⟨_,_,by first | exact PyProof.Rows.boot_abs | rfl,call_abs,yOJ,.inl ⟨_,rfl⟩⟩
end
end Lp
set_option maxHeartbeats 4000000
namespace Lp
open PySem PySem.Spec PyProof.Rows L2
@[irreducible] def yHZ (m:ME):ME:=yNH m
@[irreducible] def yHY (m:ME):ME:=yNG m
@[irreducible] def yCO (m:ME) (ma:MA):ME:=yHW m ma
section
variable {P:PV→S→Prop} {PF:Fl→S→Prop} {E:PV→S→Prop} {s:S} {m mo:ME} {ma mk:MA} {i j c n n0 nk:Nat} {ix:List Nat} {ds:List PV} {kv:List (Str × Str)} {neg:Bool} {fl:FL} {f:Str} {fs:List Str} {mf:MF} {ms:MS}
theorem yVV (h:(m s).post (fun v s1=>∃ i,v=.int i∧P (.int (-i)) s1) E):(yHZ m s).post P E:=by
 unfold yHZ yNH
 exact yK (p_mono h (fun v s1 ⟨z,e,q⟩=>by subst e; exact q) fun _ _ z=>z)
theorem yVU (h:(m s).post (fun v s1=>∃ xs,v=.lst xs∧P (.lst xs.reverse) s1) E):(yHY m s).post P E:=by
 unfold yHY yNG
 exact yK (p_mono h (fun v s1 ⟨z,e,q⟩=>by subst e; exact q) fun _ _ z=>z)
theorem yIE (h:(m s).post (fun o s1=>∃ xs,o=.lst xs∧(ma s1).post (fun vs s2=>∃ y ds d j,vs=[y]∧(toDs xs=some ds∧toD y=some d∧(dOk (.list ds)&&dOk d)=true∧jNN ds d=some j)∧P (.int (j:Nat)) s2) E) E):(yCO m ma s).post P E:=by
 unfold yCO yHW
 refine yK (p_mono h (fun v s1 ⟨xs,e,q⟩=>?_) fun _ _ z=>z)
 subst e
 refine yK (p_mono q (fun vs s2 ⟨y,ds,d,j,e,⟨e1,e2,e3,e4⟩,q⟩=>?_) fun _ _ z=>z)
 subst e
 simp only [e1,e2,e4,if_pos e3]
 exact q
end
end Lp
set_option maxHeartbeats 4000000
namespace Lp
open PySem PySem.Spec PyProof.Rows L2 LamX NdefX
end Lp
set_option maxHeartbeats 4000000
namespace Lp
open PySem PySem.Spec PyProof.Rows L2 LamX NdefX
open Builtin
end Lp
set_option maxHeartbeats 4000000
namespace Lp
open PySem PySem.Spec PyProof.Rows L2 LamX NdefX
def BT.all:List BT:=[.non,.bl,.int,.str,.tup,.lst,.dic]
def eJ:List ME→Str→ME
 | [],acc=>fun s=>.ok (.str acc) s
 | m :: ms,acc=>fun s=>(m s).bind fun v s1=>match v with
  | .str y=>if acc.length+y.length≤sizeLine then eJ ms (acc++y) s1 else .bad
  | _=>.bad
section
variable {X:Cx} {B:Bs} {N:Ent} {WX:L2.WX} {e:Expr} {es:List Expr} {m:ME} {ms:List ME} {pos:Pos}
inductive SimJ (X:Cx) (B:Bs) (N:Ent) (WX:L2.WX):List Expr→List ME→Prop where
 | nil:SimJ X B N WX [] []
 | cons {e:Expr} {m:ME} {es:List Expr} {ms:List ME} (h:SimE X B N WX e m) (r:SimJ X B N WX es ms):SimJ X B N WX (e :: es) (m :: ms)
theorem SimJ.pj (h:SimJ X B N WX es ms):PJ X es (ms.map (tE B N WX)):=by
 induction h with
 | nil=>exact .nil
 | cons h _ ih=>exact .cons h ih
theorem yQN {σ:L2.St} {Q:VK}:∀ {ms:List ME} {acc:Str} {H:Hp},SOk acc→tE B N WX (eJ ms acc) σ H Q→tJs (ms.map (tE B N WX)) acc σ H fun out H1=>Q (.str out) H1
 | [],acc,H,k,⟨W,s,r,h⟩=>h.ok r _ (Rep.str acc k).hand
 | m :: ms,acc,H,k,⟨W,s,r,h⟩=>⟨W,s,r,(Post.bind (f:=fun v s1=>match v with
  | .str y=>if acc.length+y.length≤sizeLine then eJ ms (acc++y) s1 else .bad
  | _=>.bad) r.slen h).mono fun v W1 s1 H1 r1 _ q v' rv=>by
  split at q
  ·rename_i y
   obtain ⟨rfl,k2⟩:=jAH rv
   split at q
   ·rename_i hz
    have k3:=jQU k k2 hz
    exact ⟨y,rfl,k3.2,yQN k3 ⟨W1,s1,r1,q⟩⟩
   ·exact q.elim
  ·exact q.elim⟩
theorem yFU:SOk Str.empty:=⟨by decide +kernel,by decide +kernel⟩
theorem yBM {v1 v2:Expr} {rest:List Expr} (h:SimJ X B N WX (v1 :: v2 :: rest) ms):SimE X B N WX (.JoinedStr (v1 :: v2 :: rest) pos) (eJ ms Str.empty) :=
 (pe_joined h.pj).imp fun σ H Q q=>yQN yFU q
end
end Lp
namespace Lp
open PySem PySem.Spec PyProof.Rows L2 LamX NdefX
end Lp
namespace Lp
open PySem PySem.Spec PyProof.Rows L2 LamX NdefX
structure MeN (P:Program) (w:World) (K:PySem.W.Frag) (mg:Str→Option Value) (base:Heap) (B:Bs) (k:Nat) (c:Nat) (x:Str) (n0:Nat) (ks:List Str) (ix:List Nat) (ds:List PV) (n:Nat) (m:MF):Prop where
 ex:∃ j,j+1≤k∧MeA P w K mg base B j c x n0 ks ix ds n m
theorem MeN.mono {P:Program} {w:World} {K:PySem.W.Frag} {mg:Str→Option Value} {base:Heap} {B:Bs} {i k:Nat} {c:Nat} {x:Str} {n0:Nat} {ks:List Str} {ix:List Nat} {ds:List PV} {n:Nat} {m:MF} (F:MeN P w K mg base B i c x n0 ks ix ds n m) (h:i≤k):MeN P w K mg base B k c x n0 ks ix ds n m :=
 let ⟨j,hj,a⟩:=F.ex
 ⟨j,Nat.le_trans hj h,a⟩
end Lp
set_option maxHeartbeats 4000000
namespace Lp
open PySem PySem.Spec PyProof.Rows L2
@[irreducible] def xEJ (ms:List ME) (acc:Str):ME:=eJ ms acc
section
variable {P:PV→S→Prop} {PF:Fl→S→Prop} {E:PV→S→Prop} {s:S} {m mo a b:ME} {ma mk:MA} {i c:Nat} {mf:MF} {neg:Bool} {ms:List ME} {acc:Str}
theorem ySX (h:P (.str acc) s):(xEJ [] acc s).post P E:=by
 unfold xEJ eJ
 exact h
theorem jUG (h:(m s).post (fun v s1=>∃ z,v=.str z∧acc.length+z.length≤sizeLine∧(xEJ ms (acc++z) s1).post P E) E):(xEJ (m :: ms) acc s).post P E:=by
 unfold xEJ
 rw [eJ]
 refine yK (p_mono h (fun v s1 ⟨z,e,e1,q⟩=>?_) fun _ _ z=>z)
 subst e
 unfold xEJ at q
 simp only [if_pos e1]
 exact q
end
end Lp
set_option maxHeartbeats 4000000
namespace Lp
open PySem PySem.Spec PyProof.Rows L2
theorem jGM {α:Type} (f:α→PV) (g:α→PyData) (h:∀ a,toD (f a)=some (g a)) (l:List α):toDs (l.map f)=some (l.map g):=by
 induction l with
 | nil=>rfl
 | cons a l ih=>rw [List.map_cons,toDs,h a,ih]; rfl
def TrC (c:Nat):Prop:=c=116∨c=114∨c=109
def TabC (cs:List Nat) (n:Nat):Prop:=cs.length=n∧cs.head?=some 116∧∀ c∈cs,TrC c
def LockS (l:Str):Prop:=l = "none" ∨ l = "one" ∨ l = "all"
structure SpecW where
 d:List Nat
 n:List Nat
 s:Bool
 h:Bool
 l:Str
def SpecW.fs (p:SpecW):List PV:=[.str (mkS p.d),.str (mkS p.n),.bl p.s,.bl p.h,.str p.l]
def SpecW.v (p:SpecW):PV:=.tup p.fs
structure SpecW.Ok (p:SpecW):Prop where
 d:TabC p.d 8
 n:TabC p.n 4
 l:LockS p.l
def yVI (c:Nat):Str:=if c=116 then "taken" else if c=114 then "refused" else "made"
theorem jIV {α:Type} {xs:List α} {i:Nat} {x:α} (e:xs[i]?=some x):atI xs (i:Int)=some x:=by
 have hl:=(List.getElem?_eq_some_iff.mp e).1
 unfold atI ixN
 rw [if_pos (by omega),if_pos (by omega)]
 exact e
end Lp
namespace Lp
open PySem PySem.Spec PyProof.Rows L2
section
variable {PF:Fl→S→Prop} {PA:List PV→S→Prop} {P:PV→S→Prop} {E:PV→S→Prop} {s:S} {x:MS} {i:Nat} {o:Bool} {m:ME}
theorem yJL {x0:List PV} (h0:s.e[i]?=some (some (.own x0))) (h:(m s).post (fun v s1=>∃ xs,s1.e[i]?=some (some (.own xs))∧(isOwn v=false∧xs.length < 16384)∧PF .nx ⟨s1.e.set i (some (.own (xs++[v]))),s1.h⟩) E):(jLS i m s).post PF E:=by
 unfold jLS
 have z:∀ (e:List (Option PV)) (xs:List PV),e[i]?=some (some (.own xs))→ownAt e i=some xs:=fun e xs q=>by unfold ownAt; rw [q]
 rw [z _ _ h0]
 refine yK (p_mono h (fun v s1 ⟨xs,e,⟨e1,e2⟩,q⟩=>?_) fun _ _ z=>z)
 rw [z _ _ e]
 have k:jTF xs v=some (xs++[v]):=by
  unfold jTF
  have e3:=(show 16384≤sizeLine by decide)
  rw [if_neg]
  rintro (w | w)
  ·rw [e1] at w; cases w
  ·omega
 simp only [k]
 exact q
theorem jGV {α:Type} {src:S→R S Sr} {t:Tg} {tt:S→R S Bool} {te:ME} {vs:List Nat}
  (h:(src s).post (fun r s1=>r.w=[]∧∃ (rs:List α) (f:α→PV) (c:α→Bool),r.xs=rs.map f∧(∀ a∈rs,isOwn (f a)=false∧∃ e1,qK t (f a) (jU s1.e vs)=some e1∧(tt ⟨e1,s1.h⟩).post (fun k s2=>k=c a∧(te s2).post (fun y s3=>y=f a∧jU s3.e vs=jU s1.e vs∧s3.h=s1.h) NE∧jU s2.e vs=jU s1.e vs∧s2.h=s1.h) NE)∧PA ((rs.filter c).map f) ⟨jU s1.e vs,s1.h⟩) E) :
  (vI src t tt te vs s).post PA E:=by
 refine jPI (p_mono h (fun r s1 ⟨hw,rs,f,c,hx,hs,hn⟩=>⟨hw,fun j acc h=>acc=((rs.take j).filter c).map f∧h=s1.h,⟨rfl,rfl⟩,fun j v acc h e ⟨i1,i2⟩=>?_,fun acc h ⟨i1,i2⟩=>?_⟩) fun _ _ z=>z)
 ·subst i2
  rw [hx,List.getElem?_map] at e
  cases ea:rs[j]? with
  | none=>rw [ea] at e; cases e
  | some a =>
   rw [ea] at e
   cases e
   obtain ⟨o,e1,eb,q⟩:=hs a (List.mem_of_getElem? ea)
   refine ⟨e1,eb,p_mono q (fun k s2 ⟨hk,q2,w,eh⟩=>?_) fun _ _ z=>z⟩
   subst hk
   have tk:=jER ea
   cases hc:c a with
   | true =>
    refine vR rfl (p_mono q2 (fun y s3 ⟨ey,w3,e3⟩=>?_) fun _ _ z=>z)
    subst ey
    refine ⟨o,w3,?_,e3⟩
    rw [tk,List.filter_append,List.map_append,i1]
    simp [hc]
   | false =>
    refine vX rfl ⟨w,?_,eh⟩
    rw [tk,List.filter_append,List.map_append,i1]
    simp [hc]
 ·rw [i1,i2,hx,List.length_map,List.take_length]; exact hn
end
theorem jJI {n:Nat}:∀ {ds:List PyData},(∀ d∈ds,d.depth≤n)→PyData.depthAll ds≤n
 | [],_=>by simp [PyData.depthAll]
 | d :: ds,h=>by
  have h1:=h d (by simp)
  have h2:=jJI (ds:=ds) fun e he=>h e (by simp [he])
  simp only [PyData.depthAll]
  omega
theorem jJA {ds:List PyData} {n:Nat} (h:∀ d∈ds,d.depth≤n) (hn:n≤60):dOk (.list ds)=true:=by
 have:=jJI h
 unfold dOk
 refine decide_eq_true ?_
 simp only [PyData.depth]
 omega
end Lp
namespace Lp
open PySem PySem.Spec PyProof.Rows L2
end Lp
namespace Lp
open PySem PySem.Spec PyProof.Rows L2
end Lp
namespace Lp
open PySem PySem.Spec PyProof.Rows L2
end Lp
set_option maxHeartbeats 4000000
namespace Lp
open PySem PySem.Spec PyProof.Rows L2
theorem strs_map (ys:List Str):strsOf (ys.map PV.str)=some ys:=by
 unfold strsOf
 induction ys with
 | nil=>rfl
 | cons c cs ih=>rw [List.map_cons,List.mapM_cons,ih]; rfl
theorem jJX {S:List Nat}:∀ {L:List (List Nat)},(TL.joinL S L).length≤(L.map List.length).sum+L.length * S.length
 | []=>by simp [TL.joinL]
 | [p]=>by simp [TL.joinL]
 | p :: q :: r=>by
  have ih:=jJX (S:=S) (L:=q :: r)
  have e:TL.joinL S (p :: q :: r)=p++(S++TL.joinL S (q :: r)):=by simp [TL.joinL]
  rw [e,List.length_append,List.length_append,List.map_cons,List.sum_cons,List.length_cons,Nat.succ_mul]
  omega
end Lp
namespace Lp
open PySem PySem.Spec PyProof.Rows L2
section
variable {PA:List PV→S→Prop} {E:PV→S→Prop} {s:S}
theorem jQX {α:Type} {src:S→R S Sr} {t:Tg} {tt:S→R S Bool} {te:ME} {vs:List Nat}
  (h:(src s).post (fun r s1=>r.w=[]∧∃ (rs:List α) (f g:α→PV) (c:α→Bool),r.xs=rs.map f∧(∀ a∈rs,isOwn (g a)=false∧∃ e1,qK t (f a) (jU s1.e vs)=some e1∧(tt ⟨e1,s1.h⟩).post (fun k s2=>k=c a∧(te s2).post (fun y s3=>y=g a∧jU s3.e vs=jU s1.e vs∧s3.h=s1.h) NE∧jU s2.e vs=jU s1.e vs∧s2.h=s1.h) NE)∧PA ((rs.filter c).map g) ⟨jU s1.e vs,s1.h⟩) E) :
  (vI src t tt te vs s).post PA E:=by
 refine jPI (p_mono h (fun r s1 ⟨hw,rs,f,g,c,hx,hs,hn⟩=>⟨hw,fun j acc h=>acc=((rs.take j).filter c).map g∧h=s1.h,⟨rfl,rfl⟩,fun j v acc h e ⟨i1,i2⟩=>?_,fun acc h ⟨i1,i2⟩=>?_⟩) fun _ _ z=>z)
 ·subst i2
  rw [hx,List.getElem?_map] at e
  cases ea:rs[j]? with
  | none=>rw [ea] at e; cases e
  | some a =>
   rw [ea] at e
   cases e
   obtain ⟨o,e1,eb,q⟩:=hs a (List.mem_of_getElem? ea)
   refine ⟨e1,eb,p_mono q (fun k s2 ⟨hk,q2,w,eh⟩=>?_) fun _ _ z=>z⟩
   subst hk
   have tk:=jER ea
   cases hc:c a with
   | true =>
    refine vR rfl (p_mono q2 (fun y s3 ⟨ey,w3,e3⟩=>?_) fun _ _ z=>z)
    subst ey
    refine ⟨o,w3,?_,e3⟩
    rw [tk,List.filter_append,List.map_append,i1]
    simp [hc]
   | false =>
    refine vX rfl ⟨w,?_,eh⟩
    rw [tk,List.filter_append,List.map_append,i1]
    simp [hc]
 ·rw [i1,i2,hx,List.length_map,List.take_length]; exact hn
end
end Lp
set_option maxHeartbeats 4000000
namespace Lp
open PySem PySem.Spec PyProof.Rows L2 LamX NdefX PySem.W
abbrev lfn (q:Str) (params:Arguments) (body:Expr) (scope:Scope) (cl:List (Str × Addr)) (dV pm cdv ct:Value):FuncData:={ PySem.W.kla_fn "<lambda>" q params body scope cl pm cdv ct with defaults:=dV }
abbrev lob (q:Str) (params:Arguments) (body:Expr) (scope:Scope) (cl:List (Str × Addr)) (dV pm:Value) (c':Addr) (ct:Value):Obj:={ cls:=.type "function", data:=.func (lfn q params body scope cl dV pm (.ref c') ct) }
abbrev FrzF (o:Obj):HO:=.frz o (.ext fun _=>True)
end Lp
set_option maxHeartbeats 4000000
namespace Lp
open PySem PySem.Spec PyProof.Rows L2 LamX NdefX PySem.W
structure LamD where
 params:Arguments
 body:Expr
 scope:Scope
 df:Option (Str × Int)
abbrev yVF (X:Cx):Str:=X.env.qual ++ "<lambda>"
abbrev yWL (X:Cx) (d:LamD) (dV pm:Value) (c1:Addr) (ctv:Value):Obj:=lob (yVF X) d.params d.body d.scope (cloFrom X.env.cells d.scope.names []) dV pm c1 ctv
def DfH (H:Hp) (df:Option (Str × Int)) (dV:Value):Prop:=match df with
 | none=>dV=.none
 | some (_,i)=>∃ T,dV=.ref T∧H T=some (.tup [.int i])
def FnAt (X:Cx) (W:Wd) (d:LamD) (f:Addr):Prop:=∃ (c1:Addr) (pm ctv dV:Value),W.F f=some (FrzF (yWL X d dV pm c1 ctv))∧W.F c1=some (CodeO c1 (yVF X))∧DfH W.F d.df dV
theorem DfH.mono {H H':Hp} {df:Option (Str × Int)} {dV:Value} (k:∀ a o,H a=some o→H' a=some o) (h:DfH H df dV):DfH H' df dV:=by
 unfold DfH at h ⊢
 split at h
 ·exact h
 ·obtain ⟨T,e1,e2⟩:=h
  exact ⟨T,e1,k _ _ e2⟩
theorem FnAt.mono {X:Cx} {W W':Wd} {d:LamD} {f:Addr} (l:W.Le W') (h:FnAt X W d f):FnAt X W' d f :=
 let ⟨c1,pm,ctv,dV,e1,e2,e3⟩:=h
 ⟨c1,pm,ctv,dV,l.F _ _ e1,l.F _ _ e2,e3.mono l.F⟩
structure LamK (X:Cx) (d:LamD):Prop where
 kind:d.scope.kind=.function
 co:d.scope.isCoroutine=false
 gen:d.scope.isGenerator=false
 own:∀ y∈d.scope.names,y.2≠.cell∧(y.2=.local→y.1∉X.N)
 free:∀ y∈d.scope.names,y.2=.free→X.env.scope.names.lookup y.1=some .cell∨X.env.scope.names.lookup y.1=some .free
 df:match d.df with
  | none=>defaultsOf d.params X.env=([],[])∧∀ (q:Str) (cl:List (Str × Addr)) (pm cdv ct:Value),bindArgs (lfn q d.params d.body d.scope cl .none pm cdv ct) ⟨[],[]⟩=pure []
  | some (a,i)=>(∃ j p,defaultsOf d.params X.env=([eval (.Constant (.int i) j p) X.env],[]))∧d.scope.names.lookup a=some .local ∧
   ∀ (T:Addr) (q:Str) (cl:List (Str × Addr)) (pm cdv ct:Value),∃ k,bindArgs (lfn q d.params d.body d.scope cl (.ref T) pm cdv ct) ⟨[],[]⟩=seqItems? (.ref T) >>= k∧∀ u,k (some #[u])=pure [(a,u)]
theorem LamK.has {X:Cx} {d:LamD} (L:LamK X d) (ok:X.Ok):∀ y∈d.scope.names,y.2=.free→∃ c,X.env.cells.lookup y.1=some c:=fun y hy e=>by
 rcases L.free y hy e with k | k
 ·exact ok.has _ (.inl k)
 ·exact ok.has _ (.inr k)
end Lp
set_option maxHeartbeats 4000000
namespace Lp
open PySem PySem.Spec PyProof.Rows L2 LamX NdefX PySem.W
end Lp
set_option maxHeartbeats 4000000
namespace Lp
open PySem PySem.Spec PyProof.Rows L2 LamX NdefX
abbrev LamB (X:Cx) (B:Bs) (j:Nat) (d:LamD) (ml:ME):Prop:=∀ (N:Ent) (A:Around) (outer:List Env) (s:Shared) (H:Hp) (E:XK) (f c':Addr),Room j (A.deeper (lamEnv X d.scope s.heap.objs.size f c'))→Takes (lamCx X A outer s H E d.scope f c') (fun c d _ H=>E c d H) →
 SimE (lamCx X A outer s H E d.scope f c') B N (fun c d _ H=>E c d H) d.body ml
inductive Lams (X:Cx) (B:Bs) (j:Nat):List Expr→List LamD→List ME→Prop where
 | nil:Lams X B j [] [] []
 | cons {params:Arguments} {body:Expr} {scope:Scope} {df:Option (Str × Int)} {ml:ME} {es:List Expr} {ds:List LamD} {ms:List ME} {pos:Pos} (L:LamK X ⟨params,body,scope,df⟩) (hb:LamB X B j ⟨params,body,scope,df⟩ ml) (t:Lams X B j es ds ms) :
  Lams X B j (.Lambda params body scope pos :: es) (⟨params,body,scope,df⟩ :: ds) (ml :: ms)
theorem Lams.at {X:Cx} {B:Bs} {j:Nat}:∀ {es:List Expr} {ds:List LamD} {ms:List ME},Lams X B j es ds ms→∀ (i:Nat) (ml:ME),ms[i]?=some ml→∃ d,ds[i]?=some d∧LamK X d∧LamB X B j d ml
 | _,_,_,.nil,i,ml,e=>by simp at e
 | _,_,_,.cons L hb t,0,ml,e=>by
  simp only [List.getElem?_cons_zero] at e
  cases e
  exact ⟨_,rfl,L,hb⟩
 | _,_,_,.cons L hb t,i+1,ml,e=>by
  simp only [List.getElem?_cons_succ] at e ⊢
  exact t.at i ml e
theorem Lams.len {X:Cx} {B:Bs} {j:Nat}:∀ {es:List Expr} {ds:List LamD} {ms:List ME},Lams X B j es ds ms→ds.length=ms.length
 | _,_,_,.nil=>rfl
 | _,_,_,.cons _ _ t=>congrArg Nat.succ t.len
end Lp
set_option maxHeartbeats 4000000
namespace Lp
open PySem PySem.Spec PyProof.Rows L2
def dd {α:Type} [DecidableEq α]:List α→List α
 | []=>[]
 | x :: xs=>if x∈xs then dd xs else x :: dd xs
end Lp
set_option maxHeartbeats 4000000
namespace Lp
open PySem PySem.Spec PyProof.Rows L2
def jGL (c:S→R S Bool) (body:MS):Nat→MS
 | 0,_=>.bad
 | n+1,s=>(c s).bind fun k s1=>if k=true then (body s1).bind fun f s2=>match f with
   | .nx=>jGL c body n s2
   | .ct=>jGL c body n s2
   | .bk=>.ok .nx s2
   | .rt v=>.ok (.rt v) s2
  else .ok .nx s1
section
variable {X:Cx} {B:Bs} {N:Ent} {WX:L2.WX} {c:Expr} {body:List Stmt} {mc:S→R S Bool} {mb:MS} {pos:Pos}
theorem yBJ (n:Nat) (hp:PassesOwn (model X.prog X.w) X.A X.env X.xe) (hc:SimT X B N WX c mc) (hb:SimSs X B N WX body mb):SimS X B N WX (.While c body [] pos) (jGL mc mb n) :=
 (ps_while hp hc hb).imp fun D σ H ⟨W,s,r,h⟩=>by
  refine ⟨fun m σ H=>∃ W' s',Rel B N W' s' σ H∧PostS B N WX D (jGL mc mb m s'),⟨n,W,s,r,h⟩,?_⟩
  rintro m σ1 H1 ⟨W1,s1,r1,q⟩
  cases m with
  | zero=>exact q.elim
  | succ m =>
   refine ⟨W1,s1,r1,?_⟩
   unfold jGL at q
   refine q.bindE.mono fun k W2 s2 H2 r2 _ q2=>?_
   cases k with
   | true =>
    rw [if_pos rfl] at q2 ⊢
    refine ⟨fun σ' H'=>∃ W' s',Rel B N W' s' σ' H'∧PostS B N WX D (jGL mc mb m s'),fun σ' H' z=>⟨m,Nat.lt_succ_self m,z⟩,W2,s2,r2,R.post_mono (R.post_bind q2) (fun f s3 q3=>?_) fun x s3 q3=>q3⟩
    cases f with
    | nx=>exact fun W' σ' H' r'=>⟨W',s3,r',q3⟩
    | ct=>exact fun W' σ' H' r'=>⟨W',s3,r',q3⟩
    | bk=>exact q3
    | rt v=>exact q3
   | false =>
    rw [if_neg Bool.false_ne_true] at q2 ⊢
    exact q2 W2 σ1 H2 r2
end
end Lp
set_option maxHeartbeats 4000000
namespace Lp
open PySem PySem.Spec PyProof.Rows L2 LamX NdefX
end Lp
set_option maxHeartbeats 4000000
namespace Lp
open PySem PySem.Spec PyProof.Rows L2 LamX NdefX
end Lp
set_option maxHeartbeats 4000000
namespace Lp
open PySem PySem.Spec PyProof.Rows L2
end Lp
set_option maxHeartbeats 4000000
namespace Lp
open PySem PySem.Spec PyProof.Rows L2
def kP (k:List Int):PV:=.tup (k.map .int)
theorem jSJ:∀ k:List Int,toDs (k.map PV.int)=some (k.map PyData.int)
 | []=>rfl
 | i :: k=>by rw [List.map_cons,toDs,jSJ k]; rfl
theorem jRZ (k:List Int):toD (kP k)=some (.tuple (k.map .int)):=by
 show (toDs (k.map PV.int)).map PyData.tuple=_
 rw [jSJ]; rfl
theorem jPM:∀ (p a b:List Int),HT.lexLt (p++a) (p++b)=HT.lexLt a b
 | [],_,_=>rfl
 | x :: p,a,b=>by
  rw [List.cons_append,List.cons_append,HT.lexLt_cons,if_pos rfl]
  exact jPM p a b
theorem jYE:∀ (p r:List Int) (x:Int),HT.lexLt p (p++x :: r)=true
 | [],_,_=>rfl
 | y :: p,r,x=>by
  rw [List.cons_append,HT.lexLt_cons,if_pos rfl]
  exact jYE p r x
theorem jDZ {x y:Int} {a b:List Int} (h:x < y):HT.lexLt (x :: a) (y :: b)=true:=by
 rw [HT.lexLt_cons,if_neg (by omega)]
 exact decide_eq_true h
theorem jUM:∀ a:List Int,HT.lexLt a a=false
 | []=>rfl
 | x :: a=>by rw [HT.lexLt_cons,if_pos rfl]; exact jUM a
theorem yAT:∀ a b:List Int,HT.lexLt a b=false→HT.lexLt b a=false→a=b
 | [],[],_,_=>rfl
 | [],_ :: _,h,_=>by cases h
 | _ :: _,[],_,h=>by cases h
 | x :: a,y :: b,h1,h2=>by
  rw [HT.lexLt_cons] at h1 h2
  by_cases e:x=y
  ·subst e
   rw [if_pos rfl] at h1 h2
   rw [yAT a b h1 h2]
  ·rw [if_neg e] at h1
   rw [if_neg (fun z=>e z.symm)] at h2
   have:=of_decide_eq_false h1
   have:=of_decide_eq_false h2
   omega
theorem jYF:∀ (l h x:List Int),HT.lexLt l h=true→h.take l.length≠l→HT.lexLt (l++x) h=true
 | [],_,_,_,n=>absurd rfl n
 | _ :: _,[],_,e,_=>by cases e
 | y :: l,z :: h,x,e,n=>by
  rw [HT.lexLt_cons] at e
  rw [List.cons_append,HT.lexLt_cons]
  by_cases q:y=z
  ·subst q
   rw [if_pos rfl] at e ⊢
   exact jYF l h x e fun w=>n (by rw [List.length_cons,List.take_succ_cons,w])
  ·rw [if_neg q] at e ⊢
   exact e
theorem jOD:∀ (l h:List Int),HT.lexLt l h=true→h.take l.length=l→∃ y r,h=l++y :: r
 | [],[],e,_=>by cases e
 | [],y :: r,_,_=>⟨y,r,rfl⟩
 | _ :: _,[],e,_=>by cases e
 | y :: l,z :: h,e,t=>by
  rw [List.length_cons,List.take_succ_cons] at t
  injection t with t1 t2
  subst t1
  rw [HT.lexLt_cons,if_pos rfl] at e
  obtain ⟨u,r,q⟩:=jOD l h e t2
  exact ⟨u,r,by rw [q]; rfl⟩
def kwAt (lo hi:Option (List Int)) (m a:Int):List Int:=match lo,hi with
 | none,none=>[a]
 | none,some h=>[h.headD 0 - m+a]
 | some l,none=>[l.headD 0+1+a]
 | some l,some h=>if h.take l.length=l then l++[h.getD l.length 0 - m+a] else l++[a]
def kw (lo hi:Option (List Int)) (m:Nat):List (List Int):=(List.range m).map fun (a:Nat)=>kwAt lo hi m a
structure Bnd (lo hi:Option (List Int)):Prop where
 l:∀ l,lo=some l→l≠[]
 h:∀ h,hi=some h→h≠[]
 lt:∀ l h,lo=some l→hi=some h→HT.lexLt l h=true
theorem yEI {lo hi:Option (List Int)} {m a b:Int} (h:a < b):HT.lexLt (kwAt lo hi m a) (kwAt lo hi m b)=true:=by
 unfold kwAt
 split
 ·exact jDZ h
 ·exact jDZ (by omega)
 ·exact jDZ (by omega)
 ·split
  ·rw [jPM]; exact jDZ (by omega)
  ·rw [jPM]; exact jDZ h
theorem yWM {lo hi:Option (List Int)} {m a:Int} {l:List Int} (B:Bnd lo hi) (e:lo=some l) (ha:0≤a):HT.lexLt l (kwAt lo hi m a)=true:=by
 subst e
 cases hi with
 | none =>
  cases l with
  | nil=>exact absurd rfl (B.l _ rfl)
  | cons x r=>exact jDZ (by show x < x+1+a; omega)
 | some h =>
  show HT.lexLt l (if h.take l.length=l then l++[h.getD l.length 0 - m+a] else l++[a])=true
  split <;> exact jYE _ _ _
theorem yWN {lo hi:Option (List Int)} {m a:Int} {h:List Int} (B:Bnd lo hi) (e:hi=some h) (ha:a < m):HT.lexLt (kwAt lo hi m a) h=true:=by
 subst e
 cases lo with
 | none =>
  cases h with
  | nil=>exact absurd rfl (B.h _ rfl)
  | cons x r=>exact jDZ (by show x - m+a < x; omega)
 | some l =>
  show HT.lexLt (if h.take l.length=l then l++[h.getD l.length 0 - m+a] else l++[a]) h=true
  split
  ·rename_i t
   obtain ⟨y,r,q⟩:=jOD l h (B.lt _ _ rfl rfl) t
   have eg:h.getD l.length 0=y:=by rw [q]; simp
   rw [eg,q,jPM]
   exact jDZ (by omega)
  ·rename_i t
   exact jYF l h _ (B.lt _ _ rfl rfl) t
abbrev dK (k:List Int):PyData:=.tuple (k.map .int)
theorem jYR:∀ a b:List Int,PyData.eqvAll (a.map .int) (b.map .int)=decide (a=b)
 | [],[]=>rfl
 | [],_ :: _=>rfl
 | _ :: _,[]=>rfl
 | x :: a,y :: b=>by
  show (PyData.eqv (.int x) (.int y)&&PyData.eqvAll (a.map .int) (b.map .int))=_
  rw [jCC,jYR a b]
  by_cases h1:x=y <;> by_cases h2:a=b <;> simp [h1,h2]
theorem yRF {a b:List Int}:PyData.eqv (dK a) (dK b)=decide (a=b):=by
 show PyData.eqvAll (a.map .int) (b.map .int)=_
 exact jYR a b
theorem jPO (k:List Int):(dK k).depth≤2:=by
 have:PyData.depthAll (k.map PyData.int)≤1:=jJI fun d hd=>by
  obtain ⟨i,_,rfl⟩:=List.mem_map.mp hd
  simp [PyData.depth]
 show (PyData.tuple (k.map .int)).depth≤2
 simp only [PyData.depth]
 omega
theorem yIQ (k:List Int):dOk (dK k)=true:=decide_eq_true (Nat.le_trans (jPO k) (by decide))
theorem yWS {h:AH} {a b:List Int}:fEq h (kP a) (kP b)=some (.bl (decide (a=b))):=by
 unfold fEq
 rw [show jEW h (kP a)=some (dK a) from jRZ a,show jEW h (kP b)=some (dK b) from jRZ b]
 show (if dOk (dK a)&&dOk (dK b) then some (PV.bl (PyData.eqv (dK a) (dK b))) else none)=_
 rw [yIQ,yIQ,yRF]
 rfl
theorem yIY (xs:List (List Int)):toDs (xs.map kP)=some (xs.map dK):=jGM kP dK jRZ xs
theorem alike_ints:∀ a b:List Int,PySem.W.alikeAll (a.map .int) (b.map .int)=true
 | [],_=>by simp [PySem.W.alikeAll]
 | _ :: _,[]=>rfl
 | x :: a,y :: b=>by
  show (PySem.W.alike (.int x) (.int y)&&PySem.W.alikeAll (a.map .int) (b.map .int))=true
  rw [alike_ints a b]; rfl
end Lp
set_option maxHeartbeats 4000000
namespace Lp
open PySem PySem.Spec PyProof.Rows L2
def yNF (o:Option NestedKey) (κ:NestedKey):Bool:=match o with
 | some a=>a.beq κ
 | none=>false
def yFF:List (PV × PV)→NestedKey→Option PV
 | [],_=>none
 | kv :: r,κ=>if yNF (nk kv.1) κ=true then some kv.2 else yFF r κ
def yRK (ks:List (PV × PV)) (κ:NestedKey) (v:PV):List (PV × PV):=ks.map fun kv=>if yNF (nk kv.1) κ=true then (kv.1,v) else kv
def yVB (ks:List (PV × PV)) (k:PV) (κ:NestedKey) (v:PV):List (PV × PV):=if (yFF ks κ).isSome=true then yRK ks κ v else ks++[(k,v)]
section
variable {B:Bs} {W:Wd} {ks:List (PV × PV)} {L:List (NestedKey × Addr × Value)} {κ:NestedKey}
theorem jSY {a κ:NestedKey}:yNF (some a) κ=decide (a=κ):=(NestedKey.decide_eq a κ).symm
theorem DRel.get (r:DRel B W ks L) (κ:NestedKey):(∃ v p y,yFF ks κ=some v∧atKey L κ=some p∧Rep B W v y∧RelV y p.2)∨(yFF ks κ=none∧atKey L κ=none):=by
 induction r with
 | nil=>exact .inr ⟨rfl,rfl⟩
 | @cons k v κ0 b u y ks L h1 h2 h3 h4 h5 t ih =>
  unfold yFF
  rw [h1,jSY]
  by_cases e:κ0=κ
  ·rw [if_pos (decide_eq_true e)]
   exact .inl ⟨v,(b,u),y,rfl,by simp [atKey,List.find?_cons,e],h4,h5⟩
  ·rw [if_neg (by simpa using e)]
   have:atKey ((κ0,b,u) :: L) κ=atKey L κ:=by simp [atKey,List.find?_cons,e]
   rw [this]; exact ih
theorem DRel.set (r:DRel B W ks L) {v:PV} {y:V} {u:Value} (rv:Rep B W v y) (ry:RelV y u):DRel B W (yRK ks κ v) (L.map (putAt κ u)):=by
 induction r with
 | nil=>exact .nil
 | @cons k v0 κ0 b u0 y0 ks L h1 h2 h3 h4 h5 t ih =>
  show DRel B W ((if yNF (nk k) κ=true then (k,v) else (k,v0)) :: yRK ks κ v) (putAt κ u (κ0,b,u0) :: L.map (putAt κ u))
  rw [h1,jSY]
  unfold putAt
  by_cases e:κ0=κ
  ·rw [if_pos (decide_eq_true e),if_pos e]; exact .cons h1 h2 h3 rv ry ih
  ·rw [if_neg (by simpa using e),if_neg e]; exact .cons h1 h2 h3 h4 h5 ih
theorem DRel.snoc (r:DRel B W ks L) {k v:PV} {b:Addr} {y:V} {u:Value} (h1:nk k=some κ) (h2:κ.depth≤8) (h3:Rep B W k (.ref b)) (h4:Rep B W v y) (h5:RelV y u):DRel B W (ks++[(k,v)]) (L++[(κ,b,u)]):=by
 induction r with
 | nil=>exact .cons h1 h2 h3 h4 h5 .nil
 | cons g1 g2 g3 g4 g5 t ih=>exact .cons g1 g2 g3 g4 g5 ih
theorem DRel.put (r:DRel B W ks L) {k v:PV} {b:Addr} {y:V} {u:Value} (h1:nk k=some κ) (h2:κ.depth≤8) (h3:Rep B W k (.ref b)) (h4:Rep B W v y) (h5:RelV y u):DRel B W (yVB ks k κ v) (storedH L κ b u):=by
 unfold yVB storedH
 rcases r.get κ with ⟨v0,p,y0,e1,e2,_⟩ | ⟨e1,e2⟩
 ·rw [e1,e2]; exact r.set h4 h5
 ·rw [e1,e2]; exact r.snoc h1 h2 h3 h4 h5
theorem DRel.length (r:DRel B W ks L):ks.length=L.length:=by
 induction r with
 | nil=>rfl
 | cons _ _ _ _ _ _ ih=>exact congrArg Nat.succ ih
def jBO:PV→Option L2.Key
 | .int i=>some (.inl i)
 | .str x=>some (.inr x)
 | _=>none
def kEq:L2.Key→L2.Key→Bool
 | .inl i,.inl j=>decide (i=j)
 | .inr x,.inr y=>decide (x=y)
 | _,_=>false
theorem yUC:∀ a b:L2.Key,kEq a b=decide (a=b)
 | .inl i,.inl j=>by unfold kEq; by_cases e:i=j <;> simp [e]
 | .inr x,.inr y=>by unfold kEq; by_cases e:x=y <;> simp [e]
 | .inl _,.inr _=>by simp [kEq]
 | .inr _,.inl _=>by simp [kEq]
def yHV:List (L2.Key × PV)→L2.Key→Option PV
 | [],_=>none
 | kv :: r,k=>if kEq kv.1 k=true then some kv.2 else yHV r k
theorem yEW {k:L2.Key}:∀ {ks:List (L2.Key × PV)} {kvs:List (L2.Key × V)},ks.map (·.1)=kvs.map (·.1)→Reps B W (ks.map (·.2)) (kvs.map (·.2))→(∃ v y,yHV ks k=some v∧valV kvs k=some y∧Rep B W v y)∨(yHV ks k=none∧valV kvs k=none)
 | [],[],_,_=>.inr ⟨rfl,rfl⟩
 | [],_ :: _,e,_=>by simp at e
 | _ :: _,[],e,_=>by simp at e
 | (k1,v1) :: ks,(k2,v2) :: kvs,e,r=>by
  rw [List.map_cons,List.map_cons] at e
  injection e with e1 e2
  have e1:k1=k2:=e1
  subst e1
  cases r with
  | cons r1 r2 =>
   unfold yHV
   rw [yUC]
   by_cases q:k1=k
   ·rw [if_pos (decide_eq_true q)]
    exact .inl ⟨v1,v2,rfl,valV_pos (p:=(k1,v2)) q,r1⟩
   ·rw [if_neg (by simpa using q),valV_neg (p:=(k1,v2)) q]
    exact yEW e2 r2
end
inductive DAt (X:Cx) (B:Bs) (W:Wd) (H:Hp) (s:Shared) (a:Addr) (y:V) (u:Value):Option PV→Prop where
 | dic {L:List (NestedKey × Addr × Value)} {ks:List (PV × PV)} {κ:NestedKey} {b:Addr} {o:Option PV} (h1:H a=some (DicO B.w a L)) (h2:L.length≤sizeLine) (h3:DRel B W ks L) (h4:(a == sysModules)=false) (h5:s.heap.DictOfH (nestedKind X.prog X.w) a L) (h6:y=.ref b) (h7:u=.ref b)
  (h8:(nestedKind X.prog X.w).is s.heap κ b) (h9:o=yFF ks κ):DAt X B W H s a y u o
 | dik {kvs:List (L2.Key × V)} {ks:List (L2.Key × PV)} {κ:L2.Key} {o:Option PV} (h1:H a=some (.dK kvs)) (h2:ks.map (·.1)=kvs.map (·.1)) (h3:Reps B W (ks.map (·.2)) (kvs.map (·.2))) (h4:y=kV κ) (h5:o=yHV ks κ):DAt X B W H s a y u o
section
variable {X:Cx} {B:Bs} {W:Wd} {h:AH} {H:Hp} {pins:List (Addr × Obj)} {σ:L2.St} {s:Shared} {a:Addr}
variable {y:V} {u:Value} {o:Option PV} {A:Around} {E:Value→Shared→Prop}
theorem DAt.has {Q:Value→Shared→Prop} (hu:A.units+9 < cLine) (g:DAt X B W H s a y u o) (I:Inv X pins σ H s) (ry:RelV y u) (h:∀ s',Inv X pins σ H s'→Q (.bool o.isSome) s'):wpAny (model X.prog X.w) A (compareOp .In u (.ref a)) Q E s:=by
 cases g with
 | dic h1 h2 h3 h4 h5 h6 h7 h8 h9 =>
  subst h6 h7 h9
  refine wpAny_in_heap (show A.in1.units+8 < cLine from by show A.units+1+8 < cLine; omega) h8 h4 h5 ?_
  rcases h3.get _ with ⟨v,p,y0,e1,e2,r1,r2⟩ | ⟨e1,e2⟩
  ·rw [e2]; rw [e1] at h; exact h _ (I.tok _)
  ·rw [e2]; rw [e1] at h; exact h _ (I.tok _)
 | dik h1 h2 h3 h4 h5 =>
  subst h4 h5
  refine d_in (by omega) I (DGet.k h1) ry fun s' I'=>?_
  rcases yEW h2 h3 with ⟨v,y0,e1,e2,r1⟩ | ⟨e1,e2⟩
  ·rw [e2]; rw [e1] at h; exact h _ I'
  ·rw [e2]; rw [e1] at h; exact h _ I'
end
end Lp
set_option maxHeartbeats 4000000
namespace Lp
open PySem PySem.Spec PyProof.Rows L2
section
variable {X:Cx} {B:Bs}
theorem CallR.or {r r':List V→Hp→VK→Prop} {f:Value} (a:CallR X f r) (b:CallR X f r'):CallR X f fun xs H Q=>r xs H Q∨r' xs H Q:=fun pins s σ H xs us Q I rv h=>h.elim (a pins s σ H xs us Q I rv) (b pins s σ H xs us Q I rv)
theorem CallSem.or {f g:AH→List PV→Option PV} {r r':List V→Hp→VK→Prop} (a:CallSem X B f r) (b:CallSem X B g r'):CallSem X B (fun h xs=>(f h xs).or (g h xs)) fun xs H Q=>r xs H Q∨r' xs H Q:=by
 intro W h H xs z xs' Q hr rx e q
 have e:(f h xs).or (g h xs)=some z:=e
 cases ef:f h xs with
 | some z' =>
  rw [ef] at e
  cases e
  exact .inl (a W h H xs z xs' Q hr rx ef q)
 | none =>
  rw [ef] at e
  exact .inr (b W h H xs z xs' Q hr rx e q)
end
section
variable {X:Cx} {B:Bs} {N:Ent} {WX:L2.WX} {k v:Expr} {mk mv:ME} {pos:Pos}
theorem Post.base {α β:Type} {W0 W1:Wd} {s0 s1:S} {H0 H1:Hp} {σ:L2.St} {r:R S α} {f:α→S→R S β} {P:β→Wd→S→Hp→Prop} (hl:W0.m.length=s0.h.length) (st:StepE W0 s0 H0 W1 s1 H1) (q:Post B N WX W0 s0 H0 σ (r.bind f) P) :
  Post B N WX W1 s1 H1 σ r fun v W' s' H'=>StepE W0 s0 H0 W' s' H'∧Post B N WX W0 s0 H0 σ (f v s') P :=
 R.post_mono (R.post_bind q) (fun v s' q W' H' r' st'=>⟨st.trans hl st',q⟩) fun x s' q W' H' cls d r' st' e nw=>q W' H' cls d r' (st.trans hl st') e fun dd ed=>st.st.tr _ (nw dd ed)
end
end Lp
set_option maxHeartbeats 4000000
namespace Lp
open PySem PySem.Spec PyProof.Rows L2
def yHT (ma mb:ME):S→R S (List PV):=fun s=>(ma s).bind fun x s1=>(mb s1).bind fun y s2=>match asM s2.h x,asM s2.h y with
 | some xs,some ys=>if xs.length+ys.length≤sizeLine then .ok (xs++ys) s2 else .bad
 | _,_=>.bad
def jWO (i:Nat):MS:=fun s=>match s.e[i]? with
 | some (some (.own xs))=>.ok (.rt (.lst xs)) ⟨s.e.set i (some (.lst xs)),s.h⟩
 | some (some v)=>if isOwn v=true then .bad else .ok (.rt v) s
 | _=>.bad
section
variable {X:Cx} {B:Bs} {N:Ent} {WX:L2.WX} {a b c:Expr} {ma mb:ME} {na nb:S→R S (List PV)} {tc:S→R S Bool} {pos:Pos}
theorem yWQ {W W2:Wd} {s s2:S} {H H2:Hp} {σ:L2.St} {Q:VK} {xs:List PV} {vs:List V} (r2:Rel B N W2 s2 σ H2) (st:StepE W s H W2 s2 H2) (rv:Reps B W2 xs vs) (hz:vs.length≤sizeLine)
  (q:Post B N WX W s H σ (R.ok xs s2) fun xs W' s' H'=>∀ p vs,H p=none→Loose N W' s' σ p→H' p=some (.lst vs)→Reps B W' xs vs→Q (.ref p) H') (p:Addr) (hp:H2 p=none):Q (.ref p) (upd H2 p (.lst vs)):=by
 have l:=r2.loose hp
 have hp0:H p=none:=st.st.tr _ hp
 exact q W2 _ (jJQ r2 l (o:=.lst vs) hz (.inl hp)) (st.put hp0 l.m) p vs hp0 l upd_same rv
theorem jXM (ha:SimE X B N WX a ma) (hb:SimE X B N WX b mb):SimN X B N WX (.BinOp a .Add b pos) (yHT ma mb) :=
 (pe_op op_cat ha hb).imp fun σ H Q ⟨W,s,r,h⟩=>⟨W,s,r,R.post_mono (Post.base r.slen (StepE.refl r.hr) h) (fun x s1 q W1 H1 r1 st1 x' rx=>⟨W1,s1,r1,R.post_mono (Post.base r.slen (q W1 H1 r1 st1).1 (q W1 H1 r1 st1).2) (fun y s2 q2 W2 H2 r2 st2 y' ry=>by
  obtain ⟨stB,qF⟩:=q2 W2 H2 r2 st2
  have rx2:=rx.on r1.slen st2.st
  split at qF
  ·rename_i xs ys ex ey
   split at qF
   ·rename_i hz
    obtain ⟨a,vs,rfl,ha,ra⟩:=jNR r2.hr rx2 ex
    obtain ⟨b,ws,rfl,hb,rb⟩:=jNR r2.hr ry ey
    have hz2:(vs++ws).length≤sizeLine:=by rw [List.length_append,← ra.length,← rb.length]; exact hz
    exact ⟨a,b,vs,ws,rfl,rfl,ha,hb,by rw [← ra.length,← rb.length]; exact hz,fun p hp=>yWQ r2 stB (ra.append rb) hz2 qF p hp⟩
   ·exact qF.elim
  ·exact qF.elim) fun _ _ q=>q⟩) fun _ _ q=>q⟩
theorem yFV {i:Nat} {x:Str} {npos:Pos} (hN:X.N[i]?=some x) (hv:Vis X.env.scope x) (hd:(x == ("__debug__" : Str))=false) (hcd:(x == ("__classdict__" : Str))=false):SimS X B N WX (.Return (some (.Name x npos)) pos) (jWO i) :=
 (ps_ret (pe_var hN hv hd hcd)).imp fun D σ H ⟨W,s,r,h⟩=>by
  unfold jWO at h
  split at h
  ·rename_i xs e
   obtain ⟨p,vs,e1,hH,rv,hF,hm,h0,r2⟩:=yOP r e
   exact ⟨.ref p,e1,h _ σ H _ r2 (Rep.lst upd_same (rv.mono (jCN hF)))⟩
  ·rename_i v _ e
   split at h
   ·exact h.elim
   ·rename_i o
    obtain ⟨v',e',sl⟩:=r.env i v e
    exact ⟨v',e',h W σ H v' r (sl.hand.rep (by simpa using o))⟩
  ·exact h.elim
end
end Lp
set_option maxHeartbeats 4000000
namespace Lp
open PySem PySem.Spec PyProof.Rows L2
end Lp
set_option maxHeartbeats 4000000
namespace Lp
open PySem PySem.Spec PyProof.Rows L2
@[irreducible] def yCN (ma mb:ME):S→R S (List PV):=yHT ma mb
@[irreducible] def yAB (i:Nat):MS:=jWO i
section
variable {P:PV→S→Prop} {PF:Fl→S→Prop} {E:PV→S→Prop} {s:S} {m mo mk mv mx mi:ME} {ma:MA} {i j l:Nat} {c:S→R S Bool} {body:MS} {n:Nat}
theorem yLO (h:(c s).post (fun k s1=>br k ((body s1).post (fun f s2=>match f with
   | .nx=>(jGL c body n s2).post PF E
   | .ct=>(jGL c body n s2).post PF E
   | .bk=>PF .nx s2
   | .rt v=>PF (.rt v) s2) E) (PF .nx s1)) E):(jGL c body (n+1) s).post PF E:=by
 unfold jGL
 refine yK (p_mono h (fun k s1 q=>?_) fun _ _ z=>z)
 cases k with
 | false=>rw [if_neg Bool.false_ne_true]; rw [jFP] at q; exact q
 | true =>
  rw [if_pos rfl]
  rw [jFP] at q
  refine yK (p_mono q (fun f s2 q=>?_) fun _ _ z=>z)
  cases f <;> exact q
theorem yJI {PA:List PV→S→Prop} {ma mb:ME} (h:(ma s).post (fun x s1=>(mb s1).post (fun y s2=>∃ xs ys,asM s2.h x=some xs∧asM s2.h y=some ys∧xs.length+ys.length≤sizeLine∧PA (xs++ys) s2) E) E):(yCN ma mb s).post PA E:=by
 unfold yCN yHT
 refine yK (p_mono h (fun x s1 q=>yK (p_mono q (fun y s2 ⟨xs,ys,e1,e2,hz,q⟩=>?_) fun _ _ z=>z)) fun _ _ z=>z)
 simp only [e1,e2]
 rw [if_pos hz]
 exact q
theorem ySW {xs:List PV} (e:s.e[i]?=some (some (.own xs))) (h:PF (.rt (.lst xs)) ⟨s.e.set i (some (.lst xs)),s.h⟩):(yAB i s).post PF E:=by
 unfold yAB jWO
 simp only [e]
 exact h
theorem ySY {mo me:ME} (h:(mo s).post (fun o s1=>∃ n xs0,o=.cel n∧jFA s1.h n=some xs0∧(me s1).post (fun v s2=>∃ xs ys,jFA s2.h n=some xs∧jTF xs v=some ys∧P .non ⟨s2.e,s2.h.set n (some (.lst ys))⟩) E) E):(jWU mo me s).post P E:=by
 unfold jWU
 refine yK (p_mono h (fun o s1 ⟨n,xs0,e,e0,q⟩=>?_) fun _ _ z=>z)
 subst e
 simp only [yFI,e0]
 refine yK (p_mono q (fun v s2 ⟨xs,ys,e1,e2,q⟩=>?_) fun _ _ z=>z)
 simp only [e1,e2]
 exact q
theorem jXV {I:Nat→S→Prop} (h0:∀ s,¬ I 0 s) (hs:∀ n s,I (n+1) s→(c s).post (fun k s1=>br k ((body s1).post (fun f s2=>f=.nx∧I n s2) E) (PF .nx s1)) E):∀ n s,I n s→(jGL c body n s).post PF E
 | 0,s,i=>absurd i (h0 s)
 | n+1,s,i=>yLO (p_mono (hs n s i) (fun k s1 q=>by
   rw [jFP] at q ⊢
   cases k with
   | false=>exact q
   | true=>exact p_mono q (fun f s2 ⟨e,i⟩=>by subst e; exact jXV h0 hs n s2 i) fun _ _ z=>z) fun _ _ z=>z)
end
end Lp
set_option maxHeartbeats 4000000
namespace Lp
open PySem PySem.Spec PyProof.Rows L2
def yST (n:Nat):List Addr:=mainGlobals :: cStatics :: (List.range n).reverse
def yCX (n:Nat) (fa:List FactL) (fn:List DefL) (ts:List He.Tab) (g:Addr→Option Obj):AlL:=yWF fa fn ts g (yST n)
theorem yOK {n:Nat} {fa:List FactL} {fn:List DefL} {ts:List He.Tab} {w:World} {h:Heap} (e:yCX n fa fn ts h.get?=yRJ fn ts w):∃ K T,SayL fa fn ts w h K T:=by
 refine ⟨_,_,He.frG_in,fun P hP=>?_,e⟩
 obtain ⟨h1,h2⟩:=List.mem_filter.mp hP
 cases q:h.get? P with
 | none=>rw [q] at h2; cases h2
 | some o =>
  rw [q] at h2
  refine ⟨congrArg some (yMG h2),yAV fun z=>?_⟩
  obtain ⟨_,z2⟩:=List.mem_filter.mp z
  rw [q] at z2
  have h2:jSD o=true:=h2
  have z2:(!jSD o)=true:=z2
  rw [h2] at z2
  cases z2
def yRD (n:Nat) (fa:List FactL) (fn:List DefL) (ts:List He.Tab):PySem.W.Hook where
 α:=AlL
 obs:=fun s=>yCX n fa fn ts s.heap.get?
 val:=fun w=>yRJ fn ts w
 says:=fun w h=>∃ K T,SayL fa fn ts w h K T
 of:=fun _ _ e=>yOK e
 keeps:=fun _ _ _ ⟨K,T,hK,hT,c⟩ k=>⟨K,T,PySem.W.Frag.In.keeps hK k,fun P hP=>⟨k _ _ (hT P hP).1,(hT P hP).2⟩,c⟩
theorem yLZ {n:Nat} {fa:List FactL} {fn:List DefL} {ts:List He.Tab} {g:Addr→Option Obj} {s:Shared} (h:∀ a,g a=s.heap.get? a):yCX n fa fn ts g=(yRD n fa fn ts).obs s:=by
 have e:g=s.heap.get?:=funext h
 rw [e] <;> rfl
open HandSHeadRun PySem.W PySem.Calls in
abbrev RunL (r:PySem.W.OpenRow) (q:Program) (M:Nat) (loose:List PySem.Str) (w:World):Prop:=∀ os:OsState,
 (endF (stepQ (denQ tabQ) r.prog w) M r.prog w os).map (fun s=>(looksF r.prog (boot_heap w.params) s.abs,HandSHeadRun.seenQ q loose (importedModules r.prog.main.body) (fun s=>xlAt q [] s&&recOk r.toRowW.records s) s.abs))=some (true,openGood q loose)
open HandSHeadRun in
abbrev RunO (r:PySem.W.OpenRow) (H:PySem.W.Hook) (ob:PySem.W.SharedT→H.α) (M:Nat) (w:World):Prop:=∀ os:OsState,
 (endF (stepQ (denQ tabQ) r.prog w) M r.prog w os).map ob=some (H.val w)
open HandSHeadRun PySem.W PySem.Calls in
abbrev RunLa (r:PySem.W.OpenRow) (M:Nat) (w:World):Prop:=∀ os:OsState,(endF (stepQ (denQ tabQ) r.prog w) M r.prog w os).map (fun s=>looksF r.prog (boot_heap w.params) s.abs)=some true
open HandSHeadRun PySem.W PySem.Calls in
abbrev RunLb (r:PySem.W.OpenRow) (q:Program) (M:Nat) (loose:List PySem.Str) (w:World):Prop:=∀ os:OsState,
 (endF (stepQ (denQ tabQ) r.prog w) M r.prog w os).map (fun s=>HandSHeadRun.seenQ q loose (importedModules r.prog.main.body) (fun s=>xlAt q [] s&&recOk r.toRowW.records s) s.abs)=some (openGood q loose)
theorem jSS {r:PySem.W.OpenRow} {q:Program} {M:Nat} {loose:List PySem.Str} {w:World} (a:RunLa r M w) (b:RunLb r q M loose w):RunL r q M loose w:=by
 intro os
 have a:=a os
 have b:=b os
 cases e:HandSHeadRun.endF (HandSHeadRun.stepQ (HandSHeadRun.denQ HandSHeadRun.tabQ) r.prog w) M r.prog w os with
 | none=>rw [e] at a; cases a
 | some s =>
  rw [e] at a b
  injection a with a
  injection b with b
  exact congrArg some (by rw [Prod.mk.injEq]; exact ⟨a,b⟩)
theorem jSR {r:PySem.W.OpenRow} {q:Program} {H:PySem.W.Hook} {ob:PySem.W.SharedT→H.α} {M:Nat} {loose:List PySem.Str} {w:World} (a:RunL r q M loose w) (b:RunO r H ob M w):HandSHeadRun.RunEq r q H ob M loose w:=by
 intro os
 have a:=a os
 have b:=b os
 cases e:HandSHeadRun.endF (HandSHeadRun.stepQ (HandSHeadRun.denQ HandSHeadRun.tabQ) r.prog w) M r.prog w os with
 | none=>rw [e] at a; cases a
 | some s =>
  rw [e] at a b
  injection a with a
  injection b with b
  injection a with a1 a2
  show some (_,_,_)=_
  rw [a1,a2,b]
end Lp
set_option maxHeartbeats 4000000
namespace Lp
open PySem PySem.Spec PyProof.Rows L2 LamX NdefX PySem.W
section
variable {α:Type} {le:α→α→Bool}
def jBN (le:α→α→Bool) (a:α):List α→List α
 | []=>[a]
 | b :: r=>if le a b=true then a :: b :: r else b :: jBN le a r
def zV (le:α→α→Bool):List α→List α
 | []=>[]
 | a :: r=>jBN le a (zV le r)
theorem jYM {a:α} {l₂:List α} (h2:∀ b∈l₂,le a b=true):∀ {l₁:List α},(∀ b,b∈l₁→(!le a b)=true)→jBN le a (l₁++l₂)=l₁++a :: l₂
 | [],_=>by
  cases l₂ with
  | nil=>rfl
  | cons b r =>
   show (if le a b=true then a :: b :: r else b :: jBN le a r)=_
   rw [if_pos (h2 b (by simp))]
   rfl
 | b :: r,h=>by
  have hb:le a b=false:=by simpa using h b (by simp)
  show (if le a b=true then a :: b :: (r++l₂) else b :: jBN le a (r++l₂))=_
  rw [if_neg (by rw [hb]; exact Bool.false_ne_true),jYM h2 fun c hc=>h c (by simp [hc])]
  rfl
theorem jYL (tr:∀ a b c:α,le a b=true→le b c=true→le a c=true) (to:∀ a b:α,(le a b||le b a)=true):∀ l:List α,l.mergeSort le=zV le l
 | []=>by rw [List.mergeSort_nil]; rfl
 | a :: l=>by
  obtain ⟨l₁,l₂,e1,e2,h1⟩:=List.mergeSort_cons tr to a l
  have hp:=List.pairwise_mergeSort (le:=le) tr to (a :: l)
  rw [e1] at hp
  have h2:∀ b∈l₂,le a b=true:=by
   have:=(List.pairwise_append.mp hp).2.1
   exact (List.pairwise_cons.mp this).1
  rw [e1]
  show _=jBN le a (zV le l)
  rw [← jYL tr to l,e2,jYM h2 h1]
end
theorem yGZ {β:Type} (k:β→PyData) (a b c:β) (h1:dataLe false k a b=true) (h2:dataLe false k b c=true):dataLe false k a c=true:=by
 rw [dataLe_eq] at h1 h2 ⊢
 have h1:(!dataLt (k b) (k a))=true:=h1
 have h2:(!dataLt (k c) (k b))=true:=h2
 show (!dataLt (k c) (k a))=true
 cases e:dataLt (k c) (k a) with
 | false=>rfl
 | true =>
  rcases lex_negTrans (O:=itemOrd) (keyToks (k c)) (keyToks (k b)) (keyToks (k a)) e with z | z
  ·have z:dataLt (k c) (k b)=true:=z
   rw [z] at h2; cases h2
  ·have z:dataLt (k b) (k a)=true:=z
   rw [z] at h1; cases h1
theorem yHA {β:Type} (k:β→PyData) (a b:β):(dataLe false k a b||dataLe false k b a)=true:=by
 rw [dataLe_eq]
 show (!dataLt (k b) (k a)||!dataLt (k a) (k b))=true
 cases e1:dataLt (k b) (k a) with
 | false=>rfl
 | true =>
  cases e2:dataLt (k a) (k b) with
  | false=>rfl
  | true =>
   have:=lex_trans (O:=itemOrd) _ _ _ e1 e2
   rw [lex_irrefl] at this
   cases this
theorem jZM {β:Type} (k:β→PyData) (l:List β):l.mergeSort (dataLe false k)=zV (dataLe false k) l:=jYL (yGZ k) (yHA k) l
theorem jYO {α β:Type} (f:α→β) {le:α→α→Bool} {le':β→β→Bool} {a:α}:∀ {l:List α},(∀ b∈l,le a b=le' (f a) (f b))→(jBN le a l).map f=jBN le' (f a) (l.map f)
 | [],_=>rfl
 | b :: r,h=>by
  rw [List.map_cons]
  unfold jBN
  rw [← h b (by simp)]
  split
  ·rfl
  ·rw [List.map_cons,jYO f fun c hc=>h c (by simp [hc])]
theorem jYN {α:Type} {le:α→α→Bool} {a x:α}:∀ {l:List α},x∈jBN le a l↔x=a∨x∈l
 | []=>by simp [jBN]
 | b :: r=>by
  unfold jBN
  split
  ·simp
  ·simp only [List.mem_cons,jYN (l:=r)]
   constructor
   ·rintro (h | h | h)
    ·exact .inr (.inl h)
    ·exact .inl h
    ·exact .inr (.inr h)
   ·rintro (h | h | h)
    ·exact .inr (.inl h)
    ·exact .inl h
    ·exact .inr (.inr h)
theorem yCB {α:Type} {le:α→α→Bool} {x:α}:∀ {l:List α},x∈zV le l↔x∈l
 | []=>by simp [zV]
 | b :: r=>by
  show x∈jBN le b (zV le r)↔_
  rw [jYN,yCB (l:=r)]
  simp
theorem jRB {α β:Type} (f:α→β) {le:α→α→Bool} {le':β→β→Bool}:∀ {l:List α},(∀ a∈l,∀ b∈l,le a b=le' (f a) (f b))→(zV le l).map f=zV le' (l.map f)
 | [],_=>rfl
 | a :: r,h=>by
  show (jBN le a (zV le r)).map f=jBN le' (f a) (zV le' (r.map f))
  rw [jYO f (fun b hb=>h a (by simp) b (by simp [yCB.mp hb])),jRB f fun c hc d hd=>h c (by simp [hc]) d (by simp [hd])]
theorem jYP {α:Type} {le:α→α→Bool} {a:α}:∀ {l:List α},(jBN le a l).length=l.length+1
 | []=>rfl
 | b :: r=>by
  unfold jBN
  split
  ·rfl
  ·rw [List.length_cons,jYP (l:=r),List.length_cons]
theorem jRC {α:Type} {le:α→α→Bool}:∀ {l:List α},(zV le l).length=l.length
 | []=>rfl
 | a :: r=>by
  show (jBN le a (zV le r)).length=_
  rw [jYP,jRC,List.length_cons]
structure LamP (X:Cx) (d:LamD) (a:Str):Prop where
 kind:d.scope.kind=.function
 co:d.scope.isCoroutine=false
 gen:d.scope.isGenerator=false
 own:∀ y∈d.scope.names,y.2≠.cell
 free:∀ y∈d.scope.names,y.2=.free→X.env.scope.names.lookup y.1=some .cell∨X.env.scope.names.lookup y.1=some .free
 df:defaultsOf d.params X.env=([],[])
 bind:∀ (q:Str) (cl:List (Str × Addr)) (pm cdv ct v:Value),bindArgs (lfn q d.params d.body d.scope cl .none pm cdv ct) ⟨[v],[]⟩=pure [(a,v)]
 loc:d.scope.names.lookup a=some .local
theorem LamP.has {X:Cx} {d:LamD} {a:Str} (L:LamP X d a) (ok:X.Ok):∀ y∈d.scope.names,y.2=.free→∃ c,X.env.cells.lookup y.1=some c:=fun y hy e=>by
 rcases L.free y hy e with k | k
 ·exact ok.has _ (.inl k)
 ·exact ok.has _ (.inr k)
end Lp
set_option maxHeartbeats 4000000
namespace Lp
open PySem PySem.Spec PyProof.Rows L2 LamX NdefX PySem.W
end Lp
set_option maxHeartbeats 4000000
namespace Lp
open PySem PySem.Spec PyProof.Rows L2 LamX NdefX PySem.W
structure PrA (P:Program) (w:World) (K:PySem.W.Frag) (mg:Str→Option Value) (base:Heap) (B:Bs) (k:Nat) (c:Nat) (x:Str) (m:MF):Prop where
 ex:∃ j f fd ps p,j+1≤k∧PropOf K (B.cad c) x p f∧FnOk P w K mg base (L2.CX P w) j f fd ps (spF B 1 m)∧L2.Binds K fd ps []
theorem PrA.mono {P:Program} {w:World} {K:PySem.W.Frag} {mg:Str→Option Value} {base:Heap} {B:Bs} {i k:Nat} {c:Nat} {x:Str} {m:MF} (F:PrA P w K mg base B i c x m) (h:i≤k):PrA P w K mg base B k c x m :=
 let ⟨j,f,fd,ps,p,hj,a⟩:=F.ex
 ⟨j,f,fd,ps,p,Nat.le_trans hj h,a⟩
structure MeB (P:Program) (w:World) (K:PySem.W.Frag) (mg:Str→Option Value) (base:Heap) (B:Bs) (k:Nat) (c:Nat) (x:Str) (n:Nat) (m:MF):Prop where
 ex:∃ f fd ps,BMeth K (B.cad c) x f∧FnOk P w K mg base (L2.CX P w) k f fd ps (spF B n m)∧L2.Binds K fd ps []
theorem MeB.mono {P:Program} {w:World} {K:PySem.W.Frag} {mg:Str→Option Value} {base:Heap} {B:Bs} {j k:Nat} {c:Nat} {x:Str} {n:Nat} {m:MF} (F:MeB P w K mg base B j c x n m) (h:j≤k):MeB P w K mg base B k c x n m :=
 let ⟨f,fd,ps,a,b,d⟩:=F.ex
 ⟨f,fd,ps,a,b.mono h,d⟩
end Lp
set_option maxHeartbeats 4000000
namespace Lp
open PySem PySem.Spec PyProof.Rows L2 LamX NdefX PySem.W
end Lp
set_option maxHeartbeats 4000000
namespace Lp
open PySem PySem.Spec PyProof.Rows L2 LamX NdefX PySem.W
section
variable {α:Type} {X:Cx} {B:Bs} {D:Addr} {W1:Wd} {s1:S} {H1:Hp} {RA:α→Wd→HO→Prop}
structure AccAt (B:Bs) (D:Addr) (W1:Wd) (s1:S) (H1:Hp) (RA:α→Wd→HO→Prop) (N:Ent) (acc:α) (W:Wd) (s:S) (σ:L2.St) (H:Hp):Prop where
 r:Rel B N W s σ H
 st:StepE W1 s1 H1 W s H
 l:Loose N W s σ D
 o:∃ o,H D=some o∧RA acc W o
structure RAOk (RA:α→Wd→HO→Prop):Prop where
 mono:∀ {acc:α} {W W':Wd} {o:HO},W.Le W'→RA acc W o→RA acc W' o
 nt:∀ {acc:α} {W:Wd} {o:HO},RA acc W o→NT o∧∀ c q,o≠LamX.CodeO c q
theorem AccAt.on {N:Ent} {acc:α} {W W':Wd} {s s':S} {σ:L2.St} {H H':Hp} (hl:W1.m.length=s1.h.length) (ok:RAOk RA) (a:AccAt B D W1 s1 H1 RA N acc W s σ H) (r':Rel B N W' s' σ H') (st:StepE W s H W' s' H'):AccAt B D W1 s1 H1 RA N acc W' s' σ H':=by
 obtain ⟨o,h1,h2⟩:=a.o
 have n:=ok.nt h2
 exact ⟨r',a.st.trans hl st,a.l.on a.r.slen st ⟨o,h1,n.1,n.2⟩,o,a.l.held st h1 n.1,ok.mono st.st.le h2⟩
end
end Lp
set_option maxHeartbeats 4000000
namespace Lp
open PySem PySem.Spec PyProof.Rows L2 LamX NdefX PySem.W
set_option maxHeartbeats 1000000 in
theorem yMM {v:Value} {o:Obj} {H:Heap→Prop} (b:Begins v o H) :
    Meets (Builtin.«enumerate.__new__» ⟨[.type "enumerate", v],[]⟩) (fun _ R s=>H s.heap∧R (.ok (.ret (.ref (s.heap.push o).objs.size))) { s with heap:=(s.heap.push o).push { cls:=.type "enumerate", data:=.fields #[.none,.bool false,.ref s.heap.objs.size,rawInt 0,.none,.none] } }) :=
  .of_wp fun prog w A R s h=>by
    obtain ⟨hp,g,d,tk,os⟩:=s
    obtain ⟨h1,h⟩:=h
    have hsub:=sub_enumerate
    have it:∀ {A':Around} {E:Value→Shared→Prop} {Q:Value→Shared→Prop},Q (.ref hp.objs.size) ⟨hp.push o,g,d,tk,os⟩→wpAny (model prog w) A' (pyIter v) Q E ⟨hp,g,d,tk,os⟩:=fun q=>b.iter prog w _ _ ⟨hp,g,d,tk,os⟩ _ h1 q
    wp_walk using it
    refine wpAny_stack_any fun st=>wpAny_pure ?_
    split
    · rename_i c _ _ _ _ _
      cases (c == Value.type "enumerate") <;> (wp_walk using it; exact ⟨_,rfl,h⟩)
    · wp_walk using it
      exact ⟨_,rfl,h⟩
theorem yCI {prog:Program} {w:World} {A:Around} {E:Value→Shared→Prop} {s:Shared} {v:Value} {o:Obj} {H:Heap→Prop} {Q:Value→Shared→Prop} (b:Begins v o H) (h1:H s.heap)
    (h:∀ h',IsEnum h' (s.heap.objs.size+1) s.heap.objs.size 0 .none→h'.get? s.heap.objs.size=some o→(∀ c q,s.heap.get? c=some q→h'.get? c=some q)→Q (.ref (s.heap.objs.size+1)) { s with heap:=h' }) :
    wpAny (model prog w) A (call (.type "enumerate") [v]) Q E s:=by
  refine callType_new F.called_enumerate (by decide) (F.typeCall_enumerate_1 _) (F.newCall_enumerate_1 _) (fun obj=>F.args_object_init_2 obj _) F.entry_enumerate_new (yMM b) ⟨h1,?_⟩
  have hz:(s.heap.push o).objs.size=s.heap.objs.size+1:=Heap.size_push ..
  show _∧_
  rw [hz]
  have he:IsEnum ((s.heap.push o).push { cls:=.type "enumerate", data:=.fields #[.none,.bool false,.ref s.heap.objs.size,rawInt 0,.none,.none] }) (s.heap.objs.size+1) s.heap.objs.size 0 .none:=by
    have q:=Heap.get?_push_size (s.heap.push o) (o:={ cls:=.type "enumerate", data:=.fields #[.none,.bool false,.ref s.heap.objs.size,rawInt 0,.none,.none] }) rfl
    rw [hz] at q
    exact q
  exact ⟨⟨_,he,rfl⟩,h _ he (Heap.get?_push_of_some _ (Heap.get?_push_size _ b.free)) fun c q x=>Heap.get?_push_of_some _ (Heap.get?_push_of_some _ x)⟩
theorem yMP {prog:Program} {w:World} {A:Around} (hh:A.handled=none) (it t:Addr) (i:Nat) (items:Array Value) (hi:items[i]?=none):Draws prog w A it [it,t] i (fun _ _=>True) (fun j h=>j=i∧h.IsTupleIter it t j∧h.IsTuple t items) where
 live:=fun _ _ st=>let ⟨o,ho,_⟩:=st.2.1; ⟨o,ho⟩
 frame:=fun _ _ _ st hk=>⟨st.1,st.2.1.at fun o e=>hk it (by simp) o e,st.2.2.at fun o e=>hk t (by simp) o e⟩
 item:=fun j s Q E hj st _=>absurd st.1 (by omega)
 done:=fun s Q E st hE=>wpAny_nextOf_tuple_end hh st.2.1 st.2.2 hi hE
def IteT (K:PySem.W.Frag) (a:Addr) (xs:List V):It:=⟨fun i H=>SqT K H a xs∧i < xs.length,fun i H v H'=>∃ T x,v=.ref T∧H T=none∧H'=upd H T (.tup [.int (i:Nat),x])∧xs[i]?=some x,fun i H=>SqT K H a xs∧xs.length≤i⟩
theorem yBF {P:Program} {w:World} {K:PySem.W.Frag} {elts:List Expr} {kk:Nat} {tpos:Pos} {xs:List V} (a e it:Addr) (hea:e≠a) (hia:a≠it) :
    Turn P w K (.Tuple elts kk tpos) (IteT K a xs) [e,it] e (fun i h=>(∃ old,IsEnum h e it ((i:Nat):Int) old)∧h.IsTupleIter it a i∧e≠it) where
  mem:=by simp
  obj:=fun i h st b hb=>by
    obtain ⟨⟨old,he⟩,⟨o,ho,hc,hd⟩,_⟩:=st
    rcases (show b=e∨b=it by simpa using hb) with z | z
    · rw [z]; exact ⟨_,he,fun v q=>nomatch q⟩
    · rw [z]; exact ⟨o,ho,fun v q=>by rw [hd] at q; cases q⟩
  keep:=fun i h h' st k=>let ⟨⟨old,he⟩,hi,hne⟩:=st; ⟨⟨old,k e (by simp) _ he⟩,hi.at fun o q=>k it (by simp) o q,hne⟩
  item:=by
    intro X hP hw hK hc i pins s σ H E I hf st hg
    subst hP hw hK
    obtain ⟨⟨old,he⟩,hit,hne⟩:=st
    obtain ⟨hq,hlt⟩:=hg
    have hx:=List.getElem?_eq_getElem hlt
    obtain ⟨its,rv,p,hz⟩:=I.tuple hq
    obtain ⟨u,hu,ru⟩:=rv.get hx
    have hel:e < s.heap.objs.size:=Heap.lt_size he
    have hil:it < s.heap.objs.size:=let ⟨_,q,_⟩:=hit; Heap.lt_size q
    have D:=Draws.tuple (prog:=X.prog) (w:=X.w) (A:=X.A.in1) (I.ok.hd hc) it a hia its.toArray
    refine wpAny_pyNext_enum_itemD D he ⟨hit,p⟩ (by rw [List.size_toArray,← rv.length]; exact hlt) hne (by simp [hne,hea]) fun x h' tk hP ho hst hT hsz hk=>?_
    have ex:x=u:=by
      have hP:its.toArray[i]?=some x:=hP
      rw [List.getElem?_toArray,hu] at hP
      exact (Option.some.inj hP).symm
    subst ex
    refine ⟨_,rfl,wpAny_letOwnedTupleGo_enum (s:={ s with heap:=h',toks:=tk+1 }) ho fun h'' he' sb=>?_⟩
    have hT2:h''.get? s.heap.objs.size=some { cls:=.type "tuple", data:=.seq #[.int i tk,x] }:=(sb.2 _ (Nat.ne_of_gt hel)).trans hT
    have new:ObjOk X.prog X.w (upd H s.heap.objs.size (.tup [.int (i:Nat),xs[i]])) h'' s.heap.objs.size (.tup [.int (i:Nat),xs[i]]):=⟨by show 2≤sizeLine; decide,[.int i tk,x],.cons ⟨_,rfl⟩ (.cons ru .nil),⟨_,hT2,rfl,_,rfl⟩⟩
    have I1:Inv X pins σ (upd H s.heap.objs.size (.tup [.int (i:Nat),xs[i]])) { s with heap:=h'',toks:=tk+1 } :=
      I.turnedNew (ch:=[e,it]) (fun b ob hb q=>(sb.2 b (fun z=>hb (by simp [z]))).trans (hk b ob (fun z=>hb (by simp [z])) (fun z=>hb (by simp [z])) q)) hf (Nat.le_refl _) new
    refine ⟨.ref s.heap.objs.size,_,I1,rfl,⟨_,xs[i],rfl,I.hok.fresh (Nat.le_refl _),rfl,hx⟩,⟨⟨x,?_⟩,hst.1.at fun o q=>(sb.2 it (Ne.symm hne)).trans q,hne⟩,fun b hb=>?_⟩
    · rw [show ((i+1:Nat):Int)=(i:Int)+1 by omega]; exact he'
    · have hb':b < s.heap.objs.size:=(show b=e∨b=it by simpa using hb).elim (fun z=>z ▸ hel) fun z=>z ▸ hil
      rw [upd_ne (Nat.ne_of_lt hb')]
      exact (hf b hb).1
  done:=by
    intro X hP hw hK hc i pins s σ H E I hf st hg
    subst hP hw hK
    obtain ⟨⟨old,he⟩,hit,hne⟩:=st
    obtain ⟨hq,hx⟩:=hg
    obtain ⟨its,rv,p,hz⟩:=I.tuple hq
    obtain ⟨f0,f1,f2,f3,f4,f5⟩:=hf it (by simp)
    have hn:its.toArray[i]?=none:=by rw [List.getElem?_toArray]; exact List.getElem?_eq_none (by rw [← rv.length]; exact hx)
    exact wpAny_pyNext_enum_endD (yMP (prog:=X.prog) (w:=X.w) (A:=X.A.in1) (I.ok.hd hc) it a i its.toArray hn) he ⟨rfl,hit,p⟩ fun h' eb=>⟨rfl,I.turned (t':=s.toks) (fun b o hb q=>eb b o hb q) f0 f1 f3 f4 f5⟩
  self:=fun A i s Q E st h=>let ⟨⟨_,he⟩,_⟩:=st; wpAny_pyIter_enum he h
def yUF (K:PySem.W.Frag) (ta:TA):TI:=fun σ H R=>ta σ H fun vs H1=>∃ a xs,vs=[.ref a]∧((SqT K H1 a xs∧R (IteT K a xs) H1)∨(SqL K H1 a xs∧R (Ite K a) H1))
theorem yLN {X:Cx} {e:Expr} {ta:TA} {p pos tpos:Pos} {elts:List Expr} {kk:Nat} (hg:Gl X "enumerate") (hm:X.mg "enumerate" = none) (ha:PA X [e] ta) (hs:starEach [e] X.env=[(false,eval e X.env)]) :
  PI X (.Tuple elts kk tpos) (.Call (.Name "enumerate" p) [e] [] pos) (yUF X.K ta):=by
 refine ⟨fun pins s σ H R I h=>?_⟩
 refine Call_ (ld_blt I hg hm boot_enumerate (PyProof.Rows.callWith_type1 (thn (ha.run pos pins s σ H _ I h) fun us s1 ⟨vs,H1,I1,r1,q1⟩=>?_) hs rfl))
 obtain ⟨a,xs,ex,q⟩:=q1
 subst ex
 obtain rfl:=Vals.ref1 r1
 have fp:∀ b∈[s1.heap.objs.size+1,s1.heap.objs.size],FpOk X pins H1 b:=fun b hb=>by
  have hle:s1.heap.objs.size≤b:=(show b=s1.heap.objs.size+1∨b=s1.heap.objs.size by simpa using hb).elim (fun z=>by rw [z]; exact Nat.le_add_right _ _) fun z=>by rw [z]; exact Nat.le_refl _
  exact I1.fpOk hle (I1.hok.fresh hle)
 rcases q with ⟨hq,q⟩ | ⟨hq,q⟩
 ·obtain ⟨its,rv,p',hz⟩:=I1.tuple hq
  have al:a < s1.heap.objs.size:=let ⟨_,z,_⟩:=p'; Heap.lt_size z
  refine yCI (begins_tuple a its.toArray) p' fun h' he hit hk=>wpAny_pyIter_enum he ?_
  have I2:Inv X pins σ H1 { s1 with heap:=h' }:=I1.kept (t':=s1.toks) hk
  exact ⟨s1.heap.objs.size+1,[s1.heap.objs.size+1,s1.heap.objs.size],_,_,H1,rfl,I2,yBF a (s1.heap.objs.size+1) s1.heap.objs.size (Nat.ne_of_gt (Nat.lt_succ_of_lt al)) (Nat.ne_of_lt al),⟨⟨.none,he⟩,⟨_,hit,rfl,rfl⟩,Nat.succ_ne_self _⟩,fp,q⟩
 ·obtain ⟨its,rv,p',hz⟩:=I1.list hq
  refine call_enumerate_list p'.isList fun h' he hit hsz hk=>wpAny_pyIter_enum he ?_
  have I2:Inv X pins σ H1 { s1 with heap:=h' }:=I1.kept (t':=s1.toks) hk
  exact ⟨s1.heap.objs.size+1,[s1.heap.objs.size+1,s1.heap.objs.size],_,_,H1,rfl,I2,turn_enum a (s1.heap.objs.size+1) s1.heap.objs.size,⟨⟨.none,he⟩,hit,Nat.succ_ne_self _⟩,fp,q⟩
def jQB (m:MA):S→R S Sr:=fun s=>(m s).bind fun v s1=>match v with
 | [x]=>match yCP x with
  | some xs=>.ok ⟨jCH 0 xs,[],false⟩ s1
  | none=>match lsrc s1.h x with
   | some a=>.ok ⟨jCH 0 a.xs,a.w,a.o⟩ s1
   | none=>.bad
 | _=>.bad
section
variable {X:Cx} {B:Bs} {N:Ent} {WX:L2.WX} {ma:MA}
theorem jSP {a:Expr} {p pos tpos:Pos} {elts:List Expr} {kk:Nat} (hK:X.K=B.K) (hg:Gl X "enumerate") (hm:X.mg "enumerate" = none) (ha:SimA X B N WX [a] ma) (hs:starEach [a] X.env=[(false,eval a X.env)]):SimI X B N WX (.Tuple elts kk tpos) (.Call (.Name "enumerate" p) [a] [] pos) (jQB ma) :=
 yBA (yLN hg hm ha hs) fun σ H Q ⟨W,s,r,h⟩=>⟨W,s,r,(h.bind r.slen).mono fun v W1 s1 H1 r1 _ q v' rv=>by
  split at q
  ·rename_i x
   obtain ⟨u,rfl,ru⟩:=repts1 rv
   split at q
   ·rename_i xs ex
    have ex:=jQI ex
    subst ex
    cases (show Rep B W1 (.tup xs) u from ru) with
    | @tup _ b vs h1 h2 =>
     have hl:∀ W' s' H',HRel B W' s' H'→W1.Le W'→SqT X.K H' b vs:=fun W' s' H' hr le=>by
      rcases h1 with h1 | ⟨o,its,n,k1,k2,k3,k4,k5⟩
      ·exact .inl (.inl (hr.agree _ _ (le.F _ _ h1)))
      ·exact .inr ⟨o,its,n,hK ▸ k1,k2,k3,k4,k5⟩
     have k:=q.ok r1 (fun p hp=>nomatch hp) (by show (jCH 0 xs).length≤sizeLine; rw [jGW]; exact jPW r1.hr (.tup h1 h2))
     refine ⟨b,vs,rfl,.inl ⟨hl _ _ _ r1.hr (.refl _),k _ ⟨fun W' s' H' hr le st2 so i z ez=>?_,fun W' s' H' hr le st2 so i hi=>?_⟩⟩⟩
     ·obtain ⟨y,ey,rfl⟩:=jOH ez
      obtain ⟨u,e1,ru⟩:=(h2.mono le).get ey
      refine ⟨⟨hl _ _ _ hr le,(List.getElem?_eq_some_iff.mp e1).1⟩,fun w H'' yl=>?_⟩
      obtain ⟨T,w1,rfl,hT,rfl,y3⟩:=yl
      rw [e1] at y3
      cases y3
      rw [Nat.zero_add]
      exact jJY hr hT (.int _) ru
     ·have hi:(jCH 0 xs).length≤i:=hi
      rw [jGW] at hi
      exact ⟨hl _ _ _ hr le,jJV h2 hi⟩
   ·split at q
    ·rename_i rr er0
     obtain ⟨er,nt,ns⟩:=jUK er0
     obtain ⟨a,rfl,hl⟩:=yNB (X:=X) ru er nt ns r1.hr
     obtain ⟨vs,h1,hrv⟩:=hl W1 s1 H1 r1.hr (.refl _) (jAS er) fun _=>Step.refl r1.hr
     have k:=q.ok r1 (fun p hp=>jAS er p hp) (by show (jCH 0 rr.xs).length≤sizeLine; rw [jGW]; exact yAH r1.hr ru er nt ns)
     refine ⟨a,vs,rfl,.inr ⟨h1,k _ ⟨fun W' s' H' hr le st2 so i z ez=>?_,fun W' s' H' hr le st2 so i hi=>?_⟩⟩⟩
     ·obtain ⟨vs,h1,h2⟩:=hl W' s' H' hr le st2 so
      obtain ⟨y,ey,rfl⟩:=jOH ez
      obtain ⟨u,e1,ru⟩:=h2.get ey
      refine ⟨⟨vs,u,h1,e1⟩,fun w H'' yl=>?_⟩
      obtain ⟨T,w1,rfl,hT,rfl,y3⟩:=yl
      have:=y3 vs h1
      rw [e1] at this
      cases this
      rw [Nat.zero_add]
      exact jJY hr hT (.int _) ru
     ·obtain ⟨vs,h1,h2⟩:=hl W' s' H' hr le st2 so
      have hi:(jCH 0 rr.xs).length≤i:=hi
      rw [jGW] at hi
      exact ⟨vs,h1,jJV h2 hi⟩
    ·exact q.elim
  ·exact q.elim⟩
end
end Lp
set_option maxHeartbeats 4000000
namespace Lp
open PySem PySem.Spec PyProof.Rows L2 LamX NdefX PySem.W
end Lp
set_option maxHeartbeats 4000000
namespace Lp
open PySem PySem.Spec PyProof.Rows L2 LamX NdefX PySem.W
end Lp
set_option maxHeartbeats 4000000
namespace Lp
open PySem PySem.Spec PyProof.Rows L2 LamX NdefX PySem.W
def jKW:AH→List PV→Option PV:=fun h vs=>match vs with
 | [x]=>(match asL h x with
  | some xs=>(match toDs xs with
   | some ds=>if yCS ds=true then some (.lst (zV leP xs)) else none
   | none=>none)
  | none=>none)
 | _=>none
theorem yFS (xs:List PV):yCR xs=zV leP xs:=jZM encP xs
theorem yHL:jWX=jKW:=by
 funext h vs
 unfold jWX jKW
 simp only [yFS] <;> rfl
theorem yCJ {X:Cx} {B:Bs} (hK:X.K=B.K) (hr:U9 X.A):BiOk X B "sorted" jKW:=yHL ▸ yHE hK hr
end Lp
set_option maxHeartbeats 4000000
namespace Lp
open PySem PySem.Spec PyProof.Rows L2 LamX NdefX PySem.W
end Lp
set_option maxHeartbeats 4000000
namespace Lp
open PySem PySem.Spec PyProof.Rows L2
@[irreducible] def jLU (ma:MA):S→R S Sr:=jQB ma
end Lp
set_option maxHeartbeats 4000000
namespace Lp
open PySem PySem.Spec PyProof.Rows L2
section
variable {P:PV→S→Prop} {PS:Sr→S→Prop} {PF:Fl→S→Prop} {E:PV→S→Prop} {s:S} {m mo ms:ME} {ma mk:MA} {c n n0 nk:Nat} {ix ix1 ix2:List Nat} {ds:List PV} {mf m1 m2:MF} {mb:MS}
theorem yEA (h:(ma s).post (fun v s1=>∃ xs,(v=[.tup xs]∨v=[.lst xs])∧PS ⟨jCH 0 xs,[],false⟩ s1) E):(jLU ma s).post PS E:=by
 unfold jLU jQB
 refine yK (p_mono h (fun v s1 ⟨xs,e,q⟩=>?_) fun _ _ z=>z)
 rcases e with rfl | rfl
 ·exact q
 ·exact q
end
def yXJ (U:List (List Int)):List (PV × PV):=U.map fun k=>(kP k,.bl true)
end Lp
set_option maxHeartbeats 4000000
namespace Lp
open PySem PySem.Spec PyProof.Rows L2
def Gr (h h':AH):Prop:=∃ z,h'=h++z
theorem Gr.refl {h:AH}:Gr h h:=⟨[],by simp⟩
theorem Gr.one {h:AH} {x:Option Cell}:Gr h (h++[x]):=⟨_,rfl⟩
theorem Gr.trans {a b c:AH} (h:Gr a b) (k:Gr b c):Gr a c:=by
 obtain ⟨x,rfl⟩:=h
 obtain ⟨y,rfl⟩:=k
 exact ⟨x++y,by simp⟩
theorem Gr.at {h h':AH} {j:Nat} {c:Option Cell} (g:Gr h h') (e:h[j]?=some c):h'[j]?=some c:=by
 obtain ⟨z,rfl⟩:=g
 rw [List.getElem?_append_left (List.getElem?_eq_some_iff.mp e).1]; exact e
theorem Gr.le {h h':AH} (g:Gr h h'):h.length≤h'.length:=by
 obtain ⟨z,rfl⟩:=g
 rw [List.length_append]; omega
structure FrC (i:Nat) (h h':AH):Prop where
 le:h.length≤h'.length
 eq:∀ j,j < h.length→(j < i∨i+3≤j)→h'[j]?=h[j]?
theorem FrC.refl {i:Nat} {h:AH}:FrC i h h:=⟨Nat.le_refl _,fun _ _ _=>rfl⟩
theorem FrC.trans {i:Nat} {a b c:AH} (h:FrC i a b) (k:FrC i b c):FrC i a c:=⟨Nat.le_trans h.le k.le,fun j hj hi=>(k.eq j (Nat.lt_of_lt_of_le hj h.le) hi).trans (h.eq j hj hi)⟩
theorem FrC.of {i:Nat} {h h':AH} (g:Gr h h'):FrC i h h':=⟨g.le,fun j hj _=>by
 obtain ⟨z,rfl⟩:=g
 rw [List.getElem?_append_left hj]⟩
theorem FrC.set {i j:Nat} {h:AH} {c:Option Cell} (h1:i≤j) (h2:j < i+3):FrC i h (h.set j c):=⟨by rw [List.length_set]; exact Nat.le_refl _,fun k _ hk=>by rw [List.getElem?_set_ne (by omega)]⟩
theorem FrC.at {i j:Nat} {h h':AH} {c:Option Cell} (g:FrC i h h') (e:h[j]?=some c) (hj:j < i∨i+3≤j):h'[j]?=some c:=(g.eq j (List.getElem?_eq_some_iff.mp e).1 hj).trans e
end Lp
set_option maxHeartbeats 4000000
namespace Lp
open PySem PySem.Spec PyProof.Rows PySem.W
end Lp
namespace Lp
open PySem PySem.Spec PyProof.Rows L2 LamX NdefX
def spO (B:Bs) (n:Nat) (mb:MS):List V→Hp→VK→Prop:=fun vs H Q=>∃ W h x v rest,vs=v :: rest∧vs.length=4∧HRel B W h H∧Rep B W x v∧(match mb ⟨some x :: List.replicate n none,h⟩ with
 | .ok .nx s'=>∀ W' H',HRel B W' s'.h H'→Step W h H W' s'.h H'→Q .non H'
 | _=>False)
structure OutA (P:Program) (w:World) (K:PySem.W.Frag) (mg:Str→Option Value) (base:Heap) (B:Bs) (k:Nat) (c:Nat) (x:Str) (mb:MS):Prop where
 ex:∃ f fd ps,Meth K (B.cad c) x f∧L2.Binds K fd ps []∧ps.length=4∧∀ (A:Around) (outer:List Env) (s:Shared) (H:Hp) (args:Args) (us:List Value) (vs:List V) (Q:VK) (p:Addr × Obj),L2H.RoomH k A→L2H.PinOk outer H s p→Env0 P w K mg base A outer s H→BindsTo s fd args (ps.zip us)→Vals vs us →
  spO B 3 mb vs H Q→codeAny (model P w) A (.call (.ref f) args) (CR (L2.CX P w) outer P w H s Q fun _ _ _=>False) s
theorem OutA.mono {P:Program} {w:World} {K:PySem.W.Frag} {mg:Str→Option Value} {base:Heap} {B:Bs} {j k c:Nat} {x:Str} {mb:MS} (F:OutA P w K mg base B j c x mb) (h:j≤k):OutA P w K mg base B k c x mb :=
 let ⟨f,fd,ps,a,b,d,e⟩:=F.ex
 ⟨f,fd,ps,a,b,d,fun A outer s H args us vs Q p r=>e A outer s H args us vs Q p (r.mono h)⟩
section
variable {X:Cx} {B:Bs} {N:Ent} {ctx:Expr} {body:List Stmt} {pos:Pos} {k1 k2 c:Nat} {ix1 ix2:List Nat} {m1 m2:MF} {mx:MS} {me:ME} {mb:MS} {E:XK}
theorem ExcR.on {W W':Wd} {h h':AH} {H0 H H':Hp} {x:PV} {cls:Value} {d:Option Addr} (hl:W.m.length=h.length) (st:Step W h H W' h' H') (e:ExcR B H0 W H x cls d):ExcR B H0 W' H' x cls d:=by
 obtain ⟨c,fs,dd,vs,rfl,rfl,rfl,e1,e2,e3,e4,e5,e6⟩:=e
 have nl:¬ Live W h dd:=fun l=>e6 l.mem
 have nt:NT (.xd ((B.fld c).zip vs)):=fun _ z=>nomatch z
 have fg:FG (H dd):=⟨_,e1,nt,fun _ _ z=>by unfold LamX.CodeO at z; cases z⟩
 exact ⟨c,fs,dd,vs,rfl,rfl,rfl,st.keep _ _ e1 nt nl,e2,e3.mono st.le,e4,st.fgrow dd e5 fg nl,st.notm hl e6 fg.ne⟩
end
end Lp
set_option maxHeartbeats 4000000
namespace Lp
open PySem PySem.Spec PyProof.Rows L2
end Lp
set_option maxHeartbeats 4000000
namespace Lp
open PySem PySem.Spec PyProof.Rows L2 LamX NdefX
end Lp
set_option maxHeartbeats 4000000
namespace Lp
open PySem PySem.Spec PyProof.Rows L2
end Lp
set_option maxHeartbeats 4000000
namespace Lp
open PySem PySem.Spec PyProof.Rows L2 LamX NdefX PySem.SeqAt
open AutoSeq1 (wpAny_loadPart')
def sI (i:Int):Str:=Str.ofString (toString i)
def jWF (i:Int):Bool:=decide (i.natAbs.log2 < 1920)&&PyData.strOk (sI i)
theorem yQV {i:Int} (h:jWF i=true):i.natAbs.log2 < 1920∧SOk (sI i):=by
 obtain ⟨a,b⟩:=Bool.and_eq_true_iff.mp h
 have a:=of_decide_eq_true a
 exact ⟨a,b,int_text_fits a⟩
def jNJ:AH→List PV→Option PV:=fun _ xs=>match xs with
 | [.int i]=>if jWF i then some (.str (sI i)) else none
 | _=>none
def jWT (m:ME):ME:=fun s=>(m s).bind fun v s1=>match v with
 | .str y=>.ok (.str y) s1
 | .int i=>if jWF i then .ok (.str (sI i)) s1 else .bad
 | _=>.bad
section
variable {X:Cx} {B:Bs} {N:Ent} {WX:L2.WX} {e:Expr} {m:ME} {pos:Pos}
theorem yKW:CallSem X B jNJ (fun xs H Q=>∃ i,xs=[.int i]∧i.natAbs.log2 < 1920∧Q (.str (toString i)) H):=by
 intro W h H xs z vs Q hr rx e q
 unfold jNJ at e
 split at e
 ·rename_i i
  split at e
  ·rename_i hz
   cases e
   obtain ⟨k1,k2⟩:=yQV hz
   obtain ⟨v,rfl,rv⟩:=repts1 rx
   cases (show Rep B W (.int i) v from rv)
   exact ⟨i,rfl,k1,q W H _ (.refl W H) (Rep.str _ k2).hand⟩
  ·cases e
 ·cases e
theorem jTV:BiOk X B "str" jNJ:=⟨_,_,by first | exact PyProof.Rows.boot_str | decide +kernel,call_str_int,yKW,.inr ⟨_,rfl⟩⟩
theorem jXL (he:SimE X B N WX e m):SimE X B N WX (.FormattedValue e (-1) none pos) (jWT m) :=
 (pe_fmt he).imp fun σ H Q ⟨W,s,r,h⟩=>⟨W,s,r,(h.bind r.slen).mono fun v W1 s1 H1 r1 _ q v' rv=>by
  split at q
  ·rename_i y
   obtain ⟨rfl,k⟩:=jAH rv
   exact .inl ⟨y,rfl,k.2,q.ok r1 _ rv⟩
  ·rename_i i
   split at q
   ·rename_i hz
    obtain ⟨k1,k2⟩:=yQV hz
    cases (show Rep B W1 (.int i) v' from rv)
    exact .inr ⟨i,rfl,k1,q.ok r1 _ (Rep.str _ k2).hand⟩
   ·exact q.elim
  ·exact q.elim⟩
end
section
variable {X:Cx} {B:Bs} {N:Ent} {E:XK} {W:Wd} {s:S} {σ:L2.St} {H:Hp} {a b:Expr} {ma':MA} {pos p:Pos} {k c:Nat} {m:MF} {g:List PV→List PV→List PV}
structure MeN2 (P:Program) (w:World) (K:PySem.W.Frag) (mg:Str→Option Value) (base:Heap) (B:Bs) (k c:Nat) (x:Str) (n0:Nat) (ks:List Str) (ix:List Nat) (ds:List PV) (n:Nat) (m:MF):Prop where
 ex:∃ j,j+2≤k∧MeA P w K mg base B j c x n0 ks ix ds n m
theorem MeN2.mono {P:Program} {w:World} {K:PySem.W.Frag} {mg:Str→Option Value} {base:Heap} {B:Bs} {i k:Nat} {c:Nat} {x:Str} {n0:Nat} {ks:List Str} {ix:List Nat} {ds:List PV} {n:Nat} {m:MF} (F:MeN2 P w K mg base B i c x n0 ks ix ds n m) (h:i≤k):MeN2 P w K mg base B k c x n0 ks ix ds n m :=
 let ⟨j,hj,a⟩:=F.ex
 ⟨j,Nat.le_trans hj h,a⟩
end
end Lp
set_option maxHeartbeats 4000000
namespace Lp
open PySem PySem.Spec PyProof.Rows L2
@[irreducible] def jNK (m:ME):ME:=jWT m
section
variable {P:PV→S→Prop} {E:PV→S→Prop} {s:S} {m:ME} {mf:MF} {ma:MA} {c:Nat}
theorem yJJ (h:(m s).post (fun v s1=>(∃ z,v=.str z∧P (.str z) s1)∨∃ i,v=.int i∧jWF i=true∧P (.str (sI i)) s1) E):(jNK m s).post P E:=by
 unfold jNK jWT
 refine yK (p_mono h (fun v s1 q=>?_) fun _ _ z=>z)
 rcases q with ⟨z,rfl,q⟩ | ⟨i,rfl,k,q⟩
 ·exact q
 ·simp only [k,if_true]; exact q
end
end Lp
set_option maxHeartbeats 4000000
namespace Lp
open PySem PySem.Spec PyProof.Rows L2 LamX NdefX
end Lp
set_option Elab.async false
set_option linter.all false
namespace Lp
end Lp
set_option maxHeartbeats 4000000
namespace Lp
open PySem PySem.Spec PyProof.Rows L2 LamX NdefX
end Lp
set_option maxHeartbeats 4000000
namespace Lp
open PySem PySem.Spec PyProof.Rows L2 LamX NdefX
end Lp
set_option maxHeartbeats 4000000
namespace Lp
open PySem PySem.Spec PyProof.Rows L2
section
variable {P:PV→S→Prop} {PA:List PV→S→Prop} {PF:Fl→S→Prop} {E:PV→S→Prop} {s:S} {ma:MA} {x:MS}
theorem yAP {src:S→R S Sr} {t:Tg} (h:(src s).post (fun r s1=>r.o=false∧r.xs.length≤sizeLine∧(jCV r t x r.xs s1).post PF E) E):(jII src t x s).post PF E:=by
 unfold jII
 exact yK (p_mono h (fun r s1 ⟨e2,e3,q⟩=>by
  obtain ⟨xs,w,o⟩:=r
  simp only at e2 e3 q
  subst e2
  simp only [Bool.false_eq_true,false_or,if_neg (Nat.not_lt.mpr e3)]
  exact q) fun _ _ z=>z)
theorem jUF {r:Sr} {t:Tg} (I:Nat→S→Prop) (hw:∀ j s,I j s→qO s.h r) (h0:I 0 s) (hs:∀ (j:Nat) (v:PV) (s:S),r.xs[j]?=some v→I j s→∃ e1,qK t v s.e=some e1∧(x ⟨e1,s.h⟩).post (fun fl s'=>match fl with
  | .nx=>I (j+1) s'
  | .ct=>I (j+1) s'
  | .bk=>PF .nx s'
  | .rt v=>PF (.rt v) s') E) (hn:∀ s,I r.xs.length s→PF .nx s):(jCV r t x r.xs s).post PF E:=by
 have go:∀ (ys:List PV) (j:Nat) (s:S),(∀ k,ys[k]?=r.xs[j+k]?)→j+ys.length=r.xs.length→I j s→(jCV r t x ys s).post PF E:=by
  intro ys
  induction ys with
  | nil =>
   intro j s hy hl hI
   unfold jCV
   rw [if_pos (hw _ _ hI)]
   exact hn s (by rw [← hl]; exact hI)
  | cons y ys ih =>
   intro j s hy hl hI
   unfold jCV
   rw [if_pos (hw _ _ hI)]
   obtain ⟨e1,eb,q⟩:=hs j y s (by have:=hy 0; simpa using this.symm) hI
   rw [eb]
   refine yK (p_mono q (fun fl s' q=>?_) fun _ _ z=>z)
   have nxt:I (j+1) s'→(jCV r t x ys s').post PF E:=fun hI=>ih (j+1) s' (fun k=>by have:=hy (k+1); simp only [List.getElem?_cons_succ] at this; rw [this]; congr 1; omega) (by simp only [List.length_cons] at hl; omega) hI
   cases fl with
   | nx=>exact nxt q
   | ct=>exact nxt q
   | bk=>exact q
   | rt v=>exact q
 exact go r.xs 0 s (fun k=>by simp) (by simp) h0
theorem jUA {h:AH} {n:Nat} {xs ys:List PV} {o:Bool} (e:h[n]?=some (some (.lst xs))):qO h ⟨ys,[(n,xs)],o⟩:=fun p hp=>by
 rw [List.mem_singleton.mp hp]; exact e
theorem yIB {h:AH} {n:Nat} {xs:List PV} (e:h[n]?=some (some (.lst xs))):srcOf h (.cel n)=some ⟨xs,[(n,xs)],false⟩:=by
 unfold srcOf
 simp only [e]
end
end Lp
set_option maxHeartbeats 4000000
namespace Lp
open PySem PySem.Spec PyProof.Rows L2 LamX NdefX
def jKN:AH→List PV→Option PV:=fun _ xs=>match xs with
 | [.str a]=>if a.length≤640 then (PySem.intText? a).map .int else none
 | _=>none
section
variable {X:Cx} {B:Bs}
theorem yLB:CallSem X B jKN (fun xs H Q=>∃ a n,xs=[.str a]∧PySem.intText? a=some n∧a.length≤640∧Q (.int n) H):=by
 intro W h H xs z vs Q hr rx e q
 unfold jKN at e
 split at e
 ·rename_i a
  split at e
  ·rename_i hz
   cases hn:PySem.intText? a with
   | none=>rw [hn] at e; cases e
   | some n =>
    rw [hn] at e
    cases e
    obtain ⟨v,rfl,rv⟩:=repts1 rx
    obtain ⟨rfl,_⟩:=jAH rv
    exact ⟨a,n,rfl,hn,hz,q W H _ (.refl W H) (Rep.int n).hand⟩
  ·cases e
 ·cases e
theorem jUT:BiOk X B "int" jKN:=⟨_,_,PyProof.Rows.boot_int,call_int_str,yLB,.inr ⟨_,rfl⟩⟩
end
end Lp
set_option maxHeartbeats 4000000
namespace LW
open PySem PySem.Spec PyProof.Rows L2 Lp LamX NdefX
abbrev Rw:PySem.W.OpenRow:=PySem.W.OpenLaw.row PySem.Challenge.rw_latedrops_k08_whole_texts_of_deeds
abbrev Pg:Program:=PySem.Challenge.pw_latedrops_k08_whole_texts_of_deeds
def top (i:Nat):Stmt:=PySem.Challenge.pw_latedrops_k08_whole_texts_of_deeds.main.body.getD i (.Pass ⟨0,0,0,0⟩)
structure Gm (mg:Str→Option Value):Prop where
 triv:True
 n_abs:mg "abs" = none
 n_all:mg "all" = none
 n_bool:mg "bool" = none
 n_enumerate:mg "enumerate" = none
 n_int:mg "int" = none
 n_isinstance:mg "isinstance" = none
 n_len:mg "len" = none
 n_list:mg "list" = none
 n_range:mg "range" = none
 n_sorted:mg "sorted" = none
 n_str:mg "str" = none
 n_tuple:mg "tuple" = none
 n_zip:mg "zip" = none
 c_DIGITS:∃ u,mg "DIGITS" = some u∧L2.RelV (.str "0123456789") u
 c_GREATEST_ROW:∃ u,mg "GREATEST_ROW" = some u∧L2.RelV (.int 39) u
 c_MOST_DIGITS:∃ u,mg "MOST_DIGITS" = some u∧L2.RelV (.int 19) u
 c_MOST_LISTED:∃ u,mg "MOST_LISTED" = some u∧L2.RelV (.int 40) u
 c_MOST_NUMBER:∃ u,mg "MOST_NUMBER" = some u∧L2.RelV (.int 1000000000000000000) u
 c_MOST_NUMBERS:∃ u,mg "MOST_NUMBERS" = some u∧L2.RelV (.int 40) u
def xfl:FL:=fun c=>match c with
 | 0=>["code"]
 | 1=>["code", "line"]
 | _=>[]
def yXI:FL:=fun c=>match c with
 | 0=>["code"]
 | 1=>["code", "line"]
 | _=>[]
def jAQ:List PV→List PV:=fun xs=>[.str "InvalidDeed"]
def jAP:List PV→List PV:=fun xs=>[.str "InvalidText", xs.headD .non]
def okc:Nat→Bool:=fun c=>decide (c < 2)
abbrev wF:Stmt:=(top 9)
def jHQ:List Str:=["value", "least", "most"]
theorem jVH:FnScope jHQ ["value", "least", "most"] (defScope wF):=⟨rfl,rfl,rfl,by decide +kernel,rfl,by decide +kernel,by decide +kernel⟩
noncomputable def jIC:MS:=(vO (jGK (eCB wQ (jE (jG 0) (jE (eC (.ty "int")) jO))) (jGK (yHS (eCB wQ (jE (jG 0) (jE (eC (.ty "bool")) jO)))) (jGF fLe fLe (jG 1) (jG 0) (jG 2)))))
noncomputable def jMO:MS:=(yX (jDI (xECB wQ (jC (jF 0) (jC (xEC (.ty "int")) jK))) (jDI (jWK (xECB wQ (jC (jF 0) (jC (xEC (.ty "bool")) jK)))) (jLV fLe fLe (jF 1) (jF 0) (jF 2)))))
theorem jUW:jIC=jMO:=by kernel_rfl
@[irreducible] noncomputable def uY:MF:=mkF 0 jIC
theorem jZQ {P:Program} {w:World} {K:PySem.W.Frag} {mg:Str→Option Value} {base:Heap} {B:Bs} {f:Addr} {cdv:Value} {A:Around} {outer:List Env} {s:Shared} {H:Hp} {E:XK} {k:Nat} {N:Ent} (hK:K=B.K) (hw:w=B.w) (g:Gm mg)
  (D:Bdy (cxOf (L2.CX P w) P w K mg base jHQ "is_number" (defScope wF) f cdv A outer s H E) E k)   :
  SimSs (cxOf (L2.CX P w) P w K mg base jHQ "is_number" (defScope wF) f cdv A outer s H E) B N (fun c d _ H=>E c d H) (defBody wF) (jIC) :=
 (jN (jV (jBK (yH (jBF hK) rfl g.n_isinstance (jA (jB (i:=0) rfl (.inl rfl) rfl rfl) (jA (jAV rfl g.n_int PyProof.Rows.boot_int (by decide) rfl) jD rfl) rfl) (by decide) rfl rfl rfl) (jBK (yDM (yH (jBF hK) rfl g.n_isinstance (jA (jB (i:=0) rfl (.inl rfl) rfl rfl) (jA (jAV rfl g.n_bool PyProof.Rows.boot_bool (by decide) rfl) jD rfl) rfl) (by decide) rfl rfl rfl)) (jDR (ySA (jPU) (jPU) (jB (i:=1) rfl (.inl rfl) rfl rfl) (jB (i:=0) rfl (.inl rfl) rfl rfl) (jB (i:=2) rfl (.inl rfl) rfl rfl) rfl))))))
abbrev jBC:Stmt:=(top 10)
def jNZ:List Str:=["value", "number"]
theorem yGI:FnScope jNZ ["value"] (defScope jBC):=⟨rfl,rfl,rfl,by decide +kernel,rfl,by decide +kernel,by decide +kernel⟩
noncomputable def jOC:MS:=(yN (sIf (orM (jIP (tM (eCB wQ (jE (jG 0) (jE (eC (.ty "tuple")) jO))))) (jIP (bM (jGF fLe fLe (eC (.int 1)) (eCB vP (jE (jG 0) jO)) (eC (.int 40)))))) (vO (eC (.bl false))) wY)
 (vO (eCB jKG (jE (shN (zG (jFM (jG 0)) (.n 1) uR (yL 3 uY (jE (jG 1) (jE (jM jEX (eC (.int 0)) (eC (.int 1000000000000000000))) (jE (eC (.int 1000000000000000000)) jO)))) [1])) jO))))
noncomputable def jSH:MS:=(yG (jAK (jDK (jDV (xTM (xECB wQ (jC (jF 0) (jC (xEC (.ty "tuple")) jK))))) (jDV (xBM (jLV fLe fLe (xEC (.int 1)) (xECB vP (jC (jF 0) jK)) (xEC (.int 40)))))) (yX (xEC (.bl false))) zH)
 (yX (xECB jKG (jC (jCY (vI (jAZ (jF 0)) (.n 1) uR (yD 3 uY (jC (jF 1) (jC (jJ jEX (xEC (.int 0)) (xEC (.int 1000000000000000000))) (jC (xEC (.int 1000000000000000000)) jK)))) [1])) jK))))
theorem yFM:jOC=jSH:=by kernel_rfl
@[irreducible] noncomputable def qQ:MF:=mkF 1 jOC
theorem yMY {P:Program} {w:World} {K:PySem.W.Frag} {mg:Str→Option Value} {base:Heap} {B:Bs} {f:Addr} {cdv:Value} {A:Around} {outer:List Env} {s:Shared} {H:Hp} {E:XK} {k:Nat} {N:Ent} (hK:K=B.K) (hw:w=B.w) (g:Gm mg)
  (D:Bdy (cxOf (L2.CX P w) P w K mg base jNZ "is_key" (defScope jBC) f cdv A outer s H E) E k)  (F_is_number:Fn P w K mg base B k "is_number" 3 uY) :
  SimSs (cxOf (L2.CX P w) P w K mg base jNZ "is_key" (defScope jBC) f cdv A outer s H E) B N (fun c d _ H=>E c d H) (defBody jBC) (jOC) :=
 (jL (yQ (vU (wW (qY (uC hK (yH (jBF hK) rfl g.n_isinstance (jA (jB (i:=0) rfl (.inl rfl) rfl rfl) (jA (jAV rfl g.n_tuple PyProof.Rows.boot_tuple (by decide) rfl) jD rfl) rfl) (by decide) rfl rfl rfl) (fun _=>rfl))) (qX (qY (yDL (jPU) (jPU) jH (yH (bi_len hK) rfl g.n_len (jA (jB (i:=0) rfl (.inl rfl) rfl rfl) jD rfl) (by decide) rfl rfl rfl) (jKS rfl g.c_MOST_NUMBERS fun _=>.int _) rfl))))) (jN (jV jEE)) yI)
 (jN (jV (yH (jTW hK rfl) rfl g.n_all (jA (SimN.sh (qW (own:=[("number", 1)]) hK rfl yGI.nd (qI hK (jB (i:=0) rfl (.inl rfl) rfl rfl)) (qH (by kernel_rfl)) (by decide) (fun _ _ _ _ _=>(zJ (pg_name yGI.nd rfl (.inl rfl) (.inr rfl)))) (fun _ _ _ _ _=>uQ) (fun _ _ _ _ _=>(jT F_is_number (jDP _) D.rm rfl (jA (jB (i:=1) rfl (.inl rfl) rfl rfl) (jA (jDQ jH (jKS rfl g.c_MOST_NUMBER fun _=>.int _)) (jA (jKS rfl g.c_MOST_NUMBER fun _=>.int _) jD rfl) rfl) rfl) rfl rfl rfl)) (fun _=>rfl))) jD rfl) (by decide) rfl rfl rfl))))
abbrev jBB:Stmt:=(top 16)
def jNY:List Str:=["value"]
theorem yGH:FnScope jNY ["value"] (defScope jBB):=⟨rfl,rfl,rfl,by decide +kernel,rfl,by decide +kernel,by decide +kernel⟩
noncomputable def jOB:MS:=(vO (yL 3 uY (jE (jG 0) (jE (eC (.int 0)) (jE (eC (.int 39)) jO)))))
noncomputable def jSG:MS:=(yX (yD 3 uY (jC (jF 0) (jC (xEC (.int 0)) (jC (xEC (.int 39)) jK)))))
theorem yFL:jOB=jSG:=by kernel_rfl
@[irreducible] noncomputable def zQ:MF:=mkF 0 jOB
theorem yMX {P:Program} {w:World} {K:PySem.W.Frag} {mg:Str→Option Value} {base:Heap} {B:Bs} {f:Addr} {cdv:Value} {A:Around} {outer:List Env} {s:Shared} {H:Hp} {E:XK} {k:Nat} {N:Ent} (hK:K=B.K) (hw:w=B.w) (g:Gm mg)
  (D:Bdy (cxOf (L2.CX P w) P w K mg base jNY "is_row" (defScope jBB) f cdv A outer s H E) E k)  (F_is_number:Fn P w K mg base B k "is_number" 3 uY) :
  SimSs (cxOf (L2.CX P w) P w K mg base jNY "is_row" (defScope jBB) f cdv A outer s H E) B N (fun c d _ H=>E c d H) (defBody jBB) (jOB) :=
 (jN (jV (jT F_is_number D.tk D.rm rfl (jA (jB (i:=0) rfl (.inl rfl) rfl rfl) (jA jH (jA (jKS rfl g.c_GREATEST_ROW fun _=>.int _) jD rfl) rfl) rfl) rfl rfl rfl)))
abbrev jAD:Stmt:=(top 17)
def jKY:List Str:=["value"]
theorem yBQ:FnScope jKY ["value"] (defScope jAD):=⟨rfl,rfl,rfl,by decide +kernel,rfl,by decide +kernel,by decide +kernel⟩
noncomputable def jLD:MS:=(vO (orV (jM jAL (jG 0) (eC .non)) (yL 1 zQ (jE (jG 0) jO))))
noncomputable def jQP:MS:=(yX (yRI (jJ jAL (jF 0) (xEC .non)) (yD 1 zQ (jC (jF 0) jK))))
theorem yBC:jLD=jQP:=by kernel_rfl
@[irreducible] noncomputable def zY:MF:=mkF 0 jLD
theorem yHH {P:Program} {w:World} {K:PySem.W.Frag} {mg:Str→Option Value} {base:Heap} {B:Bs} {f:Addr} {cdv:Value} {A:Around} {outer:List Env} {s:Shared} {H:Hp} {E:XK} {k:Nat} {N:Ent} (hK:K=B.K) (hw:w=B.w) (g:Gm mg)
  (D:Bdy (cxOf (L2.CX P w) P w K mg base jKY "is_side" (defScope jAD) f cdv A outer s H E) E k)  (F_is_row:Fn P w K mg base B k "is_row" 1 zQ) :
  SimSs (cxOf (L2.CX P w) P w K mg base jKY "is_side" (defScope jAD) f cdv A outer s H E) B N (fun c d _ H=>E c d H) (defBody jAD) (jLD) :=
 (jN (jV (yRZ (jCM (jCO) (jB (i:=0) rfl (.inl rfl) rfl rfl) vA rfl) (jDR (jT F_is_row D.tk D.rm rfl (jA (jB (i:=0) rfl (.inl rfl) rfl rfl) jD rfl) rfl rfl rfl)))))
abbrev jAE:Stmt:=(top 18)
def jKZ:List Str:=["value", "word", "parts", "some", "key"]
theorem yBR:FnScope jKZ ["value"] (defScope jAE):=⟨rfl,rfl,rfl,by decide +kernel,rfl,by decide +kernel,by decide +kernel⟩
noncomputable def jLE:MS:=(yN (sIf (orM (jIP (tM (eCB wQ (jE (jG 0) (jE (eC (.ty "tuple")) jO))))) (orM (bM (jM fEq (jG 0) (jAU jO))) (jIP (tM (eCB wQ (jE (jM fIx (jG 0) (eC (.int 0))) (jE (eC (.ty "str")) jO))))))) (vO (eC (.bl false))) wY)
 (yN (jWN 1 2 (jG 0))
 (yN (sIf (bM (jM fIn (jG 1) (jAU (jE (eC (.str "strike")) (jE (eC (.str "back")) jO))))) (vO (jGK (jM fEq (eCB vP (jE (jG 2) jO)) (eC (.int 1))) (yL 1 zQ (jE (jM fIx (jG 2) (eC (.int 0))) jO)))) wY)
 (yN (sIf (bM (jM fEq (jG 1) (eC (.str "drop")))) (vO (jGK (jM fEq (eCB vP (jE (jG 2) jO)) (eC (.int 4))) (jGK (yL 1 zQ (jE (jM fIx (jG 2) (eC (.int 0))) jO)) (jGK (yL 1 zY (jE (jM fIx (jG 2) (eC (.int 1))) jO)) (jGK (yL 1 zY (jE (jM fIx (jG 2) (eC (.int 2))) jO)) (yL 1 qQ (jE (jM fIx (jG 2) (eC (.int 3))) jO))))))) wY)
 (yN (sIf (orM (bM (jM fNe (jG 1) (eC (.str "number")))) (orM (bM (jM fNe (eCB vP (jE (jG 2) jO)) (eC (.int 3)))) (orM (jIP (tM (yL 1 zY (jE (jM fIx (jG 2) (eC (.int 0))) jO)))) (jIP (tM (yL 1 zY (jE (jM fIx (jG 2) (eC (.int 1))) jO))))))) (vO (eC (.bl false))) wY)
 (yN (wZ 3 (jM fIx (jG 2) (eC (.int 2))))
 (vO (jGK (eCB wQ (jE (jG 3) (jE (eC (.ty "tuple")) jO))) (jGK (jM fLe (eCB vP (jE (jG 3) jO)) (eC (.int 40))) (eCB jKG (jE (shN (zG (jFM (jG 3)) (.n 4) uR (yL 1 qQ (jE (jG 4) jO)) [4])) jO)))))))))))
noncomputable def jQQ:MS:=(yG (jAK (jDK (jDV (xTM (xECB wQ (jC (jF 0) (jC (xEC (.ty "tuple")) jK))))) (jDK (xBM (jJ fEq (jF 0) (zU jK))) (jDV (xTM (xECB wQ (jC (jJ fIx (jF 0) (xEC (.int 0))) (jC (xEC (.ty "str")) jK))))))) (yX (xEC (.bl false))) zH)
 (yG (jTG 1 2 (jF 0))
 (yG (jAK (xBM (jJ fIn (jF 1) (zU (jC (xEC (.str "strike")) (jC (xEC (.str "back")) jK))))) (yX (jDI (jJ fEq (xECB vP (jC (jF 2) jK)) (xEC (.int 1))) (yD 1 zQ (jC (jJ fIx (jF 2) (xEC (.int 0))) jK)))) zH)
 (yG (jAK (xBM (jJ fEq (jF 1) (xEC (.str "drop")))) (yX (jDI (jJ fEq (xECB vP (jC (jF 2) jK)) (xEC (.int 4))) (jDI (yD 1 zQ (jC (jJ fIx (jF 2) (xEC (.int 0))) jK)) (jDI (yD 1 zY (jC (jJ fIx (jF 2) (xEC (.int 1))) jK)) (jDI (yD 1 zY (jC (jJ fIx (jF 2) (xEC (.int 2))) jK)) (yD 1 qQ (jC (jJ fIx (jF 2) (xEC (.int 3))) jK))))))) zH)
 (yG (jAK (jDK (xBM (jJ fNe (jF 1) (xEC (.str "number")))) (jDK (xBM (jJ fNe (xECB vP (jC (jF 2) jK)) (xEC (.int 3)))) (jDK (jDV (xTM (yD 1 zY (jC (jJ fIx (jF 2) (xEC (.int 0))) jK)))) (jDV (xTM (yD 1 zY (jC (jJ fIx (jF 2) (xEC (.int 1))) jK))))))) (yX (xEC (.bl false))) zH)
 (yG (uA 3 (jJ fIx (jF 2) (xEC (.int 2))))
 (yX (jDI (xECB wQ (jC (jF 3) (jC (xEC (.ty "tuple")) jK))) (jDI (jJ fLe (xECB vP (jC (jF 3) jK)) (xEC (.int 40))) (xECB jKG (jC (jCY (vI (jAZ (jF 3)) (.n 4) uR (yD 1 qQ (jC (jF 4) jK)) [4])) jK)))))))))))
theorem yBD:jLE=jQQ:=by kernel_rfl
@[irreducible] noncomputable def qN:MF:=mkF 4 jLE
theorem yHI {P:Program} {w:World} {K:PySem.W.Frag} {mg:Str→Option Value} {base:Heap} {B:Bs} {f:Addr} {cdv:Value} {A:Around} {outer:List Env} {s:Shared} {H:Hp} {E:XK} {k:Nat} {N:Ent} (hK:K=B.K) (hw:w=B.w) (g:Gm mg)
  (D:Bdy (cxOf (L2.CX P w) P w K mg base jKZ "is_deed" (defScope jAE) f cdv A outer s H E) E k)  (F_is_row:Fn P w K mg base B k "is_row" 1 zQ) (F_is_side:Fn P w K mg base B k "is_side" 1 zY) (F_is_key:Fn P w K mg base B k "is_key" 1 qQ) :
  SimSs (cxOf (L2.CX P w) P w K mg base jKZ "is_deed" (defScope jAE) f cdv A outer s H E) B N (fun c d _ H=>E c d H) (defBody jAE) (jLE) :=
 (jL (yQ (vU (wW (qY (uC hK (yH (jBF hK) rfl g.n_isinstance (jA (jB (i:=0) rfl (.inl rfl) rfl rfl) (jA (jAV rfl g.n_tuple PyProof.Rows.boot_tuple (by decide) rfl) jD rfl) rfl) (by decide) rfl rfl rfl) (fun _=>rfl))) (wW (jY (wR hK D.rm.u9) (jB (i:=0) rfl (.inl rfl) rfl rfl) (vD jD) rfl) (qX (qY (uC hK (yH (jBF hK) rfl g.n_isinstance (jA (yE hK (jB (i:=0) rfl (.inl rfl) rfl rfl) jH (fun _ _=>rfl)) (jA (jAV rfl g.n_str PyProof.Rows.boot_str (by decide) rfl) jD rfl) rfl) (by decide) rfl rfl rfl) (fun _=>rfl))))))) (jN (jV jEE)) yI)
 (jL (jSM hK (jB (i:=0) rfl (.inl rfl) rfl rfl) (yDY rfl (pg_name yBR.nd rfl (.inl rfl) (.inl rfl)) (pg_name yBR.nd rfl (.inl rfl) (.inl rfl)) rfl) rfl rfl rfl)
 (jL (yQ (jY (jKL hK D.rm.u9) (jB (i:=1) rfl (.inl rfl) rfl rfl) (vD (jA (jR (jW (by decide +kernel))) (jA (jR (jW (by decide +kernel))) jD rfl) rfl)) rfl) (jN (jV (jBK (jCM (wR hK D.rm.u9) (yH (bi_len hK) rfl g.n_len (jA (jB (i:=2) rfl (.inl rfl) rfl rfl) jD rfl) (by decide) rfl rfl rfl) jH rfl) (jDR (jT F_is_row D.tk D.rm rfl (jA (yE hK (jB (i:=2) rfl (.inl rfl) rfl rfl) jH (fun _ _=>rfl)) jD rfl) rfl rfl rfl))))) yI)
 (jL (yQ (jY (wR hK D.rm.u9) (jB (i:=1) rfl (.inl rfl) rfl rfl) (jR (jW (by decide +kernel))) rfl) (jN (jV (jBK (jCM (wR hK D.rm.u9) (yH (bi_len hK) rfl g.n_len (jA (jB (i:=2) rfl (.inl rfl) rfl rfl) jD rfl) (by decide) rfl rfl rfl) jH rfl) (jBK (jT F_is_row D.tk D.rm rfl (jA (yE hK (jB (i:=2) rfl (.inl rfl) rfl rfl) jH (fun _ _=>rfl)) jD rfl) rfl rfl rfl) (jBK (jT F_is_side D.tk D.rm rfl (jA (yE hK (jB (i:=2) rfl (.inl rfl) rfl rfl) jH (fun _ _=>rfl)) jD rfl) rfl rfl rfl) (jBK (jT F_is_side D.tk D.rm rfl (jA (yE hK (jB (i:=2) rfl (.inl rfl) rfl rfl) jH (fun _ _=>rfl)) jD rfl) rfl rfl rfl) (jDR (jT F_is_key D.tk D.rm rfl (jA (yE hK (jB (i:=2) rfl (.inl rfl) rfl rfl) jH (fun _ _=>rfl)) jD rfl) rfl rfl rfl)))))))) yI)
 (jL (yQ (vU (wW (jY (jFO hK D.rm.u9) (jB (i:=1) rfl (.inl rfl) rfl rfl) (jR (jW (by decide +kernel))) rfl) (wW (jY (jFO hK D.rm.u9) (yH (bi_len hK) rfl g.n_len (jA (jB (i:=2) rfl (.inl rfl) rfl rfl) jD rfl) (by decide) rfl rfl rfl) jH rfl) (wW (qY (uC hK (jT F_is_side D.tk D.rm rfl (jA (yE hK (jB (i:=2) rfl (.inl rfl) rfl rfl) jH (fun _ _=>rfl)) jD rfl) rfl rfl rfl) (fun _=>rfl))) (qX (qY (uC hK (jT F_is_side D.tk D.rm rfl (jA (yE hK (jB (i:=2) rfl (.inl rfl) rfl rfl) jH (fun _ _=>rfl)) jD rfl) rfl rfl rfl) (fun _=>rfl)))))))) (jN (jV jEE)) yI)
 (jL (yM yBR.nd rfl (.inl rfl) (yE hK (jB (i:=2) rfl (.inl rfl) rfl rfl) jH (fun _ _=>rfl)) rfl (.inl rfl))
 (jN (jV (jBK (yH (jBF hK) rfl g.n_isinstance (jA (jB (i:=3) rfl (.inl rfl) rfl rfl) (jA (jAV rfl g.n_tuple PyProof.Rows.boot_tuple (by decide) rfl) jD rfl) rfl) (by decide) rfl rfl rfl) (jBK (jCM (jPU) (yH (bi_len hK) rfl g.n_len (jA (jB (i:=3) rfl (.inl rfl) rfl rfl) jD rfl) (by decide) rfl rfl rfl) (jKS rfl g.c_MOST_LISTED fun _=>.int _) rfl) (jDR (yH (jTW hK rfl) rfl g.n_all (jA (SimN.sh (qW (own:=[("key", 4)]) hK rfl yBR.nd (qI hK (jB (i:=3) rfl (.inl rfl) rfl rfl)) (qH (by kernel_rfl)) (by decide) (fun _ _ _ _ _=>(zJ (pg_name yBR.nd rfl (.inl rfl) (.inr rfl)))) (fun _ _ _ _ _=>uQ) (fun _ _ _ _ _=>(jT F_is_key (jDP _) D.rm rfl (jA (jB (i:=4) rfl (.inl rfl) rfl rfl) jD rfl) rfl rfl rfl)) (fun _=>rfl))) jD rfl) (by decide) rfl rfl rfl))))))))))))
abbrev qL:Stmt:=(top 19)
def jJC:List Str:=["key", "number"]
theorem jZE:FnScope jJC ["key"] (defScope qL):=⟨rfl,rfl,rfl,by decide +kernel,rfl,by decide +kernel,by decide +kernel⟩
noncomputable def jJE:MS:=(vO (eMS jBR (eC (.str ".")) (jE (shN (zG (jFM (jG 0)) (.n 1) uR (eCB jNJ (jE (jG 1) jO)) [1])) jO)))
noncomputable def jOT:MS:=(yX (jIM jBR (xEC (.str ".")) (jC (jCY (vI (jAZ (jF 0)) (.n 1) uR (xECB jNJ (jC (jF 1) jK)) [1])) jK)))
theorem jZA:jJE=jOT:=by kernel_rfl
@[irreducible] noncomputable def qR:MF:=mkF 1 jJE
theorem yCK {P:Program} {w:World} {K:PySem.W.Frag} {mg:Str→Option Value} {base:Heap} {B:Bs} {f:Addr} {cdv:Value} {A:Around} {outer:List Env} {s:Shared} {H:Hp} {E:XK} {k:Nat} {N:Ent} (hK:K=B.K) (hw:w=B.w) (g:Gm mg)
  (D:Bdy (cxOf (L2.CX P w) P w K mg base jJC "key_text" (defScope qL) f cdv A outer s H E) E k)   :
  SimSs (cxOf (L2.CX P w) P w K mg base jJC "key_text" (defScope qL) f cdv A outer s H E) B N (fun c d _ H=>E c d H) (defBody qL) (jJE) :=
 (jN (jV (jDD PySem.F.slot_str_join PySem.F.type_str_join mt_join (jDX hK) (jR (jW (by decide +kernel))) (jA (SimN.sh (qW (own:=[("number", 1)]) hK rfl jZE.nd (qI hK (jB (i:=0) rfl (.inl rfl) rfl rfl)) (qH (by kernel_rfl)) (by decide) (fun _ _ _ _ _=>(zJ (pg_name jZE.nd rfl (.inl rfl) (.inr rfl)))) (fun _ _ _ _ _=>uQ) (fun _ _ _ _ _=>(yH (jTV) rfl g.n_str (jA (jB (i:=1) rfl (.inl rfl) rfl rfl) jD rfl) (by decide) rfl rfl rfl)) (fun _=>rfl))) jD rfl) rfl rfl rfl rfl rfl)))
abbrev wB:Stmt:=(top 20)
def jHN:List Str:=["side"]
theorem jVE:FnScope jHN ["side"] (defScope wB):=⟨rfl,rfl,rfl,by decide +kernel,rfl,by decide +kernel,by decide +kernel⟩
noncomputable def jHZ:MS:=(vO (ifM (bM (jM jAL (jG 0) (eC .non))) (eC (.str "-")) (eCB jNJ (jE (jG 0) jO))))
noncomputable def jMM:MS:=(yX (jEC (xBM (jJ jAL (jF 0) (xEC .non))) (xEC (.str "-")) (xECB jNJ (jC (jF 0) jK))))
theorem jUU:jHZ=jMM:=by kernel_rfl
@[irreducible] noncomputable def uE:MF:=mkF 0 jHZ
theorem jZN {P:Program} {w:World} {K:PySem.W.Frag} {mg:Str→Option Value} {base:Heap} {B:Bs} {f:Addr} {cdv:Value} {A:Around} {outer:List Env} {s:Shared} {H:Hp} {E:XK} {k:Nat} {N:Ent} (hK:K=B.K) (hw:w=B.w) (g:Gm mg)
  (D:Bdy (cxOf (L2.CX P w) P w K mg base jHN "side_text" (defScope wB) f cdv A outer s H E) E k)   :
  SimSs (cxOf (L2.CX P w) P w K mg base jHN "side_text" (defScope wB) f cdv A outer s H E) B N (fun c d _ H=>E c d H) (defBody wB) (jHZ) :=
 (jN (jV (vJ (jY (jCO) (jB (i:=0) rfl (.inl rfl) rfl rfl) vA rfl) (jR (jW (by decide +kernel))) (yH (jTV) rfl g.n_str (jA (jB (i:=0) rfl (.inl rfl) rfl rfl) jD rfl) (by decide) rfl rfl rfl))))
abbrev wG:Stmt:=(top 21)
def jHR:List Str:=["deed", "word", "parts", "key"]
theorem jVI:FnScope jHR ["deed"] (defScope wG):=⟨rfl,rfl,rfl,by decide +kernel,rfl,by decide +kernel,by decide +kernel⟩
noncomputable def jID:MS:=(yN (sIf (jIP (tM (yL 1 qN (jE (jG 0) jO)))) (jIS 0 0 jAQ jO) wY)
 (yN (jWN 1 2 (jG 0))
 (yN (sIf (bM (jM fEq (jG 1) (eC (.str "drop")))) (vO (eMS jBR (eC (.str " ")) (jE (jDU (jE (jG 1) (jE (eCB jNJ (jE (jM fIx (jG 2) (eC (.int 0))) jO)) (jE (yL 1 uE (jE (jM fIx (jG 2) (eC (.int 1))) jO)) (jE (yL 1 uE (jE (jM fIx (jG 2) (eC (.int 2))) jO)) (jE (yL 1 qR (jE (jM fIx (jG 2) (eC (.int 3))) jO)) jO)))))) jO))) wY)
 (yN (sIf (bM (jM fEq (jG 1) (eC (.str "number")))) (vO (eMS jBR (eC (.str " ")) (jE (jDU (jE (jG 1) (jE (yL 1 uE (jE (jM fIx (jG 2) (eC (.int 0))) jO)) (jE (yL 1 uE (jE (jM fIx (jG 2) (eC (.int 1))) jO)) (yDD (shN (zG (jFM (jM fIx (jG 2) (eC (.int 2)))) (.n 3) uR (yL 1 qR (jE (jG 3) jO)) [3])) jO))))) jO))) wY)
 (vO (eJ [(jWT (jG 1)),(eC (.str " ")),(jWT (jM fIx (jG 2) (eC (.int 0))))] Str.empty))))))
noncomputable def jMP:MS:=(yG (jAK (jDV (xTM (yD 1 qN (jC (jF 0) jK)))) (jPE 0 0 jAQ jK) zH)
 (yG (jTG 1 2 (jF 0))
 (yG (jAK (xBM (jJ fEq (jF 1) (xEC (.str "drop")))) (yX (jIM jBR (xEC (.str " ")) (jC (jCZ (jC (jF 1) (jC (xECB jNJ (jC (jJ fIx (jF 2) (xEC (.int 0))) jK)) (jC (yD 1 uE (jC (jJ fIx (jF 2) (xEC (.int 1))) jK)) (jC (yD 1 uE (jC (jJ fIx (jF 2) (xEC (.int 2))) jK)) (jC (yD 1 qR (jC (jJ fIx (jF 2) (xEC (.int 3))) jK)) jK)))))) jK))) zH)
 (yG (jAK (xBM (jJ fEq (jF 1) (xEC (.str "number")))) (yX (jIM jBR (xEC (.str " ")) (jC (jCZ (jC (jF 1) (jC (yD 1 uE (jC (jJ fIx (jF 2) (xEC (.int 0))) jK)) (jC (yD 1 uE (jC (jJ fIx (jF 2) (xEC (.int 1))) jK)) (yAD (jCY (vI (jAZ (jJ fIx (jF 2) (xEC (.int 2)))) (.n 3) uR (yD 1 qR (jC (jF 3) jK)) [3])) jK))))) jK))) zH)
 (yX (xEJ [(jNK (jF 1)),(xEC (.str " ")),(jNK (jJ fIx (jF 2) (xEC (.int 0))))] Str.empty))))))
theorem jUX:jID=jMP:=by kernel_rfl
@[irreducible] noncomputable def uP:MF:=mkF 3 jID
theorem jZR {P:Program} {w:World} {K:PySem.W.Frag} {mg:Str→Option Value} {base:Heap} {B:Bs} {f:Addr} {cdv:Value} {A:Around} {outer:List Env} {s:Shared} {H:Hp} {E:XK} {k:Nat} {N:Ent} (hK:K=B.K) (hw:w=B.w) (g:Gm mg)
  (D:Bdy (cxOf (L2.CX P w) P w K mg base jHR "deed_text" (defScope wG) f cdv A outer s H E) E k)  (F_is_deed:Fn P w K mg base B k "is_deed" 1 qN) (F_key_text:Fn P w K mg base B k "key_text" 1 qR) (F_side_text:Fn P w K mg base B k "side_text" 1 uE) (X_InvalidDeed:ExcA P w K mg base B k "InvalidDeed" 0 0 jAQ) :
  SimSs (cxOf (L2.CX P w) P w K mg base jHR "deed_text" (defScope wG) f cdv A outer s H E) B N (fun c d _ H=>E c d H) (defBody wG) (jID) :=
 (jL (yQ (qY (uC hK (jT F_is_deed D.tk D.rm rfl (jA (jB (i:=0) rfl (.inl rfl) rfl rfl) jD rfl) rfl rfl rfl) (fun _=>rfl))) (jN (jVD X_InvalidDeed rfl D.tk D.rm rfl rfl)) yI)
 (jL (jSM hK (jB (i:=0) rfl (.inl rfl) rfl rfl) (yDY rfl (pg_name jVI.nd rfl (.inl rfl) (.inl rfl)) (pg_name jVI.nd rfl (.inl rfl) (.inl rfl)) rfl) rfl rfl rfl)
 (jL (yQ (jY (wR hK D.rm.u9) (jB (i:=1) rfl (.inl rfl) rfl rfl) (jR (jW (by decide +kernel))) rfl) (jN (jV (jDD PySem.F.slot_str_join PySem.F.type_str_join mt_join (jDX hK) (jR (jW (by decide +kernel))) (jA (zP (jA (jB (i:=1) rfl (.inl rfl) rfl rfl) (jA (yH (jTV) rfl g.n_str (jA (yE hK (jB (i:=2) rfl (.inl rfl) rfl rfl) jH (fun _ _=>rfl)) jD rfl) (by decide) rfl rfl rfl) (jA (jT F_side_text D.tk D.rm rfl (jA (yE hK (jB (i:=2) rfl (.inl rfl) rfl rfl) jH (fun _ _=>rfl)) jD rfl) rfl rfl rfl) (jA (jT F_side_text D.tk D.rm rfl (jA (yE hK (jB (i:=2) rfl (.inl rfl) rfl rfl) jH (fun _ _=>rfl)) jD rfl) rfl rfl rfl) (jA (jT F_key_text D.tk D.rm rfl (jA (yE hK (jB (i:=2) rfl (.inl rfl) rfl rfl) jH (fun _ _=>rfl)) jD rfl) rfl rfl rfl) jD rfl) rfl) rfl) rfl) rfl)) jD rfl) rfl rfl rfl rfl rfl))) yI)
 (jL (yQ (jY (wR hK D.rm.u9) (jB (i:=1) rfl (.inl rfl) rfl rfl) (jR (jW (by decide +kernel))) rfl) (jN (jV (jDD PySem.F.slot_str_join PySem.F.type_str_join mt_join (jDX hK) (jR (jW (by decide +kernel))) (jA (zP (jA (jB (i:=1) rfl (.inl rfl) rfl rfl) (jA (jT F_side_text D.tk D.rm rfl (jA (yE hK (jB (i:=2) rfl (.inl rfl) rfl rfl) jH (fun _ _=>rfl)) jD rfl) rfl rfl rfl) (jA (jT F_side_text D.tk D.rm rfl (jA (yE hK (jB (i:=2) rfl (.inl rfl) rfl rfl) jH (fun _ _=>rfl)) jD rfl) rfl rfl rfl) (yGB hK (SimN.sh (qW (own:=[("key", 3)]) hK rfl jVI.nd (qI hK (yE hK (jB (i:=2) rfl (.inl rfl) rfl rfl) jH (fun _ _=>rfl))) (qH (by kernel_rfl)) (by decide) (fun _ _ _ _ _=>(zJ (pg_name jVI.nd rfl (.inl rfl) (.inr rfl)))) (fun _ _ _ _ _=>uQ) (fun _ _ _ _ _=>(jT F_key_text (jDP _) D.rm rfl (jA (jB (i:=3) rfl (.inl rfl) rfl rfl) jD rfl) rfl rfl rfl)) (fun _=>rfl))) jD rfl) rfl) rfl) rfl)) jD rfl) rfl rfl rfl rfl rfl))) yI)
 (jN (jV (yBM (.cons (jXL (jB (i:=1) rfl (.inl rfl) rfl rfl)) (.cons (jR (jW (by decide +kernel))) (.cons (jXL (yE hK (jB (i:=2) rfl (.inl rfl) rfl rfl) jH (fun _ _=>rfl))) .nil))))))))))
abbrev wD:Stmt:=(top 22)
def jHP:List Str:=["word", "digits", "digit"]
theorem jVG:FnScope jHP ["word"] (defScope wD):=⟨rfl,rfl,rfl,by decide +kernel,rfl,by decide +kernel,by decide +kernel⟩
noncomputable def jIB:MS:=(yN (wZ 1 (ifM (tM (eMS jPL (jG 0) (jE (eC (.str "-")) jO))) (eSl (jG 0) (jCG (eC (.int 1))) jDJ) (jG 0)))
 (yN (sIf (orM (jIP (bM (jGF fLe fLe (eC (.int 1)) (eCB vP (jE (jG 1) jO)) (eC (.int 19))))) (jIP (tM (eCB jKG (jE (shN (zG (jFM (jG 1)) (.n 2) uR (jM fIn (jG 2) (eC (.str "0123456789"))) [2])) jO))))) (vO (eC .non)) wY)
 (vO (ifM (bM (jM fEq (eCB jNJ (jE (eCB jKN (jE (jG 0) jO)) jO)) (jG 0))) (eCB jKN (jE (jG 0) jO)) (eC .non)))))
noncomputable def jMN:MS:=(yG (uA 1 (jEC (xTM (jIM jPL (jF 0) (jC (xEC (.str "-")) jK))) (jGE (jF 0) (kZ (xEC (.int 1))) jBE) (jF 0)))
 (yG (jAK (jDK (jDV (xBM (jLV fLe fLe (xEC (.int 1)) (xECB vP (jC (jF 1) jK)) (xEC (.int 19))))) (jDV (xTM (xECB jKG (jC (jCY (vI (jAZ (jF 1)) (.n 2) uR (jJ fIn (jF 2) (xEC (.str "0123456789"))) [2])) jK))))) (yX (xEC .non)) zH)
 (yX (jEC (xBM (jJ fEq (xECB jNJ (jC (xECB jKN (jC (jF 0) jK)) jK)) (jF 0))) (xECB jKN (jC (jF 0) jK)) (xEC .non)))))
theorem jUV:jIB=jMN:=by kernel_rfl
@[irreducible] noncomputable def uX:MF:=mkF 2 jIB
theorem jZP {P:Program} {w:World} {K:PySem.W.Frag} {mg:Str→Option Value} {base:Heap} {B:Bs} {f:Addr} {cdv:Value} {A:Around} {outer:List Env} {s:Shared} {H:Hp} {E:XK} {k:Nat} {N:Ent} (hK:K=B.K) (hw:w=B.w) (g:Gm mg)
  (D:Bdy (cxOf (L2.CX P w) P w K mg base jHP "number_in" (defScope wD) f cdv A outer s H E) E k)   :
  SimSs (cxOf (L2.CX P w) P w K mg base jHP "number_in" (defScope wD) f cdv A outer s H E) B N (fun c d _ H=>E c d H) (defBody wD) (jIB) :=
 (jL (yM jVG.nd rfl (.inl rfl) (vJ (uC hK (jDD PySem.F.slot_str_startswith PySem.F.type_str_startswith mt_startswith yBO (jB (i:=0) rfl (.inl rfl) rfl rfl) (jA (jR (jW (by decide +kernel))) jD rfl) rfl rfl rfl rfl rfl) (fun _=>rfl)) (jBS hK (jB (i:=0) rfl (.inl rfl) rfl rfl) (uJ jH) zX) (jB (i:=0) rfl (.inl rfl) rfl rfl)) rfl (.inl rfl))
 (jL (yQ (vU (wW (qY (yDL (jPU) (jPU) jH (yH (bi_len hK) rfl g.n_len (jA (jB (i:=1) rfl (.inl rfl) rfl rfl) jD rfl) (by decide) rfl rfl rfl) (jKS rfl g.c_MOST_DIGITS fun _=>.int _) rfl)) (qX (qY (uC hK (yH (jTW hK rfl) rfl g.n_all (jA (SimN.sh (qW (own:=[("digit", 2)]) hK rfl jVG.nd (qI hK (jB (i:=1) rfl (.inl rfl) rfl rfl)) (qH (by kernel_rfl)) (by decide) (fun _ _ _ _ _=>(zJ (pg_name jVG.nd rfl (.inl rfl) (.inr rfl)))) (fun _ _ _ _ _=>uQ) (fun _ _ _ _ _=>(jCM (jKL hK D.rm.u9) (jB (i:=2) rfl (.inl rfl) rfl rfl) (jKS rfl g.c_DIGITS fun _=>.str _ (jW (by decide +kernel))) rfl)) (fun _=>rfl))) jD rfl) (by decide) rfl rfl rfl) (fun _=>rfl)))))) (jN (jV vA)) yI)
 (jN (jV (vJ (jY (wR hK D.rm.u9) (yH (jTV) rfl g.n_str (jA (yH (jUT) rfl g.n_int (jA (jB (i:=0) rfl (.inl rfl) rfl rfl) jD rfl) (by decide) rfl rfl rfl) jD rfl) (by decide) rfl rfl rfl) (jB (i:=0) rfl (.inl rfl) rfl rfl) rfl) (yH (jUT) rfl g.n_int (jA (jB (i:=0) rfl (.inl rfl) rfl rfl) jD rfl) (by decide) rfl rfl rfl) vA)))))
abbrev jBA:Stmt:=(top 23)
def jNX:List Str:=["word", "found", "part"]
theorem yGG:FnScope jNX ["word"] (defScope jBA):=⟨rfl,rfl,rfl,by decide +kernel,rfl,by decide +kernel,by decide +kernel⟩
noncomputable def jOA:MS:=(yN (wZ 1 (eCB kJ (jE (shN (zG (jFM (eMS jBU (jG 0) (jE (eC (.str ".")) jO))) (.n 2) uR (yL 1 uX (jE (jG 2) jO)) [2])) jO)))
 (vO (ifM (tM (yL 1 qQ (jE (jG 1) jO))) (jG 1) (eC .non))))
noncomputable def jSF:MS:=(yG (uA 1 (xECB kJ (jC (jCY (vI (jAZ (jIM jBU (jF 0) (jC (xEC (.str ".")) jK))) (.n 2) uR (yD 1 uX (jC (jF 2) jK)) [2])) jK)))
 (yX (jEC (xTM (yD 1 qQ (jC (jF 1) jK))) (jF 1) (xEC .non))))
theorem yFK:jOA=jSF:=by kernel_rfl
@[irreducible] noncomputable def jBV:MF:=mkF 2 jOA
theorem yMW {P:Program} {w:World} {K:PySem.W.Frag} {mg:Str→Option Value} {base:Heap} {B:Bs} {f:Addr} {cdv:Value} {A:Around} {outer:List Env} {s:Shared} {H:Hp} {E:XK} {k:Nat} {N:Ent} (hK:K=B.K) (hw:w=B.w) (g:Gm mg)
  (D:Bdy (cxOf (L2.CX P w) P w K mg base jNX "key_in" (defScope jBA) f cdv A outer s H E) E k)  (F_number_in:Fn P w K mg base B k "number_in" 1 uX) (F_is_key:Fn P w K mg base B k "is_key" 1 qQ) :
  SimSs (cxOf (L2.CX P w) P w K mg base jNX "key_in" (defScope jBA) f cdv A outer s H E) B N (fun c d _ H=>E c d H) (defBody jBA) (jOA) :=
 (jL (yM yGG.nd rfl (.inl rfl) (yH (jEA hK) rfl g.n_tuple (jA (SimN.sh (qW (own:=[("part", 2)]) hK rfl yGG.nd (qI hK (jDD PySem.F.slot_str_split PySem.F.type_str_split mt_split jGU (jB (i:=0) rfl (.inl rfl) rfl rfl) (jA (jR (jW (by decide +kernel))) jD rfl) rfl rfl rfl rfl rfl)) (qH (by kernel_rfl)) (by decide) (fun _ _ _ _ _=>(zJ (pg_name yGG.nd rfl (.inl rfl) (.inr rfl)))) (fun _ _ _ _ _=>uQ) (fun _ _ _ _ _=>(jT F_number_in (jDP _) D.rm rfl (jA (jB (i:=2) rfl (.inl rfl) rfl rfl) jD rfl) rfl rfl rfl)) (fun _=>rfl))) jD rfl) (by decide) rfl rfl rfl) rfl (.inl rfl))
 (jN (jV (vJ (uC hK (jT F_is_key D.tk D.rm rfl (jA (jB (i:=1) rfl (.inl rfl) rfl rfl) jD rfl) rfl rfl rfl) (fun _=>rfl)) (jB (i:=1) rfl (.inl rfl) rfl rfl) vA))))
abbrev jAC:Stmt:=(top 24)
def jKX:List Str:=["word", "found"]
theorem yBP:FnScope jKX ["word"] (defScope jAC):=⟨rfl,rfl,rfl,by decide +kernel,rfl,by decide +kernel,by decide +kernel⟩
noncomputable def jLC:MS:=(yN (sIf (bM (jM fEq (jG 0) (eC (.str "-")))) (vO (eC .non)) wY)
 (yN (wZ 1 (yL 1 uX (jE (jG 0) jO)))
 (vO (ifM (tM (yL 1 zQ (jE (jG 1) jO))) (jG 1) (yNH (eC (.int 1)))))))
noncomputable def jQO:MS:=(yG (jAK (xBM (jJ fEq (jF 0) (xEC (.str "-")))) (yX (xEC .non)) zH)
 (yG (uA 1 (yD 1 uX (jC (jF 0) jK)))
 (yX (jEC (xTM (yD 1 zQ (jC (jF 1) jK))) (jF 1) (yHZ (xEC (.int 1)))))))
theorem yBB:jLC=jQO:=by kernel_rfl
@[irreducible] noncomputable def uK:MF:=mkF 1 jLC
theorem yHG {P:Program} {w:World} {K:PySem.W.Frag} {mg:Str→Option Value} {base:Heap} {B:Bs} {f:Addr} {cdv:Value} {A:Around} {outer:List Env} {s:Shared} {H:Hp} {E:XK} {k:Nat} {N:Ent} (hK:K=B.K) (hw:w=B.w) (g:Gm mg)
  (D:Bdy (cxOf (L2.CX P w) P w K mg base jKX "side_in" (defScope jAC) f cdv A outer s H E) E k)  (F_number_in:Fn P w K mg base B k "number_in" 1 uX) (F_is_row:Fn P w K mg base B k "is_row" 1 zQ) :
  SimSs (cxOf (L2.CX P w) P w K mg base jKX "side_in" (defScope jAC) f cdv A outer s H E) B N (fun c d _ H=>E c d H) (defBody jAC) (jLC) :=
 (jL (yQ (jY (wR hK D.rm.u9) (jB (i:=0) rfl (.inl rfl) rfl rfl) (jR (jW (by decide +kernel))) rfl) (jN (jV vA)) yI)
 (jL (yM yBP.nd rfl (.inl rfl) (jT F_number_in D.tk D.rm rfl (jA (jB (i:=0) rfl (.inl rfl) rfl rfl) jD rfl) rfl rfl rfl) rfl (.inl rfl))
 (jN (jV (vJ (uC hK (jT F_is_row D.tk D.rm rfl (jA (jB (i:=1) rfl (.inl rfl) rfl rfl) jD rfl) rfl rfl rfl) (fun _=>rfl)) (jB (i:=1) rfl (.inl rfl) rfl rfl) (yNX jH))))))
abbrev jAF:Stmt:=(top 25)
def jLA:List Str:=["words", "word"]
theorem yBS:FnScope jLA ["words"] (defScope jAF):=⟨rfl,rfl,rfl,by decide +kernel,rfl,by decide +kernel,by decide +kernel⟩
noncomputable def jLF:MS:=(yN (sIf (bM (jM fEq (eCB vP (jE (jG 0) jO)) (eC (.int 2)))) (vO (jAU (jE (jM fIx (jG 0) (eC (.int 0))) (jE (yL 1 uK (jE (jM fIx (jG 0) (eC (.int 1))) jO)) jO)))) wY)
 (yN (sIf (andM (bM (jM fGt (eCB vP (jE (jG 0) jO)) (eC (.int 2)))) (bM (jM fEq (jM fIx (jG 0) (eC (.int 0))) (eC (.str "number"))))) (vO (jAU (jE (eC (.str "number")) (jE (yL 1 uK (jE (jM fIx (jG 0) (eC (.int 1))) jO)) (jE (yL 1 uK (jE (jM fIx (jG 0) (eC (.int 2))) jO)) (jE (eCB kJ (jE (shN (zG (jFM (eSl (jG 0) (jCG (eC (.int 3))) jDJ)) (.n 1) uR (yL 1 jBV (jE (jG 1) jO)) [1])) jO)) jO)))))) wY)
 (yN (sIf (bM (jM fEq (eCB vP (jE (jG 0) jO)) (eC (.int 5)))) (vO (jAU (jE (jM fIx (jG 0) (eC (.int 0))) (jE (yL 1 uK (jE (jM fIx (jG 0) (eC (.int 1))) jO)) (jE (yL 1 uK (jE (jM fIx (jG 0) (eC (.int 2))) jO)) (jE (yL 1 uK (jE (jM fIx (jG 0) (eC (.int 3))) jO)) (jE (yL 1 jBV (jE (jM fIx (jG 0) (eC (.int 4))) jO)) jO))))))) wY)
 (vO (jAU jO)))))
noncomputable def jQR:MS:=(yG (jAK (xBM (jJ fEq (xECB vP (jC (jF 0) jK)) (xEC (.int 2)))) (yX (zU (jC (jJ fIx (jF 0) (xEC (.int 0))) (jC (yD 1 uK (jC (jJ fIx (jF 0) (xEC (.int 1))) jK)) jK)))) zH)
 (yG (jAK (jKJ (xBM (jJ fGt (xECB vP (jC (jF 0) jK)) (xEC (.int 2)))) (xBM (jJ fEq (jJ fIx (jF 0) (xEC (.int 0))) (xEC (.str "number"))))) (yX (zU (jC (xEC (.str "number")) (jC (yD 1 uK (jC (jJ fIx (jF 0) (xEC (.int 1))) jK)) (jC (yD 1 uK (jC (jJ fIx (jF 0) (xEC (.int 2))) jK)) (jC (xECB kJ (jC (jCY (vI (jAZ (jGE (jF 0) (kZ (xEC (.int 3))) jBE)) (.n 1) uR (yD 1 jBV (jC (jF 1) jK)) [1])) jK)) jK)))))) zH)
 (yG (jAK (xBM (jJ fEq (xECB vP (jC (jF 0) jK)) (xEC (.int 5)))) (yX (zU (jC (jJ fIx (jF 0) (xEC (.int 0))) (jC (yD 1 uK (jC (jJ fIx (jF 0) (xEC (.int 1))) jK)) (jC (yD 1 uK (jC (jJ fIx (jF 0) (xEC (.int 2))) jK)) (jC (yD 1 uK (jC (jJ fIx (jF 0) (xEC (.int 3))) jK)) (jC (yD 1 jBV (jC (jJ fIx (jF 0) (xEC (.int 4))) jK)) jK))))))) zH)
 (yX (zU jK)))))
theorem yBE:jLF=jQR:=by kernel_rfl
@[irreducible] noncomputable def jCD:MF:=mkF 1 jLF
theorem yHJ {P:Program} {w:World} {K:PySem.W.Frag} {mg:Str→Option Value} {base:Heap} {B:Bs} {f:Addr} {cdv:Value} {A:Around} {outer:List Env} {s:Shared} {H:Hp} {E:XK} {k:Nat} {N:Ent} (hK:K=B.K) (hw:w=B.w) (g:Gm mg)
  (D:Bdy (cxOf (L2.CX P w) P w K mg base jLA "deed_in" (defScope jAF) f cdv A outer s H E) E k)  (F_side_in:Fn P w K mg base B k "side_in" 1 uK) (F_key_in:Fn P w K mg base B k "key_in" 1 jBV) :
  SimSs (cxOf (L2.CX P w) P w K mg base jLA "deed_in" (defScope jAF) f cdv A outer s H E) B N (fun c d _ H=>E c d H) (defBody jAF) (jLF) :=
 (jL (yQ (jY (wR hK D.rm.u9) (yH (bi_len hK) rfl g.n_len (jA (jB (i:=0) rfl (.inl rfl) rfl rfl) jD rfl) (by decide) rfl rfl rfl) jH rfl) (jN (jV (vD (jA (yE hK (jB (i:=0) rfl (.inl rfl) rfl rfl) jH (fun _ _=>rfl)) (jA (jT F_side_in D.tk D.rm rfl (jA (yE hK (jB (i:=0) rfl (.inl rfl) rfl rfl) jH (fun _ _=>rfl)) jD rfl) rfl rfl rfl) jD rfl) rfl)))) yI)
 (jL (yQ (vU (jFF (jY (jKM) (yH (bi_len hK) rfl g.n_len (jA (jB (i:=0) rfl (.inl rfl) rfl rfl) jD rfl) (by decide) rfl rfl rfl) jH rfl) (jDL (jY (wR hK D.rm.u9) (yE hK (jB (i:=0) rfl (.inl rfl) rfl rfl) jH (fun _ _=>rfl)) (jR (jW (by decide +kernel))) rfl)))) (jN (jV (vD (jA (jR (jW (by decide +kernel))) (jA (jT F_side_in D.tk D.rm rfl (jA (yE hK (jB (i:=0) rfl (.inl rfl) rfl rfl) jH (fun _ _=>rfl)) jD rfl) rfl rfl rfl) (jA (jT F_side_in D.tk D.rm rfl (jA (yE hK (jB (i:=0) rfl (.inl rfl) rfl rfl) jH (fun _ _=>rfl)) jD rfl) rfl rfl rfl) (jA (yH (jEA hK) rfl g.n_tuple (jA (SimN.sh (qW (own:=[("word", 1)]) hK rfl yBS.nd (qI hK (jBS hK (jB (i:=0) rfl (.inl rfl) rfl rfl) (uJ jH) zX)) (qH (by kernel_rfl)) (by decide) (fun _ _ _ _ _=>(zJ (pg_name yBS.nd rfl (.inl rfl) (.inr rfl)))) (fun _ _ _ _ _=>uQ) (fun _ _ _ _ _=>(jT F_key_in (jDP _) D.rm rfl (jA (jB (i:=1) rfl (.inl rfl) rfl rfl) jD rfl) rfl rfl rfl)) (fun _=>rfl))) jD rfl) (by decide) rfl rfl rfl) jD rfl) rfl) rfl) rfl)))) yI)
 (jL (yQ (jY (wR hK D.rm.u9) (yH (bi_len hK) rfl g.n_len (jA (jB (i:=0) rfl (.inl rfl) rfl rfl) jD rfl) (by decide) rfl rfl rfl) jH rfl) (jN (jV (vD (jA (yE hK (jB (i:=0) rfl (.inl rfl) rfl rfl) jH (fun _ _=>rfl)) (jA (jT F_side_in D.tk D.rm rfl (jA (yE hK (jB (i:=0) rfl (.inl rfl) rfl rfl) jH (fun _ _=>rfl)) jD rfl) rfl rfl rfl) (jA (jT F_side_in D.tk D.rm rfl (jA (yE hK (jB (i:=0) rfl (.inl rfl) rfl rfl) jH (fun _ _=>rfl)) jD rfl) rfl rfl rfl) (jA (jT F_side_in D.tk D.rm rfl (jA (yE hK (jB (i:=0) rfl (.inl rfl) rfl rfl) jH (fun _ _=>rfl)) jD rfl) rfl rfl rfl) (jA (jT F_key_in D.tk D.rm rfl (jA (yE hK (jB (i:=0) rfl (.inl rfl) rfl rfl) jH (fun _ _=>rfl)) jD rfl) rfl rfl rfl) jD rfl) rfl) rfl) rfl) rfl)))) yI)
 (jN (jV (vD jD))))))
abbrev wC:Stmt:=(top 26)
def jHO:List Str:=["text", "found"]
theorem jVF:FnScope jHO ["text"] (defScope wC):=⟨rfl,rfl,rfl,by decide +kernel,rfl,by decide +kernel,by decide +kernel⟩
noncomputable def jIA:MS:=(yN (wZ 1 (ifM (tM (eCB wQ (jE (jG 0) (jE (eC (.ty "str")) jO)))) (yL 1 jCD (jE (eMS jBU (jG 0) (jE (eC (.str " ")) jO)) jO)) (jAU jO)))
 (yN (sIf (jIP (tM (yL 1 qN (jE (jG 1) jO)))) (jIS 1 1 jAP (jE (eC (.int 0)) jO)) wY)
 (vO (jG 1))))
noncomputable def jEL:MS:=(yG (uA 1 (jEC (xTM (xECB wQ (jC (jF 0) (jC (xEC (.ty "str")) jK)))) (yD 1 jCD (jC (jIM jBU (jF 0) (jC (xEC (.str " ")) jK)) jK)) (zU jK)))
 (yG (jAK (jDV (xTM (yD 1 qN (jC (jF 1) jK)))) (jPE 1 1 jAP (jC (xEC (.int 0)) jK)) zH)
 (yX (jF 1))))
theorem jHL:jIA=jEL:=by kernel_rfl
@[irreducible] noncomputable def yU:MF:=mkF 1 jIA
theorem jZO {P:Program} {w:World} {K:PySem.W.Frag} {mg:Str→Option Value} {base:Heap} {B:Bs} {f:Addr} {cdv:Value} {A:Around} {outer:List Env} {s:Shared} {H:Hp} {E:XK} {k:Nat} {N:Ent} (hK:K=B.K) (hw:w=B.w) (g:Gm mg)
  (D:Bdy (cxOf (L2.CX P w) P w K mg base jHO "read_deed" (defScope wC) f cdv A outer s H E) E k)  (F_deed_in:Fn P w K mg base B k "deed_in" 1 jCD) (F_is_deed:Fn P w K mg base B k "is_deed" 1 qN) (X_InvalidText:ExcA P w K mg base B k "InvalidText" 1 1 jAP) :
  SimSs (cxOf (L2.CX P w) P w K mg base jHO "read_deed" (defScope wC) f cdv A outer s H E) B N (fun c d _ H=>E c d H) (defBody wC) (jIA) :=
 (jL (yM jVF.nd rfl (.inl rfl) (vJ (uC hK (yH (jBF hK) rfl g.n_isinstance (jA (jB (i:=0) rfl (.inl rfl) rfl rfl) (jA (jAV rfl g.n_str PyProof.Rows.boot_str (by decide) rfl) jD rfl) rfl) (by decide) rfl rfl rfl) (fun _=>rfl)) (jT F_deed_in D.tk D.rm rfl (jA (jDD PySem.F.slot_str_split PySem.F.type_str_split mt_split jGU (jB (i:=0) rfl (.inl rfl) rfl rfl) (jA (jR (jW (by decide +kernel))) jD rfl) rfl rfl rfl rfl rfl) jD rfl) rfl rfl rfl) (vD jD)) rfl (.inl rfl))
 (jL (yQ (qY (uC hK (jT F_is_deed D.tk D.rm rfl (jA (jB (i:=1) rfl (.inl rfl) rfl rfl) jD rfl) rfl rfl rfl) (fun _=>rfl))) (jN (jZC X_InvalidText rfl D.tk D.rm rfl (jA jH jD rfl) rfl rfl rfl)) yI)
 (jN (jV (jB (i:=1) rfl (.inl rfl) rfl rfl)))))
abbrev wI:Stmt:=(top 28)
def jHT:List Str:=["_law_script"]
theorem jVK:FnScope jHT ["_law_script"] (defScope wI):=⟨rfl,rfl,rfl,by decide +kernel,rfl,by decide +kernel,by decide +kernel⟩
noncomputable def jIF:MS:=(vO (jWJ (jRR (jE (eCB jPV (jE (eSl (jG 0) jDJ (jCG (eC (.int 63)))) jO)) (jE (eC (.int 0)) (jE (eC (.int 0)) (jE (eC (.int 100201)) (jE (eC (.int 0)) jO))))))))
noncomputable def jMR:MS:=(yX (jPR (jKI (jC (xECB jPV (jC (jGE (jF 0) jBE (kZ (xEC (.int 63)))) jK)) (jC (xEC (.int 0)) (jC (xEC (.int 0)) (jC (xEC (.int 100201)) (jC (xEC (.int 0)) jK))))))))
theorem jUZ:jIF=jMR:=by kernel_rfl
@[irreducible] noncomputable def jAB:MF:=mkF 0 jIF
theorem jZT {P:Program} {w:World} {K:PySem.W.Frag} {mg:Str→Option Value} {base:Heap} {B:Bs} {f:Addr} {cdv:Value} {A:Around} {outer:List Env} {s:Shared} {H:Hp} {E:XK} {k:Nat} {N:Ent} (hK:K=B.K) (hw:w=B.w) (g:Gm mg)
  (D:Bdy (cxOf (L2.CX P w) P w K mg base jHT "_law_open" (defScope wI) f cdv A outer s H E) E k)   :
  SimSs (cxOf (L2.CX P w) P w K mg base jHT "_law_open" (defScope wI) f cdv A outer s H E) B N (fun c d _ H=>E c d H) (defBody wI) (jIF) :=
 (jN (jV (jLY (jFG (jA (yH (yEZ hK) rfl g.n_list (jA (jBS hK (jB (i:=0) rfl (.inl rfl) rfl rfl) zX (uJ jH)) jD rfl) (by decide) rfl rfl rfl) (jA jH (jA jH (jA jH (jA jH jD rfl) rfl) rfl) rfl) rfl)))))
abbrev wM:Stmt:=(top 29)
def jHX:List Str:=["_law_bag", "_law_many", "_law_cell", "_law_digit", "_law_seed"]
theorem jVN:FnScope jHX ["_law_bag", "_law_many"] (defScope wM):=⟨rfl,rfl,rfl,by decide +kernel,rfl,by decide +kernel,by decide +kernel⟩
noncomputable def jMX:MS:=(yN (sIf (andM (bM (jM fEq (jM fIx (jG 0) (eC (.int 2))) (eC (.int 0)))) (bM (jM fLt (jM fIx (jG 0) (eC (.int 1))) (eCB vP (jE (jM fIx (jG 0) (eC (.int 0))) jO))))) (yN (wZ 2 (jM fIx (jM fIx (jG 0) (eC (.int 0))) (jM fIx (jG 0) (eC (.int 1)))))
 (yN (jEY (jM yO (jM fIx (jG 0) (eC (.int 1))) (eC (.int 1))) (jG 0) (eC (.int 1)))
 (yN (jEY (ifM (bM (jM fGe (jG 2) (jM jOY (eC (.int 10)) (eC (.int 18))))) (jG 2) (eC (.int 0))) (jG 0) (eC (.int 2)))
 (jEY (jM jIQ (eCB jIN (jE (jM yO (jM yO (jM jDT (jM fIx (jG 0) (eC (.int 3))) (eC (.int 40031))) (jM jDT (jM jIQ (eCB jIN (jE (jG 2) jO)) (eC (.int 2147483549))) (eC (.int 331)))) (eC (.int 2011))) jO)) (eC (.int 2147483587))) (jG 0) (eC (.int 3)))))) wY)
 (yN (sIf (bM (jM fGt (jM fIx (jG 0) (eC (.int 2))) (eC (.int 0)))) (yN (wZ 3 (jM jIQ (eCB jIN (jE (jM fIx (jG 0) (eC (.int 2))) jO)) (jG 1)))
 (yN (jEY (jM jWH (jM fIx (jG 0) (eC (.int 2))) (jG 1)) (jG 0) (eC (.int 2)))
 (vO (jG 3)))) wY)
 (yN (jEY (jM yO (jM fIx (jG 0) (eC (.int 4))) (eC (.int 1))) (jG 0) (eC (.int 4)))
 (yN (wZ 4 (jM fIx (jG 0) (eC (.int 3))))
 (yN (jEY (jM jIQ (eCB jIN (jE (jM yO (jM yO (jM yO (jM jDT (jG 4) (jG 4)) (jM jDT (eC (.int 65071)) (jG 4))) (jM jDT (eC (.int 6673)) (jM fIx (jG 0) (eC (.int 4))))) (eC (.int 40013))) jO)) (eC (.int 2147483587))) (jG 0) (eC (.int 3)))
 (vO (jM jIQ (eCB jIN (jE (jM yO (jM yO (jM jWH (jM fIx (jG 0) (eC (.int 3))) (eC (.int 61))) (jM jDT (jG 4) (eC (.int 32009)))) (jM fIx (jG 0) (eC (.int 4)))) jO)) (jG 1))))))))
@[irreducible] noncomputable def jZ:MF:=mkF 3 jMX
theorem jZX {P:Program} {w:World} {K:PySem.W.Frag} {mg:Str→Option Value} {base:Heap} {B:Bs} {f:Addr} {cdv:Value} {A:Around} {outer:List Env} {s:Shared} {H:Hp} {E:XK} {k:Nat} {N:Ent} (hK:K=B.K) (hw:w=B.w) (g:Gm mg)
  (D:Bdy (cxOf (L2.CX P w) P w K mg base jHX "_law_draw" (defScope wM) f cdv A outer s H E) E k)   :
  SimSs (cxOf (L2.CX P w) P w K mg base jHX "_law_draw" (defScope wM) f cdv A outer s H E) B N (fun c d _ H=>E c d H) (defBody wM) (jMX) :=
 (jL (yQ (vU (jFF (jY (wR hK D.rm.u9) (yE hK (jB (i:=0) rfl (.inl rfl) rfl rfl) jH (fun _ _=>rfl)) jH rfl) (jDL (jY (jWW hK D.rm.u9) (yE hK (jB (i:=0) rfl (.inl rfl) rfl rfl) jH (fun _ _=>rfl)) (yH (bi_len hK) rfl g.n_len (jA (yE hK (jB (i:=0) rfl (.inl rfl) rfl rfl) jH (fun _ _=>rfl)) jD rfl) (by decide) rfl rfl rfl) rfl)))) (jL (yM jVN.nd rfl (.inl rfl) (yE hK (yE hK (jB (i:=0) rfl (.inl rfl) rfl rfl) jH (fun _ _=>rfl)) (yE hK (jB (i:=0) rfl (.inl rfl) rfl rfl) jH (fun _ _=>rfl)) (fun _ _=>rfl)) rfl (.inl rfl))
 (jL (jES (yR hK (yE hK (jB (i:=0) rfl (.inl rfl) rfl rfl) jH (fun _ _=>rfl)) jH) (jB (i:=0) rfl (.inl rfl) rfl rfl) jH (fun _=>rfl) rfl rfl rfl)
 (jL (jES (vJ (jY (yWV) (jB (i:=2) rfl (.inl rfl) rfl rfl) (jPH jH jH) rfl) (jB (i:=2) rfl (.inl rfl) rfl rfl) jH) (jB (i:=0) rfl (.inl rfl) rfl rfl) jH (fun _=>rfl) rfl rfl rfl)
 (jN (jES (jLX (yH (jQE) rfl g.n_int (jA (yR hK (yR hK (jHB hK (yE hK (jB (i:=0) rfl (.inl rfl) rfl rfl) jH (fun _ _=>rfl)) jH) (jHB hK (jLX (yH (jQE) rfl g.n_int (jA (jB (i:=2) rfl (.inl rfl) rfl rfl) jD rfl) (by decide) rfl rfl rfl) jH) jH)) jH) jD rfl) (by decide) rfl rfl rfl) jH) (jB (i:=0) rfl (.inl rfl) rfl rfl) jH (fun _=>rfl) rfl rfl rfl))))) yI)
 (jL (yQ (jY (jKM) (yE hK (jB (i:=0) rfl (.inl rfl) rfl rfl) jH (fun _ _=>rfl)) jH rfl) (jL (yM jVN.nd rfl (.inl rfl) (jLX (yH (jQE) rfl g.n_int (jA (yE hK (jB (i:=0) rfl (.inl rfl) rfl rfl) jH (fun _ _=>rfl)) jD rfl) (by decide) rfl rfl rfl) (jB (i:=1) rfl (.inl rfl) rfl rfl)) rfl (.inl rfl))
 (jL (jES (yDO (yE hK (jB (i:=0) rfl (.inl rfl) rfl rfl) jH (fun _ _=>rfl)) (jB (i:=1) rfl (.inl rfl) rfl rfl)) (jB (i:=0) rfl (.inl rfl) rfl rfl) jH (fun _=>rfl) rfl rfl rfl)
 (jN (jV (jB (i:=3) rfl (.inl rfl) rfl rfl))))) yI)
 (jL (jES (yR hK (yE hK (jB (i:=0) rfl (.inl rfl) rfl rfl) jH (fun _ _=>rfl)) jH) (jB (i:=0) rfl (.inl rfl) rfl rfl) jH (fun _=>rfl) rfl rfl rfl)
 (jL (yM jVN.nd rfl (.inl rfl) (yE hK (jB (i:=0) rfl (.inl rfl) rfl rfl) jH (fun _ _=>rfl)) rfl (.inl rfl))
 (jL (jES (jLX (yH (jQE) rfl g.n_int (jA (yR hK (yR hK (yR hK (jHB hK (jB (i:=4) rfl (.inl rfl) rfl rfl) (jB (i:=4) rfl (.inl rfl) rfl rfl)) (jHB hK jH (jB (i:=4) rfl (.inl rfl) rfl rfl))) (jHB hK jH (yE hK (jB (i:=0) rfl (.inl rfl) rfl rfl) jH (fun _ _=>rfl)))) jH) jD rfl) (by decide) rfl rfl rfl) jH) (jB (i:=0) rfl (.inl rfl) rfl rfl) jH (fun _=>rfl) rfl rfl rfl)
 (jN (jV (jLX (yH (jQE) rfl g.n_int (jA (yR hK (yR hK (yDO (yE hK (jB (i:=0) rfl (.inl rfl) rfl rfl) jH (fun _ _=>rfl)) jH) (jHB hK (jB (i:=4) rfl (.inl rfl) rfl rfl) jH)) (yE hK (jB (i:=0) rfl (.inl rfl) rfl rfl) jH (fun _ _=>rfl))) jD rfl) (by decide) rfl rfl rfl) (jB (i:=1) rfl (.inl rfl) rfl rfl)))))))))
abbrev jAG:Stmt:=(top 30)
def jLB:List Str:=["_law_bag", "_law_things"]
theorem yBT:FnScope jLB ["_law_bag", "_law_things"] (defScope jAG):=⟨rfl,rfl,rfl,by decide +kernel,rfl,by decide +kernel,by decide +kernel⟩
noncomputable def jLG:MS:=(vO (jM fIx (jG 1) (yL 2 jZ (jE (jG 0) (jE (eCB vP (jE (jG 1) jO)) jO)))))
@[irreducible] noncomputable def vB:MF:=mkF 0 jLG
theorem yHK {P:Program} {w:World} {K:PySem.W.Frag} {mg:Str→Option Value} {base:Heap} {B:Bs} {f:Addr} {cdv:Value} {A:Around} {outer:List Env} {s:Shared} {H:Hp} {E:XK} {k:Nat} {N:Ent} (hK:K=B.K) (hw:w=B.w) (g:Gm mg)
  (D:Bdy (cxOf (L2.CX P w) P w K mg base jLB "_law_of" (defScope jAG) f cdv A outer s H E) E k)  (F__law_draw:Fn P w K mg base B k "_law_draw" 2 jZ) :
  SimSs (cxOf (L2.CX P w) P w K mg base jLB "_law_of" (defScope jAG) f cdv A outer s H E) B N (fun c d _ H=>E c d H) (defBody jAG) (jLG) :=
 (jN (jV (yE hK (jB (i:=1) rfl (.inl rfl) rfl rfl) (jT F__law_draw D.tk D.rm rfl (jA (jB (i:=0) rfl (.inl rfl) rfl rfl) (jA (yH (bi_len hK) rfl g.n_len (jA (jB (i:=1) rfl (.inl rfl) rfl rfl) jD rfl) (by decide) rfl rfl rfl) jD rfl) rfl) rfl rfl rfl) (fun _ _=>rfl))))
abbrev uL:Stmt:=(top 31)
def jHV:List Str:=["_law_found", "_law_due", "_law_one", "_law_other"]
theorem jMV:FnScope jHV ["_law_found", "_law_due"] (defScope uL):=⟨rfl,rfl,rfl,by decide +kernel,rfl,by decide +kernel,by decide +kernel⟩
noncomputable def jMW (m:MF):MS:=(yN (sIf (tM (eCB wQ (jE (jG 1) (jE (jAU (jE (eC (.ty "list")) (jE (eC (.ty "tuple")) jO))) jO)))) (yN (sIf (orM (bM (jM fNe (eCB wQ (jE (jG 0) (jE (eC (.ty "list")) jO))) (eCB wQ (jE (jG 1) (jE (eC (.ty "list")) jO))))) (bM (jM fNe (eCB wQ (jE (jG 0) (jE (eC (.ty "tuple")) jO))) (eCB wQ (jE (jG 1) (jE (eC (.ty "tuple")) jO)))))) (vO (eC (.bl false))) wY)
 (vO (jGK (jM fEq (eCB vP (jE (jG 0) jO)) (eCB vP (jE (jG 1) jO))) (eCB jKG (jE (shN (zG (yND (jE (jG 0) (jE (jG 1) jO))) (.t [(.n 2),(.n 3)]) uR (yL 2 m (jE (jG 2) (jE (jG 3) jO))) [2,3])) jO))))) wY)
 (yN (sIf (orM (bM (jM jAL (jG 1) (eC .non))) (bM (jM jAL (jG 0) (eC .non)))) (vO (jGK (jM jAL (jG 1) (eC .non)) (jM jAL (jG 0) (eC .non)))) wY)
 (yN (sIf (orM (bM (jM fNe (eCB wQ (jE (jG 0) (jE (eC (.ty "bool")) jO))) (eCB wQ (jE (jG 1) (jE (eC (.ty "bool")) jO))))) (bM (jM fNe (eCB wQ (jE (jG 0) (jE (eC (.ty "int")) jO))) (eCB wQ (jE (jG 1) (jE (eC (.ty "int")) jO)))))) (vO (eC (.bl false))) wY)
 (vO (jGK (jM fEq (eCB wQ (jE (jG 0) (jE (eC (.ty "str")) jO))) (eCB wQ (jE (jG 1) (jE (eC (.ty "str")) jO)))) (jM fEq (jG 0) (jG 1)))))))
noncomputable def jHY:Nat→MF
 | 0=>fun _ _=>.bad
 | n+1=>mkF 2 (jMW (jHY n))
@[irreducible] noncomputable def uF:MF:=jHY 8
theorem jZV {P:Program} {w:World} {K:PySem.W.Frag} {mg:Str→Option Value} {base:Heap} {B:Bs} {f:Addr} {cdv:Value} {A:Around} {outer:List Env} {s:Shared} {H:Hp} {E:XK} {k:Nat} {N:Ent} (hK:K=B.K) (hw:w=B.w) (g:Gm mg)
  (D:Bdy (cxOf (L2.CX P w) P w K mg base jHV "_law_like" (defScope uL) f cdv A outer s H E) E k)  {m:MF} (F__law_like:Fn P w K mg base B k "_law_like" 2 m) :
  SimSs (cxOf (L2.CX P w) P w K mg base jHV "_law_like" (defScope uL) f cdv A outer s H E) B N (fun c d _ H=>E c d H) (defBody uL) (jMW m) :=
 (jL (yQ (uC hK (yH (jBF hK) rfl g.n_isinstance (jA (jB (i:=1) rfl (.inl rfl) rfl rfl) (jA (vD (jA (jAV rfl g.n_list PyProof.Rows.boot_list (by decide) rfl) (jA (jAV rfl g.n_tuple PyProof.Rows.boot_tuple (by decide) rfl) jD rfl) rfl)) jD rfl) rfl) (by decide) rfl rfl rfl) (fun _=>rfl)) (jL (yQ (vU (wW (jY (jFO hK D.rm.u9) (yH (jBF hK) rfl g.n_isinstance (jA (jB (i:=0) rfl (.inl rfl) rfl rfl) (jA (jAV rfl g.n_list PyProof.Rows.boot_list (by decide) rfl) jD rfl) rfl) (by decide) rfl rfl rfl) (yH (jBF hK) rfl g.n_isinstance (jA (jB (i:=1) rfl (.inl rfl) rfl rfl) (jA (jAV rfl g.n_list PyProof.Rows.boot_list (by decide) rfl) jD rfl) rfl) (by decide) rfl rfl rfl) rfl) (qX (jY (jFO hK D.rm.u9) (yH (jBF hK) rfl g.n_isinstance (jA (jB (i:=0) rfl (.inl rfl) rfl rfl) (jA (jAV rfl g.n_tuple PyProof.Rows.boot_tuple (by decide) rfl) jD rfl) rfl) (by decide) rfl rfl rfl) (yH (jBF hK) rfl g.n_isinstance (jA (jB (i:=1) rfl (.inl rfl) rfl rfl) (jA (jAV rfl g.n_tuple PyProof.Rows.boot_tuple (by decide) rfl) jD rfl) rfl) (by decide) rfl rfl rfl) rfl)))) (jN (jV jEE)) yI)
 (jN (jV (jBK (jCM (wR hK D.rm.u9) (yH (bi_len hK) rfl g.n_len (jA (jB (i:=0) rfl (.inl rfl) rfl rfl) jD rfl) (by decide) rfl rfl rfl) (yH (bi_len hK) rfl g.n_len (jA (jB (i:=1) rfl (.inl rfl) rfl rfl) jD rfl) (by decide) rfl rfl rfl) rfl) (jDR (yH (jTW hK rfl) rfl g.n_all (jA (SimN.sh (qW (own:=[("_law_one", 2),("_law_other", 3)]) hK rfl jMV.nd (yNV hK rfl g.n_zip (jA (jB (i:=0) rfl (.inl rfl) rfl rfl) (jA (jB (i:=1) rfl (.inl rfl) rfl rfl) jD rfl) rfl) rfl rfl rfl) (qH (by kernel_rfl)) (by decide) (fun _ _ _ _ _=>(jOO rfl (zR (zJ (pg_name jMV.nd rfl (.inl rfl) (.inr rfl))) (zR (zJ (pg_name jMV.nd rfl (.inl rfl) (.inr rfl))) jDY rfl) rfl) rfl rfl)) (fun _ _ _ _ _=>uQ) (fun _ _ _ _ _=>(jT F__law_like (jDP _) D.rm rfl (jA (jB (i:=2) rfl (.inl rfl) rfl rfl) (jA (jB (i:=3) rfl (.inl rfl) rfl rfl) jD rfl) rfl) rfl rfl rfl)) (fun _=>rfl))) jD rfl) (by decide) rfl rfl rfl)))))) yI)
 (jL (yQ (vU (wW (jY (jCO) (jB (i:=1) rfl (.inl rfl) rfl rfl) vA rfl) (qX (jY (jCO) (jB (i:=0) rfl (.inl rfl) rfl rfl) vA rfl)))) (jN (jV (jBK (jCM (jCO) (jB (i:=1) rfl (.inl rfl) rfl rfl) vA rfl) (jDR (jCM (jCO) (jB (i:=0) rfl (.inl rfl) rfl rfl) vA rfl))))) yI)
 (jL (yQ (vU (wW (jY (jFO hK D.rm.u9) (yH (jBF hK) rfl g.n_isinstance (jA (jB (i:=0) rfl (.inl rfl) rfl rfl) (jA (jAV rfl g.n_bool PyProof.Rows.boot_bool (by decide) rfl) jD rfl) rfl) (by decide) rfl rfl rfl) (yH (jBF hK) rfl g.n_isinstance (jA (jB (i:=1) rfl (.inl rfl) rfl rfl) (jA (jAV rfl g.n_bool PyProof.Rows.boot_bool (by decide) rfl) jD rfl) rfl) (by decide) rfl rfl rfl) rfl) (qX (jY (jFO hK D.rm.u9) (yH (jBF hK) rfl g.n_isinstance (jA (jB (i:=0) rfl (.inl rfl) rfl rfl) (jA (jAV rfl g.n_int PyProof.Rows.boot_int (by decide) rfl) jD rfl) rfl) (by decide) rfl rfl rfl) (yH (jBF hK) rfl g.n_isinstance (jA (jB (i:=1) rfl (.inl rfl) rfl rfl) (jA (jAV rfl g.n_int PyProof.Rows.boot_int (by decide) rfl) jD rfl) rfl) (by decide) rfl rfl rfl) rfl)))) (jN (jV jEE)) yI)
 (jN (jV (jBK (jCM (wR hK D.rm.u9) (yH (jBF hK) rfl g.n_isinstance (jA (jB (i:=0) rfl (.inl rfl) rfl rfl) (jA (jAV rfl g.n_str PyProof.Rows.boot_str (by decide) rfl) jD rfl) rfl) (by decide) rfl rfl rfl) (yH (jBF hK) rfl g.n_isinstance (jA (jB (i:=1) rfl (.inl rfl) rfl rfl) (jA (jAV rfl g.n_str PyProof.Rows.boot_str (by decide) rfl) jD rfl) rfl) (by decide) rfl rfl rfl) rfl) (jDR (jCM (wR hK D.rm.u9) (jB (i:=0) rfl (.inl rfl) rfl rfl) (jB (i:=1) rfl (.inl rfl) rfl rfl) rfl))))))))
abbrev zM:Stmt:=(top 32)
def jGH:List Str:=["_law_e"]
theorem jRV:FnScope jGH ["_law_e"] (defScope zM):=⟨rfl,rfl,rfl,by decide +kernel,rfl,by decide +kernel,by decide +kernel⟩
noncomputable def jKP:MS:=(yN (sIf (bM (jM fIn (eXf xfl "code" (jG 0)) (jDU (jE (eC (.str "InvalidKey")) (jE (eC (.str "InvalidNumber")) (jE (eC (.str "InvalidTable")) (jE (eC (.str "InvalidSight")) (jE (eC (.str "InvalidWish")) (jE (eC (.str "InvalidStand")) jO))))))))) (vO (eXf xfl "given" (jG 0))) wY)
 (yN (sIf (bM (jM fIn (eXf xfl "code" (jG 0)) (jDU (jE (eC (.str "InvalidName")) (jE (eC (.str "InvalidLimit")) (jE (eC (.str "TakenKey")) jO)))))) (vO (eXf xfl "given" (jG 0))) wY)
 (yN (sIf (bM (jM fIn (eXf xfl "code" (jG 0)) (jDU (jE (eC (.str "InvalidEntry")) (jE (eC (.str "InvalidStep")) (jE (eC (.str "InvalidCommand")) jO)))))) (vO (eXf xfl "at" (jG 0))) wY)
 (yN (sIf (bM (jM fIn (eXf xfl "code" (jG 0)) (jDU (jE (eC (.str "DuplicateName")) (jE (eC (.str "UnknownName")) jO))))) (vO (eXf xfl "name" (jG 0))) wY)
 (yN (sIf (bM (jM fIn (eXf xfl "code" (jG 0)) (jDU (jE (eC (.str "InvalidOption")) (jE (eC (.str "InvalidText")) jO))))) (vO (ifM (bM (jM fEq (eXf xfl "code" (jG 0)) (eC (.str "InvalidOption")))) (eXf xfl "word" (jG 0)) (eXf xfl "line" (jG 0)))) wY)
 (yN (sIf (bM (jM fIn (eXf xfl "code" (jG 0)) (jDU (jE (eC (.str "TooMany")) (jE (eC (.str "Full")) jO))))) (vO (ifM (bM (jM fEq (eXf xfl "code" (jG 0)) (eC (.str "TooMany")))) (eXf xfl "most" (jG 0)) (eXf xfl "limit" (jG 0)))) wY)
 (yN (sIf (bM (jM fIn (eXf xfl "code" (jG 0)) (jDU (jE (eC (.str "NoRow")) (jE (eC (.str "NoLetter")) jO))))) (vO (ifM (bM (jM fEq (eXf xfl "code" (jG 0)) (eC (.str "NoRow")))) (eXf xfl "row" (jG 0)) (eXf xfl "letter" (jG 0)))) wY)
 (vO (ifM (bM (jM fEq (eXf xfl "code" (jG 0)) (eC (.str "NotBeside")))) (jAU (jE (eXf xfl "left" (jG 0)) (jE (eXf xfl "right" (jG 0)) jO))) (eC .non))))))))))
@[irreducible] noncomputable def jEM:MF:=mkF 0 jKP
theorem jWB {P:Program} {w:World} {K:PySem.W.Frag} {mg:Str→Option Value} {base:Heap} {B:Bs} {f:Addr} {cdv:Value} {A:Around} {outer:List Env} {s:Shared} {H:Hp} {E:XK} {k:Nat} {N:Ent} {p:Addr × Obj} {c:Nat} {dd:Addr} (hK:K=(B.with (p.1,c,dd)).K) (hw:w=B.w) (g:Gm mg) (XC:XClsF K B xfl)
  (D:BdyX (L2H.cxH (L2.CX P w) P w K mg base jGH "_law_field" (defScope zM) f cdv A outer s H E p) (B.with (p.1,c,dd)) E k)  :
  SimSs (L2H.cxH (L2.CX P w) P w K mg base jGH "_law_field" (defScope zM) f cdv A outer s H E p) (B.with (p.1,c,dd)) N (fun c d _ H=>E c d H) (defBody zM) (jKP) :=
 (jL (yQ (jY (jKL hK D.rm.u9) (qC D.hx XC.with (jB (i:=0) rfl (.inl rfl) rfl rfl) rfl) (zP (jA (jR (jW (by decide +kernel))) (jA (jR (jW (by decide +kernel))) (jA (jR (jW (by decide +kernel))) (jA (jR (jW (by decide +kernel))) (jA (jR (jW (by decide +kernel))) (jA (jR (jW (by decide +kernel))) jD rfl) rfl) rfl) rfl) rfl) rfl)) rfl) (jN (jV (qC D.hx XC.with (jB (i:=0) rfl (.inl rfl) rfl rfl) rfl))) yI)
 (jL (yQ (jY (jKL hK D.rm.u9) (qC D.hx XC.with (jB (i:=0) rfl (.inl rfl) rfl rfl) rfl) (zP (jA (jR (jW (by decide +kernel))) (jA (jR (jW (by decide +kernel))) (jA (jR (jW (by decide +kernel))) jD rfl) rfl) rfl)) rfl) (jN (jV (qC D.hx XC.with (jB (i:=0) rfl (.inl rfl) rfl rfl) rfl))) yI)
 (jL (yQ (jY (jKL hK D.rm.u9) (qC D.hx XC.with (jB (i:=0) rfl (.inl rfl) rfl rfl) rfl) (zP (jA (jR (jW (by decide +kernel))) (jA (jR (jW (by decide +kernel))) (jA (jR (jW (by decide +kernel))) jD rfl) rfl) rfl)) rfl) (jN (jV (qC D.hx XC.with (jB (i:=0) rfl (.inl rfl) rfl rfl) rfl))) yI)
 (jL (yQ (jY (jKL hK D.rm.u9) (qC D.hx XC.with (jB (i:=0) rfl (.inl rfl) rfl rfl) rfl) (zP (jA (jR (jW (by decide +kernel))) (jA (jR (jW (by decide +kernel))) jD rfl) rfl)) rfl) (jN (jV (qC D.hx XC.with (jB (i:=0) rfl (.inl rfl) rfl rfl) rfl))) yI)
 (jL (yQ (jY (jKL hK D.rm.u9) (qC D.hx XC.with (jB (i:=0) rfl (.inl rfl) rfl rfl) rfl) (zP (jA (jR (jW (by decide +kernel))) (jA (jR (jW (by decide +kernel))) jD rfl) rfl)) rfl) (jN (jV (vJ (jY (wR hK D.rm.u9) (qC D.hx XC.with (jB (i:=0) rfl (.inl rfl) rfl rfl) rfl) (jR (jW (by decide +kernel))) rfl) (qC D.hx XC.with (jB (i:=0) rfl (.inl rfl) rfl rfl) rfl) (qC D.hx XC.with (jB (i:=0) rfl (.inl rfl) rfl rfl) rfl)))) yI)
 (jL (yQ (jY (jKL hK D.rm.u9) (qC D.hx XC.with (jB (i:=0) rfl (.inl rfl) rfl rfl) rfl) (zP (jA (jR (jW (by decide +kernel))) (jA (jR (jW (by decide +kernel))) jD rfl) rfl)) rfl) (jN (jV (vJ (jY (wR hK D.rm.u9) (qC D.hx XC.with (jB (i:=0) rfl (.inl rfl) rfl rfl) rfl) (jR (jW (by decide +kernel))) rfl) (qC D.hx XC.with (jB (i:=0) rfl (.inl rfl) rfl rfl) rfl) (qC D.hx XC.with (jB (i:=0) rfl (.inl rfl) rfl rfl) rfl)))) yI)
 (jL (yQ (jY (jKL hK D.rm.u9) (qC D.hx XC.with (jB (i:=0) rfl (.inl rfl) rfl rfl) rfl) (zP (jA (jR (jW (by decide +kernel))) (jA (jR (jW (by decide +kernel))) jD rfl) rfl)) rfl) (jN (jV (vJ (jY (wR hK D.rm.u9) (qC D.hx XC.with (jB (i:=0) rfl (.inl rfl) rfl rfl) rfl) (jR (jW (by decide +kernel))) rfl) (qC D.hx XC.with (jB (i:=0) rfl (.inl rfl) rfl rfl) rfl) (qC D.hx XC.with (jB (i:=0) rfl (.inl rfl) rfl rfl) rfl)))) yI)
 (jN (jV (vJ (jY (wR hK D.rm.u9) (qC D.hx XC.with (jB (i:=0) rfl (.inl rfl) rfl rfl) rfl) (jR (jW (by decide +kernel))) rfl) (vD (jA (qC D.hx XC.with (jB (i:=0) rfl (.inl rfl) rfl rfl) rfl) (jA (qC D.hx XC.with (jB (i:=0) rfl (.inl rfl) rfl rfl) rfl) jD rfl) rfl)) vA))))))))))
abbrev jBX:Stmt:=(top 33)
def jZH:List Str:=["_law_ask", "_law_e"]
theorem jZF:FnScope jZH ["_law_ask"] (defScope jBX):=⟨rfl,rfl,rfl,by decide +kernel,rfl,by decide +kernel,by decide +kernel⟩
noncomputable def jEK:MS:=vO (jAU (jE (eXf xfl "code" (jG 1)) (jE (yL 1 jEM (jE (jG 1) jO)) jO)))
abbrev vN:Stmt:=(top 34)
def jDF:List Str:=["_law_bag", "_law_drops", "_law_numbers", "_law_k"]
theorem jND:FnScope jDF ["_law_bag"] (defScope vN):=⟨rfl,rfl,rfl,by decide +kernel,rfl,by decide +kernel,by decide +kernel⟩
noncomputable def jDG:MS:=(yN (wZ 1 (jM yO (eC (.str "t")) (eMS jBR (eC (.str "")) (jE (shN (zG (jKK (jE (eC (.int 7)) jO)) (.n 3) uR (yL 2 vB (jE (jG 0) (jE (eC (.str "ttrm")) jO))) [3])) jO))))
 (yN (wZ 2 (jM yO (eC (.str "t")) (eMS jBR (eC (.str "")) (jE (shN (zG (jKK (jE (eC (.int 3)) jO)) (.n 3) uR (yL 2 vB (jE (jG 0) (jE (eC (.str "ttrm")) jO))) [3])) jO))))
 (vO (jAU (jE (jG 1) (jE (jG 2) (jE (jM fGt (yL 2 jZ (jE (jG 0) (jE (eC (.int 3)) jO))) (eC (.int 0))) (jE (jM fEq (yL 2 jZ (jE (jG 0) (jE (eC (.int 2)) jO))) (eC (.int 0))) (jE (yL 2 vB (jE (jG 0) (jE (jDU (jE (eC (.str "none")) (jE (eC (.str "none")) (jE (eC (.str "one")) (jE (eC (.str "all")) jO))))) jO))) jO)))))))))
noncomputable def jGD:MS:=(yG (uA 1 (jJ yO (xEC (.str "t")) (jIM jBR (xEC (.str "")) (jC (jCY (vI (jFB (jC (xEC (.int 7)) jK)) (.n 3) uR (yD 2 vB (jC (jF 0) (jC (xEC (.str "ttrm")) jK))) [3])) jK))))
 (yG (uA 2 (jJ yO (xEC (.str "t")) (jIM jBR (xEC (.str "")) (jC (jCY (vI (jFB (jC (xEC (.int 3)) jK)) (.n 3) uR (yD 2 vB (jC (jF 0) (jC (xEC (.str "ttrm")) jK))) [3])) jK))))
 (yX (zU (jC (jF 1) (jC (jF 2) (jC (jJ fGt (yD 2 jZ (jC (jF 0) (jC (xEC (.int 3)) jK))) (xEC (.int 0))) (jC (jJ fEq (yD 2 jZ (jC (jF 0) (jC (xEC (.int 2)) jK))) (xEC (.int 0))) (jC (yD 2 vB (jC (jF 0) (jC (jCZ (jC (xEC (.str "none")) (jC (xEC (.str "none")) (jC (xEC (.str "one")) (jC (xEC (.str "all")) jK))))) jK))) jK)))))))))
theorem jNC:jDG=jGD:=by kernel_rfl
@[irreducible] noncomputable def uM:MF:=mkF 3 jDG
theorem jOM {P:Program} {w:World} {K:PySem.W.Frag} {mg:Str→Option Value} {base:Heap} {B:Bs} {f:Addr} {cdv:Value} {A:Around} {outer:List Env} {s:Shared} {H:Hp} {E:XK} {k:Nat} {N:Ent} (hK:K=B.K) (hw:w=B.w) (g:Gm mg)
  (D:Bdy (cxOf (L2.CX P w) P w K mg base jDF "_law_some_spec" (defScope vN) f cdv A outer s H E) E k)  (F__law_of:Fn P w K mg base B k "_law_of" 2 vB) (F__law_draw:Fn P w K mg base B k "_law_draw" 2 jZ) :
  SimSs (cxOf (L2.CX P w) P w K mg base jDF "_law_some_spec" (defScope vN) f cdv A outer s H E) B N (fun c d _ H=>E c d H) (defBody vN) (jDG) :=
 (jL (yM jND.nd rfl (.inl rfl) (yR hK (jR (jW (by decide +kernel))) (jDD PySem.F.slot_str_join PySem.F.type_str_join mt_join (jDX hK) (jR (jW (by decide +kernel))) (jA (SimN.sh (qW (own:=[("_law_k", 3)]) hK rfl jND.nd (jDW rfl g.n_range (jA jH jD rfl) rfl) (qH (by kernel_rfl)) (by decide) (fun _ _ _ _ _=>(zJ (pg_name jND.nd rfl (.inl rfl) (.inr rfl)))) (fun _ _ _ _ _=>uQ) (fun _ _ _ _ _=>(jT F__law_of (jDP _) D.rm rfl (jA (jB (i:=0) rfl (.inr (.inl rfl)) rfl rfl) (jA (jR (jW (by decide +kernel))) jD rfl) rfl) rfl rfl rfl)) (fun _=>rfl))) jD rfl) rfl rfl rfl rfl rfl)) rfl (.inl rfl))
 (jL (yM jND.nd rfl (.inl rfl) (yR hK (jR (jW (by decide +kernel))) (jDD PySem.F.slot_str_join PySem.F.type_str_join mt_join (jDX hK) (jR (jW (by decide +kernel))) (jA (SimN.sh (qW (own:=[("_law_k", 3)]) hK rfl jND.nd (jDW rfl g.n_range (jA jH jD rfl) rfl) (qH (by kernel_rfl)) (by decide) (fun _ _ _ _ _=>(zJ (pg_name jND.nd rfl (.inl rfl) (.inr rfl)))) (fun _ _ _ _ _=>uQ) (fun _ _ _ _ _=>(jT F__law_of (jDP _) D.rm rfl (jA (jB (i:=0) rfl (.inr (.inl rfl)) rfl rfl) (jA (jR (jW (by decide +kernel))) jD rfl) rfl) rfl rfl rfl)) (fun _=>rfl))) jD rfl) rfl rfl rfl rfl rfl)) rfl (.inl rfl))
 (jN (jV (vD (jA (jB (i:=1) rfl (.inl rfl) rfl rfl) (jA (jB (i:=2) rfl (.inl rfl) rfl rfl) (jA (jCM (jKM) (jT F__law_draw D.tk D.rm rfl (jA (jB (i:=0) rfl (.inr (.inl rfl)) rfl rfl) (jA jH jD rfl) rfl) rfl rfl rfl) jH rfl) (jA (jCM (wR hK D.rm.u9) (jT F__law_draw D.tk D.rm rfl (jA (jB (i:=0) rfl (.inr (.inl rfl)) rfl rfl) (jA jH jD rfl) rfl) rfl rfl rfl) jH rfl) (jA (jT F__law_of D.tk D.rm rfl (jA (jB (i:=0) rfl (.inr (.inl rfl)) rfl rfl) (jA (zP (jA (jR (jW (by decide +kernel))) (jA (jR (jW (by decide +kernel))) (jA (jR (jW (by decide +kernel))) (jA (jR (jW (by decide +kernel))) jD rfl) rfl) rfl) rfl)) jD rfl) rfl) rfl rfl rfl) jD rfl) rfl) rfl) rfl) rfl))))))
abbrev wJ:Stmt:=(top 35)
def jHU:List Str:=["_law_moment", "_law_whole", "_law_pairs", "_law_row", "_law_key_here"]
theorem jVL:FnScope jHU ["_law_moment", "_law_whole"] (defScope wJ):=⟨rfl,rfl,rfl,by decide +kernel,rfl,by decide +kernel,by decide +kernel⟩
noncomputable def jIG:MS:=(yN (wZ 2 (eCB jKW (jE (shN (zG (jQB (jE (jM fIx (jG 0) (eC (.int 0))) jO)) (.t [(.n 3),(.n 4)]) uR (jAU (jE (jG 4) (jE (jG 3) jO))) [3,4])) jO)))
 (vO (shN (zG (jFM (jG 2)) (.t [(.n 4),(.n 3)]) (orM (tM (jG 1)) (tM (jM fIx (jM fIx (jG 0) (eC (.int 1))) (jG 3)))) (jG 3) [4,3]))))
noncomputable def jMS:MS:=(yG (uA 2 (xECB jKW (jC (jCY (vI (jLU (jC (jJ fIx (jF 0) (xEC (.int 0))) jK)) (.t [(.n 3),(.n 4)]) uR (zU (jC (jF 4) (jC (jF 3) jK))) [3,4])) jK)))
 (yX (jCY (vI (jAZ (jF 2)) (.t [(.n 4),(.n 3)]) (jDK (xTM (jF 1)) (xTM (jJ fIx (jJ fIx (jF 0) (xEC (.int 1))) (jF 3)))) (jF 3) [4,3]))))
theorem jVA:jIG=jMS:=by kernel_rfl
@[irreducible] noncomputable def uZ:MF:=mkF 3 jIG
theorem jZU {P:Program} {w:World} {K:PySem.W.Frag} {mg:Str→Option Value} {base:Heap} {B:Bs} {f:Addr} {cdv:Value} {A:Around} {outer:List Env} {s:Shared} {H:Hp} {E:XK} {k:Nat} {N:Ent} (hK:K=B.K) (hw:w=B.w) (g:Gm mg)
  (D:Bdy (cxOf (L2.CX P w) P w K mg base jHU "_law_line" (defScope wJ) f cdv A outer s H E) E k)   :
  SimSs (cxOf (L2.CX P w) P w K mg base jHU "_law_line" (defScope wJ) f cdv A outer s H E) B N (fun c d _ H=>E c d H) (defBody wJ) (jIG) :=
 (jL (yM jVL.nd rfl (.inl rfl) (yH (yCJ hK D.rm.u9) rfl g.n_sorted (jA (SimN.sh (qW (own:=[("_law_row", 3),("_law_key_here", 4)]) hK rfl jVL.nd (jSP hK rfl g.n_enumerate (jA (yE hK (jB (i:=0) rfl (.inr (.inl rfl)) rfl rfl) jH (fun _ _=>rfl)) jD rfl) rfl) (qH (by kernel_rfl)) (by decide) (fun _ _ _ _ _=>(jOO rfl (zR (zJ (pg_name jVL.nd rfl (.inl rfl) (.inr rfl))) (zR (zJ (pg_name jVL.nd rfl (.inl rfl) (.inr rfl))) jDY rfl) rfl) rfl rfl)) (fun _ _ _ _ _=>uQ) (fun _ _ _ _ _=>(vD (jA (jB (i:=4) rfl (.inl rfl) rfl rfl) (jA (jB (i:=3) rfl (.inl rfl) rfl rfl) jD rfl) rfl))) (fun _=>rfl))) jD rfl) (by decide) rfl rfl rfl) rfl (.inl rfl))
 (jN (jV (SimN.sh (qW (own:=[("_law_key_here", 4),("_law_row", 3)]) hK rfl jVL.nd (qI hK (jB (i:=2) rfl (.inl rfl) rfl rfl)) (qH (by kernel_rfl)) (by decide) (fun _ _ _ _ _=>(jOO rfl (zR (zJ (pg_name jVL.nd rfl (.inl rfl) (.inr rfl))) (zR (zJ (pg_name jVL.nd rfl (.inl rfl) (.inr rfl))) jDY rfl) rfl) rfl rfl)) (fun _ _ _ _ _=>(jET (vU (wW (uC hK (jB (i:=1) rfl (.inr (.inl rfl)) rfl rfl) (fun _=>rfl)) (qX (uC hK (yE hK (yE hK (jB (i:=0) rfl (.inr (.inl rfl)) rfl rfl) jH (fun _ _=>rfl)) (jB (i:=3) rfl (.inl rfl) rfl rfl) (fun _ _=>rfl)) (fun _=>rfl))))))) (fun _ _ _ _ _=>(jB (i:=3) rfl (.inl rfl) rfl rfl)) (fun _=>rfl))))))
abbrev zL:Stmt:=(top 36)
def jGG:List Str:=["_law_spec", "_law_rows", "_law_row"]
theorem jRU:FnScope jGG ["_law_spec", "_law_rows"] (defScope zL):=⟨rfl,rfl,rfl,by decide +kernel,rfl,by decide +kernel,by decide +kernel⟩
noncomputable def jGI:MS:=(vO (jDU (jE (jG 0) (jE (jWJ (jRR jO)) (jE (jWJ (jRR jO)) (jE (jWJ (jRR (jE (jAU (jE (shN (zG (jKK (jE (jG 1) jO)) (.n 2) uR (jAU (jE (jG 2) jO)) [2])) (jE (jM jDT (jDU (jE (eC (.bl true)) jO)) (jG 1)) jO))) jO))) jO))))))
noncomputable def jKO:MS:=(yX (jCZ (jC (jF 0) (jC (jPR (jKI jK)) (jC (jPR (jKI jK)) (jC (jPR (jKI (jC (zU (jC (jCY (vI (jFB (jC (jF 1) jK)) (.n 2) uR (zU (jC (jF 2) jK)) [2])) (jC (jJ jDT (jCZ (jC (xEC (.bl true)) jK)) (jF 1)) jK))) jK))) jK))))))
theorem jRT:jGI=jKO:=by kernel_rfl
@[irreducible] noncomputable def qJ:MF:=mkF 1 jGI
theorem jWA {P:Program} {w:World} {K:PySem.W.Frag} {mg:Str→Option Value} {base:Heap} {B:Bs} {f:Addr} {cdv:Value} {A:Around} {outer:List Env} {s:Shared} {H:Hp} {E:XK} {k:Nat} {N:Ent} (hK:K=B.K) (hw:w=B.w) (g:Gm mg)
  (D:Bdy (cxOf (L2.CX P w) P w K mg base jGG "_law_model" (defScope zL) f cdv A outer s H E) E k)   :
  SimSs (cxOf (L2.CX P w) P w K mg base jGG "_law_model" (defScope zL) f cdv A outer s H E) B N (fun c d _ H=>E c d H) (defBody zL) (jGI) :=
 (jN (jV (zP (jA (jB (i:=0) rfl (.inl rfl) rfl rfl) (jA (jLY (jFG jD)) (jA (jLY (jFG jD)) (jA (jLY (jFG (jA (vD (jA (SimN.sh (qW (own:=[("_law_row", 2)]) hK rfl jRU.nd (jDW rfl g.n_range (jA (jB (i:=1) rfl (.inl rfl) rfl rfl) jD rfl) rfl) (qH (by kernel_rfl)) (by decide) (fun _ _ _ _ _=>(zJ (pg_name jRU.nd rfl (.inl rfl) (.inr rfl)))) (fun _ _ _ _ _=>uQ) (fun _ _ _ _ _=>(vD (jA (jB (i:=2) rfl (.inl rfl) rfl rfl) jD rfl))) (fun _=>rfl))) (jA (jHB hK (zP (jA jEE jD rfl)) (jB (i:=1) rfl (.inl rfl) rfl rfl)) jD rfl) rfl)) jD rfl))) jD rfl) rfl) rfl) rfl))))
abbrev wH:Stmt:=(top 37)
def jHS:List Str:=["_law_model_here", "_law_found", "_law_keys_here", "_law_shown", "_law_deed_z", "_law_sight", "_law_key_here"]
theorem jVJ:FnScope jHS ["_law_model_here"] (defScope wH):=⟨rfl,rfl,rfl,by decide +kernel,rfl,by decide +kernel,by decide +kernel⟩
noncomputable def jIE:MS:=(yN (jON 1 (jRR jO))
 (yN (jTE (jFM (jM fIx (jG 0) (eC (.int 3)))) (.t [(.n 2),(.n 3)]) (jON 1 (yHT (jG 1) (shN (zG (jFM (jG 2)) (.n 6) (bM (jM jOZ (jG 6) (jG 1))) (jG 6) [6])))))
 (yN (jTE (jFM (jM fIx (jG 0) (eC (.int 1)))) (.t [(.n 4),(.n 5)]) (sIf (bM (jM fEq (jM fIx (jG 4) (eC (.int 0))) (eC (.str "drop")))) (jLS 1 (jM fIx (jG 4) (eC (.int 4)))) (sIf (bM (jM fEq (jM fIx (jG 4) (eC (.int 0))) (eC (.str "number")))) (jON 1 (yHT (jG 1) (eCB jPV (jE (jM fIx (jG 4) (eC (.int 3))) jO)))) wY)))
 (jWO 1))))
noncomputable def jMQ:MS:=(yG (jKR 1 (jKI jK))
 (yG (jII (jAZ (jJ fIx (jF 0) (xEC (.int 3)))) (.t [(.n 2),(.n 3)]) (jKR 1 (yCN (jF 1) (jCY (vI (jAZ (jF 2)) (.n 6) (xBM (jJ jOZ (jF 6) (jF 1))) (jF 6) [6])))))
 (yG (jII (jAZ (jJ fIx (jF 0) (xEC (.int 1)))) (.t [(.n 4),(.n 5)]) (jAK (xBM (jJ fEq (jJ fIx (jF 4) (xEC (.int 0))) (xEC (.str "drop")))) (jLS 1 (jJ fIx (jF 4) (xEC (.int 4)))) (jAK (xBM (jJ fEq (jJ fIx (jF 4) (xEC (.int 0))) (xEC (.str "number")))) (jKR 1 (yCN (jF 1) (xECB jPV (jC (jJ fIx (jF 4) (xEC (.int 3))) jK)))) zH)))
 (yAB 1))))
theorem jUY:jIE=jMQ:=by kernel_rfl
@[irreducible] noncomputable def jAA:MF:=mkF 6 jIE
theorem jZS {P:Program} {w:World} {K:PySem.W.Frag} {mg:Str→Option Value} {base:Heap} {B:Bs} {f:Addr} {cdv:Value} {A:Around} {outer:List Env} {s:Shared} {H:Hp} {E:XK} {k:Nat} {N:Ent} (hK:K=B.K) (hw:w=B.w) (g:Gm mg)
  (D:Bdy (cxOf (L2.CX P w) P w K mg base jHS "_law_used" (defScope wH) f cdv A outer s H E) E k)   :
  SimSs (cxOf (L2.CX P w) P w K mg base jHS "_law_used" (defScope wH) f cdv A outer s H E) B N (fun c d _ H=>E c d H) (defBody wH) (jIE) :=
 (jL (jJT jVJ.nd rfl (.inr rfl) (jFG jD) rfl (.inl rfl))
 (jL (jGO D.pa hK rfl (qI hK (yE hK (jB (i:=0) rfl (.inl rfl) rfl rfl) jH (fun _ _=>rfl))) (jOO rfl (zR (zJ (pg_name jVJ.nd rfl (.inl rfl) (.inl rfl))) (zR (zJ (pg_name jVJ.nd rfl (.inl rfl) (.inl rfl))) jDY rfl) rfl) rfl rfl) (fun _=>(jN (jJT jVJ.nd rfl (.inr rfl) (jXM (jB (i:=1) rfl (.inr (.inl rfl)) rfl rfl) (SimN.sh (qW (own:=[("_law_key_here", 6)]) hK rfl jVJ.nd (qI hK (jB (i:=2) rfl (.inl rfl) rfl rfl)) (qH (by kernel_rfl)) (by decide) (fun _ _ _ _ _=>(zJ (pg_name jVJ.nd rfl (.inl rfl) (.inr rfl)))) (fun _ _ _ _ _=>(jET (jY (yAZ hK D.rm.u9) (jB (i:=6) rfl (.inl rfl) rfl rfl) (jB (i:=1) rfl (.inr (.inl rfl)) rfl rfl) rfl))) (fun _ _ _ _ _=>(jB (i:=6) rfl (.inl rfl) rfl rfl)) (fun _=>rfl)))) rfl (.inl rfl)))) (fun _=>rfl))
 (jL (jGO D.pa hK rfl (qI hK (yE hK (jB (i:=0) rfl (.inl rfl) rfl rfl) jH (fun _ _=>rfl))) (jOO rfl (zR (zJ (pg_name jVJ.nd rfl (.inl rfl) (.inl rfl))) (zR (zJ (pg_name jVJ.nd rfl (.inl rfl) (.inl rfl))) jDY rfl) rfl) rfl rfl) (fun _=>(jN (yQ (jY (wR hK D.rm.u9) (yE hK (jB (i:=4) rfl (.inl rfl) rfl rfl) jH (fun _ _=>rfl)) (jR (jW (by decide +kernel))) rfl) (jN (jSO rfl (.inr (.inl rfl)) rfl rfl (yE hK (jB (i:=4) rfl (.inl rfl) rfl rfl) jH (fun _ _=>rfl)) rfl rfl rfl rfl rfl rfl)) (jN (yQ (jY (wR hK D.rm.u9) (yE hK (jB (i:=4) rfl (.inl rfl) rfl rfl) jH (fun _ _=>rfl)) (jR (jW (by decide +kernel))) rfl) (jN (jJT jVJ.nd rfl (.inr rfl) (jXM (jB (i:=1) rfl (.inr (.inl rfl)) rfl rfl) (yH (yEZ hK) rfl g.n_list (jA (yE hK (jB (i:=4) rfl (.inl rfl) rfl rfl) jH (fun _ _=>rfl)) jD rfl) (by decide) rfl rfl rfl)) rfl (.inl rfl))) yI))))) (fun _=>rfl))
 (jN (yFV (i:=1) rfl (.inr (.inl rfl)) rfl rfl)))))
abbrev uH:Stmt:=(top 38)
def jEH:List Str:=["_law_low", "_law_high", "_law_many", "_law_shift", "_law_k"]
theorem jPB:FnScope jEH ["_law_low", "_law_high", "_law_many", "_law_shift"] (defScope uH):=⟨rfl,rfl,rfl,by decide +kernel,rfl,by decide +kernel,by decide +kernel⟩
noncomputable def jEI:MS:=(yN (sIf (bM (jM jAL (jG 1) (eC .non))) (vO (shN (zG (jKK (jE (jG 2) jO)) (.n 4) uR (jAU (jE (jM yO (jM yO (ifM (bM (jM jAL (jG 0) (eC .non))) (eC (.int 0)) (jM yO (jM fIx (jG 0) (eC (.int 0))) (eC (.int 1)))) (jG 3)) (jG 4)) jO)) [4]))) wY)
 (yN (sIf (bM (jM jAL (jG 0) (eC .non))) (vO (shN (zG (jKK (jE (jG 2) jO)) (.n 4) uR (jAU (jE (jM yO (jM jEX (jM jEX (jM fIx (jG 1) (eC (.int 0))) (jG 2)) (jG 3)) (jG 4)) jO)) [4]))) wY)
 (yN (sIf (bM (jM fEq (eSl (jG 1) jDJ (jCG (eCB vP (jE (jG 0) jO)))) (jG 0))) (vO (shN (zG (jKK (jE (jG 2) jO)) (.n 4) uR (jM yO (jG 0) (jAU (jE (jM yO (jM jEX (jM jEX (jM fIx (jG 1) (eCB vP (jE (jG 0) jO))) (jG 2)) (jG 3)) (jG 4)) jO))) [4]))) wY)
 (vO (shN (zG (jKK (jE (jG 2) jO)) (.n 4) uR (jM yO (jG 0) (jAU (jE (jM yO (jG 3) (jG 4)) jO))) [4]))))))
noncomputable def jIL:MS:=(yG (jAK (xBM (jJ jAL (jF 1) (xEC .non))) (yX (jCY (vI (jFB (jC (jF 2) jK)) (.n 4) uR (zU (jC (jJ yO (jJ yO (jEC (xBM (jJ jAL (jF 0) (xEC .non))) (xEC (.int 0)) (jJ yO (jJ fIx (jF 0) (xEC (.int 0))) (xEC (.int 1)))) (jF 3)) (jF 4)) jK)) [4]))) zH)
 (yG (jAK (xBM (jJ jAL (jF 0) (xEC .non))) (yX (jCY (vI (jFB (jC (jF 2) jK)) (.n 4) uR (zU (jC (jJ yO (jJ jEX (jJ jEX (jJ fIx (jF 1) (xEC (.int 0))) (jF 2)) (jF 3)) (jF 4)) jK)) [4]))) zH)
 (yG (jAK (xBM (jJ fEq (jGE (jF 1) jBE (kZ (xECB vP (jC (jF 0) jK)))) (jF 0))) (yX (jCY (vI (jFB (jC (jF 2) jK)) (.n 4) uR (jJ yO (jF 0) (zU (jC (jJ yO (jJ jEX (jJ jEX (jJ fIx (jF 1) (xECB vP (jC (jF 0) jK))) (jF 2)) (jF 3)) (jF 4)) jK))) [4]))) zH)
 (yX (jCY (vI (jFB (jC (jF 2) jK)) (.n 4) uR (jJ yO (jF 0) (zU (jC (jJ yO (jF 3) (jF 4)) jK))) [4]))))))
theorem jPA:jEI=jIL:=by kernel_rfl
@[irreducible] noncomputable def uG:MF:=mkF 1 jEI
theorem jRO {P:Program} {w:World} {K:PySem.W.Frag} {mg:Str→Option Value} {base:Heap} {B:Bs} {f:Addr} {cdv:Value} {A:Around} {outer:List Env} {s:Shared} {H:Hp} {E:XK} {k:Nat} {N:Ent} (hK:K=B.K) (hw:w=B.w) (g:Gm mg)
  (D:Bdy (cxOf (L2.CX P w) P w K mg base jEH "_law_shifted" (defScope uH) f cdv A outer s H E) E k)   :
  SimSs (cxOf (L2.CX P w) P w K mg base jEH "_law_shifted" (defScope uH) f cdv A outer s H E) B N (fun c d _ H=>E c d H) (defBody uH) (jEI) :=
 (jL (yQ (jY (jCO) (jB (i:=1) rfl (.inr (.inl rfl)) rfl rfl) vA rfl) (jN (jV (SimN.sh (qW (own:=[("_law_k", 4)]) hK rfl jPB.nd (jDW rfl g.n_range (jA (jB (i:=2) rfl (.inr (.inl rfl)) rfl rfl) jD rfl) rfl) (qH (by kernel_rfl)) (by decide) (fun _ _ _ _ _=>(zJ (pg_name jPB.nd rfl (.inl rfl) (.inr rfl)))) (fun _ _ _ _ _=>uQ) (fun _ _ _ _ _=>(vD (jA (yR hK (yR hK (vJ (jY (jCO) (jB (i:=0) rfl (.inr (.inl rfl)) rfl rfl) vA rfl) jH (yR hK (yE hK (jB (i:=0) rfl (.inr (.inl rfl)) rfl rfl) jH (fun _ _=>rfl)) jH)) (jB (i:=3) rfl (.inr (.inl rfl)) rfl rfl)) (jB (i:=4) rfl (.inl rfl) rfl rfl)) jD rfl))) (fun _=>rfl))))) yI)
 (jL (yQ (jY (jCO) (jB (i:=0) rfl (.inr (.inl rfl)) rfl rfl) vA rfl) (jN (jV (SimN.sh (qW (own:=[("_law_k", 4)]) hK rfl jPB.nd (jDW rfl g.n_range (jA (jB (i:=2) rfl (.inr (.inl rfl)) rfl rfl) jD rfl) rfl) (qH (by kernel_rfl)) (by decide) (fun _ _ _ _ _=>(zJ (pg_name jPB.nd rfl (.inl rfl) (.inr rfl)))) (fun _ _ _ _ _=>uQ) (fun _ _ _ _ _=>(vD (jA (yR hK (jDQ (jDQ (yE hK (jB (i:=1) rfl (.inr (.inl rfl)) rfl rfl) jH (fun _ _=>rfl)) (jB (i:=2) rfl (.inr (.inl rfl)) rfl rfl)) (jB (i:=3) rfl (.inr (.inl rfl)) rfl rfl)) (jB (i:=4) rfl (.inl rfl) rfl rfl)) jD rfl))) (fun _=>rfl))))) yI)
 (jL (yQ (jY (wR hK D.rm.u9) (jBS hK (jB (i:=1) rfl (.inr (.inl rfl)) rfl rfl) zX (uJ (yH (bi_len hK) rfl g.n_len (jA (jB (i:=0) rfl (.inr (.inl rfl)) rfl rfl) jD rfl) (by decide) rfl rfl rfl))) (jB (i:=0) rfl (.inr (.inl rfl)) rfl rfl) rfl) (jN (jV (SimN.sh (qW (own:=[("_law_k", 4)]) hK rfl jPB.nd (jDW rfl g.n_range (jA (jB (i:=2) rfl (.inr (.inl rfl)) rfl rfl) jD rfl) rfl) (qH (by kernel_rfl)) (by decide) (fun _ _ _ _ _=>(zJ (pg_name jPB.nd rfl (.inl rfl) (.inr rfl)))) (fun _ _ _ _ _=>uQ) (fun _ _ _ _ _=>(yR hK (jB (i:=0) rfl (.inr (.inl rfl)) rfl rfl) (vD (jA (yR hK (jDQ (jDQ (yE hK (jB (i:=1) rfl (.inr (.inl rfl)) rfl rfl) (yH (bi_len hK) rfl g.n_len (jA (jB (i:=0) rfl (.inr (.inl rfl)) rfl rfl) jD rfl) (by decide) rfl rfl rfl) (fun _ _=>rfl)) (jB (i:=2) rfl (.inr (.inl rfl)) rfl rfl)) (jB (i:=3) rfl (.inr (.inl rfl)) rfl rfl)) (jB (i:=4) rfl (.inl rfl) rfl rfl)) jD rfl)))) (fun _=>rfl))))) yI)
 (jN (jV (SimN.sh (qW (own:=[("_law_k", 4)]) hK rfl jPB.nd (jDW rfl g.n_range (jA (jB (i:=2) rfl (.inr (.inl rfl)) rfl rfl) jD rfl) rfl) (qH (by kernel_rfl)) (by decide) (fun _ _ _ _ _=>(zJ (pg_name jPB.nd rfl (.inl rfl) (.inr rfl)))) (fun _ _ _ _ _=>uQ) (fun _ _ _ _ _=>(yR hK (jB (i:=0) rfl (.inr (.inl rfl)) rfl rfl) (vD (jA (yR hK (jB (i:=3) rfl (.inr (.inl rfl)) rfl rfl) (jB (i:=4) rfl (.inl rfl) rfl rfl)) jD rfl)))) (fun _=>rfl))))))))
abbrev wL:Stmt:=(top 39)
def jHW:List Str:=["_law_bag", "_law_model_here", "_law_low", "_law_high", "_law_many", "_law_used_here", "_law_shift", "_law_found", "_law_key_here"]
theorem jVM:FnScope jHW ["_law_bag", "_law_model_here", "_law_low", "_law_high", "_law_many"] (defScope wL):=⟨rfl,rfl,rfl,by decide +kernel,rfl,by decide +kernel,by decide +kernel⟩
noncomputable def jIH:MS:=(yN (jWP (.t [(.n 5),(.n 6)]) (jAU (jE (yL 1 jAA (jE (jG 1) jO)) (jE (yL 2 jZ (jE (jG 0) (jE (eC (.int 3)) jO))) jO))))
 (yN (wZ 7 (yL 4 uG (jE (jG 2) (jE (jG 3) (jE (jG 4) (jE (jG 6) jO))))))
 (yN (jGL (bM (jM fNe (shN (zG (jFM (jG 7)) (.n 8) (bM (jM fIn (jG 8) (jG 5))) (jG 8) [8])) (jDU jO))) (yN (wZ 6 (jM yO (jG 6) (eC (.int 1))))
 (wZ 7 (yL 4 uG (jE (jG 2) (jE (jG 3) (jE (jG 4) (jE (jG 6) jO))))))) 1000)
 (vO (jG 7)))))
noncomputable def jMT:MS:=(yG (jTH (.t [(.n 5),(.n 6)]) (zU (jC (yD 1 jAA (jC (jF 1) jK)) (jC (yD 2 jZ (jC (jF 0) (jC (xEC (.int 3)) jK))) jK))))
 (yG (uA 7 (yD 4 uG (jC (jF 2) (jC (jF 3) (jC (jF 4) (jC (jF 6) jK))))))
 (yG (jGL (xBM (jJ fNe (jCY (vI (jAZ (jF 7)) (.n 8) (xBM (jJ fIn (jF 8) (jF 5))) (jF 8) [8])) (jCZ jK))) (yG (uA 6 (jJ yO (jF 6) (xEC (.int 1))))
 (uA 7 (yD 4 uG (jC (jF 2) (jC (jF 3) (jC (jF 4) (jC (jF 6) jK))))))) 1000)
 (yX (jF 7)))))
theorem jVB:jIH=jMT:=by kernel_rfl
@[irreducible] noncomputable def zA:MF:=mkF 4 jIH
theorem jZW {P:Program} {w:World} {K:PySem.W.Frag} {mg:Str→Option Value} {base:Heap} {B:Bs} {f:Addr} {cdv:Value} {A:Around} {outer:List Env} {s:Shared} {H:Hp} {E:XK} {k:Nat} {N:Ent} (hK:K=B.K) (hw:w=B.w) (g:Gm mg)
  (D:Bdy (cxOf (L2.CX P w) P w K mg base jHW "_law_keys" (defScope wL) f cdv A outer s H E) E k)  (F__law_draw:Fn P w K mg base B k "_law_draw" 2 jZ) (F__law_used:Fn P w K mg base B k "_law_used" 1 jAA) (F__law_shifted:Fn P w K mg base B k "_law_shifted" 4 uG) :
  SimSs (cxOf (L2.CX P w) P w K mg base jHW "_law_keys" (defScope wL) f cdv A outer s H E) B N (fun c d _ H=>E c d H) (defBody wL) (jIH) :=
 (jL (jSN hK (vD (jA (jT F__law_used D.tk D.rm rfl (jA (jB (i:=1) rfl (.inl rfl) rfl rfl) jD rfl) rfl rfl rfl) (jA (jT F__law_draw D.tk D.rm rfl (jA (jB (i:=0) rfl (.inl rfl) rfl rfl) (jA jH jD rfl) rfl) rfl rfl rfl) jD rfl) rfl)) (jOO rfl (zR (zJ (pg_name jVM.nd rfl (.inr rfl) (.inl rfl))) (zR (zJ (pg_name jVM.nd rfl (.inl rfl) (.inl rfl))) jDY rfl) rfl) rfl rfl) rfl rfl rfl)
 (jL (yM jVM.nd rfl (.inl rfl) (jT F__law_shifted D.tk D.rm rfl (jA (jB (i:=2) rfl (.inl rfl) rfl rfl) (jA (jB (i:=3) rfl (.inl rfl) rfl rfl) (jA (jB (i:=4) rfl (.inl rfl) rfl rfl) (jA (jB (i:=6) rfl (.inl rfl) rfl rfl) jD rfl) rfl) rfl) rfl) rfl rfl rfl) rfl (.inl rfl))
 (jL (yBJ 1000 D.pa (jY (jFO hK D.rm.u9) (SimN.sh (qW (own:=[("_law_key_here", 8)]) hK rfl jVM.nd (qI hK (jB (i:=7) rfl (.inl rfl) rfl rfl)) (qH (by kernel_rfl)) (by decide) (fun _ _ _ _ _=>(zJ (pg_name jVM.nd rfl (.inl rfl) (.inr rfl)))) (fun _ _ _ _ _=>(jET (jY (jKL hK D.rm.u9) (jB (i:=8) rfl (.inl rfl) rfl rfl) (jB (i:=5) rfl (.inr (.inl rfl)) rfl rfl) rfl))) (fun _ _ _ _ _=>(jB (i:=8) rfl (.inl rfl) rfl rfl)) (fun _=>rfl))) (zP jD) rfl) (jL (yM jVM.nd rfl (.inl rfl) (yR hK (jB (i:=6) rfl (.inl rfl) rfl rfl) jH) rfl (.inl rfl))
 (jN (yM jVM.nd rfl (.inl rfl) (jT F__law_shifted D.tk D.rm rfl (jA (jB (i:=2) rfl (.inl rfl) rfl rfl) (jA (jB (i:=3) rfl (.inl rfl) rfl rfl) (jA (jB (i:=4) rfl (.inl rfl) rfl rfl) (jA (jB (i:=6) rfl (.inl rfl) rfl rfl) jD rfl) rfl) rfl) rfl) rfl rfl rfl) rfl (.inl rfl)))))
 (jN (jV (jB (i:=7) rfl (.inl rfl) rfl rfl))))))
abbrev qM:Stmt:=(top 40)
def jJD:List Str:=["_law_moment", "_law_side"]
theorem jZG:FnScope jJD ["_law_moment", "_law_side"] (defScope qM):=⟨rfl,rfl,rfl,by decide +kernel,rfl,by decide +kernel,by decide +kernel⟩
noncomputable def jJF:MS:=(vO (ifM (bM (jM jAL (jG 1) (eC .non))) (eC .non) (jM fIx (jM fIx (jG 0) (eC (.int 0))) (jG 1))))
noncomputable def jOU:MS:=(yX (jEC (xBM (jJ jAL (jF 1) (xEC .non))) (xEC .non) (jJ fIx (jJ fIx (jF 0) (xEC (.int 0))) (jF 1))))
theorem jZB:jJF=jOU:=by kernel_rfl
@[irreducible] noncomputable def uD:MF:=mkF 0 jJF
theorem yCL {P:Program} {w:World} {K:PySem.W.Frag} {mg:Str→Option Value} {base:Heap} {B:Bs} {f:Addr} {cdv:Value} {A:Around} {outer:List Env} {s:Shared} {H:Hp} {E:XK} {k:Nat} {N:Ent} (hK:K=B.K) (hw:w=B.w) (g:Gm mg)
  (D:Bdy (cxOf (L2.CX P w) P w K mg base jJD "_law_key" (defScope qM) f cdv A outer s H E) E k)   :
  SimSs (cxOf (L2.CX P w) P w K mg base jJD "_law_key" (defScope qM) f cdv A outer s H E) B N (fun c d _ H=>E c d H) (defBody qM) (jJF) :=
 (jN (jV (vJ (jY (jCO) (jB (i:=1) rfl (.inl rfl) rfl rfl) vA rfl) vA (yE hK (yE hK (jB (i:=0) rfl (.inl rfl) rfl rfl) jH (fun _ _=>rfl)) (jB (i:=1) rfl (.inl rfl) rfl rfl) (fun _ _=>rfl)))))
abbrev uV:Stmt:=(top 41)
def jFI:List Str:=["_law_line_here", "_law_left", "_law_right", "_law_first"]
theorem jRI:FnScope jFI ["_law_line_here", "_law_left", "_law_right"] (defScope uV):=⟨rfl,rfl,rfl,by decide +kernel,rfl,by decide +kernel,by decide +kernel⟩
noncomputable def jFJ:MS:=(yN (wZ 3 (ifM (bM (jM jAL (jG 1) (eC .non))) (eC (.int 0)) (jM yO (yHW (jG 0) (jE (jG 1) jO)) (eC (.int 1)))))
 (vO (eSl (jG 0) (jCG (jG 3)) (jCG (ifM (bM (jM jAL (jG 2) (eC .non))) (eCB vP (jE (jG 0) jO)) (yHW (jG 0) (jE (jG 2) jO)))))))
noncomputable def jJJ:MS:=(yG (uA 3 (jEC (xBM (jJ jAL (jF 1) (xEC .non))) (xEC (.int 0)) (jJ yO (yCO (jF 0) (jC (jF 1) jK)) (xEC (.int 1)))))
 (yX (jGE (jF 0) (kZ (jF 3)) (kZ (jEC (xBM (jJ jAL (jF 2) (xEC .non))) (xECB vP (jC (jF 0) jK)) (yCO (jF 0) (jC (jF 2) jK)))))))
theorem jRH:jFJ=jJJ:=by kernel_rfl
@[irreducible] noncomputable def wN:MF:=mkF 1 jFJ
theorem jRY {P:Program} {w:World} {K:PySem.W.Frag} {mg:Str→Option Value} {base:Heap} {B:Bs} {f:Addr} {cdv:Value} {A:Around} {outer:List Env} {s:Shared} {H:Hp} {E:XK} {k:Nat} {N:Ent} (hK:K=B.K) (hw:w=B.w) (g:Gm mg)
  (D:Bdy (cxOf (L2.CX P w) P w K mg base jFI "_law_listed" (defScope uV) f cdv A outer s H E) E k)   :
  SimSs (cxOf (L2.CX P w) P w K mg base jFI "_law_listed" (defScope uV) f cdv A outer s H E) B N (fun c d _ H=>E c d H) (defBody uV) (jFJ) :=
 (jL (yM jRI.nd rfl (.inl rfl) (vJ (jY (jCO) (jB (i:=1) rfl (.inl rfl) rfl rfl) vA rfl) jH (yR hK (yDN hK D.rm.u9 (jB (i:=0) rfl (.inl rfl) rfl rfl) (jA (jB (i:=1) rfl (.inl rfl) rfl rfl) jD rfl) rfl rfl rfl rfl rfl) jH)) rfl (.inl rfl))
 (jN (jV (jBS hK (jB (i:=0) rfl (.inl rfl) rfl rfl) (uJ (jB (i:=3) rfl (.inl rfl) rfl rfl)) (uJ (vJ (jY (jCO) (jB (i:=2) rfl (.inl rfl) rfl rfl) vA rfl) (yH (bi_len hK) rfl g.n_len (jA (jB (i:=0) rfl (.inl rfl) rfl rfl) jD rfl) (by decide) rfl rfl rfl) (yDN hK D.rm.u9 (jB (i:=0) rfl (.inl rfl) rfl rfl) (jA (jB (i:=2) rfl (.inl rfl) rfl rfl) jD rfl) rfl rfl rfl rfl rfl)))))))
abbrev vH:Stmt:=(top 42)
def jCQ:List Str:=["_law_bag", "_law_model_here", "_law_moment", "_law_line_here", "_law_row", "_law_rest", "_law_at", "_law_left", "_law_right", "_law_key_here", "_law_one"]
theorem jLL:FnScope jCQ ["_law_bag", "_law_model_here", "_law_moment"] (defScope vH):=⟨rfl,rfl,rfl,by decide +kernel,rfl,by decide +kernel,by decide +kernel⟩
noncomputable def jCS:MS:=(yN (wZ 3 (yL 2 uZ (jE (jG 2) (jE (eC (.bl false)) jO))))
 (yN (wZ 4 (yL 2 vB (jE (jG 0) (jE (jG 3) jO))))
 (yN (wZ 5 (shN (zG (jFM (jG 3)) (.n 10) (bM (jM fNe (jG 10) (jG 4))) (jG 10) [10])))
 (yN (wZ 6 (yL 2 jZ (jE (jG 0) (jE (jM yO (eCB vP (jE (jG 5) jO)) (eC (.int 1))) jO))))
 (yN (wZ 7 (ifM (bM (jM fGt (jG 6) (eC (.int 0)))) (jM fIx (jG 5) (jM jEX (jG 6) (eC (.int 1)))) (eC .non)))
 (yN (wZ 8 (ifM (bM (jM fLt (jG 6) (eCB vP (jE (jG 5) jO)))) (jM fIx (jG 5) (jG 6)) (eC .non)))
 (yN (wZ 9 (jM fIx (yL 5 zA (jE (jG 0) (jE (jG 1) (jE (yL 2 uD (jE (jG 2) (jE (jG 7) jO))) (jE (yL 2 uD (jE (jG 2) (jE (jG 8) jO))) (jE (eC (.int 1)) jO)))))) (eC (.int 0))))
 (vO (jAU (jE (eC (.str "drop")) (jE (jG 4) (jE (jG 7) (jE (jG 8) (jE (jG 9) jO))))))))))))))
noncomputable def jFL:MS:=(yG (uA 3 (yD 2 uZ (jC (jF 2) (jC (xEC (.bl false)) jK))))
 (yG (uA 4 (yD 2 vB (jC (jF 0) (jC (jF 3) jK))))
 (yG (uA 5 (jCY (vI (jAZ (jF 3)) (.n 10) (xBM (jJ fNe (jF 10) (jF 4))) (jF 10) [10])))
 (yG (uA 6 (yD 2 jZ (jC (jF 0) (jC (jJ yO (xECB vP (jC (jF 5) jK)) (xEC (.int 1))) jK))))
 (yG (uA 7 (jEC (xBM (jJ fGt (jF 6) (xEC (.int 0)))) (jJ fIx (jF 5) (jJ jEX (jF 6) (xEC (.int 1)))) (xEC .non)))
 (yG (uA 8 (jEC (xBM (jJ fLt (jF 6) (xECB vP (jC (jF 5) jK)))) (jJ fIx (jF 5) (jF 6)) (xEC .non)))
 (yG (uA 9 (jJ fIx (yD 5 zA (jC (jF 0) (jC (jF 1) (jC (yD 2 uD (jC (jF 2) (jC (jF 7) jK))) (jC (yD 2 uD (jC (jF 2) (jC (jF 8) jK))) (jC (xEC (.int 1)) jK)))))) (xEC (.int 0))))
 (yX (zU (jC (xEC (.str "drop")) (jC (jF 4) (jC (jF 7) (jC (jF 8) (jC (jF 9) jK))))))))))))))
theorem jLJ:jCS=jFL:=by kernel_rfl
@[irreducible] noncomputable def vZ:MF:=mkF 8 jCS
theorem jNG {P:Program} {w:World} {K:PySem.W.Frag} {mg:Str→Option Value} {base:Heap} {B:Bs} {f:Addr} {cdv:Value} {A:Around} {outer:List Env} {s:Shared} {H:Hp} {E:XK} {k:Nat} {N:Ent} (hK:K=B.K) (hw:w=B.w) (g:Gm mg)
  (D:Bdy (cxOf (L2.CX P w) P w K mg base jCQ "_law_drawn_drop" (defScope vH) f cdv A outer s H E) E k)  (F__law_line:Fn P w K mg base B k "_law_line" 2 uZ) (F__law_of:Fn P w K mg base B k "_law_of" 2 vB) (F__law_draw:Fn P w K mg base B k "_law_draw" 2 jZ) (F__law_keys:Fn P w K mg base B k "_law_keys" 5 zA) (F__law_key:Fn P w K mg base B k "_law_key" 2 uD) :
  SimSs (cxOf (L2.CX P w) P w K mg base jCQ "_law_drawn_drop" (defScope vH) f cdv A outer s H E) B N (fun c d _ H=>E c d H) (defBody vH) (jCS) :=
 (jL (yM jLL.nd rfl (.inl rfl) (jT F__law_line D.tk D.rm rfl (jA (jB (i:=2) rfl (.inl rfl) rfl rfl) (jA jEE jD rfl) rfl) rfl rfl rfl) rfl (.inl rfl))
 (jL (yM jLL.nd rfl (.inr rfl) (jT F__law_of D.tk D.rm rfl (jA (jB (i:=0) rfl (.inl rfl) rfl rfl) (jA (jB (i:=3) rfl (.inl rfl) rfl rfl) jD rfl) rfl) rfl rfl rfl) rfl (.inl rfl))
 (jL (jQV (own:=[("_law_one", 10)]) hK rfl jLL.nd rfl rfl rfl (qI hK (jB (i:=3) rfl (.inl rfl) rfl rfl)) (qH (by kernel_rfl)) (by decide) (fun _ _ _ _ _=>(zJ (pg_name jLL.nd rfl (.inl rfl) (.inr rfl)))) (fun _ _ _ _ _=>(jET (jY (jFO hK D.rm.u9) (jB (i:=10) rfl (.inl rfl) rfl rfl) (jB (i:=4) rfl (.inr (.inl rfl)) rfl rfl) rfl))) (fun _ _ _ _ _=>(jB (i:=10) rfl (.inl rfl) rfl rfl)) (fun _=>rfl))
 (jL (yM jLL.nd rfl (.inl rfl) (jT F__law_draw D.tk D.rm rfl (jA (jB (i:=0) rfl (.inl rfl) rfl rfl) (jA (yR hK (yH (bi_len hK) rfl g.n_len (jA (jB (i:=5) rfl (.inl rfl) rfl rfl) jD rfl) (by decide) rfl rfl rfl) jH) jD rfl) rfl) rfl rfl rfl) rfl (.inl rfl))
 (jL (yM jLL.nd rfl (.inl rfl) (vJ (jY (jKM) (jB (i:=6) rfl (.inl rfl) rfl rfl) jH rfl) (yE hK (jB (i:=5) rfl (.inl rfl) rfl rfl) (jDQ (jB (i:=6) rfl (.inl rfl) rfl rfl) jH) (fun _ _=>rfl)) vA) rfl (.inl rfl))
 (jL (yM jLL.nd rfl (.inl rfl) (vJ (jY (jWW hK D.rm.u9) (jB (i:=6) rfl (.inl rfl) rfl rfl) (yH (bi_len hK) rfl g.n_len (jA (jB (i:=5) rfl (.inl rfl) rfl rfl) jD rfl) (by decide) rfl rfl rfl) rfl) (yE hK (jB (i:=5) rfl (.inl rfl) rfl rfl) (jB (i:=6) rfl (.inl rfl) rfl rfl) (fun _ _=>rfl)) vA) rfl (.inl rfl))
 (jL (yM jLL.nd rfl (.inl rfl) (yE hK (jT F__law_keys D.tk D.rm rfl (jA (jB (i:=0) rfl (.inl rfl) rfl rfl) (jA (jB (i:=1) rfl (.inl rfl) rfl rfl) (jA (jT F__law_key D.tk D.rm rfl (jA (jB (i:=2) rfl (.inl rfl) rfl rfl) (jA (jB (i:=7) rfl (.inl rfl) rfl rfl) jD rfl) rfl) rfl rfl rfl) (jA (jT F__law_key D.tk D.rm rfl (jA (jB (i:=2) rfl (.inl rfl) rfl rfl) (jA (jB (i:=8) rfl (.inl rfl) rfl rfl) jD rfl) rfl) rfl rfl rfl) (jA jH jD rfl) rfl) rfl) rfl) rfl) rfl rfl rfl) jH (fun _ _=>rfl)) rfl (.inl rfl))
 (jN (jV (vD (jA (jR (jW (by decide +kernel))) (jA (jB (i:=4) rfl (.inr (.inl rfl)) rfl rfl) (jA (jB (i:=7) rfl (.inl rfl) rfl rfl) (jA (jB (i:=8) rfl (.inl rfl) rfl rfl) (jA (jB (i:=9) rfl (.inl rfl) rfl rfl) jD rfl) rfl) rfl) rfl) rfl)))))))))))
abbrev yZ:Stmt:=(top 43)
def jBZ:List Str:=["_law_bag", "_law_model_here", "_law_moment", "_law_line_here", "_law_left", "_law_right", "_law_at", "_law_spot", "_law_some", "_law_keys_here"]
theorem jJO:FnScope jBZ ["_law_bag", "_law_model_here", "_law_moment"] (defScope yZ):=⟨rfl,rfl,rfl,by decide +kernel,rfl,by decide +kernel,by decide +kernel⟩
noncomputable def jCA:MS:=(yN (wZ 3 (yL 2 uZ (jE (jG 2) (jE (jM fIx (jM fIx (jG 1) (eC (.int 0))) (eC (.int 3))) jO))))
 (yN (jWP (.t [(.n 4),(.n 5)]) (jAU (jE (eC .non) (jE (eC .non) jO))))
 (yN (sIf (andM (tM (jM fIx (jM fIx (jG 1) (eC (.int 0))) (eC (.int 2)))) (bM (jM fNe (jG 3) (jDU jO)))) (yN (wZ 6 (yL 2 jZ (jE (jG 0) (jE (jM yO (eCB vP (jE (jG 3) jO)) (eC (.int 1))) jO))))
 (yN (wZ 7 (jM yO (jG 6) (yL 2 jZ (jE (jG 0) (jE (jM jEX (jM yO (eCB vP (jE (jG 3) jO)) (eC (.int 1))) (jG 6)) jO)))))
 (yN (wZ 4 (ifM (bM (jM fGt (jG 6) (eC (.int 0)))) (jM fIx (jG 3) (jM jEX (jG 6) (eC (.int 1)))) (eC .non)))
 (wZ 5 (ifM (bM (jM fLt (jG 7) (eCB vP (jE (jG 3) jO)))) (jM fIx (jG 3) (jG 7)) (eC .non)))))) wY)
 (yN (wZ 8 (yL 3 wN (jE (jG 3) (jE (jG 4) (jE (jG 5) jO)))))
 (yN (wZ 9 (yL 5 zA (jE (jG 0) (jE (jG 1) (jE (yL 2 uD (jE (jG 2) (jE (jG 4) jO))) (jE (yL 2 uD (jE (jG 2) (jE (jG 5) jO))) (jE (eCB vP (jE (jG 8) jO)) jO)))))))
 (vO (jAU (jE (eC (.str "number")) (jE (jG 4) (jE (jG 5) (jE (eCB kJ (jE (jG 9) jO)) jO)))))))))))
noncomputable def jEB:MS:=(yG (uA 3 (yD 2 uZ (jC (jF 2) (jC (jJ fIx (jJ fIx (jF 1) (xEC (.int 0))) (xEC (.int 3))) jK))))
 (yG (jTH (.t [(.n 4),(.n 5)]) (zU (jC (xEC .non) (jC (xEC .non) jK))))
 (yG (jAK (jKJ (xTM (jJ fIx (jJ fIx (jF 1) (xEC (.int 0))) (xEC (.int 2)))) (xBM (jJ fNe (jF 3) (jCZ jK)))) (yG (uA 6 (yD 2 jZ (jC (jF 0) (jC (jJ yO (xECB vP (jC (jF 3) jK)) (xEC (.int 1))) jK))))
 (yG (uA 7 (jJ yO (jF 6) (yD 2 jZ (jC (jF 0) (jC (jJ jEX (jJ yO (xECB vP (jC (jF 3) jK)) (xEC (.int 1))) (jF 6)) jK)))))
 (yG (uA 4 (jEC (xBM (jJ fGt (jF 6) (xEC (.int 0)))) (jJ fIx (jF 3) (jJ jEX (jF 6) (xEC (.int 1)))) (xEC .non)))
 (uA 5 (jEC (xBM (jJ fLt (jF 7) (xECB vP (jC (jF 3) jK)))) (jJ fIx (jF 3) (jF 7)) (xEC .non)))))) zH)
 (yG (uA 8 (yD 3 wN (jC (jF 3) (jC (jF 4) (jC (jF 5) jK)))))
 (yG (uA 9 (yD 5 zA (jC (jF 0) (jC (jF 1) (jC (yD 2 uD (jC (jF 2) (jC (jF 4) jK))) (jC (yD 2 uD (jC (jF 2) (jC (jF 5) jK))) (jC (xECB vP (jC (jF 8) jK)) jK)))))))
 (yX (zU (jC (xEC (.str "number")) (jC (jF 4) (jC (jF 5) (jC (xECB kJ (jC (jF 9) jK)) jK)))))))))))
theorem jJN:jCA=jEB:=by kernel_rfl
@[irreducible] noncomputable def vK:MF:=mkF 7 jCA
theorem jKH {P:Program} {w:World} {K:PySem.W.Frag} {mg:Str→Option Value} {base:Heap} {B:Bs} {f:Addr} {cdv:Value} {A:Around} {outer:List Env} {s:Shared} {H:Hp} {E:XK} {k:Nat} {N:Ent} (hK:K=B.K) (hw:w=B.w) (g:Gm mg)
  (D:Bdy (cxOf (L2.CX P w) P w K mg base jBZ "_law_drawn_number" (defScope yZ) f cdv A outer s H E) E k)  (F__law_line:Fn P w K mg base B k "_law_line" 2 uZ) (F__law_draw:Fn P w K mg base B k "_law_draw" 2 jZ) (F__law_listed:Fn P w K mg base B k "_law_listed" 3 wN) (F__law_keys:Fn P w K mg base B k "_law_keys" 5 zA) (F__law_key:Fn P w K mg base B k "_law_key" 2 uD) :
  SimSs (cxOf (L2.CX P w) P w K mg base jBZ "_law_drawn_number" (defScope yZ) f cdv A outer s H E) B N (fun c d _ H=>E c d H) (defBody yZ) (jCA) :=
 (jL (yM jJO.nd rfl (.inl rfl) (jT F__law_line D.tk D.rm rfl (jA (jB (i:=2) rfl (.inl rfl) rfl rfl) (jA (yE hK (yE hK (jB (i:=1) rfl (.inl rfl) rfl rfl) jH (fun _ _=>rfl)) jH (fun _ _=>rfl)) jD rfl) rfl) rfl rfl rfl) rfl (.inl rfl))
 (jL (jSN hK (vD (jA vA (jA vA jD rfl) rfl)) (jOO rfl (zR (zJ (pg_name jJO.nd rfl (.inl rfl) (.inl rfl))) (zR (zJ (pg_name jJO.nd rfl (.inl rfl) (.inl rfl))) jDY rfl) rfl) rfl rfl) rfl rfl rfl)
 (jL (yQ (vU (jFF (uC hK (yE hK (yE hK (jB (i:=1) rfl (.inl rfl) rfl rfl) jH (fun _ _=>rfl)) jH (fun _ _=>rfl)) (fun _=>rfl)) (jDL (jY (jFO hK D.rm.u9) (jB (i:=3) rfl (.inl rfl) rfl rfl) (zP jD) rfl)))) (jL (yM jJO.nd rfl (.inl rfl) (jT F__law_draw D.tk D.rm rfl (jA (jB (i:=0) rfl (.inl rfl) rfl rfl) (jA (yR hK (yH (bi_len hK) rfl g.n_len (jA (jB (i:=3) rfl (.inl rfl) rfl rfl) jD rfl) (by decide) rfl rfl rfl) jH) jD rfl) rfl) rfl rfl rfl) rfl (.inl rfl))
 (jL (yM jJO.nd rfl (.inl rfl) (yR hK (jB (i:=6) rfl (.inl rfl) rfl rfl) (jT F__law_draw D.tk D.rm rfl (jA (jB (i:=0) rfl (.inl rfl) rfl rfl) (jA (jDQ (yR hK (yH (bi_len hK) rfl g.n_len (jA (jB (i:=3) rfl (.inl rfl) rfl rfl) jD rfl) (by decide) rfl rfl rfl) jH) (jB (i:=6) rfl (.inl rfl) rfl rfl)) jD rfl) rfl) rfl rfl rfl)) rfl (.inl rfl))
 (jL (yM jJO.nd rfl (.inl rfl) (vJ (jY (jKM) (jB (i:=6) rfl (.inl rfl) rfl rfl) jH rfl) (yE hK (jB (i:=3) rfl (.inl rfl) rfl rfl) (jDQ (jB (i:=6) rfl (.inl rfl) rfl rfl) jH) (fun _ _=>rfl)) vA) rfl (.inl rfl))
 (jN (yM jJO.nd rfl (.inl rfl) (vJ (jY (jWW hK D.rm.u9) (jB (i:=7) rfl (.inl rfl) rfl rfl) (yH (bi_len hK) rfl g.n_len (jA (jB (i:=3) rfl (.inl rfl) rfl rfl) jD rfl) (by decide) rfl rfl rfl) rfl) (yE hK (jB (i:=3) rfl (.inl rfl) rfl rfl) (jB (i:=7) rfl (.inl rfl) rfl rfl) (fun _ _=>rfl)) vA) rfl (.inl rfl)))))) yI)
 (jL (yM jJO.nd rfl (.inl rfl) (jT F__law_listed D.tk D.rm rfl (jA (jB (i:=3) rfl (.inl rfl) rfl rfl) (jA (jB (i:=4) rfl (.inl rfl) rfl rfl) (jA (jB (i:=5) rfl (.inl rfl) rfl rfl) jD rfl) rfl) rfl) rfl rfl rfl) rfl (.inl rfl))
 (jL (yM jJO.nd rfl (.inl rfl) (jT F__law_keys D.tk D.rm rfl (jA (jB (i:=0) rfl (.inl rfl) rfl rfl) (jA (jB (i:=1) rfl (.inl rfl) rfl rfl) (jA (jT F__law_key D.tk D.rm rfl (jA (jB (i:=2) rfl (.inl rfl) rfl rfl) (jA (jB (i:=4) rfl (.inl rfl) rfl rfl) jD rfl) rfl) rfl rfl rfl) (jA (jT F__law_key D.tk D.rm rfl (jA (jB (i:=2) rfl (.inl rfl) rfl rfl) (jA (jB (i:=5) rfl (.inl rfl) rfl rfl) jD rfl) rfl) rfl rfl rfl) (jA (yH (bi_len hK) rfl g.n_len (jA (jB (i:=8) rfl (.inl rfl) rfl rfl) jD rfl) (by decide) rfl rfl rfl) jD rfl) rfl) rfl) rfl) rfl) rfl rfl rfl) rfl (.inl rfl))
 (jN (jV (vD (jA (jR (jW (by decide +kernel))) (jA (jB (i:=4) rfl (.inl rfl) rfl rfl) (jA (jB (i:=5) rfl (.inl rfl) rfl rfl) (jA (yH (jEA hK) rfl g.n_tuple (jA (jB (i:=9) rfl (.inl rfl) rfl rfl) jD rfl) (by decide) rfl rfl rfl) jD rfl) rfl) rfl) rfl)))))))))
abbrev vG:Stmt:=(top 44)
def jCP:List Str:=["_law_word", "_law_digits", "_law_sign"]
theorem jLK:FnScope jCP ["_law_word"] (defScope vG):=⟨rfl,rfl,rfl,by decide +kernel,rfl,by decide +kernel,by decide +kernel⟩
noncomputable def jCR:MS:=(yN (wZ 1 (ifM (bM (jM fEq (eSl (jG 0) jDJ (jCG (eC (.int 1)))) (eC (.str "-")))) (eSl (jG 0) (jCG (eC (.int 1))) jDJ) (jG 0)))
 (yN (sIf (orM (bM (jM fEq (jG 1) (eC (.str "")))) (orM (bM (jM fGt (eCB vP (jE (jG 1) jO)) (eC (.int 19)))) (bM (jM fNe (shN (zG (jFM (jG 1)) (.n 2) (bM (jM jOZ (jG 2) (eC (.str "0123456789")))) (jG 2) [2])) (jDU jO))))) (vO (eC .non)) wY)
 (yN (sIf (orM (andM (bM (jM fGt (eCB vP (jE (jG 1) jO)) (eC (.int 1)))) (bM (jM fEq (jM fIx (jG 1) (eC (.int 0))) (eC (.str "0"))))) (bM (jM fEq (jG 0) (eC (.str "-0"))))) (vO (eC .non)) wY)
 (vO (eCB jKN (jE (jG 0) jO))))))
noncomputable def jFK:MS:=(yG (uA 1 (jEC (xBM (jJ fEq (jGE (jF 0) jBE (kZ (xEC (.int 1)))) (xEC (.str "-")))) (jGE (jF 0) (kZ (xEC (.int 1))) jBE) (jF 0)))
 (yG (jAK (jDK (xBM (jJ fEq (jF 1) (xEC (.str "")))) (jDK (xBM (jJ fGt (xECB vP (jC (jF 1) jK)) (xEC (.int 19)))) (xBM (jJ fNe (jCY (vI (jAZ (jF 1)) (.n 2) (xBM (jJ jOZ (jF 2) (xEC (.str "0123456789")))) (jF 2) [2])) (jCZ jK))))) (yX (xEC .non)) zH)
 (yG (jAK (jDK (jKJ (xBM (jJ fGt (xECB vP (jC (jF 1) jK)) (xEC (.int 1)))) (xBM (jJ fEq (jJ fIx (jF 1) (xEC (.int 0))) (xEC (.str "0"))))) (xBM (jJ fEq (jF 0) (xEC (.str "-0"))))) (yX (xEC .non)) zH)
 (yX (xECB jKN (jC (jF 0) jK))))))
theorem jLI:jCR=jFK:=by kernel_rfl
@[irreducible] noncomputable def yV:MF:=mkF 2 jCR
theorem jNF {P:Program} {w:World} {K:PySem.W.Frag} {mg:Str→Option Value} {base:Heap} {B:Bs} {f:Addr} {cdv:Value} {A:Around} {outer:List Env} {s:Shared} {H:Hp} {E:XK} {k:Nat} {N:Ent} (hK:K=B.K) (hw:w=B.w) (g:Gm mg)
  (D:Bdy (cxOf (L2.CX P w) P w K mg base jCP "_law_number_due" (defScope vG) f cdv A outer s H E) E k)   :
  SimSs (cxOf (L2.CX P w) P w K mg base jCP "_law_number_due" (defScope vG) f cdv A outer s H E) B N (fun c d _ H=>E c d H) (defBody vG) (jCR) :=
 (jL (yM jLK.nd rfl (.inl rfl) (vJ (jY (wR hK D.rm.u9) (jBS hK (jB (i:=0) rfl (.inl rfl) rfl rfl) zX (uJ jH)) (jR (jW (by decide +kernel))) rfl) (jBS hK (jB (i:=0) rfl (.inl rfl) rfl rfl) (uJ jH) zX) (jB (i:=0) rfl (.inl rfl) rfl rfl)) rfl (.inl rfl))
 (jL (yQ (vU (wW (jY (wR hK D.rm.u9) (jB (i:=1) rfl (.inl rfl) rfl rfl) (jR (jW (by decide +kernel))) rfl) (wW (jY (jKM) (yH (bi_len hK) rfl g.n_len (jA (jB (i:=1) rfl (.inl rfl) rfl rfl) jD rfl) (by decide) rfl rfl rfl) jH rfl) (qX (jY (jFO hK D.rm.u9) (SimN.sh (qW (own:=[("_law_sign", 2)]) hK rfl jLK.nd (qI hK (jB (i:=1) rfl (.inl rfl) rfl rfl)) (qH (by kernel_rfl)) (by decide) (fun _ _ _ _ _=>(zJ (pg_name jLK.nd rfl (.inl rfl) (.inr rfl)))) (fun _ _ _ _ _=>(jET (jY (yAZ hK D.rm.u9) (jB (i:=2) rfl (.inl rfl) rfl rfl) (jR (jW (by decide +kernel))) rfl))) (fun _ _ _ _ _=>(jB (i:=2) rfl (.inl rfl) rfl rfl)) (fun _=>rfl))) (zP jD) rfl))))) (jN (jV vA)) yI)
 (jL (yQ (vU (wW (vU (jFF (jY (jKM) (yH (bi_len hK) rfl g.n_len (jA (jB (i:=1) rfl (.inl rfl) rfl rfl) jD rfl) (by decide) rfl rfl rfl) jH rfl) (jDL (jY (wR hK D.rm.u9) (yE hK (jB (i:=1) rfl (.inl rfl) rfl rfl) jH (fun _ _=>rfl)) (jR (jW (by decide +kernel))) rfl)))) (qX (jY (wR hK D.rm.u9) (jB (i:=0) rfl (.inl rfl) rfl rfl) (jR (jW (by decide +kernel))) rfl)))) (jN (jV vA)) yI)
 (jN (jV (yH (jUT) rfl g.n_int (jA (jB (i:=0) rfl (.inl rfl) rfl rfl) jD rfl) (by decide) rfl rfl rfl))))))
abbrev vW:Stmt:=(top 45)
def jDM:List Str:=["_law_text_z", "_law_words", "_law_sides", "_law_rows", "_law_k", "_law_row", "_law_none", "_law_keys_here", "_law_word", "_law_key_here", "_law_part", "_law_one"]
theorem jOK:FnScope jDM ["_law_text_z"] (defScope vW):=⟨rfl,rfl,rfl,by decide +kernel,rfl,by decide +kernel,by decide +kernel⟩
noncomputable def jDN:MS:=(yN (wZ 1 (eMS jBU (jG 0) (jE (eC (.str " ")) jO)))
 (yN (sIf (bM (jM jOZ (jM fIx (jG 1) (eC (.int 0))) (jDU (jE (eC (.str "drop")) (jE (eC (.str "number")) (jE (eC (.str "strike")) (jE (eC (.str "back")) jO))))))) (vO (eC .non)) wY)
 (yN (wZ 2 (ifM (bM (jM fEq (jM fIx (jG 1) (eC (.int 0))) (eC (.str "number")))) (eC (.int 2)) (ifM (bM (jM fEq (jM fIx (jG 1) (eC (.int 0))) (eC (.str "drop")))) (eC (.int 3)) (eC (.int 1)))))
 (yN (sIf (orM (bM (jM fLt (eCB vP (jE (jG 1) jO)) (jM yO (eC (.int 1)) (jG 2)))) (orM (andM (bM (jM fEq (jM fIx (jG 1) (eC (.int 0))) (eC (.str "drop")))) (bM (jM fNe (eCB vP (jE (jG 1) jO)) (eC (.int 5))))) (andM (bM (jM fEq (jG 2) (eC (.int 1)))) (bM (jM fNe (eCB vP (jE (jG 1) jO)) (eC (.int 2))))))) (vO (eC .non)) wY)
 (yN (wZ 3 (shN (zG (jFM (eSl (jG 1) (jCG (eC (.int 1))) (jCG (jM yO (eC (.int 1)) (jG 2))))) (.n 8) uR (ifM (bM (jM fEq (jG 8) (eC (.str "-")))) (eC .non) (yL 1 yV (jE (jG 8) jO))) [8])))
 (yN (jTE (jQB (jE (jG 3) jO)) (.t [(.n 4),(.n 5)]) (yN (wZ 6 (jGK (jM fEq (jM fIx (jG 1) (jM yO (eC (.int 1)) (jG 4))) (eC (.str "-"))) (yHS (jGK (jM fNe (jM fIx (jG 1) (eC (.int 0))) (eC (.str "number"))) (jM fEq (jG 4) (eC (.int 0)))))))
 (sIf (andM (jIP (tM (jG 6))) (orM (bM (jM jAL (jG 5) (eC .non))) (orM (bM (jM fLt (jG 5) (eC (.int 0)))) (bM (jM fGt (jG 5) (eC (.int 39))))))) (vO (eC .non)) wY)))
 (yN (jON 7 (jRR jO))
 (yN (jTE (jFM (eSl (jG 1) (jCG (jM yO (eC (.int 1)) (jG 2))) jDJ)) (.n 8) (yN (wZ 9 (eCB kJ (jE (shN (zG (jFM (eMS jBU (jG 8) (jE (eC (.str ".")) jO))) (.n 10) uR (yL 1 yV (jE (jG 10) jO)) [10])) jO)))
 (yN (sIf (orM (bM (jM fGt (eCB vP (jE (jG 9) jO)) (eC (.int 40)))) (bM (jM fNe (shN (zG (jFM (jG 9)) (.n 11) (orM (bM (jM jAL (jG 11) (eC .non))) (bM (jM fGt (eCB yAA (jE (jG 11) jO)) (jM jOY (eC (.int 10)) (eC (.int 18)))))) (jG 11) [11])) (jDU jO)))) (vO (eC .non)) wY)
 (jLS 7 (jG 9)))))
 (yN (sIf (bM (jM fEq (jM fIx (jG 1) (eC (.int 0))) (eC (.str "number")))) (vO (jM yO (jM yO (jAU (jE (eC (.str "number")) jO)) (eCB kJ (jE (jG 3) jO))) (jAU (jE (eCB kJ (jE (jG 7) jO)) jO)))) wY)
 (vO (jM yO (jM yO (jAU (jE (jM fIx (jG 1) (eC (.int 0))) jO)) (eCB kJ (jE (jG 3) jO))) (eCB kJ (jE (jG 7) jO)))))))))))))
noncomputable def jGX:MS:=(yG (uA 1 (jIM jBU (jF 0) (jC (xEC (.str " ")) jK)))
 (yG (jAK (xBM (jJ jOZ (jJ fIx (jF 1) (xEC (.int 0))) (jCZ (jC (xEC (.str "drop")) (jC (xEC (.str "number")) (jC (xEC (.str "strike")) (jC (xEC (.str "back")) jK))))))) (yX (xEC .non)) zH)
 (yG (uA 2 (jEC (xBM (jJ fEq (jJ fIx (jF 1) (xEC (.int 0))) (xEC (.str "number")))) (xEC (.int 2)) (jEC (xBM (jJ fEq (jJ fIx (jF 1) (xEC (.int 0))) (xEC (.str "drop")))) (xEC (.int 3)) (xEC (.int 1)))))
 (yG (jAK (jDK (xBM (jJ fLt (xECB vP (jC (jF 1) jK)) (jJ yO (xEC (.int 1)) (jF 2)))) (jDK (jKJ (xBM (jJ fEq (jJ fIx (jF 1) (xEC (.int 0))) (xEC (.str "drop")))) (xBM (jJ fNe (xECB vP (jC (jF 1) jK)) (xEC (.int 5))))) (jKJ (xBM (jJ fEq (jF 2) (xEC (.int 1)))) (xBM (jJ fNe (xECB vP (jC (jF 1) jK)) (xEC (.int 2))))))) (yX (xEC .non)) zH)
 (yG (uA 3 (jCY (vI (jAZ (jGE (jF 1) (kZ (xEC (.int 1))) (kZ (jJ yO (xEC (.int 1)) (jF 2))))) (.n 8) uR (jEC (xBM (jJ fEq (jF 8) (xEC (.str "-")))) (xEC .non) (yD 1 yV (jC (jF 8) jK))) [8])))
 (yG (jII (jLU (jC (jF 3) jK)) (.t [(.n 4),(.n 5)]) (yG (uA 6 (jDI (jJ fEq (jJ fIx (jF 1) (jJ yO (xEC (.int 1)) (jF 4))) (xEC (.str "-"))) (jWK (jDI (jJ fNe (jJ fIx (jF 1) (xEC (.int 0))) (xEC (.str "number"))) (jJ fEq (jF 4) (xEC (.int 0)))))))
 (jAK (jKJ (jDV (xTM (jF 6))) (jDK (xBM (jJ jAL (jF 5) (xEC .non))) (jDK (xBM (jJ fLt (jF 5) (xEC (.int 0)))) (xBM (jJ fGt (jF 5) (xEC (.int 39))))))) (yX (xEC .non)) zH)))
 (yG (jKR 7 (jKI jK))
 (yG (jII (jAZ (jGE (jF 1) (kZ (jJ yO (xEC (.int 1)) (jF 2))) jBE)) (.n 8) (yG (uA 9 (xECB kJ (jC (jCY (vI (jAZ (jIM jBU (jF 8) (jC (xEC (.str ".")) jK))) (.n 10) uR (yD 1 yV (jC (jF 10) jK)) [10])) jK)))
 (yG (jAK (jDK (xBM (jJ fGt (xECB vP (jC (jF 9) jK)) (xEC (.int 40)))) (xBM (jJ fNe (jCY (vI (jAZ (jF 9)) (.n 11) (jDK (xBM (jJ jAL (jF 11) (xEC .non))) (xBM (jJ fGt (xECB yAA (jC (jF 11) jK)) (jJ jOY (xEC (.int 10)) (xEC (.int 18)))))) (jF 11) [11])) (jCZ jK)))) (yX (xEC .non)) zH)
 (jLS 7 (jF 9)))))
 (yG (jAK (xBM (jJ fEq (jJ fIx (jF 1) (xEC (.int 0))) (xEC (.str "number")))) (yX (jJ yO (jJ yO (zU (jC (xEC (.str "number")) jK)) (xECB kJ (jC (jF 3) jK))) (zU (jC (xECB kJ (jC (jF 7) jK)) jK)))) zH)
 (yX (jJ yO (jJ yO (zU (jC (jJ fIx (jF 1) (xEC (.int 0))) jK)) (xECB kJ (jC (jF 3) jK))) (xECB kJ (jC (jF 7) jK)))))))))))))
theorem jOJ:jDN=jGX:=by kernel_rfl
@[irreducible] noncomputable def vC:MF:=mkF 11 jDN
theorem jPD {P:Program} {w:World} {K:PySem.W.Frag} {mg:Str→Option Value} {base:Heap} {B:Bs} {f:Addr} {cdv:Value} {A:Around} {outer:List Env} {s:Shared} {H:Hp} {E:XK} {k:Nat} {N:Ent} (hK:K=B.K) (hw:w=B.w) (g:Gm mg)
  (D:Bdy (cxOf (L2.CX P w) P w K mg base jDM "_law_deed_due" (defScope vW) f cdv A outer s H E) E k)  (F__law_number_due:Fn P w K mg base B k "_law_number_due" 1 yV) :
  SimSs (cxOf (L2.CX P w) P w K mg base jDM "_law_deed_due" (defScope vW) f cdv A outer s H E) B N (fun c d _ H=>E c d H) (defBody vW) (jDN) :=
 (jL (yM jOK.nd rfl (.inl rfl) (jDD PySem.F.slot_str_split PySem.F.type_str_split mt_split jGU (jB (i:=0) rfl (.inl rfl) rfl rfl) (jA (jR (jW (by decide +kernel))) jD rfl) rfl rfl rfl rfl rfl) rfl (.inl rfl))
 (jL (yQ (jY (yAZ hK D.rm.u9) (yE hK (jB (i:=1) rfl (.inl rfl) rfl rfl) jH (fun _ _=>rfl)) (zP (jA (jR (jW (by decide +kernel))) (jA (jR (jW (by decide +kernel))) (jA (jR (jW (by decide +kernel))) (jA (jR (jW (by decide +kernel))) jD rfl) rfl) rfl) rfl)) rfl) (jN (jV vA)) yI)
 (jL (yM jOK.nd rfl (.inl rfl) (vJ (jY (wR hK D.rm.u9) (yE hK (jB (i:=1) rfl (.inl rfl) rfl rfl) jH (fun _ _=>rfl)) (jR (jW (by decide +kernel))) rfl) jH (vJ (jY (wR hK D.rm.u9) (yE hK (jB (i:=1) rfl (.inl rfl) rfl rfl) jH (fun _ _=>rfl)) (jR (jW (by decide +kernel))) rfl) jH jH)) rfl (.inl rfl))
 (jL (yQ (vU (wW (jY (jWW hK D.rm.u9) (yH (bi_len hK) rfl g.n_len (jA (jB (i:=1) rfl (.inl rfl) rfl rfl) jD rfl) (by decide) rfl rfl rfl) (yR hK jH (jB (i:=2) rfl (.inl rfl) rfl rfl)) rfl) (wW (vU (jFF (jY (wR hK D.rm.u9) (yE hK (jB (i:=1) rfl (.inl rfl) rfl rfl) jH (fun _ _=>rfl)) (jR (jW (by decide +kernel))) rfl) (jDL (jY (jFO hK D.rm.u9) (yH (bi_len hK) rfl g.n_len (jA (jB (i:=1) rfl (.inl rfl) rfl rfl) jD rfl) (by decide) rfl rfl rfl) jH rfl)))) (qX (vU (jFF (jY (wR hK D.rm.u9) (jB (i:=2) rfl (.inl rfl) rfl rfl) jH rfl) (jDL (jY (jFO hK D.rm.u9) (yH (bi_len hK) rfl g.n_len (jA (jB (i:=1) rfl (.inl rfl) rfl rfl) jD rfl) (by decide) rfl rfl rfl) jH rfl)))))))) (jN (jV vA)) yI)
 (jL (jQV (own:=[("_law_word", 8)]) hK rfl jOK.nd rfl rfl rfl (qI hK (jBS hK (jB (i:=1) rfl (.inl rfl) rfl rfl) (uJ jH) (uJ (yR hK jH (jB (i:=2) rfl (.inl rfl) rfl rfl))))) (qH (by kernel_rfl)) (by decide) (fun _ _ _ _ _=>(zJ (pg_name jOK.nd rfl (.inl rfl) (.inr rfl)))) (fun _ _ _ _ _=>uQ) (fun _ _ _ _ _=>(vJ (jY (wR hK D.rm.u9) (jB (i:=8) rfl (.inl rfl) rfl rfl) (jR (jW (by decide +kernel))) rfl) vA (jT F__law_number_due (jDP _) D.rm rfl (jA (jB (i:=8) rfl (.inl rfl) rfl rfl) jD rfl) rfl rfl rfl))) (fun _=>rfl))
 (jL (jGO D.pa hK rfl (jSP hK rfl g.n_enumerate (jA (jB (i:=3) rfl (.inl rfl) rfl rfl) jD rfl) rfl) (jOO rfl (zR (zJ (pg_name jOK.nd rfl (.inl rfl) (.inl rfl))) (zR (zJ (pg_name jOK.nd rfl (.inl rfl) (.inl rfl))) jDY rfl) rfl) rfl rfl) (fun _=>(jL (yM jOK.nd rfl (.inl rfl) (jBK (jCM (wR hK D.rm.u9) (yE hK (jB (i:=1) rfl (.inl rfl) rfl rfl) (yR hK jH (jB (i:=4) rfl (.inl rfl) rfl rfl)) (fun _ _=>rfl)) (jR (jW (by decide +kernel))) rfl) (jDR (yDM (jBK (jCM (jFO hK D.rm.u9) (yE hK (jB (i:=1) rfl (.inl rfl) rfl rfl) jH (fun _ _=>rfl)) (jR (jW (by decide +kernel))) rfl) (jDR (jCM (wR hK D.rm.u9) (jB (i:=4) rfl (.inl rfl) rfl rfl) jH rfl)))))) rfl (.inl rfl))
 (jN (yQ (vU (jFF (qY (uC hK (jB (i:=6) rfl (.inl rfl) rfl rfl) (fun _=>rfl))) (jDL (vU (wW (jY (jCO) (jB (i:=5) rfl (.inl rfl) rfl rfl) vA rfl) (wW (jY (jWW hK D.rm.u9) (jB (i:=5) rfl (.inl rfl) rfl rfl) jH rfl) (qX (jY (jKM) (jB (i:=5) rfl (.inl rfl) rfl rfl) jH rfl)))))))) (jN (jV vA)) yI)))) (fun _=>rfl))
 (jL (jJT jOK.nd rfl (.inl rfl) (jFG jD) rfl (.inl rfl))
 (jL (jGO D.pa hK rfl (qI hK (jBS hK (jB (i:=1) rfl (.inl rfl) rfl rfl) (uJ (yR hK jH (jB (i:=2) rfl (.inl rfl) rfl rfl))) zX)) (zJ (pg_name jOK.nd rfl (.inl rfl) (.inl rfl))) (fun _=>(jL (yM jOK.nd rfl (.inl rfl) (yH (jEA hK) rfl g.n_tuple (jA (SimN.sh (qW (own:=[("_law_part", 10)]) hK rfl jOK.nd (qI hK (jDD PySem.F.slot_str_split PySem.F.type_str_split mt_split jGU (jB (i:=8) rfl (.inl rfl) rfl rfl) (jA (jR (jW (by decide +kernel))) jD rfl) rfl rfl rfl rfl rfl)) (qH (by kernel_rfl)) (by decide) (fun _ _ _ _ _=>(zJ (pg_name jOK.nd rfl (.inl rfl) (.inr rfl)))) (fun _ _ _ _ _=>uQ) (fun _ _ _ _ _=>(jT F__law_number_due (jDP _) D.rm rfl (jA (jB (i:=10) rfl (.inl rfl) rfl rfl) jD rfl) rfl rfl rfl)) (fun _=>rfl))) jD rfl) (by decide) rfl rfl rfl) rfl (.inl rfl))
 (jL (yQ (vU (wW (jY (jKM) (yH (bi_len hK) rfl g.n_len (jA (jB (i:=9) rfl (.inl rfl) rfl rfl) jD rfl) (by decide) rfl rfl rfl) jH rfl) (qX (jY (jFO hK D.rm.u9) (SimN.sh (qW (own:=[("_law_one", 11)]) hK rfl jOK.nd (qI hK (jB (i:=9) rfl (.inl rfl) rfl rfl)) (qH (by kernel_rfl)) (by decide) (fun _ _ _ _ _=>(zJ (pg_name jOK.nd rfl (.inl rfl) (.inr rfl)))) (fun _ _ _ _ _=>(jET (vU (wW (jY (jCO) (jB (i:=11) rfl (.inl rfl) rfl rfl) vA rfl) (qX (jY (jKM) (yH (yUU) rfl g.n_abs (jA (jB (i:=11) rfl (.inl rfl) rfl rfl) jD rfl) (by decide) rfl rfl rfl) (jPH jH jH) rfl)))))) (fun _ _ _ _ _=>(jB (i:=11) rfl (.inl rfl) rfl rfl)) (fun _=>rfl))) (zP jD) rfl)))) (jN (jV vA)) yI)
 (jN (jSO rfl (.inl rfl) rfl rfl (jB (i:=9) rfl (.inl rfl) rfl rfl) rfl rfl rfl rfl rfl rfl))))) (fun _=>rfl))
 (jL (yQ (jY (wR hK D.rm.u9) (yE hK (jB (i:=1) rfl (.inl rfl) rfl rfl) jH (fun _ _=>rfl)) (jR (jW (by decide +kernel))) rfl) (jN (jV (yR hK (yR hK (vD (jA (jR (jW (by decide +kernel))) jD rfl)) (yH (jEA hK) rfl g.n_tuple (jA (jB (i:=3) rfl (.inl rfl) rfl rfl) jD rfl) (by decide) rfl rfl rfl)) (vD (jA (yH (jEA hK) rfl g.n_tuple (jA (jB (i:=7) rfl (.inl rfl) rfl rfl) jD rfl) (by decide) rfl rfl rfl) jD rfl))))) yI)
 (jN (jV (yR hK (yR hK (vD (jA (yE hK (jB (i:=1) rfl (.inl rfl) rfl rfl) jH (fun _ _=>rfl)) jD rfl)) (yH (jEA hK) rfl g.n_tuple (jA (jB (i:=3) rfl (.inl rfl) rfl rfl) jD rfl) (by decide) rfl rfl rfl)) (yH (jEA hK) rfl g.n_tuple (jA (jB (i:=7) rfl (.inl rfl) rfl rfl) jD rfl) (by decide) rfl rfl rfl)))))))))))))
abbrev jFE:Stmt:=(top 46)
def jTO:List Str:=["_law_script", "_law_bag", "_law_turn", "_law_spec", "_law_model_here", "_law_deed_z", "_law_text_z", "_law_words", "_law_spot", "_law_at", "_law_sign", "_law_bent", "_law_late", "_law_due", "_law_odd"]
theorem ySI:FnScope jTO ["_law_script"] (defScope jFE):=⟨rfl,rfl,rfl,by decide +kernel,rfl,by decide +kernel,by decide +kernel⟩
noncomputable def yAR:MS:=(yN (wZ 1 (yL 1 jAB (jE (jG 0) jO)))
 (yN (jTE (jKK (jE (eC (.int 6)) jO)) (.n 2) (yN (wZ 3 (yL 1 uM (jE (jG 1) jO)))
 (yN (wZ 4 (yL 2 qJ (jE (jAU (jE (jM fIx (jG 3) (eC (.int 0))) (jE (jM fIx (jG 3) (eC (.int 1))) (jE (eC (.bl true)) (jE (jM fIx (jG 3) (eC (.int 3))) (jE (jM fIx (jG 3) (eC (.int 4))) jO)))))) (jE (eC (.int 5)) jO))))
 (yN (wZ 5 (yL 2 vB (jE (jG 1) (jE (jDU (jE (yL 3 vZ (jE (jG 1) (jE (jG 4) (jE (jM fIx (jM fIx (jG 4) (eC (.int 3))) (eC (.int 0))) jO)))) (jE (yL 3 vK (jE (jG 1) (jE (jG 4) (jE (jM fIx (jM fIx (jG 4) (eC (.int 3))) (eC (.int 0))) jO)))) (jE (jAU (jE (eC (.str "strike")) (jE (yL 2 jZ (jE (jG 1) (jE (eC (.int 40)) jO))) jO))) (jE (jAU (jE (eC (.str "back")) (jE (eC (.int 39)) jO))) (jE (jAU (jE (eC (.str "drop")) (jE (eC (.int 0)) (jE (eC (.int 39)) (jE (eC .non) (jE (jAU (jE (jM jOY (eC (.int 10)) (eC (.int 18))) (jE (jM jEX (eC (.int 0)) (jM jOY (eC (.int 10)) (eC (.int 18)))) (jE (eC (.int 0)) jO)))) jO)))))) jO)))))) jO))))
 (yN (wZ 6 (jNQ 0 1 [0] 1 uP jO (jE (jG 5) jO)))
 (yN (yHP 7 8 (jE (eMS jBU (jG 6) (jE (eC (.str " ")) jO)) (jE (yL 2 jZ (jE (jG 1) (jE (jM yO (eCB vP (jE (jG 6) jO)) (eC (.int 1))) jO))) jO)))
 (yN (sIf (jIP (tM (yL 2 uF (jE (jDU (jE (yL 1 vC (jE (jG 6) jO)) (jE (yL 1 yU (jE (jG 6) jO)) jO))) (jE (jDU (jE (jG 5) (jE (jG 5) jO))) jO))))) (vO (eC (.bl false))) wY)
 (yN (yHP 9 10 (jE (yL 2 jZ (jE (jG 1) (jE (eCB vP (jE (jG 7) jO)) jO))) (jE (yL 2 vB (jE (jG 1) (jE (jDU (jE (eC (.str "")) (jE (eC (.str " ")) (jE (eC (.str "-")) (jE (eC (.str "0")) (jE (eC (.str ".")) (jE (eC (.str "1")) (jE (eC (.str "x")) (jE (eC (.str "\n")) (jE (eC (.str " 3")) (jE (eC (.str "-0")) jO))))))))))) jO))) jO)))
 (yN (wZ 11 (jWJ (jRR (jE (jM yO (jM yO (eSl (jG 6) jDJ (jCG (jG 8))) (jG 10)) (eSl (jG 6) (jCG (jM yO (jG 8) (yL 2 jZ (jE (jG 1) (jE (eC (.int 2)) jO))))) jDJ)) (jE (eMS jBR (eC (.str " ")) (jE (jM yO (eSl (jG 7) jDJ (jCG (jG 9))) (eSl (jG 7) (jCG (jM yO (jG 9) (eC (.int 1)))) jDJ)) jO)) (jE (jM yO (jG 6) (jG 10)) (jE (eMS jBR (eC (.str " ")) (jE (jM yO (jM yO (eSl (jG 7) jDJ (jCG (jG 9))) (jDU (jE (jM fIx (jG 7) (jG 9)) jO))) (eSl (jG 7) (jCG (jG 9)) jDJ)) jO)) (jE (eC (.str "")) (jE (eMS jQD (jG 6) jO) jO)))))))))
 (yN (yCW (jWU (jG 11) (eMS jBR (eC (.str " ")) (jE (jM yO (eSl (jG 7) jDJ (jCG (jG 9))) (yNG (eSl (jG 7) (jCG (jG 9)) jDJ))) jO))))
 (yN (jTE (jFM (jG 11)) (.n 12) (yN (wZ 13 (yL 1 vC (jE (jG 12) jO)))
 (sIf (jIP (tM (yL 2 uF (jE (jWI okc jEK (jNQ 0 1 [0] 1 yU jO (jE (jG 12) jO))) (jE (ifM (bM (jM jAL (jG 13) (eC .non))) (jAU (jE (eC (.str "InvalidText")) (jE (eC (.int 0)) jO))) (jAU (jE (eC (.str "")) (jE (jG 13) jO)))) jO))))) (vO (eC (.bl false))) wY)))
 (yN (wZ 14 (yL 2 vB (jE (jG 1) (jE (jDU (jE (eC .non) (jE (eC (.int 3)) (jE (eC (.bl true)) (jE (jG 7) (jE (jG 5) jO)))))) jO))))
 (sIf (jIP (tM (yL 2 uF (jE (jWI okc jEK (yL 1 yU (jE (jG 14) jO))) (jE (jAU (jE (eC (.str "InvalidText")) (jE (eC (.int 0)) jO))) jO))))) (vO (eC (.bl false))) wY)))))))))))))
 (vO (yL 2 uF (jE (yL 1 uP (jE (jAU (jE (eC (.str "drop")) (jE (eC (.int 3)) (jE (eC .non) (jE (eC (.int 0)) (jE (jAU (jE (jM jEX (eC (.int 0)) (eC (.int 1))) (jE (eC (.int 5)) jO))) jO)))))) jO)) (jE (eC (.str "drop 3 - 0 -1.5")) jO))))))
noncomputable def yIT:MS:=(yG (uA 1 (yD 1 jAB (jC (jF 0) jK)))
 (yG (jII (jFB (jC (xEC (.int 6)) jK)) (.n 2) (yG (uA 3 (yD 1 uM (jC (jF 1) jK)))
 (yG (uA 4 (yD 2 qJ (jC (zU (jC (jJ fIx (jF 3) (xEC (.int 0))) (jC (jJ fIx (jF 3) (xEC (.int 1))) (jC (xEC (.bl true)) (jC (jJ fIx (jF 3) (xEC (.int 3))) (jC (jJ fIx (jF 3) (xEC (.int 4))) jK)))))) (jC (xEC (.int 5)) jK))))
 (yG (uA 5 (yD 2 vB (jC (jF 1) (jC (jCZ (jC (yD 3 vZ (jC (jF 1) (jC (jF 4) (jC (jJ fIx (jJ fIx (jF 4) (xEC (.int 3))) (xEC (.int 0))) jK)))) (jC (yD 3 vK (jC (jF 1) (jC (jF 4) (jC (jJ fIx (jJ fIx (jF 4) (xEC (.int 3))) (xEC (.int 0))) jK)))) (jC (zU (jC (xEC (.str "strike")) (jC (yD 2 jZ (jC (jF 1) (jC (xEC (.int 40)) jK))) jK))) (jC (zU (jC (xEC (.str "back")) (jC (xEC (.int 39)) jK))) (jC (zU (jC (xEC (.str "drop")) (jC (xEC (.int 0)) (jC (xEC (.int 39)) (jC (xEC .non) (jC (zU (jC (jJ jOY (xEC (.int 10)) (xEC (.int 18))) (jC (jJ jEX (xEC (.int 0)) (jJ jOY (xEC (.int 10)) (xEC (.int 18)))) (jC (xEC (.int 0)) jK)))) jK)))))) jK)))))) jK))))
 (yG (uA 6 (jPF 0 1 [0] 1 uP jK (jC (jF 5) jK)))
 (yG (yCM 7 8 (jC (jIM jBU (jF 6) (jC (xEC (.str " ")) jK)) (jC (yD 2 jZ (jC (jF 1) (jC (jJ yO (xECB vP (jC (jF 6) jK)) (xEC (.int 1))) jK))) jK)))
 (yG (jAK (jDV (xTM (yD 2 uF (jC (jCZ (jC (yD 1 vC (jC (jF 6) jK)) (jC (yD 1 yU (jC (jF 6) jK)) jK))) (jC (jCZ (jC (jF 5) (jC (jF 5) jK))) jK))))) (yX (xEC (.bl false))) zH)
 (yG (yCM 9 10 (jC (yD 2 jZ (jC (jF 1) (jC (xECB vP (jC (jF 7) jK)) jK))) (jC (yD 2 vB (jC (jF 1) (jC (jCZ (jC (xEC (.str "")) (jC (xEC (.str " ")) (jC (xEC (.str "-")) (jC (xEC (.str "0")) (jC (xEC (.str ".")) (jC (xEC (.str "1")) (jC (xEC (.str "x")) (jC (xEC (.str "\n")) (jC (xEC (.str " 3")) (jC (xEC (.str "-0")) jK))))))))))) jK))) jK)))
 (yG (uA 11 (jPR (jKI (jC (jJ yO (jJ yO (jGE (jF 6) jBE (kZ (jF 8))) (jF 10)) (jGE (jF 6) (kZ (jJ yO (jF 8) (yD 2 jZ (jC (jF 1) (jC (xEC (.int 2)) jK))))) jBE)) (jC (jIM jBR (xEC (.str " ")) (jC (jJ yO (jGE (jF 7) jBE (kZ (jF 9))) (jGE (jF 7) (kZ (jJ yO (jF 9) (xEC (.int 1)))) jBE)) jK)) (jC (jJ yO (jF 6) (jF 10)) (jC (jIM jBR (xEC (.str " ")) (jC (jJ yO (jJ yO (jGE (jF 7) jBE (kZ (jF 9))) (jCZ (jC (jJ fIx (jF 7) (jF 9)) jK))) (jGE (jF 7) (kZ (jF 9)) jBE)) jK)) (jC (xEC (.str "")) (jC (jIM jQD (jF 6) jK) jK)))))))))
 (yG (yAC (jWU (jF 11) (jIM jBR (xEC (.str " ")) (jC (jJ yO (jGE (jF 7) jBE (kZ (jF 9))) (yHY (jGE (jF 7) (kZ (jF 9)) jBE))) jK))))
 (yG (jII (jAZ (jF 11)) (.n 12) (yG (uA 13 (yD 1 vC (jC (jF 12) jK)))
 (jAK (jDV (xTM (yD 2 uF (jC (jWL okc jEK (jPF 0 1 [0] 1 yU jK (jC (jF 12) jK))) (jC (jEC (xBM (jJ jAL (jF 13) (xEC .non))) (zU (jC (xEC (.str "InvalidText")) (jC (xEC (.int 0)) jK))) (zU (jC (xEC (.str "")) (jC (jF 13) jK)))) jK))))) (yX (xEC (.bl false))) zH)))
 (yG (uA 14 (yD 2 vB (jC (jF 1) (jC (jCZ (jC (xEC .non) (jC (xEC (.int 3)) (jC (xEC (.bl true)) (jC (jF 7) (jC (jF 5) jK)))))) jK))))
 (jAK (jDV (xTM (yD 2 uF (jC (jWL okc jEK (yD 1 yU (jC (jF 14) jK))) (jC (zU (jC (xEC (.str "InvalidText")) (jC (xEC (.int 0)) jK))) jK))))) (yX (xEC (.bl false))) zH)))))))))))))
 (yX (yD 2 uF (jC (yD 1 uP (jC (zU (jC (xEC (.str "drop")) (jC (xEC (.int 3)) (jC (xEC .non) (jC (xEC (.int 0)) (jC (zU (jC (jJ jEX (xEC (.int 0)) (xEC (.int 1))) (jC (xEC (.int 5)) jK))) jK)))))) jK)) (jC (xEC (.str "drop 3 - 0 -1.5")) jK))))))
theorem yRQ:yAR=yIT:=by kernel_rfl
@[irreducible] noncomputable def jOP:MF:=mkF 14 yAR
theorem yWW {P:Program} {w:World} {K:PySem.W.Frag} {mg:Str→Option Value} {base:Heap} {B:Bs} {f:Addr} {cdv:Value} {A:Around} {outer:List Env} {s:Shared} {H:Hp} {E:XK} {k:Nat} {N:Ent} (hK:K=B.K) (hw:w=B.w) (g:Gm mg)
  (D:Bdy (cxOf (L2.CX P w) P w K mg base jTO "law" (defScope jFE) f cdv A outer s H E) E k) (hxn:B.xn=none) {j:Nat} (hj:j+2≤k) (T_try:TryF P w K mg base B (j+1) "_law_try" okc jEK) (LT:LamT (cxOf (L2.CX P w) P w K mg base jTO "law" (defScope jFE) f cdv A outer s H E) B) (F__law_open:Fn P w K mg base B k "_law_open" 1 jAB) (F__law_some_spec:Fn P w K mg base B k "_law_some_spec" 1 uM) (F__law_model:Fn P w K mg base B k "_law_model" 2 qJ) (F__law_of:Fn P w K mg base B k "_law_of" 2 vB) (F__law_draw:Fn P w K mg base B k "_law_draw" 2 jZ) (F__law_drawn_number:Fn P w K mg base B k "_law_drawn_number" 3 vK) (F__law_drawn_drop:Fn P w K mg base B k "_law_drawn_drop" 3 vZ) (F__law_like:Fn P w K mg base B k "_law_like" 2 uF) (F_read_deed:Fn P w K mg base B k "read_deed" 1 yU) (F__law_deed_due:Fn P w K mg base B k "_law_deed_due" 1 vC) (F_deed_text:Fn P w K mg base B k "deed_text" 1 uP) (K_deed_text_0_deed:FnK P w K mg base B k "deed_text" 0 ["deed"] [0] 1 uP) (FL_read_deed:Fn P w K mg base B j "read_deed" 1 yU) (KL_read_deed_0_text:FnK P w K mg base B j "read_deed" 0 ["text"] [0] 1 yU) :
  SimSs (cxOf (L2.CX P w) P w K mg base jTO "law" (defScope jFE) f cdv A outer s H E) B N (fun c d _ H=>E c d H) (defBody jFE) (yAR) :=
 (jL (yM ySI.nd rfl (.inl rfl) (jT F__law_open D.tk D.rm rfl (jA (jB (i:=0) rfl (.inl rfl) rfl rfl) jD rfl) rfl rfl rfl) rfl (.inl rfl))
 (jL (jGO D.pa hK rfl (jDW rfl g.n_range (jA jH jD rfl) rfl) (zJ (pg_name ySI.nd rfl (.inl rfl) (.inl rfl))) (fun _=>(jL (yM ySI.nd rfl (.inl rfl) (jT F__law_some_spec D.tk D.rm rfl (jA (jB (i:=1) rfl (.inl rfl) rfl rfl) jD rfl) rfl rfl rfl) rfl (.inl rfl))
 (jL (yM ySI.nd rfl (.inl rfl) (jT F__law_model D.tk D.rm rfl (jA (vD (jA (yE hK (jB (i:=3) rfl (.inl rfl) rfl rfl) jH (fun _ _=>rfl)) (jA (yE hK (jB (i:=3) rfl (.inl rfl) rfl rfl) jH (fun _ _=>rfl)) (jA jEE (jA (yE hK (jB (i:=3) rfl (.inl rfl) rfl rfl) jH (fun _ _=>rfl)) (jA (yE hK (jB (i:=3) rfl (.inl rfl) rfl rfl) jH (fun _ _=>rfl)) jD rfl) rfl) rfl) rfl) rfl)) (jA jH jD rfl) rfl) rfl rfl rfl) rfl (.inl rfl))
 (jL (yM ySI.nd rfl (.inl rfl) (jT F__law_of D.tk D.rm rfl (jA (jB (i:=1) rfl (.inl rfl) rfl rfl) (jA (zP (jA (jT F__law_drawn_drop D.tk D.rm rfl (jA (jB (i:=1) rfl (.inl rfl) rfl rfl) (jA (jB (i:=4) rfl (.inl rfl) rfl rfl) (jA (yE hK (yE hK (jB (i:=4) rfl (.inl rfl) rfl rfl) jH (fun _ _=>rfl)) jH (fun _ _=>rfl)) jD rfl) rfl) rfl) rfl rfl rfl) (jA (jT F__law_drawn_number D.tk D.rm rfl (jA (jB (i:=1) rfl (.inl rfl) rfl rfl) (jA (jB (i:=4) rfl (.inl rfl) rfl rfl) (jA (yE hK (yE hK (jB (i:=4) rfl (.inl rfl) rfl rfl) jH (fun _ _=>rfl)) jH (fun _ _=>rfl)) jD rfl) rfl) rfl) rfl rfl rfl) (jA (vD (jA (jR (jW (by decide +kernel))) (jA (jT F__law_draw D.tk D.rm rfl (jA (jB (i:=1) rfl (.inl rfl) rfl rfl) (jA jH jD rfl) rfl) rfl rfl rfl) jD rfl) rfl)) (jA (vD (jA (jR (jW (by decide +kernel))) (jA jH jD rfl) rfl)) (jA (vD (jA (jR (jW (by decide +kernel))) (jA jH (jA jH (jA vA (jA (vD (jA (jPH jH jH) (jA (jDQ jH (jPH jH jH)) (jA jH jD rfl) rfl) rfl)) jD rfl) rfl) rfl) rfl) rfl)) jD rfl) rfl) rfl) rfl) rfl)) jD rfl) rfl) rfl rfl rfl) rfl (.inl rfl))
 (jL (yM ySI.nd rfl (.inl rfl) (jQW K_deed_text_0_deed D.tk D.rm rfl (jSQ (jB (i:=5) rfl (.inl rfl) rfl rfl) jXN) rfl rfl rfl rfl rfl) rfl (.inl rfl))
 (jL (jXK (i:=7) (j:=8) rfl ySI.nd rfl rfl (by decide) rfl rfl (jA (jDD PySem.F.slot_str_split PySem.F.type_str_split mt_split jGU (jB (i:=6) rfl (.inl rfl) rfl rfl) (jA (jR (jW (by decide +kernel))) jD rfl) rfl rfl rfl rfl rfl) (jA (jT F__law_draw D.tk D.rm rfl (jA (jB (i:=1) rfl (.inl rfl) rfl rfl) (jA (yR hK (yH (bi_len hK) rfl g.n_len (jA (jB (i:=6) rfl (.inl rfl) rfl rfl) jD rfl) (by decide) rfl rfl rfl) jH) jD rfl) rfl) rfl rfl rfl) jD rfl) rfl) rfl rfl)
 (jL (yQ (qY (uC hK (jT F__law_like D.tk D.rm rfl (jA (zP (jA (jT F__law_deed_due D.tk D.rm rfl (jA (jB (i:=6) rfl (.inl rfl) rfl rfl) jD rfl) rfl rfl rfl) (jA (jT F_read_deed D.tk D.rm rfl (jA (jB (i:=6) rfl (.inl rfl) rfl rfl) jD rfl) rfl rfl rfl) jD rfl) rfl)) (jA (zP (jA (jB (i:=5) rfl (.inl rfl) rfl rfl) (jA (jB (i:=5) rfl (.inl rfl) rfl rfl) jD rfl) rfl)) jD rfl) rfl) rfl rfl rfl) (fun _=>rfl))) (jN (jV jEE)) yI)
 (jL (jXK (i:=9) (j:=10) rfl ySI.nd rfl rfl (by decide) rfl rfl (jA (jT F__law_draw D.tk D.rm rfl (jA (jB (i:=1) rfl (.inl rfl) rfl rfl) (jA (yH (bi_len hK) rfl g.n_len (jA (jB (i:=7) rfl (.inl rfl) rfl rfl) jD rfl) (by decide) rfl rfl rfl) jD rfl) rfl) rfl rfl rfl) (jA (jT F__law_of D.tk D.rm rfl (jA (jB (i:=1) rfl (.inl rfl) rfl rfl) (jA (zP (jA (jR (jW (by decide +kernel))) (jA (jR (jW (by decide +kernel))) (jA (jR (jW (by decide +kernel))) (jA (jR (jW (by decide +kernel))) (jA (jR (jW (by decide +kernel))) (jA (jR (jW (by decide +kernel))) (jA (jR (jW (by decide +kernel))) (jA (jR (jW (by decide +kernel))) (jA (jR (jW (by decide +kernel))) (jA (jR (jW (by decide +kernel))) jD rfl) rfl) rfl) rfl) rfl) rfl) rfl) rfl) rfl) rfl)) jD rfl) rfl) rfl rfl rfl) jD rfl) rfl) rfl rfl)
 (jL (yM ySI.nd rfl (.inl rfl) (jLY (jFG (jA (yR hK (yR hK (jBS hK (jB (i:=6) rfl (.inl rfl) rfl rfl) zX (uJ (jB (i:=8) rfl (.inl rfl) rfl rfl))) (jB (i:=10) rfl (.inl rfl) rfl rfl)) (jBS hK (jB (i:=6) rfl (.inl rfl) rfl rfl) (uJ (yR hK (jB (i:=8) rfl (.inl rfl) rfl rfl) (jT F__law_draw D.tk D.rm rfl (jA (jB (i:=1) rfl (.inl rfl) rfl rfl) (jA jH jD rfl) rfl) rfl rfl rfl))) zX)) (jA (jDD PySem.F.slot_str_join PySem.F.type_str_join mt_join (jDX hK) (jR (jW (by decide +kernel))) (jA (yR hK (jBS hK (jB (i:=7) rfl (.inl rfl) rfl rfl) zX (uJ (jB (i:=9) rfl (.inl rfl) rfl rfl))) (jBS hK (jB (i:=7) rfl (.inl rfl) rfl rfl) (uJ (yR hK (jB (i:=9) rfl (.inl rfl) rfl rfl) jH)) zX)) jD rfl) rfl rfl rfl rfl rfl) (jA (yR hK (jB (i:=6) rfl (.inl rfl) rfl rfl) (jB (i:=10) rfl (.inl rfl) rfl rfl)) (jA (jDD PySem.F.slot_str_join PySem.F.type_str_join mt_join (jDX hK) (jR (jW (by decide +kernel))) (jA (yR hK (yR hK (jBS hK (jB (i:=7) rfl (.inl rfl) rfl rfl) zX (uJ (jB (i:=9) rfl (.inl rfl) rfl rfl))) (zP (jA (yE hK (jB (i:=7) rfl (.inl rfl) rfl rfl) (jB (i:=9) rfl (.inl rfl) rfl rfl) (fun _ _=>rfl)) jD rfl))) (jBS hK (jB (i:=7) rfl (.inl rfl) rfl rfl) (uJ (jB (i:=9) rfl (.inl rfl) rfl rfl)) zX)) jD rfl) rfl rfl rfl rfl rfl) (jA (jR (jW (by decide +kernel))) (jA (yNY PySem.F.slot_str_upper PySem.F.type_str_upper mt_upper yGC (jB (i:=6) rfl (.inl rfl) rfl rfl) rfl rfl) jD rfl) rfl) rfl) rfl) rfl) rfl))) rfl (.inl rfl))
 (jL (yFW (yKU (jB (i:=11) rfl (.inl rfl) rfl rfl) (jDD PySem.F.slot_str_join PySem.F.type_str_join mt_join (jDX hK) (jR (jW (by decide +kernel))) (jA (yR hK (jBS hK (jB (i:=7) rfl (.inl rfl) rfl rfl) zX (uJ (jB (i:=9) rfl (.inl rfl) rfl rfl))) (yNW hK (jBS hK (jB (i:=7) rfl (.inl rfl) rfl rfl) (uJ (jB (i:=9) rfl (.inl rfl) rfl rfl)) zX))) jD rfl) rfl rfl rfl rfl rfl) rfl rfl rfl rfl rfl) rfl)
 (jL (jGO D.pa hK rfl (qI hK (jB (i:=11) rfl (.inl rfl) rfl rfl)) (zJ (pg_name ySI.nd rfl (.inr rfl) (.inl rfl))) (fun _=>(jL (yM ySI.nd rfl (.inl rfl) (jT F__law_deed_due D.tk D.rm rfl (jA (jB (i:=12) rfl (.inr (.inl rfl)) rfl rfl) jD rfl) rfl rfl rfl) rfl (.inl rfl))
 (jN (yQ (qY (uC hK (jT F__law_like D.tk D.rm rfl (jA (yDK T_try hxn LT (D.rm.mono (by omega)) rfl (lamS_by (by kernel_rfl)) rfl (fun _ _ _ _ _=>rfl) (fun _ _ _ _ _ _ _ hrL tkL=>(jQW KL_read_deed_0_text tkL hrL rfl (jSQ (jB (i:=12) rfl (.inr (.inr rfl)) rfl rfl) jXN) rfl rfl rfl rfl rfl)) (Nat.le_refl _)) (jA (vJ (jY (jCO) (jB (i:=13) rfl (.inl rfl) rfl rfl) vA rfl) (vD (jA (jR (jW (by decide +kernel))) (jA jH jD rfl) rfl)) (vD (jA (jR (jW (by decide +kernel))) (jA (jB (i:=13) rfl (.inl rfl) rfl rfl) jD rfl) rfl))) jD rfl) rfl) rfl rfl rfl) (fun _=>rfl))) (jN (jV jEE)) yI)))) (fun _=>rfl))
 (jL (yM ySI.nd rfl (.inr rfl) (jT F__law_of D.tk D.rm rfl (jA (jB (i:=1) rfl (.inl rfl) rfl rfl) (jA (zP (jA vA (jA jH (jA jEE (jA (jB (i:=7) rfl (.inl rfl) rfl rfl) (jA (jB (i:=5) rfl (.inl rfl) rfl rfl) jD rfl) rfl) rfl) rfl) rfl)) jD rfl) rfl) rfl rfl rfl) rfl (.inl rfl))
 (jN (yQ (qY (uC hK (jT F__law_like D.tk D.rm rfl (jA (yDK T_try hxn LT (D.rm.mono (by omega)) rfl (lamS_by (by kernel_rfl)) rfl (fun _ _ _ _ _=>rfl) (fun _ _ _ _ _ _ _ hrL tkL=>(jT FL_read_deed tkL hrL rfl (jA (jB (i:=14) rfl (.inr (.inr rfl)) rfl rfl) jD rfl) rfl rfl rfl)) (Nat.le_refl _)) (jA (vD (jA (jR (jW (by decide +kernel))) (jA jH jD rfl) rfl)) jD rfl) rfl) rfl rfl rfl) (fun _=>rfl))) (jN (jV jEE)) yI)))))))))))))) (fun _=>rfl))
 (jN (jV (jT F__law_like D.tk D.rm rfl (jA (jT F_deed_text D.tk D.rm rfl (jA (vD (jA (jR (jW (by decide +kernel))) (jA jH (jA vA (jA jH (jA (vD (jA (jDQ jH jH) (jA jH jD rfl) rfl)) jD rfl) rfl) rfl) rfl) rfl)) jD rfl) rfl rfl rfl) (jA (jR (jW (by decide +kernel))) jD rfl) rfl) rfl rfl rfl)))))
end LW
set_option maxHeartbeats 4000000
namespace Lp
open PySem PySem.Spec PyProof.Rows L2
end Lp
set_option maxHeartbeats 4000000
namespace Lp
open PySem PySem.Spec PyProof.Rows L2
end Lp
namespace Lp
open PySem PySem.Spec PyProof.Rows L2
end Lp
namespace Lp
open PySem PySem.Spec PyProof.Rows L2
end Lp
set_option maxHeartbeats 0
namespace LW
open PySem PySem.Spec PyProof.Rows L2 Lp LamX NdefX
def lsT:List ((PySem.W.Frag→Addr) × Str):=[(fun K=>He.ga K "law", ("law" : Str) ++ ".<locals>." ++ "<lambda>")]
theorem jVS {P:Program} {w:World} {K:PySem.W.Frag} {mg:Str→Option Value} {base:Heap} {B:Bs} (hK:K=B.K) (hw:w=B.w) (g:Gm mg) {fa:Addr} {fd:FuncData} {dvs:List V} {kws:List (Str × V)} (F:FunD K "is_number" "is_number" (defArgs wF) (defBody wF) (defScope wF) dvs kws fa fd)  : FnOk P w K mg base (L2.CX P w) 1 fa fd ["value", "least", "most"] (spF B 3 uY):=by
 unfold uY
 exact fn_ok F jVH rfl rfl fun _ _ _ _ _ _ _ D=>jZQ hK hw g D
theorem yGX {P:Program} {w:World} {K:PySem.W.Frag} {mg:Str→Option Value} {base:Heap} {B:Bs} (hK:K=B.K) (hw:w=B.w) (g:Gm mg) {fa:Addr} {fd:FuncData} {dvs:List V} {kws:List (Str × V)} (F:FunD K "is_key" "is_key" (defArgs jBC) (defBody jBC) (defScope jBC) dvs kws fa fd) (F_is_number:Fn P w K mg base B 1 "is_number" 3 uY):FnOk P w K mg base (L2.CX P w) 2 fa fd ["value"] (spF B 1 qQ):=by
 unfold qQ
 exact fn_ok F yGI rfl rfl fun _ _ _ _ _ _ _ D=>yMY hK hw g D F_is_number
theorem yGW {P:Program} {w:World} {K:PySem.W.Frag} {mg:Str→Option Value} {base:Heap} {B:Bs} (hK:K=B.K) (hw:w=B.w) (g:Gm mg) {fa:Addr} {fd:FuncData} {dvs:List V} {kws:List (Str × V)} (F:FunD K "is_row" "is_row" (defArgs jBB) (defBody jBB) (defScope jBB) dvs kws fa fd) (F_is_number:Fn P w K mg base B 1 "is_number" 3 uY):FnOk P w K mg base (L2.CX P w) 2 fa fd ["value"] (spF B 1 zQ):=by
 unfold zQ
 exact fn_ok F yGH rfl rfl fun _ _ _ _ _ _ _ D=>yMX hK hw g D F_is_number
theorem yCD {P:Program} {w:World} {K:PySem.W.Frag} {mg:Str→Option Value} {base:Heap} {B:Bs} (hK:K=B.K) (hw:w=B.w) (g:Gm mg) {fa:Addr} {fd:FuncData} {dvs:List V} {kws:List (Str × V)} (F:FunD K "is_side" "is_side" (defArgs jAD) (defBody jAD) (defScope jAD) dvs kws fa fd) (F_is_row:Fn P w K mg base B 2 "is_row" 1 zQ):FnOk P w K mg base (L2.CX P w) 3 fa fd ["value"] (spF B 1 zY):=by
 unfold zY
 exact fn_ok F yBQ rfl rfl fun _ _ _ _ _ _ _ D=>yHH hK hw g D F_is_row
theorem yCE {P:Program} {w:World} {K:PySem.W.Frag} {mg:Str→Option Value} {base:Heap} {B:Bs} (hK:K=B.K) (hw:w=B.w) (g:Gm mg) {fa:Addr} {fd:FuncData} {dvs:List V} {kws:List (Str × V)} (F:FunD K "is_deed" "is_deed" (defArgs jAE) (defBody jAE) (defScope jAE) dvs kws fa fd) (F_is_row:Fn P w K mg base B 3 "is_row" 1 zQ) (F_is_side:Fn P w K mg base B 3 "is_side" 1 zY) (F_is_key:Fn P w K mg base B 3 "is_key" 1 qQ):FnOk P w K mg base (L2.CX P w) 4 fa fd ["value"] (spF B 1 qN):=by
 unfold qN
 exact fn_ok F yBR rfl rfl fun _ _ _ _ _ _ _ D=>yHI hK hw g D F_is_row F_is_side F_is_key
theorem jZJ {P:Program} {w:World} {K:PySem.W.Frag} {mg:Str→Option Value} {base:Heap} {B:Bs} (hK:K=B.K) (hw:w=B.w) (g:Gm mg) {fa:Addr} {fd:FuncData} {dvs:List V} {kws:List (Str × V)} (F:FunD K "key_text" "key_text" (defArgs qL) (defBody qL) (defScope qL) dvs kws fa fd)  : FnOk P w K mg base (L2.CX P w) 1 fa fd ["key"] (spF B 1 qR):=by
 unfold qR
 exact fn_ok F jZE rfl rfl fun _ _ _ _ _ _ _ D=>yCK hK hw g D
theorem jVP {P:Program} {w:World} {K:PySem.W.Frag} {mg:Str→Option Value} {base:Heap} {B:Bs} (hK:K=B.K) (hw:w=B.w) (g:Gm mg) {fa:Addr} {fd:FuncData} {dvs:List V} {kws:List (Str × V)} (F:FunD K "side_text" "side_text" (defArgs wB) (defBody wB) (defScope wB) dvs kws fa fd)  : FnOk P w K mg base (L2.CX P w) 1 fa fd ["side"] (spF B 1 uE):=by
 unfold uE
 exact fn_ok F jVE rfl rfl fun _ _ _ _ _ _ _ D=>jZN hK hw g D
theorem jVT {P:Program} {w:World} {K:PySem.W.Frag} {mg:Str→Option Value} {base:Heap} {B:Bs} (hK:K=B.K) (hw:w=B.w) (g:Gm mg) {fa:Addr} {fd:FuncData} {dvs:List V} {kws:List (Str × V)} (F:FunD K "deed_text" "deed_text" (defArgs wG) (defBody wG) (defScope wG) dvs kws fa fd) (F_is_deed:Fn P w K mg base B 4 "is_deed" 1 qN) (F_key_text:Fn P w K mg base B 4 "key_text" 1 qR) (F_side_text:Fn P w K mg base B 4 "side_text" 1 uE) (X_InvalidDeed:ExcA P w K mg base B 4 "InvalidDeed" 0 0 jAQ):FnOk P w K mg base (L2.CX P w) 5 fa fd ["deed"] (spF B 1 uP):=by
 unfold uP
 exact fn_ok F jVI rfl rfl fun _ _ _ _ _ _ _ D=>jZR hK hw g D F_is_deed F_key_text F_side_text X_InvalidDeed
theorem jVR {P:Program} {w:World} {K:PySem.W.Frag} {mg:Str→Option Value} {base:Heap} {B:Bs} (hK:K=B.K) (hw:w=B.w) (g:Gm mg) {fa:Addr} {fd:FuncData} {dvs:List V} {kws:List (Str × V)} (F:FunD K "number_in" "number_in" (defArgs wD) (defBody wD) (defScope wD) dvs kws fa fd)  : FnOk P w K mg base (L2.CX P w) 1 fa fd ["word"] (spF B 1 uX):=by
 unfold uX
 exact fn_ok F jVG rfl rfl fun _ _ _ _ _ _ _ D=>jZP hK hw g D
theorem yGV {P:Program} {w:World} {K:PySem.W.Frag} {mg:Str→Option Value} {base:Heap} {B:Bs} (hK:K=B.K) (hw:w=B.w) (g:Gm mg) {fa:Addr} {fd:FuncData} {dvs:List V} {kws:List (Str × V)} (F:FunD K "key_in" "key_in" (defArgs jBA) (defBody jBA) (defScope jBA) dvs kws fa fd) (F_number_in:Fn P w K mg base B 2 "number_in" 1 uX) (F_is_key:Fn P w K mg base B 2 "is_key" 1 qQ):FnOk P w K mg base (L2.CX P w) 3 fa fd ["word"] (spF B 1 jBV):=by
 unfold jBV
 exact fn_ok F yGG rfl rfl fun _ _ _ _ _ _ _ D=>yMW hK hw g D F_number_in F_is_key
theorem yCC {P:Program} {w:World} {K:PySem.W.Frag} {mg:Str→Option Value} {base:Heap} {B:Bs} (hK:K=B.K) (hw:w=B.w) (g:Gm mg) {fa:Addr} {fd:FuncData} {dvs:List V} {kws:List (Str × V)} (F:FunD K "side_in" "side_in" (defArgs jAC) (defBody jAC) (defScope jAC) dvs kws fa fd) (F_number_in:Fn P w K mg base B 2 "number_in" 1 uX) (F_is_row:Fn P w K mg base B 2 "is_row" 1 zQ):FnOk P w K mg base (L2.CX P w) 3 fa fd ["word"] (spF B 1 uK):=by
 unfold uK
 exact fn_ok F yBP rfl rfl fun _ _ _ _ _ _ _ D=>yHG hK hw g D F_number_in F_is_row
theorem yCF {P:Program} {w:World} {K:PySem.W.Frag} {mg:Str→Option Value} {base:Heap} {B:Bs} (hK:K=B.K) (hw:w=B.w) (g:Gm mg) {fa:Addr} {fd:FuncData} {dvs:List V} {kws:List (Str × V)} (F:FunD K "deed_in" "deed_in" (defArgs jAF) (defBody jAF) (defScope jAF) dvs kws fa fd) (F_side_in:Fn P w K mg base B 3 "side_in" 1 uK) (F_key_in:Fn P w K mg base B 3 "key_in" 1 jBV):FnOk P w K mg base (L2.CX P w) 4 fa fd ["words"] (spF B 1 jCD):=by
 unfold jCD
 exact fn_ok F yBS rfl rfl fun _ _ _ _ _ _ _ D=>yHJ hK hw g D F_side_in F_key_in
theorem jVQ {P:Program} {w:World} {K:PySem.W.Frag} {mg:Str→Option Value} {base:Heap} {B:Bs} (hK:K=B.K) (hw:w=B.w) (g:Gm mg) {fa:Addr} {fd:FuncData} {dvs:List V} {kws:List (Str × V)} (F:FunD K "read_deed" "read_deed" (defArgs wC) (defBody wC) (defScope wC) dvs kws fa fd) (F_deed_in:Fn P w K mg base B 4 "deed_in" 1 jCD) (F_is_deed:Fn P w K mg base B 4 "is_deed" 1 qN) (X_InvalidText:ExcA P w K mg base B 4 "InvalidText" 1 1 jAP):FnOk P w K mg base (L2.CX P w) 5 fa fd ["text"] (spF B 1 yU):=by
 unfold yU
 exact fn_ok F jVF rfl rfl fun _ _ _ _ _ _ _ D=>jZO hK hw g D F_deed_in F_is_deed X_InvalidText
theorem jVV {P:Program} {w:World} {K:PySem.W.Frag} {mg:Str→Option Value} {base:Heap} {B:Bs} (hK:K=B.K) (hw:w=B.w) (g:Gm mg) {fa:Addr} {fd:FuncData} {dvs:List V} {kws:List (Str × V)} (F:FunD K "_law_open" "_law_open" (defArgs wI) (defBody wI) (defScope wI) dvs kws fa fd)  : FnOk P w K mg base (L2.CX P w) 1 fa fd ["_law_script"] (spF B 1 jAB):=by
 unfold jAB
 exact fn_ok F jVK rfl rfl fun _ _ _ _ _ _ _ D=>jZT hK hw g D
theorem jVZ {P:Program} {w:World} {K:PySem.W.Frag} {mg:Str→Option Value} {base:Heap} {B:Bs} (hK:K=B.K) (hw:w=B.w) (g:Gm mg) {fa:Addr} {fd:FuncData} {dvs:List V} {kws:List (Str × V)} (F:FunD K "_law_draw" "_law_draw" (defArgs wM) (defBody wM) (defScope wM) dvs kws fa fd)  : FnOk P w K mg base (L2.CX P w) 1 fa fd ["_law_bag", "_law_many"] (spF B 2 jZ):=by
 unfold jZ
 exact fn_ok F jVN rfl rfl fun _ _ _ _ _ _ _ D=>jZX hK hw g D
theorem yCG {P:Program} {w:World} {K:PySem.W.Frag} {mg:Str→Option Value} {base:Heap} {B:Bs} (hK:K=B.K) (hw:w=B.w) (g:Gm mg) {fa:Addr} {fd:FuncData} {dvs:List V} {kws:List (Str × V)} (F:FunD K "_law_of" "_law_of" (defArgs jAG) (defBody jAG) (defScope jAG) dvs kws fa fd) (F__law_draw:Fn P w K mg base B 1 "_law_draw" 2 jZ):FnOk P w K mg base (L2.CX P w) 2 fa fd ["_law_bag", "_law_things"] (spF B 2 vB):=by
 unfold vB
 exact fn_ok F yBT rfl rfl fun _ _ _ _ _ _ _ D=>yHK hK hw g D F__law_draw
theorem jNB {P:Program} {w:World} {K:PySem.W.Frag} {mg:Str→Option Value} {base:Heap} {B:Bs} (hK:K=B.K) (hw:w=B.w) (g:Gm mg) {fa:Addr} {fd:FuncData} (F:FunD K "_law_like" "_law_like" (defArgs uL) (defBody uL) (defScope uL) [] [] fa fd) (hm:mg "_law_like" = some (.ref fa))  : ∀ n:Nat,FnOk P w K mg base (L2.CX P w) (0+n+1) fa fd ["_law_found", "_law_due"] (spF B 2 (jHY n))
 | 0=>yUK F jMV
 | n+1=>fn_ok (k:=0+n+1) F jMV rfl rfl fun _ _ _ _ _ _ _ D=>jZV hK hw g D ⟨fa,fd,_,jNB hK hw g F hm  n,hm,F.kp,(F.bindsN fun _ _ _ _ _ _ us hl=>match us,hl with | [_,_],_=>rfl)⟩
theorem jVX {P:Program} {w:World} {K:PySem.W.Frag} {mg:Str→Option Value} {base:Heap} {B:Bs} (hK:K=B.K) (hw:w=B.w) (g:Gm mg) {fa:Addr} {fd:FuncData} (F:FunD K "_law_like" "_law_like" (defArgs uL) (defBody uL) (defScope uL) [] [] fa fd) (hm:mg "_law_like" = some (.ref fa))  : FnOk P w K mg base (L2.CX P w) 9 fa fd ["_law_found", "_law_due"] (spF B 2 uF):=by
 unfold uF
 exact jNB hK hw g F hm  8
theorem jRX {P:Program} {w:World} {K:PySem.W.Frag} {mg:Str→Option Value} {base:Heap} {B:Bs} (hK:K=B.K) (hw:w=B.w) (g:Gm mg) {fa:Addr} {fd:FuncData} {dvs:List V} {kws:List (Str × V)} (F:FunD K "_law_field" "_law_field" (defArgs zM) (defBody zM) (defScope zM) dvs kws fa fd) (XC:XClsF K B xfl) (hm:mg "_law_field" = some (.ref fa)) (hb:L2.Binds K fd ["_law_e"] [])  : FnX P w K mg base B 1 "_law_field" 1 jEM:=by
 unfold jEM
 exact yUI F jRV hm hb rfl rfl fun _ _ _ _ _ _ _ p c dd D=>jWB (B:=B) (c:=c) (dd:=dd) hK hw g XC D
theorem jNE {P:Program} {w:World} {K:PySem.W.Frag} {mg:Str→Option Value} {base:Heap} {B:Bs} (hK:K=B.K) (hw:w=B.w) (g:Gm mg) {fa:Addr} {fd:FuncData} {dvs:List V} {kws:List (Str × V)} (F:FunD K "_law_some_spec" "_law_some_spec" (defArgs vN) (defBody vN) (defScope vN) dvs kws fa fd) (F__law_of:Fn P w K mg base B 2 "_law_of" 2 vB) (F__law_draw:Fn P w K mg base B 2 "_law_draw" 2 jZ):FnOk P w K mg base (L2.CX P w) 3 fa fd ["_law_bag"] (spF B 1 uM):=by
 unfold uM
 exact fn_ok F jND rfl rfl fun _ _ _ _ _ _ _ D=>jOM hK hw g D F__law_of F__law_draw
theorem jVW {P:Program} {w:World} {K:PySem.W.Frag} {mg:Str→Option Value} {base:Heap} {B:Bs} (hK:K=B.K) (hw:w=B.w) (g:Gm mg) {fa:Addr} {fd:FuncData} {dvs:List V} {kws:List (Str × V)} (F:FunD K "_law_line" "_law_line" (defArgs wJ) (defBody wJ) (defScope wJ) dvs kws fa fd)  : FnOk P w K mg base (L2.CX P w) 1 fa fd ["_law_moment", "_law_whole"] (spF B 2 uZ):=by
 unfold uZ
 exact fn_ok F jVL rfl rfl fun _ _ _ _ _ _ _ D=>jZU hK hw g D
theorem jRW {P:Program} {w:World} {K:PySem.W.Frag} {mg:Str→Option Value} {base:Heap} {B:Bs} (hK:K=B.K) (hw:w=B.w) (g:Gm mg) {fa:Addr} {fd:FuncData} {dvs:List V} {kws:List (Str × V)} (F:FunD K "_law_model" "_law_model" (defArgs zL) (defBody zL) (defScope zL) dvs kws fa fd)  : FnOk P w K mg base (L2.CX P w) 1 fa fd ["_law_spec", "_law_rows"] (spF B 2 qJ):=by
 unfold qJ
 exact fn_ok F jRU rfl rfl fun _ _ _ _ _ _ _ D=>jWA hK hw g D
theorem jVU {P:Program} {w:World} {K:PySem.W.Frag} {mg:Str→Option Value} {base:Heap} {B:Bs} (hK:K=B.K) (hw:w=B.w) (g:Gm mg) {fa:Addr} {fd:FuncData} {dvs:List V} {kws:List (Str × V)} (F:FunD K "_law_used" "_law_used" (defArgs wH) (defBody wH) (defScope wH) dvs kws fa fd)  : FnOk P w K mg base (L2.CX P w) 1 fa fd ["_law_model_here"] (spF B 1 jAA):=by
 unfold jAA
 exact fn_ok F jVJ rfl rfl fun _ _ _ _ _ _ _ D=>jZS hK hw g D
theorem jPC {P:Program} {w:World} {K:PySem.W.Frag} {mg:Str→Option Value} {base:Heap} {B:Bs} (hK:K=B.K) (hw:w=B.w) (g:Gm mg) {fa:Addr} {fd:FuncData} {dvs:List V} {kws:List (Str × V)} (F:FunD K "_law_shifted" "_law_shifted" (defArgs uH) (defBody uH) (defScope uH) dvs kws fa fd)  : FnOk P w K mg base (L2.CX P w) 1 fa fd ["_law_low", "_law_high", "_law_many", "_law_shift"] (spF B 4 uG):=by
 unfold uG
 exact fn_ok F jPB rfl rfl fun _ _ _ _ _ _ _ D=>jRO hK hw g D
theorem jVY {P:Program} {w:World} {K:PySem.W.Frag} {mg:Str→Option Value} {base:Heap} {B:Bs} (hK:K=B.K) (hw:w=B.w) (g:Gm mg) {fa:Addr} {fd:FuncData} {dvs:List V} {kws:List (Str × V)} (F:FunD K "_law_keys" "_law_keys" (defArgs wL) (defBody wL) (defScope wL) dvs kws fa fd) (F__law_draw:Fn P w K mg base B 1 "_law_draw" 2 jZ) (F__law_used:Fn P w K mg base B 1 "_law_used" 1 jAA) (F__law_shifted:Fn P w K mg base B 1 "_law_shifted" 4 uG):FnOk P w K mg base (L2.CX P w) 2 fa fd ["_law_bag", "_law_model_here", "_law_low", "_law_high", "_law_many"] (spF B 5 zA):=by
 unfold zA
 exact fn_ok F jVM rfl rfl fun _ _ _ _ _ _ _ D=>jZW hK hw g D F__law_draw F__law_used F__law_shifted
theorem jZL {P:Program} {w:World} {K:PySem.W.Frag} {mg:Str→Option Value} {base:Heap} {B:Bs} (hK:K=B.K) (hw:w=B.w) (g:Gm mg) {fa:Addr} {fd:FuncData} {dvs:List V} {kws:List (Str × V)} (F:FunD K "_law_key" "_law_key" (defArgs qM) (defBody qM) (defScope qM) dvs kws fa fd)  : FnOk P w K mg base (L2.CX P w) 1 fa fd ["_law_moment", "_law_side"] (spF B 2 uD):=by
 unfold uD
 exact fn_ok F jZG rfl rfl fun _ _ _ _ _ _ _ D=>yCL hK hw g D
theorem jRL {P:Program} {w:World} {K:PySem.W.Frag} {mg:Str→Option Value} {base:Heap} {B:Bs} (hK:K=B.K) (hw:w=B.w) (g:Gm mg) {fa:Addr} {fd:FuncData} {dvs:List V} {kws:List (Str × V)} (F:FunD K "_law_listed" "_law_listed" (defArgs uV) (defBody uV) (defScope uV) dvs kws fa fd)  : FnOk P w K mg base (L2.CX P w) 1 fa fd ["_law_line_here", "_law_left", "_law_right"] (spF B 3 wN):=by
 unfold wN
 exact fn_ok F jRI rfl rfl fun _ _ _ _ _ _ _ D=>jRY hK hw g D
theorem jLN {P:Program} {w:World} {K:PySem.W.Frag} {mg:Str→Option Value} {base:Heap} {B:Bs} (hK:K=B.K) (hw:w=B.w) (g:Gm mg) {fa:Addr} {fd:FuncData} {dvs:List V} {kws:List (Str × V)} (F:FunD K "_law_drawn_drop" "_law_drawn_drop" (defArgs vH) (defBody vH) (defScope vH) dvs kws fa fd) (F__law_line:Fn P w K mg base B 2 "_law_line" 2 uZ) (F__law_of:Fn P w K mg base B 2 "_law_of" 2 vB) (F__law_draw:Fn P w K mg base B 2 "_law_draw" 2 jZ) (F__law_keys:Fn P w K mg base B 2 "_law_keys" 5 zA) (F__law_key:Fn P w K mg base B 2 "_law_key" 2 uD):FnOk P w K mg base (L2.CX P w) 3 fa fd ["_law_bag", "_law_model_here", "_law_moment"] (spF B 3 vZ):=by
 unfold vZ
 exact fn_ok F jLL rfl rfl fun _ _ _ _ _ _ _ D=>jNG hK hw g D F__law_line F__law_of F__law_draw F__law_keys F__law_key
theorem jJP {P:Program} {w:World} {K:PySem.W.Frag} {mg:Str→Option Value} {base:Heap} {B:Bs} (hK:K=B.K) (hw:w=B.w) (g:Gm mg) {fa:Addr} {fd:FuncData} {dvs:List V} {kws:List (Str × V)} (F:FunD K "_law_drawn_number" "_law_drawn_number" (defArgs yZ) (defBody yZ) (defScope yZ) dvs kws fa fd) (F__law_line:Fn P w K mg base B 2 "_law_line" 2 uZ) (F__law_draw:Fn P w K mg base B 2 "_law_draw" 2 jZ) (F__law_listed:Fn P w K mg base B 2 "_law_listed" 3 wN) (F__law_keys:Fn P w K mg base B 2 "_law_keys" 5 zA) (F__law_key:Fn P w K mg base B 2 "_law_key" 2 uD):FnOk P w K mg base (L2.CX P w) 3 fa fd ["_law_bag", "_law_model_here", "_law_moment"] (spF B 3 vK):=by
 unfold vK
 exact fn_ok F jJO rfl rfl fun _ _ _ _ _ _ _ D=>jKH hK hw g D F__law_line F__law_draw F__law_listed F__law_keys F__law_key
theorem jLM {P:Program} {w:World} {K:PySem.W.Frag} {mg:Str→Option Value} {base:Heap} {B:Bs} (hK:K=B.K) (hw:w=B.w) (g:Gm mg) {fa:Addr} {fd:FuncData} {dvs:List V} {kws:List (Str × V)} (F:FunD K "_law_number_due" "_law_number_due" (defArgs vG) (defBody vG) (defScope vG) dvs kws fa fd)  : FnOk P w K mg base (L2.CX P w) 1 fa fd ["_law_word"] (spF B 1 yV):=by
 unfold yV
 exact fn_ok F jLK rfl rfl fun _ _ _ _ _ _ _ D=>jNF hK hw g D
theorem jOL {P:Program} {w:World} {K:PySem.W.Frag} {mg:Str→Option Value} {base:Heap} {B:Bs} (hK:K=B.K) (hw:w=B.w) (g:Gm mg) {fa:Addr} {fd:FuncData} {dvs:List V} {kws:List (Str × V)} (F:FunD K "_law_deed_due" "_law_deed_due" (defArgs vW) (defBody vW) (defScope vW) dvs kws fa fd) (F__law_number_due:Fn P w K mg base B 1 "_law_number_due" 1 yV):FnOk P w K mg base (L2.CX P w) 2 fa fd ["_law_text_z"] (spF B 1 vC):=by
 unfold vC
 exact fn_ok F jOK rfl rfl fun _ _ _ _ _ _ _ D=>jPD hK hw g D F__law_number_due
theorem yUH {P:Program} {w:World} {K:PySem.W.Frag} {mg:Str→Option Value} {base:Heap} {B:Bs} (hK:K=B.K) (hw:w=B.w) (g:Gm mg) {fd:FuncData} (F:FunD K "law" "law" (defArgs jFE) (defBody jFE) (defScope jFE) [] [] (He.ga K "law") fd) (hxn:B.xn=none) (TB:TabB base mg (jCI K (He.ga K "law")) (jDA K (He.ga K "law"))) (hT:B.T=yFD K lsT) (nd:ndT K lsT=true) (hcode:∀ {fd:FuncData} {oc:Value} {od:Option Addr} {osl:Array (Option Value)},K.lookup (He.ga K "law")=some ⟨oc,od,.func fd,osl⟩→fd.code=.ref (jCI K (He.ga K "law")))
  (T_try:TryF P w K mg base B 6 "_law_try" okc jEK) (F__law_open:Fn P w K mg base B 9 "_law_open" 1 jAB) (F__law_some_spec:Fn P w K mg base B 9 "_law_some_spec" 1 uM) (F__law_model:Fn P w K mg base B 9 "_law_model" 2 qJ) (F__law_of:Fn P w K mg base B 9 "_law_of" 2 vB) (F__law_draw:Fn P w K mg base B 9 "_law_draw" 2 jZ) (F__law_drawn_number:Fn P w K mg base B 9 "_law_drawn_number" 3 vK) (F__law_drawn_drop:Fn P w K mg base B 9 "_law_drawn_drop" 3 vZ) (F__law_like:Fn P w K mg base B 9 "_law_like" 2 uF) (F_read_deed:Fn P w K mg base B 9 "read_deed" 1 yU) (F__law_deed_due:Fn P w K mg base B 9 "_law_deed_due" 1 vC) (F_deed_text:Fn P w K mg base B 9 "deed_text" 1 uP) (K_deed_text_0_deed:FnK P w K mg base B 9 "deed_text" 0 ["deed"] [0] 1 uP) (FL_read_deed:Fn P w K mg base B 5 "read_deed" 1 yU) (KL_read_deed_0_text:FnK P w K mg base B 5 "read_deed" 0 ["text"] [0] 1 yU):FnOk P w K mg base (L2.CX P w) 10 (He.ga K "law") fd ["_law_script"] (spF B 1 jOP):=by
 unfold jOP
 exact yUJ F ySI rfl rfl hcode fun _ _ _ _ _ _ D=>yWW hK hw g D hxn (j:=5) (by decide) T_try (yPO (g:=fun K=>He.ga K "law") TB hT nd rfl (by simp [lsT])) F__law_open F__law_some_spec F__law_model F__law_of F__law_draw F__law_drawn_number F__law_drawn_drop F__law_like F_read_deed F__law_deed_due F_deed_text K_deed_text_0_deed FL_read_deed KL_read_deed_0_text
def jFV:DefL:=⟨fun K=>He.ga K "is_number", "is_number", "is_number", defArgs wF,defBody wF,defScope wF,[],[],[]⟩
def jML:DefL:=⟨fun K=>He.ga K "is_key", "is_key", "is_key", defArgs jBC,defBody jBC,defScope jBC,[],[],[]⟩
def jMK:DefL:=⟨fun K=>He.ga K "is_row", "is_row", "is_row", defArgs jBB,defBody jBB,defScope jBB,[],[],[]⟩
def jKA:DefL:=⟨fun K=>He.ga K "is_side", "is_side", "is_side", defArgs jAD,defBody jAD,defScope jAD,[],[],[]⟩
def jKB:DefL:=⟨fun K=>He.ga K "is_deed", "is_deed", "is_deed", defArgs jAE,defBody jAE,defScope jAE,[],[],[]⟩
def jHI:DefL:=⟨fun K=>He.ga K "key_text", "key_text", "key_text", defArgs qL,defBody qL,defScope qL,[],[],[]⟩
def jFS:DefL:=⟨fun K=>He.ga K "side_text", "side_text", "side_text", defArgs wB,defBody wB,defScope wB,[],[],[]⟩
def jFW:DefL:=⟨fun K=>He.ga K "deed_text", "deed_text", "deed_text", defArgs wG,defBody wG,defScope wG,[],[],[]⟩
def jFU:DefL:=⟨fun K=>He.ga K "number_in", "number_in", "number_in", defArgs wD,defBody wD,defScope wD,[],[],[]⟩
def jMJ:DefL:=⟨fun K=>He.ga K "key_in", "key_in", "key_in", defArgs jBA,defBody jBA,defScope jBA,[],[],[]⟩
def jJZ:DefL:=⟨fun K=>He.ga K "side_in", "side_in", "side_in", defArgs jAC,defBody jAC,defScope jAC,[],[],[]⟩
def jKC:DefL:=⟨fun K=>He.ga K "deed_in", "deed_in", "deed_in", defArgs jAF,defBody jAF,defScope jAF,[],[],[]⟩
def jFT:DefL:=⟨fun K=>He.ga K "read_deed", "read_deed", "read_deed", defArgs wC,defBody wC,defScope wC,[],[],[]⟩
def jFY:DefL:=⟨fun K=>He.ga K "_law_open", "_law_open", "_law_open", defArgs wI,defBody wI,defScope wI,[],[],[]⟩
def jGC:DefL:=⟨fun K=>He.ga K "_law_draw", "_law_draw", "_law_draw", defArgs wM,defBody wM,defScope wM,[],[],[]⟩
def jKD:DefL:=⟨fun K=>He.ga K "_law_of", "_law_of", "_law_of", defArgs jAG,defBody jAG,defScope jAG,[],[],[]⟩
def jGA:DefL:=⟨fun K=>He.ga K "_law_like", "_law_like", "_law_like", defArgs uL,defBody uL,defScope uL,[],[],[]⟩
def jEQ:DefL:=⟨fun K=>He.ga K "_law_field", "_law_field", "_law_field", defArgs zM,defBody zM,defScope zM,[],[],[]⟩
def jHJ:DefL:=⟨fun K=>He.ga K "_law_try", "_law_try", "_law_try", defArgs jBX,defBody jBX,defScope jBX,[],[],[]⟩
def jCF:DefL:=⟨fun K=>He.ga K "_law_some_spec", "_law_some_spec", "_law_some_spec", defArgs vN,defBody vN,defScope vN,[],[],[]⟩
def jFZ:DefL:=⟨fun K=>He.ga K "_law_line", "_law_line", "_law_line", defArgs wJ,defBody wJ,defScope wJ,[],[],[]⟩
def jEP:DefL:=⟨fun K=>He.ga K "_law_model", "_law_model", "_law_model", defArgs zL,defBody zL,defScope zL,[],[],[]⟩
def jFX:DefL:=⟨fun K=>He.ga K "_law_used", "_law_used", "_law_used", defArgs wH,defBody wH,defScope wH,[],[],[]⟩
def jDE:DefL:=⟨fun K=>He.ga K "_law_shifted", "_law_shifted", "_law_shifted", defArgs uH,defBody uH,defScope uH,[],[],[]⟩
def jGB:DefL:=⟨fun K=>He.ga K "_law_keys", "_law_keys", "_law_keys", defArgs wL,defBody wL,defScope wL,[],[],[]⟩
def jHK:DefL:=⟨fun K=>He.ga K "_law_key", "_law_key", "_law_key", defArgs qM,defBody qM,defScope qM,[],[],[]⟩
def jDS:DefL:=⟨fun K=>He.ga K "_law_listed", "_law_listed", "_law_listed", defArgs uV,defBody uV,defScope uV,[],[],[]⟩
def jBM:DefL:=⟨fun K=>He.ga K "_law_drawn_drop", "_law_drawn_drop", "_law_drawn_drop", defArgs vH,defBody vH,defScope vH,[],[],[]⟩
def jAJ:DefL:=⟨fun K=>He.ga K "_law_drawn_number", "_law_drawn_number", "_law_drawn_number", defArgs yZ,defBody yZ,defScope yZ,[],[],[]⟩
def jBL:DefL:=⟨fun K=>He.ga K "_law_number_due", "_law_number_due", "_law_number_due", defArgs vG,defBody vG,defScope vG,[],[],[]⟩
def jCL:DefL:=⟨fun K=>He.ga K "_law_deed_due", "_law_deed_due", "_law_deed_due", defArgs vW,defBody vW,defScope vW,[],[],[]⟩
def yDC:DefL:=⟨fun K=>He.ga K "law", "law", "law", defArgs jFE,defBody jFE,defScope jFE,[],[],[]⟩
abbrev jAO:Stmt:=(yVG (top 4)).getD 0 (.Pass ⟨0,0,0,0⟩)
def jJM:DefL:=⟨fun K=>He.ma K (He.ga K "InvalidDeed") "__init__", "__init__", "InvalidDeed.__init__", defArgs jAO,defBody jAO,defScope jAO,["__class__"],[],[]⟩
abbrev jAN:Stmt:=(yVG (top 5)).getD 0 (.Pass ⟨0,0,0,0⟩)
def jJL:DefL:=⟨fun K=>He.ma K (He.ga K "InvalidText") "__init__", "__init__", "InvalidText.__init__", defArgs jAN,defBody jAN,defScope jAN,["__class__"],[],[]⟩
def fnT:List DefL:=[jFV,jML,jMK,jKA,jKB,jHI,jFS,jFW,jFU,jMJ,jJZ,jKC,jFT,jFY,jGC,jKD,jGA,jEQ,jHJ,jCF,jFZ,jEP,jFX,jDE,jGB,jHK,jDS,jBM,jAJ,jBL,jCL,yDC,jJM,jJL]
def tsT:List He.Tab:=[]
def faT:List FactL:=[(fun K _=>(He.Fa.glo "is_number").ok K),
 (fun K _=>(He.Fa.glo "is_key").ok K),
 (fun K _=>(He.Fa.glo "is_row").ok K),
 (fun K _=>(He.Fa.glo "is_side").ok K),
 (fun K _=>(He.Fa.glo "is_deed").ok K),
 (fun K _=>(He.Fa.glo "key_text").ok K),
 (fun K _=>(He.Fa.glo "side_text").ok K),
 (fun K _=>(He.Fa.glo "deed_text").ok K),
 (fun K _=>(He.Fa.glo "number_in").ok K),
 (fun K _=>(He.Fa.glo "key_in").ok K),
 (fun K _=>(He.Fa.glo "side_in").ok K),
 (fun K _=>(He.Fa.glo "deed_in").ok K),
 (fun K _=>(He.Fa.glo "read_deed").ok K),
 (fun K _=>(He.Fa.glo "_law_open").ok K),
 (fun K _=>(He.Fa.glo "_law_draw").ok K),
 (fun K _=>(He.Fa.glo "_law_of").ok K),
 (fun K _=>(He.Fa.glo "_law_like").ok K),
 (fun K _=>(He.Fa.glo "_law_field").ok K),
 (fun K _=>(He.Fa.glo "_law_try").ok K),
 (fun K _=>(He.Fa.glo "_law_some_spec").ok K),
 (fun K _=>(He.Fa.glo "_law_line").ok K),
 (fun K _=>(He.Fa.glo "_law_model").ok K),
 (fun K _=>(He.Fa.glo "_law_used").ok K),
 (fun K _=>(He.Fa.glo "_law_shifted").ok K),
 (fun K _=>(He.Fa.glo "_law_keys").ok K),
 (fun K _=>(He.Fa.glo "_law_key").ok K),
 (fun K _=>(He.Fa.glo "_law_listed").ok K),
 (fun K _=>(He.Fa.glo "_law_drawn_drop").ok K),
 (fun K _=>(He.Fa.glo "_law_drawn_number").ok K),
 (fun K _=>(He.Fa.glo "_law_number_due").ok K),
 (fun K _=>(He.Fa.glo "_law_deed_due").ok K),
 (fun K _=>(He.Fa.glo "law").ok K),
 (fun K _=>(He.Fa.free "abs").ok K),
 (fun K _=>(He.Fa.free "all").ok K),
 (fun K _=>(He.Fa.free "bool").ok K),
 (fun K _=>(He.Fa.free "enumerate").ok K),
 (fun K _=>(He.Fa.free "int").ok K),
 (fun K _=>(He.Fa.free "isinstance").ok K),
 (fun K _=>(He.Fa.free "len").ok K),
 (fun K _=>(He.Fa.free "list").ok K),
 (fun K _=>(He.Fa.free "range").ok K),
 (fun K _=>(He.Fa.free "sorted").ok K),
 (fun K _=>(He.Fa.free "str").ok K),
 (fun K _=>(He.Fa.free "tuple").ok K),
 (fun K _=>(He.Fa.free "zip").ok K),
 (fun K _=>(He.Fa.str "DIGITS" "0123456789").ok K),
 (fun K _=>(He.Fa.int "GREATEST_ROW" 39).ok K),
 (fun K _=>(He.Fa.int "MOST_DIGITS" 19).ok K),
 (fun K _=>(He.Fa.int "MOST_LISTED" 40).ok K),
 (fun K _=>(He.Fa.int "MOST_NUMBER" 1000000000000000000).ok K),
 (fun K _=>(He.Fa.int "MOST_NUMBERS" 40).ok K),
 (fun K _=>(He.Fa.glo "DropError").ok K),
 (fun K _=>(He.Fa.glo "Missing").ok K),
 (fun K _=>(He.Fa.glo "NothingLeft").ok K),
 (fun K _=>(He.Fa.glo "InvalidDeed").ok K),
 (fun K _=>jWC K "ValueError" "ValueError.__init__" "ValueError.__new__" [.type "ValueError", .type "Exception", .type "BaseException", .type "object"] (He.ga K "InvalidDeed")),
 (fun K _=>jTD K (He.ga K "InvalidDeed") ["code"]),
 (fun K _=>jSE K (He.ga K "InvalidDeed") (He.ma K (He.ga K "InvalidDeed") "__init__")),
 (fun K _=>jWD Pg K (He.ma K (He.ga K "InvalidDeed") "__init__") (He.ga K "InvalidDeed")),
 (fun K _=>decide (PySem.W.exmAny K (.ref (He.ga K "InvalidDeed")) [.ref (He.ga K "DropError"),.ref (He.ga K "Missing"),.ref (He.ga K "NothingLeft")]=some true)),
 (fun K _=>(He.Fa.glo "InvalidText").ok K),
 (fun K _=>jWC K "ValueError" "ValueError.__init__" "ValueError.__new__" [.type "ValueError", .type "Exception", .type "BaseException", .type "object"] (He.ga K "InvalidText")),
 (fun K _=>jTD K (He.ga K "InvalidText") ["code", "line"]),
 (fun K _=>jSE K (He.ga K "InvalidText") (He.ma K (He.ga K "InvalidText") "__init__")),
 (fun K _=>jWD Pg K (He.ma K (He.ga K "InvalidText") "__init__") (He.ga K "InvalidText")),
 (fun K _=>decide (PySem.W.exmAny K (.ref (He.ga K "InvalidText")) [.ref (He.ga K "DropError"),.ref (He.ga K "Missing"),.ref (He.ga K "NothingLeft")]=some true)),
 (fun K _=>(He.Fa.free "super").ok K),
 (fun K T=>jZY K T (He.ga K "law")),
 (fun K _=>ndT K lsT)]
def names0:List PySem.Str:=["DropError", "Missing", "NothingLeft", "InvalidDeed", "InvalidText", "MOST_NUMBERS", "MOST_NUMBER", "is_number", "is_key", "DIGITS", "GREATEST_ROW", "MOST_LISTED", "MOST_DIGITS", "is_row", "is_side", "is_deed", "key_text", "side_text", "deed_text", "number_in", "key_in", "side_in", "deed_in", "read_deed", "_law_open", "_law_draw", "_law_of", "_law_like", "_law_field", "_law_try"]
def names1:List PySem.Str:=["_law_some_spec", "_law_line", "_law_model", "_law_used", "_law_shifted", "_law_keys", "_law_key", "_law_listed", "_law_drawn_drop", "_law_drawn_number", "_law_number_due", "_law_deed_due"]
def jIU:List PySem.Str:=names0++names1
abbrev qv:Program:=PySem.W.view Rw.prog [46]
abbrev hkT:PySem.W.Hook:=yRD 2000 faT fnT tsT
def obT (s:PySem.W.SharedT):AlL:=yCX 2000 faT fnT tsT (HandSHeadRun.getT s)
theorem yTT (s:PySem.W.SharedT):obT s=hkT.obs s.abs:=yLZ (HandSHeadRun.getT_eq s)
theorem ySP (w:World):RunLa Rw 40000 (w.withFollow "special-get-raises" false):=by
 intro os
 kernel_rfl
theorem ySO (w:World):RunLb Rw qv 40000 jIU (w.withFollow "special-get-raises" false):=by
 intro os
 kernel_rfl
theorem ySR (w:World):RunL Rw qv 40000 jIU (w.withFollow "special-get-raises" false):=jSS (ySP w) (ySO w)
theorem ySQ (w:World):RunO Rw hkT obT 40000 (w.withFollow "special-get-raises" false):=by
 intro os
 kernel_rfl
theorem yVT (w:World):HandSHeadRun.RunEq Rw qv hkT obT 40000 jIU (w.withFollow "special-get-raises" false):=jSR (ySR w) (ySQ w)
theorem ySL (w:World):RunLa Rw 40000 (w.withFollow "special-get-raises" true):=by
 intro os
 kernel_rfl
theorem ySK (w:World):RunLb Rw qv 40000 jIU (w.withFollow "special-get-raises" true):=by
 intro os
 kernel_rfl
theorem ySN (w:World):RunL Rw qv 40000 jIU (w.withFollow "special-get-raises" true):=jSS (ySL w) (ySK w)
theorem ySM (w:World):RunO Rw hkT obT 40000 (w.withFollow "special-get-raises" true):=by
 intro os
 kernel_rfl
theorem yVS (w:World):HandSHeadRun.RunEq Rw qv hkT obT 40000 jIU (w.withFollow "special-get-raises" true):=jSR (ySN w) (ySM w)
theorem yXB (w:World):HandSHeadRun.RunEq Rw qv hkT obT 40000 jIU w:=PySem.W.byRow2 "special-get-raises" yVT yVS w
def yXL (K:PySem.W.Frag):Nat→Addr:=fun c=>match c with
 | 0=>He.ga K "InvalidDeed"
 | 1=>He.ga K "InvalidText"
 | _=>0
abbrev BkT (w:World) (K:PySem.W.Frag):Bs:=⟨K,yXL K,yXI,yFD K lsT,w,none⟩
theorem jRK:IniT Pg "InvalidDeed.__init__" (defArgs jAO) (defBody jAO) (defScope jAO) ["self"]:=⟨nscope_by (by decide +kernel),⟨_,rfl,rfl⟩,by decide +kernel,by decide +kernel,by decide +kernel,by decide +kernel,fun _ _ _ _ _ _ _ us hl=>match us,hl with | [_],_=>rfl⟩
theorem jRN {w:World} {K:PySem.W.Frag} {T:List Addr} {h:Heap} {mg:Str→Option Value} {base:Heap} (X:K.In h) (G:h.Ns mainGlobals mg) (c:SaysL faT fnT tsT w K T):ExcC Pg w K mg base (BkT w K) 1 "InvalidDeed" 0 0 jAQ :=
 yPV (B:=BkT w K) (c:=0) (at_:=jJM.at_) yKE rfl (c.fact 55 (f:=(fun K _=>jWC K "ValueError" "ValueError.__init__" "ValueError.__new__" [.type "ValueError", .type "Exception", .type "BaseException", .type "object"] (He.ga K "InvalidDeed"))) rfl) (c.fact 56 (f:=(fun K _=>jTD K (He.ga K "InvalidDeed") ["code"])) rfl) (c.fact 57 (f:=(fun K _=>jSE K (He.ga K "InvalidDeed") (He.ma K (He.ga K "InvalidDeed") "__init__"))) rfl) (c.fact 58 (f:=(fun K _=>jWD Pg K (He.ma K (He.ga K "InvalidDeed") "__init__") (He.ga K "InvalidDeed"))) rfl) (c.def_ 32 (d:=jJM) rfl) jRK (fun _ _ _ _=>⟨_,rfl⟩)  (He.free_ok X G (c.fact 66 (f:=(fun K _=>(He.Fa.free "super").ok K)) rfl)) (He.glo_ok X G (c.fact 54 (f:=(fun K _=>(He.Fa.glo "InvalidDeed").ok K)) rfl)) (jW (by decide +kernel))
theorem jRJ:IniT Pg "InvalidText.__init__" (defArgs jAN) (defBody jAN) (defScope jAN) ["self", "line"]:=⟨nscope_by (by decide +kernel),⟨_,rfl,rfl⟩,by decide +kernel,by decide +kernel,by decide +kernel,by decide +kernel,fun _ _ _ _ _ _ _ us hl=>match us,hl with | [_,_],_=>rfl⟩
theorem jRM {w:World} {K:PySem.W.Frag} {T:List Addr} {h:Heap} {mg:Str→Option Value} {base:Heap} (X:K.In h) (G:h.Ns mainGlobals mg) (c:SaysL faT fnT tsT w K T):ExcC Pg w K mg base (BkT w K) 1 "InvalidText" 1 1 jAP :=
 yPU (B:=BkT w K) (c:=1) (at_:=jJL.at_) yKE rfl (c.fact 61 (f:=(fun K _=>jWC K "ValueError" "ValueError.__init__" "ValueError.__new__" [.type "ValueError", .type "Exception", .type "BaseException", .type "object"] (He.ga K "InvalidText"))) rfl) (c.fact 62 (f:=(fun K _=>jTD K (He.ga K "InvalidText") ["code", "line"])) rfl) (c.fact 63 (f:=(fun K _=>jSE K (He.ga K "InvalidText") (He.ma K (He.ga K "InvalidText") "__init__"))) rfl) (c.fact 64 (f:=(fun K _=>jWD Pg K (He.ma K (He.ga K "InvalidText") "__init__") (He.ga K "InvalidText"))) rfl) (c.def_ 33 (d:=jJL) rfl) jRJ (fun _ _ _ _=>⟨_,rfl⟩) rfl rfl (He.free_ok X G (c.fact 66 (f:=(fun K _=>(He.Fa.free "super").ok K)) rfl)) (He.glo_ok X G (c.fact 60 (f:=(fun K _=>(He.Fa.glo "InvalidText").ok K)) rfl)) (jW (by decide +kernel))
theorem xcT {w:World} {K:PySem.W.Frag} {T:List Addr} (c:SaysL faT fnT tsT w K T):XClsF K (BkT w K) xfl:=⟨fun cc hh=>match cc,hh with
 | 0,_=>rfl
 | 1,_=>rfl
 | _+2,h=>absurd rfl h,
 fun cc f hf=>match cc,hf with
 | 0,hf=>jLT (c.fact 56 (f:=(fun K _=>jTD K (He.ga K "InvalidDeed") ["code"])) rfl) hf
 | 1,hf=>jLT (c.fact 62 (f:=(fun K _=>jTD K (He.ga K "InvalidText") ["code", "line"])) rfl) hf
 | _+2,hf=>(nomatch hf)⟩
theorem okT {w:World} {K:PySem.W.Frag} {T:List Addr} (c:SaysL faT fnT tsT w K T):∀ cc,okc cc=true→PySem.W.exmAny K (.ref ((BkT w K).cad cc)) [.ref (He.ga K "DropError"),.ref (He.ga K "Missing"),.ref (He.ga K "NothingLeft")]=some true:=fun cc h=>match cc,h with
 | 0,_=>of_decide_eq_true (c.fact 59 (f:=(fun K _=>decide (PySem.W.exmAny K (.ref (He.ga K "InvalidDeed")) [.ref (He.ga K "DropError"),.ref (He.ga K "Missing"),.ref (He.ga K "NothingLeft")]=some true))) rfl)
 | 1,_=>of_decide_eq_true (c.fact 65 (f:=(fun K _=>decide (PySem.W.exmAny K (.ref (He.ga K "InvalidText")) [.ref (He.ga K "DropError"),.ref (He.ga K "Missing"),.ref (He.ga K "NothingLeft")]=some true))) rfl)
 | n+2,h=>absurd (of_decide_eq_true h) (by omega)
theorem jZK {P:Program} {w:World} {K:PySem.W.Frag} {mg:Str→Option Value} {base:Heap} {B:Bs} (hK:K=B.K) (hw:w=B.w) (g:Gm mg) (hxn:B.xn=none) (XC:XClsF K B xfl) {fa:Addr} {fd:FuncData} (F:FunD K "_law_try" "_law_try" (defArgs jBX) (defBody jBX) (defScope jBX) [] [] fa fd) (hm:mg "_law_try" = some (.ref fa)) (hb:L2.Binds K fd ["_law_ask"] []) (h_DropError:mg "DropError" = some (.ref (He.ga K "DropError"))) (h_Missing:mg "Missing" = some (.ref (He.ga K "Missing"))) (h_NothingLeft:mg "NothingLeft" = some (.ref (He.ga K "NothingLeft"))) (hok:∀ c,okc c=true→PySem.W.exmAny K (.ref (B.cad c)) [.ref (He.ga K "DropError"),.ref (He.ga K "Missing"),.ref (He.ga K "NothingLeft")]=some true) (F__law_field:FnX P w K mg base B 1 "_law_field" 1 jEM):TryF P w K mg base B 1 "_law_try" okc jEK :=
 yRT F hm hb jZF (by first | exact .inl rfl | exact .inr (.inl rfl) | rfl) rfl hok (fun _ _ _ _ _=>yBG ⟨rfl,rfl,.inl h_DropError⟩ ⟨rfl,rfl,.inl h_Missing⟩ ⟨rfl,rfl,.inl h_NothingLeft⟩) fun _ _ _ _ _ _ _ _ _ _ _ hrx HX=>jN (jV (vD (jA (qC HX XC.with (jB (i:=1) rfl (.inl rfl) rfl rfl) rfl) (jA (yFZ F__law_field HX takes0 hrx rfl (jA (jB (i:=1) rfl (.inl rfl) rfl rfl) jD rfl) rfl rfl rfl) jD rfl) rfl)))
theorem yUL {w:World} {K:PySem.W.Frag} {T:List Addr} {h:Heap} {mg:Str→Option Value} {f:Addr} (X:K.In h) (G:h.Ns mainGlobals mg) (hfa:mg ("law" : Str)=some (.ref f)) (c:SaysL faT fnT tsT w K T) :
  ∃ fd:FuncData,(∀ (s:Shared) (u:Value),BindsTo s fd ⟨[u],[]⟩ [("_law_script", u)])∧∀ base:Heap,K.In base→base.Ns mainGlobals mg→(∀ p∈lsT,TabB base mg (jCI K (p.1 K)) (jDA K (p.1 K)))→FnOk Pg w K mg base (L2.CX Pg w) 10 f fd ["_law_script"] (spF (BkT w K) 1 jOP):=by
 obtain ⟨fd_is_number,F_is_number⟩:=DefL.funD (d:=jFV) (c.def_ 0 (d:=jFV) rfl).1 (c.def_ 0 (d:=jFV) rfl).2 rfl
 obtain ⟨fd_is_key,F_is_key⟩:=DefL.funD (d:=jML) (c.def_ 1 (d:=jML) rfl).1 (c.def_ 1 (d:=jML) rfl).2 rfl
 obtain ⟨fd_is_row,F_is_row⟩:=DefL.funD (d:=jMK) (c.def_ 2 (d:=jMK) rfl).1 (c.def_ 2 (d:=jMK) rfl).2 rfl
 obtain ⟨fd_is_side,F_is_side⟩:=DefL.funD (d:=jKA) (c.def_ 3 (d:=jKA) rfl).1 (c.def_ 3 (d:=jKA) rfl).2 rfl
 obtain ⟨fd_is_deed,F_is_deed⟩:=DefL.funD (d:=jKB) (c.def_ 4 (d:=jKB) rfl).1 (c.def_ 4 (d:=jKB) rfl).2 rfl
 obtain ⟨fd_key_text,F_key_text⟩:=DefL.funD (d:=jHI) (c.def_ 5 (d:=jHI) rfl).1 (c.def_ 5 (d:=jHI) rfl).2 rfl
 obtain ⟨fd_side_text,F_side_text⟩:=DefL.funD (d:=jFS) (c.def_ 6 (d:=jFS) rfl).1 (c.def_ 6 (d:=jFS) rfl).2 rfl
 obtain ⟨fd_deed_text,F_deed_text⟩:=DefL.funD (d:=jFW) (c.def_ 7 (d:=jFW) rfl).1 (c.def_ 7 (d:=jFW) rfl).2 rfl
 obtain ⟨fd_number_in,F_number_in⟩:=DefL.funD (d:=jFU) (c.def_ 8 (d:=jFU) rfl).1 (c.def_ 8 (d:=jFU) rfl).2 rfl
 obtain ⟨fd_key_in,F_key_in⟩:=DefL.funD (d:=jMJ) (c.def_ 9 (d:=jMJ) rfl).1 (c.def_ 9 (d:=jMJ) rfl).2 rfl
 obtain ⟨fd_side_in,F_side_in⟩:=DefL.funD (d:=jJZ) (c.def_ 10 (d:=jJZ) rfl).1 (c.def_ 10 (d:=jJZ) rfl).2 rfl
 obtain ⟨fd_deed_in,F_deed_in⟩:=DefL.funD (d:=jKC) (c.def_ 11 (d:=jKC) rfl).1 (c.def_ 11 (d:=jKC) rfl).2 rfl
 obtain ⟨fd_read_deed,F_read_deed⟩:=DefL.funD (d:=jFT) (c.def_ 12 (d:=jFT) rfl).1 (c.def_ 12 (d:=jFT) rfl).2 rfl
 obtain ⟨fd__law_open,F__law_open⟩:=DefL.funD (d:=jFY) (c.def_ 13 (d:=jFY) rfl).1 (c.def_ 13 (d:=jFY) rfl).2 rfl
 obtain ⟨fd__law_draw,F__law_draw⟩:=DefL.funD (d:=jGC) (c.def_ 14 (d:=jGC) rfl).1 (c.def_ 14 (d:=jGC) rfl).2 rfl
 obtain ⟨fd__law_of,F__law_of⟩:=DefL.funD (d:=jKD) (c.def_ 15 (d:=jKD) rfl).1 (c.def_ 15 (d:=jKD) rfl).2 rfl
 obtain ⟨fd__law_like,F__law_like⟩:=DefL.funD (d:=jGA) (c.def_ 16 (d:=jGA) rfl).1 (c.def_ 16 (d:=jGA) rfl).2 rfl
 obtain ⟨fd__law_field,F__law_field⟩:=DefL.funD (d:=jEQ) (c.def_ 17 (d:=jEQ) rfl).1 (c.def_ 17 (d:=jEQ) rfl).2 rfl
 obtain ⟨fd__law_try,F__law_try⟩:=DefL.funD (d:=jHJ) (c.def_ 18 (d:=jHJ) rfl).1 (c.def_ 18 (d:=jHJ) rfl).2 rfl
 obtain ⟨fd__law_some_spec,F__law_some_spec⟩:=DefL.funD (d:=jCF) (c.def_ 19 (d:=jCF) rfl).1 (c.def_ 19 (d:=jCF) rfl).2 rfl
 obtain ⟨fd__law_line,F__law_line⟩:=DefL.funD (d:=jFZ) (c.def_ 20 (d:=jFZ) rfl).1 (c.def_ 20 (d:=jFZ) rfl).2 rfl
 obtain ⟨fd__law_model,F__law_model⟩:=DefL.funD (d:=jEP) (c.def_ 21 (d:=jEP) rfl).1 (c.def_ 21 (d:=jEP) rfl).2 rfl
 obtain ⟨fd__law_used,F__law_used⟩:=DefL.funD (d:=jFX) (c.def_ 22 (d:=jFX) rfl).1 (c.def_ 22 (d:=jFX) rfl).2 rfl
 obtain ⟨fd__law_shifted,F__law_shifted⟩:=DefL.funD (d:=jDE) (c.def_ 23 (d:=jDE) rfl).1 (c.def_ 23 (d:=jDE) rfl).2 rfl
 obtain ⟨fd__law_keys,F__law_keys⟩:=DefL.funD (d:=jGB) (c.def_ 24 (d:=jGB) rfl).1 (c.def_ 24 (d:=jGB) rfl).2 rfl
 obtain ⟨fd__law_key,F__law_key⟩:=DefL.funD (d:=jHK) (c.def_ 25 (d:=jHK) rfl).1 (c.def_ 25 (d:=jHK) rfl).2 rfl
 obtain ⟨fd__law_listed,F__law_listed⟩:=DefL.funD (d:=jDS) (c.def_ 26 (d:=jDS) rfl).1 (c.def_ 26 (d:=jDS) rfl).2 rfl
 obtain ⟨fd__law_drawn_drop,F__law_drawn_drop⟩:=DefL.funD (d:=jBM) (c.def_ 27 (d:=jBM) rfl).1 (c.def_ 27 (d:=jBM) rfl).2 rfl
 obtain ⟨fd__law_drawn_number,F__law_drawn_number⟩:=DefL.funD (d:=jAJ) (c.def_ 28 (d:=jAJ) rfl).1 (c.def_ 28 (d:=jAJ) rfl).2 rfl
 obtain ⟨fd__law_number_due,F__law_number_due⟩:=DefL.funD (d:=jBL) (c.def_ 29 (d:=jBL) rfl).1 (c.def_ 29 (d:=jBL) rfl).2 rfl
 obtain ⟨fd__law_deed_due,F__law_deed_due⟩:=DefL.funD (d:=jCL) (c.def_ 30 (d:=jCL) rfl).1 (c.def_ 30 (d:=jCL) rfl).2 rfl
 obtain ⟨fd_law,F_law⟩:=DefL.funD (d:=yDC) (c.def_ 31 (d:=yDC) rfl).1 (c.def_ 31 (d:=yDC) rfl).2 rfl
 have h_is_number:mg "is_number" = some (.ref (He.ga K "is_number")):=He.glo_ok X G (c.fact 0 (f:=(fun K _=>(He.Fa.glo "is_number").ok K)) rfl)
 have h_is_key:mg "is_key" = some (.ref (He.ga K "is_key")):=He.glo_ok X G (c.fact 1 (f:=(fun K _=>(He.Fa.glo "is_key").ok K)) rfl)
 have h_is_row:mg "is_row" = some (.ref (He.ga K "is_row")):=He.glo_ok X G (c.fact 2 (f:=(fun K _=>(He.Fa.glo "is_row").ok K)) rfl)
 have h_is_side:mg "is_side" = some (.ref (He.ga K "is_side")):=He.glo_ok X G (c.fact 3 (f:=(fun K _=>(He.Fa.glo "is_side").ok K)) rfl)
 have h_is_deed:mg "is_deed" = some (.ref (He.ga K "is_deed")):=He.glo_ok X G (c.fact 4 (f:=(fun K _=>(He.Fa.glo "is_deed").ok K)) rfl)
 have h_key_text:mg "key_text" = some (.ref (He.ga K "key_text")):=He.glo_ok X G (c.fact 5 (f:=(fun K _=>(He.Fa.glo "key_text").ok K)) rfl)
 have h_side_text:mg "side_text" = some (.ref (He.ga K "side_text")):=He.glo_ok X G (c.fact 6 (f:=(fun K _=>(He.Fa.glo "side_text").ok K)) rfl)
 have h_deed_text:mg "deed_text" = some (.ref (He.ga K "deed_text")):=He.glo_ok X G (c.fact 7 (f:=(fun K _=>(He.Fa.glo "deed_text").ok K)) rfl)
 have h_number_in:mg "number_in" = some (.ref (He.ga K "number_in")):=He.glo_ok X G (c.fact 8 (f:=(fun K _=>(He.Fa.glo "number_in").ok K)) rfl)
 have h_key_in:mg "key_in" = some (.ref (He.ga K "key_in")):=He.glo_ok X G (c.fact 9 (f:=(fun K _=>(He.Fa.glo "key_in").ok K)) rfl)
 have h_side_in:mg "side_in" = some (.ref (He.ga K "side_in")):=He.glo_ok X G (c.fact 10 (f:=(fun K _=>(He.Fa.glo "side_in").ok K)) rfl)
 have h_deed_in:mg "deed_in" = some (.ref (He.ga K "deed_in")):=He.glo_ok X G (c.fact 11 (f:=(fun K _=>(He.Fa.glo "deed_in").ok K)) rfl)
 have h_read_deed:mg "read_deed" = some (.ref (He.ga K "read_deed")):=He.glo_ok X G (c.fact 12 (f:=(fun K _=>(He.Fa.glo "read_deed").ok K)) rfl)
 have h__law_open:mg "_law_open" = some (.ref (He.ga K "_law_open")):=He.glo_ok X G (c.fact 13 (f:=(fun K _=>(He.Fa.glo "_law_open").ok K)) rfl)
 have h__law_draw:mg "_law_draw" = some (.ref (He.ga K "_law_draw")):=He.glo_ok X G (c.fact 14 (f:=(fun K _=>(He.Fa.glo "_law_draw").ok K)) rfl)
 have h__law_of:mg "_law_of" = some (.ref (He.ga K "_law_of")):=He.glo_ok X G (c.fact 15 (f:=(fun K _=>(He.Fa.glo "_law_of").ok K)) rfl)
 have h__law_like:mg "_law_like" = some (.ref (He.ga K "_law_like")):=He.glo_ok X G (c.fact 16 (f:=(fun K _=>(He.Fa.glo "_law_like").ok K)) rfl)
 have h__law_field:mg "_law_field" = some (.ref (He.ga K "_law_field")):=He.glo_ok X G (c.fact 17 (f:=(fun K _=>(He.Fa.glo "_law_field").ok K)) rfl)
 have h__law_try:mg "_law_try" = some (.ref (He.ga K "_law_try")):=He.glo_ok X G (c.fact 18 (f:=(fun K _=>(He.Fa.glo "_law_try").ok K)) rfl)
 have h__law_some_spec:mg "_law_some_spec" = some (.ref (He.ga K "_law_some_spec")):=He.glo_ok X G (c.fact 19 (f:=(fun K _=>(He.Fa.glo "_law_some_spec").ok K)) rfl)
 have h__law_line:mg "_law_line" = some (.ref (He.ga K "_law_line")):=He.glo_ok X G (c.fact 20 (f:=(fun K _=>(He.Fa.glo "_law_line").ok K)) rfl)
 have h__law_model:mg "_law_model" = some (.ref (He.ga K "_law_model")):=He.glo_ok X G (c.fact 21 (f:=(fun K _=>(He.Fa.glo "_law_model").ok K)) rfl)
 have h__law_used:mg "_law_used" = some (.ref (He.ga K "_law_used")):=He.glo_ok X G (c.fact 22 (f:=(fun K _=>(He.Fa.glo "_law_used").ok K)) rfl)
 have h__law_shifted:mg "_law_shifted" = some (.ref (He.ga K "_law_shifted")):=He.glo_ok X G (c.fact 23 (f:=(fun K _=>(He.Fa.glo "_law_shifted").ok K)) rfl)
 have h__law_keys:mg "_law_keys" = some (.ref (He.ga K "_law_keys")):=He.glo_ok X G (c.fact 24 (f:=(fun K _=>(He.Fa.glo "_law_keys").ok K)) rfl)
 have h__law_key:mg "_law_key" = some (.ref (He.ga K "_law_key")):=He.glo_ok X G (c.fact 25 (f:=(fun K _=>(He.Fa.glo "_law_key").ok K)) rfl)
 have h__law_listed:mg "_law_listed" = some (.ref (He.ga K "_law_listed")):=He.glo_ok X G (c.fact 26 (f:=(fun K _=>(He.Fa.glo "_law_listed").ok K)) rfl)
 have h__law_drawn_drop:mg "_law_drawn_drop" = some (.ref (He.ga K "_law_drawn_drop")):=He.glo_ok X G (c.fact 27 (f:=(fun K _=>(He.Fa.glo "_law_drawn_drop").ok K)) rfl)
 have h__law_drawn_number:mg "_law_drawn_number" = some (.ref (He.ga K "_law_drawn_number")):=He.glo_ok X G (c.fact 28 (f:=(fun K _=>(He.Fa.glo "_law_drawn_number").ok K)) rfl)
 have h__law_number_due:mg "_law_number_due" = some (.ref (He.ga K "_law_number_due")):=He.glo_ok X G (c.fact 29 (f:=(fun K _=>(He.Fa.glo "_law_number_due").ok K)) rfl)
 have h__law_deed_due:mg "_law_deed_due" = some (.ref (He.ga K "_law_deed_due")):=He.glo_ok X G (c.fact 30 (f:=(fun K _=>(He.Fa.glo "_law_deed_due").ok K)) rfl)
 have h_law:mg "law" = some (.ref (He.ga K "law")):=He.glo_ok X G (c.fact 31 (f:=(fun K _=>(He.Fa.glo "law").ok K)) rfl)
 have h_DropError:mg "DropError" = some (.ref (He.ga K "DropError")):=He.glo_ok X G (c.fact 51 (f:=(fun K _=>(He.Fa.glo "DropError").ok K)) rfl)
 have h_Missing:mg "Missing" = some (.ref (He.ga K "Missing")):=He.glo_ok X G (c.fact 52 (f:=(fun K _=>(He.Fa.glo "Missing").ok K)) rfl)
 have h_NothingLeft:mg "NothingLeft" = some (.ref (He.ga K "NothingLeft")):=He.glo_ok X G (c.fact 53 (f:=(fun K _=>(He.Fa.glo "NothingLeft").ok K)) rfl)
 have g:Gm mg:=⟨trivial,
  He.free_ok X G (c.fact 32 (f:=(fun K _=>(He.Fa.free "abs").ok K)) rfl),
  He.free_ok X G (c.fact 33 (f:=(fun K _=>(He.Fa.free "all").ok K)) rfl),
  He.free_ok X G (c.fact 34 (f:=(fun K _=>(He.Fa.free "bool").ok K)) rfl),
  He.free_ok X G (c.fact 35 (f:=(fun K _=>(He.Fa.free "enumerate").ok K)) rfl),
  He.free_ok X G (c.fact 36 (f:=(fun K _=>(He.Fa.free "int").ok K)) rfl),
  He.free_ok X G (c.fact 37 (f:=(fun K _=>(He.Fa.free "isinstance").ok K)) rfl),
  He.free_ok X G (c.fact 38 (f:=(fun K _=>(He.Fa.free "len").ok K)) rfl),
  He.free_ok X G (c.fact 39 (f:=(fun K _=>(He.Fa.free "list").ok K)) rfl),
  He.free_ok X G (c.fact 40 (f:=(fun K _=>(He.Fa.free "range").ok K)) rfl),
  He.free_ok X G (c.fact 41 (f:=(fun K _=>(He.Fa.free "sorted").ok K)) rfl),
  He.free_ok X G (c.fact 42 (f:=(fun K _=>(He.Fa.free "str").ok K)) rfl),
  He.free_ok X G (c.fact 43 (f:=(fun K _=>(He.Fa.free "tuple").ok K)) rfl),
  He.free_ok X G (c.fact 44 (f:=(fun K _=>(He.Fa.free "zip").ok K)) rfl),
  (let ⟨t,e⟩:=He.str_ok X G (c.fact 45 (f:=(fun K _=>(He.Fa.str "DIGITS" "0123456789").ok K)) rfl); ⟨_,e,t,rfl⟩),
  (let ⟨t,e⟩:=He.int_ok X G (c.fact 46 (f:=(fun K _=>(He.Fa.int "GREATEST_ROW" 39).ok K)) rfl); ⟨_,e,t,rfl⟩),
  (let ⟨t,e⟩:=He.int_ok X G (c.fact 47 (f:=(fun K _=>(He.Fa.int "MOST_DIGITS" 19).ok K)) rfl); ⟨_,e,t,rfl⟩),
  (let ⟨t,e⟩:=He.int_ok X G (c.fact 48 (f:=(fun K _=>(He.Fa.int "MOST_LISTED" 40).ok K)) rfl); ⟨_,e,t,rfl⟩),
  (let ⟨t,e⟩:=He.int_ok X G (c.fact 49 (f:=(fun K _=>(He.Fa.int "MOST_NUMBER" 1000000000000000000).ok K)) rfl); ⟨_,e,t,rfl⟩),
  (let ⟨t,e⟩:=He.int_ok X G (c.fact 50 (f:=(fun K _=>(He.Fa.int "MOST_NUMBERS" 40).ok K)) rfl); ⟨_,e,t,rfl⟩)⟩
 have e:=hfa.symm.trans h_law
 obtain rfl:f=He.ga K "law" := by injection e with e; injection e
 have b:=FunD.bindsA (ps:=["_law_script"]) F_law fun _ _ _ _ _ _ us hl=>match us,hl with | [_],_=>rfl
 have XC:=xcT c
 refine ⟨fd_law,fun s v=>b s [v] rfl,fun base _ _ TBs=>?_⟩
 have X_InvalidDeed:ExcC Pg w K mg base (BkT w K) 1 "InvalidDeed" 0 0 jAQ:=jRN X G c
 have X_InvalidText:ExcC Pg w K mg base (BkT w K) 1 "InvalidText" 1 1 jAP:=jRM X G c
 have O_is_number:=jVS (P:=Pg) (w:=w) (base:=base) (B:=BkT w K) rfl rfl g F_is_number  
 have N_is_number:Fn Pg w K mg base (BkT w K) 1 "is_number" 3 uY:=⟨_,_,_,O_is_number,h_is_number,F_is_number.kp,(F_is_number.bindsN fun _ _ _ _ _ _ us hl=>match us,hl with | [_,_,_],_=>rfl)⟩
 have O_is_key:=yGX (P:=Pg) (w:=w) (base:=base) (B:=BkT w K) rfl rfl g F_is_key  (N_is_number.mono (by decide))
 have N_is_key:Fn Pg w K mg base (BkT w K) 2 "is_key" 1 qQ:=⟨_,_,_,O_is_key,h_is_key,F_is_key.kp,(F_is_key.bindsN fun _ _ _ _ _ _ us hl=>match us,hl with | [_],_=>rfl)⟩
 have O_is_row:=yGW (P:=Pg) (w:=w) (base:=base) (B:=BkT w K) rfl rfl g F_is_row  (N_is_number.mono (by decide))
 have N_is_row:Fn Pg w K mg base (BkT w K) 2 "is_row" 1 zQ:=⟨_,_,_,O_is_row,h_is_row,F_is_row.kp,(F_is_row.bindsN fun _ _ _ _ _ _ us hl=>match us,hl with | [_],_=>rfl)⟩
 have O_is_side:=yCD (P:=Pg) (w:=w) (base:=base) (B:=BkT w K) rfl rfl g F_is_side  (N_is_row.mono (by decide))
 have N_is_side:Fn Pg w K mg base (BkT w K) 3 "is_side" 1 zY:=⟨_,_,_,O_is_side,h_is_side,F_is_side.kp,(F_is_side.bindsN fun _ _ _ _ _ _ us hl=>match us,hl with | [_],_=>rfl)⟩
 have O_is_deed:=yCE (P:=Pg) (w:=w) (base:=base) (B:=BkT w K) rfl rfl g F_is_deed  (N_is_row.mono (by decide)) (N_is_side.mono (by decide)) (N_is_key.mono (by decide))
 have N_is_deed:Fn Pg w K mg base (BkT w K) 4 "is_deed" 1 qN:=⟨_,_,_,O_is_deed,h_is_deed,F_is_deed.kp,(F_is_deed.bindsN fun _ _ _ _ _ _ us hl=>match us,hl with | [_],_=>rfl)⟩
 have O_key_text:=jZJ (P:=Pg) (w:=w) (base:=base) (B:=BkT w K) rfl rfl g F_key_text  
 have N_key_text:Fn Pg w K mg base (BkT w K) 1 "key_text" 1 qR:=⟨_,_,_,O_key_text,h_key_text,F_key_text.kp,(F_key_text.bindsN fun _ _ _ _ _ _ us hl=>match us,hl with | [_],_=>rfl)⟩
 have O_side_text:=jVP (P:=Pg) (w:=w) (base:=base) (B:=BkT w K) rfl rfl g F_side_text  
 have N_side_text:Fn Pg w K mg base (BkT w K) 1 "side_text" 1 uE:=⟨_,_,_,O_side_text,h_side_text,F_side_text.kp,(F_side_text.bindsN fun _ _ _ _ _ _ us hl=>match us,hl with | [_],_=>rfl)⟩
 have O_deed_text:=jVT (P:=Pg) (w:=w) (base:=base) (B:=BkT w K) rfl rfl g F_deed_text  (N_is_deed.mono (by decide)) (N_key_text.mono (by decide)) (N_side_text.mono (by decide)) ⟨1,by decide,X_InvalidDeed⟩
 have N_deed_text:Fn Pg w K mg base (BkT w K) 5 "deed_text" 1 uP:=⟨_,_,_,O_deed_text,h_deed_text,F_deed_text.kp,(F_deed_text.bindsN fun _ _ _ _ _ _ us hl=>match us,hl with | [_],_=>rfl)⟩
 have NK_deed_text_0_deed:FnK Pg w K mg base (BkT w K) 5 "deed_text" 0 ["deed"] [0] 1 uP:=⟨_,_,_,O_deed_text,h_deed_text,F_deed_text.kp,yJV F_deed_text fun _ _ _ _ _ _ us ws l1 l2=>match us,ws,l1,l2 with | [],[_],_,_=>rfl⟩
 have O_number_in:=jVR (P:=Pg) (w:=w) (base:=base) (B:=BkT w K) rfl rfl g F_number_in  
 have N_number_in:Fn Pg w K mg base (BkT w K) 1 "number_in" 1 uX:=⟨_,_,_,O_number_in,h_number_in,F_number_in.kp,(F_number_in.bindsN fun _ _ _ _ _ _ us hl=>match us,hl with | [_],_=>rfl)⟩
 have O_key_in:=yGV (P:=Pg) (w:=w) (base:=base) (B:=BkT w K) rfl rfl g F_key_in  (N_number_in.mono (by decide)) (N_is_key.mono (by decide))
 have N_key_in:Fn Pg w K mg base (BkT w K) 3 "key_in" 1 jBV:=⟨_,_,_,O_key_in,h_key_in,F_key_in.kp,(F_key_in.bindsN fun _ _ _ _ _ _ us hl=>match us,hl with | [_],_=>rfl)⟩
 have O_side_in:=yCC (P:=Pg) (w:=w) (base:=base) (B:=BkT w K) rfl rfl g F_side_in  (N_number_in.mono (by decide)) (N_is_row.mono (by decide))
 have N_side_in:Fn Pg w K mg base (BkT w K) 3 "side_in" 1 uK:=⟨_,_,_,O_side_in,h_side_in,F_side_in.kp,(F_side_in.bindsN fun _ _ _ _ _ _ us hl=>match us,hl with | [_],_=>rfl)⟩
 have O_deed_in:=yCF (P:=Pg) (w:=w) (base:=base) (B:=BkT w K) rfl rfl g F_deed_in  (N_side_in.mono (by decide)) (N_key_in.mono (by decide))
 have N_deed_in:Fn Pg w K mg base (BkT w K) 4 "deed_in" 1 jCD:=⟨_,_,_,O_deed_in,h_deed_in,F_deed_in.kp,(F_deed_in.bindsN fun _ _ _ _ _ _ us hl=>match us,hl with | [_],_=>rfl)⟩
 have O_read_deed:=jVQ (P:=Pg) (w:=w) (base:=base) (B:=BkT w K) rfl rfl g F_read_deed  (N_deed_in.mono (by decide)) (N_is_deed.mono (by decide)) ⟨1,by decide,X_InvalidText⟩
 have N_read_deed:Fn Pg w K mg base (BkT w K) 5 "read_deed" 1 yU:=⟨_,_,_,O_read_deed,h_read_deed,F_read_deed.kp,(F_read_deed.bindsN fun _ _ _ _ _ _ us hl=>match us,hl with | [_],_=>rfl)⟩
 have NK_read_deed_0_text:FnK Pg w K mg base (BkT w K) 5 "read_deed" 0 ["text"] [0] 1 yU:=⟨_,_,_,O_read_deed,h_read_deed,F_read_deed.kp,yJV F_read_deed fun _ _ _ _ _ _ us ws l1 l2=>match us,ws,l1,l2 with | [],[_],_,_=>rfl⟩
 have O__law_open:=jVV (P:=Pg) (w:=w) (base:=base) (B:=BkT w K) rfl rfl g F__law_open  
 have N__law_open:Fn Pg w K mg base (BkT w K) 1 "_law_open" 1 jAB:=⟨_,_,_,O__law_open,h__law_open,F__law_open.kp,(F__law_open.bindsN fun _ _ _ _ _ _ us hl=>match us,hl with | [_],_=>rfl)⟩
 have O__law_draw:=jVZ (P:=Pg) (w:=w) (base:=base) (B:=BkT w K) rfl rfl g F__law_draw  
 have N__law_draw:Fn Pg w K mg base (BkT w K) 1 "_law_draw" 2 jZ:=⟨_,_,_,O__law_draw,h__law_draw,F__law_draw.kp,(F__law_draw.bindsN fun _ _ _ _ _ _ us hl=>match us,hl with | [_,_],_=>rfl)⟩
 have O__law_of:=yCG (P:=Pg) (w:=w) (base:=base) (B:=BkT w K) rfl rfl g F__law_of  (N__law_draw.mono (by decide))
 have N__law_of:Fn Pg w K mg base (BkT w K) 2 "_law_of" 2 vB:=⟨_,_,_,O__law_of,h__law_of,F__law_of.kp,(F__law_of.bindsN fun _ _ _ _ _ _ us hl=>match us,hl with | [_,_],_=>rfl)⟩
 have O__law_like:=jVX (P:=Pg) (w:=w) (base:=base) (B:=BkT w K) rfl rfl g F__law_like h__law_like 
 have N__law_like:Fn Pg w K mg base (BkT w K) 9 "_law_like" 2 uF:=⟨_,_,_,O__law_like,h__law_like,F__law_like.kp,(F__law_like.bindsN fun _ _ _ _ _ _ us hl=>match us,hl with | [_,_],_=>rfl)⟩
 have O__law_field:=jRX (P:=Pg) (w:=w) (base:=base) (B:=BkT w K) rfl rfl g F__law_field XC h__law_field (F__law_field.bindsN fun _ _ _ _ _ _ us hl=>match us,hl with | [_],_=>rfl) 
 have T_try:=jZK (P:=Pg) (w:=w) (base:=base) (B:=BkT w K) rfl rfl g rfl XC F__law_try h__law_try (F__law_try.bindsN fun _ _ _ _ _ _ us hl=>match us,hl with | [_],_=>rfl) h_DropError h_Missing h_NothingLeft (okT c) O__law_field
 have O__law_some_spec:=jNE (P:=Pg) (w:=w) (base:=base) (B:=BkT w K) rfl rfl g F__law_some_spec  (N__law_of.mono (by decide)) (N__law_draw.mono (by decide))
 have N__law_some_spec:Fn Pg w K mg base (BkT w K) 3 "_law_some_spec" 1 uM:=⟨_,_,_,O__law_some_spec,h__law_some_spec,F__law_some_spec.kp,(F__law_some_spec.bindsN fun _ _ _ _ _ _ us hl=>match us,hl with | [_],_=>rfl)⟩
 have O__law_line:=jVW (P:=Pg) (w:=w) (base:=base) (B:=BkT w K) rfl rfl g F__law_line  
 have N__law_line:Fn Pg w K mg base (BkT w K) 1 "_law_line" 2 uZ:=⟨_,_,_,O__law_line,h__law_line,F__law_line.kp,(F__law_line.bindsN fun _ _ _ _ _ _ us hl=>match us,hl with | [_,_],_=>rfl)⟩
 have O__law_model:=jRW (P:=Pg) (w:=w) (base:=base) (B:=BkT w K) rfl rfl g F__law_model  
 have N__law_model:Fn Pg w K mg base (BkT w K) 1 "_law_model" 2 qJ:=⟨_,_,_,O__law_model,h__law_model,F__law_model.kp,(F__law_model.bindsN fun _ _ _ _ _ _ us hl=>match us,hl with | [_,_],_=>rfl)⟩
 have O__law_used:=jVU (P:=Pg) (w:=w) (base:=base) (B:=BkT w K) rfl rfl g F__law_used  
 have N__law_used:Fn Pg w K mg base (BkT w K) 1 "_law_used" 1 jAA:=⟨_,_,_,O__law_used,h__law_used,F__law_used.kp,(F__law_used.bindsN fun _ _ _ _ _ _ us hl=>match us,hl with | [_],_=>rfl)⟩
 have O__law_shifted:=jPC (P:=Pg) (w:=w) (base:=base) (B:=BkT w K) rfl rfl g F__law_shifted  
 have N__law_shifted:Fn Pg w K mg base (BkT w K) 1 "_law_shifted" 4 uG:=⟨_,_,_,O__law_shifted,h__law_shifted,F__law_shifted.kp,(F__law_shifted.bindsN fun _ _ _ _ _ _ us hl=>match us,hl with | [_,_,_,_],_=>rfl)⟩
 have O__law_keys:=jVY (P:=Pg) (w:=w) (base:=base) (B:=BkT w K) rfl rfl g F__law_keys  (N__law_draw.mono (by decide)) (N__law_used.mono (by decide)) (N__law_shifted.mono (by decide))
 have N__law_keys:Fn Pg w K mg base (BkT w K) 2 "_law_keys" 5 zA:=⟨_,_,_,O__law_keys,h__law_keys,F__law_keys.kp,(F__law_keys.bindsN fun _ _ _ _ _ _ us hl=>match us,hl with | [_,_,_,_,_],_=>rfl)⟩
 have O__law_key:=jZL (P:=Pg) (w:=w) (base:=base) (B:=BkT w K) rfl rfl g F__law_key  
 have N__law_key:Fn Pg w K mg base (BkT w K) 1 "_law_key" 2 uD:=⟨_,_,_,O__law_key,h__law_key,F__law_key.kp,(F__law_key.bindsN fun _ _ _ _ _ _ us hl=>match us,hl with | [_,_],_=>rfl)⟩
 have O__law_listed:=jRL (P:=Pg) (w:=w) (base:=base) (B:=BkT w K) rfl rfl g F__law_listed  
 have N__law_listed:Fn Pg w K mg base (BkT w K) 1 "_law_listed" 3 wN:=⟨_,_,_,O__law_listed,h__law_listed,F__law_listed.kp,(F__law_listed.bindsN fun _ _ _ _ _ _ us hl=>match us,hl with | [_,_,_],_=>rfl)⟩
 have O__law_drawn_drop:=jLN (P:=Pg) (w:=w) (base:=base) (B:=BkT w K) rfl rfl g F__law_drawn_drop  (N__law_line.mono (by decide)) (N__law_of.mono (by decide)) (N__law_draw.mono (by decide)) (N__law_keys.mono (by decide)) (N__law_key.mono (by decide))
 have N__law_drawn_drop:Fn Pg w K mg base (BkT w K) 3 "_law_drawn_drop" 3 vZ:=⟨_,_,_,O__law_drawn_drop,h__law_drawn_drop,F__law_drawn_drop.kp,(F__law_drawn_drop.bindsN fun _ _ _ _ _ _ us hl=>match us,hl with | [_,_,_],_=>rfl)⟩
 have O__law_drawn_number:=jJP (P:=Pg) (w:=w) (base:=base) (B:=BkT w K) rfl rfl g F__law_drawn_number  (N__law_line.mono (by decide)) (N__law_draw.mono (by decide)) (N__law_listed.mono (by decide)) (N__law_keys.mono (by decide)) (N__law_key.mono (by decide))
 have N__law_drawn_number:Fn Pg w K mg base (BkT w K) 3 "_law_drawn_number" 3 vK:=⟨_,_,_,O__law_drawn_number,h__law_drawn_number,F__law_drawn_number.kp,(F__law_drawn_number.bindsN fun _ _ _ _ _ _ us hl=>match us,hl with | [_,_,_],_=>rfl)⟩
 have O__law_number_due:=jLM (P:=Pg) (w:=w) (base:=base) (B:=BkT w K) rfl rfl g F__law_number_due  
 have N__law_number_due:Fn Pg w K mg base (BkT w K) 1 "_law_number_due" 1 yV:=⟨_,_,_,O__law_number_due,h__law_number_due,F__law_number_due.kp,(F__law_number_due.bindsN fun _ _ _ _ _ _ us hl=>match us,hl with | [_],_=>rfl)⟩
 have O__law_deed_due:=jOL (P:=Pg) (w:=w) (base:=base) (B:=BkT w K) rfl rfl g F__law_deed_due  (N__law_number_due.mono (by decide))
 have N__law_deed_due:Fn Pg w K mg base (BkT w K) 2 "_law_deed_due" 1 vC:=⟨_,_,_,O__law_deed_due,h__law_deed_due,F__law_deed_due.kp,(F__law_deed_due.bindsN fun _ _ _ _ _ _ us hl=>match us,hl with | [_],_=>rfl)⟩
 have O_law:=yUH (P:=Pg) (w:=w) (base:=base) (B:=BkT w K) rfl rfl g F_law rfl (TBs (fun K=>He.ga K "law", ("law" : Str) ++ ".<locals>." ++ "<lambda>") (by simp [lsT])) rfl (c.fact 68 (f:=(fun K _=>ndT K lsT)) rfl) (yDH (c.fact 67 (f:=(fun K T=>jZY K T (He.ga K "law"))) rfl)).2.2.1 (T_try.mono (by decide)) (N__law_open.mono (by decide)) (N__law_some_spec.mono (by decide)) (N__law_model.mono (by decide)) (N__law_of.mono (by decide)) (N__law_draw.mono (by decide)) (N__law_drawn_number.mono (by decide)) (N__law_drawn_drop.mono (by decide)) (N__law_like.mono (by decide)) (N_read_deed.mono (by decide)) (N__law_deed_due.mono (by decide)) (N_deed_text.mono (by decide)) (NK_deed_text_0_deed.mono (by decide)) (N_read_deed.mono (by decide)) (NK_read_deed_0_text.mono (by decide))
 exact O_law
theorem yVM (w:World) (K:PySem.W.Frag) (T:List Addr) (c:SaysL faT fnT tsT w K T):∀ p∈lsT,jZY K T (p.1 K)=true:=fun p hp=>by
 unfold lsT at hp
 rcases List.mem_cons.mp hp with rfl | hp
 ·exact (c.fact 67 (f:=(fun K T=>jZY K T (He.ga K "law"))) rfl)
 cases hp
end LW
set_option maxHeartbeats 4000000
namespace Lp
open PySem PySem.Spec PyProof.Rows L2 LamX NdefX PySem.W
end Lp
set_option maxHeartbeats 4000000
namespace Lp
open PySem PySem.Spec PyProof.Rows L2
abbrev twC (p:Program):TablesWhole.Ctx:=⟨p.main.scope,[],TablesWhole.wSs TablesWhole.gather p.main.scope ⟨p.main.scope,[],[],[],none⟩ p.main.scope p.main.body,[],none⟩
abbrev twP (p:Program) (l:List Stmt):Bool:=TablesWhole.wSs TablesWhole.holds p.main.scope (twC p) p.main.scope l
theorem jTI {p:Program}:∀ {a b:List Stmt},twP p a=true→twP p b=true→twP p (a++b)=true
 | [],_,_,h=>h
 | s :: a,b,h,k=>by
  have h:(TablesWhole.wS TablesWhole.holds p.main.scope (twC p) p.main.scope s&&twP p a)=true:=h
  obtain ⟨h1,h2⟩:=Bool.and_eq_true_iff.mp h
  show (TablesWhole.wS TablesWhole.holds p.main.scope (twC p) p.main.scope s&&twP p (a++b))=true
  rw [h1,jTI h2 k]; rfl
theorem yVK {p:Program} (n m k:Nat) (h1:p.modules=[]) (h2:p.parses=[]) (h3:p.harvested=[]) (hn:TablesWhole.noTwice p.main.scope=true) (a:twP p (p.main.body.take n)=true) (b:twP p ((p.main.body.drop n).take m)=true) (c:twP p (((p.main.body.drop n).drop m).take k)=true) (d:twP p (((p.main.body.drop n).drop m).drop k)=true):p.tablesWhole=true:=by
 have e:twP p p.main.body=true:=by
  have:=jTI a (jTI b (jTI c d))
  rwa [List.take_append_drop,List.take_append_drop,List.take_append_drop] at this
 unfold Program.tablesWhole TablesWhole.wProgram
 rw [h1,h2,h3]
 show (TablesWhole.wModule TablesWhole.holds p.main&&(true&&(true&&(true&&true))))=true
 rw [Bool.and_true,Bool.and_true,Bool.and_true,Bool.and_true]
 show (true&&(TablesWhole.noTwice p.main.scope&&(twP p p.main.body&&true)))=true
 rw [hn,e]; rfl
end Lp
set_option maxHeartbeats 0
namespace LW
open PySem PySem.W PySem.Calls PyProof.Rows
theorem eT1:opening (OpenLaw.row PySem.Challenge.rw_latedrops_k08_whole_texts_of_deeds).prog=plainProg (OpenLaw.row PySem.Challenge.rw_latedrops_k08_whole_texts_of_deeds).prog.main.scope.names:=by kernel_rfl
theorem eT2 (s:Shared):fenceModules? (OpenLaw.row PySem.Challenge.rw_latedrops_k08_whole_texts_of_deeds).prog s=some s:=by kernel_rfl
theorem eT3:defOf (view (OpenLaw.row PySem.Challenge.rw_latedrops_k08_whole_texts_of_deeds).prog [46]) (OpenLaw.row PySem.Challenge.rw_latedrops_k08_whole_texts_of_deeds).name=some (HandSHeadRun.topDef (OpenLaw.row PySem.Challenge.rw_latedrops_k08_whole_texts_of_deeds).prog 46,[]):=by kernel_rfl
theorem eT4:(OpenLaw.row PySem.Challenge.rw_latedrops_k08_whole_texts_of_deeds).prog.theDef (OpenLaw.row PySem.Challenge.rw_latedrops_k08_whole_texts_of_deeds).name=some ((HandSHeadRun.topDef (OpenLaw.row PySem.Challenge.rw_latedrops_k08_whole_texts_of_deeds).prog 46).params,(HandSHeadRun.topDef (OpenLaw.row PySem.Challenge.rw_latedrops_k08_whole_texts_of_deeds).prog 46).body,(HandSHeadRun.topDef (OpenLaw.row PySem.Challenge.rw_latedrops_k08_whole_texts_of_deeds).prog 46).scope):=by kernel_rfl
theorem eT5:kwWritten? (HandSHeadRun.topDef (OpenLaw.row PySem.Challenge.rw_latedrops_k08_whole_texts_of_deeds).prog 46).params.kwonlyargs (HandSHeadRun.topDef (OpenLaw.row PySem.Challenge.rw_latedrops_k08_whole_texts_of_deeds).prog 46).params.kw_defaults=some []:=by kernel_rfl
theorem eT6:(chainsOk (view (OpenLaw.row PySem.Challenge.rw_latedrops_k08_whole_texts_of_deeds).prog [46])&&opensWell (OpenLaw.row PySem.Challenge.rw_latedrops_k08_whole_texts_of_deeds).prog&&(frees (OpenLaw.row PySem.Challenge.rw_latedrops_k08_whole_texts_of_deeds).toRowW&&(OpenLaw.row PySem.Challenge.rw_latedrops_k08_whole_texts_of_deeds).within.isEmpty))=true:=by decide +kernel
theorem eT7:(HandSHeadRun.topDef (OpenLaw.row PySem.Challenge.rw_latedrops_k08_whole_texts_of_deeds).prog 46).name=("law" : PySem.Str):=by kernel_rfl
theorem eT8:TablesWhole.noTwice (OpenLaw.row PySem.Challenge.rw_latedrops_k08_whole_texts_of_deeds).prog.main.scope=true:=by kernel_rfl
theorem eTA:Lp.twP (OpenLaw.row PySem.Challenge.rw_latedrops_k08_whole_texts_of_deeds).prog ((OpenLaw.row PySem.Challenge.rw_latedrops_k08_whole_texts_of_deeds).prog.main.body.take 22)=true:=by kernel_rfl
theorem eTB:Lp.twP (OpenLaw.row PySem.Challenge.rw_latedrops_k08_whole_texts_of_deeds).prog (((OpenLaw.row PySem.Challenge.rw_latedrops_k08_whole_texts_of_deeds).prog.main.body.drop 22).take 11)=true:=by kernel_rfl
theorem eTC:Lp.twP (OpenLaw.row PySem.Challenge.rw_latedrops_k08_whole_texts_of_deeds).prog ((((OpenLaw.row PySem.Challenge.rw_latedrops_k08_whole_texts_of_deeds).prog.main.body.drop 22).drop 11).take 10)=true:=by kernel_rfl
theorem eTD:Lp.twP (OpenLaw.row PySem.Challenge.rw_latedrops_k08_whole_texts_of_deeds).prog ((((OpenLaw.row PySem.Challenge.rw_latedrops_k08_whole_texts_of_deeds).prog.main.body.drop 22).drop 11).drop 10)=true:=by kernel_rfl
end LW
namespace LW
open PySem PySem.Spec PyProof.Rows L2 Lp
abbrev LwLaw:Prop:=∀ ns:List Int,ns.length≤63→(∀ z∈ns,Builtin.Int.intBits z≤1048576)→∃ h',jOP [.scr (ns.map .int)] []=.ok (.bl true) h'
end LW
namespace LW
open PySem PySem.W PySem.Calls PyProof.Rows
theorem yWJ (hlaw:LwLaw):PySem.Challenge.rw_latedrops_k08_whole_texts_of_deeds.Holds:=by
 w_on; o_law
 refine HandSHeadRun.head_any (r:=OpenLaw.row PySem.Challenge.rw_latedrops_k08_whole_texts_of_deeds) (q:=view (OpenLaw.row PySem.Challenge.rw_latedrops_k08_whole_texts_of_deeds).prog [46]) (H:=LW.hkT) (ob:=LW.obT) (M:=40000) (loose:=LW.jIU) (d:=HandSHeadRun.topDef (OpenLaw.row PySem.Challenge.rw_latedrops_k08_whole_texts_of_deeds).prog 46) (kwd:=[]) LW.yTT
  LW.eT1 LW.eT2 LW.yXB LW.eT3 LW.eT4 LW.eT5 (by rfl) (by first | assumption | decide +kernel) LW.eT6 ⟨rfl,rfl,rfl,rfl,rfl,Lp.yVK 22 11 10 rfl rfl rfl LW.eT8 LW.eTA LW.eTB LW.eTC LW.eTD⟩ ?hw ?hc
 case hw=>w_witness2
 case hc =>
  refine Lp.yVJ (l:=PySem.Challenge.rw_latedrops_k08_whole_texts_of_deeds) (n:=63) (k:=10) (x := "_law_script") (B:=LW.BkT) (m:=LW.jOP) (fa:=LW.faT) (fn:=LW.fnT) (ts:=LW.tsT) (ls:=LW.lsT) rfl (by decide) (by kernel_rfl) ⟨rfl,by decide,by decide⟩ (fun _ _ y=>y) (fun _ _=>rfl) (fun _ _=>rfl) LW.yVM ?F hlaw
  intro w mg fa h K T KX G hmg0 c
  have hmg:mg ("law" : PySem.Str)=some (.ref fa):=by
   have e:(HandSHeadRun.topDef (OpenLaw.row PySem.Challenge.rw_latedrops_k08_whole_texts_of_deeds).prog 46).name=("law" : PySem.Str):=LW.eT7
   rw [← e]
   exact hmg0
  exact LW.yUL (w:=w) KX G hmg c
end LW
set_option maxHeartbeats 4000000
local macro_rules | `(tactic| walk_at "p1")=>`(tactic| (first | ((with_reducible apply Lp.jQ); (exact rfl)) | with_reducible refine Lp.p_c ?_ | with_reducible refine Lp.yC ?_ | with_reducible refine Lp.jP ?_ | with_reducible refine Lp.yF ?_ | with_reducible refine Lp.yS ?_ | with_reducible refine Lp.zK ?_ | with_reducible refine Lp.uI ?_ | with_reducible refine Lp.vM ?_ | with_reducible refine Lp.uO ?_ | with_reducible refine Lp.jAW ?_ | with_reducible refine Lp.qT ?_ | with_reducible refine Lp.uW ?_ | with_reducible refine Lp.wA ?_ | with_reducible refine Lp.uU ?_ | with_reducible refine Lp.zE ?_ | with_reducible refine Lp.wU ?_ | with_reducible refine Lp.jBH ?_ | with_reducible refine Lp.kE ?_ | with_reducible refine Lp.zN ?_ | with_reducible refine Lp.kW ?_ | with_reducible refine Lp.qU ?_ | with_reducible refine Lp.yP ?_ | with_reducible refine Lp.zF ?_ | with_reducible refine Lp.qD ?_ | with_reducible refine Lp.jCW ?_ | with_reducible refine Lp.vQ ?_ | with_reducible refine Lp.vY ?_ | with_reducible refine Lp.vL ?_ | with_reducible refine Lp.zB ?_ | with_reducible refine Lp.qG ?_ | with_reducible refine Lp.jBG ?_ | with_reducible refine Lp.jAX ?_ | refine ⟨⟨⟨rfl,rfl⟩,rfl,rfl⟩,⟨rfl,rfl⟩,?_⟩ | refine Lp.vR rfl ?_ | refine Lp.vX rfl ?_ | refine ⟨_,rfl,?_⟩ | refine ⟨⟨rfl,rfl⟩,?_⟩ | refine ⟨⟨rfl,Nat.le_of_ble_eq_true rfl⟩,?_⟩ | (refine ⟨_,_,rfl,⟨rfl,rfl⟩,?_⟩; try dsimp only [Lp.jU,List.set_cons_succ,List.set_cons_zero]) | (refine ⟨rfl,?_⟩; try dsimp only [Lp.jU,List.set_cons_succ,List.set_cons_zero])))
namespace LW
open PySem PySem.Spec PyProof.Rows L2 Lp
section
theorem jUP:jZ=jPT:=by unfold jZ jPT; rfl
theorem of_eq:vB=ofM:=by
 unfold vB ofM jLG
 rw [jUP]; rfl
def jPQ (a b:Int):PV→Bool
 | .int i=>decide (a≤i)&&decide (i≤b)
 | _=>false
theorem jJK {v:PV} {a b:Int} {h:AH} (p:Pl v):(uY [v,.int a,.int b] h).post (fun r h'=>r=.bl (jPQ a b v)∧h'=h) NE:=by
 unfold uY
 rw [jUW]
 unfold jMO
 refine wV [some v,some (.int a),some (.int b)] rfl ?_
 (repeat (first | walk_at "p1" | refine ⟨_,jOQ p rfl,?_⟩))
 cases v with
 | int i =>
  (repeat walk_at "p1")
  refine zW (fun h3=>?_) fun h3=>?_
  ·(repeat walk_at "p1")
   show PV.bl (decide (i≤b))=.bl (decide (a≤i)&&decide (i≤b))∧h=h
   have h3:decide (a≤i)=true:=h3
   rw [h3]; exact ⟨rfl,rfl⟩
  ·(repeat walk_at "p1")
   show PV.bl false=.bl (decide (a≤i)&&decide (i≤b))∧h=h
   have h3:decide (a≤i)=false:=h3
   rw [h3]; exact ⟨rfl,rfl⟩
 | bl k =>
  (repeat (first | walk_at "p1" | refine ⟨_,jOQ p rfl,?_⟩))
 | non=>(repeat walk_at "p1")
 | str x=>(repeat walk_at "p1")
 | tup xs=>(repeat walk_at "p1")
 | lst xs=>(repeat walk_at "p1")
 | _=>exact p.elim
def keyB:PV→Bool
 | .tup xs=>(decide (1≤(xs.length:Int))&&decide ((xs.length:Int)≤40))&&(xs.map (jPQ (0 - 1000000000000000000) 1000000000000000000)).all fun b=>b
 | _=>false
theorem jJG {v:PV} {h:AH} (p:Pl v) (ps:∀ xs,v=.tup xs→∀ x∈xs,Pl x):(qQ [v] h).post (fun r h'=>r=.bl (keyB v)∧h'=h) NE:=by
 unfold qQ
 rw [yFM]
 unfold jSH
 refine wV [some v,none] rfl ?_
 (repeat (first | walk_at "p1" | refine ⟨_,jOQ p rfl,?_⟩))
 cases v with
 | tup xs =>
  have px:=ps xs rfl
  (repeat walk_at "p1")
  refine zW (fun h1=>?_) fun h1=>?_
  ·(repeat walk_at "p1")
   have h1:decide (1≤(xs.length:Int))=true:=h1
   refine zW (fun h2=>?_) fun h2=>?_
   ·have h2:(!decide ((xs.length:Int)≤40))=true:=h2
    (repeat walk_at "p1")
    show PV.bl false=.bl (decide (1≤(xs.length:Int))&&decide ((xs.length:Int)≤40)&&(xs.map (jPQ (0 - 1000000000000000000) 1000000000000000000)).all fun b=>b)∧h=h
    rw [show decide ((xs.length:Int)≤40)=false by simpa using h2,Bool.and_false,Bool.false_and]
    exact ⟨rfl,rfl⟩
   ·have h2:(!decide ((xs.length:Int)≤40))=false:=h2
    (repeat walk_at "p1")
    refine jBD (jDB (jQ rfl ⟨_,rfl,rfl,fun v=>.bl (jPQ (0 - 1000000000000000000) 1000000000000000000 v),fun v hv=>⟨_,if_neg (by rw [qP (px v hv)]; decide),?_⟩,?_⟩))
    ·(repeat (first | walk_at "p1" | refine ⟨⟨rfl,by show (!isOwn v&&_)=true; rw [qP (px v hv)]; rfl⟩,jX (jJK (px v hv)) fun r h' z=>?_⟩))
     obtain ⟨rfl,rfl⟩:=z
     exact ⟨rfl,rfl,rfl,rfl⟩
    ·(repeat (first | walk_at "p1" | refine ⟨_,all_map (jPQ _ _),?_⟩))
     show PV.bl _=.bl (decide (1≤(xs.length:Int))&&decide ((xs.length:Int)≤40)&&(xs.map (jPQ (0 - 1000000000000000000) 1000000000000000000)).all fun b=>b)∧h=h
     rw [h1,show decide ((xs.length:Int)≤40)=true by simpa using h2,Bool.true_and,Bool.true_and]
     exact ⟨rfl,rfl⟩
  ·have h1:decide (1≤(xs.length:Int))=false:=h1
   (repeat walk_at "p1")
   show PV.bl false=.bl (decide (1≤(xs.length:Int))&&decide ((xs.length:Int)≤40)&&(xs.map (jPQ (0 - 1000000000000000000) 1000000000000000000)).all fun b=>b)∧h=h
   rw [h1,Bool.false_and,Bool.false_and]
   exact ⟨rfl,rfl⟩
 | bl k=>(repeat walk_at "p1")
 | int k=>(repeat walk_at "p1")
 | non=>(repeat walk_at "p1")
 | str x=>(repeat walk_at "p1")
 | lst xs=>(repeat walk_at "p1")
 | _=>exact p.elim
theorem like_eq:uF=jWR 8:=by
 unfold uF jWR
 rfl
theorem open_spec {ns:List Int} (h63:ns.length≤63):(jAB [.scr (ns.map .int)] []).post (fun v h'=>v=.cel 0∧BagAt [none] 0 h') NE:=by
 unfold jAB
 rw [jUZ]
 unfold jMR
 refine wV [some (.scr (ns.map .int))] rfl (vM (jWQ (jKU ?_)))
 (repeat walk_at "p1")
 have e:jAY (ns.map PV.int) none (some 63)=ns.map PV.int:=by
  unfold jAY
  have e2:HT.sIx (ns.map PV.int).length (ns.map PV.int).length (some 63)=(ns.map PV.int).length:=by
   unfold HT.sIx
   simp only [List.length_map]
   split <;> omega
  rw [e2]
  have e1:HT.sIx (ns.map PV.int).length 0 none=0:=rfl
  rw [e1,List.drop_zero,Nat.sub_zero,List.take_length]
 exact ⟨_,⟨ns,0,0,100201,0,by rw [e],by decide,by decide,by decide,by decide⟩,rfl⟩
def KN (x:PV):Prop:=∃ i:Int,x=.int i∧0 - 1000000000000000000≤i∧i≤1000000000000000000
theorem KN.num {x:PV} (h:KN x):jPQ (0 - 1000000000000000000) 1000000000000000000 x=true:=by
 obtain ⟨i,rfl,h1,h2⟩:=h
 show (decide _&&decide _)=true
 rw [decide_eq_true h1,decide_eq_true h2]; rfl
theorem yME {xs:List PV} (h:∀ x∈xs,KN x) (h1:1≤xs.length) (h2:xs.length≤40):keyB (.tup xs)=true:=by
 show (decide (1≤(xs.length:Int))&&decide ((xs.length:Int)≤40)&&(xs.map (jPQ (0 - 1000000000000000000) 1000000000000000000)).all fun b=>b)=true
 rw [decide_eq_true (by omega),decide_eq_true (by omega),Bool.true_and,Bool.true_and,List.all_eq_true]
 intro b hb
 obtain ⟨x,hx,rfl⟩:=List.mem_map.mp hb
 exact (h x hx).num
abbrev jDH:PV→Bool:=jPQ 0 39
theorem jAT {v:PV} {h:AH} (p:Pl v):(zQ [v] h).post (fun r h'=>r=.bl (jDH v)∧h'=h) NE:=by
 unfold zQ
 rw [yFL]
 unfold jSG
 refine wV [some v] rfl ?_
 (repeat (first | walk_at "p1" | refine ⟨⟨rfl,by show (!isOwn v&&_)=true; rw [qP p]; rfl⟩,jX (jJK p) fun r h' z=>?_⟩))
 obtain ⟨rfl,rfl⟩:=z
 exact ⟨rfl,rfl,rfl⟩
def uN:PV→Bool
 | .non=>true
 | v=>jDH v
theorem jEN {v:PV} {h:AH} (p:Pl v):(zY [v] h).post (fun r h'=>r=.bl (uN v)∧h'=h) NE:=by
 unfold zY
 rw [yBC]
 unfold jQP
 refine wV [some v] rfl ?_
 have pp:=p
 cases v with
 | non=>(repeat walk_at "p1")
 | bl k =>
  (repeat walk_at "p1")
  refine jX (jAT pp) fun r h' z=>?_
  obtain ⟨rfl,rfl⟩:=z
  exact ⟨rfl,rfl,rfl⟩
 | int k =>
  (repeat walk_at "p1")
  refine jX (jAT pp) fun r h' z=>?_
  obtain ⟨rfl,rfl⟩:=z
  exact ⟨rfl,rfl,rfl⟩
 | str x =>
  (repeat walk_at "p1")
  refine jX (jAT pp) fun r h' z=>?_
  obtain ⟨rfl,rfl⟩:=z
  exact ⟨rfl,rfl,rfl⟩
 | tup xs =>
  (repeat walk_at "p1")
  refine jX (jAT pp) fun r h' z=>?_
  obtain ⟨rfl,rfl⟩:=z
  exact ⟨rfl,rfl,rfl⟩
 | lst xs =>
  (repeat walk_at "p1")
  refine jX (jAT pp) fun r h' z=>?_
  obtain ⟨rfl,rfl⟩:=z
  exact ⟨rfl,rfl,rfl⟩
 | _=>exact p.elim
def jWM:PV→Bool
 | .tup ks=>decide ((ks.length:Int)≤40)&&(ks.map keyB).all fun b=>b
 | _=>false
def jRQ:List PV→Bool
 | [a]=>jDH a
 | _=>false
def jIR:List PV→Bool
 | [a,b,c,d]=>jDH a&&(uN b&&(uN c&&keyB d))
 | _=>false
def jED:List PV→Bool
 | [a,b,c]=>uN a&&(uN b&&jWM c)
 | _=>false
def wIn (w:Str):Bool:=[PyData.str "strike", .str "back"].any fun z=>PyData.eqv z (.str w)
def jCT (w:Str):Bool:=PyData.eqv (.str w) (.str "drop")
def jGJ (w:Str):Bool:=PyData.eqv (.str w) (.str "number")
def jDC:PV→Bool
 | .tup (.str w :: ps)=>cond (wIn w) (jRQ ps) (cond (jCT w) (jIR ps) (jGJ w&&jED ps))
 | _=>false
theorem jYT {n:Nat} {v:PV} (d:DPl (n+1) v):∀ xs,v=.tup xs→∀ x∈xs,Pl x:=fun xs e x hx=>by
 subst e
 exact DPl.pl (d x hx)
theorem jTX {n:Nat}:∀ {xs:List PV},(∀ x∈xs,∃ d,toD x=some d∧d.depth≤n)→∃ ds,toDs xs=some ds∧PyData.depthAll ds≤n
 | [],_=>⟨[],rfl,Nat.zero_le _⟩
 | x :: xs,h=>by
  obtain ⟨d,e1,l1⟩:=h x (by simp)
  obtain ⟨ds,e2,l2⟩:=jTX (n:=n) (xs:=xs) fun y hy=>h y (by simp [hy])
  refine ⟨d :: ds,by simp only [toDs,e1,e2],?_⟩
  simp only [PyData.depthAll]
  omega
theorem jUQ:∀ (n:Nat) {v:PV},DPl n v→∃ d,toD v=some d∧d.depth≤n
 | 0,v,h=>by
  cases v <;> first | exact h.elim | exact ⟨_,rfl,by simp only [PyData.depth]; omega⟩
 | n+1,v,h=>by
  cases v with
  | tup xs =>
   obtain ⟨ds,e,l⟩:=jTX (n:=n) (xs:=xs) fun x hx=>jUQ n (h x hx)
   exact ⟨.tuple ds,by simp only [toD,e]; rfl,by simp only [PyData.depth]; omega⟩
  | lst xs =>
   obtain ⟨ds,e,l⟩:=jTX (n:=n) (xs:=xs) fun x hx=>jUQ n (h x hx)
   exact ⟨.list ds,by simp only [toD,e]; rfl,by simp only [PyData.depth]; omega⟩
  | _=>first | exact h.elim | exact ⟨_,rfl,by simp only [PyData.depth]; omega⟩
theorem eq_nil {n:Nat} {x:PV} {xs:List PV} {h:AH} (d:DPl n (.tup (x :: xs))) (hn:n≤64):fEq h (.tup (x :: xs)) (.tup [])=some (.bl false):=by
 obtain ⟨dd,e,l⟩:=jUQ n d
 have e2:∃ ds,toDs (x :: xs)=some ds∧dd=.tuple ds:=by
  cases q:toDs (x :: xs) with
  | none=>simp only [toD,q] at e; cases e
  | some ds=>simp only [toD,q] at e; exact ⟨ds,rfl,(Option.some.inj e).symm⟩
 obtain ⟨ds,q,rfl⟩:=e2
 have e3:∃ y ys,ds=y :: ys:=by
  unfold toDs at q
  split at q
  ·exact ⟨_,_,(Option.some.inj q).symm⟩
  ·cases q
 obtain ⟨y,ys,rfl⟩:=e3
 have o:dOk (.tuple (y :: ys))=true:=decide_eq_true (by omega)
 show (match toD (.tup (x :: xs)),toD (.tup []) with
  | some d,some e=>if dOk d&&dOk e then some (PV.bl (PyData.eqv d e)) else none
  | _,_=>none)=_
 rw [e,show toD (.tup [])=some (.tuple []) from rfl]
 show (if dOk (.tuple (y :: ys))&&dOk (.tuple []) then some (PV.bl (PyData.eqv (.tuple (y :: ys)) (.tuple []))) else none)=_
 rw [o,show dOk (.tuple [])=true from rfl]
 rfl
theorem jYY {α:Type} {x:α} {xs:List α}:atI (x :: xs) 0=some x:=by
 unfold atI ixN
 rw [if_pos (by decide),if_pos (by simp only [List.length_cons]; omega)]
 rfl
theorem jEO {v:PV} {h:AH} (d:DPl 3 v) (hl:∀ xs,v=.tup xs→xs.length < 1000):(qN [v] h).post (fun r h'=>r=.bl (jDC v)∧h'=h) NE:=by
 unfold qN
 rw [yBD]
 unfold jQQ
 refine wV [some v,none,none,none,none] rfl ?_
 have p:=DPl.pl d
 (repeat (first | walk_at "p1" | refine ⟨_,jOQ p rfl,?_⟩))
 cases v with
 | bl k=>(repeat walk_at "p1")
 | int k=>(repeat walk_at "p1")
 | non=>(repeat walk_at "p1")
 | str x=>(repeat walk_at "p1")
 | lst xs=>(repeat walk_at "p1")
 | tup xs =>
  have hl:=hl xs rfl
  cases xs with
  | nil=>(repeat walk_at "p1")
  | cons x ps =>
   have dx:DPl 2 x:=d x (by simp)
   have dp:∀ y∈ps,DPl 2 y:=fun y hy=>d y (by simp [hy])
   (repeat (first | walk_at "p1" | refine ⟨_,eq_nil d (by decide),?_⟩))
   (repeat (first | walk_at "p1" | refine ⟨_,(by rw [yER]; exact jYY),?_⟩))
   refine ⟨_,jOQ (DPl.pl dx) rfl,?_⟩
   have other:∀ q:Bool,jDC (.tup (x :: ps))=q→True:=fun _ _=>trivial
   cases x with
   | bl k=>(repeat walk_at "p1")
   | int k=>(repeat walk_at "p1")
   | non=>(repeat walk_at "p1")
   | tup xs=>(repeat walk_at "p1")
   | lst xs=>(repeat walk_at "p1")
   | str w =>
    (repeat walk_at "p1")
    refine jMA ?_
    have hl:ps.length < 999:=by simp only [List.length_cons] at hl; omega
    (repeat (first | walk_at "p1" | refine ⟨_,_,rfl,by omega,?_⟩))
    dsimp only [List.set_cons_succ,List.set_cons_zero]
    refine zW (fun hw=>?_) fun hw=>?_
    ·have hw:wIn w=true:=by rw [Bool.false_xor] at hw; exact hw
     have e:jDC (.tup (.str w :: ps))=jRQ ps:=by
      show cond (wIn w) _ _=_
      rw [hw]; rfl
     rw [e]
     rcases ps with _ | ⟨a,_ | ⟨b,t⟩⟩
     ·(repeat walk_at "p1")
     ·have pa:=DPl.pl (dp a (by simp))
      (repeat walk_at "p1")
      refine ⟨⟨rfl,by show (!isOwn _&&_)=true; rw [qP pa]; rfl⟩,?_⟩
      refine jX (jAT pa) fun r h' z=>?_
      obtain ⟨rfl,rfl⟩:=z
      exact ⟨rfl,rfl,rfl⟩
     ·(repeat walk_at "p1")
    have hw:wIn w=false:=by rw [Bool.false_xor] at hw; exact hw
    (repeat walk_at "p1")
    refine zW (fun hd=>?_) fun hd=>?_
    ·have hd:jCT w=true:=hd
     have e:jDC (.tup (.str w :: ps))=jIR ps:=by
      show cond (wIn w) _ (cond (jCT w) _ _)=_
      rw [hw,hd]; rfl
     rw [e]
     rcases ps with _ | ⟨a,_ | ⟨b,_ | ⟨c,_ | ⟨k,_ | ⟨x,t⟩⟩⟩⟩⟩
     ·(repeat walk_at "p1")
     ·(repeat walk_at "p1")
     ·(repeat walk_at "p1")
     ·(repeat walk_at "p1")
     ·have pa:=DPl.pl (dp a (by simp))
      have pb:=DPl.pl (dp b (by simp))
      have pc:=DPl.pl (dp c (by simp))
      have dk:=dp k (by simp)
      (repeat walk_at "p1")
      refine ⟨⟨rfl,by show (!isOwn _&&_)=true; rw [qP pa]; rfl⟩,?_⟩
      refine jX (jAT pa) fun r h' z=>?_
      obtain ⟨rfl,rfl⟩:=z
      (repeat walk_at "p1")
      refine zW (fun h1=>?_) fun h1=>?_
      ·(repeat walk_at "p1")
       refine ⟨⟨rfl,by show (!isOwn _&&_)=true; rw [qP pb]; rfl⟩,?_⟩
       refine jX (jEN pb) fun r h' z=>?_
       obtain ⟨rfl,rfl⟩:=z
       (repeat walk_at "p1")
       refine zW (fun h2=>?_) fun h2=>?_
       ·(repeat walk_at "p1")
        refine ⟨⟨rfl,by show (!isOwn _&&_)=true; rw [qP pc]; rfl⟩,?_⟩
        refine jX (jEN pc) fun r h' z=>?_
        obtain ⟨rfl,rfl⟩:=z
        (repeat walk_at "p1")
        refine zW (fun h3=>?_) fun h3=>?_
        ·(repeat walk_at "p1")
         refine ⟨⟨rfl,by show (!isOwn _&&_)=true; rw [qP (DPl.pl dk)]; rfl⟩,?_⟩
         refine jX (jJG (DPl.pl dk) (jYT dk)) fun r h' z=>?_
         obtain ⟨rfl,rfl⟩:=z
         refine ⟨rfl,?_,rfl⟩
         show PV.bl _=.bl (jDH a&&(uN b&&(uN c&&keyB k)))
         rw [h1,h2,h3]; rfl
        ·refine ⟨rfl,?_,rfl⟩
         show PV.bl _=.bl (jDH a&&(uN b&&(uN c&&keyB k)))
         rw [h1,h2,h3]; rfl
       ·refine ⟨rfl,?_,rfl⟩
        show PV.bl _=.bl (jDH a&&(uN b&&(uN c&&keyB k)))
        rw [h1,h2]; rfl
      ·refine ⟨rfl,?_,rfl⟩
       show PV.bl _=.bl (jDH a&&(uN b&&(uN c&&keyB k)))
       rw [h1]; rfl
     ·(repeat walk_at "p1")
    have hd:jCT w=false:=hd
    (repeat walk_at "p1")
    refine zW (fun hn=>?_) fun hn=>?_
    ·have hn:(!jGJ w)=true:=hn
     have hn:jGJ w=false:=by simpa using hn
     have e:jDC (.tup (.str w :: ps))=false:=by
      show cond (wIn w) _ (cond (jCT w) _ (jGJ w&&_))=_
      rw [hw,hd,hn]; rfl
     rw [e]
     (repeat walk_at "p1")
    have hn:(!jGJ w)=false:=hn
    have hn:jGJ w=true:=by simpa using hn
    have e:jDC (.tup (.str w :: ps))=jED ps:=by
     show cond (wIn w) _ (cond (jCT w) _ (jGJ w&&_))=_
     rw [hw,hd,hn]; rfl
    rw [e]
    rcases ps with _ | ⟨a,_ | ⟨b,_ | ⟨c,_ | ⟨k,t⟩⟩⟩⟩
    ·(repeat walk_at "p1")
    ·(repeat walk_at "p1")
    ·(repeat walk_at "p1")
    ·have pa:=DPl.pl (dp a (by simp))
     have pb:=DPl.pl (dp b (by simp))
     have dc:=dp c (by simp)
     have pc:=DPl.pl dc
     (repeat walk_at "p1")
     refine ⟨⟨rfl,by show (!isOwn _&&_)=true; rw [qP pa]; rfl⟩,?_⟩
     refine jX (jEN pa) fun r h' z=>?_
     obtain ⟨rfl,rfl⟩:=z
     (repeat walk_at "p1")
     refine zW (fun h1=>?_) fun h1=>?_
     ·(repeat walk_at "p1")
      have h1:uN a=false:=by simpa using h1
      refine ⟨?_,rfl⟩
      show PV.bl _=.bl (uN a&&(uN b&&jWM c))
      rw [h1]; rfl
     have h1:uN a=true:=by simpa using h1
     (repeat walk_at "p1")
     refine ⟨⟨rfl,by show (!isOwn _&&_)=true; rw [qP pb]; rfl⟩,?_⟩
     refine jX (jEN pb) fun r h' z=>?_
     obtain ⟨rfl,rfl⟩:=z
     (repeat walk_at "p1")
     refine zW (fun h2=>?_) fun h2=>?_
     ·(repeat walk_at "p1")
      have h2:uN b=false:=by simpa using h2
      refine ⟨?_,rfl⟩
      show PV.bl _=.bl (uN a&&(uN b&&jWM c))
      rw [h1,h2]; rfl
     have h2:uN b=true:=by simpa using h2
     have e2:jED [a,b,c]=jWM c:=by
      show (uN a&&(uN b&&jWM c))=_
      rw [h1,h2]; rfl
     rw [e2]
     (repeat (first | walk_at "p1" | refine ⟨_,jOQ pc rfl,?_⟩ | (refine ⟨qP pc,?_⟩; try dsimp only [jU,List.set_cons_succ,List.set_cons_zero])))
     cases c with
     | tup ks =>
      have dk:∀ k∈ks,DPl 1 k:=fun k hk=>dc k hk
      (repeat walk_at "p1")
      refine zW (fun h3=>?_) fun h3=>?_
      ·(repeat walk_at "p1")
       refine jBD (jDB (jQ rfl ⟨_,rfl,rfl,fun v=>.bl (keyB v),fun v hv=>⟨_,if_neg (by rw [qP (DPl.pl (dk v hv))]; decide),?_⟩,?_⟩))
       ·(repeat walk_at "p1")
        refine ⟨⟨rfl,by show (!isOwn _&&_)=true; rw [qP (DPl.pl (dk v hv))]; rfl⟩,?_⟩
        refine jX (jJG (DPl.pl (dk v hv)) (jYT (dk v hv))) fun r h' z=>?_
        obtain ⟨rfl,rfl⟩:=z
        exact ⟨rfl,rfl,rfl,rfl⟩
       ·(repeat (first | walk_at "p1" | refine ⟨_,all_map keyB,?_⟩))
        refine ⟨?_,rfl⟩
        show PV.bl _=.bl (decide ((ks.length:Int)≤40)&&(ks.map keyB).all fun b=>b)
        have h3:decide ((ks.length:Int)≤40)=true:=h3
        rw [h3]; rfl
      ·(repeat walk_at "p1")
       refine ⟨?_,rfl⟩
       show PV.bl _=.bl (decide ((ks.length:Int)≤40)&&(ks.map keyB).all fun b=>b)
       have h3:decide ((ks.length:Int)≤40)=false:=h3
       rw [h3]; rfl
     | bl k=>(repeat walk_at "p1")
     | int k=>(repeat walk_at "p1")
     | non=>(repeat walk_at "p1")
     | str x=>(repeat walk_at "p1")
     | lst xs=>(repeat walk_at "p1")
     | _=>exact pc.elim
    ·(repeat walk_at "p1")
   | _=>exact dx.elim
 | _=>exact p.elim
end
end LW
set_option maxHeartbeats 4000000
namespace LW
open PySem PySem.Spec PyProof.Rows L2 Lp TL
section
def jLP (ds:List Nat):Bool:=ds.all fun c=>decide (c∈tl "0123456789")
def jEZ (ds:List Nat):Bool:=(decide (1≤ds.length)&&decide (ds.length≤19))&&jLP ds
def jEF (ds:List Nat):Bool:=!(decide (1 < ds.length)&&decide (ds.head?=some 48))
def digs (cs:List Nat):List Nat:=if cs.head?=some 45 then cs.drop 1 else cs
def jNH (cs:List Nat):Int:=if cs.head?=some 45 then -((NumText.digitsVal (digs cs):Nat):Int) else ((NumText.digitsVal (digs cs):Nat):Int)
def jNI (cs:List Nat):Option Int:=if (jEZ (digs cs)&&(jEF (digs cs)&&!decide (cs=[45,48])))=true then some (jNH cs) else none
theorem jTB:tl "0123456789" = [48,49,50,51,52,53,54,55,56,57]:=by decide +kernel
theorem jUR {ds:List Nat} (h:jLP ds=true):NumText.AllDigits ds:=fun c hc=>by
 have:=of_decide_eq_true (List.all_eq_true.mp h c hc)
 rw [jTB] at this
 simp only [List.mem_cons,List.not_mem_nil,or_false] at this
 omega
theorem jXA (ini:List Nat) (d:Nat):NumText.digitsVal (ini++[d])=NumText.digitsVal ini * 10+(d - 48):=by
 unfold NumText.digitsVal
 rw [List.foldl_append]; rfl
theorem jHH:∀ (n:Nat) {ds:List Nat},ds.length=n→NumText.AllDigits ds→ds≠[]→(numL (NumText.digitsVal ds)=ds↔jEF ds=true)
 | 0,ds,hn,_,hne=>absurd (List.length_eq_zero_iff.mp hn) hne
 | n+1,ds,hn,hd,hne=>by
  obtain ⟨ini,d,rfl⟩:∃ ini d,ds=ini++[d]:=⟨ds.dropLast,ds.getLast hne,(List.dropLast_concat_getLast hne).symm⟩
  have hdd:=hd d (by simp)
  rw [jXA]
  cases ini with
  | nil =>
   have e0:NumText.digitsVal []=0:=rfl
   rw [e0,Nat.zero_mul,Nat.zero_add,numL_lt (by omega)]
   constructor
   ·intro _; rfl
   ·intro _
    rw [show 48+(d - 48)=d by omega]; rfl
  | cons c r =>
   have hi:NumText.AllDigits (c :: r):=fun x hx=>hd x (List.mem_append_left _ hx)
   have hl:(c :: r).length=n:=by
    rw [List.length_append] at hn
    simpa using hn
   have ih:=jHH n hl hi (by simp)
   have p1:jEF (c :: r++[d])=!decide (c=48):=by
    unfold jEF
    rw [decide_eq_true (show 1 < (c :: r++[d]).length by simp)]
    by_cases hc:c=48
    ·subst hc; rfl
    ·rw [decide_eq_false (p:=(c :: r++[d]).head?=some 48) (by simpa using hc),decide_eq_false hc]; rfl
   rw [p1]
   generalize hv:NumText.digitsVal (c :: r)=v at ih ⊢
   constructor
   ·intro e
    by_cases h10:v * 10+(d - 48) < 10
    ·rw [numL_lt h10] at e
     have:=congrArg List.length e
     simp at this
    ·rw [numL_step (by omega)] at e
     have e2:numL ((v * 10+(d - 48)) / 10)=c :: r:=(List.append_inj' e (by simp)).1
     rw [show (v * 10+(d - 48)) / 10=v by omega] at e2
     have hp:=ih.mp e2
     by_cases hc:c=48
     ·subst hc
      cases r with
      | nil =>
       have:v=0:=hv.symm
       omega
      | cons x y=>simp [jEF] at hp
     ·rw [decide_eq_false hc]; rfl
   ·intro hp
    have hc:c≠48:=by simpa using hp
    have pi:jEF (c :: r)=true:=by
     unfold jEF
     rw [decide_eq_false (p:=(c :: r).head?=some 48) (by simpa using hc),Bool.and_false]; rfl
    have e:=ih.mpr pi
    have v1:1≤v:=by
     rcases Nat.eq_zero_or_pos v with z | z
     ·rw [z,numL_lt (by omega)] at e
      injection e with e1 e2
      exact absurd e1.symm hc
     ·exact z
    rw [numL_step (by omega),show (v * 10+(d - 48)) / 10=v by omega,e,show 48+(v * 10+(d - 48)) % 10=d by omega]
theorem jPY {n:Nat} (h:0 < n):tl (sI (-((n:Nat):Int)))=45 :: numL n:=by
 obtain ⟨m,rfl⟩:∃ m,n=m+1:=⟨n - 1,by omega⟩
 have e:toString (-(((m+1:Nat)):Int)) = "-" ++ toString (((m+1:Nat)):Int):=rfl
 unfold sI
 rw [e,tl_ofString,String.toList_append,List.map_append,← tl_ofString (toString (((m+1:Nat)):Int)),tl_num]
 rfl
theorem jFD (n:Nat):tl (sI ((n:Nat):Int))=numL n:=tl_num n
theorem jBI {w:Str}:w.length=(tl w).length:=len_tl w
theorem yWP {w:Str} (h:jEZ (digs (tl w))=true):intText? w=some (jNH (tl w)):=by
 obtain ⟨h1,h3⟩:=Bool.and_eq_true_iff.mp h
 obtain ⟨h1,h2⟩:=Bool.and_eq_true_iff.mp h1
 have h1:=of_decide_eq_true h1
 have h2:=of_decide_eq_true h2
 have ha:=jUR h3
 have lw:=jBI (w:=w)
 unfold jNH digs at *
 by_cases hc:(tl w).head?=some 45
 ·rw [if_pos hc] at *
  cases e:tl w with
  | nil=>rw [e] at hc; cases hc
  | cons c r =>
   rw [e] at hc h1 h2 ha lw
   injection hc with hc
   subst hc
   exact PySem.intText_neg e ha (by intro z; have h1:1≤r.length:=h1; have z:r=[]:=z; rw [z] at h1; exact absurd h1 (by decide)) (by rw [lw]; simp at h2 ⊢; omega)
 ·rw [if_neg hc] at *
  try rw [if_neg hc]
  exact PySem.intText_digits ha (by intro z; have z:tl w=[]:=z; rw [z] at h1; exact absurd h1 (by decide)) (by rw [lw]; omega)
theorem yQG {w:Str} (h:jEZ (digs (tl w))=true):decide (sI (jNH (tl w))=w)=(jEF (digs (tl w))&&!decide (tl w=[45,48])):=by
 obtain ⟨h1,h3⟩:=Bool.and_eq_true_iff.mp h
 obtain ⟨h1,h2⟩:=Bool.and_eq_true_iff.mp h1
 have h1:=of_decide_eq_true h1
 have ha:=jUR h3
 have ew:∀ {x:Str},x=w↔tl x=tl w:=fun {x}=>⟨fun e=>by rw [e],ext_tl⟩
 rw [Bool.eq_iff_iff,decide_eq_true_iff,ew]
 by_cases hc:(tl w).head?=some 45
 ·cases e:tl w with
  | nil=>rw [e] at hc; cases hc
  | cons c r =>
   rw [e] at hc
   injection hc with hc
   subst hc
   have ed:digs (45 :: r)=r:=rfl
   have es:jNH (45 :: r)=-((NumText.digitsVal r:Nat):Int):=rfl
   rw [e,ed] at h1 ha
   rw [ed,es]
   have hr:r≠[]:=by intro z; rw [z] at h1; simp at h1
   have cn:=jHH r.length rfl ha hr
   rcases Nat.eq_zero_or_pos (NumText.digitsVal r) with z | z
   ·rw [z] at cn ⊢
    have e0:tl (sI (-((0:Nat):Int)))=numL 0:=jFD 0
    rw [e0]
    rw [numL_lt (show 0 < 10 by decide)] at cn ⊢
    constructor
    ·intro q; injection q with q1 q2; cases q1
    ·intro q
     obtain ⟨q1,q2⟩:=Bool.and_eq_true_iff.mp q
     have:=cn.mpr q1
     rw [← this] at q2
     simp at q2
   ·rw [jPY z]
    constructor
    ·intro q
     injection q with _ q
     rw [cn.mp q]
     have:¬ (45 :: r=[45,48]):=by
      intro y
      injection y with _ y
      rw [y] at z
      exact absurd z (by decide)
     rw [decide_eq_false this]; rfl
    ·intro q
     obtain ⟨q1,q2⟩:=Bool.and_eq_true_iff.mp q
     rw [cn.mpr q1]
 ·have ed:digs (tl w)=tl w:=by unfold digs; rw [if_neg hc]
  have es:jNH (tl w)=((NumText.digitsVal (tl w):Nat):Int):=by unfold jNH; rw [if_neg hc,ed]
  rw [ed] at h1 ha ⊢
  rw [es,jFD]
  have hr:tl w≠[]:=by intro z; rw [z] at h1; simp at h1
  rw [jHH _ rfl ha hr]
  have:¬ (tl w=[45,48]):=by intro y; rw [y] at hc; exact hc rfl
  rw [decide_eq_false this]
  simp
end
end LW
set_option maxHeartbeats 4000000
namespace LW
open PySem PySem.Spec PyProof.Rows L2 Lp TL
section
theorem jBW {α:Type} {PA:List PV→S→Prop} {E:PV→S→Prop} {s:S} {src:S→R S Sr} {t:Tg} {te:ME} {vs:List Nat}
  (h:(src s).post (fun r s1=>r.w=[]∧∃ (rs:List α) (f g:α→PV),r.xs=rs.map f∧(∀ a∈rs,isOwn (g a)=false∧∃ e1,qK t (f a) (jU s1.e vs)=some e1∧jU e1 vs=jU s1.e vs∧(te ⟨e1,s1.h⟩).post (fun y s3=>y=g a∧jU s3.e vs=jU s1.e vs∧s3.h=s1.h) NE)∧PA (rs.map g) ⟨jU s1.e vs,s1.h⟩) E) :
  (vI src t uR te vs s).post PA E :=
 jQX (α:=α) (p_mono h (fun r s1 ⟨hw,rs,f,g,hx,hs,hn⟩=>⟨hw,rs,f,g,fun _=>true,hx,fun a ha=>by
  obtain ⟨o,e1,b1,w1,q⟩:=hs a ha
  exact ⟨o,e1,b1,yRM ⟨rfl,q,w1,rfl⟩⟩,by rw [List.filter_eq_self.mpr fun _ _=>rfl]; exact hn⟩) fun _ _ z=>z)
theorem yAN {PF:Fl→S→Prop} {E:PV→S→Prop} {s:S} {x y:MS} (s':S) (h1:(x s).post (fun f s1=>f=.nx∧s1=s') E) (h2:(y s').post PF E):(yG x y s).post PF E :=
 yS (p_mono h1 (fun f s1 ⟨e1,e2⟩=>by subst e1 e2; exact h2) fun _ _ z=>z)
def cS (l:List Nat):Str:=⟨l.toArray⟩
theorem yCQ (l:List Nat):tl (cS l)=l:=rfl
theorem yRH (w:Str):cS (tl w)=w:=ext_tl rfl
theorem yJR (l:List Nat):(cS l).length=l.length:=by rw [jBI,yCQ]
theorem jBJ {h:AH} {a b:Str}:fEq h (.str a) (.str b)=some (.bl (decide (a=b))):=congrArg (fun b=>some (PV.bl b)) (jHF a b)
theorem yWH {h:AH} {a b:Str}:fNe h (.str a) (.str b)=some (.bl (!decide (a=b))):=congrArg (fun b=>some (PV.bl (!b))) (jHF a b)
theorem dash:tl "-" = [45]:=by decide +kernel
theorem jVC {w:Str}:Txt.startswith w "-" = decide ((tl w).head?=some 45):=by
 have ly:("-" : Str).length=1:=by rw [jBI,dash]; rfl
 unfold Txt.startswith
 rw [PySem.StrLaws.subAt_eq,ly,jBI]
 show (decide (0+1≤(tl w).length)&&(((tl w).drop 0).take 1 == tl "-"))=_
 rw [dash]
 cases tl w with
 | nil=>rfl
 | cons c r =>
  rw [decide_eq_true (by simp:0+1≤(c :: r).length),Bool.true_and,Bool.eq_iff_iff,beq_iff_eq,decide_eq_true_iff]
  simp
theorem yUZ {h:AH} {w:Str}:fSl h (.str w) (some 1) none=some (.str (cS ((tl w).drop 1))):=by
 show some (PV.str ⟨(jAY (tl w) (some 1) none).toArray⟩)=_
 have:jAY (tl w) (some 1) none=(tl w).drop 1:=by
  cases e:tl w with
  | nil=>rfl
  | cons c r=>exact jJB (by decide) (by simp; omega)
 rw [this]; rfl
theorem yVQ {h:AH} {w:Str}:fSl h (.str w) none (some 1)=some (.str (cS ((tl w).take 1))):=by
 show some (PV.str ⟨(jAY (tl w) none (some 1)).toArray⟩)=_
 have:jAY (tl w) none (some 1)=(tl w).take 1:=by
  cases e:tl w with
  | nil=>rfl
  | cons c r=>exact yKC (by decide) (by simp; omega)
 rw [this]; rfl
theorem yGU {w:Str}:decide (cS ((tl w).take 1) = "-")=decide ((tl w).head?=some 45):=by
 rw [Bool.eq_iff_iff,decide_eq_true_iff,decide_eq_true_iff]
 have:cS ((tl w).take 1) = "-" ↔ (tl w).take 1=[45]:=⟨fun e=>by rw [← dash,← e,yCQ],fun e=>ext_tl (by rw [yCQ,e,dash])⟩
 rw [this]
 cases tl w <;> simp
theorem yIW:∀ (n:Nat) {ds:List Nat},ds.length=n→NumText.AllDigits ds→NumText.digitsVal ds < 10 ^ n
 | 0,ds,hn,_=>by
  rw [List.length_eq_zero_iff.mp hn]; decide
 | n+1,ds,hn,hd=>by
  have hne:ds≠[]:=by intro z; rw [z] at hn; cases hn
  obtain ⟨ini,d,rfl⟩:∃ ini d,ds=ini++[d]:=⟨ds.dropLast,ds.getLast hne,(List.dropLast_concat_getLast hne).symm⟩
  have hdd:=hd d (by simp)
  have hl:ini.length=n:=by
   rw [List.length_append] at hn
   simpa using hn
  have ih:=yIW n hl fun x hx=>hd x (List.mem_append_left _ hx)
  rw [jXA,Nat.pow_succ]
  omega
theorem yDS {i:Int} (h:i.natAbs < 10 ^ 19):jWF i=true:=by
 unfold jWF
 have h2:i.natAbs.log2 < 1920:=by
  by_cases h0:i.natAbs=0
  ·rw [h0]; decide
  ·rw [Nat.log2_lt h0]
   exact Nat.lt_of_lt_of_le h (by decide +kernel)
 rw [decide_eq_true h2,Bool.true_and]
 unfold PyData.strOk
 have hc:∀ c∈tl (sI i),c < 0x110000:=by
  intro c hc
  have hd:∀ {n:Nat} {c:Nat},c∈numL n→c < 0x110000:=fun {n c} q=>by
   have:=numL_digits n c q
   omega
  rcases Int.natAbs_eq i with e | e
  ·rw [e,jFD] at hc
   exact hd hc
  ·rcases Nat.eq_zero_or_pos i.natAbs with z | z
   ·rw [z] at e
    have e0:i=((0:Nat):Int):=by omega
    rw [e0,jFD] at hc
    exact hd hc
   ·rw [e,jPY z] at hc
    rcases List.mem_cons.mp hc with q | q
    ·omega
    ·exact hd q
 rw [← Array.all_toList,List.all_eq_true]
 exact fun c q=>decide_eq_true (hc c q)
theorem sgn_abs {w:Str} (h:jEZ (digs (tl w))=true):(jNH (tl w)).natAbs < 10 ^ 19:=by
 obtain ⟨h1,h3⟩:=Bool.and_eq_true_iff.mp h
 obtain ⟨h1,h2⟩:=Bool.and_eq_true_iff.mp h1
 have h2:=of_decide_eq_true h2
 have:=yIW _ rfl (jUR h3)
 have p:10 ^ (digs (tl w)).length≤10 ^ 19:=Nat.pow_le_pow_right (by decide) h2
 unfold jNH
 split <;> omega
def wO (w:Str):PV:=match jNI (tl w) with | some n=>.int n | none=>.non
theorem yMQ {cs:List Nat}:cs.length≤(digs cs).length+1:=by
 unfold digs
 split
 ·rw [List.length_drop]; omega
 ·omega
theorem jTU {h:AH} {w:Str} (g:jEZ (digs (tl w))=true):jKN h [.str w]=some (.int (jNH (tl w))):=by
 obtain ⟨h1,h3⟩:=Bool.and_eq_true_iff.mp g
 obtain ⟨h1,h2⟩:=Bool.and_eq_true_iff.mp h1
 have h2:=of_decide_eq_true h2
 have:=yMQ (cs:=tl w)
 show (if w.length≤640 then (intText? w).map PV.int else none)=_
 rw [if_pos (by rw [jBI]; omega),yWP g]; rfl
theorem jTT {h:AH} {i:Int} (hi:i.natAbs < 10 ^ 19):jNJ h [.int i]=some (.str (sI i)):=by
 show (if jWF i=true then some (PV.str (sI i)) else none)=_
 rw [if_pos (yDS hi)]
theorem yUD {h:AH} {c:Nat}:fIn h (.str ⟨#[c]⟩) (.str "0123456789")=some (.bl (decide (c∈tl "0123456789"))):=by
 show ((some (PV.bl (false ^^ decide (c∈tl "0123456789")))).or _)=_
 rw [Bool.false_xor]; rfl
theorem yPH {h:AH} {c:Nat}:jOZ h (.str ⟨#[c]⟩) (.str "0123456789")=some (.bl (!decide (c∈tl "0123456789"))):=by
 show ((some (PV.bl (true ^^ decide (c∈tl "0123456789")))).or _)=_
 rw [Bool.true_xor]; rfl
theorem jXY {w:Str} {h:AH}:(uX [.str w] h).post (fun v h'=>v=wO w∧h'=h) NE:=by
 unfold uX
 rw [jUV]
 unfold jMN
 refine wV [some (.str w),none,none] rfl ?_
 refine yAN ⟨[some (.str w),some (.str (cS (digs (tl w)))),none],h⟩ ?_ ?_
 ·refine zK (zN (jAW (jKE (jQ rfl ⟨w,rfl,jP (p_c (yF ⟨_,rfl,_,rfl,?_⟩))⟩))))
  rw [jVC]
  refine zW (fun hc=>?_) fun hc=>?_
  ·have hc:=of_decide_eq_true hc
   refine jCW (jQ rfl (vQ (p_c ⟨_,rfl,vY ⟨_,yUZ,?_⟩⟩)))
   have e:digs (tl w)=(tl w).drop 1:=by unfold digs; rw [if_pos hc]
   rw [e]
   exact ⟨rfl,rfl,rfl⟩
  ·have hc:=of_decide_eq_false hc
   have e:digs (tl w)=tl w:=by unfold digs; rw [if_neg hc]
   rw [e,yRH]
   exact jQ rfl ⟨rfl,rfl,rfl⟩
 have ll:∀ h,vP h [.str (cS (digs (tl w)))]=some (.int ((digs (tl w)).length:Nat)):=fun h=>by
  show some (PV.int ((cS (digs (tl w))).length:Nat))=_
  rw [yJR]
 have hbad:jEZ (digs (tl w))=false→wO w=.non:=fun q=>by unfold wO jNI; rw [q]; rfl
 have gd:jEZ (digs (tl w))=((decide (1≤((digs (tl w)).length:Int))&&decide (((digs (tl w)).length:Int)≤19))&&jLP (digs (tl w))):=by
  unfold jEZ
  congr 2
  ·exact decide_eq_decide.mpr (by omega)
  ·exact decide_eq_decide.mpr (by omega)
 (repeat (first | refine ⟨_,ll _,?_⟩ | walk_at "p1"))
 refine zW (fun h1=>?_) fun h1=>?_
 ·have h1:decide (1≤((digs (tl w)).length:Int))=true:=h1
  (repeat walk_at "p1")
  refine zW (fun h2=>?_) fun h2=>?_
  ·have h2:(!decide (((digs (tl w)).length:Int)≤19))=true:=h2
   (repeat walk_at "p1")
   exact ⟨(hbad (by rw [gd,show decide (((digs (tl w)).length:Int)≤19)=false by simpa using h2]; simp)).symm,rfl⟩
  ·have h2:(!decide (((digs (tl w)).length:Int)≤19))=false:=h2
   (repeat walk_at "p1")
   refine jBW (α:=Nat) (jDB (jQ rfl ⟨_,rfl,rfl,digs (tl w),fun c=>.str ⟨#[c]⟩,fun c=>.bl (decide (c∈tl "0123456789")),rfl,fun c _=>⟨rfl,_,rfl,rfl,yC (jQ rfl (p_c ⟨_,yUD,rfl,rfl,rfl⟩))⟩,?_⟩))
   have ea:∀ h,jKG h [.lst ((digs (tl w)).map fun c=>PV.bl (decide (c∈tl "0123456789")))]=some (.bl (jLP (digs (tl w)))):=fun h=>by
    have:=yFB (h:=h) ((digs (tl w)).map fun c=>decide (c∈tl "0123456789"))
    rw [List.map_map,List.all_map] at this
    exact this
   (repeat (first | refine ⟨_,ea _,?_⟩ | walk_at "p1"))
   refine zW (fun h3=>?_) fun h3=>?_
   ·have h3:(!jLP (digs (tl w)))=true:=h3
    (repeat walk_at "p1")
    exact ⟨(hbad (by rw [gd,show jLP (digs (tl w))=false by simpa using h3,Bool.and_false])).symm,rfl⟩
   ·have h3:(!jLP (digs (tl w)))=false:=h3
    have g:jEZ (digs (tl w))=true:=by
     rw [gd,h1,show decide (((digs (tl w)).length:Int)≤19)=true by simpa using h2,show jLP (digs (tl w))=true by simpa using h3]; rfl
    (repeat (first | refine ⟨_,jTU g,?_⟩ | refine ⟨_,jTT (sgn_abs g),?_⟩ | refine ⟨_,jBJ,?_⟩ | walk_at "p1"))
    rw [yQG g]
    refine zW (fun h4=>?_) fun h4=>?_
    ·(repeat (first | refine ⟨_,jTU g,?_⟩ | walk_at "p1"))
     unfold wO jNI
     rw [g,h4]; exact ⟨rfl,rfl⟩
    ·(repeat walk_at "p1")
     unfold wO jNI
     rw [g,h4]; exact ⟨rfl,rfl⟩
 ·have h1:decide (1≤((digs (tl w)).length:Int))=false:=h1
  (repeat walk_at "p1")
  exact ⟨(hbad (by rw [gd,h1]; rfl)).symm,rfl⟩
theorem yKM (l:List Str):toDs (l.map PV.str)=some (l.map PyData.str):=jGM PV.str PyData.str (fun _=>rfl) l
theorem yQB (l:List Str):∀ d∈l.map PyData.str,d.depth≤1:=fun d hd=>by
 obtain ⟨z,_,rfl⟩:=List.mem_map.mp hd
 simp [PyData.depth]
theorem yJZ {h:AH} {xs:List PV} {ds:List PyData} (e:toDs xs=some ds) (hd:∀ d∈ds,d.depth≤5):fEq h (.lst xs) (.lst [])=some (.bl xs.isEmpty)∧fNe h (.lst xs) (.lst [])=some (.bl (!xs.isEmpty)):=by
 have e2:jEW h (.lst xs)=some (.list ds):=by
  show (toDs xs).map _=_
  rw [e]; rfl
 have e3:jEW h (.lst [])=some (.list []):=rfl
 have o2:dOk (.list ds)=true:=jJA (n:=5) hd (by decide)
 have o3:dOk (.list [])=true:=by decide +kernel
 have ei:PyData.eqv (.list ds) (.list [])=xs.isEmpty:=by
  cases xs with
  | nil=>cases e; rfl
  | cons x xs =>
   unfold toDs at e
   cases p:toD x with
   | none=>rw [p] at e; cases e
   | some d =>
    cases q:toDs xs with
    | none=>rw [p,q] at e; cases e
    | some es=>rw [p,q] at e; cases e; rfl
 unfold fEq fNe
 rw [e2,e3]
 dsimp only
 rw [o2,o3,ei]
 exact ⟨rfl,rfl⟩
theorem jUO {α β:Type} {f:α→β} {l:List α}:(l.map f).isEmpty=l.isEmpty:=by cases l <;> rfl
theorem yXM {h:AH} {l:List Str}:fEq h (.lst (l.map .str)) (.lst [])=some (.bl l.isEmpty)∧fNe h (.lst (l.map .str)) (.lst [])=some (.bl (!l.isEmpty)):=by
 have:=yJZ (h:=h) (yKM l) fun d hd=>Nat.le_trans (yQB l d hd) (by decide)
 rw [jUO] at this
 exact this
theorem yEQ {α:Type} {q:α→Bool} {l:List α}:(l.filter fun a=>!q a).isEmpty=l.all q:=by
 induction l with
 | nil=>rfl
 | cons a l ih =>
  rw [List.all_cons,← ih]
  cases e:q a with
  | true=>rw [List.filter_cons_of_neg (by rw [e]; decide)]; rfl
  | false=>rw [List.filter_cons_of_pos (by rw [e]; rfl)]; rfl
theorem jYS {w:Str} {h:AH}:(yV [.str w] h).post (fun v h'=>v=wO w∧h'=h) NE:=by
 unfold yV
 rw [jLI]
 unfold jFK
 refine wV [some (.str w),none,none] rfl ?_
 refine yAN ⟨[some (.str w),some (.str (cS (digs (tl w)))),none],h⟩ ?_ ?_
 ·refine zK (zN (uO (yC (jCW (jQ rfl (vY (vQ (p_c ⟨_,rfl,⟨_,yVQ,p_c ⟨_,jBJ,_,rfl,?_⟩⟩⟩))))))))
  rw [yGU]
  refine zW (fun hc=>?_) fun hc=>?_
  ·have hc:=of_decide_eq_true hc
   refine jCW (jQ rfl (vQ (p_c ⟨_,rfl,vY ⟨_,yUZ,?_⟩⟩)))
   have e:digs (tl w)=(tl w).drop 1:=by unfold digs; rw [if_pos hc]
   rw [e]
   exact ⟨rfl,rfl,rfl⟩
  ·have hc:=of_decide_eq_false hc
   have e:digs (tl w)=tl w:=by unfold digs; rw [if_neg hc]
   rw [e,yRH]
   exact jQ rfl ⟨rfl,rfl,rfl⟩
 have ll:∀ h,vP h [.str (cS (digs (tl w)))]=some (.int ((digs (tl w)).length:Nat)):=fun h=>by
  show some (PV.int ((cS (digs (tl w))).length:Nat))=_
  rw [yJR]
 have hbad:jEZ (digs (tl w))=false→wO w=.non:=fun q=>by unfold wO jNI; rw [q]; rfl
 have e0:decide (cS (digs (tl w)) = "")=!decide (1≤(digs (tl w)).length):=by
  have:cS (digs (tl w)) = "" ↔ digs (tl w)=[]:=⟨fun e=>by rw [← yCQ (digs (tl w)),e]; rfl,fun e=>by rw [e]; rfl⟩
  rw [Bool.eq_iff_iff,decide_eq_true_iff,this]
  cases digs (tl w) <;> simp
 have gd:jEZ (digs (tl w))=((decide (1≤(digs (tl w)).length)&&!decide (((digs (tl w)).length:Int) > 19))&&jLP (digs (tl w))):=by
  unfold jEZ
  congr 2
  rw [← decide_not]
  exact decide_eq_decide.mpr (by omega)
 (repeat (first | refine ⟨_,jBJ,?_⟩ | walk_at "p1"))
 rw [e0]
 refine zW (fun h1=>?_) fun h1=>?_
 ·(repeat walk_at "p1")
  exact ⟨(hbad (by rw [gd,show decide (1≤(digs (tl w)).length)=false by simpa using h1]; rfl)).symm,rfl⟩
 ·have h1:decide (1≤(digs (tl w)).length)=true:=by simpa using h1
  (repeat (first | refine ⟨_,ll _,?_⟩ | walk_at "p1"))
  refine zW (fun h2=>?_) fun h2=>?_
  ·have h2:decide (((digs (tl w)).length:Int) > 19)=true:=h2
   (repeat walk_at "p1")
   exact ⟨(hbad (by rw [gd,h2]; simp)).symm,rfl⟩
  ·have h2:decide (((digs (tl w)).length:Int) > 19)=false:=h2
   refine uO (yC (jAX (jGV (α:=Nat) (jDB (jQ rfl ⟨_,rfl,rfl,digs (tl w),fun c=>.str ⟨#[c]⟩,fun c=>!decide (c∈tl "0123456789"),rfl,fun c _=>⟨rfl,_,rfl,uO (yC (jQ rfl (p_c ⟨_,yPH,_,rfl,rfl,jQ rfl ⟨rfl,rfl,rfl⟩,rfl,rfl⟩)))⟩,?_⟩)))))
   dsimp only [jU,List.set_cons_succ,List.set_cons_zero,List.foldl]
   have em:(((digs (tl w)).filter fun c=>!decide (c∈tl "0123456789")).map fun c=>PV.str ⟨#[c]⟩)=(((digs (tl w)).filter fun c=>!decide (c∈tl "0123456789")).map fun c=>(⟨#[c]⟩:Str)).map PV.str:=by rw [List.map_map]; rfl
   rw [em]
   refine qU (yF ⟨⟨rfl,Nat.zero_le _⟩,_,yXM.2,_,rfl,?_⟩)
   rw [jUO,yEQ]
   refine zW (fun h3=>?_) fun h3=>?_
   ·have h3:(!jLP (digs (tl w)))=true:=h3
    (repeat walk_at "p1")
    exact ⟨(hbad (by rw [gd,show jLP (digs (tl w))=false by simpa using h3,Bool.and_false])).symm,rfl⟩
   ·have h3:(!jLP (digs (tl w)))=false:=h3
    have g:jEZ (digs (tl w))=true:=by
     rw [gd,h1,h2,show jLP (digs (tl w))=true by simpa using h3]; rfl
    obtain ⟨c,r,ec⟩:∃ c r,digs (tl w)=c :: r:=by
     cases e:digs (tl w) with
     | nil=>rw [e] at h1; cases h1
     | cons c r=>exact ⟨c,r,rfl⟩
    have ix:∀ h,fIx h (.str (cS (digs (tl w)))) (.int 0)=some (.str ⟨#[c]⟩):=fun h=>by
     rw [ec]
     show (atI (c :: r) 0).map _=_
     rw [jYY]; rfl
    have hd:decide ((⟨#[c]⟩:Str) = "0")=decide ((digs (tl w)).head?=some 48):=by
     have z:tl "0" = [48]:=by decide +kernel
     rw [Bool.eq_iff_iff,decide_eq_true_iff,decide_eq_true_iff,ec]
     constructor
     ·intro e
      have:=congrArg tl e
      rw [z] at this
      exact congrArg List.head? this
     ·intro e
      injection e with e
      exact ext_tl (by rw [z,e])
    have ew:decide (w = "-0")=decide (tl w=[45,48]):=by
     have z:tl "-0" = [45,48]:=by decide +kernel
     rw [Bool.eq_iff_iff,decide_eq_true_iff,decide_eq_true_iff]
     exact ⟨fun e=>by rw [e,z],fun e=>ext_tl (by rw [e,z])⟩
    have pd:jEF (digs (tl w))=!(decide (((digs (tl w)).length:Int) > 1)&&decide ((digs (tl w)).head?=some 48)):=by
     unfold jEF
     congr 2
     exact decide_eq_decide.mpr (by omega)
    have fin:∀ k:Bool,(jEF (digs (tl w))&&!decide (tl w=[45,48]))=k→wO w=if k=true then .int (jNH (tl w)) else .non:=fun k q=>by
     unfold wO jNI
     rw [g,q]
     cases k <;> rfl
    (repeat (first | refine ⟨_,ll _,?_⟩ | walk_at "p1"))
    refine zW (fun h4=>?_) fun h4=>?_
    ·have h4:decide (((digs (tl w)).length:Int) > 1)=true:=h4
     (repeat (first | refine ⟨_,ix _,?_⟩ | refine ⟨_,jBJ,?_⟩ | walk_at "p1"))
     rw [hd]
     refine zW (fun h5=>?_) fun h5=>?_
     ·(repeat walk_at "p1")
      rw [fin false (by rw [pd,h4,h5]; rfl)]
      exact ⟨rfl,rfl⟩
     ·(repeat (first | refine ⟨_,jBJ,?_⟩ | walk_at "p1"))
      rw [ew]
      refine zW (fun h6=>?_) fun h6=>?_
      ·(repeat walk_at "p1")
       rw [fin false (by rw [h6,Bool.not_true,Bool.and_false])]
       exact ⟨rfl,rfl⟩
      ·(repeat (first | refine ⟨_,jTU g,?_⟩ | walk_at "p1"))
       rw [fin true (by rw [pd,h5,h6,Bool.and_false]; rfl)]
       exact ⟨rfl,rfl⟩
    ·have h4:decide (((digs (tl w)).length:Int) > 1)=false:=h4
     (repeat (first | refine ⟨_,jBJ,?_⟩ | walk_at "p1"))
     rw [ew]
     refine zW (fun h6=>?_) fun h6=>?_
     ·(repeat walk_at "p1")
      rw [fin false (by rw [h6,Bool.not_true,Bool.and_false])]
      exact ⟨rfl,rfl⟩
     ·(repeat (first | refine ⟨_,jTU g,?_⟩ | walk_at "p1"))
      rw [fin true (by rw [pd,h4,h6,Bool.false_and]; rfl)]
      exact ⟨rfl,rfl⟩
end
end LW
set_option maxHeartbeats 4000000
namespace LW
open PySem PySem.Spec PyProof.Rows L2 Lp TL
section
theorem pre1 {s c:Nat} {r:List Nat}:pre [s] (c :: r)=decide (c=s):=by
 unfold pre
 show ((c :: r).take 1 == [s])=_
 rw [Bool.eq_iff_iff,beq_iff_eq,decide_eq_true_iff]
 simp
theorem jXJ {s c:Nat} {acc r:List Nat}:spl [s] 0 acc (c :: r)=if c=s then acc :: spl [s] 0 [] r else spl [s] 0 (acc++[c]) r:=by
 by_cases h:c=s
 ·rw [if_pos h,spl_hit (by rw [pre1,decide_eq_true h])]; rfl
 ·rw [if_neg h,spl_miss (by rw [pre1,decide_eq_false h])]
theorem yAI {s:Nat}:∀ {l acc p:List Nat},p∈spl [s] 0 acc l→(∀ c∈p,c∈acc∨c∈l∧c≠s)∧p.length≤acc.length+l.length
 | [],acc,p,h=>by
  rw [spl_nil,List.mem_singleton] at h
  subst h
  exact ⟨fun c hc=>.inl hc,by simp⟩
 | c :: r,acc,p,h=>by
  rw [jXJ] at h
  split at h
  ·rcases List.mem_cons.mp h with h | h
   ·subst h
    exact ⟨fun c hc=>.inl hc,by simp⟩
   ·obtain ⟨h1,h2⟩:=yAI h
    refine ⟨fun d hd=>?_,by simp at h2 ⊢; omega⟩
    rcases h1 d hd with z | ⟨z,y⟩
    ·cases z
    ·exact .inr ⟨List.mem_cons_of_mem _ z,y⟩
  ·rename_i hc
   obtain ⟨h1,h2⟩:=yAI h
   refine ⟨fun d hd=>?_,by simp at h2 ⊢; omega⟩
   rcases h1 d hd with z | ⟨z,y⟩
   ·rcases List.mem_append.mp z with z | z
    ·exact .inl z
    ·rw [List.mem_singleton] at z
     subst z
     exact .inr ⟨List.mem_cons_self ..,hc⟩
   ·exact .inr ⟨List.mem_cons_of_mem _ z,y⟩
theorem jUB {s:Nat}:∀ {l acc:List Nat},(spl [s] 0 acc l).length=l.count s+1
 | [],acc=>by rw [spl_nil]; rfl
 | c :: r,acc=>by
  rw [jXJ]
  split
  ·rename_i h
   subst h
   rw [List.length_cons,jUB,List.count_cons_self]
  ·rename_i h
   rw [jUB,List.count_cons_of_ne (by simpa using h)]
structure TOk (w:Str):Prop where
 c:∀ c∈tl w,c < 1114112
 l:(tl w).length≤100000
theorem TOk.sok {w:Str} (k:TOk w):jRP w=true:=by
 unfold jRP PyData.strOk
 have h2:decide (w.length≤sizeLine)=true:=decide_eq_true (by rw [jBI,sizeLine_eq]; have:=k.l; omega)
 rw [h2,Bool.and_true,← Array.all_toList,List.all_eq_true]
 exact fun c q=>decide_eq_true (k.c c q)
def spW (w:Str):List Str:=Txt.split w " "
def spD (w:Str):List Str:=Txt.split w "."
theorem jLR:tl " " = [32]:=by decide +kernel
theorem jKV:tl "." = [46]:=by decide +kernel
theorem jTJ {w:Str}:(spW w).map tl=spl [32] 0 [] (tl w):=by
 unfold spW
 rw [split_spl w " " (by rw [jLR]; simp) (kind_ok (by decide +kernel)),jLR]
theorem yJC {w:Str}:(spD w).map tl=spl [46] 0 [] (tl w):=by
 unfold spD
 rw [split_spl w "." (by rw [jKV]; simp) (kind_ok (by decide +kernel)),jKV]
theorem piece {s:Nat} {w:Str} {ps:List Str} (e:ps.map tl=spl [s] 0 [] (tl w)) (k:TOk w):(∀ p∈ps,TOk p∧s∉tl p)∧ps.length=(tl w).count s+1:=by
 refine ⟨fun p hp=>?_,by rw [← List.length_map (f:=tl),e,jUB]⟩
 have h:tl p∈spl [s] 0 [] (tl w):=by rw [← e]; exact List.mem_map_of_mem hp
 obtain ⟨h1,h2⟩:=yAI h
 refine ⟨⟨fun c hc=>?_,?_⟩,fun hs=>?_⟩
 ·rcases h1 c hc with z | z
  ·cases z
  ·exact k.c c z.1
 ·have:=k.l
  have h2:(tl p).length≤([]:List Nat).length+(tl w).length:=h2
  rw [List.length_nil] at h2
  omega
 ·rcases h1 s hs with z | z
  ·cases z
  ·exact z.2 rfl
theorem jXI {h:AH} {s:Nat} {w sep:Str} (es:tl sep=[s]) (e:(Txt.split w sep).map tl=spl [s] 0 [] (tl w)) (k:TOk w):jBU h w [.str sep]=some (.lst ((Txt.split w sep).map .str)):=by
 obtain ⟨h1,h2⟩:=piece e k
 have ls:sep.length=1:=by rw [jBI,es]; rfl
 have hc:(tl w).count s≤(tl w).length:=List.count_le_length
 have:=k.l
 show (if ((sep.length == 0)=false∧w.length+2≤16777216)∧((Txt.split w sep).all jRP=true∧(Txt.split w sep).length≤16777216) then some (PV.lst (yIA (Txt.split w sep))) else none)=_
 rw [if_pos ⟨⟨by rw [ls]; rfl,by rw [jBI]; omega⟩,List.all_eq_true.mpr fun p hp=>(h1 p hp).1.sok,by rw [h2]; omega⟩]; rfl
theorem jPZ {h:AH} {w:Str} (k:TOk w):jBU h w [.str " "]=some (.lst ((spW w).map .str)):=jXI jLR jTJ k
theorem yJB {h:AH} {w:Str} (k:TOk w):jBU h w [.str "."]=some (.lst ((spD w).map .str)):=jXI jKV yJC k
theorem yAJ {w p:Str} (k:TOk w) (h:p∈spW w):TOk p:=((piece jTJ k).1 p h).1
theorem yNT {w:Str} (k:TOk w):1≤(spD w).length∧(spD w).length≤100001:=by
 have h:=(piece yJC k).2
 have hc:(tl w).count 46≤(tl w).length:=List.count_le_length
 have:=k.l
 omega
theorem jPK (w:Str):Pl (wO w):=by unfold wO; split <;> trivial
theorem jCJ (w:Str):isOwn (wO w)=false:=qP (jPK w)
def jBO (w:Str):PV:=.tup ((spD w).map wO)
def keyV (w:Str):PV:=if keyB (jBO w)=true then jBO w else .non
def yJ (w:Str):PV:=if w = "-" then .non else if jDH (wO w)=true then wO w else .int (-1)
theorem jYG {w:Str} {h:AH} (k:TOk w):(jBV [.str w] h).post (fun v h'=>v=keyV w∧h'=h) NE:=by
 unfold jBV
 rw [yFK]
 unfold jSF
 refine wV [some (.str w),none,none] rfl ?_
 have sh:uB ((spD w).map wO)=true:=by
  unfold uB
  rw [List.all_map,List.all_eq_true]
  exact fun p _=>by show (!isOwn (wO p))=true; rw [jCJ]; rfl
 refine yS (zK (qT (jP (jAX (jBW (α:=Str) (jDB (jKE (jQ rfl ⟨w,rfl,jP (p_c (yF ⟨_,yJB k,?_⟩))⟩))))))))
 refine ⟨_,rfl,rfl,spD w,PV.str,wO,rfl,fun p _=>⟨jCJ p,_,rfl,rfl,?_⟩,?_⟩
 ·refine yP (jP (jQ rfl (yF ⟨⟨rfl,rfl⟩,jX jXY fun v h2 z=>?_⟩)))
  obtain ⟨rfl,rfl⟩:=z
  exact ⟨rfl,rfl,rfl⟩
 refine yF ⟨_,rfl,rfl,?_⟩
 dsimp only [jU,List.set_cons_succ,List.set_cons_zero,List.foldl]
 refine vM (zN (jAW (yP (jP (jQ rfl (yF ⟨⟨rfl,rfl⟩,jX (jJG (v:=jBO w) trivial fun xs e x hx=>?_) fun v h2 z=>?_⟩))))))
 ·injection e with e
  subst e
  obtain ⟨p,_,rfl⟩:=List.mem_map.mp hx
  exact jPK p
 obtain ⟨rfl,rfl⟩:=z
 refine ⟨_,rfl,zW (fun hk=>?_) fun hk=>?_⟩
 ·have e:keyV w=jBO w:=by unfold keyV; rw [if_pos hk]
  rw [e]
  exact jQ rfl ⟨rfl,rfl,rfl⟩
 ·have e:keyV w=.non:=by unfold keyV; rw [hk]; rfl
  rw [e]
  exact p_c ⟨rfl,rfl,rfl⟩
theorem jEU {w:Str} {h:AH}:(uK [.str w] h).post (fun v h'=>v=yJ w∧h'=h) NE:=by
 unfold uK
 rw [yBB]
 unfold jQO
 refine wV [some (.str w),none] rfl ?_
 refine yS (uI (uO (yC (jQ rfl (p_c ⟨_,jBJ,_,rfl,zW (fun hc=>?_) fun hc=>?_⟩)))))
 ·have e:yJ w=.non:=by unfold yJ; rw [if_pos (of_decide_eq_true hc)]
  rw [e]
  exact vM (p_c ⟨rfl,rfl,rfl⟩)
 refine vL ?_
 refine yS (zK (yP (jP (jQ rfl (yF ⟨⟨rfl,rfl⟩,jX jXY fun v h2 z=>?_⟩)))))
 obtain ⟨rfl,rfl⟩:=z
 refine ⟨jCJ w,?_⟩
 dsimp only [List.set_cons_succ,List.set_cons_zero]
 refine vM (zN (jAW (yP (jP (jQ rfl (yF ⟨⟨rfl,by show (!isOwn (wO w)&&_)=true; rw [jCJ]; rfl⟩,jX (jAT (jPK w)) fun v h3 z=>?_⟩))))))
 obtain ⟨rfl,rfl⟩:=z
 refine ⟨_,rfl,zW (fun hk=>?_) fun hk=>?_⟩
 ·have e:yJ w=wO w:=by unfold yJ; rw [if_neg (of_decide_eq_false hc),if_pos hk]
  rw [e]
  exact jQ rfl ⟨jCJ w,rfl,rfl⟩
 ·have e:yJ w=.int (-1):=by unfold yJ; rw [if_neg (of_decide_eq_false hc),hk]; rfl
  rw [e]
  exact yVV (p_c ⟨_,rfl,rfl,rfl,rfl⟩)
theorem jGQ (w:Str):Pl (yJ w):=by
 unfold yJ
 split
 ·trivial
 ·split
  ·exact jPK w
  ·trivial
theorem yEK (w:Str):Pl (keyV w):=by
 unfold keyV
 split <;> trivial
def jOR (a b c:Str):List Str→PV
 | [d,e]=>.tup [.str a,yJ b,yJ c,yJ d,keyV e]
 | _=>.tup []
def inV:List Str→PV
 | [a,b]=>.tup [.str a,yJ b]
 | a :: b :: c :: r=>if a = "number" then .tup [.str "number", yJ b,yJ c,.tup (r.map keyV)] else jOR a b c r
 | _=>.tup []
theorem jXZ {n:Nat} (w:Str):DPl n (wO w):=by
 unfold wO
 split <;> cases n <;> trivial
theorem jEV {n:Nat} (w:Str):DPl n (yJ w):=by
 unfold yJ
 split
 ·cases n <;> trivial
 ·split
  ·exact jXZ w
  ·cases n <;> trivial
theorem jYI {n:Nat} (w:Str):DPl (n+1) (keyV w):=by
 unfold keyV
 split
 ·intro x hx
  obtain ⟨p,_,rfl⟩:=List.mem_map.mp hx
  exact jXZ p
 ·trivial
theorem jPN (ws:List Str):DPl 3 (inV ws):=by
 have nl:DPl 3 (.tup []):=fun x hx=>nomatch hx
 unfold inV
 split
 ·intro x hx
  simp only [List.mem_cons,List.not_mem_nil,or_false] at hx
  rcases hx with rfl | rfl
  ·trivial
  ·exact jEV _
 ·split
  ·intro x hx
   simp only [List.mem_cons,List.not_mem_nil,or_false] at hx
   rcases hx with rfl | rfl | rfl | rfl
   ·trivial
   ·exact jEV _
   ·exact jEV _
   ·intro y hy
    obtain ⟨p,_,rfl⟩:=List.mem_map.mp hy
    exact jYI p
  ·unfold jOR
   split
   ·intro x hx
    simp only [List.mem_cons,List.not_mem_nil,or_false] at hx
    rcases hx with rfl | rfl | rfl | rfl | rfl
    ·trivial
    ·exact jEV _
    ·exact jEV _
    ·exact jEV _
    ·exact jYI _
   ·exact nl
 ·exact nl
theorem yEP (ws:List Str):∀ xs,inV ws=.tup xs→xs.length < 1000:=fun xs e=>by
 have go:∀ {ys:List PV},PV.tup ys=.tup xs→ys.length < 1000→xs.length < 1000:=fun q h=>by
  injection q with q
  rw [← q]; exact h
 unfold inV at e
 split at e
 ·exact go e (Nat.le_of_ble_eq_true rfl)
 ·split at e
  ·exact go e (Nat.le_of_ble_eq_true rfl)
  ·unfold jOR at e
   split at e
   ·exact go e (Nat.le_of_ble_eq_true rfl)
   ·exact go e (Nat.le_of_ble_eq_true rfl)
 ·exact go e (Nat.le_of_ble_eq_true rfl)
theorem jHD (ws:List Str):isOwn (inV ws)=false:=by
 unfold inV
 split
 ·rfl
 ·split
  ·rfl
  ·unfold jOR
   split <;> rfl
 ·rfl
theorem yEO {ws:List Str} {h:AH} (hw:∀ w∈ws,TOk w) (hz:ws.length≤100001):(jCD [.lst (ws.map .str)] h).post (fun v h'=>v=inV ws∧h'=h) NE:=by
 unfold jCD
 rw [yBE]
 unfold jQR
 refine wV [some (.lst (ws.map .str)),none] rfl ?_
 have ll:∀ h,vP h [.lst (ws.map PV.str)]=some (.int (ws.length:Nat)):=fun h=>by
  show some (PV.int ((ws.map PV.str).length:Nat))=_
  rw [List.length_map]
 have ix:∀ {h:AH} {xs:List PV} {i:Nat} {z:PV},xs[i]?=some z→fIx h (.lst xs) (.int i)=some z:=fun {h xs i z} e=>jIV e
 (repeat (first | refine ⟨_,ll _,?_⟩ | walk_at "p1"))
 refine zW (fun h2=>?_) fun h2=>?_
 ·have h2:decide ((ws.length:Int)=2)=true:=by rw [← jCC]; exact h2
  have h2:=of_decide_eq_true h2
  obtain ⟨a,b,rfl⟩:∃ a b,ws=[a,b]:=by
   match ws,h2 with
   | [a,b],_=>exact ⟨a,b,rfl⟩
   | [],z=>exact absurd z (by decide)
   | [a],z=>exact absurd z (by simp)
   | a :: b :: c :: r,z=>simp at z; omega
  refine vM (kW (jP (yC (jQ rfl (p_c ⟨_,ix (i:=0) rfl,jP (yP (jP (yC (jQ rfl (p_c ⟨_,ix (i:=1) rfl,yF ⟨⟨rfl,rfl⟩,jX jEU fun v h2 z=>?_⟩⟩)))))⟩)))))
  obtain ⟨rfl,rfl⟩:=z
  refine yF ⟨⟨by show (!isOwn (PV.str a)&&(!isOwn (yJ b)&&true))=true; rw [qP (jGQ b)]; rfl,Nat.le_of_ble_eq_true rfl⟩,?_⟩
  exact ⟨rfl,rfl,rfl⟩
 have h2:decide ((ws.length:Int)=2)=false:=by rw [← jCC]; exact h2
 have h2:=of_decide_eq_false h2
 (repeat (first | refine ⟨_,ll _,?_⟩ | walk_at "p1"))
 have e3:ws.length≤2→inV ws=.tup []:=fun q=>by
  match ws,h2,q with
  | [],_,_=>rfl
  | [a],_,_=>rfl
  | [a,b],z,_=>exact absurd rfl z
 refine zW (fun h3=>?_) fun h3=>?_
 ·have h3:decide ((2:Int) < (ws.length:Nat))=true:=h3
  have h3:=of_decide_eq_true h3
  obtain ⟨a,b,c,r,rfl⟩:∃ a b c r,ws=a :: b :: c :: r:=by
   match ws,h3 with
   | a :: b :: c :: r,_=>exact ⟨a,b,c,r,rfl⟩
   | [],z=>exact absurd z (by decide)
   | [a],z=>exact absurd z (by simp)
   | [a,b],z=>exact absurd z (by simp)
  refine uO (yC (yC (jQ rfl (p_c ⟨_,ix (i:=0) rfl,p_c ⟨_,jBJ,_,rfl,zW (fun hn=>?_) fun hn=>?_⟩⟩))))
  ·have e4:inV (a :: b :: c :: r)=.tup [.str "number", yJ b,yJ c,.tup (r.map keyV)]:=by
    show (if a = "number" then _ else _)=_
    rw [if_pos (of_decide_eq_true hn)]
   rw [e4]
   refine vM (kW (jP (p_c (jP (yP (jP (yC (jQ rfl (p_c ⟨_,ix (i:=1) rfl,yF ⟨⟨rfl,rfl⟩,jX jEU fun v h2 z=>?_⟩⟩)))))))))
   obtain ⟨rfl,rfl⟩:=z
   refine jP (yP (jP (yC (jQ rfl (p_c ⟨_,ix (i:=2) rfl,yF ⟨⟨rfl,rfl⟩,jX jEU fun v h2 z=>?_⟩⟩)))))
   obtain ⟨rfl,rfl⟩:=z
   have sl:∀ h,fSl h (.lst ((a :: b :: c :: r).map PV.str)) (some 3) none=some (.lst (r.map PV.str)):=fun h=>by
    show some (PV.lst (jAY _ (some 3) none))=_
    rw [jJB (by decide) (by simp; omega)]
    rfl
   have kh:∀ w∈r,TOk w:=fun w hm=>hw w (by simp [hm])
   refine jP (qT (jP (jAX (jBW (α:=Str) (jDB (jCW (jQ rfl (vQ (p_c ⟨_,rfl,vY ⟨_,sl _,⟨_,rfl,rfl,r,PV.str,keyV,rfl,fun p hp=>⟨qP (yEK p),_,rfl,rfl,?_⟩,?_⟩⟩⟩)))))))))
   ·refine yP (jP (jQ rfl (yF ⟨⟨rfl,rfl⟩,jX (jYG (kh p hp)) fun v h2 z=>?_⟩)))
    obtain ⟨rfl,rfl⟩:=z
    exact ⟨rfl,rfl,rfl⟩
   refine yF ⟨_,rfl,?_⟩
   refine yF ⟨⟨by show (!isOwn (PV.str "number")&&(!isOwn (yJ b)&&(!isOwn (yJ c)&&(!isOwn (PV.tup (r.map keyV))&&true))))=true; rw [qP (jGQ b),qP (jGQ c)]; rfl,Nat.le_of_ble_eq_true rfl⟩,?_⟩
   exact ⟨rfl,rfl,rfl⟩
  ·refine vL ?_
   (repeat (first | refine ⟨_,ll _,?_⟩ | walk_at "p1"))
   have e5:inV (a :: b :: c :: r)=jOR a b c r:=by
    show (if a = "number" then _ else _)=_
    rw [if_neg (of_decide_eq_false hn)]
   refine zW (fun h5=>?_) fun h5=>?_
   ·have h5:decide (((a :: b :: c :: r).length:Int)=5)=true:=by rw [← jCC]; exact h5
    have h5:=of_decide_eq_true h5
    obtain ⟨d,e,rfl⟩:∃ d e,r=[d,e]:=by
     match r,h5 with
     | [d,e],_=>exact ⟨d,e,rfl⟩
     | [],z=>exact absurd z (by simp)
     | [d],z=>exact absurd z (by simp)
     | d :: e :: f :: g,z=>simp at z; omega
    rw [e5]
    refine vM (kW (jP (yC (jQ rfl (p_c ⟨_,ix (i:=0) rfl,jP (yP (jP (yC (jQ rfl (p_c ⟨_,ix (i:=1) rfl,yF ⟨⟨rfl,rfl⟩,jX jEU fun v h2 z=>?_⟩⟩)))))⟩)))))
    obtain ⟨rfl,rfl⟩:=z
    refine jP (yP (jP (yC (jQ rfl (p_c ⟨_,ix (i:=2) rfl,yF ⟨⟨rfl,rfl⟩,jX jEU fun v h2 z=>?_⟩⟩)))))
    obtain ⟨rfl,rfl⟩:=z
    refine jP (yP (jP (yC (jQ rfl (p_c ⟨_,ix (i:=3) rfl,yF ⟨⟨rfl,rfl⟩,jX jEU fun v h2 z=>?_⟩⟩)))))
    obtain ⟨rfl,rfl⟩:=z
    refine jP (yP (jP (yC (jQ rfl (p_c ⟨_,ix (i:=4) rfl,yF ⟨⟨rfl,rfl⟩,jX (jYG (hw e (by simp))) fun v h2 z=>?_⟩⟩)))))
    obtain ⟨rfl,rfl⟩:=z
    refine yF ⟨⟨by show (!isOwn (PV.str a)&&(!isOwn (yJ b)&&(!isOwn (yJ c)&&(!isOwn (yJ d)&&(!isOwn (keyV e)&&true)))))=true; rw [qP (jGQ b),qP (jGQ c),qP (jGQ d),qP (yEK e)]; rfl,Nat.le_of_ble_eq_true rfl⟩,?_⟩
    exact ⟨rfl,rfl,rfl⟩
   ·have h5:decide (((a :: b :: c :: r).length:Int)=5)=false:=by rw [← jCC]; exact h5
    have h5:=of_decide_eq_false h5
    have e6:inV (a :: b :: c :: r)=.tup []:=by
     rw [e5]
     match r,h5 with
     | [d,e],z=>exact absurd rfl z
     | [],_=>rfl
     | [d],_=>rfl
     | d :: e :: f :: g,_=>rfl
    rw [e6]
    (repeat walk_at "p1")
 ·have h3:decide ((2:Int) < (ws.length:Nat))=false:=h3
  have h3:=of_decide_eq_false h3
  rw [e3 (by omega)]
  (repeat (first | refine ⟨_,ll _,?_⟩ | walk_at "p1"))
  rw [jCC,decide_eq_false (by omega)]
  (repeat walk_at "p1")
end
end LW
set_option maxHeartbeats 4000000
namespace LW
open PySem PySem.Spec PyProof.Rows L2 Lp TL
section
def xT:PV:=.ins 1 [.str "InvalidText", .int 0]
theorem jUC {w:Str} (k:TOk w):1≤(spW w).length∧(spW w).length≤100001:=by
 have h:=(piece jTJ k).2
 have hc:(tl w).count 32≤(tl w).length:=List.count_le_length
 have:=k.l
 omega
theorem yDX {s:Str} {h:AH} (k:TOk s) (hd:jDC (inV (spW s))=true):(yU [.str s] h).post (fun v h'=>v=inV (spW s)∧h'=h) NE:=by
 unfold yU
 rw [jHL]
 unfold jEL
 refine wV [some (.str s),none] rfl ?_
 refine yS (zK (zN (jAW (qT (jP (jQ rfl (jP (p_c (yF ⟨_,jOQ trivial rfl,_,rfl,vR rfl ?_⟩)))))))))
 refine yP (jP (jKE (jQ rfl ⟨s,rfl,jP (p_c (yF ⟨_,jPZ k,yF ⟨⟨rfl,rfl⟩,jX (yEO (fun w hw=>yAJ k hw) (jUC k).2) fun v h2 z=>?_⟩⟩))⟩)))
 obtain ⟨rfl,rfl⟩:=z
 refine ⟨jHD _,?_⟩
 dsimp only [List.set_cons_succ,List.set_cons_zero]
 refine yS (uI (uU (jAW (yP (jP (jQ rfl (yF ⟨⟨rfl,by show (!isOwn (inV (spW s))&&true)=true; rw [jHD]; rfl⟩,jX (jEO (jPN _) (yEP _)) fun v h3 z=>?_⟩)))))))
 obtain ⟨rfl,rfl⟩:=z
 rw [hd]
 refine ⟨_,rfl,vX rfl (vL (vM (jQ rfl ⟨jHD _,rfl,rfl⟩)))⟩
theorem yLK {s:Str} {h:AH} (k:TOk s) (hd:jDC (inV (spW s))=false):(yU [.str s] h).post (fun _ _=>False) (fun x h'=>x=xT∧h'=h):=by
 unfold yU
 rw [jHL]
 unfold jEL
 refine wV [some (.str s),none] rfl ?_
 refine yS (zK (zN (jAW (qT (jP (jQ rfl (jP (p_c (yF ⟨_,jOQ trivial rfl,_,rfl,vR rfl ?_⟩)))))))))
 refine yP (jP (jKE (jQ rfl ⟨s,rfl,jP (p_c (yF ⟨_,jPZ k,yF ⟨⟨rfl,rfl⟩,jX (yEO (fun w hw=>yAJ k hw) (jUC k).2) fun v h2 z=>?_⟩⟩))⟩)))
 obtain ⟨rfl,rfl⟩:=z
 refine ⟨jHD _,?_⟩
 dsimp only [List.set_cons_succ,List.set_cons_zero]
 refine yS (uI (uU (jAW (yP (jP (jQ rfl (yF ⟨⟨rfl,by show (!isOwn (inV (spW s))&&true)=true; rw [jHD]; rfl⟩,jX (jEO (jPN _) (yEP _)) fun v h3 z=>?_⟩)))))))
 obtain ⟨rfl,rfl⟩:=z
 rw [hd]
 refine ⟨_,rfl,vR rfl (yDZ ?_)⟩
 (repeat walk_at "p1")
theorem yLJ {v:PV} {h:AH} (o:isOwn v=false) (hv:wQ h [v,.ty "str"]=some (.bl false)):(yU [v] h).post (fun _ _=>False) (fun x h'=>x=xT∧h'=h):=by
 unfold yU
 rw [jHL]
 unfold jEL
 refine wV [some v,none] rfl ?_
 refine yS (zK (zN (jAW (qT (jP (jQ rfl (jP (p_c (yF ⟨_,hv,_,rfl,vX rfl ?_⟩)))))))))
 refine kW (yF ⟨⟨rfl,Nat.zero_le _⟩,?_⟩)
 refine ⟨rfl,?_⟩
 dsimp only [List.set_cons_succ,List.set_cons_zero]
 refine yS (uI (uU (jAW (yP (jP (jQ rfl (yF ⟨⟨rfl,rfl⟩,jX (jEO (v:=.tup []) (fun x hx=>nomatch hx) (fun xs e=>by cases e; decide)) fun v h3 z=>?_⟩)))))))
 obtain ⟨rfl,rfl⟩:=z
 refine ⟨_,rfl,vR rfl (yDZ ?_)⟩
 (repeat walk_at "p1")
end
end LW
set_option maxHeartbeats 4000000
namespace LW
open PySem PySem.Spec PyProof.Rows L2 Lp TL
section
def jCB (w:Str):PV:=if w = "-" then .non else wO w
def okR (a:Str) (i:Nat) (w:Str):Bool:=(decide (w = "-")&&!(!decide (a = "number")&&decide (i=0)))||jDH (jCB w)
theorem jXO (w:Str):isOwn (jCB w)=false:=by
 unfold jCB
 split
 ·rfl
 ·exact jCJ w
theorem yOM (w:Str):jCB w=.non∨∃ n:Int,jCB w=.int n:=by
 unfold jCB
 split
 ·exact .inl rfl
 ·unfold wO
  split
  ·exact .inr ⟨_,rfl⟩
  ·exact .inl rfl
theorem yML {xs:List PV}:∀ {n j:Nat},(jCH n xs)[j]?=xs[j]?.map fun x=>.tup [.int ((n+j:Nat):Int),x]:=by
 induction xs with
 | nil=>intro n j; rfl
 | cons x xs ih =>
  intro n j
  cases j with
  | zero=>rfl
  | succ j =>
   show (jCH (n+1) xs)[j]?=_
   rw [ih,show n+1+j=n+(j+1) by omega]
   rfl
noncomputable def yIC:MS:=(jII (jLU (jC (jF 3) jK)) (.t [(.n 4),(.n 5)]) (yG (uA 6 (jDI (jJ fEq (jJ fIx (jF 1) (jJ yO (xEC (.int 1)) (jF 4))) (xEC (.str "-"))) (jWK (jDI (jJ fNe (jJ fIx (jF 1) (xEC (.int 0))) (xEC (.str "number"))) (jJ fEq (jF 4) (xEC (.int 0)))))))
 (jAK (jKJ (jDV (xTM (jF 6))) (jDK (xBM (jJ jAL (jF 5) (xEC .non))) (jDK (xBM (jJ fLt (jF 5) (xEC (.int 0)))) (xBM (jJ fGt (jF 5) (xEC (.int 39))))))) (yX (xEC .non)) zH)))
theorem yLG {PF:Fl→S→Prop} {E:PV→S→Prop} {h:AH} {a t:Str} {rs ks:List Str} {sd:Int} {tlE:List (Option PV)} {y4 y5 y6:Option PV}
  (hok:(∀ (i:Nat) w,rs[i]?=some w→okR a i w=true)→∀ y4 y5 y6,PF .nx ⟨some (.str t) :: some (.lst ((a :: rs++ks).map .str)) :: some (.int sd) :: some (.lst (rs.map jCB)) :: y4 :: y5 :: y6 :: tlE,h⟩)
  (hbad:(∃ (i:Nat) (w:Str),rs[i]?=some w∧okR a i w=false)→∀ e,PF (.rt .non) ⟨e,h⟩) (hz:rs.length < 1000) :
  (yIC ⟨some (.str t) :: some (.lst ((a :: rs++ks).map .str)) :: some (.int sd) :: some (.lst (rs.map jCB)) :: y4 :: y5 :: y6 :: tlE,h⟩).post PF E:=by
 unfold yIC
 have le:∀ {xs:List PV} {n:Nat},(jCH n xs).length=xs.length:=fun {xs}=>by
  induction xs with
  | nil=>intro n; rfl
  | cons x xs ih=>intro n; show (jCH (n+1) xs).length+1=_; rw [ih]; rfl
 refine yIF (yEA (jP (jQ rfl (yF ⟨_,.inr rfl,rfl,rfl,by rw [le,List.length_map,sizeLine_eq]; omega,yAO (fun j s=>(∀ (i:Nat) w,i < j→rs[i]?=some w→okR a i w=true)∧∃ y4 y5 y6,s=⟨some (.str t) :: some (.lst ((a :: rs++ks).map .str)) :: some (.int sd) :: some (.lst (rs.map jCB)) :: y4 :: y5 :: y6 :: tlE,h⟩) ⟨fun i w hi=>absurd hi (by omega),_,_,_,rfl⟩ (fun j v s ev ⟨hj,y4,y5,y6,es⟩=>?_) fun s ⟨hj,y4,y5,y6,es⟩=>?_⟩))))
 ·subst es
  have ev:(jCH 0 (rs.map jCB))[j]?=some v:=ev
  rw [yML,List.getElem?_map] at ev
  cases er:rs[j]? with
  | none=>rw [er] at ev; cases ev
  | some w =>
   rw [er] at ev
   have ev:PV.tup [.int ((0+j:Nat):Int),jCB w]=v:=by injection ev
   subst ev
   rw [Nat.zero_add]
   refine ⟨some (.str t) :: some (.lst ((a :: rs++ks).map .str)) :: some (.int sd) :: some (.lst (rs.map jCB)) :: some (.int (j:Nat)) :: some (jCB w) :: y6 :: tlE,by simp [qK,bindTs,jXO,show isOwn (PV.int ((j:Nat):Int))=false from rfl],?_⟩
   have i1:∀ h,fIx h (.lst ((a :: rs++ks).map PV.str)) (.int (1+(j:Nat)))=some (.str w):=fun h=>by
    show atI ((a :: rs++ks).map PV.str) (1+((j:Nat):Int))=_
    rw [show (1+((j:Nat):Int))=((j+1:Nat):Int) by omega]
    refine jIV ?_
    show ((rs++ks).map PV.str)[j]?=_
    rw [List.getElem?_map,List.getElem?_append_left (List.getElem?_eq_some_iff.mp er).1,er]; rfl
   have i0:∀ h,fIx h (.lst ((a :: rs++ks).map PV.str)) (.int 0)=some (.str a):=fun h=>jIV (i:=0) rfl
   have ea:∀ h,yO h (.int 1) (.int (j:Nat))=some (.int (1+(j:Nat))):=fun h=>rfl
   have ej:∀ h,fEq h (.int (j:Nat)) (.int 0)=some (.bl (decide (j=0))):=fun h=>congrArg (fun b=>some (PV.bl b)) (by
    rw [jCC]
    exact decide_eq_decide.mpr (by omega))
   refine yAN ⟨some (.str t) :: some (.lst ((a :: rs++ks).map .str)) :: some (.int sd) :: some (.lst (rs.map jCB)) :: some (.int (j:Nat)) :: some (jCB w) :: some (.bl (decide (w = "-")&&!(!decide (a = "number")&&decide (j=0)))) :: tlE,h⟩ ?_ ?_
   ·refine zK (wU (yC (yC (jQ rfl (yC (p_c (jQ rfl ⟨_,ea _,_,i1 _,p_c ⟨_,jBJ,_,rfl,zW (fun h1=>?_) fun h1=>?_⟩⟩)))))))
    ·refine kE (wU (yC (yC (jQ rfl (p_c ⟨_,i0 _,p_c ⟨_,yWH,_,rfl,zW (fun h2=>?_) fun h2=>?_⟩⟩)))))
     ·refine yC (jQ rfl (p_c ⟨_,ej _,_,rfl,?_⟩))
      rw [h1,h2]
      exact ⟨rfl,rfl,rfl⟩
     ·refine ⟨_,rfl,?_⟩
      rw [h1,h2]
      exact ⟨rfl,rfl,rfl⟩
    ·rw [h1]
     exact ⟨rfl,rfl,rfl⟩
   have hstep:okR a j w=true→∀ y4 y5 y6,(∀ (i:Nat) w,i < j+1→rs[i]?=some w→okR a i w=true)∧∃ z4 z5 z6,(⟨some (.str t) :: some (.lst ((a :: rs++ks).map .str)) :: some (.int sd) :: some (.lst (rs.map jCB)) :: y4 :: y5 :: y6 :: tlE,h⟩:S)=⟨some (.str t) :: some (.lst ((a :: rs++ks).map .str)) :: some (.int sd) :: some (.lst (rs.map jCB)) :: z4 :: z5 :: z6 :: tlE,h⟩:=fun q y4 y5 y6=>⟨fun i u hi e=>by
    by_cases hi2:i < j
    ·exact hj i u hi2 e
    ·have:i=j:=by omega
     subst this
     rw [er] at e
     cases e
     exact q,_,_,_,rfl⟩
   have eok:okR a j w=((decide (w = "-")&&!(!decide (a = "number")&&decide (j=0)))||jDH (jCB w)):=rfl
   generalize (decide (w = "-")&&!(!decide (a = "number")&&decide (j=0)))=b at eok
   have hbd:okR a j w=false→∀ e,PF (.rt .non) ⟨e,h⟩:=fun q=>hbad ⟨j,w,er,q⟩
   refine uI (uW (uU (jAW (jQ rfl ⟨_,rfl,zW (fun hb=>?_) fun hb=>?_⟩))))
   ·have hb:b=false:=by simpa using hb
    subst hb
    rcases yOM w with er2 | ⟨n,er2⟩
    ·rw [er2]
     refine wA (uO (yC (jQ rfl (p_c ⟨_,rfl,_,rfl,vR rfl (vR rfl (vM (p_c ⟨rfl,?_⟩)))⟩))))
     exact hbd (by rw [eok,er2]; rfl) _
    ·rw [er2]
     refine wA (uO (yC (jQ rfl (p_c ⟨_,rfl,_,rfl,vX rfl ?_⟩))))
     refine wA (uO (yC (jQ rfl (p_c ⟨_,rfl,_,rfl,zW (fun h0=>?_) fun h0=>?_⟩))))
     ·have h0:decide (n < 0)=true:=h0
      refine vR rfl (vM (p_c ⟨rfl,hbd ?_ _⟩))
      rw [eok,er2]
      show (false||(decide (0≤n)&&decide (n≤39)))=false
      rw [decide_eq_false (by have:=of_decide_eq_true h0; omega)]; rfl
     ·have h0:decide (n < 0)=false:=h0
      refine uO (yC (jQ rfl (p_c ⟨_,rfl,_,rfl,zW (fun h9=>?_) fun h9=>?_⟩)))
      ·have h9:decide (39 < n)=true:=h9
       refine vM (p_c ⟨rfl,hbd ?_ _⟩)
       rw [eok,er2]
       show (false||(decide (0≤n)&&decide (n≤39)))=false
       rw [decide_eq_false (p:=n≤39) (by have:=of_decide_eq_true h9; omega),Bool.and_false]; rfl
      ·have h9:decide (39 < n)=false:=h9
       refine vL ?_
       refine hstep ?_ _ _ _
       rw [eok,er2]
       show (false||(decide (0≤n)&&decide (n≤39)))=true
       rw [decide_eq_true (by have:=of_decide_eq_false h0; omega),decide_eq_true (by have:=of_decide_eq_false h9; omega)]; rfl
   ·have hb:b=true:=by simpa using hb
    refine vX rfl (vL ?_)
    refine hstep ?_ _ _ _
    rw [eok,hb]; rfl
 ·subst es
  have hj:∀ (i:Nat) w,i < (jCH 0 (rs.map jCB)).length→rs[i]?=some w→okR a i w=true:=hj
  rw [le,List.length_map] at hj
  exact hok (fun i w e=>hj i w (List.getElem?_eq_some_iff.mp e).1 e) _ _ _
end
end LW
set_option maxHeartbeats 4000000
namespace LW
open PySem PySem.Spec PyProof.Rows L2 Lp TL
section
noncomputable def yIH:MS:=(jII (jAZ (jGE (jF 1) (kZ (jJ yO (xEC (.int 1)) (jF 2))) jBE)) (.n 8) (yG (uA 9 (xECB kJ (jC (jCY (vI (jAZ (jIM jBU (jF 8) (jC (xEC (.str ".")) jK))) (.n 10) uR (yD 1 yV (jC (jF 10) jK)) [10])) jK)))
 (yG (jAK (jDK (xBM (jJ fGt (xECB vP (jC (jF 9) jK)) (xEC (.int 40)))) (xBM (jJ fNe (jCY (vI (jAZ (jF 9)) (.n 11) (jDK (xBM (jJ jAL (jF 11) (xEC .non))) (xBM (jJ fGt (xECB yAA (jC (jF 11) jK)) (jJ jOY (xEC (.int 10)) (xEC (.int 18)))))) (jF 11) [11])) (jCZ jK)))) (yX (xEC .non)) zH)
 (jLS 7 (jF 9)))))
abbrev nB:PV→Bool:=jPQ (0 - 1000000000000000000) 1000000000000000000
def yNE (w:Str):PyData:=match jNI (tl w) with | some n=>.int n | none=>.none
theorem yNO (w:Str):toD (wO w)=some (yNE w):=by
 unfold wO yNE
 cases jNI (tl w) <;> rfl
theorem yPI {h:AH} {l:List Str}:fNe h (.lst (l.map wO)) (.lst [])=some (.bl (!l.isEmpty)):=by
 have:=(yJZ (h:=h) (jGM wO yNE yNO l) fun d hd=>by
  obtain ⟨z,_,rfl⟩:=List.mem_map.mp hd
  unfold yNE
  cases jNI (tl z) <;> simp [PyData.depth]).2
 rw [jUO] at this
 exact this
theorem yAU {w:Str} (k:TOk w):keyB (jBO w)=(decide ((spD w).length≤40)&&(spD w).all fun p=>nB (wO p)):=by
 have h1:=(yNT k).1
 show (decide (1≤(((spD w).map wO).length:Int))&&decide ((((spD w).map wO).length:Int)≤40)&&(((spD w).map wO).map nB).all fun b=>b)=_
 rw [List.length_map,decide_eq_true (by omega),Bool.true_and,List.map_map,List.all_map]
 congr 1
 exact decide_eq_decide.mpr (by omega)
theorem yQI {h:AH} {p:Str} {e:List (Option PV)} {P:Bool→S→Prop} {E:PV→S→Prop} (he:e[11]?=some (some (wO p))) (q:P (!nB (wO p)) ⟨e,h⟩) :
  ((jDK (xBM (jJ jAL (jF 11) (xEC .non))) (xBM (jJ fGt (xECB yAA (jC (jF 11) jK)) (jJ jOY (xEC (.int 10)) (xEC (.int 18)))))) ⟨e,h⟩).post P E:=by
 unfold wO at he q
 cases en:jNI (tl p) with
 | none =>
  rw [en] at he q
  exact wA (uO (yC (jQ he (p_c ⟨_,rfl,_,rfl,vR rfl q⟩))))
 | some n =>
  rw [en] at he q
  refine wA (uO (yC (jQ he (p_c ⟨_,rfl,_,rfl,vX rfl ?_⟩))))
  refine uO (yC (qT (jP (jQ he (yF ⟨_,rfl,yC (p_c (p_c ⟨_,rfl,_,rfl,_,rfl,?_⟩))⟩)))))
  have e:(!nB (.int n))=decide ((10 ^ Int.toNat 18:Int) < if n < 0 then -n else n):=by
   show (!(decide ((0 - 1000000000000000000:Int)≤n)&&decide (n≤1000000000000000000)))=_
   rw [show (10 ^ Int.toNat 18:Int)=1000000000000000000 by decide +kernel,← Bool.decide_and,← decide_not]
   refine decide_eq_decide.mpr ?_
   split <;> omega
  have q:P (!nB (.int n)) ⟨_,h⟩:=q
  rw [e] at q
  exact q
theorem yMD {PF:Fl→S→Prop} {E:PV→S→Prop} {h:AH} {a t:Str} {rs ks:List Str} {y3 y4 y5 y6:Option PV}
  (hok:(∀ w∈ks,keyB (jBO w)=true)→∀ y8 y9 y10 y11,PF .nx ⟨[some (.str t),some (.lst ((a :: rs++ks).map .str)),some (.int (rs.length:Nat)),y3,y4,y5,y6,some (.own (ks.map jBO)),y8,y9,y10,y11],h⟩)
  (hbad:(∃ w∈ks,keyB (jBO w)=false)→∀ e,PF (.rt .non) ⟨e,h⟩) (hk:∀ w∈ks,TOk w) (hz:ks.length < 1000) :
  (yIH ⟨[some (.str t),some (.lst ((a :: rs++ks).map .str)),some (.int (rs.length:Nat)),y3,y4,y5,y6,some (.own []),none,none,none,none],h⟩).post PF E:=by
 unfold yIH
 have ea:∀ h,yO h (.int 1) (.int (rs.length:Nat))=some (.int (1+(rs.length:Nat))):=fun h=>rfl
 have sl:∀ h,fSl h (.lst ((a :: rs++ks).map PV.str)) (some (1+((rs.length:Nat):Int))) none=some (.lst (ks.map PV.str)):=fun h=>by
  show some (PV.lst (jAY _ (some (1+((rs.length:Nat):Int))) none))=_
  rw [jJB (by omega) (by simp; omega),show (1+((rs.length:Nat):Int)).toNat=rs.length+1 by omega]
  show some (PV.lst (((rs++ks).map PV.str).drop rs.length))=_
  rw [List.map_append,List.drop_left' (List.length_map ..)]
 refine yIF (jDB (jCW (jQ rfl (vQ (yC (p_c (jQ rfl ⟨_,ea _,_,rfl,vY ⟨_,sl _,⟨_,rfl,rfl,rfl,by rw [sizeLine_eq,List.length_map]; omega,yAO (fun j s=>(∀ (i:Nat) w,i < j→ks[i]?=some w→keyB (jBO w)=true)∧∃ y8 y9 y10 y11,s=⟨[some (.str t),some (.lst ((a :: rs++ks).map .str)),some (.int (rs.length:Nat)),y3,y4,y5,y6,some (.own ((ks.take j).map jBO)),y8,y9,y10,y11],h⟩) ⟨fun i w hi=>absurd hi (by omega),_,_,_,_,rfl⟩ (fun j v s ev ⟨hj,y8,y9,y10,y11,es⟩=>?_) fun s ⟨hj,y8,y9,y10,y11,es⟩=>?_⟩⟩⟩)))))))
 ·subst es
  have ev:(ks.map PV.str)[j]?=some v:=ev
  rw [List.getElem?_map] at ev
  cases er:ks[j]? with
  | none=>rw [er] at ev; cases ev
  | some w =>
   rw [er] at ev
   cases ev
   have kw:=hk w (List.mem_of_getElem? er)
   refine ⟨_,rfl,?_⟩
   dsimp only [List.set_cons_succ,List.set_cons_zero]
   have sh:uB ((spD w).map wO)=true:=by
    unfold uB
    rw [List.all_map,List.all_eq_true]
    exact fun p _=>by show (!isOwn (wO p))=true; rw [jCJ]; rfl
   refine yS (zK (qT (jP (jAX (jBW (α:=Str) (jDB (jKE (jQ rfl ⟨w,rfl,jP (p_c (yF ⟨_,yJB kw,?_⟩))⟩))))))))
   refine ⟨_,rfl,rfl,spD w,PV.str,wO,rfl,fun p _=>⟨jCJ p,_,rfl,rfl,?_⟩,?_⟩
   ·refine yP (jP (jQ rfl (yF ⟨⟨rfl,rfl⟩,jX jYS fun v h2 z=>?_⟩)))
    obtain ⟨rfl,rfl⟩:=z
    exact ⟨rfl,rfl,rfl⟩
   refine yF ⟨_,rfl,rfl,?_⟩
   dsimp only [jU,List.set_cons_succ,List.set_cons_zero,List.foldl]
   have ll:∀ h,vP h [.tup ((spD w).map wO)]=some (.int ((spD w).length:Nat)):=fun h=>by
    show some (PV.int (((spD w).map wO).length:Nat))=_
    rw [List.length_map]
   have hbd:keyB (jBO w)=false→∀ e,PF (.rt .non) ⟨e,h⟩:=fun q=>hbad ⟨w,List.mem_of_getElem? er,q⟩
   refine yS (uI (wA (uO (yC (qT (jP (jQ rfl (yF ⟨_,ll _,p_c ⟨_,rfl,_,rfl,zW (fun h4=>?_) fun h4=>?_⟩⟩))))))))
   ·have h4:decide ((40:Int) < ((spD w).length:Nat))=true:=h4
    refine vR rfl (vM (p_c ⟨rfl,hbd ?_ _⟩))
    rw [yAU kw,decide_eq_false (by have:=of_decide_eq_true h4; omega)]; rfl
   ·have h4:decide ((40:Int) < ((spD w).length:Nat))=false:=h4
    refine uO (yC (jAX (jGV (α:=Str) (jDB (jQ rfl ⟨_,rfl,rfl,spD w,wO,fun p=>!nB (wO p),rfl,fun p hp=>⟨jCJ p,_,by show (if isOwn (wO p)=true then none else _)=_; rw [jCJ]; rfl,?_⟩,?_⟩)))))
    ·exact yQI rfl ⟨rfl,jQ rfl ⟨rfl,rfl,rfl⟩,rfl,rfl⟩
    ·dsimp only [jU,List.set_cons_succ,List.set_cons_zero,List.foldl]
     refine qU (yF ⟨⟨rfl,Nat.zero_le _⟩,_,yPI,_,rfl,?_⟩)
     rw [yEQ]
     refine zW (fun h5=>?_) fun h5=>?_
     ·refine vM (p_c ⟨rfl,hbd ?_ _⟩)
      rw [yAU kw,show ((spD w).all fun p=>nB (wO p))=false by simpa using h5,Bool.and_false]
     ·refine vL ?_
      have kg:keyB (jBO w)=true:=by
       rw [yAU kw,decide_eq_true (by have:=of_decide_eq_false h4; omega),show ((spD w).all fun p=>nB (wO p))=true by simpa using h5]; rfl
      refine yJL rfl (jQ rfl ⟨_,rfl,⟨rfl,by rw [List.length_map,List.length_take]; omega⟩,?_⟩)
      have et:(ks.take (j+1)).map jBO=(ks.take j).map jBO++[.tup ((spD w).map wO)]:=by
       rw [jER er,List.map_append]; rfl
      show _∧_
      rw [et]
      refine ⟨fun i u hi e=>?_,_,_,_,_,rfl⟩
      by_cases hi2:i < j
      ·exact hj i u hi2 e
      ·have:i=j:=by omega
       subst this
       rw [er] at e
       cases e
       exact kg
 ·subst es
  have hj:∀ (i:Nat) w,i < (ks.map PV.str).length→ks[i]?=some w→keyB (jBO w)=true:=hj
  rw [List.length_map] at hj
  have e:ks.take (ks.map PV.str).length=ks:=by rw [List.length_map,List.take_length]
  show PF .nx ⟨[some (.str t),some (.lst ((a :: rs++ks).map .str)),some (.int (rs.length:Nat)),y3,y4,y5,y6,some (.own ((ks.take (ks.map PV.str).length).map jBO)),y8,y9,y10,y11],h⟩
  rw [e]
  refine hok (fun w hw=>?_) _ _ _ _
  obtain ⟨i,hi⟩:=List.getElem?_of_mem hw
  exact hj i w (List.getElem?_eq_some_iff.mp hi).1 hi
end
end LW
set_option maxHeartbeats 4000000
namespace LW
open PySem PySem.Spec PyProof.Rows L2 Lp TL
section
noncomputable def yQO:MS:=(yG (uA 3 (jCY (vI (jAZ (jGE (jF 1) (kZ (xEC (.int 1))) (kZ (jJ yO (xEC (.int 1)) (jF 2))))) (.n 8) uR (jEC (xBM (jJ fEq (jF 8) (xEC (.str "-")))) (xEC .non) (yD 1 yV (jC (jF 8) jK))) [8])))
 (yG yIC
 (yG (jKR 7 (jKI jK))
 (yG yIH
 (yG (jAK (xBM (jJ fEq (jJ fIx (jF 1) (xEC (.int 0))) (xEC (.str "number")))) (yX (jJ yO (jJ yO (zU (jC (xEC (.str "number")) jK)) (xECB kJ (jC (jF 3) jK))) (zU (jC (xECB kJ (jC (jF 7) jK)) jK)))) zH)
 (yX (jJ yO (jJ yO (zU (jC (jJ fIx (jF 1) (xEC (.int 0))) jK)) (xECB kJ (jC (jF 3) jK))) (xECB kJ (jC (jF 7) jK)))))))))
theorem yQE {α:Type} (a:α) (rs ks:List α):jAY (a :: rs++ks) (some 1) (some (1+((rs.length:Nat):Int)))=rs:=by
 unfold jAY
 have e1:HT.sIx (a :: rs++ks).length 0 (some 1)=1:=by
  unfold HT.sIx
  simp only [List.cons_append,List.length_cons,List.length_append]
  split <;> omega
 have e2:HT.sIx (a :: rs++ks).length (a :: rs++ks).length (some (1+((rs.length:Nat):Int)))=rs.length+1:=by
  unfold HT.sIx
  simp only [List.cons_append,List.length_cons,List.length_append]
  split <;> omega
 rw [e1,e2]
 show ((rs++ks).take (rs.length+1 - 1))=rs
 rw [Nat.add_sub_cancel,List.take_left]
def jLO (a:Str) (rs ks:List Str):PV:=if a = "number" then .tup (.str "number" :: (rs.map jCB++[.tup (ks.map jBO)])) else .tup (.str a :: (rs.map jCB++ks.map jBO))
theorem jQJ {PF:Fl→S→Prop} {E:PV→S→Prop} {h:AH} {a t:Str} {rs ks:List Str}
  (hok:(∀ (i:Nat) w,rs[i]?=some w→okR a i w=true)→(∀ w∈ks,keyB (jBO w)=true)→∀ e,PF (.rt (jLO a rs ks)) ⟨e,h⟩)
  (hb1:(∃ (i:Nat) (w:Str),rs[i]?=some w∧okR a i w=false)→∀ e,PF (.rt .non) ⟨e,h⟩)
  (hb2:(∃ w∈ks,keyB (jBO w)=false)→∀ e,PF (.rt .non) ⟨e,h⟩) (hk:∀ w∈ks,TOk w) (hz:rs.length < 500) (hz2:ks.length < 500) :
  (yQO ⟨[some (.str t),some (.lst ((a :: rs++ks).map .str)),some (.int (rs.length:Nat)),none,none,none,none,none,none,none,none,none],h⟩).post PF E:=by
 unfold yQO
 have ea:∀ h,yO h (.int 1) (.int (rs.length:Nat))=some (.int (1+(rs.length:Nat))):=fun h=>rfl
 have sl:∀ h,fSl h (.lst ((a :: rs++ks).map PV.str)) (some 1) (some (1+((rs.length:Nat):Int)))=some (.lst (rs.map PV.str)):=fun h=>by
  show some (PV.lst (jAY ((a :: rs++ks).map PV.str) (some 1) (some (1+((rs.length:Nat):Int)))))=_
  have:=yQE (PV.str a) (rs.map PV.str) (ks.map PV.str)
  rw [List.length_map] at this
  rw [List.map_append,List.map_cons,this]
 refine yS (zK (jAX (jBW (α:=Str) (jDB (jCW (jQ rfl (vQ (p_c ⟨_,rfl,vQ (yC (p_c (jQ rfl ⟨_,ea _,_,rfl,⟨_,sl _,⟨_,rfl,rfl,rs,PV.str,jCB,rfl,fun w _=>⟨jXO w,_,rfl,rfl,?_⟩,?_⟩⟩⟩)))⟩))))))))
 ·refine zN (uO (yC (jQ rfl (p_c ⟨_,jBJ,_,rfl,zW (fun hd=>?_) fun hd=>?_⟩))))
  ·have e:jCB w=.non:=by unfold jCB; rw [if_pos (of_decide_eq_true hd)]
   rw [e]
   exact p_c ⟨rfl,rfl,rfl⟩
  ·have e:jCB w=wO w:=by unfold jCB; rw [if_neg (of_decide_eq_false hd)]
   rw [e]
   refine yP (jP (jQ rfl (yF ⟨⟨rfl,rfl⟩,jX jYS fun v h2 z=>?_⟩)))
   obtain ⟨rfl,rfl⟩:=z
   exact ⟨rfl,rfl,rfl⟩
 refine ⟨rfl,?_⟩
 dsimp only [jU,List.set_cons_succ,List.set_cons_zero,List.foldl]
 refine yS (yLG (fun hr y4 y5 y6=>?_) hb1 (by omega))
 refine yS (jTN (jKU (yF ⟨⟨rfl,Nat.zero_le _⟩,?_⟩)))
 dsimp only [List.set_cons_succ,List.set_cons_zero]
 refine yS (yMD (fun hkk y8 y9 y10 y11=>?_) hb2 hk (by omega))
 have i0:∀ h,fIx h (.lst ((a :: rs++ks).map PV.str)) (.int 0)=some (.str a):=fun h=>jIV (i:=0) rfl
 have at1:∀ {h:AH} {xs ys:List PV},xs.length+ys.length < 2000→yO h (.tup xs) (.tup ys)=some (.tup (xs++ys)):=fun {h xs ys} q=>by
  show (if xs.length+ys.length≤sizeLine then _ else _)=_
  rw [if_pos (by rw [sizeLine_eq]; omega)]
 have hfin:=hok hr hkk
 refine yS (uI (uO (yC (yC (jQ rfl (p_c ⟨_,i0 _,p_c ⟨_,jBJ,_,rfl,zW (fun hn=>?_) fun hn=>?_⟩⟩))))))
 ·have ef:jLO a rs ks=.tup (.str "number" :: (rs.map jCB++[.tup (ks.map jBO)])):=by unfold jLO; rw [if_pos (of_decide_eq_true hn)]
  rw [ef] at hfin
  refine vM (yC (yC (kW (jP (p_c (yF ⟨⟨rfl,Nat.le_of_ble_eq_true rfl⟩,?_⟩))))))
  refine qT (jP (jQ rfl (yF ⟨_,rfl,_,at1 (by rw [List.length_map]; show 1+_ < _; omega),?_⟩)))
  refine kW (jP (qT (jP (jQ rfl (yF ⟨_,rfl,yF ⟨⟨rfl,Nat.le_of_ble_eq_true rfl⟩,_,at1 (by rw [List.length_append,List.length_map]; show 1+_+1 < _; omega),rfl,?_⟩⟩)))))
  exact hfin _
 ·have ef:jLO a rs ks=.tup (.str a :: (rs.map jCB++ks.map jBO)):=by unfold jLO; rw [if_neg (of_decide_eq_false hn)]
  rw [ef] at hfin
  refine vL (vM (yC (yC (kW (jP (yC (jQ rfl (p_c ⟨_,i0 _,yF ⟨⟨rfl,Nat.le_of_ble_eq_true rfl⟩,?_⟩⟩))))))))
  refine qT (jP (jQ rfl (yF ⟨_,rfl,_,at1 (by rw [List.length_map]; show 1+_ < _; omega),?_⟩)))
  refine qT (jP (jQ rfl (yF ⟨_,rfl,_,at1 (by rw [List.length_append,List.length_map,List.length_map]; show 1+_+_ < _; omega),rfl,?_⟩)))
  exact hfin _
def jCX (ws:List Str):PV:=if jDC (inV ws)=true then inV ws else .non
theorem w4:wIn "strike" = true∧wIn "back" = true∧wIn "drop" = false∧wIn "number" = false∧jCT "drop" = true∧jCT "number" = false∧jGJ "number" = true:=by
 refine ⟨?_,?_,?_,?_,?_,?_,?_⟩ <;> decide +kernel
theorem yAE (w:Str):wIn w=decide (w = "strike" ∨ w = "back"):=by
 show ((decide ("strike" = w))||((decide ("back" = w))||false))=_
 rw [Bool.or_false,← Bool.decide_or]
 exact decide_eq_decide.mpr ⟨fun h=>h.elim (fun e=>.inl e.symm) fun e=>.inr e.symm,fun h=>h.elim (fun e=>.inl e.symm) fun e=>.inr e.symm⟩
theorem yKJ (w:Str):jCT w=decide (w = "drop"):=jHF w "drop"
theorem yNJ (w:Str):jGJ w=decide (w = "number"):=jHF w "number"
theorem jYU {a:Str} {ps:List PV} (h:a∉(["drop", "number", "strike", "back"]:List Str)):jDC (.tup (.str a :: ps))=false:=by
 simp only [List.mem_cons,List.not_mem_nil,or_false,not_or] at h
 show cond (wIn a) (jRQ ps) (cond (jCT a) (jIR ps) (jGJ a&&jED ps))=false
 rw [yAE,yKJ,yNJ,decide_eq_false (by rintro (e | e); exact h.2.2.1 e; exact h.2.2.2 e),decide_eq_false h.1,decide_eq_false h.2.1]; rfl
theorem yPX {a:Str} {r:List Str} (h:a∉(["drop", "number", "strike", "back"]:List Str)):jCX (a :: r)=.non:=by
 have hn:a ≠ "number" := by
  simp only [List.mem_cons,List.not_mem_nil,or_false,not_or] at h
  exact h.2.1
 have:jDC (inV (a :: r))=false:=by
  match r with
  | []=>rfl
  | [b]=>exact jYU h
  | b :: c :: r =>
   have e5:inV (a :: b :: c :: r)=jOR a b c r:=by
    show (if a = "number" then _ else _)=_
    rw [if_neg hn]
   rw [e5]
   match r with
   | [d,e]=>exact jYU h
   | []=>rfl
   | [d]=>rfl
   | d :: e :: f :: g=>rfl
 unfold jCX
 rw [this]; rfl
theorem yKV {w:Str}:jDH (yJ w)=jDH (jCB w):=by
 unfold yJ jCB
 split
 ·rfl
 ·split
  ·rfl
  ·rename_i h
   rw [show jDH (wO w)=false by simpa using h]; rfl
theorem jMF {v:PV} (h:jDH v=true):uN v=true:=by
 cases v <;> first | exact h | exact absurd h Bool.false_ne_true
theorem yDP {w:Str}:uN (yJ w)=(decide (w = "-")||jDH (jCB w)):=by
 unfold yJ jCB
 split
 ·rename_i h
  rw [decide_eq_true h]; rfl
 ·rename_i h
  rw [decide_eq_false h,Bool.false_or]
  split
  ·rename_i h2
   rw [h2]
   exact jMF h2
  ·rename_i h2
   rw [show jDH (wO w)=false by simpa using h2]; rfl
theorem jGP {w:Str} (h:uN (yJ w)=true):yJ w=jCB w:=by
 unfold yJ jCB at *
 split
 ·rfl
 ·rename_i hd
  rw [if_neg hd] at h
  split
  ·rfl
  ·rename_i h2
   rw [if_neg h2] at h
   cases h
theorem jYH {w:Str}:keyB (keyV w)=keyB (jBO w):=by
 unfold keyV
 split
 ·rfl
 ·rename_i h
  rw [show keyB (jBO w)=false by simpa using h]; rfl
theorem jUN {w:Str} (h:keyB (jBO w)=true):keyV w=jBO w:=by
 unfold keyV
 rw [if_pos h]
theorem yEB {i:Nat} {w:Str}:okR "number" i w=uN (yJ w):=by
 rw [yDP]
 unfold okR
 rw [decide_eq_true rfl]; simp
theorem jPJ {a:Str} {i:Nat} {w:Str} (ha:a ≠ "number"):okR a i w=if i=0 then jDH (yJ w) else uN (yJ w):=by
 rw [yDP,yKV]
 unfold okR
 rw [decide_eq_false ha]
 by_cases hi:i=0
 ·subst hi; simp
 ·rw [if_neg hi,decide_eq_false hi]; simp
theorem yXA:("drop" : Str) ≠ "number" ∧ ("strike" : Str) ≠ "number" ∧ ("back" : Str) ≠ "number" := by decide +kernel
theorem yNA {r:List Str}:((r.map keyV).map keyB).all (fun b=>b)=r.all fun w=>keyB (jBO w):=by
 rw [List.map_map,List.all_map]
 congr 1
 funext w
 exact jYH
theorem jMH {a b c:Str} {r:List Str}:inV (a :: b :: c :: r)=if a = "number" then .tup [.str "number", yJ b,yJ c,.tup (r.map keyV)] else jOR a b c r:=rfl
theorem yPZ {b c:Str} {r:List Str} (hr:r.length≤40):jCX ("number" :: b :: c :: r)=if (uN (yJ b)&&(uN (yJ c)&&r.all fun w=>keyB (jBO w)))=true then jLO "number" [b,c] r else .non:=by
 have e1:inV ("number" :: b :: c :: r)=.tup [.str "number", yJ b,yJ c,.tup (r.map keyV)]:=by
  rw [jMH,if_pos rfl]
 have e2:jDC (inV ("number" :: b :: c :: r))=(uN (yJ b)&&(uN (yJ c)&&r.all fun w=>keyB (jBO w))):=by
  rw [e1]
  show cond (wIn "number") (jRQ [yJ b,yJ c,.tup (r.map keyV)]) (cond (jCT "number") (jIR [yJ b,yJ c,.tup (r.map keyV)]) (jGJ "number" && (uN (yJ b)&&(uN (yJ c)&&(decide (((r.map keyV).length:Int)≤40)&&((r.map keyV).map keyB).all fun b=>b)))))=_
  rw [w4.2.2.2.1,w4.2.2.2.2.2.1,w4.2.2.2.2.2.2,yNA,decide_eq_true (by rw [List.length_map]; omega),Bool.true_and]; rfl
 unfold jCX
 rw [e2]
 split
 ·rename_i h
  obtain ⟨h1,h⟩:=Bool.and_eq_true_iff.mp h
  obtain ⟨h2,h3⟩:=Bool.and_eq_true_iff.mp h
  rw [e1]
  unfold jLO
  rw [if_pos rfl,jGP h1,jGP h2,List.map_congr_left (fun w hw=>jUN (List.all_eq_true.mp h3 w hw))]
  rfl
 ·rfl
theorem yMN {b c d e:Str}:jCX ["drop", b,c,d,e]=if (jDH (yJ b)&&(uN (yJ c)&&(uN (yJ d)&&keyB (jBO e))))=true then jLO "drop" [b,c,d] [e] else .non:=by
 have e1:inV ["drop", b,c,d,e]=.tup [.str "drop", yJ b,yJ c,yJ d,keyV e]:=by
  rw [jMH,if_neg yXA.1]; rfl
 have e2:jDC (inV ["drop", b,c,d,e])=(jDH (yJ b)&&(uN (yJ c)&&(uN (yJ d)&&keyB (jBO e)))):=by
  rw [e1]
  show cond (wIn "drop") (jRQ [yJ b,yJ c,yJ d,keyV e]) (cond (jCT "drop") (jDH (yJ b)&&(uN (yJ c)&&(uN (yJ d)&&keyB (keyV e)))) (jGJ "drop" && jED [yJ b,yJ c,yJ d,keyV e]))=_
  rw [w4.2.2.1,w4.2.2.2.2.1,jYH]; rfl
 unfold jCX
 rw [e2]
 split
 ·rename_i h
  obtain ⟨h1,h⟩:=Bool.and_eq_true_iff.mp h
  obtain ⟨h2,h⟩:=Bool.and_eq_true_iff.mp h
  obtain ⟨h3,h4⟩:=Bool.and_eq_true_iff.mp h
  rw [e1]
  unfold jLO
  rw [if_neg yXA.1,jGP (jMF h1),jGP h2,jGP h3,jUN h4]
  rfl
 ·rfl
theorem yPY {a b:Str} (ha:a = "strike" ∨ a = "back"):jCX [a,b]=if jDH (yJ b)=true then jLO a [b] [] else .non:=by
 have hn:a ≠ "number" := by rcases ha with rfl | rfl; exact yXA.2.1; exact yXA.2.2
 have e2:jDC (inV [a,b])=jDH (yJ b):=by
  show cond (wIn a) (jDH (yJ b)) (cond (jCT a) (jIR [yJ b]) (jGJ a&&jED [yJ b]))=_
  rw [yAE,decide_eq_true ha]; rfl
 unfold jCX
 rw [e2]
 split
 ·rename_i h
  show PV.tup [.str a,yJ b]=_
  unfold jLO
  rw [if_neg hn,jGP (jMF h)]; rfl
 ·rfl
theorem jMD {a:Str} {r:List Str} (h:(a = "number" ∧ r.length < 2)∨(a = "drop" ∧ r.length≠4)∨((a = "strike" ∨ a = "back")∧r.length≠1)):jCX (a :: r)=.non:=by
 have fin:jDC (inV (a :: r))=false→jCX (a :: r)=.non:=fun q=>by unfold jCX; rw [q]; rfl
 refine fin ?_
 have f5:∀ {b c:Str} {g:List Str},a ≠ "number" → inV (a :: b :: c :: g)=jOR a b c g:=fun {b c g} hn=>by
  show (if a = "number" then _ else _)=_
  rw [if_neg hn]
 rcases h with ⟨rfl,h⟩ | ⟨rfl,h⟩ | ⟨ha,h⟩
 ·match r,h with
  | [],_=>rfl
  | [b],_ =>
   show cond (wIn "number") (jRQ [yJ b]) (cond (jCT "number") (jIR [yJ b]) (jGJ "number" && jED [yJ b]))=false
   rw [w4.2.2.2.1,w4.2.2.2.2.2.1,w4.2.2.2.2.2.2]; rfl
  | b :: c :: g,h=>simp at h; omega
 ·match r,h with
  | [],_=>rfl
  | [b],_ =>
   show cond (wIn "drop") (jRQ [yJ b]) (cond (jCT "drop") (jIR [yJ b]) (jGJ "drop" && jED [yJ b]))=false
   rw [w4.2.2.1,w4.2.2.2.2.1]; rfl
  | b :: c :: g,h =>
   rw [f5 yXA.1]
   match g,h with
   | [d,e],h=>exact absurd rfl h
   | [],_=>rfl
   | [d],_=>rfl
   | d :: e :: f :: g,_=>rfl
 ·have hn:a ≠ "number" := by rcases ha with rfl | rfl; exact yXA.2.1; exact yXA.2.2
  match r,h with
  | [],_=>rfl
  | [b],h=>exact absurd rfl h
  | b :: c :: g,h =>
   rw [f5 hn]
   match g,h with
   | [d,e],h =>
    show cond (wIn a) (jRQ [yJ b,yJ c,yJ d,keyV e]) (cond (jCT a) (jIR [yJ b,yJ c,yJ d,keyV e]) (jGJ a&&jED [yJ b,yJ c,yJ d,keyV e]))=false
    rw [yAE,decide_eq_true ha]; rfl
   | [],_=>rfl
   | [d],_=>rfl
   | d :: e :: f :: g,_=>rfl
end
end LW
set_option maxHeartbeats 4000000
namespace LW
open PySem PySem.Spec PyProof.Rows L2 Lp TL
section
def lsV (t:Bool) (xs:List PV):PV:=if t then .tup xs else .lst xs
theorem yXH {l:List Str} {h:AH} {w:Str} (t:Bool):fIn h (.str w) (lsV t (l.map .str))=some (.bl (decide (w∈l)))∧jOZ h (.str w) (lsV t (l.map .str))=some (.bl (!decide (w∈l))):=by
 have e1:toDs (l.map PV.str)=some (l.map PyData.str):=jGM PV.str PyData.str (fun _=>rfl) _
 have e3:∀ d∈l.map PyData.str,d.depth≤1:=fun d hd=>by
  obtain ⟨z,_,rfl⟩:=List.mem_map.mp hd
  simp [PyData.depth]
 have e4:(l.map PyData.str).any (fun z=>PyData.eqv z (.str w))=decide (w∈l):=by
  rw [List.any_map]
  clear e1 e3
  induction l with
  | nil=>rfl
  | cons y ys ih =>
   rw [List.any_cons,ih]
   show (PyData.eqv (.str y) (.str w)||_)=_
   rw [jHF]
   by_cases h:y=w
   ·subst h; simp
   ·have h2:¬ w=y:=fun z=>h z.symm
    simp [h,h2]
 have e5:jEW h (.str w)=some (.str w):=rfl
 have o1:dOk (.str w)=true:=by simp [dOk,PyData.depth]
 cases t with
 | false =>
  have e2:jEW h (.lst (l.map PV.str))=some (.list (l.map PyData.str)):=by
   show (toDs _).map _=_
   rw [e1]; rfl
  have o2:dOk (.list (l.map PyData.str))=true:=jJA (n:=1) e3 (by decide)
  refine ⟨?_,?_⟩
  ·show (none:Option PV).or (jKF false h (.str w) (.lst (l.map PV.str)))=_
   rw [Option.none_or]
   unfold jKF
   rw [e5,e2]
   simp only [o1,o2,Bool.and_self,if_true,e4,Bool.false_xor]
  ·show (none:Option PV).or (jKF true h (.str w) (.lst (l.map PV.str)))=_
   rw [Option.none_or]
   unfold jKF
   rw [e5,e2]
   simp only [o1,o2,Bool.and_self,if_true,e4,Bool.true_xor]
 | true =>
  have e2:jEW h (.tup (l.map PV.str))=some (.tuple (l.map PyData.str)):=by
   show (toDs _).map _=_
   rw [e1]; rfl
  have o2:dOk (.tuple (l.map PyData.str))=true:=decide_eq_true (by
   have:=of_decide_eq_true (jJA (n:=1) e3 (by decide))
   simp only [PyData.depth] at this ⊢
   exact this)
  refine ⟨?_,?_⟩
  ·show (none:Option PV).or (jKF false h (.str w) (.tup (l.map PV.str)))=_
   rw [Option.none_or]
   unfold jKF
   rw [e5,e2]
   simp only [o1,o2,Bool.and_self,if_true,e4,Bool.false_xor]
  ·show (none:Option PV).or (jKF true h (.str w) (.tup (l.map PV.str)))=_
   rw [Option.none_or]
   unfold jKF
   rw [e5,e2]
   simp only [o1,o2,Bool.and_self,if_true,e4,Bool.true_xor]
theorem nin4 {h:AH} {a:Str}:jOZ h (.str a) (.lst [.str "drop", .str "number", .str "strike", .str "back"])=some (.bl (!decide (a∈(["drop", "number", "strike", "back"]:List Str)))):=(yXH (l:=["drop", "number", "strike", "back"]) false).2
theorem jSZ {s:Str} {h:AH} (k:TOk s) (hn:(spW s).length≤43):(vC [.str s] h).post (fun v h'=>v=jCX (spW s)∧h'=h) NE:=by
 have kw:∀ w∈spW s,TOk w:=fun w hw=>yAJ k hw
 have kl:=(jUC k).1
 have hs:=jPZ k (h:=h)
 unfold vC
 rw [jOJ]
 unfold jGX
 refine wV [some (.str s),none,none,none,none,none,none,none,none,none,none,none] rfl ?_
 refine yS (zK (jKE (jQ rfl ⟨s,rfl,jP (p_c (yF ⟨_,jPZ k,rfl,?_⟩))⟩)))
 dsimp only [List.set_cons_succ,List.set_cons_zero]
 generalize spW s=ws at *
 obtain ⟨a,r,rfl⟩:∃ a r,ws=a :: r:=by
  cases ws with
  | nil=>exact absurd kl (by decide)
  | cons a r=>exact ⟨a,r,rfl⟩
 have i0:∀ h,fIx h (.lst ((a :: r).map PV.str)) (.int 0)=some (.str a):=fun h=>jIV (i:=0) rfl
 have ll:∀ h,vP h [.lst ((a :: r).map PV.str)]=some (.int (r.length+1:Nat)):=fun h=>by
  show some (PV.int (((a :: r).map PV.str).length:Nat))=_
  rw [List.length_map]; rfl
 refine yS (uI (uO (yC (yC (jQ rfl (p_c ⟨_,i0 _,qU (jP (p_c (jP (p_c (jP (p_c (jP (p_c (yF ⟨⟨rfl,Nat.le_of_ble_eq_true rfl⟩,_,nin4,_,rfl,zW (fun hin=>?_) fun hin=>?_⟩)))))))))⟩))))))
 ·have hin:a∉(["drop", "number", "strike", "back"]:List Str):=by simpa using hin
  rw [yPX hin]
  exact vM (p_c ⟨rfl,rfl,rfl⟩)
 have hin:a∈(["drop", "number", "strike", "back"]:List Str):=Decidable.byContradiction fun z=>by
  rw [decide_eq_false z] at hin
  cases hin
 refine vL ?_
 have fal:∀ {x y:Str},x≠y→decide (x=y)=false:=fun q=>decide_eq_false q
 have tru':∀ {x:Str},decide (x=x)=true:=fun {x}=>decide_eq_true rfl
 by_cases hnum:a = "number"
 ·subst hnum
  refine yS (zK (zN (uO (yC (yC (jQ rfl (p_c ⟨_,i0 _,p_c ⟨_,jBJ,_,rfl,?_⟩⟩)))))))
  rw [tru']
  refine vR rfl (p_c ⟨rfl,?_⟩)
  dsimp only [List.set_cons_succ,List.set_cons_zero]
  refine yS (uI (wA (uO (yC (qT (jP (jQ rfl (yF ⟨_,ll _,yC (p_c (jQ rfl ⟨_,rfl,_,rfl,_,rfl,zW (fun hl=>?_) fun hl=>?_⟩))⟩))))))))
  ·have hl:decide (((r.length+1:Nat):Int) < 1+2)=true:=hl
   have hl:=of_decide_eq_true hl
   rw [jMD (.inl ⟨rfl,by omega⟩)]
   exact vR rfl (vM (p_c ⟨rfl,rfl,rfl⟩))
  ·have hl:decide (((r.length+1:Nat):Int) < 1+2)=false:=hl
   have hl:=of_decide_eq_false hl
   obtain ⟨b,c,g,rfl⟩:∃ b c g,r=b :: c :: g:=by
    match r,hl with
    | b :: c :: g,_=>exact ⟨b,c,g,rfl⟩
    | [],z=>exact absurd (show ((0+1:Nat):Int) < 1+2 by decide) z
    | [b],z=>exact absurd (show ((1+1:Nat):Int) < 1+2 by decide) z
   refine wA (uW (uO (yC (yC (jQ rfl (p_c ⟨_,i0 _,p_c ⟨_,jBJ,_,rfl,?_⟩⟩))))))
   rw [fal (Ne.symm yXA.1)]
   refine vX rfl (vX rfl (uW (uO (yC (jQ rfl (p_c ⟨_,rfl,_,rfl,vX rfl (vX rfl (vL ?_))⟩))))))
   have hg:g.length≤40:=by simp at hn; omega
   have du:=yPZ (b:=b) (c:=c) hg
   refine jQJ (a := "number") (rs:=[b,c]) (ks:=g) (fun hr hk e=>?_) (fun hb e=>?_) (fun hb e=>?_) (fun w hw=>kw w (by simp [hw])) (Nat.le_of_ble_eq_true rfl) (by omega)
   ·show jLO "number" [b,c] g=jCX _∧_
    have h1:=hr 0 b rfl
    have h2:=hr 1 c rfl
    rw [yEB] at h1 h2
    rw [du,h1,h2,List.all_eq_true.mpr hk]
    exact ⟨rfl,rfl⟩
   ·show PV.non=jCX _∧_
    obtain ⟨i,w,hi,hw⟩:=hb
    rw [yEB] at hw
    have:w=b∨w=c:=by
     have:=List.mem_of_getElem? hi
     simpa using this
    rw [du]
    rcases this with rfl | rfl
    ·rw [hw]; exact ⟨rfl,rfl⟩
    ·rw [hw,Bool.false_and,Bool.and_false]; exact ⟨rfl,rfl⟩
   ·show PV.non=jCX _∧_
    obtain ⟨w,hm,hw⟩:=hb
    have:(g.all fun w=>keyB (jBO w))=false:=by
     rw [Bool.eq_false_iff]
     intro z
     rw [List.all_eq_true.mp z w hm] at hw
     cases hw
    rw [du,this,Bool.and_false,Bool.and_false]
    exact ⟨rfl,rfl⟩
 ·refine yS (zK (zN (uO (yC (yC (jQ rfl (p_c ⟨_,i0 _,p_c ⟨_,jBJ,_,rfl,?_⟩⟩)))))))
  rw [fal hnum]
  refine vX rfl (zN (uO (yC (yC (jQ rfl (p_c ⟨_,i0 _,p_c ⟨_,jBJ,_,rfl,?_⟩⟩))))))
  by_cases hdr:a = "drop"
  ·subst hdr
   rw [tru']
   refine vR rfl (p_c ⟨rfl,?_⟩)
   dsimp only [List.set_cons_succ,List.set_cons_zero]
   refine yS (uI (wA (uO (yC (qT (jP (jQ rfl (yF ⟨_,ll _,yC (p_c (jQ rfl ⟨_,rfl,_,rfl,_,rfl,zW (fun hl=>?_) fun hl=>?_⟩))⟩))))))))
   ·have hl:decide (((r.length+1:Nat):Int) < 1+3)=true:=hl
    have hl:=of_decide_eq_true hl
    rw [jMD (.inr (.inl ⟨rfl,by omega⟩))]
    exact vR rfl (vM (p_c ⟨rfl,rfl,rfl⟩))
   ·refine wA (uW (uO (yC (yC (jQ rfl (p_c ⟨_,i0 _,p_c ⟨_,jBJ,_,rfl,?_⟩⟩))))))
    rw [tru']
    refine vR rfl (uO (yC (qT (jP (jQ rfl (yF ⟨_,ll _,p_c ⟨_,rfl,_,rfl,?_⟩⟩))))))
    rw [jCC]
    by_cases h5:((r.length+1:Nat):Int)=5
    ·rw [decide_eq_true h5]
     obtain ⟨b,c,d,e,rfl⟩:∃ b c d e,r=[b,c,d,e]:=by
      match r,h5 with
      | [b,c,d,e],_=>exact ⟨b,c,d,e,rfl⟩
      | [],z=>exact absurd z (by decide)
      | [b],z=>exact absurd z (by simp)
      | [b,c],z=>exact absurd z (by simp)
      | [b,c,d],z=>exact absurd z (by simp)
      | b :: c :: d :: e :: f :: g,z=>simp at z; omega
     refine vX rfl (uW (uO (yC (jQ rfl (p_c ⟨_,rfl,_,rfl,vX rfl (vX rfl (vL ?_))⟩)))))
     have du:=yMN (b:=b) (c:=c) (d:=d) (e:=e)
     have o0:=@jPJ "drop" 0 b yXA.1
     have o1:=@jPJ "drop" 1 c yXA.1
     have o2:=@jPJ "drop" 2 d yXA.1
     rw [if_pos rfl] at o0
     rw [if_neg (by decide)] at o1 o2
     refine jQJ (a := "drop") (rs:=[b,c,d]) (ks:=[e]) (fun hr hk e=>?_) (fun hb e=>?_) (fun hb e=>?_) (fun w hw=>kw w (by simp at hw; simp [hw])) (Nat.le_of_ble_eq_true rfl) (Nat.le_of_ble_eq_true rfl)
     ·show jLO "drop" [b,c,d] _=jCX _∧_
      have h1:=hr 0 b rfl
      have h2:=hr 1 c rfl
      have h3:=hr 2 d rfl
      rw [o0] at h1
      rw [o1] at h2
      rw [o2] at h3
      rw [du,h1,h2,h3,hk _ (List.mem_singleton.mpr rfl)]
      exact ⟨rfl,rfl⟩
     ·show PV.non=jCX _∧_
      obtain ⟨i,w,hi,hw⟩:=hb
      rw [du]
      match i,hi with
      | 0,hi =>
       cases hi
       rw [o0] at hw
       rw [hw]; exact ⟨rfl,rfl⟩
      | 1,hi =>
       cases hi
       rw [o1] at hw
       rw [hw,Bool.false_and,Bool.and_false]; exact ⟨rfl,rfl⟩
      | 2,hi =>
       cases hi
       rw [o2] at hw
       rw [hw,Bool.false_and,Bool.and_false,Bool.and_false]; exact ⟨rfl,rfl⟩
     ·show PV.non=jCX _∧_
      obtain ⟨w,hm,hw⟩:=hb
      rw [List.mem_singleton.mp hm] at hw
      rw [du,hw,Bool.and_false,Bool.and_false,Bool.and_false]
      exact ⟨rfl,rfl⟩
    ·rw [decide_eq_false h5,jMD (.inr (.inl ⟨rfl,by omega⟩))]
     exact vR rfl (vR rfl (vM (p_c ⟨rfl,rfl,rfl⟩)))
  ·have ha:a = "strike" ∨ a = "back" := by
    simp only [List.mem_cons,List.not_mem_nil,or_false] at hin
    rcases hin with z | z | z | z
    ·exact absurd z hdr
    ·exact absurd z hnum
    ·exact .inl z
    ·exact .inr z
   rw [fal hdr]
   refine vX rfl (p_c ⟨rfl,?_⟩)
   dsimp only [List.set_cons_succ,List.set_cons_zero]
   refine yS (uI (wA (uO (yC (qT (jP (jQ rfl (yF ⟨_,ll _,yC (p_c (jQ rfl ⟨_,rfl,_,rfl,_,rfl,zW (fun hl=>?_) fun hl=>?_⟩))⟩))))))))
   ·have hl:decide (((r.length+1:Nat):Int) < 1+1)=true:=hl
    have hl:=of_decide_eq_true hl
    rw [jMD (.inr (.inr ⟨ha,by omega⟩))]
    exact vR rfl (vM (p_c ⟨rfl,rfl,rfl⟩))
   ·refine wA (uW (uO (yC (yC (jQ rfl (p_c ⟨_,i0 _,p_c ⟨_,jBJ,_,rfl,?_⟩⟩))))))
    rw [fal hdr]
    refine vX rfl (vX rfl (uW (uO (yC (jQ rfl (p_c ⟨_,rfl,_,rfl,vR rfl ?_⟩))))))
    refine uO (yC (qT (jP (jQ rfl (yF ⟨_,ll _,p_c ⟨_,rfl,_,rfl,?_⟩⟩)))))
    rw [jCC]
    by_cases h2:((r.length+1:Nat):Int)=2
    ·rw [decide_eq_true h2]
     obtain ⟨b,rfl⟩:∃ b,r=[b]:=by
      match r,h2 with
      | [b],_=>exact ⟨b,rfl⟩
      | [],z=>exact absurd z (by decide)
      | b :: c :: g,z=>simp at z; omega
     refine vX rfl (vL ?_)
     have du:=yPY (b:=b) ha
     have o0:=@jPJ a 0 b hnum
     rw [if_pos rfl] at o0
     refine jQJ (a:=a) (rs:=[b]) (ks:=[]) (fun hr hk e=>?_) (fun hb e=>?_) (fun hb e=>?_) (fun w hw=>nomatch hw) (Nat.le_of_ble_eq_true rfl) (Nat.le_of_ble_eq_true rfl)
     ·show jLO a [b] []=jCX _∧_
      have h1:=hr 0 b rfl
      rw [o0] at h1
      rw [du,h1]
      exact ⟨rfl,rfl⟩
     ·show PV.non=jCX _∧_
      obtain ⟨i,w,hi,hw⟩:=hb
      match i,hi with
      | 0,hi =>
       cases hi
       rw [o0] at hw
       rw [du,hw]; exact ⟨rfl,rfl⟩
     ·obtain ⟨w,hm,_⟩:=hb
      cases hm
    ·rw [decide_eq_false h2,jMD (.inr (.inr ⟨ha,by omega⟩))]
     exact vR rfl (vM (p_c ⟨rfl,rfl,rfl⟩))
end
end LW
set_option maxHeartbeats 4000000
namespace LW
open PySem PySem.Spec PyProof.Rows L2 Lp
-- 

structure Mo where
 ks:List (List Int)
 sh:List Bool
inductive De where
 | drop (row:Nat) (l r:Option Nat) (k:List Int)
 | num (l r:Option Nat) (ks:List (List Int))
 | strike (row:Nat)
 | back (row:Nat)
structure An where
 lt:Nat
 wd:Nat
 lk:List Bool
structure Sc where
 fo:List (De × Nat)
 an:List An
 mo:List Mo
def sdP:Option Nat→PV
 | none=>.non
 | some n=>.int n
def okV:Option (List Int)→PV
 | none=>.non
 | some k=>kP k
def deP:De→PV
 | .drop w l r k=>.tup [.str "drop", .int w,sdP l,sdP r,kP k]
 | .num l r ks=>.tup [.str "number", sdP l,sdP r,.tup (ks.map kP)]
 | .strike w=>.tup [.str "strike", .int w]
 | .back w=>.tup [.str "back", .int w]
def foP (p:De × Nat):PV:=.tup [deP p.1,.int p.2]
def lnP (l:List Nat):PV:=.lst (l.map fun (n:Nat)=>.int n)
theorem ixL {h:AH} {xs:List PV} {n:Nat} {z:PV} (e:xs[n]?=some z):fIx h (.lst xs) (.int n)=some z:=by rw [yPS]; exact jIV e
theorem yCY {α:Type} {f:α→PV} {l:List α} {n:Nat} {a:α} (e:l[n]?=some a):(l.map f)[n]?=some (f a):=by rw [List.getElem?_map,e]; rfl
theorem yTP (d:De):isOwn (deP d)=false:=by cases d <;> rfl
theorem jEG (d:Option Nat):isOwn (sdP d)=false:=by cases d <;> rfl
theorem jNO (d:Option (List Int)):isOwn (okV d)=false:=by cases d <;> rfl
def jBP (m:Mo):Option Nat→Option (List Int)
 | none=>none
 | some n=>m.ks[n]?
def SdOk (m:Mo) (r:Option Nat):Prop:=∀ n,r=some n→n < m.ks.length
theorem yVE (l:List Nat):toDs (l.map fun (n:Nat)=>PV.int n)=some (l.map fun (n:Nat)=>PyData.int n):=jGM _ _ (fun _=>rfl) l
theorem jYC:∀ l:List Nat,PyData.depthAll (l.map fun (n:Nat)=>PyData.int n)≤1
 | []=>by simp [PyData.depthAll]
 | n :: l=>by
  have:=jYC l
  simp only [List.map_cons,PyData.depthAll,PyData.depth]
  omega
theorem yJQ (l:List Nat):dOk (.list (l.map fun (n:Nat)=>PyData.int n))=true:=by
 have:=jYC l
 exact decide_eq_true (by simp only [PyData.depth]; omega)
def plF:List Nat→Nat→Option Nat
 | [],_=>none
 | a :: r,x=>if a=x then some 0 else (plF r x).map (·+1)
theorem yJW (a b:Nat):PyData.eqv (.int (a:Int)) (.int (b:Int))=decide (a=b):=by
 rw [jCC]
 by_cases e:a=b
 ·rw [decide_eq_true e,e,decide_eq_true rfl]
 ·rw [decide_eq_false e]; exact decide_eq_false fun z=>e (Int.ofNat.inj z)
theorem jXU (x:Nat):∀ l:List Nat,jNN (l.map fun (n:Nat)=>PyData.int n) (.int x)=plF l x
 | []=>rfl
 | a :: r=>by
  have ih:=jXU x r
  unfold jNN at ih ⊢
  rw [List.map_cons,List.findIdx?_cons,yJW,ih]
  show _=if a=x then some 0 else (plF r x).map (·+1)
  by_cases e:a=x
  ·rw [decide_eq_true e,if_pos rfl,if_pos e]
  ·rw [decide_eq_false e,if_neg Bool.false_ne_true,if_neg e]
theorem yCZ {l:List Nat} {x j:Nat} (e:plF l x=some j):toDs (l.map fun (n:Nat)=>PV.int n)=some (l.map fun (n:Nat)=>PyData.int n)∧toD (.int x)=some (.int x)∧(dOk (.list (l.map fun (n:Nat)=>PyData.int n))&&dOk (.int x))=true∧jNN (l.map fun (n:Nat)=>PyData.int n) (.int x)=some j :=
 ⟨yVE l,rfl,by rw [yJQ]; rfl,by rw [jXU,e]⟩
def stF (l:List Nat):Option Nat→Option Nat
 | none=>some 0
 | some x=>(plF l x).map (·+1)
def enF (l:List Nat):Option Nat→Option Nat
 | none=>some l.length
 | some x=>plF l x
def spF (l:List Nat):List (Option Nat):=none :: (l.map some++[none])
def bpF (l:List Nat) (k:Nat):Option Nat × Option Nat:=((spF l).getD k none,(spF l).getD (k+1) none)
def jPP (l:List Nat) (a b:Option Nat):Bool:=((List.range (l.length+1)).map (bpF l)).any fun q=>decide (q=(a,b))
def kY (ks:List (List Int)) (r:Nat):List Int:=ks.getD r []
def leR (ks:List (List Int)) (a b:Nat):Bool:=!HT.lexLt (kY ks b) (kY ks a)
def yID (m:Mo) (w:Bool):List Nat:=(List.range m.ks.length).filter fun r=>w||m.sh.getD r false
def yW (m:Mo) (w:Bool):List Nat:=zV (leR m.ks) (yID m w)
structure MoOk (m:Mo):Prop where
 len:m.sh.length=m.ks.length
 ne:∀ k∈m.ks,k≠[]
 sz:m.ks.length≤100
theorem yMF {ks:List (List Int)} {r:Nat} (h:r < ks.length):ks[r]?=some (kY ks r):=by
 unfold kY
 rw [List.getD_eq_getElem?_getD,List.getElem?_eq_getElem h]; rfl
structure ScOk (s:Sc):Prop where
 an:∀ a∈s.an,TrC a.wd∧a.lt < s.fo.length
 mo:∀ m∈s.mo,MoOk m
 ne:s.mo≠[]
 z1:s.fo.length≤100
 z2:s.an.length≤100
 z3:s.mo.length≤101
theorem jHF (a b:Str):PyData.eqv (.str a) (.str b)=decide (a=b):=rfl
def jRS:De→List (List Int)
 | .drop _ _ _ k=>[k]
 | .num _ _ ks=>ks
 | _=>[]
def hU (h:AH) (U:List (List Int)):AH:=h++[some (.dic (yXJ U))]
def ksN (s:Sc):Nat:=(s.mo.flatMap (·.ks)).length+(s.fo.flatMap fun p=>jRS p.1).length
def SzK (lo:Option (List Int)):Prop:=∀ l,lo=some l→l.length≤100
theorem jLZ {m:Nat} {v:PV} (hv:v∈(List.range (Int.toNat (m:Int))).map fun (k:Nat)=>PV.int k):∃ a:Nat,v=.int a:=by
 obtain ⟨a,_,rfl⟩:=List.mem_map.mp hv
 exact ⟨a,rfl⟩
theorem yIM {h:AH} {k:List Int} {n:Nat} {z:Int} (e:k[n]?=some z):fIx h (kP k) (.int (n:Nat))=some (.int z):=by
 show fIx h (.tup (k.map .int)) (.int (n:Nat))=_
 rw [yER]
 exact jIV (i:=n) (by rw [List.getElem?_map,e]; rfl)
theorem yWR {h:AH} {k:List Int} {n:Nat}:fSl h (kP k) none (some ((n:Nat):Int))=some (kP (k.take n)):=by
 show some (PV.tup (jAY (k.map PV.int) none (some ((n:Nat):Int))))=_
 unfold jAY kP
 rw [HT.sIx_nat,HT.sIx_none,List.drop_zero,Nat.sub_zero,List.length_map,← List.map_take]
 congr 3
 by_cases hn:n≤k.length
 ·rw [Nat.min_eq_left hn]
 ·rw [Nat.min_eq_right (by omega),List.take_length,List.take_of_length_le (by omega)]

def jWE (l:List Nat):Option Nat→Bool
 | none=>true
 | some n=>l.contains n
inductive Er where
 | noRow (r:Option Nat)
 | notBeside (l r:Option Nat)
 | invKey (k:List Int)
 | taken (k:List Int)
 | whole
 | invNum (n:Nat)
 | locked
 | many
 | badDeed
 | badSight (v:PV)
 | noLetter (v:PV)
def jIJ (l:List Nat):List (Option Nat)→Option Er
 | []=>none
 | a :: r=>if jWE l a=true then jIJ l r else some (.noRow a)
def jNL (U:List (List Int)):List (List Int)→Option Er
 | []=>none
 | k :: ks=>if U.contains k=true then some (.taken k) else jNL U ks
theorem jSK {U:List (List Int)}:∀ {ks:List (List Int)},(∀ k∈ks,U.contains k=false)→jNL U ks=none
 | [],_=>rfl
 | a :: r,hl=>by
  unfold jNL
  rw [if_neg (by rw [hl a (List.mem_cons_self ..)]; decide)]
  exact jSK fun k hk=>hl k (List.mem_cons_of_mem _ hk)
def jPS (s:Sc):List (List Int):=(s.mo.flatMap (·.ks))++s.fo.flatMap fun p=>jRS p.1
def yII (U ks:List (List Int)):Bool:=ks.all fun k=>!U.contains k
end LW
set_option maxHeartbeats 4000000
namespace LW
open PySem PySem.Spec PyProof.Rows L2 Lp
-- 

-- 

-- 

def b2 (b:Bool):Nat:=if b then 1 else 0
theorem jMY {h h1:AH} {n:Nat} {sl:Nat} {e0:List (Option PV)} {k:Nat} (hn:n < h.length) (b:BagAt h n h1) (hk:k≤1000) (hb:(jU e0 [sl])[0]?=some (some (.cel n))) (hb2:∀ v,((jU e0 [sl]).set sl (some v))[0]?=some (some (.cel n))) (hw:∀ v,jU ((jU e0 [sl]).set sl v) [sl]=jU e0 [sl]) :
  (vI (jFB (jC (xEC (.int k)) jK)) (.n sl) uR (yD 2 ofM (jC (jF 0) (jC (xEC (.str "ttrm")) jK))) [sl] ⟨e0,h1⟩).post (fun xs s'=>(∃ cs:List Nat,cs.length=k∧(∀ c∈cs,TrC c)∧xs=cs.map fun c=>.str (mkS [c]))∧s'.e=jU e0 [sl]∧BagAt h n s'.h) NE:=by
 refine jPI (jIT (jP (p_c (yF ⟨_,rfl,by omega,rfl,fun j acc hh=>(∃ cs:List Nat,cs.length=j∧(∀ c∈cs,TrC c)∧acc=cs.map fun c=>PV.str (mkS [c]))∧BagAt h n hh,⟨⟨[],rfl,fun c hc=>(nomatch hc),rfl⟩,b⟩,fun j v acc hh e i=>?_,fun acc hh i=>?_⟩))))
 ·obtain ⟨q,_,rfl⟩:=List.mem_map.mp (List.mem_of_getElem? e)
  obtain ⟨⟨cs,hl,hc,rfl⟩,bb⟩:=i
  refine ⟨_,rfl,yRM (vR rfl ?_)⟩
  refine yP (jP (jQ (hb2 _) (jP (p_c (yF ⟨⟨rfl,rfl⟩,jX (yTS hn bb (by decide) (by decide)) fun v h' z=>?_⟩)))))
  obtain ⟨⟨c,hc1,rfl⟩,b2⟩:=z
  refine ⟨rfl,hw _,⟨cs++[c],by rw [List.length_append,hl]; rfl,fun d hd=>?_,by rw [List.map_append]; rfl⟩,b2⟩
  rcases List.mem_append.mp hd with hd | hd
  ·exact hc d hd
  ·simp only [List.mem_singleton] at hd
   subst hd
   have hc1:d∈[116,116,114,109]:=hc1
   simp only [List.mem_cons,List.not_mem_nil,or_false] at hc1
   rcases hc1 with rfl | rfl | rfl | rfl
   ·exact .inl rfl
   ·exact .inl rfl
   ·exact .inr (.inl rfl)
   ·exact .inr (.inr rfl)
 ·obtain ⟨⟨cs,hl,hc,rfl⟩,bb⟩:=i
  exact ⟨⟨cs,by rw [hl]; simp,hc,rfl⟩,rfl,bb⟩
theorem jYK {h:AH} {cs:List Nat} {k:Nat} (hl:cs.length=k) (hk:k≤1000) (hc:∀ c∈cs,TrC c):jBR h "" [.lst (cs.map fun c=>.str (mkS [c]))]=some (.str (mkS cs)) :=
 yBV (by omega) fun c hc'=>by rcases hc c hc' with rfl | rfl | rfl <;> decide
theorem yQP {h:AH} {cs:List Nat} {k:Nat} (hl:cs.length=k) (hk:k≤1000):yO h (.str "t") (.str (mkS cs))=some (.str (mkS (116 :: cs))):=yPT (a:=[116]) (by show 1+cs.length≤sizeLine; have:=(show 1001≤sizeLine by decide); omega)
theorem yFT {h h1:AH} {n:Nat} (hn:n < h.length) (b:BagAt h n h1):(uM [.cel n] h1).post (fun v h'=>(∃ p:SpecW,p.Ok∧v=p.v)∧BagAt h n h') NE:=by
 unfold uM
 rw [jNC]
 unfold jGD
 rw [jUP,of_eq]
 refine wV [some (.cel n),none,none,none] rfl ?_
 refine yS (zK (yC (p_c (jKE (p_c ⟨_,rfl,jP (jAX ?_)⟩)))))
 refine jX (jMY hn b (by decide) rfl (fun _=>rfl) (fun _=>rfl)) fun xs s' z=>?_
 obtain ⟨⟨cs,hl,hc,rfl⟩,he,b1⟩:=z
 obtain ⟨e1,h2⟩:=s'
 simp only at he b1
 subst he
 refine yF ⟨_,jYK hl (by decide) hc,_,yQP hl (by decide),rfl,?_⟩
 dsimp only [jU,List.set_cons_succ,List.set_cons_zero]
 refine yS (zK (yC (p_c (jKE (p_c ⟨_,rfl,jP (jAX ?_)⟩)))))
 refine jX (jMY hn b1 (by decide) rfl (fun _=>rfl) (fun _=>rfl)) fun xs s' z=>?_
 obtain ⟨⟨ds,kl,kc,rfl⟩,he,b2⟩:=z
 obtain ⟨e1,h3⟩:=s'
 simp only at he b2
 subst he
 refine yF ⟨_,jYK kl (by decide) kc,_,yQP kl (by decide),rfl,?_⟩
 dsimp only [jU,List.set_cons_succ,List.set_cons_zero]
 (repeat walk_at "p1")
 refine jX (jME hn b2 (by decide) (by decide)) fun v h' z=>?_
 obtain ⟨⟨d,rfl,d0,d4⟩,b3⟩:=z
 (repeat walk_at "p1")
 refine jX (jME hn b3 (by decide) (by decide)) fun v h' z=>?_
 obtain ⟨⟨d',rfl,d0',d4'⟩,b4⟩:=z
 (repeat walk_at "p1")
 refine jX (yAQ hn b4 (by decide) (by decide) rfl) fun v h' z=>?_
 obtain ⟨hv,b5⟩:=z
 have hL:∃ l:Str,v=.str l∧LockS l:=by
  simp only [List.mem_cons,List.not_mem_nil,or_false] at hv
  rcases hv with rfl | rfl | rfl | rfl
  ·exact ⟨_,rfl,.inl rfl⟩
  ·exact ⟨_,rfl,.inl rfl⟩
  ·exact ⟨_,rfl,.inr (.inl rfl)⟩
  ·exact ⟨_,rfl,.inr (.inr rfl)⟩
 obtain ⟨l,rfl,hl'⟩:=hL
 (repeat walk_at "p1")
 refine ⟨⟨⟨116 :: cs,116 :: ds,decide (d > 0),PyData.eqv (.int d') (.int 0),l⟩,⟨⟨by rw [List.length_cons,hl],rfl,?_⟩,⟨by rw [List.length_cons,kl],rfl,?_⟩,hl'⟩,rfl⟩,b5⟩
 ·intro c hc'
  rcases List.mem_cons.mp hc' with rfl | hc'
  ·exact .inl rfl
  ·exact hc c hc'
 ·intro c hc'
  rcases List.mem_cons.mp hc' with rfl | hc'
  ·exact .inl rfl
  ·exact kc c hc'

def deW:De→Str
 | .drop _ _ _ _ => "drop"
 | .num _ _ _ => "number"
 | .strike _ => "strike"
 | .back _ => "back"
theorem jTP {h:AH} (d:De):fIx h (deP d) (.int 0)=some (.str (deW d)):=by cases d <;> rfl
end LW
set_option maxHeartbeats 4000000
namespace LW
open PySem PySem.Spec PyProof.Rows L2 Lp
def jBQ (m:Mo) (w:Nat):List Nat:=(yW m false).filter fun x=>x != w
def gtB:Option (List Int)→List Int→Bool
 | none,_=>true
 | some a,k=>HT.lexLt a k
def ltB:List Int→Option (List Int)→Bool
 | _,none=>true
 | k,some a=>HT.lexLt k a
def yHQ (lo hi:Option (List Int)) (k:List Int):Bool:=gtB lo k&&ltB k hi
def jWV (s:Sc) (m:Mo) (w:Nat) (l r:Option Nat) (k:List Int):Option Er :=
 if (yW m false).contains w=false then some (.noRow (some w)) else
 match jIJ (jBQ m w) [l,r] with
 | some e=>some e
 | none=>if jPP (jBQ m w) l r=false then some (.notBeside l r) else
  if yHQ (jBP m l) (jBP m r) k=false then some (.invKey k) else jNL (jPS s) [k]
theorem yJO {l:List Nat} {a b:Option Nat} (h:jIJ l [a,b]=none):jWE l a=true∧jWE l b=true:=by
 unfold jIJ at h
 by_cases ha:jWE l a=true
 ·rw [if_pos ha] at h
  unfold jIJ at h
  by_cases hb:jWE l b=true
  ·exact ⟨ha,hb⟩
  ·rw [if_neg hb] at h; cases h
 ·rw [if_neg ha] at h; cases h
theorem jJS {m:Mo} {b:Bool} {n:Nat} (h:n∈yW m b):n < m.ks.length:=by
 unfold yW at h
 have:=yCB.mp h
 exact List.mem_range.mp (List.mem_filter.mp this).1
theorem jYD {m:Mo} {b:Bool}:(yW m b).length≤m.ks.length:=by
 unfold yW
 rw [jRC]
 have:=List.length_filter_le (fun r=>b||m.sh.getD r false) (List.range m.ks.length)
 rw [List.length_range] at this
 exact this
end LW
set_option maxHeartbeats 4000000
namespace LW
open PySem PySem.Spec PyProof.Rows L2 Lp
def yNI:Option (List Int)→Option (List Int)→List (List Int)→Option Er
 | _,_,[]=>none
 | lo,hi,k :: ks=>if yHQ lo hi k=false then some (.invKey k) else yNI (some k) hi ks
def wtB (p:SpecW) (l r:Option Nat):Bool:=match l,r with
 | none,none=>false
 | _,_=>!p.s
theorem yRR {p:SpecW} {l r:Option Nat}:wtB p l r=(!p.s&&!(l.isNone&&r.isNone)):=by
 cases l <;> cases r <;> simp [wtB]
def yHR (p:SpecW) (s:Sc) (m:Mo) (l r:Option Nat) (ks:List (List Int)):Option Er :=
 match jIJ (yW m p.h) [l,r] with
 | some e=>some e
 | none=>if wtB p l r=true then some .whole else
  if (enF (yW m p.h) r).getD 0 < (stF (yW m p.h) l).getD 0 then some (.notBeside l r) else
  if ks.length≠(enF (yW m p.h) r).getD 0 - (stF (yW m p.h) l).getD 0 then some (.invNum ks.length) else
  match yNI (jBP m l) (jBP m r) ks with
  | some e=>some e
  | none=>jNL (jPS s) ks
end LW
set_option maxHeartbeats 4000000
set_option maxHeartbeats 4000000
namespace LW
open PySem PySem.Spec PyProof.Rows L2 Lp
def yFH (line:List Nat) (a b:Nat):List Nat:=(line.take b).drop a
theorem yPQ {h:AH} {l:List Nat} {a b:Nat}:fSl h (lnP l) (some (a:Int)) (some (b:Int))=some (lnP (yFH l a b)):=by
 show some (PV.lst (jAY (l.map fun (n:Nat)=>PV.int n) (some (a:Int)) (some (b:Int))))=some (PV.lst (((l.take b).drop a).map fun (n:Nat)=>PV.int n))
 unfold jAY
 rw [HT.sIx_nat,HT.sIx_nat]
 congr 2
 rw [List.length_map,List.map_drop,List.map_take]
 have hl:(l.map fun (n:Nat)=>PV.int n).length=l.length:=List.length_map ..
 generalize (l.map fun (n:Nat)=>PV.int n)=xs at hl ⊢
 rw [← hl,List.drop_take]
 by_cases ha:a≤xs.length
 ·rw [Nat.min_eq_left ha]
  by_cases hb:b≤xs.length
  ·rw [Nat.min_eq_left hb]
  ·rw [show min b xs.length=xs.length by omega,List.take_of_length_le (by rw [List.length_drop]; omega),List.take_of_length_le (by rw [List.length_drop]; omega)]
 ·rw [show min a xs.length=xs.length by omega,List.drop_length,List.drop_of_length_le (show xs.length≤a by omega),List.take_nil,List.take_nil]
end LW
set_option maxHeartbeats 4000000
set_option maxHeartbeats 4000000
set_option maxHeartbeats 4000000
namespace LW
open PySem PySem.Spec PyProof.Rows L2 Lp
theorem yET:∀ (xs:List (List Int)) (n:Nat),jCH n (xs.map kP)=((List.range' n xs.length).zip xs).map fun q=>PV.tup [.int q.1,kP q.2]
 | [],_=>rfl
 | x :: xs,n=>by
  have ih:=yET xs (n+1)
  show PV.tup [.int n,kP x] :: jCH (n+1) (xs.map kP)=_
  rw [ih]
  rfl
end LW
set_option maxHeartbeats 4000000
namespace LW
open PySem PySem.Spec PyProof.Rows L2 Lp
-- 

-- 

theorem yRG (k:List Int):DPl 1 (kP k):=fun x hx=>by
 obtain ⟨i,_,rfl⟩:=List.mem_map.mp hx
 trivial
theorem jGZ:∀ (n:Nat) {v:PV},DPl n v→DPl (n+1) v
 | 0,v,h=>by cases v <;> first | exact h.elim | trivial
 | n+1,v,h=>by
  cases v with
  | tup xs=>exact fun x hx=>jGZ n (h x hx)
  | lst xs=>exact fun x hx=>jGZ n (h x hx)
  | _=>first | exact h.elim | trivial
theorem jTR {n:Nat} (a:Option Nat):DPl n (sdP a):=by cases n <;> cases a <;> trivial
theorem yWU (d:De):DPl 3 (deP d):=by
 cases d with
 | strike w =>
  intro x hx
  simp only [List.mem_cons,List.not_mem_nil,or_false] at hx
  rcases hx with rfl | rfl
  ·trivial
  ·trivial
 | back w =>
  intro x hx
  simp only [List.mem_cons,List.not_mem_nil,or_false] at hx
  rcases hx with rfl | rfl
  ·trivial
  ·trivial
 | drop w l r k =>
  intro x hx
  simp only [List.mem_cons,List.not_mem_nil,or_false] at hx
  rcases hx with rfl | rfl | rfl | rfl | rfl
  ·trivial
  ·trivial
  ·exact jTR l
  ·exact jTR r
  ·exact jGZ 1 (yRG k)
 | num l r ks =>
  intro x hx
  simp only [List.mem_cons,List.not_mem_nil,or_false] at hx
  rcases hx with rfl | rfl | rfl | rfl
  ·trivial
  ·exact jTR l
  ·exact jTR r
  ·intro y hy
   obtain ⟨k,_,rfl⟩:=List.mem_map.mp hy
   exact yRG k
theorem yHN {α:Type} {f:α→PV} {l:List α} (h:∀ a,isOwn (f a)=false):uB (l.map f)=true:=by
 unfold uB
 rw [List.all_eq_true]
 intro x hx
 obtain ⟨a,_,rfl⟩:=List.mem_map.mp hx
 rw [h]; rfl
end LW
set_option maxHeartbeats 4000000
set_option maxHeartbeats 4000000
set_option maxHeartbeats 4000000
namespace LW
open PySem PySem.Spec PyProof.Rows L2 Lp
theorem get3 {h:AH} {x y z:Option Cell}:(h++[x]++[y]++[z])[h.length]?=some x:=by simp
def tu1:PV→PV
 | .int k=>kP [k]
 | _=>.non
end LW
set_option maxHeartbeats 4000000
set_option maxHeartbeats 4000000
set_option maxHeartbeats 4000000
namespace LW
open PySem PySem.Spec PyProof.Rows L2 Lp
def Bg (h:AH):Prop:=∃ l,Bag l∧h[0]?=some (some (.lst l))
structure Off (h h':AH):Prop where
 len:h'.length=h.length
 eq:∀ j,0 < j→h'[j]?=h[j]?
theorem Off.refl {h:AH}:Off h h:=⟨rfl,fun _ _=>rfl⟩
theorem Off.trans {a b c:AH} (h:Off a b) (k:Off b c):Off a c:=⟨k.len.trans h.len,fun j hj=>(k.eq j hj).trans (h.eq j hj)⟩
theorem Bg.at {h:AH} (b:Bg h):0 < h.length∧BagAt h 0 h:=by
 obtain ⟨l,bl,e⟩:=b
 refine ⟨(List.getElem?_eq_some_iff.mp e).1,l,bl,?_⟩
 obtain ⟨hl,e⟩:=List.getElem?_eq_some_iff.mp e
 rw [← e,List.set_getElem_self]
theorem Bg.of {h h':AH} (hl:0 < h.length) (b:BagAt h 0 h'):Bg h'∧Off h h':=by
 obtain ⟨l,bl,rfl⟩:=b
 exact ⟨⟨l,bl,by rw [List.getElem?_set_self hl]⟩,by rw [List.length_set],fun j hj=>by rw [List.getElem?_set_ne (by omega)]⟩
theorem Bg.gr {h h':AH} (b:Bg h) (g:Gr h h'):Bg h':=by
 obtain ⟨l,bl,e⟩:=b
 exact ⟨l,bl,g.at e⟩
theorem draw0 {h:AH} {k:Nat} (b:Bg h) (h1:1≤k) (h2:k < 1073741824):(jZ [.cel 0,.int k] h).post (fun v h'=>(∃ d:Nat,v=.int d∧d < k)∧Bg h'∧Off h h') NE:=by
 rw [jUP]
 obtain ⟨hl,ba⟩:=b.at
 refine jX (jME hl ba (by omega) (by omega)) fun v h' ⟨⟨d,e,d0,d1⟩,q⟩=>?_
 obtain ⟨n,rfl⟩:=Int.eq_ofNat_of_zero_le d0
 exact ⟨⟨n,e,by omega⟩,Bg.of hl q⟩
theorem of0 {h:AH} {α:Type} {f:α→PV} {xs:List α} (b:Bg h) (h0:1≤xs.length) (h2:xs.length < 1073741824) (hs:uB (xs.map f)=true):(vB [.cel 0,.lst (xs.map f)] h).post (fun v h'=>(∃ a∈xs,v=f a)∧Bg h'∧Off h h') NE:=by
 rw [of_eq]
 obtain ⟨hl,ba⟩:=b.at
 refine jX (yAQ hl ba (by rw [List.length_map]; exact h0) (by rw [List.length_map]; exact h2) hs) fun v h' ⟨q1,q⟩=>?_
 exact ⟨by
  obtain ⟨a,ha,e⟩:=List.mem_map.mp (show v∈xs.map f from by first | exact q1 | exact q1.1 | (obtain ⟨i,e⟩:=q1; exact List.mem_of_getElem? e))
  exact ⟨a,ha,e.symm⟩,Bg.of hl q⟩
theorem add_n {h:AH} {a b:Nat}:yO h (.int a) (.int b)=some (.int ((a+b:Nat):Int)):=by
 show some (PV.int ((a:Int)+b))=_
 rw [Int.natCast_add]
theorem yQT {h:AH} {a b:Nat} (le:b≤a):jEX h (.int a) (.int b)=some (.int ((a - b:Nat):Int)):=by
 show some (PV.int ((a:Int) - b))=_
 rw [Int.ofNat_sub le]


-- 

end LW
set_option maxHeartbeats 4000000
namespace LW
open PySem PySem.Spec PyProof.Rows L2 Lp
def awP (a:An):PV:=.tup [.int a.lt,.str (yVI a.wd)]
def moL (m:Mo):PV:=.tup [.lst (m.ks.map kP),.lst (m.sh.map .bl)]
structure Md (h:AH) (n:Nat) (s:Sc):Prop where
 c0:h[n]?=some (some (.lst (s.fo.map foP)))
 c1:h[n+1]?=some (some (.lst (s.an.map awP)))
 c2:h[n+2]?=some (some (.lst (s.mo.map moL)))
def mdP (p:SpecW) (n:Nat):PV:=.lst [p.v,.cel n,.cel (n+1),.cel (n+2)]
theorem yXG {h:AH} {n i:Nat} {xs:List PV} {z:PV} (e:h[n]?=some (some (.lst xs))) (e2:xs[i]?=some z):fIx h (.cel n) (.int i)=some z:=by
 show (match asS h (.cel n) with
  | some xs=>atI xs (i:Int)
  | none=>none)=_
 have:asS h (.cel n)=some xs:=by
  show (match h[n]? with
   | some (some (.lst xs))=>some xs
   | _=>none)=_
  rw [e]
 rw [this]
 exact jIV e2
section
variable {α:Type} {le le':α→α→Bool}
theorem jRE {a:α}:∀ {l:List α},(∀ b∈l,le a b=le' a b)→jBN le a l=jBN le' a l
 | [],_=>rfl
 | b :: r,h=>by
  unfold jBN
  rw [h b (List.mem_cons_self ..),jRE fun c hc=>h c (List.mem_cons_of_mem _ hc)]
theorem jNA:∀ {l:List α},l.Pairwise (fun a b=>le a b=le' a b)→zV le l=zV le' l
 | [],_=>rfl
 | a :: r,h=>by
  obtain ⟨h1,h2⟩:=List.pairwise_cons.mp h
  show jBN le a (zV le r)=jBN le' a (zV le' r)
  rw [jNA h2]
  exact jRE fun b hb=>h1 b (yCB.mp hb)
theorem yGQ {a:α}:∀ {l:List α},(∀ b∈l,le a b=true)→jBN le a l=a :: l
 | [],_=>rfl
 | b :: r,h=>by
  unfold jBN
  rw [if_pos (h b (List.mem_cons_self ..))]
theorem yEM (tr:∀ a b c:α,le a b=true→le b c=true→le a c=true) (to:∀ a b:α,le a b=true∨le b a=true) {a:α}:∀ {l:List α},l.Pairwise (fun a b=>le a b=true)→(jBN le a l).Pairwise fun a b=>le a b=true
 | [],_=>by unfold jBN; simp
 | b :: r,h=>by
  obtain ⟨h1,h2⟩:=List.pairwise_cons.mp h
  unfold jBN
  by_cases e:le a b=true
  ·rw [if_pos e]
   refine List.pairwise_cons.mpr ⟨fun c hc=>?_,h⟩
   rcases List.mem_cons.mp hc with rfl | hc
   ·exact e
   ·exact tr a b c e (h1 c hc)
  ·rw [if_neg e]
   refine List.pairwise_cons.mpr ⟨fun c hc=>?_,yEM tr to h2⟩
   rcases jYN.mp hc with rfl | hc
   ·exact (to c b).resolve_left e
   ·exact h1 c hc
theorem jOF (tr:∀ a b c:α,le a b=true→le b c=true→le a c=true) (to:∀ a b:α,le a b=true∨le b a=true):∀ {l:List α},(zV le l).Pairwise fun a b=>le a b=true
 | []=>by unfold zV; exact .nil
 | a :: r=>yEM tr to (jOF tr to (l:=r))
theorem jJH (tr:∀ a b c:α,le a b=true→le b c=true→le a c=true) {a:α} {p:α→Bool}:∀ {l:List α},l.Pairwise (fun a b=>le a b=true)→(jBN le a l).filter p=if p a=true then jBN le a (l.filter p) else l.filter p
 | [],_=>by
  unfold jBN
  by_cases e:p a=true
  ·rw [if_pos e,List.filter_cons_of_pos e]; rfl
  ·rw [if_neg e,List.filter_cons_of_neg e]
 | b :: r,h=>by
  obtain ⟨h1,h2⟩:=List.pairwise_cons.mp h
  show (if le a b=true then a :: b :: r else b :: jBN le a r).filter p=_
  by_cases e:le a b=true
  ·rw [if_pos e]
   by_cases pa:p a=true
   ·rw [if_pos pa,List.filter_cons_of_pos pa]
    refine (yGQ fun c hc=>?_).symm
    rcases List.mem_cons.mp (List.mem_filter.mp hc).1 with rfl | hc
    ·exact e
    ·exact tr a b c e (h1 c hc)
   ·rw [if_neg pa,List.filter_cons_of_neg pa]
  ·rw [if_neg e]
   by_cases pb:p b=true
   ·rw [List.filter_cons_of_pos pb,jJH tr h2,List.filter_cons_of_pos pb]
    by_cases pa:p a=true
    ·rw [if_pos pa,if_pos pa]
     show _=if le a b=true then _ else _
     rw [if_neg e]
    ·rw [if_neg pa,if_neg pa]
   ·rw [List.filter_cons_of_neg pb,jJH tr h2,List.filter_cons_of_neg pb]
theorem jKQ (tr:∀ a b c:α,le a b=true→le b c=true→le a c=true) (to:∀ a b:α,le a b=true∨le b a=true) {p:α→Bool}:∀ {l:List α},(zV le l).filter p=zV le (l.filter p)
 | []=>rfl
 | a :: r=>by
  show (jBN le a (zV le r)).filter p=_
  rw [jJH tr (jOF tr to),jKQ tr to]
  by_cases e:p a=true
  ·rw [if_pos e,List.filter_cons_of_pos e]; rfl
  ·rw [if_neg e,List.filter_cons_of_neg e]
end
theorem lex_trans:∀ {a b c:List Int},HT.lexLt a b=true→HT.lexLt b c=true→HT.lexLt a c=true
 | [],[],_,h,_=>by cases h
 | [],_ :: _,[],_,h=>by cases h
 | [],_ :: _,_ :: _,_,_=>rfl
 | _ :: _,[],_,h,_=>by cases h
 | _ :: _,_ :: _,[],_,h=>by cases h
 | x :: a,y :: b,z :: c,h1,h2=>by
  rw [HT.lexLt_cons] at h1 h2 ⊢
  by_cases e1:x=y
  ·subst e1
   rw [if_pos rfl] at h1
   by_cases e2:x=z
   ·subst e2
    rw [if_pos rfl] at h2 ⊢
    exact lex_trans h1 h2
   ·rw [if_neg e2] at h2 ⊢
    exact h2
  ·rw [if_neg e1] at h1
   have h1:=of_decide_eq_true h1
   by_cases e2:y=z
   ·subst e2
    rw [if_neg e1]
    exact decide_eq_true h1
   ·rw [if_neg e2] at h2
    have h2:=of_decide_eq_true h2
    rw [if_neg (by omega)]
    exact decide_eq_true (by omega)
theorem yJS {ks:List (List Int)} (a b c:Nat) (h1:leR ks a b=true) (h2:leR ks b c=true):leR ks a c=true:=by
 have g:∀ {x y:List Int},(!HT.lexLt y x)=true→HT.lexLt y x=false:=fun h=>(Bool.not_eq_true' _).mp h
 have h1:=g h1
 have h2:=g h2
 show (!HT.lexLt (kY ks c) (kY ks a))=true
 cases e:HT.lexLt (kY ks c) (kY ks a) with
 | false=>rfl
 | true =>
  cases e2:HT.lexLt (kY ks a) (kY ks b) with
  | true=>rw [lex_trans e e2] at h2; cases h2
  | false =>
   have:=yAT _ _ e2 h1
   rw [this,h2] at e; cases e
theorem yJT {ks:List (List Int)} (a b:Nat):leR ks a b=true∨leR ks b a=true:=by
 unfold leR
 cases e:HT.lexLt (kY ks b) (kY ks a) with
 | false=>exact .inl rfl
 | true =>
  refine .inr ?_
  cases e2:HT.lexLt (kY ks a) (kY ks b) with
  | false=>rfl
  | true =>
   have:=lex_trans e e2
   rw [jUM] at this; cases this
theorem jZI {m:Mo} {w:Bool}:yW m w=(yW m true).filter fun r=>w||m.sh.getD r false:=by
 unfold yW
 rw [jKQ yJS yJT]
 congr 1
 unfold yID
 rw [List.filter_filter]
 refine List.filter_congr fun r _=>?_
 rw [Bool.true_or,Bool.and_true]
def krP (q:List Int × Nat):PV:=.tup [kP q.1,.int q.2]
def krD (q:List Int × Nat):PyData:=.tuple [dK q.1,.int q.2]
theorem jSI {ta tb:List (Int ⊕ List Nat)}:∀ a b:List Int,PyProof.Rows.lexLt itemOrd (PySem.W.keyToksAll (a.map PyData.int)++ta) (PySem.W.keyToksAll (b.map PyData.int)++tb)=if a=b then PyProof.Rows.lexLt itemOrd ta tb else HT.lexLt a b
 | [],[]=>by
  rw [if_pos rfl]
  exact lex_self (O:=itemOrd) ..
 | [],_ :: _=>by
  rw [if_neg (by simp)]
  exact lex_diff (O:=itemOrd) (fun z=>by cases z) ..
 | _ :: _,[]=>by
  rw [if_neg (by simp)]
  exact lex_diff (O:=itemOrd) (fun z=>by cases z) ..
 | x :: a,y :: b=>by
  show PyProof.Rows.lexLt itemOrd (.inl 1 :: .inl x :: (PySem.W.keyToksAll (a.map PyData.int)++ta)) (.inl 1 :: .inl y :: (PySem.W.keyToksAll (b.map PyData.int)++tb))=_
  rw [lex_self (O:=itemOrd),HT.lexLt_cons]
  by_cases e:x=y
  ·subst e
   rw [if_pos rfl,lex_self (O:=itemOrd),jSI a b]
   by_cases e2:a=b
   ·rw [if_pos e2,if_pos (by rw [e2])]
   ·rw [if_neg e2,if_neg (fun z=>e2 (by injection z))]
  ·rw [if_neg e,if_neg (fun z=>e (by injection z)),lex_diff (O:=itemOrd) (fun z=>e (by cases z; rfl))]
   rfl
theorem yUA {a b:List Int × Nat}:leP (krP a) (krP b)=if b.1=a.1 then decide (a.2≤b.2) else !HT.lexLt b.1 a.1:=by
 have td:∀ q:List Int × Nat,toD (krP q)=some (krD q):=fun q=>by
  show (toDs [kP q.1,.int q.2]).map PyData.tuple=_
  rw [toDs,jRZ]; rfl
 have tk:∀ q:List Int × Nat,PySem.W.keyToks (krD q)=.inl 1 :: (PySem.W.keyToksAll (q.1.map PyData.int)++[.inl 1,.inl (q.2:Int),.inl 0]):=fun q=>rfl
 show (!PyProof.Rows.lexLt itemOrd (PySem.W.keyToks (encP (krP b))) (PySem.W.keyToks (encP (krP a))))=_
 unfold encP
 rw [td,td]
 show (!PyProof.Rows.lexLt itemOrd (PySem.W.keyToks (krD b)) (PySem.W.keyToks (krD a)))=_
 rw [tk,tk,lex_self (O:=itemOrd),jSI]
 by_cases e:b.1=a.1
 ·rw [if_pos e,if_pos e,lex_self (O:=itemOrd)]
  by_cases e2:b.2=a.2
  ·rw [e2,lex_self (O:=itemOrd),lex_self (O:=itemOrd)]
   rw [decide_eq_true (Nat.le_refl _)]; rfl
  ·rw [lex_diff (O:=itemOrd) (fun z=>e2 (by injection z with z; omega))]
   show (!decide ((b.2:Int) < (a.2:Int)))=_
   by_cases e3:b.2 < a.2
   ·rw [decide_eq_true (by omega),decide_eq_false (by omega)]; rfl
   ·rw [decide_eq_false (by omega),decide_eq_true (by omega)]; rfl
 ·rw [if_neg e,if_neg e]
def krR (m:Mo) (r:Nat):PV:=krP (kY m.ks r,r)
theorem yFR {m:Mo}:zV leP ((List.range m.ks.length).map (krR m))=(yW m true).map (krR m):=by
 have e1:yW m true=zV (leR m.ks) (List.range m.ks.length):=by
  unfold yW yID
  congr 1
  exact List.filter_eq_self.mpr fun _ _=>rfl
 rw [e1,jRB (krR m) (le':=leP) (le:=fun a b=>leP (krR m a) (krR m b)) (fun _ _ _ _=>rfl) |>.symm]
 congr 1
 refine jNA ?_
 refine (List.pairwise_lt_range).imp fun {a b} hab=>?_
 show leP (krP (kY m.ks a,a)) (krP (kY m.ks b,b))=!HT.lexLt (kY m.ks b) (kY m.ks a)
 rw [yUA]
 by_cases e:kY m.ks b=kY m.ks a
 ·rw [if_pos e,e,jUM,decide_eq_true (by show a≤b; omega)]; rfl
 ·rw [if_neg e]
theorem yNN:∀ qs:List (List Int × Nat),toDs (qs.map krP)=some (qs.map krD):=fun qs=>jGM krP krD (fun q=>by
 show (toDs [kP q.1,.int q.2]).map PyData.tuple=_
 rw [toDs,jRZ]; rfl) qs
theorem yKS {qs:List (List Int × Nat)} (hl:qs.length≤1000):yCS (qs.map krD)=true:=by
 have a1:yKH (qs.map krD)=true:=List.all_eq_true.mpr fun d hd=>List.all_eq_true.mpr fun e he=>by
  obtain ⟨k,_,rfl⟩:=List.mem_map.mp hd
  obtain ⟨k',_,rfl⟩:=List.mem_map.mp he
  show (PySem.W.alikeAll (k.1.map .int) (k'.1.map .int)&&(true&&true))=true
  rw [alike_ints]; rfl
 have a2:(qs.map krD).all tupB=true:=List.all_eq_true.mpr fun d hd=>by
  obtain ⟨k,hk,rfl⟩:=List.mem_map.mp hd
  rfl
 have a3:(qs.map krD).all dOk=true:=List.all_eq_true.mpr fun d hd=>by
  obtain ⟨k,hk,rfl⟩:=List.mem_map.mp hd
  have:=jPO k.1
  refine decide_eq_true ?_
  show PyData.depth (.tuple [dK k.1,.int k.2])≤64
  generalize dK k.1=D at *
  simp only [PyData.depth,PyData.depthAll]
  omega
 unfold yCS
 rw [a1,a2,a3,decide_eq_true (by rw [List.length_map]; omega)]; rfl
theorem jQY {m:Mo} {w:Bool} {h:AH} (ok:MoOk m):(uZ [moL m,.bl w] h).post (fun v h'=>v=lnP (yW m w)∧h'=h) NE:=by
 have hz:=ok.sz
 have i0:∀ h,fIx h (moL m) (.int 0)=some (.lst (m.ks.map kP)):=fun h=>rfl
 have i1:∀ h,fIx h (moL m) (.int 1)=some (.lst (m.sh.map .bl)):=fun h=>rfl
 unfold uZ
 rw [jVA]
 unfold jMS
 refine wV [some (moL m),some (.bl w),none,none,none] rfl (yS (zK (qT (jP (jAX (jBW (α:=Nat × List Int) (yEA ?_)))))))
 (repeat (first | refine ⟨_,i0 _,?_⟩ | walk_at "p1"))
 refine ⟨_,.inr rfl,rfl,(List.range' 0 m.ks.length).zip m.ks,fun q=>.tup [.int q.1,kP q.2],fun q=>krP (q.2,q.1),yET _ _,fun q hq=>⟨rfl,_,rfl,rfl,?_⟩,?_⟩
 ·(repeat walk_at "p1")
 have ez:(((List.range' 0 m.ks.length).zip m.ks).map fun q=>krP (q.2,q.1))=(List.range m.ks.length).map (krR m):=by
  have go:∀ (xs:List (List Int)) (n:Nat),((List.range' n xs.length).zip xs).map (fun q=>krP (q.2,q.1))=(List.range' n xs.length).map fun r=>krP (xs.getD (r - n) [],r):=fun xs=>by
   induction xs with
   | nil=>intro n; rfl
   | cons x xs ih =>
    intro n
    rw [List.length_cons,List.range'_succ,List.zip_cons_cons,List.map_cons,List.map_cons,ih (n+1),Nat.sub_self]
    congr 1
    refine List.map_congr_left fun r hr=>?_
    have:=(List.mem_range'_1.mp hr).1
    rw [show r - n=(r - (n+1))+1 by omega]
    rfl
  rw [go m.ks 0,List.range_eq_range']
  rfl
 rw [ez]
 have bs:∀ h,jKW h [.lst ((List.range m.ks.length).map (krR m))]=some (.lst ((yW m true).map (krR m))):=fun h=>by
  have e1:(List.range m.ks.length).map (krR m)=((List.range m.ks.length).map fun r=>(kY m.ks r,r)).map krP:=by rw [List.map_map]; rfl
  unfold jKW
  have e2:asL h (.lst ((List.range m.ks.length).map (krR m)))=some ((List.range m.ks.length).map (krR m)):=rfl
  simp only [e2]
  rw [e1,yNN]
  dsimp only
  rw [if_pos (yKS (by rw [List.length_map,List.length_range]; omega)),← e1,yFR]
 (repeat (first | refine ⟨_,bs _,?_⟩ | walk_at "p1"))
 refine jQX (α:=Nat) (jDB (jQ rfl ⟨_,rfl,?_⟩))
 refine ⟨rfl,yW m true,krR m,fun (r:Nat)=>.int r,fun r=>w||m.sh.getD r false,rfl,fun r hr=>⟨rfl,_,rfl,?_⟩,?_⟩
 ·have hr2:r < m.sh.length:=by rw [ok.len]; exact jJS hr
  have i2:∀ h,fIx h (.lst (m.sh.map .bl)) (.int r)=some (.bl (m.sh.getD r false)):=fun h=>ixL (yCY (by
   rw [List.getD_eq_getElem?_getD,List.getElem?_eq_getElem hr2]; rfl))
  cases w with
  | true =>
   (repeat walk_at "p1")
   exact ⟨jQ rfl ⟨rfl,rfl,rfl⟩,rfl,rfl⟩
  | false =>
   (repeat (first | refine ⟨_,i1 _,?_⟩ | refine ⟨_,i2 _,?_⟩ | walk_at "p1"))
   exact ⟨jQ rfl ⟨rfl,rfl,rfl⟩,rfl,rfl⟩
 ·rw [← jZI]
  exact ⟨rfl,rfl,rfl⟩
theorem jJW {m:Mo} {r:Option Nat} {h:AH} (hr:SdOk m r):(uD [moL m,sdP r] h).post (fun v h'=>v=okV (jBP m r)∧h'=h) NE:=by
 unfold uD
 rw [jZB]
 unfold jOU
 refine wV [some (moL m),some (sdP r)] rfl ?_
 cases r with
 | none=>(repeat walk_at "p1")
 | some n =>
  have hn:=hr n rfl
  have i0:∀ h,fIx h (moL m) (.int 0)=some (.lst (m.ks.map kP)):=fun h=>rfl
  have e0:∀ h,fIx h (.lst (m.ks.map kP)) (.int n)=some (kP m.ks[n]):=fun h=>ixL (yCY (List.getElem?_eq_getElem hn))
  (repeat (first | refine ⟨_,i0 _,?_⟩ | refine ⟨_,e0 _,?_⟩ | walk_at "p1"))
  show kP m.ks[n]=okV (m.ks[n]?)∧h=h
  rw [List.getElem?_eq_getElem hn]
  exact ⟨rfl,rfl⟩
section
variable {h:AH} {n:Nat} {s:Sc} {p:SpecW}
theorem md1 {h':AH}:fIx h' (mdP p n) (.int 1)=some (.cel n):=rfl
theorem md3 {h':AH}:fIx h' (mdP p n) (.int 3)=some (.cel (n+2)):=rfl
theorem md0 {h':AH}:fIx h' (mdP p n) (.int 0)=some p.v:=rfl
end
end LW
set_option maxHeartbeats 4000000
set_option maxHeartbeats 4000000
set_option maxHeartbeats 4000000
namespace LW
open PySem PySem.Spec PyProof.Rows L2 Lp
theorem yRC {neg:Bool} {h:AH} {U:List (List Int)} {k:List Int} {x:PV} (hx:jEW h x=some (.list (U.map dK))):(yFG neg h (kP k) x).or (jKF neg h (kP k) x)=some (.bl (neg ^^ U.contains k)):=by
 have a1:jEW h (kP k)=some (dK k):=jRZ k
 have a3:(dOk (dK k)&&dOk (.list (U.map dK)))=true:=by
  rw [yIQ,jJA (n:=2) (fun d hd=>by
   obtain ⟨i,_,rfl⟩:=List.mem_map.mp hd
   exact jPO i) (by decide)]
  rfl
 have a4:((U.map dK).any fun z=>PyData.eqv z (dK k))=U.contains k:=by
  rw [List.any_map,List.contains_eq_any_beq]
  refine congrArg (fun f=>U.any f) (funext fun q=>?_)
  show PyData.eqv (dK q) (dK k)=_
  rw [yRF]
  by_cases e:q=k
  ·subst e; simp
  ·rw [decide_eq_false e,beq_false_of_ne (Ne.symm e)]
 have a0:yFG neg h (kP k) x=none:=rfl
 rw [a0]
 unfold jKF
 rw [a1,hx]
 show (none:Option PV).or (if (dOk (dK k)&&dOk (.list (U.map dK)))=true then some (PV.bl (neg ^^ (U.map dK).any fun z=>PyData.eqv z (dK k))) else none)=_
 rw [if_pos a3,a4]; rfl
theorem yKN {h:AH} (U:List (List Int)):jEW h (.own (U.map kP))=some (.list (U.map dK)):=by
 show (toDs (U.map kP)).map PyData.list=_
 rw [yIY]; rfl
theorem jXC {h:AH} (U:List (List Int)):jEW h (.lst (U.map kP))=some (.list (U.map dK)):=by
 show (toDs (U.map kP)).map PyData.list=_
 rw [yIY]; rfl
theorem yPG {h:AH} {U:List (List Int)} {k:List Int}:jOZ h (kP k) (.own (U.map kP))=some (.bl (!U.contains k)):=by
 have:=yRC (neg:=true) (h:=h) (k:=k) (yKN U)
 rw [Bool.true_xor] at this
 exact this
theorem yPP {h:AH} {U:List (List Int)} {k:List Int}:fIn h (kP k) (.lst (U.map kP))=some (.bl (U.contains k)):=by
 have:=yRC (neg:=false) (h:=h) (k:=k) (jXC U)
 rw [Bool.false_xor] at this
 exact this
theorem jGS {a b:List (List Int)} {k:List Int}:(a++b).contains k=(a.contains k||b.contains k):=by
 rw [List.contains_eq_any_beq,List.contains_eq_any_beq,List.contains_eq_any_beq,List.any_append]
theorem yMT {a b:List (List Int)} {k:List Int}:(a++b.filter fun q=>!a.contains q).contains k=(a.contains k||b.contains k):=by
 rw [jGS]
 cases e:a.contains k with
 | true=>rfl
 | false =>
  rw [Bool.false_or,Bool.false_or]
  rw [Bool.eq_iff_iff,List.contains_iff_mem,List.contains_iff_mem,List.mem_filter]
  exact ⟨fun z=>z.1,fun z=>⟨z,by rw [e]; rfl⟩⟩
section
variable {h:AH} {n:Nat} {s:Sc} {p:SpecW}
theorem yBW (M:Md h n s) (ok:ScOk s) (hz:ksN s≤16000) (hm:s.mo.length≤10000):(jAA [mdP p n] h).post (fun v h'=>(∃ U:List (List Int),v=.lst (U.map kP)∧∀ k,U.contains k=(jPS s).contains k)∧h'=h) NE:=by
 have hs:100000 < sizeLine:=by decide
 have z1:=ok.z1
 unfold ksN at hz
 have tk:∀ {α β:Type} (f:α→List β) (l:List α) (j:Nat),((l.take j).flatMap f).length≤(l.flatMap f).length:=fun f l j=>by
  conv=>rhs; rw [← List.take_append_drop j l]
  rw [List.flatMap_append,List.length_append]
  exact Nat.le_add_right _ _
 unfold jAA
 rw [jUY]
 unfold jMQ
 refine wV [some (mdP p n),none,none,none,none,none,none] rfl (yS (jTN (jKU (yF ⟨⟨rfl,by decide⟩,yS (yAP (jDB ?_))⟩))))
 (repeat (first | refine ⟨_,md3,?_⟩ | walk_at "p1"))
 refine ⟨_,yIB M.c2,rfl,by rw [List.length_map]; omega,jUF (fun j s'=>∃ a b U,s'.e=[some (mdP p n),some (.own (U.map kP)),a,b,none,none,none]∧s'.h=h∧U.length≤((s.mo.take j).flatMap (·.ks)).length∧∀ k,U.contains k=((s.mo.take j).flatMap (·.ks)).contains k) (fun j s' ⟨_,_,_,_,e,_⟩=>by rw [e]; exact jUA M.c2) ⟨none,none,[],rfl,rfl,Nat.zero_le _,fun k=>rfl⟩ (fun j v s' e ⟨a,b,U,i1,i2,i3,i4⟩=>?_) fun s' ⟨a,b,U,i1,i2,i3,i4⟩=>?_⟩
 ·obtain ⟨se,sh⟩:=s'
  have i1:se=_:=i1
  have i2:sh=_:=i2
  subst i1 i2
  have e:(s.mo.map moL)[j]?=some v:=e
  rw [List.getElem?_map] at e
  cases ep:s.mo[j]? with
  | none=>rw [ep] at e; cases e
  | some m =>
   rw [ep] at e
   cases e
   have st:((s.mo.take (j+1)).flatMap (·.ks))=((s.mo.take j).flatMap (·.ks))++m.ks:=by
    rw [jER ep,List.flatMap_append]; simp
   have hl:=tk (·.ks) s.mo (j+1)
   rw [st,List.length_append] at hl
   have hf:(m.ks.filter fun q=>!U.contains q).length≤m.ks.length:=List.length_filter_le _ _
   refine ⟨_,rfl,?_⟩
   refine jTN (yJI (jQ rfl (jAX (jGV (α:=List Int) (jDB (jQ rfl ⟨_,rfl,rfl,m.ks,kP,fun q=>!U.contains q,rfl,fun k hk=>⟨rfl,_,rfl,?_⟩,?_⟩))))))
   ·(repeat (first | refine ⟨_,yPG,?_⟩ | walk_at "p1"))
    exact ⟨jQ rfl ⟨rfl,rfl,rfl⟩,rfl,rfl⟩
   ·refine ⟨_,_,rfl,rfl,by rw [List.length_map,List.length_map]; omega,?_⟩
    rw [← List.map_append]
    refine ⟨_,_,_,rfl,rfl,?_,fun k=>?_⟩
    ·rw [st,List.length_append,List.length_append]; omega
    ·rw [st,yMT,jGS,i4]
 ·obtain ⟨se,sh⟩:=s'
  have i1:se=_:=i1
  have i2:sh=_:=i2
  subst i1 i2
  have i3:U.length≤((s.mo.take (s.mo.map moL).length).flatMap (·.ks)).length:=i3
  have i4:∀ k,U.contains k=((s.mo.take (s.mo.map moL).length).flatMap (·.ks)).contains k:=i4
  rw [List.length_map,List.take_length] at i3
  simp only [List.length_map,List.take_length] at i4
  refine yS (yAP (jDB ?_))
  (repeat (first | refine ⟨_,md1,?_⟩ | walk_at "p1"))
  refine ⟨_,yIB M.c0,rfl,by rw [List.length_map]; omega,jUF (fun j s'=>∃ c d U',s'.e=[some (mdP p n),some (.own (U'.map kP)),a,b,c,d,none]∧s'.h=sh∧U'.length≤U.length+((s.fo.take j).flatMap fun p=>jRS p.1).length∧∀ k,U'.contains k=(U.contains k||((s.fo.take j).flatMap fun p=>jRS p.1).contains k)) (fun j s' ⟨_,_,_,_,e,_⟩=>by rw [e]; exact jUA M.c0) ⟨none,none,U,rfl,rfl,Nat.le_refl _,fun k=>by simp⟩ (fun j v s' e ⟨c,d,U',j1,j2,j3,j4⟩=>?_) fun s' ⟨c,d,U',j1,j2,j3,j4⟩=>?_⟩
  ·obtain ⟨se,sh'⟩:=s'
   have j1:se=_:=j1
   have j2:sh'=_:=j2
   subst j1 j2
   have e:(s.fo.map foP)[j]?=some v:=e
   rw [List.getElem?_map] at e
   cases ep:s.fo[j]? with
   | none=>rw [ep] at e; cases e
   | some q =>
    rw [ep] at e
    cases e
    have st:((s.fo.take (j+1)).flatMap fun p=>jRS p.1)=((s.fo.take j).flatMap fun p=>jRS p.1)++jRS q.1:=by
     rw [jER ep,List.flatMap_append]; simp
    have hl:=tk (fun p=>jRS p.1) s.fo (j+1)
    rw [st,List.length_append] at hl
    rw [st]
    simp only [jGS,List.length_append]
    generalize (s.fo.take j).flatMap (fun p=>jRS p.1)=V at *
    obtain ⟨dd,kk⟩:=q
    have be:qK (.t [(.n 4),(.n 5)]) (foP (dd,kk)) [some (mdP p n),some (.own (U'.map kP)),a,b,c,d,none]=some [some (mdP p n),some (.own (U'.map kP)),a,b,some (deP dd),some (.int kk),none]:=by
     show (match (if isOwn (deP dd)=true then none else some _) with
      | some e1=>bindTs [.n 5] [.int kk] e1
      | none=>none)=_
     rw [yTP]; rfl
    refine ⟨_,be,?_⟩
    cases dd with
    | strike w =>
     (repeat (first | refine ⟨_,jTP _,?_⟩ | walk_at "p1"))
     exact ⟨_,_,_,rfl,rfl,by omega,fun k=>by rw [j4]; show _=(_||(_||List.contains [] k)); simp⟩
    | back w =>
     (repeat (first | refine ⟨_,jTP _,?_⟩ | walk_at "p1"))
     exact ⟨_,_,_,rfl,rfl,by omega,fun k=>by rw [j4]; show _=(_||(_||List.contains [] k)); simp⟩
    | drop w l r ky =>
     have i4':∀ h,fIx h (deP (.drop w l r ky)) (.int 4)=some (kP ky):=fun h=>rfl
     have hl:V.length+1≤_:=hl
     (repeat (first | refine ⟨_,jTP _,?_⟩ | refine ⟨_,i4' _,?_⟩ | refine yJL rfl ?_ | walk_at "p1"))
     refine ⟨⟨rfl,by rw [List.length_map]; omega⟩,?_⟩
     rw [show U'.map kP++[kP ky]=(U'++[ky]).map kP by rw [List.map_append]; rfl]
     exact ⟨_,_,_,rfl,rfl,by rw [List.length_append]; show U'.length+1≤U.length+(V.length+1); omega,fun k=>by rw [jGS,j4,Bool.or_assoc]; rfl⟩
    | num l r ks =>
     have i3':∀ h,fIx h (deP (.num l r ks)) (.int 3)=some (.tup (ks.map kP)):=fun h=>rfl
     have hl:V.length+ks.length≤_:=hl
     (repeat (first | refine ⟨_,jTP _,?_⟩ | refine ⟨_,i3' _,?_⟩ | refine jTN ?_ | refine yJI ?_ | walk_at "p1"))
     refine ⟨_,_,rfl,rfl,by rw [List.length_map,List.length_map]; omega,?_⟩
     rw [← List.map_append]
     exact ⟨_,_,_,rfl,rfl,by rw [List.length_append]; show U'.length+ks.length≤U.length+(V.length+ks.length); omega,fun k=>by rw [jGS,j4,Bool.or_assoc]; rfl⟩
  ·obtain ⟨se,sh'⟩:=s'
   have j1:se=_:=j1
   have j2:sh'=_:=j2
   subst j1 j2
   refine ySW rfl ⟨⟨U',rfl,fun k=>?_⟩,rfl⟩
   have j4:U'.contains k=(U.contains k||((s.fo.take (s.fo.map foP).length).flatMap fun p=>jRS p.1).contains k):=j4 k
   rw [List.length_map,List.take_length] at j4
   rw [j4,i4,← jGS]
   rfl
end
end LW
set_option maxHeartbeats 4000000
namespace LW
open PySem PySem.Spec PyProof.Rows L2 Lp
def shK (lo hi:Option (List Int)) (m x:Nat) (a:Int):List Int:=match lo,hi with
 | none,none=>[0+x+a]
 | some l,none=>[l.headD 0+1+x+a]
 | none,some h=>[h.headD 0 - m - x+a]
 | some l,some h=>if h.take l.length=l then l++[h.getD l.length 0 - m - x+a] else l++[x+a]
def shF (lo hi:Option (List Int)) (m x:Nat):List (List Int):=(List.range m).map fun (a:Nat)=>shK lo hi m x a
def sF (lo hi:Option (List Int)) (m x:Nat):PV→PV
 | .int a=>kP (shK lo hi m x a)
 | _=>.non
theorem ySJ {lo hi:Option (List Int)} {m x:Nat}:((List.range (Int.toNat (m:Int))).map fun (k:Nat)=>PV.int k).map (sF lo hi m x)=(shF lo hi m x).map kP:=by
 unfold shF
 rw [List.map_map,List.map_map]
 rfl
theorem yUX {h:AH} {l:List Int} {z:Int} (hl:l.length+1≤sizeLine):yO h (kP l) (.tup [.int z])=some (kP (l++[z])):=by
 show (if (l.map PV.int).length+1≤sizeLine then some (PV.tup (l.map PV.int++[.int z])) else none)=_
 rw [if_pos (by rw [List.length_map]; exact hl)]
 unfold kP
 rw [List.map_append]; rfl
theorem shift_spec {lo hi:Option (List Int)} {m x:Nat} {h:AH} (B:Bnd lo hi) (zl:SzK lo) (zh:SzK hi) (hm:m≤100):(uG [okV lo,okV hi,.int m,.int x] h).post (fun v h'=>v=.lst ((shF lo hi m x).map kP)∧h'=h) NE:=by
 unfold uG
 rw [jPA]
 unfold jIL
 refine wV [some (okV lo),some (okV hi),some (.int m),some (.int x),none] rfl ?_
 rw [← ySJ]
 cases lo with
 | none =>
  cases hi with
  | none =>
   (repeat walk_at "p1")
   refine jBD (jIT ?_)
   (repeat walk_at "p1")
   refine ⟨by omega,rfl,sF none none m x,fun v hv=>?_,rfl,?_⟩
   ·obtain ⟨a,rfl⟩:=jLZ hv
    refine ⟨_,rfl,?_⟩
    (repeat walk_at "p1")
   ·exact ⟨rfl,rfl⟩
  | some g =>
   cases g with
   | nil=>exact absurd rfl (B.h _ rfl)
   | cons y g =>
    (repeat walk_at "p1")
    refine jBD (jIT ?_)
    (repeat walk_at "p1")
    refine ⟨by omega,rfl,sF none (some (y :: g)) m x,fun v hv=>?_,rfl,?_⟩
    ·obtain ⟨a,rfl⟩:=jLZ hv
     refine ⟨_,rfl,?_⟩
     have e0:∀ h,fIx h (okV (some (y :: g))) (.int 0)=some (.int y):=fun h=>yIM (n:=0) rfl
     (repeat (first | refine ⟨_,e0 _,?_⟩ | walk_at "p1"))
    ·exact ⟨rfl,rfl⟩
 | some l =>
  cases l with
  | nil=>exact absurd rfl (B.l _ rfl)
  | cons y l =>
   cases hi with
   | none =>
    (repeat walk_at "p1")
    refine jBD (jIT ?_)
    (repeat walk_at "p1")
    refine ⟨by omega,rfl,sF (some (y :: l)) none m x,fun v hv=>?_,rfl,?_⟩
    ·obtain ⟨a,rfl⟩:=jLZ hv
     refine ⟨_,rfl,?_⟩
     have e0:∀ h,fIx h (okV (some (y :: l))) (.int 0)=some (.int y):=fun h=>yIM (n:=0) rfl
     (repeat (first | refine ⟨_,e0 _,?_⟩ | walk_at "p1"))
    ·exact ⟨rfl,rfl⟩
   | some g =>
    have hz:=zl _ rfl
    have hb:=B.lt _ _ rfl rfl
    have hs:=(show 1000≤sizeLine by decide)
    generalize y :: l=l at *
    have eL:∀ h,vP h [okV (some l)]=some (.int (l.length:Nat)):=fun h=>by
     show some (PV.int ((l.map PV.int).length:Nat))=_
     rw [List.length_map]
    have eC:∀ h,fSl h (okV (some g)) none (some ((l.length:Nat):Int))=some (kP (g.take l.length)):=fun h=>yWR
    have eE:∀ h,fEq h (kP (g.take l.length)) (okV (some l))=some (.bl (decide (g.take l.length=l))):=fun h=>yWS
    have eA:∀ h (z:Int),yO h (okV (some l)) (.tup [.int z])=some (kP (l++[z])):=fun h z=>yUX (by omega)
    (repeat (first | refine ⟨_,eL _,?_⟩ | refine ⟨_,eC _,?_⟩ | refine ⟨_,eE _,?_⟩ | walk_at "p1"))
    refine zW (fun t=>?_) fun t=>?_
    ·have t:=of_decide_eq_true t
     obtain ⟨u,r,q⟩:=jOD l g hb t
     have eu:g[l.length]?=some u:=by rw [q]; simp
     have eg:g.getD l.length 0=u:=by rw [q]; simp
     have e0:∀ h,fIx h (okV (some g)) (.int (l.length:Nat))=some (.int u):=fun h=>yIM eu
     (repeat walk_at "p1")
     refine jBD (jIT ?_)
     (repeat walk_at "p1")
     refine ⟨by omega,rfl,sF (some l) (some g) m x,fun v hv=>?_,rfl,?_⟩
     ·obtain ⟨a,rfl⟩:=jLZ hv
      refine ⟨_,rfl,?_⟩
      (repeat (first | refine ⟨_,eL _,?_⟩ | refine ⟨_,e0 _,?_⟩ | refine ⟨_,eA _ _,?_⟩ | walk_at "p1"))
      refine ⟨?_,rfl,rfl,rfl⟩
      show _=kP (if g.take l.length=l then l++[g.getD l.length 0 - m - x+a] else l++[(x:Int)+a])
      rw [if_pos t,eg]
     ·exact ⟨rfl,rfl⟩
    ·have t:=of_decide_eq_false t
     (repeat walk_at "p1")
     refine jBD (jIT ?_)
     (repeat walk_at "p1")
     refine ⟨by omega,rfl,sF (some l) (some g) m x,fun v hv=>?_,rfl,?_⟩
     ·obtain ⟨a,rfl⟩:=jLZ hv
      refine ⟨_,rfl,?_⟩
      (repeat (first | refine ⟨_,eA _ _,?_⟩ | walk_at "p1"))
      refine ⟨?_,rfl,rfl,rfl⟩
      show _=kP (if g.take l.length=l then l++[g.getD l.length 0 - m - x+a] else l++[(x:Int)+a])
      rw [if_neg t]
     ·exact ⟨rfl,rfl⟩
theorem pigeon:∀ (n:Nat) (bs:List Nat) (d:Nat),bs.length=n→∃ x,d≤x∧x≤d+n∧x∉bs
 | 0,bs,d,h=>⟨d,Nat.le_refl _,Nat.le_refl _,by
  rw [List.eq_nil_of_length_eq_zero h]; exact List.not_mem_nil⟩
 | n+1,bs,d,h=>by
  by_cases e:d∈bs
  ·have hl:(bs.erase d).length=n:=by rw [List.length_erase_of_mem e,h]; rfl
   obtain ⟨x,h1,h2,h3⟩:=pigeon n (bs.erase d) (d+1) hl
   exact ⟨x,by omega,by omega,fun z=>h3 ((List.mem_erase_of_ne (by omega)).mpr z)⟩
  ·exact ⟨d,Nat.le_refl _,by omega,e⟩
theorem yOA {lo hi:Option (List Int)} {m x y:Nat} {a:Int} (e:shK lo hi m x a=shK lo hi m y a):x=y:=by
 unfold shK at e
 split at e
 ·injection e with e; omega
 ·injection e with e; omega
 ·injection e with e; omega
 ·split at e
  ·have e:=List.append_cancel_left e
   injection e with e; omega
  ·have e:=List.append_cancel_left e
   injection e with e; omega
theorem yJE {lo hi:Option (List Int)} {m x:Nat}:(∀ a:Int,shK lo hi m x a=kwAt lo hi ((m+x:Nat):Int) a)∨∀ a:Int,shK lo hi m x a=kwAt lo hi ((m+x:Nat):Int) (x+a):=by
 cases lo with
 | none=>cases hi with
  | none=>exact .inr fun a=>by show [0+(x:Int)+a]=[(x:Int)+a]; rw [Int.zero_add]
  | some g =>
   refine .inl fun a=>?_
   show [g.headD 0 - (m:Int) - x+a]=[g.headD 0 - ((m+x:Nat):Int)+a]
   rw [Int.natCast_add,← Int.sub_sub]
 | some l=>cases hi with
  | none=>exact .inr fun a=>by show [l.headD 0+1+(x:Int)+a]=[l.headD 0+1+((x:Int)+a)]; rw [Int.add_assoc (l.headD 0+1)]
  | some g =>
   by_cases t:g.take l.length=l
   ·refine .inl fun a=>?_
    show (if g.take l.length=l then l++[g.getD l.length 0 - (m:Int) - x+a] else l++[(x:Int)+a])=(if g.take l.length=l then l++[g.getD l.length 0 - ((m+x:Nat):Int)+a] else l++[a])
    rw [if_pos t,if_pos t,Int.natCast_add,← Int.sub_sub]
   ·refine .inr fun a=>?_
    show (if g.take l.length=l then l++[g.getD l.length 0 - (m:Int) - x+a] else l++[(x:Int)+a])=(if g.take l.length=l then l++[g.getD l.length 0 - ((m+x:Nat):Int)+((x:Int)+a)] else l++[(x:Int)+a])
    rw [if_neg t,if_neg t]
theorem yQS (c:Nat):∀ l:List Nat,(l.map fun _=>c).sum=l.length * c
 | []=>by simp
 | a :: l=>by rw [List.map_cons,List.sum_cons,yQS c l,List.length_cons,Nat.succ_mul,Nat.add_comm]
open Classical in
theorem free_at (lo hi:Option (List Int)) (m d:Nat) (V:List (List Int)):∃ x,d≤x∧x≤d+m * V.length∧∀ a,a < m→shK lo hi m x (a:Nat)∉V:=by
 let bad:Nat→List Int→Nat:=fun a k=>if h:∃ x,shK lo hi m x (a:Nat)=k then h.choose else 0
 obtain ⟨x,h1,h2,h3⟩:=pigeon _ ((List.range m).flatMap fun a=>V.map (bad a)) d rfl
 have hl:((List.range m).flatMap fun a=>V.map (bad a)).length=m * V.length:=by
  rw [List.length_flatMap]
  simp only [List.length_map]
  rw [yQS,List.length_range]
 rw [hl] at h2
 refine ⟨x,h1,h2,fun a ha hk=>h3 (List.mem_flatMap.mpr ⟨a,List.mem_range.mpr ha,List.mem_map.mpr ⟨_,hk,?_⟩⟩)⟩
 have hx:∃ y,shK lo hi m y (a:Nat)=shK lo hi m x (a:Nat):=⟨x,rfl⟩
 show (if h:∃ y,shK lo hi m y (a:Nat)=shK lo hi m x (a:Nat) then h.choose else 0)=x
 rw [dif_pos hx]
 exact yOA hx.choose_spec
end LW
set_option maxHeartbeats 4000000
namespace LW
open PySem PySem.Spec PyProof.Rows L2 Lp
theorem yPJ {h:AH} {U:List (List Int)}:fNe h (.lst (U.map kP)) (.lst [])=some (.bl (!U.isEmpty)):=by
 unfold fNe
 rw [jXC,show jEW h (.lst [])=some (.list []) from rfl]
 have e:dOk (.list (U.map dK))=true:=jJA (n:=2) (fun d hd=>by
  obtain ⟨i,_,rfl⟩:=List.mem_map.mp hd
  exact jPO i) (by decide)
 show (if (dOk (.list (U.map dK))&&dOk (.list []))=true then some (PV.bl (!PyData.eqv (.list (U.map dK)) (.list []))) else none)=_
 rw [e]
 cases U <;> rfl
section
variable {h:AH} {n:Nat} {s:Sc} {p:SpecW}
theorem Md.off {h h':AH} (M:Md h n s) (o:Off h h') (hn:0 < n):Md h' n s:=⟨(o.eq _ hn).trans M.c0,(o.eq _ (by omega)).trans M.c1,(o.eq _ (by omega)).trans M.c2⟩
theorem jQZ {lo hi:Option (List Int)} {m:Nat} {V:List (List Int)} (b:Bg h) (M:Md h n s) (ok:ScOk s) (hz:ksN s≤16000) (hy:s.mo.length≤10000) (B:Bnd lo hi) (zl:SzK lo) (zh:SzK hi) (hm:m≤6) (hV:∀ k,(jPS s).contains k=true→k∈V) (hl:V.length≤150) :
  (zA [.cel 0,mdP p n,okV lo,okV hi,.int m] h).post (fun v h'=>(∃ x,x≤902∧v=.lst ((shF lo hi m x).map kP)∧yII (jPS s) (shF lo hi m x)=true)∧Bg h'∧Off h h') NE:=by
 unfold zA
 rw [jVB]
 unfold jMT
 refine wV [some (.cel 0),some (mdP p n),some (okV lo),some (okV hi),some (.int m),none,none,none,none] rfl (yS (yJK ?_))
 (repeat walk_at "p1")
 refine jX (yBW M ok hz hy) fun v h1 ⟨⟨U,ev,hU⟩,eh⟩=>?_
 subst ev eh
 (repeat walk_at "p1")
 refine jX (draw0 (k:=3) b (by decide) (by decide)) fun v h2 ⟨⟨d,ev,hd⟩,b2,o2⟩=>?_
 subst ev
 (repeat walk_at "p1")
 have ow:∀ x:Nat,([okV lo,okV hi,PV.int m,PV.int x].all fun v=>!isOwn v)=true:=fun x=>by
  show (!isOwn (okV lo)&&(!isOwn (okV hi)&&true))=true
  rw [jNO,jNO]; rfl
 obtain ⟨x0,g1,g2,g3⟩:=free_at lo hi m d V
 have gm:m * V.length≤6 * 150:=Nat.mul_le_mul hm hl
 refine ⟨⟨rfl,ow d⟩,jX (shift_spec B zl zh (by omega)) fun v h3 ⟨ev,eh⟩=>?_⟩
 subst ev eh
 refine ⟨rfl,yS (jXV (I:=fun f st=>st.h=h3∧∃ y a,y≤x0∧x0+1≤y+f∧st.e=[some (.cel 0),some (mdP p n),some (okV lo),some (okV hi),some (.int m),some (.lst (U.map kP)),some (.int (y:Nat)),some (.lst ((shF lo hi m y).map kP)),a]) (fun st ⟨_,y,a,q1,q2,_⟩=>by omega) (fun f st z=>?_) 1000 _ ⟨rfl,d,none,g1,by omega,rfl⟩)⟩
 obtain ⟨se,sh⟩:=st
 obtain ⟨eh,y,a,q1,q2,ee⟩:=z
 have ee:se=_:=ee
 have eh:sh=h3:=eh
 subst ee eh
 refine uO (yC (jAX (jGV (α:=List Int) (jDB (jQ rfl ⟨_,rfl,rfl,shF lo hi m y,kP,fun k=>U.contains k,rfl,fun k hk=>⟨rfl,_,rfl,?_⟩,?_⟩)))))
 ·(repeat (first | refine ⟨_,yPP,?_⟩ | walk_at "p1"))
  exact ⟨jQ rfl ⟨rfl,rfl,rfl⟩,rfl,rfl⟩
 ·(repeat (first | refine ⟨_,yPJ,?_⟩ | walk_at "p1"))
  refine zW (fun t=>?_) fun t=>?_
  ·have hyx:y≠x0:=fun e=>by
    subst e
    have:(shF lo hi m y).filter (fun k=>U.contains k)=[]:=List.filter_eq_nil_iff.mpr fun k hk hc=>by
     obtain ⟨c,hc1,rfl⟩:=List.mem_map.mp hk
     rw [hU] at hc
     exact g3 c (List.mem_range.mp hc1) (hV _ hc)
    rw [this] at t; cases t
   have ej:(PV.int ((y:Int)+1))=.int ((y+1:Nat):Int):=by rw [Int.natCast_add]; rfl
   (repeat walk_at "p1")
   rw [ej]
   refine ⟨⟨rfl,ow (y+1)⟩,jX (shift_spec B zl zh (by omega)) fun v h4 ⟨ev,eh⟩=>?_⟩
   subst ev eh
   exact ⟨rfl,rfl,rfl,y+1,_,by omega,by omega,rfl⟩
  ·have t:(shF lo hi m y).filter (fun k=>U.contains k)=[]:=by
    have t:(!((shF lo hi m y).filter fun k=>U.contains k).isEmpty)=false:=t
    rw [Bool.not_eq_false'] at t
    exact List.isEmpty_iff.mp t
   refine vM (jQ rfl ⟨rfl,⟨y,by omega,rfl,?_⟩,b2,o2⟩)
   unfold yII
   refine List.all_eq_true.mpr fun k hk=>?_
   rw [← hU]
   cases e:U.contains k with
   | false=>rfl
   | true=>exact absurd e (List.filter_eq_nil_iff.mp t k hk)
end
end LW
set_option maxHeartbeats 4000000
namespace LW
open PySem PySem.Spec PyProof.Rows L2 Lp
def LtK (ks:List (List Int)) (a b:Nat):Prop:=HT.lexLt (kY ks a) (kY ks b)=true
def Dis (ks:List (List Int)):Prop:=∀ a b,a < ks.length→b < ks.length→kY ks a=kY ks b→a=b
theorem jRD {α:Type} {le:α→α→Bool} {a:α}:∀ {l:List α},a∉l→l.Nodup→(jBN le a l).Nodup
 | [],_,_=>by unfold jBN; exact List.pairwise_cons.mpr ⟨fun _ h=>(by cases h),.nil⟩
 | b :: r,h,d=>by
  unfold jBN
  split
  ·exact List.nodup_cons.mpr ⟨h,d⟩
  ·obtain ⟨d1,d2⟩:=List.nodup_cons.mp d
   refine List.nodup_cons.mpr ⟨fun z=>?_,jRD (fun z=>h (List.mem_cons_of_mem _ z)) d2⟩
   rcases jYN.mp z with e | z
   ·exact h (by rw [e]; exact List.mem_cons_self ..)
   ·exact d1 z
theorem jMZ {α:Type} {le:α→α→Bool}:∀ {l:List α},l.Nodup→(zV le l).Nodup
 | [],_=>.nil
 | a :: r,d=>by
  obtain ⟨d1,d2⟩:=List.nodup_cons.mp d
  exact jRD (fun z=>d1 (yCB.mp z)) (jMZ d2)
theorem jRA {m:Mo} {w:Bool}:(yW m w).Nodup:=jMZ (List.Nodup.sublist List.filter_sublist List.nodup_range)
theorem yED {m:Mo} {w:Bool} (D:Dis m.ks):(yW m w).Pairwise (LtK m.ks):=by
 have h1:(yW m w).Pairwise (fun a b=>leR m.ks a b=true):=jOF yJS yJT
 have h2:(yW m w).Nodup:=jRA
 refine List.Pairwise.imp_of_mem (fun {a b} ha hb z=>?_) (List.Pairwise.and h1 h2)
 obtain ⟨z1,z2⟩:=z
 have z1:(!HT.lexLt (kY m.ks b) (kY m.ks a))=true:=z1
 unfold LtK
 cases e:HT.lexLt (kY m.ks a) (kY m.ks b) with
 | true=>rfl
 | false =>
  exact absurd (D _ _ (jJS ha) (jJS hb) (yAT _ _ e ((Bool.not_eq_true' _).mp z1))) z2
theorem yON {m:Mo} {w:Nat} (D:Dis m.ks):(jBQ m w).Pairwise (LtK m.ks):=(yED D).filter _
def lfA (l:List Nat) (a:Nat):Option Nat:=if 0 < a then l[a - 1]? else none
theorem jUL {l:List Nat} {a n:Nat} (h:lfA l a=some n):n∈l:=by
 unfold lfA at h
 split at h
 ·exact List.mem_of_getElem? h
 ·cases h
theorem yEL {m:Mo} {n:Nat} (h:n < m.ks.length):jBP m (some n)=some (kY m.ks n):=yMF h
theorem yEY {m:Mo} {l:List Nat} {a b:Nat} (ok:MoOk m) (hl:∀ n∈l,n < m.ks.length) (pw:l.Pairwise (LtK m.ks)) (hab:a≤b):Bnd (jBP m (lfA l a)) (jBP m l[b]?):=by
 have kn:∀ {o:Option Nat} {k:List Int},jBP m o=some k→k≠[]:=fun {o k} e=>by
  cases o with
  | none=>cases e
  | some n=>exact ok.ne _ (List.mem_of_getElem? e)
 refine ⟨fun k e=>kn e,fun k e=>kn e,fun k1 k2 e1 e2=>?_⟩
 unfold lfA at e1
 by_cases ha:0 < a
 ·rw [if_pos ha] at e1
  cases q1:l[a - 1]? with
  | none=>rw [q1] at e1; cases e1
  | some n1 =>
   cases q2:l[b]? with
   | none=>rw [q2] at e2; cases e2
   | some n2 =>
    rw [q1,yEL (hl _ (List.mem_of_getElem? q1))] at e1
    rw [q2,yEL (hl _ (List.mem_of_getElem? q2))] at e2
    cases e1
    cases e2
    obtain ⟨h1,q1⟩:=List.getElem?_eq_some_iff.mp q1
    obtain ⟨h2,q2⟩:=List.getElem?_eq_some_iff.mp q2
    have:=List.pairwise_iff_getElem.mp pw (a - 1) b h1 h2 (by omega)
    rw [q1,q2] at this
    exact this
 ·rw [if_neg ha] at e1
  cases e1
theorem yHF {l:List Nat} {a:Nat} (h:a≤l.length):jPP l (lfA l a) l[a]?=true:=by
 unfold jPP
 rw [List.any_map]
 refine List.any_eq_true.mpr ⟨a,List.mem_range.mpr (by omega),decide_eq_true (Prod.ext ?_ ?_)⟩
 ·show (spF l).getD a none=lfA l a
  unfold spF lfA
  cases a with
  | zero=>rfl
  | succ a =>
   rw [if_pos (Nat.succ_pos _),List.getD_cons_succ,List.getD_eq_getElem?_getD,List.getElem?_append_left (by rw [List.length_map]; omega),List.getElem?_map]
   show (l[a]?.map some).getD none=l[a]?
   cases l[a]? <;> rfl
 ·show (spF l).getD (a+1) none=l[a]?
  unfold spF
  rw [List.getD_cons_succ,List.getD_eq_getElem?_getD]
  by_cases e:a < l.length
  ·rw [List.getElem?_append_left (by rw [List.length_map]; exact e),List.getElem?_map]
   cases l[a]? <;> rfl
  ·rw [show l[a]?=none from List.getElem?_eq_none (by omega),List.getElem?_append_right (by rw [List.length_map]; omega)]
   cases a - (l.map some).length <;> rfl
theorem yDR {l:List Nat} {a:Nat}:jWE l (lfA l a)=true:=by
 cases e:lfA l a with
 | none=>rfl
 | some n=>exact List.contains_iff_mem.mpr (jUL e)
theorem yDQ {l:List Nat} {a:Nat}:jWE l l[a]?=true:=by
 cases e:l[a]? with
 | none=>rfl
 | some n=>exact List.contains_iff_mem.mpr (List.mem_of_getElem? e)
def KyS (a b:Nat) (k:List Int):Prop:=k≠[]∧k.length≤a∧∀ i∈k,i.natAbs≤b
theorem yJD {lo hi:Option (List Int)} {m x c a b:Nat} (ha:1≤a) (h1:∀ l,lo=some l→KyS a b l) (h2:∀ l,hi=some l→KyS a b l) (hc:c≤m):KyS (a+1) (b+m+x+c+1) (shK lo hi m x (c:Nat)):=by
 have hd:∀ {l:List Int},KyS a b l→(l.headD 0).natAbs≤b:=fun {l} k=>by
  cases l with
  | nil=>exact absurd rfl k.1
  | cons y l=>exact k.2.2 y (List.mem_cons_self ..)
 have hg:∀ {l:List Int} (n:Nat),KyS a b l→(l.getD n 0).natAbs≤b:=fun {l} n k=>by
  rw [List.getD_eq_getElem?_getD]
  cases e:l[n]? with
  | none=>exact Nat.zero_le _
  | some y=>exact k.2.2 y (List.mem_of_getElem? e)
 unfold shK
 split
 ·exact ⟨fun z=>(by cases z),by show 1≤a+1; omega,fun i hi=>by rw [List.mem_singleton.mp hi]; omega⟩
 ·rename_i l
  have:=hd (h1 _ rfl)
  exact ⟨fun z=>(by cases z),by show 1≤a+1; omega,fun i hi=>by rw [List.mem_singleton.mp hi]; omega⟩
 ·rename_i l
  have:=hd (h2 _ rfl)
  exact ⟨fun z=>(by cases z),by show 1≤a+1; omega,fun i hi=>by rw [List.mem_singleton.mp hi]; omega⟩
 ·rename_i l g
  have hl:=h1 _ rfl
  have gg:=hg l.length (h2 _ rfl)
  split
  ·refine ⟨fun z=>absurd (List.append_eq_nil_iff.mp z).2 (by simp),by rw [List.length_append]; have:=hl.2.1; show l.length+1≤_; omega,fun i hi=>?_⟩
   rcases List.mem_append.mp hi with hi | hi
   ·have:=hl.2.2 i hi; omega
   ·rw [List.mem_singleton.mp hi]; omega
  ·refine ⟨fun z=>absurd (List.append_eq_nil_iff.mp z).2 (by simp),by rw [List.length_append]; have:=hl.2.1; show l.length+1≤_; omega,fun i hi=>?_⟩
   rcases List.mem_append.mp hi with hi | hi
   ·have:=hl.2.2 i hi; omega
   ·rw [List.mem_singleton.mp hi]; omega
theorem yAK {lo hi:Option (List Int)} {m x:Nat} (B:Bnd lo hi) {k:List Int} (hk:k∈shF lo hi m x):gtB lo k=true∧ltB k hi=true:=by
 obtain ⟨c,hc,rfl⟩:=List.mem_map.mp hk
 have hc:=List.mem_range.mp hc
 have go:∀ t:Int,0≤t→t < ((m+x:Nat):Int)→gtB lo (kwAt lo hi ((m+x:Nat):Int) t)=true∧ltB (kwAt lo hi ((m+x:Nat):Int) t) hi=true:=fun t h0 h1=>by
  refine ⟨?_,?_⟩
  ·cases e:lo with
   | none=>rfl
   | some l=>subst e; exact yWM B rfl h0
  ·cases e:hi with
   | none=>rfl
   | some g=>subst e; exact yWN B rfl h1
 rcases yJE (lo:=lo) (hi:=hi) (m:=m) (x:=x) with e | e
 ·rw [e]; exact go _ (by omega) (by omega)
 ·rw [e]; exact go _ (by omega) (by omega)
theorem ySB {lo hi:Option (List Int)} {m x:Nat}:(shF lo hi m x).Pairwise fun a b=>HT.lexLt a b=true:=by
 unfold shF
 rw [List.pairwise_map]
 refine List.Pairwise.imp (fun {a b} h=>?_) List.pairwise_lt_range
 rcases yJE (lo:=lo) (hi:=hi) (m:=m) (x:=x) with e | e
 ·rw [e,e]; exact yEI (by omega)
 ·rw [e,e]; exact yEI (by omega)
theorem yKG {hi:Option (List Int)}:∀ {lo:Option (List Int)} {ks:List (List Int)},ks.Pairwise (fun a b=>HT.lexLt a b=true)→(∀ k∈ks,ltB k hi=true)→(∀ k∈ks,gtB lo k=true)→yNI lo hi ks=none
 | _,[],_,_,_=>rfl
 | lo,k :: ks,pw,h1,h2=>by
  obtain ⟨p1,p2⟩:=List.pairwise_cons.mp pw
  have e:yHQ lo hi k=true:=by
   unfold yHQ
   rw [h2 k (List.mem_cons_self ..),h1 k (List.mem_cons_self ..)]; rfl
  unfold yNI
  rw [e,if_neg (by decide)]
  exact yKG p2 (fun q hq=>h1 q (List.mem_cons_of_mem _ hq)) p1
theorem jQS {U:List (List Int)} {ks:List (List Int)} (h:yII U ks=true):jNL U ks=none:=jSK fun k hk=>by
 have:=List.all_eq_true.mp h k hk
 simpa using this
end LW
set_option maxHeartbeats 4000000
namespace LW
open PySem PySem.Spec PyProof.Rows L2 Lp
theorem yUM {h:AH} {a b:Nat}:fNe h (.int a) (.int b)=some (.bl (a != b)):=by
 refine congrArg (fun b=>some (PV.bl b)) (show (!PyData.eqv (.int a) (.int b))=(a != b) from ?_)
 rw [yJW]
 by_cases e:a=b
 ·subst e; rw [decide_eq_true rfl]; simp
 ·rw [decide_eq_false e]; exact (bne_iff_ne.mpr e).symm
theorem gt_0 {h:AH} {d:Nat}:fGt h (.int d) (.int 0)=some (.bl (decide (0 < d))):=by
 refine congrArg (fun b=>some (PV.bl b)) (show decide ((0:Int) < d)=decide (0 < d) from ?_)
 by_cases e:0 < d
 ·rw [decide_eq_true e]; exact decide_eq_true (by omega)
 ·rw [decide_eq_false e]; exact decide_eq_false (by omega)
theorem yWK {h:AH} {a b:Nat}:fLt h (.int a) (.int b)=some (.bl (decide (a < b))):=by
 refine congrArg (fun b=>some (PV.bl b)) (show decide ((a:Int) < b)=decide (a < b) from ?_)
 by_cases e:a < b
 ·rw [decide_eq_true e]; exact decide_eq_true (by omega)
 ·rw [decide_eq_false e]; exact decide_eq_false (by omega)
theorem jNS {h:AH} {a:Nat}:yO h (.int a) (.int 1)=some (.int ((a+1:Nat):Int)):=add_n (b:=1)
theorem jNP {h:AH} {l:List Nat}:vP h [lnP l]=some (.int (l.length:Nat)):=by
 show some (PV.int ((l.map _).length:Nat))=_
 rw [List.length_map]
theorem yRB {h:AH} {l:List Nat} {i n:Nat} (e:l[i]?=some n):fIx h (lnP l) (.int i)=some (.int n):=ixL (yCY e)
theorem yEG {S:S} {x y:Nat} {l:List Nat} {d:Nat} (hx:S.e[x]?=some (some (lnP l))) (hy:S.e[y]?=some (some (.int d))) (hd:d≤l.length) :
  (jEC (xBM (jJ fGt (jF y) (xEC (.int 0)))) (jJ fIx (jF x) (jJ jEX (jF y) (xEC (.int 1)))) (xEC .non) S).post (fun v s1=>v=sdP (lfA l d)∧s1=S) NE:=by
 refine zN (uO (yC (jQ hy (p_c ⟨_,gt_0,_,rfl,zW (fun t=>?_) fun t=>?_⟩))))
 ·have t:0 < d:=of_decide_eq_true t
  have e1:l[d - 1]?=some (l[d - 1]'(by omega)):=List.getElem?_eq_getElem _
  refine yC (jQ hx (yC (jQ hy (p_c ⟨_,yQT t,_,yRB e1,?_,rfl⟩))))
  unfold lfA
  rw [if_pos t,e1]; rfl
 ·have t:¬ 0 < d:=of_decide_eq_false t
  refine p_c ⟨?_,rfl⟩
  unfold lfA
  rw [if_neg t]; rfl
theorem yDT {S:S} {x y:Nat} {l:List Nat} {d:Nat} (hx:S.e[x]?=some (some (lnP l))) (hy:S.e[y]?=some (some (.int d))) :
  (jEC (xBM (jJ fLt (jF y) (xECB vP (jC (jF x) jK)))) (jJ fIx (jF x) (jF y)) (xEC .non) S).post (fun v s1=>v=sdP l[d]?∧s1=S) NE:=by
 refine zN (uO (yC (jQ hy (qT (jP (jQ hx (yF ⟨_,jNP,_,yWK,_,rfl,zW (fun t=>?_) fun t=>?_⟩)))))))
 ·have t:d < l.length:=of_decide_eq_true t
  have e1:l[d]?=some l[d]:=List.getElem?_eq_getElem _
  refine yC (jQ hx (jQ hy ⟨_,yRB e1,?_,rfl⟩))
  rw [e1]; rfl
 ·have t:¬ d < l.length:=of_decide_eq_false t
  refine p_c ⟨?_,rfl⟩
  rw [List.getElem?_eq_none (by omega)]; rfl
theorem jVO {l:List Nat} {lf rt:Option Nat} {a b:Nat} {h:AH} (ea:stF l lf=some a) (eb:enF l rt=some b):(wN [lnP l,sdP lf,sdP rt] h).post (fun v h'=>v=lnP (yFH l a b)∧h'=h) NE:=by
 have eL:∀ h,vP h [lnP l]=some (.int (l.length:Nat)):=fun h=>jNP
 unfold wN
 rw [jRH]
 unfold jJJ
 refine wV [some (lnP l),some (sdP lf),some (sdP rt),none] rfl ?_
 have eS:∀ h,fSl h (lnP l) (some (a:Int)) (some (b:Int))=some (lnP (yFH l a b)):=fun h=>yPQ
 cases lf with
 | none =>
  have ea:some 0=some a:=ea
  cases ea
  cases rt with
  | none =>
   have eb:some l.length=some b:=eb
   cases eb
   (repeat (first | refine ⟨_,eL _,?_⟩ | refine ⟨_,eS _,?_⟩ | walk_at "p1"))
  | some y =>
   have eb:plF l y=some b:=eb
   (repeat (first | refine yIE (jQ rfl ⟨_,rfl,?_⟩) | refine ⟨_,_,_,_,rfl,yCZ eb,?_⟩ | refine ⟨_,eS _,?_⟩ | walk_at "p1"))
 | some x =>
  cases e:plF l x with
  | none=>rw [show stF l (some x)=(plF l x).map (·+1) from rfl,e] at ea; cases ea
  | some j =>
   rw [show stF l (some x)=(plF l x).map (·+1) from rfl,e] at ea
   cases ea
   cases rt with
   | none =>
    have eb:some l.length=some b:=eb
    cases eb
    (repeat (first | refine yIE (jQ rfl ⟨_,rfl,?_⟩) | refine ⟨_,_,_,_,rfl,yCZ e,?_⟩ | refine ⟨_,eL _,?_⟩ | refine ⟨_,jNS,?_⟩ | refine ⟨_,eS _,?_⟩ | walk_at "p1"))
   | some y =>
    have eb:plF l y=some b:=eb
    (repeat (first | refine yIE (jQ rfl ⟨_,rfl,?_⟩) | refine ⟨_,_,_,_,rfl,yCZ e,?_⟩ | refine ⟨_,_,_,_,rfl,yCZ eb,?_⟩ | refine ⟨_,jNS,?_⟩ | refine ⟨_,eS _,?_⟩ | walk_at "p1"))
end LW
set_option maxHeartbeats 4000000
namespace LW
open PySem PySem.Spec PyProof.Rows L2 Lp
section
variable {h:AH} {n:Nat} {s:Sc} {p:SpecW}
structure Dw (s:Sc) (m:Mo) (V:List (List Int)) (a b:Nat):Prop where
 ok:ScOk s
 hz:ksN s≤16000
 hy:s.mo.length≤10000
 mok:MoOk m
 D:Dis m.ks
 z6:m.ks.length≤6
 sz:∀ k∈m.ks,KyS a b k
 a1:1≤a
 a2:a≤60
 hV:∀ k,(jPS s).contains k=true→k∈V
 hl:V.length≤150
theorem Dw.key {m:Mo} {V:List (List Int)} {a b:Nat} (d:Dw s m V a b) {o:Option Nat} {k:List Int} (e:jBP m o=some k):KyS a b k:=by
 cases o with
 | none=>cases e
 | some n=>exact d.sz _ (List.mem_of_getElem? e)
theorem Dw.szk {m:Mo} {V:List (List Int)} {a b:Nat} (d:Dw s m V a b) {o:Option Nat}:SzK (jBP m o):=fun k e=>by
 have:=(d.key e).2.1
 have:=d.a2
 omega
theorem yNZ {l:List Nat}:uB (l.map fun (n:Nat)=>PV.int n)=true:=yHN fun _=>rfl
theorem jXG {m:Mo} {w q:Nat} (h:q∈jBQ m w):q∈yW m false:=(List.mem_filter.mp h).1
theorem yBZ {m:Mo} {V:List (List Int)} {a b:Nat} (bg:Bg h) (M:Md h n s) (hn:0 < n) (d:Dw s m V a b) (ne:yW m false≠[]) :
  (vZ [.cel 0,mdP p n,moL m] h).post (fun v h'=>(∃ w l r k,v=deP (.drop w l r k)∧jWV s m w l r k=none∧KyS (a+1) (b+1000) k)∧Bg h'∧Off h h') NE:=by
 have hl6:(yW m false).length≤6:=Nat.le_trans jYD d.z6
 unfold vZ
 rw [jLJ]
 unfold jFL
 refine wV [some (.cel 0),some (mdP p n),some (moL m),none,none,none,none,none,none,none,none] rfl ?_
 (repeat walk_at "p1")
 refine jX (jQY d.mok) fun v h1 ⟨ev,eh⟩=>?_
 subst ev eh
 (repeat walk_at "p1")
 refine jX (of0 (f:=fun (n:Nat)=>PV.int n) (xs:=yW m false) bg (by
  cases e:yW m false with
  | nil=>exact absurd e ne
  | cons a r=>exact Nat.succ_le_succ (Nat.zero_le _)) (by omega) yNZ) fun v h2 ⟨⟨w,hw,ev⟩,b2,o2⟩=>?_
 subst ev
 (repeat walk_at "p1")
 refine jGV (α:=Nat) (jDB (jQ rfl ⟨_,rfl,rfl,yW m false,fun (n:Nat)=>PV.int n,fun x=>x != w,rfl,fun q hq=>⟨rfl,_,rfl,?_⟩,?_⟩))
 ·(repeat (first | refine ⟨_,yUM,?_⟩ | walk_at "p1"))
  exact ⟨jQ rfl ⟨rfl,rfl,rfl⟩,rfl,rfl⟩
 rw [show ((yW m false).filter fun x=>x != w).map (fun (n:Nat)=>PV.int n)=(jBQ m w).map fun (n:Nat)=>PV.int n from rfl]
 have hr6:(jBQ m w).length≤(yW m false).length:=List.length_filter_le _ _
 have hrm:∀ q∈jBQ m w,q < m.ks.length:=fun q hq=>jJS (jXG hq)
 (repeat (first | refine ⟨_,jNP (l:=jBQ m w),?_⟩ | refine ⟨_,jNS,?_⟩ | walk_at "p1"))
 refine jX (draw0 (k:=(jBQ m w).length+1) b2 (by omega) (by omega)) fun v h3 ⟨⟨at_,ev,hat⟩,b3,o3⟩=>?_
 subst ev
 (repeat (first | refine jX (yEG (l:=jBQ m w) (d:=at_) rfl rfl (by omega)) ?_ | walk_at "p1"))
 intro v S1 z
 obtain ⟨ev,eS⟩:=z
 subst ev eS
 have hL:SdOk m (lfA (jBQ m w) at_):=fun q e=>hrm q (jUL e)
 have hR:SdOk m (jBQ m w)[at_]?:=fun q e=>hrm q (List.mem_of_getElem? e)
 have hbe:=yHF (l:=jBQ m w) (a:=at_) (by omega)
 have hB:Bnd (jBP m (lfA (jBQ m w) at_)) (jBP m (jBQ m w)[at_]?):=yEY d.mok hrm (yON d.D) (Nat.le_refl _)
 have hi1:=yDR (l:=jBQ m w) (a:=at_)
 have hi2:=yDQ (l:=jBQ m w) (a:=at_)
 refine ⟨jEG _,?_⟩
 dsimp only [List.set_cons_succ,List.set_cons_zero]
 (repeat (first | refine jX (yDT (l:=jBQ m w) (d:=at_) rfl rfl) ?_ | walk_at "p1"))
 intro v S1 z
 obtain ⟨ev,eS⟩:=z
 subst ev eS
 generalize lfA (jBQ m w) at_=L at *
 generalize (jBQ m w)[at_]?=R at *
 refine ⟨jEG _,?_⟩
 dsimp only [List.set_cons_succ,List.set_cons_zero]
 (repeat walk_at "p1")
 have ow:∀ x:Option Nat,([moL m,sdP x].all fun v=>!isOwn v)=true:=fun x=>by
  show (true&&(!isOwn (sdP x)&&true))=true
  rw [jEG]; rfl
 refine ⟨⟨rfl,ow L⟩,jX (jJW hL) fun v h4 ⟨ev,eh⟩=>?_⟩
 subst ev eh
 (repeat walk_at "p1")
 refine ⟨⟨rfl,ow R⟩,jX (jJW hR) fun v h5 ⟨ev,eh⟩=>?_⟩
 subst ev eh
 (repeat walk_at "p1")
 have o13:Off h1 h5:=o2.trans o3
 refine ⟨⟨rfl,by
  show (true&&(true&&(!isOwn (okV (jBP m L))&&(!isOwn (okV (jBP m R))&&true))))=true
  rw [jNO,jNO]; rfl⟩,jX (jQZ (m:=1) (V:=V) b3 (M.off o13 hn) d.ok d.hz d.hy hB d.szk d.szk (by decide) d.hV d.hl) fun v h6 ⟨⟨x,hx,ev,hf⟩,b6,o6⟩=>?_⟩
 subst ev
 have e6:∀ h,fIx h (.lst ((shF (jBP m L) (jBP m R) 1 x).map kP)) (.int 0)=some (kP (shK (jBP m L) (jBP m R) 1 x (0:Nat))):=fun h=>rfl
 (repeat (first | refine ⟨_,e6 _,?_⟩ | walk_at "p1"))
 refine ⟨⟨by
  show (true&&(true&&(!isOwn (sdP L)&&(!isOwn (sdP R)&&(true&&true)))))=true
  rw [jEG,jEG]; rfl,Nat.le_of_ble_eq_true rfl⟩,rfl,⟨w,L,R,_,rfl,?_,?_⟩,b6,o13.trans o6⟩
 ·have hk:shK (jBP m L) (jBP m R) 1 x (0:Nat)∈shF (jBP m L) (jBP m R) 1 x:=List.mem_map.mpr ⟨0,by simp,rfl⟩
  obtain ⟨g1,g2⟩:=yAK hB hk
  unfold jWV
  rw [if_neg (by rw [List.contains_iff_mem.mpr hw]; decide)]
  have nn:jIJ (jBQ m w) [L,R]=none:=by
   unfold jIJ
   rw [if_pos hi1]
   unfold jIJ
   rw [if_pos hi2]; rfl
  rw [nn]
  show (if jPP (jBQ m w) L R=false then _ else _)=none
  rw [if_neg (by rw [hbe]; decide),if_neg (by unfold yHQ; rw [g1,g2]; decide)]
  exact jQS hf
 ·have:=yJD (lo:=jBP m L) (hi:=jBP m R) (m:=1) (x:=x) (c:=0) d.a1 (fun l e=>d.key e) (fun l e=>d.key e) (by decide)
  exact ⟨this.1,this.2.1,fun i hi=>Nat.le_trans (this.2.2 i hi) (by omega)⟩
end
end LW
set_option maxHeartbeats 4000000
namespace LW
open PySem PySem.Spec PyProof.Rows L2 Lp
theorem yUN {h:AH} {l:List Nat}:fNe h (lnP l) (.lst [])=some (.bl (!l.isEmpty)):=by
 unfold fNe
 rw [show jEW h (lnP l)=some (.list (l.map fun (n:Nat)=>PyData.int n)) from by
  show (toDs (l.map fun (n:Nat)=>PV.int n)).map PyData.list=_
  rw [yVE]; rfl,show jEW h (.lst [])=some (.list []) from rfl]
 show (if (dOk (.list (l.map fun (n:Nat)=>PyData.int n))&&dOk (.list []))=true then some (PV.bl (!PyData.eqv (.list (l.map fun (n:Nat)=>PyData.int n)) (.list []))) else none)=_
 rw [yJQ]
 cases l <;> rfl
theorem yAM {x:Nat}:∀ {l:List Nat} {i:Nat},l.Nodup→l[i]?=some x→plF l x=some i
 | [],_,_,e=>by cases e
 | a :: r,0,_,e=>by
  cases e
  show (if x=x then some 0 else _)=_
  rw [if_pos rfl]
 | a :: r,i+1,d,e=>by
  obtain ⟨d1,d2⟩:=List.nodup_cons.mp d
  have e:r[i]?=some x:=e
  have ne:a≠x:=fun z=>d1 (by rw [z]; exact List.mem_of_getElem? e)
  show (if a=x then some 0 else (plF r x).map (·+1))=_
  rw [if_neg ne,yAM d2 e]; rfl
theorem yVP {l:List Nat} {a:Nat} (d:l.Nodup) (h:a≤l.length):stF l (lfA l a)=some a:=by
 unfold lfA
 by_cases e:0 < a
 ·rw [if_pos e]
  have e1:l[a - 1]?=some (l[a - 1]'(by omega)):=List.getElem?_eq_getElem _
  rw [e1]
  show (plF l _).map (·+1)=_
  rw [yAM d e1]
  show some (a - 1+1)=some a
  rw [Nat.sub_add_cancel e]
 ·rw [if_neg e,show a=0 by omega]; rfl
theorem yWT {l:List Nat} {a:Nat} (d:l.Nodup) (h:a≤l.length):enF l l[a]?=some a:=by
 by_cases e:a < l.length
 ·have e1:l[a]?=some l[a]:=List.getElem?_eq_getElem _
  rw [e1]
  exact yAM d e1
 ·rw [List.getElem?_eq_none (by omega),show a=l.length by omega]; rfl
theorem yPM {l:List Nat} {a b:Nat} (h:b≤l.length):(yFH l a b).length=b - a:=by
 unfold yFH
 rw [List.length_drop,List.length_take,Nat.min_eq_left h]
theorem yQH {h:AH} {ks:List (List Int)}:kJ h [.lst (ks.map kP)]=some (.tup (ks.map kP)):=rfl
section
variable {h:AH} {n:Nat} {s:Sc} {p:SpecW}
theorem yGN {m:Mo} {V:List (List Int)} {a b:Nat} (bg:Bg h) (M:Md h n s) (hn:0 < n) (d:Dw s m V a b) :
  (vK [.cel 0,mdP p n,moL m] h).post (fun v h'=>(∃ l r ks,v=deP (.num l r ks)∧yHR p s m l r ks=none∧ks.length≤6∧∀ k∈ks,KyS (a+1) (b+1000) k)∧Bg h'∧Off h h') NE:=by
 have hl6:(yW m p.h).length≤6:=Nat.le_trans jYD d.z6
 have s3:∀ h,fIx h p.v (.int 3)=some (.bl p.h):=fun h=>rfl
 have s2:∀ h,fIx h p.v (.int 2)=some (.bl p.s):=fun h=>rfl
 unfold vK
 rw [jJN]
 unfold jEB
 refine wV [some (.cel 0),some (mdP p n),some (moL m),none,none,none,none,none,none,none] rfl ?_
 (repeat (first | refine ⟨_,md0,?_⟩ | refine ⟨_,s3 _,?_⟩ | walk_at "p1"))
 refine jX (jQY d.mok) fun v h1 ⟨ev,eh⟩=>?_
 subst ev eh
 have hnd:(yW m p.h).Nodup:=jRA
 have hrm:∀ q∈yW m p.h,q < m.ks.length:=fun q hq=>jJS hq
 have hpw:(yW m p.h).Pairwise (LtK m.ks):=yED d.D
 refine ⟨rfl,yS (yJK (kW (jP (p_c (jP (p_c (yF ⟨⟨rfl,Nat.le_of_ble_eq_true rfl⟩,rfl,_,rfl,?_⟩)))))))⟩
 dsimp only [List.set_cons_succ,List.set_cons_zero]
 refine yS (jX (P':=fun fl s1=>fl=.nx∧∃ x y x6 x7,x≤y∧y≤(yW m p.h).length∧(p.s=true∨(lfA (yW m p.h) x=none∧(yW m p.h)[y]?=none))∧Bg s1.h∧Off h1 s1.h∧s1.e=[some (.cel 0),some (mdP p n),some (moL m),some (lnP (yW m p.h)),some (sdP (lfA (yW m p.h) x)),some (sdP (yW m p.h)[y]?),x6,x7,none,none]) ?_ ?_)
 ·have leave:∀ S:S,S.h=h1→S.e=[some (.cel 0),some (mdP p n),some (moL m),some (lnP (yW m p.h)),some .non,some .non,none,none,none,none]→∃ x y x6 x7,x≤y∧y≤(yW m p.h).length∧(p.s=true∨(lfA (yW m p.h) x=none∧(yW m p.h)[y]?=none))∧Bg S.h∧Off h1 S.h∧S.e=[some (.cel 0),some (mdP p n),some (moL m),some (lnP (yW m p.h)),some (sdP (lfA (yW m p.h) x)),some (sdP (yW m p.h)[y]?),x6,x7,none,none]:=fun S e1 e2=>by
   have en:(yW m p.h)[(yW m p.h).length]?=none:=List.getElem?_eq_none (Nat.le_refl _)
   exact ⟨0,(yW m p.h).length,none,none,Nat.zero_le _,Nat.le_refl _,.inr ⟨rfl,en⟩,by rw [e1]; exact bg,by rw [e1]; exact Off.refl,by rw [en,e2]; rfl⟩
  (repeat (first | refine ⟨_,md0,?_⟩ | refine ⟨_,s2 _,?_⟩ | walk_at "p1"))
  refine zW (fun t=>?_) fun t=>?_
  ·(repeat (first | refine ⟨_,yUN,?_⟩ | walk_at "p1"))
   refine zW (fun t2=>?_) fun t2=>?_
   ·(repeat (first | refine ⟨_,jNP,?_⟩ | refine ⟨_,jNS,?_⟩ | walk_at "p1"))
    refine jX (draw0 (k:=(yW m p.h).length+1) bg (by omega) (by omega)) fun v h3 ⟨⟨x,ev,hx⟩,b3,o3⟩=>?_
    subst ev
    (repeat (first | refine ⟨_,jNP,?_⟩ | refine ⟨_,jNS,?_⟩ | refine ⟨_,yQT (Nat.le_of_lt hx),?_⟩ | walk_at "p1"))
    refine jX (draw0 (k:=(yW m p.h).length+1 - x) b3 (by omega) (by omega)) fun v h4 ⟨⟨y,ev,hy⟩,b4,o4⟩=>?_
    subst ev
    (repeat (first | refine ⟨_,add_n,?_⟩ | refine jX (yEG (l:=yW m p.h) (d:=x) rfl rfl (by omega)) ?_ | walk_at "p1"))
    intro v S1 z
    obtain ⟨ev,eS⟩:=z
    subst ev eS
    refine ⟨jEG _,?_⟩
    dsimp only [List.set_cons_succ,List.set_cons_zero]
    (repeat (first | refine jX (yDT (l:=yW m p.h) (d:=x+y) rfl rfl) ?_ | walk_at "p1"))
    intro v S1 z
    obtain ⟨ev,eS⟩:=z
    subst ev eS
    refine ⟨jEG _,rfl,x,x+y,_,_,by omega,by omega,.inl t,b4,o3.trans o4,rfl⟩
   ·(repeat walk_at "p1")
    exact leave ⟨_,_⟩ rfl rfl
  ·(repeat walk_at "p1")
   exact leave ⟨_,_⟩ rfl rfl
 ·intro fl S1 z
  obtain ⟨se,sh⟩:=S1
  obtain ⟨ef,x,y,x6,x7,hxy,hyl,hwt,b2,o2,ee⟩:=z
  have ee:se=_:=ee
  have b2:Bg sh:=b2
  have o2:Off h1 sh:=o2
  subst ef ee
  have hL:SdOk m (lfA (yW m p.h) x):=fun q e=>hrm q (jUL e)
  have hR:SdOk m (yW m p.h)[y]?:=fun q e=>hrm q (List.mem_of_getElem? e)
  have hB:Bnd (jBP m (lfA (yW m p.h) x)) (jBP m (yW m p.h)[y]?):=yEY d.mok hrm hpw hxy
  have hi1:=yDR (l:=yW m p.h) (a:=x)
  have hi2:=yDQ (l:=yW m p.h) (a:=y)
  have hst:=yVP (a:=x) hnd (by omega)
  have hen:=yWT (a:=y) hnd hyl
  have hlen:=yPM (a:=x) hyl
  generalize lfA (yW m p.h) x=L at *
  generalize (yW m p.h)[y]?=R at *
  (repeat walk_at "p1")
  refine ⟨⟨rfl,by
   show (true&&(!isOwn (sdP L)&&(!isOwn (sdP R)&&true)))=true
   rw [jEG,jEG]; rfl⟩,jX (jVO hst hen) fun v h4 ⟨ev,eh⟩=>?_⟩
  subst ev eh
  refine ⟨rfl,?_⟩
  dsimp only [List.set_cons_succ,List.set_cons_zero]
  have ow:∀ x:Option Nat,([moL m,sdP x].all fun v=>!isOwn v)=true:=fun x=>by
   show (true&&(!isOwn (sdP x)&&true))=true
   rw [jEG]; rfl
  (repeat walk_at "p1")
  refine ⟨⟨rfl,ow L⟩,jX (jJW hL) fun v h4 ⟨ev,eh⟩=>?_⟩
  subst ev eh
  (repeat walk_at "p1")
  refine ⟨⟨rfl,ow R⟩,jX (jJW hR) fun v h5 ⟨ev,eh⟩=>?_⟩
  subst ev eh
  (repeat (first | refine ⟨_,jNP (l:=yFH (yW m p.h) x y),?_⟩ | walk_at "p1"))
  rw [hlen]
  refine ⟨⟨rfl,by
   show (true&&(true&&(!isOwn (okV (jBP m L))&&(!isOwn (okV (jBP m R))&&(true&&true)))))=true
   rw [jNO,jNO]; rfl⟩,jX (jQZ (m:=y - x) (V:=V) b2 (M.off o2 hn) d.ok d.hz d.hy hB d.szk d.szk (by omega) d.hV d.hl) fun v h6 ⟨⟨q,hq,ev,hf⟩,b6,o6⟩=>?_⟩
  subst ev
  (repeat (first | refine ⟨_,yQH,?_⟩ | walk_at "p1"))
  have hkl:(shF (jBP m L) (jBP m R) (y - x) q).length=y - x:=by unfold shF; rw [List.length_map,List.length_range]
  refine ⟨⟨by
   show (true&&(!isOwn (sdP L)&&(!isOwn (sdP R)&&(true&&true))))=true
   rw [jEG,jEG]; rfl,Nat.le_of_ble_eq_true rfl⟩,rfl,⟨L,R,_,rfl,?_,by omega,fun k hk=>?_⟩,b6,o2.trans o6⟩
  ·have nn:jIJ (yW m p.h) [L,R]=none:=by
    unfold jIJ
    rw [if_pos hi1]
    unfold jIJ
    rw [if_pos hi2]; rfl
   have wt:wtB p L R=false:=by
    rw [yRR]
    rcases hwt with e | ⟨e1,e2⟩
    ·rw [e]; rfl
    ·rw [e1,e2]; cases p.s <;> rfl
   unfold yHR
   rw [nn]
   show (if wtB p L R=true then _ else _)=none
   rw [wt,if_neg (by decide),hst,hen]
   show (if y < x then _ else if (shF (jBP m L) (jBP m R) (y - x) q).length≠y - x then _ else _)=none
   rw [if_neg (by omega),if_neg (fun z=>z hkl),yKG ySB (fun k hk=>(yAK hB hk).2) fun k hk=>(yAK hB hk).1]
   exact jQS hf
  ·obtain ⟨c,hc,rfl⟩:=List.mem_map.mp hk
   have hc:=List.mem_range.mp hc
   have:=yJD (lo:=jBP m L) (hi:=jBP m R) (m:=y - x) (x:=q) (c:=c) d.a1 (fun l e=>d.key e) (fun l e=>d.key e) (by omega)
   exact ⟨this.1,this.2.1,fun i hi=>Nat.le_trans (this.2.2 i hi) (by omega)⟩
end
end LW
set_option maxHeartbeats 4000000
namespace LW
open PySem PySem.Spec PyProof.Rows L2 Lp TL
section
theorem yUS {ds:List Nat} (h:NumText.AllDigits ds):jLP ds=true:=by
 refine List.all_eq_true.mpr fun c hc=>decide_eq_true ?_
 have:=h c hc
 rw [jTB]
 simp only [List.mem_cons,List.not_mem_nil,or_false]
 omega
theorem yGM {n:Nat} (h:n < 10 ^ 19):jEZ (numL n)=true∧jEF (numL n)=true:=by
 have h1:1≤(numL n).length:=List.length_pos_iff.mpr (numL_ne n)
 have h2:(numL n).length≤19:=numL_len (by decide) h
 refine ⟨?_,(jHH _ rfl (numL_digits n) (numL_ne n)).mp (by rw [numL_val])⟩
 unfold jEZ
 rw [decide_eq_true h1,decide_eq_true h2,yUS (numL_digits n)]; rfl
theorem jNW {n:Nat}:(numL n).head?≠some 45:=fun e=>by
 cases q:numL n with
 | nil=>rw [q] at e; cases e
 | cons c r =>
  rw [q] at e
  injection e with e
  have:=numL_digits n c (by rw [q]; exact List.mem_cons_self ..)
  omega
theorem yMA {i:Int} (h:i.natAbs < 10 ^ 19):jNI (tl (sI i))=some i:=by
 obtain ⟨g,p⟩:=yGM h
 rcases Int.natAbs_eq i with e | e
 ·have et:tl (sI i)=numL i.natAbs:=by rw [e,jFD]; rfl
  have ed:digs (numL i.natAbs)=numL i.natAbs:=by unfold digs; rw [if_neg jNW]
  have en:¬ numL i.natAbs=[45,48]:=fun z=>jNW (by rw [z]; rfl)
  rw [et]
  unfold jNI jNH
  rw [ed,g,p,decide_eq_false en,if_neg jNW,numL_val]
  exact congrArg some e.symm
 ·rcases Nat.eq_zero_or_pos i.natAbs with z | z
  ·have e0:i=((0:Nat):Int):=by omega
   rw [e0,jFD]
   decide +kernel
  ·have et:tl (sI i)=45 :: numL i.natAbs:=by
    have:=jPY z
    rw [← e] at this
    exact this
   have ed:digs (45 :: numL i.natAbs)=numL i.natAbs:=rfl
   have en:¬ (45 :: numL i.natAbs=[45,48]):=fun y=>by
    injection y with _ y
    have:=congrArg NumText.digitsVal y
    rw [numL_val] at this
    have e0:NumText.digitsVal [48]=0:=rfl
    omega
   rw [et]
   unfold jNI jNH
   rw [ed,g,p,decide_eq_false en,numL_val]
   exact congrArg some e.symm
end
end LW
set_option maxHeartbeats 4000000
namespace LW
open PySem PySem.Spec PyProof.Rows L2 Lp TL
section
theorem jIY {i:Int} {c:Nat} (h:c∈tl (sI i)):c=45∨(48≤c∧c≤57):=by
 rcases Int.natAbs_eq i with e | e
 ·rw [e,jFD] at h
  exact .inr (numL_digits _ c h)
 ·rcases Nat.eq_zero_or_pos i.natAbs with z | z
  ·have e0:i=((0:Nat):Int):=by omega
   rw [e0,jFD] at h
   exact .inr (numL_digits _ c h)
  ·rw [e,jPY z] at h
   rcases List.mem_cons.mp h with q | q
   ·exact .inl q
   ·exact .inr (numL_digits _ c q)
def jEJ (k:List Int):Str:=Txt.join "." (k.map sI)
def jCU (a:Option Nat):Str:=match a with | some n=>sI (n:Nat) | none => "-"
theorem jSW {i:Int} (h:i.natAbs < 10 ^ 19):wO (sI i)=.int i:=by
 unfold wO
 rw [yMA h]
theorem yNU {k:List Int} (hk:k≠[]):spD (jEJ k)=k.map sI:=by
 unfold spD jEJ
 refine split_join (s:=46) (S:=[]) jKV (by decide +kernel) (by simpa using hk) fun p hp=>?_
 obtain ⟨i,_,rfl⟩:=List.mem_map.mp hp
 intro hc
 rcases jIY hc with q | q <;> omega
theorem yGP {k:List Int} (hk:k≠[]) (hi:∀ i∈k,i.natAbs≤1000000000000000000):jBO (jEJ k)=kP k:=by
 unfold jBO
 rw [yNU hk,List.map_map]
 show PV.tup (k.map (wO ∘ sI))=.tup (k.map .int)
 exact congrArg PV.tup (List.map_congr_left fun i him=>jSW (show i.natAbs < 10 ^ 19 from Nat.lt_of_le_of_lt (hi i him) (by decide +kernel)))
theorem yOL {n:Nat}:sI (n:Nat) ≠ "-" := fun e=>by
 have:=congrArg tl e
 rw [jFD,dash] at this
 have h:=numL_digits n 45 (by rw [this]; exact List.mem_cons_self ..)
 omega
theorem jFH {a:Option Nat} (h:∀ n,a=some n→n≤39):yJ (jCU a)=sdP a:=by
 cases a with
 | none=>rfl
 | some n =>
  have hn:=h n rfl
  show yJ (sI (n:Nat))=.int (n:Nat)
  have e:=jSW (i:=(n:Nat)) (show ((n:Nat):Int).natAbs < 10 ^ 19 from Nat.lt_of_le_of_lt (show ((n:Nat):Int).natAbs≤39 from by omega) (by decide +kernel))
  unfold yJ
  rw [if_neg yOL,e,if_pos]
  show (decide ((0:Int)≤(n:Nat))&&decide (((n:Nat):Int)≤39))=true
  rw [decide_eq_true (by omega),decide_eq_true (by omega)]; rfl
end
end LW
set_option maxHeartbeats 4000000
namespace LW
open PySem PySem.Spec PyProof.Rows L2 Lp TL
section
theorem jQL {s:Nat}:∀ {ps:List (List Nat)} {c:Nat},c∈joinL [s] ps→c=s∨∃ p∈ps,c∈p
 | [],c,h=>by cases h
 | [p],c,h=>.inr ⟨p,List.mem_singleton.mpr rfl,h⟩
 | p :: q :: r,c,h=>by
  rcases List.mem_append.mp (show c∈p++([s]++joinL [s] (q :: r)) from h) with z | z
  ·exact .inr ⟨p,List.mem_cons_self ..,z⟩
  ·rcases List.mem_append.mp z with z | z
   ·exact .inl (List.mem_singleton.mp z)
   ·rcases jQL z with z | ⟨y,hy,z⟩
    ·exact .inl z
    ·exact .inr ⟨y,List.mem_cons_of_mem _ hy,z⟩
theorem yCA {k:List Int} {c:Nat} (h:c∈tl (jEJ k)):c=46∨c=45∨(48≤c∧c≤57):=by
 unfold jEJ at h
 rw [join_eq,tl_join,jKV] at h
 rcases jQL h with z | ⟨p,hp,z⟩
 ·exact .inl z
 ·obtain ⟨w,hw,rfl⟩:=List.mem_map.mp hp
  obtain ⟨i,_,rfl⟩:=List.mem_map.mp hw
  exact .inr (jIY z)
theorem jOV {a:Option Nat} {c:Nat} (h:c∈tl (jCU a)):c=45∨(48≤c∧c≤57):=by
 cases a with
 | none =>
  have h:c∈tl "-" := h
  rw [dash] at h
  exact .inl (List.mem_singleton.mp h)
 | some n=>exact jIY h
structure KeyR (k:List Int):Prop where
 ne:k≠[]
 l:k.length≤40
 i:∀ i∈k,i.natAbs≤1000000000000000000
theorem KeyR.b {k:List Int} (h:KeyR k):keyB (kP k)=true:=by
 have h1:1≤k.length:=List.length_pos_iff.mpr h.ne
 refine yME (xs:=k.map PV.int) (fun x hx=>?_) (by rw [List.length_map]; exact h1) (by rw [List.length_map]; exact h.l)
 obtain ⟨i,hi,rfl⟩:=List.mem_map.mp hx
 have:=h.i i hi
 exact ⟨i,rfl,by omega,by omega⟩
theorem KeyR.v {k:List Int} (h:KeyR k):keyV (jEJ k)=kP k:=by
 have e:=yGP h.ne h.i
 rw [jUN (by rw [e]; exact h.b),e]
def SideR (a:Option Nat):Prop:=∀ n,a=some n→n≤39
def DeR:De→Prop
 | .drop w l r k=>w≤39∧SideR l∧SideR r∧KeyR k
 | .num l r ks=>SideR l∧SideR r∧ks.length≤40∧∀ k∈ks,KeyR k
 | .strike w=>w≤39
 | .back w=>w≤39
def deT:De→List Str
 | .drop w l r k=>["drop", sI (w:Nat),jCU l,jCU r,jEJ k]
 | .num l r ks => "number" :: jCU l :: jCU r :: ks.map jEJ
 | .strike w=>["strike", sI (w:Nat)]
 | .back w=>["back", sI (w:Nat)]
theorem jQK {w:Nat} (h:w≤39):yJ (sI (w:Nat))=.int (w:Nat):=jFH (a:=some w) fun n e=>by cases e; exact h
theorem jMI {d:De} (h:DeR d):inV (deT d)=deP d:=by
 cases d with
 | drop w l r k =>
  obtain ⟨h1,h2,h3,h4⟩:=h
  show inV ["drop", sI (w:Nat),jCU l,jCU r,jEJ k]=_
  rw [jMH,if_neg yXA.1]
  show PV.tup [.str "drop", yJ (sI (w:Nat)),yJ (jCU l),yJ (jCU r),keyV (jEJ k)]=_
  rw [jQK h1,jFH h2,jFH h3,h4.v]; rfl
 | num l r ks =>
  obtain ⟨h2,h3,h4,h5⟩:=h
  show inV ("number" :: jCU l :: jCU r :: ks.map jEJ)=_
  rw [jMH,if_pos rfl,jFH h2,jFH h3,List.map_map]
  show PV.tup [.str "number", sdP l,sdP r,.tup (ks.map (keyV ∘ jEJ))]=.tup [.str "number", sdP l,sdP r,.tup (ks.map kP)]
  have e:ks.map (keyV ∘ jEJ)=ks.map kP:=List.map_congr_left fun k hk=>(h5 k hk).v
  rw [e]
 | strike w =>
  show PV.tup [.str "strike", yJ (sI (w:Nat))]=_
  rw [jQK h]; rfl
 | back w =>
  show PV.tup [.str "back", yJ (sI (w:Nat))]=_
  rw [jQK h]; rfl
theorem jQM {d:De} {w:Str} {c:Nat} (hw:w∈deT d) (hc:c∈tl w):c≠32∧c < 128:=by
 have lit:∀ {x:Str},(tl x).all (fun c=>decide (c≠32∧c < 128))=true→c∈tl x→c≠32∧c < 128:=fun {x} q z=>of_decide_eq_true (List.all_eq_true.mp q c z)
 have s1:∀ {i:Int},c∈tl (sI i)→c≠32∧c < 128:=fun z=>by rcases jIY z with q | q <;> omega
 have s2:∀ {a:Option Nat},c∈tl (jCU a)→c≠32∧c < 128:=fun z=>by rcases jOV z with q | q <;> omega
 have s3:∀ {k:List Int},c∈tl (jEJ k)→c≠32∧c < 128:=fun z=>by rcases yCA z with q | q | q <;> omega
 cases d with
 | drop r a b k =>
  simp only [deT,List.mem_cons,List.not_mem_nil,or_false] at hw
  rcases hw with rfl | rfl | rfl | rfl | rfl
  ·exact lit (by decide +kernel) hc
  ·exact s1 hc
  ·exact s2 hc
  ·exact s2 hc
  ·exact s3 hc
 | num a b ks =>
  simp only [deT,List.mem_cons] at hw
  rcases hw with rfl | rfl | rfl | hw
  ·exact lit (by decide +kernel) hc
  ·exact s2 hc
  ·exact s2 hc
  ·obtain ⟨k,_,rfl⟩:=List.mem_map.mp hw
   exact s3 hc
 | strike r =>
  simp only [deT,List.mem_cons,List.not_mem_nil,or_false] at hw
  rcases hw with rfl | rfl
  ·exact lit (by decide +kernel) hc
  ·exact s1 hc
 | back r =>
  simp only [deT,List.mem_cons,List.not_mem_nil,or_false] at hw
  rcases hw with rfl | rfl
  ·exact lit (by decide +kernel) hc
  ·exact s1 hc
def txD (d:De):Str:=Txt.join " " (deT d)
theorem yNS (d:De):spW (txD d)=deT d:=by
 unfold spW txD
 refine split_join (s:=32) (S:=[]) jLR (by decide +kernel) (by cases d <;> simp [deT]) fun p hp hc=>?_
 exact (jQM hp hc).1 rfl
end
end LW
set_option maxHeartbeats 4000000
namespace LW
open PySem PySem.Spec PyProof.Rows L2 Lp TL
section
theorem sum_le {n:Nat}:∀ {l:List Nat},(∀ x∈l,x≤n)→l.sum≤l.length * n
 | [],_=>by simp
 | x :: l,h=>by
  have h1:=h x (List.mem_cons_self ..)
  have h2:=sum_le (l:=l) fun y hy=>h y (List.mem_cons_of_mem _ hy)
  rw [List.sum_cons,List.length_cons,Nat.add_mul]
  omega
theorem jJX {s n:Nat}:∀ {ps:List (List Nat)},(∀ p∈ps,p.length≤n)→(joinL [s] ps).length≤ps.length * (n+1)
 | [],_=>by simp [joinL]
 | [p],h=>by
  have h1:=h p (List.mem_cons_self ..)
  show p.length≤1 * (n+1)
  omega
 | p :: q :: r,h=>by
  have h1:=h p (List.mem_cons_self ..)
  have h2:=jJX (s:=s) (ps:=q :: r) fun y hy=>h y (List.mem_cons_of_mem _ hy)
  show (p++([s]++joinL [s] (q :: r))).length≤_
  rw [List.length_append,List.length_append,List.length_cons (a:=p),Nat.add_mul]
  show p.length+(1+_)≤_
  omega
theorem strs_map (l:List Str):strsOf (l.map .str)=some l:=by
 unfold strsOf
 induction l with
 | nil=>rfl
 | cons x l ih =>
  rw [List.map_cons,List.mapM_cons,ih]; rfl
theorem jMC {h:AH} {sep:Str} {s n:Nat} (h2:n≤2000) (es:tl sep=[s]) (hs:s < 128) {l:List Str} (hl:l.length≤100) (hw:∀ w∈l,(tl w).length≤n∧∀ c∈tl w,c < 128):jBR h sep [.lst (l.map .str)]=some (.str (Txt.join sep l))∧(tl (Txt.join sep l)).length≤l.length * (n+1)∧∀ c∈tl (Txt.join sep l),c < 128:=by
 have ls:sep.length=1:=by rw [jBI,es]; rfl
 have et:tl (Txt.join sep l)=joinL [s] (l.map tl):=by rw [join_eq,tl_join,es]
 have hn:(tl (Txt.join sep l)).length≤l.length * (n+1):=by
  rw [et]
  have:=jJX (s:=s) (n:=n) (ps:=l.map tl) fun p hp=>by
   obtain ⟨w,hm,rfl⟩:=List.mem_map.mp hp
   exact (hw w hm).1
  rw [List.length_map] at this
  exact this
 have hc:∀ c∈tl (Txt.join sep l),c < 128:=fun c hc=>by
  rw [et] at hc
  rcases jQL hc with z | ⟨p,hp,z⟩
  ·omega
  ·obtain ⟨w,hm,rfl⟩:=List.mem_map.mp hp
   exact (hw w hm).2 c z
 refine ⟨?_,hn,hc⟩
 have hsum:(l.map (·.length)).sum≤(l.map (·.length)).length * n:=sum_le fun x hx=>by
  obtain ⟨w,hm,rfl⟩:=List.mem_map.mp hx
  rw [jBI]
  exact (hw w hm).1
 rw [List.length_map] at hsum
 have b1:l.length * n≤100 * 2000:=Nat.mul_le_mul hl h2
 have b2:l.length * (n+1)≤100 * 2001:=Nat.mul_le_mul hl (by omega)
 have ok:PyData.strOk (Txt.join sep l)=true:=by
  unfold PyData.strOk
  rw [← Array.all_toList,List.all_eq_true]
  exact fun c q=>decide_eq_true (by have:=hc c q; omega)
 show (strsOf (l.map .str)).bind _=_
 rw [strs_map]
 show (if (l.map (·.length)).sum+l.length * sep.length≤16777216∧PyData.strOk (Txt.join sep l)=true∧(Txt.join sep l).length≤sizeLine then some (PV.str (Txt.join sep l)) else none)=_
 rw [if_pos ⟨by rw [ls]; omega,ok,by rw [jBI,sizeLine_eq]; omega⟩]
end
end LW
set_option maxHeartbeats 4000000
namespace LW
open PySem PySem.Spec PyProof.Rows L2 Lp TL
section
theorem jQA {i:Int} (h:i.natAbs≤1000000000000000000):(tl (sI i)).length≤20∧∀ c∈tl (sI i),c < 128:=by
 refine ⟨?_,fun c hc=>by rcases jIY hc with q | q <;> omega⟩
 have hl:(numL i.natAbs).length≤19:=numL_len (by decide) (Nat.lt_of_le_of_lt h (by decide +kernel))
 rcases Int.natAbs_eq i with e | e
 ·rw [e,jFD]
  have:(numL i.natAbs).length≤20:=by omega
  exact this
 ·rcases Nat.eq_zero_or_pos i.natAbs with z | z
  ·have e0:i=((0:Nat):Int):=by omega
   rw [e0,jFD,numL_lt (by decide)]
   decide
  ·have et:tl (sI i)=45 :: numL i.natAbs:=by
    have:=jPY z
    rw [← e] at this
    exact this
   rw [et,List.length_cons]
   omega
theorem jYJ {k:List Int} (h:KeyR k):(tl (jEJ k)).length≤840∧∀ c∈tl (jEJ k),c < 128:=by
 have hl:=h.l
 obtain ⟨_,h2,h3⟩:=jMC (h:=[]) (n:=20) (by decide) jKV (by decide) (l:=k.map sI) (by rw [List.length_map]; omega) fun w hw=>by
  obtain ⟨i,hi,rfl⟩:=List.mem_map.mp hw
  exact jQA (h.i i hi)
 rw [List.length_map] at h2
 have b:k.length * (20+1)≤40 * 21:=Nat.mul_le_mul hl (Nat.le_refl _)
 exact ⟨Nat.le_trans h2 b,h3⟩
theorem jTA {k:List Int} {h:AH} (q:KeyR k):(qR [kP k] h).post (fun v h'=>v=.str (jEJ k)∧h'=h) NE:=by
 unfold qR
 rw [jZA]
 unfold jOT
 refine wV [some (kP k),none] rfl ?_
 have hl:=q.l
 have j:=(jMC (h:=h) (n:=20) (by decide) jKV (by decide) (l:=k.map sI) (by rw [List.length_map]; omega) fun w hw=>by
  obtain ⟨i,hi,rfl⟩:=List.mem_map.mp hw
  exact jQA (q.i i hi)).1
 refine vM (jKE (p_c ⟨".", rfl,jP (jAX (jBW (α:=Int) (jDB (jQ rfl ⟨_,rfl,rfl,k,PV.int,fun i=>.str (sI i),rfl,fun i hi=>⟨rfl,_,rfl,rfl,qT (jP (jQ rfl (yF ⟨_,jTT (Nat.lt_of_le_of_lt (q.i i hi) (by decide +kernel)),rfl,rfl,rfl⟩)))⟩,?_⟩))))⟩))
 have e:(k.map fun i=>PV.str (sI i))=(k.map sI).map PV.str:=by rw [List.map_map]; rfl
 rw [e]
 exact yF ⟨_,j,rfl,rfl,rfl⟩
theorem jHG {a:Option Nat} {h:AH} (q:SideR a):(uE [sdP a] h).post (fun v h'=>v=.str (jCU a)∧h'=h) NE:=by
 unfold uE
 rw [jUU]
 unfold jMM
 refine wV [some (sdP a)] rfl ?_
 cases a with
 | none=>exact vM (zN (uO (yC (jQ rfl (p_c ⟨_,rfl,_,rfl,vR rfl (p_c ⟨rfl,rfl,rfl⟩)⟩)))))
 | some n =>
  have hn:=q n rfl
  refine vM (zN (uO (yC (jQ rfl (p_c ⟨_,rfl,_,rfl,vX rfl (qT (jP (jQ rfl (yF ⟨_,jTT (i:=(n:Nat)) ?_,rfl,rfl,rfl⟩))))⟩)))))
  exact Nat.lt_of_le_of_lt (show ((n:Nat):Int).natAbs≤39 by omega) (by decide +kernel)
end
end LW
set_option maxHeartbeats 4000000
namespace LW
open PySem PySem.Spec PyProof.Rows L2 Lp TL
section
theorem jTL {w:Nat} (h:w≤39):jDH (.int (w:Nat))=true:=by
 show (decide ((0:Int)≤(w:Nat))&&decide (((w:Nat):Int)≤39))=true
 rw [decide_eq_true (by omega),decide_eq_true (by omega)]; rfl
theorem yCV {a:Option Nat} (h:SideR a):uN (sdP a)=true:=by
 cases a with
 | none=>rfl
 | some n=>exact jMF (jTL (h n rfl))
theorem yRP {d:De} (h:DeR d):jDC (deP d)=true:=by
 cases d with
 | drop w l r k =>
  obtain ⟨h1,h2,h3,h4⟩:=h
  show cond (wIn "drop") (jRQ [.int w,sdP l,sdP r,kP k]) (cond (jCT "drop") (jDH (.int (w:Nat))&&(uN (sdP l)&&(uN (sdP r)&&keyB (kP k)))) (jGJ "drop" && jED [.int w,sdP l,sdP r,kP k]))=true
  rw [w4.2.2.1,w4.2.2.2.2.1,jTL h1,yCV h2,yCV h3,h4.b]; rfl
 | num l r ks =>
  obtain ⟨h2,h3,h4,h5⟩:=h
  have ek:((ks.map kP).map keyB).all (fun b=>b)=true:=by
   rw [List.map_map,List.all_map,List.all_eq_true]
   exact fun k hk=>(h5 k hk).b
  show cond (wIn "number") (jRQ [sdP l,sdP r,.tup (ks.map kP)]) (cond (jCT "number") (jIR [sdP l,sdP r,.tup (ks.map kP)]) (jGJ "number" && (uN (sdP l)&&(uN (sdP r)&&(decide (((ks.map kP).length:Int)≤40)&&((ks.map kP).map keyB).all fun b=>b)))))=true
  rw [w4.2.2.2.1,w4.2.2.2.2.2.1,w4.2.2.2.2.2.2,yCV h2,yCV h3,ek,decide_eq_true (by rw [List.length_map]; omega)]; rfl
 | strike w =>
  show cond (wIn "strike") (jDH (.int (w:Nat))) (cond (jCT "strike") (jIR [.int w]) (jGJ "strike" && jED [.int w]))=true
  rw [w4.1,jTL h]; rfl
 | back w =>
  show cond (wIn "back") (jDH (.int (w:Nat))) (cond (jCT "back") (jIR [.int w]) (jGJ "back" && jED [.int w]))=true
  rw [w4.2.1,jTL h]; rfl
end
end LW
set_option maxHeartbeats 4000000
namespace LW
open PySem PySem.Spec PyProof.Rows L2 Lp TL
section
theorem jJU {a:Option Nat} (h:SideR a):(tl (jCU a)).length≤840∧∀ c∈tl (jCU a),c < 128:=by
 refine ⟨?_,fun c hc=>by rcases jOV hc with q | q <;> omega⟩
 cases a with
 | none=>decide +kernel
 | some n =>
  have:=(jQA (i:=(n:Nat)) (by have:=h n rfl; omega)).1
  show (tl (sI (n:Nat))).length≤840
  omega
theorem yAY {d:De} (h:DeR d):∀ w∈deT d,(tl w).length≤840∧∀ c∈tl w,c < 128:=fun w hw=>by
 refine ⟨?_,fun c hc=>(jQM hw hc).2⟩
 have lit:∀ {x:Str},decide ((tl x).length≤840)=true→(tl x).length≤840:=fun q=>of_decide_eq_true q
 have row:∀ {n:Nat},n≤39→(tl (sI (n:Nat))).length≤840:=fun {n} q=>by
  have:=(jQA (i:=(n:Nat)) (by omega)).1
  omega
 cases d with
 | drop r a b k =>
  obtain ⟨h1,h2,h3,h4⟩:=h
  simp only [deT,List.mem_cons,List.not_mem_nil,or_false] at hw
  rcases hw with rfl | rfl | rfl | rfl | rfl
  ·exact lit (by decide +kernel)
  ·exact row h1
  ·exact (jJU h2).1
  ·exact (jJU h3).1
  ·exact (jYJ h4).1
 | num a b ks =>
  obtain ⟨h2,h3,h4,h5⟩:=h
  simp only [deT,List.mem_cons] at hw
  rcases hw with rfl | rfl | rfl | hw
  ·exact lit (by decide +kernel)
  ·exact (jJU h2).1
  ·exact (jJU h3).1
  ·obtain ⟨k,hk,rfl⟩:=List.mem_map.mp hw
   exact (jYJ (h5 k hk)).1
 | strike r =>
  simp only [deT,List.mem_cons,List.not_mem_nil,or_false] at hw
  rcases hw with rfl | rfl
  ·exact lit (by decide +kernel)
  ·exact row h
 | back r =>
  simp only [deT,List.mem_cons,List.not_mem_nil,or_false] at hw
  rcases hw with rfl | rfl
  ·exact lit (by decide +kernel)
  ·exact row h
theorem yAX {d:De} (h:DeR d):(deT d).length≤43:=by
 cases d with
 | num a b ks =>
  obtain ⟨h2,h3,h4,h5⟩:=h
  show (ks.map jEJ).length+3≤43
  rw [List.length_map]; omega
 | drop r a b k=>exact Nat.le_of_ble_eq_true rfl
 | strike r=>exact Nat.le_of_ble_eq_true rfl
 | back r=>exact Nat.le_of_ble_eq_true rfl
theorem yIX {d:De} (h:DeR d):TOk (txD d)∧(∀ c∈tl (txD d),c < 128):=by
 obtain ⟨_,h2,h3⟩:=jMC (h:=[]) (n:=840) (by decide) jLR (by decide) (l:=deT d) (Nat.le_trans (yAX h) (by decide)) (yAY h)
 have b:(deT d).length * (840+1)≤43 * 841:=Nat.mul_le_mul (yAX h) (Nat.le_refl _)
 exact ⟨⟨fun c hc=>by have:=h3 c hc; omega,Nat.le_trans (Nat.le_trans h2 b) (by decide)⟩,h3⟩
end
end LW
set_option maxHeartbeats 4000000
namespace LW
open PySem PySem.Spec PyProof.Rows L2 Lp TL
section
theorem jUS (d:De):isOwn (deP d)=false:=by cases d <;> rfl
theorem yQC (d:De):∀ xs,deP d=.tup xs→xs.length < 1000:=fun xs e=>by
 have go:∀ {ys:List PV},PV.tup ys=.tup xs→ys.length < 1000→xs.length < 1000:=fun q h=>by
  injection q with q
  rw [← q]; exact h
 cases d <;> exact go e (Nat.le_of_ble_eq_true rfl)
theorem yWX:¬ (("strike" : Str) = "drop")∧¬ (("strike" : Str) = "number")∧¬ (("back" : Str) = "drop")∧¬ (("back" : Str) = "number"):=by decide +kernel
theorem yFN {a b:Str}:(Str.empty++a ++ " " ++ b:Str)=Txt.join " " [a,b]:=by
 refine TL.ext_tl ?_
 rw [join_eq,tl_join,TL.tl_append,TL.tl_append,TL.tl_append]
 show _=tl a++(tl (" " : Str)++tl b)
 rw [List.append_assoc]; rfl
theorem jWY {bw:Str} {w:Nat} {d:De} {h:AH} {x:Option PV} {tl0:List (Option PV)} (hw:w≤39) (hd:txD d=Txt.join " " [bw,sI (w:Nat)]) (hl:bw.length≤10) :
  (xEJ [(jNK (jF 1)),(xEC (.str " ")),(jNK (jJ fIx (jF 2) (xEC (.int 0))))] Str.empty ⟨x :: some (.str bw) :: some (.lst [.int (w:Nat)]) :: tl0,h⟩).post (fun v s=>isOwn v=false∧v=.str (txD d)∧s.h=h) (fun _ _=>False):=by
 have ls:(sI (w:Nat)).length≤20:=by rw [jBI]; exact (jQA (i:=(w:Nat)) (by omega)).1
 have e0:Str.empty.length=0:=rfl
 have e1:(Str.ofString " ").length=1:=by rw [jBI,jLR]; rfl
 have sk:jWF (w:Nat)=true:=yDS (i:=(w:Nat)) (Nat.lt_of_le_of_lt (show ((w:Nat):Int).natAbs≤39 by omega) (by decide +kernel))
 refine jUG (yJJ (jQ rfl (.inl ⟨_,rfl,_,rfl,?_,jUG (p_c ⟨_,rfl,?_,jUG (yJJ (yC (jQ rfl (p_c ⟨_,rfl,.inr ⟨_,rfl,sk,_,rfl,?_,ySX ⟨rfl,?_,rfl⟩⟩⟩))))⟩)⟩)))
 ·rw [e0,sizeLine_eq]; omega
 ·rw [jBI,TL.tl_append,List.length_append,← jBI,← jBI,e0,e1,sizeLine_eq]; omega
 ·rw [jBI,TL.tl_append,List.length_append,TL.tl_append,List.length_append,← jBI,← jBI,← jBI,e0,e1,sizeLine_eq]; omega
 ·rw [yFN,hd]
theorem jRF {d:De} {h:AH} (r:DeR d):(uP [deP d] h).post (fun v h'=>v=.str (txD d)∧h'=h) NE:=by
 unfold uP
 rw [jUX]
 unfold jMP
 have jn:=(jMC (h:=h) (n:=840) (by decide) jLR (by decide) (l:=deT d) (Nat.le_trans (yAX r) (by decide)) (yAY r)).1
 refine wV [some (deP d),none,none,none] rfl ?_
 refine yS (uI (uU (jAW (yP (jP (jQ rfl (yF ⟨⟨rfl,by show (!isOwn (deP d)&&true)=true; rw [jUS]; rfl⟩,jX (jEO (yWU d) (yQC d)) fun v h3 z=>?_⟩)))))))
 obtain ⟨rfl,rfl⟩:=z
 rw [yRP r]
 refine ⟨_,rfl,vX rfl (vL ?_)⟩
 have bw:∀ {w:Nat},w≤39→∀ h,jNJ h [.int (w:Nat)]=some (.str (sI (w:Nat))):=fun {w} q h=>jTT (Nat.lt_of_le_of_lt (show ((w:Nat):Int).natAbs≤39 by omega) (by decide +kernel))
 have sdo:∀ a:Option Nat,uB [sdP a]=true:=fun a=>by cases a <;> rfl
 cases d with
 | drop w a b k =>
  obtain ⟨h1,h2,h3,h4⟩:=r
  refine yS (jMA (jQ rfl ⟨_,_,rfl,Nat.le_of_ble_eq_true rfl,?_⟩))
  dsimp only [List.set_cons_succ,List.set_cons_zero]
  refine yS (uI (uO (yC (jQ rfl (p_c ⟨_,jBJ,_,rfl,?_⟩)))))
  rw [decide_eq_true rfl]
  refine vR rfl (vM (jKE (p_c ⟨" ", rfl,jP (qU (jP (jQ rfl (jP (qT (jP (yC (jQ rfl (p_c ⟨_,rfl,yF ⟨_,bw h1 _,?_⟩⟩)))))))))⟩)))
  refine jP (yP (jP (yC (jQ rfl (p_c ⟨_,rfl,yF ⟨⟨rfl,sdo _⟩,jX (jHG h2) fun v g5 z=>?_⟩⟩)))))
  obtain ⟨rfl,rfl⟩:=z
  refine jP (yP (jP (yC (jQ rfl (p_c ⟨_,rfl,yF ⟨⟨rfl,sdo _⟩,jX (jHG h3) fun v g5 z=>?_⟩⟩)))))
  obtain ⟨rfl,rfl⟩:=z
  refine jP (yP (jP (yC (jQ rfl (p_c ⟨_,rfl,yF ⟨⟨rfl,rfl⟩,jX (jTA h4) fun v g5 z=>?_⟩⟩)))))
  obtain ⟨rfl,rfl⟩:=z
  exact yF ⟨⟨rfl,Nat.le_of_ble_eq_true rfl⟩,yF ⟨_,jn,rfl,rfl,rfl⟩⟩
 | num a b ks =>
  obtain ⟨h2,h3,h4,h5⟩:=r
  refine yS (jMA (jQ rfl ⟨_,_,rfl,Nat.le_of_ble_eq_true rfl,?_⟩))
  dsimp only [List.set_cons_succ,List.set_cons_zero]
  refine yS (uI (uO (yC (jQ rfl (p_c ⟨_,jBJ,_,rfl,?_⟩)))))
  rw [decide_eq_false (Ne.symm yXA.1)]
  refine vX rfl (vL (yS (uI (uO (yC (jQ rfl (p_c ⟨_,jBJ,_,rfl,?_⟩)))))))
  rw [decide_eq_true rfl]
  refine vR rfl (vM (jKE (p_c ⟨" ", rfl,jP (qU (jP (jQ rfl ?_)))⟩)))
  refine jP (yP (jP (yC (jQ rfl (p_c ⟨_,rfl,yF ⟨⟨rfl,sdo _⟩,jX (jHG h2) fun v g5 z=>?_⟩⟩)))))
  obtain ⟨rfl,rfl⟩:=z
  refine jP (yP (jP (yC (jQ rfl (p_c ⟨_,rfl,yF ⟨⟨rfl,sdo _⟩,jX (jHG h3) fun v g5 z=>?_⟩⟩)))))
  obtain ⟨rfl,rfl⟩:=z
  refine ySU (jAX (jBW (α:=List Int) (jDB (yC (jQ rfl (p_c ⟨_,rfl,⟨_,rfl,rfl,ks,kP,fun k=>.str (jEJ k),rfl,fun k hk=>⟨rfl,_,rfl,rfl,?_⟩,?_⟩⟩))))))
  ·refine yP (jP (jQ rfl (yF ⟨⟨rfl,rfl⟩,jX (jTA (h5 k hk)) fun v h6 z=>?_⟩)))
   obtain ⟨rfl,rfl⟩:=z
   exact ⟨rfl,rfl,rfl⟩
  refine ⟨_,rfl,yF ⟨⟨?_,?_⟩,yF ⟨_,?_,rfl,rfl,rfl⟩⟩⟩
  ·have e:uB ((ks.map fun k=>PV.str (jEJ k))++[])=true:=by
    unfold uB
    rw [List.append_nil,List.all_map,List.all_eq_true]
    exact fun _ _=>rfl
   exact e
  ·show ((ks.map fun k=>PV.str (jEJ k))++[]).length+3≤16777216
   rw [List.append_nil,List.length_map]
   omega
  ·have e:(deT (.num a b ks)).map PV.str=.str "number" :: .str (jCU a) :: .str (jCU b) :: ((ks.map fun k=>PV.str (jEJ k))++[]):=by
    rw [List.append_nil]
    show PV.str "number" :: .str (jCU a) :: .str (jCU b) :: (ks.map jEJ).map PV.str=_
    rw [List.map_map]; rfl
   rw [e] at jn
   exact jn
 | strike w =>
  refine yS (jMA (jQ rfl ⟨_,_,rfl,Nat.le_of_ble_eq_true rfl,?_⟩))
  dsimp only [List.set_cons_succ,List.set_cons_zero]
  refine yS (uI (uO (yC (jQ rfl (p_c ⟨_,jBJ,_,rfl,?_⟩)))))
  rw [decide_eq_false yWX.1]
  refine vX rfl (vL (yS (uI (uO (yC (jQ rfl (p_c ⟨_,jBJ,_,rfl,?_⟩)))))))
  rw [decide_eq_false yWX.2.1]
  refine vX rfl (vL (vM ?_))
  exact jWY (bw := "strike") (d:=.strike w) r rfl (by decide)
 | back w =>
  refine yS (jMA (jQ rfl ⟨_,_,rfl,Nat.le_of_ble_eq_true rfl,?_⟩))
  dsimp only [List.set_cons_succ,List.set_cons_zero]
  refine yS (uI (uO (yC (jQ rfl (p_c ⟨_,jBJ,_,rfl,?_⟩)))))
  rw [decide_eq_false yWX.2.2.1]
  refine vX rfl (vL (yS (uI (uO (yC (jQ rfl (p_c ⟨_,jBJ,_,rfl,?_⟩)))))))
  rw [decide_eq_false yWX.2.2.2]
  refine vX rfl (vL (vM ?_))
  exact jWY (bw := "back") (d:=.back w) r rfl (by decide)
end
end LW
set_option maxHeartbeats 4000000
namespace LW
open PySem PySem.Spec PyProof.Rows L2 Lp TL
section
def sc0 (R:Nat):Sc:=⟨[],[],[⟨(List.range R).map fun (i:Nat)=>[(i:Int)],List.replicate R true⟩]⟩
def m05:Mo:=⟨(List.range 5).map fun (i:Nat)=>[(i:Int)],List.replicate 5 true⟩
theorem lmodel5 {p:SpecW} {h:AH}:(qJ [p.v,.int 5] h).post (fun v h'=>v=mdP p h.length∧Md h' h.length (sc0 5)∧Gr h h') NE:=by
 unfold qJ
 rw [jRT]
 unfold jKO
 refine wV [some p.v,some (.int 5),none] rfl (vM (qU (jP (jQ rfl (jP (jWQ (jKU (yF ⟨⟨rfl,Nat.zero_le _⟩,?_⟩))))))))
 refine jP (jWQ (jKU (yF ⟨⟨rfl,Nat.zero_le _⟩,?_⟩)))
 refine jP (jWQ (jKU (jP (kW (jP (jAX (jBD (jIT ?_))))))))
 (repeat walk_at "p1")
 refine ⟨by omega,rfl,tu1,fun v hv=>?_,?_⟩
 ·obtain ⟨k,hk,rfl⟩:=List.mem_map.mp hv
  refine ⟨_,rfl,?_⟩
  (repeat walk_at "p1")
 ·have em:∀ h,jDT h (.lst [.bl true]) (.int 5)=some (.lst ((List.replicate 5 true).map .bl)):=fun h=>rfl
  (repeat (first | refine ⟨_,em _,?_⟩ | walk_at "p1"))
  refine ⟨by simp [mdP],⟨by rw [get3]; rfl,by simp [sc0],?_⟩,⟨_,by rw [List.append_assoc,List.append_assoc]⟩⟩
  have ek:(((List.range (5:Int).toNat).map fun (k:Nat)=>PV.int k).map tu1)=((List.range 5).map fun (i:Nat)=>[(i:Int)]).map kP:=by
   rw [List.map_map,List.map_map]
   rfl
  rw [ek]
  simp [sc0,moL]
theorem dw0:Dw (sc0 5) m05 (jPS (sc0 5)) 1 4:=by
 have mk:MoOk m05:=⟨rfl,by decide +kernel,by decide⟩
 refine ⟨⟨(fun _ h=>(nomatch h)),fun m hm=>?_,by simp [sc0],by decide,by decide,by decide⟩,by decide,by decide,mk,fun a b ha hb e=>?_,by decide,?_,by decide,by decide,fun k h=>?_,by decide +kernel⟩
 ·rw [List.mem_singleton.mp hm]; exact mk
 ·have q:∀ a < 5,∀ b < 5,kY m05.ks a=kY m05.ks b→a=b:=by decide +kernel
  exact q a ha b hb e
 ·unfold KyS; decide +kernel
 ·exact List.elem_iff.mp h
theorem KyS.r {k:List Int} (h:KyS (1+1) (4+1000) k):KeyR k:=⟨h.1,Nat.le_trans h.2.1 (by decide),fun i hi=>Nat.le_trans (h.2.2 i hi) (by decide)⟩
theorem line5 {b:Bool} {n:Nat} (h:n∈yW m05 b):n≤39:=by
 have:n < 5:=jJS h
 omega
theorem yNC {l:List Nat} {a:Option Nat} (h:jWE l a=true) (hl:∀ n∈l,n≤39):SideR a:=fun n e=>by
 subst e
 exact hl n (List.elem_iff.mp h)
theorem yUR {s:Sc} {w:Nat} {l r:Option Nat} {k:List Int} (h:jWV s m05 w l r k=none) (hk:KyS (1+1) (4+1000) k):DeR (.drop w l r k):=by
 unfold jWV at h
 split at h
 ·cases h
 rename_i h1
 have h1:(yW m05 false).contains w=true:=by simpa using h1
 split at h
 ·cases h
 rename_i h2
 obtain ⟨a,b⟩:=yJO h2
 have hr:∀ n∈jBQ m05 w,n≤39:=fun n hn=>line5 (jXG hn)
 exact ⟨line5 (List.elem_iff.mp h1),yNC a hr,yNC b hr,hk.r⟩
theorem yWG {p:SpecW} {s:Sc} {l r:Option Nat} {ks:List (List Int)} (h:yHR p s m05 l r ks=none) (hl:ks.length≤6) (hk:∀ k∈ks,KyS (1+1) (4+1000) k):DeR (.num l r ks):=by
 unfold yHR at h
 split at h
 ·cases h
 rename_i h2
 obtain ⟨a,b⟩:=yJO h2
 exact ⟨yNC a fun n hn=>line5 hn,yNC b fun n hn=>line5 hn,by omega,fun k q=>(hk k q).r⟩
structure DeS (d:De):Prop where
 r:DeR d
 l:(deT d).length≤9
 v:jCX (deT d)=deP d
theorem yMO {d:De} (r:DeR d):jCX (deT d)=deP d:=by
 unfold jCX
 rw [jMI r,yRP r,if_pos rfl]
theorem DeS.of {d:De} (r:DeR d) (l:(deT d).length≤9):DeS d:=⟨r,l,yMO r⟩
theorem mk5 {p:SpecW} {w q:Nat} {l r a b:Option Nat} {k:List Int} {ks:List (List Int)} (h1:jWV (sc0 5) m05 w l r k=none) (h2:KyS (1+1) (4+1000) k) (h3:yHR p (sc0 5) m05 a b ks=none) (h4:ks.length≤6) (h5:∀ k∈ks,KyS (1+1) (4+1000) k) (hq:q < 40) :
  ∀ d∈[De.drop w l r k,.num a b ks,.strike q,.back 39,.drop 0 (some 39) none [1000000000000000000,-1000000000000000000,0]],DeS d:=fun d hd=>by
 simp only [List.mem_cons,List.not_mem_nil,or_false] at hd
 rcases hd with rfl | rfl | rfl | rfl | rfl
 ·exact .of (yUR h1 h2) (Nat.le_of_ble_eq_true rfl)
 ·refine .of (yWG h3 h4 h5) ?_
  show (ks.map jEJ).length+3≤9
  rw [List.length_map]; omega
 ·exact .of (show q≤39 by omega) (Nat.le_of_ble_eq_true rfl)
 ·exact .of (show 39≤39 by omega) (Nat.le_of_ble_eq_true rfl)
 ·refine .of ⟨by decide,fun n e=>by cases e; decide,fun n e=>(nomatch e),⟨by simp,by decide,by decide +kernel⟩⟩ (Nat.le_of_ble_eq_true rfl)
end
end LW
set_option maxHeartbeats 4000000
namespace LW
open PySem PySem.Spec PyProof.Rows L2 Lp TL
section
structure TB (w:Str) (a b:Nat):Prop where
 c:∀ c∈tl w,c < 1000
 l:(tl w).length≤a
 n:(tl w).count 32≤b
theorem TB.ok {w:Str} {a b:Nat} (t:TB w a b) (ha:a≤100000) (hb:b≤42):TOk w∧(spW w).length≤43:=by
 have k:TOk w:=⟨fun c hc=>Nat.lt_of_lt_of_le (t.c c hc) (by decide),Nat.le_trans t.l ha⟩
 refine ⟨k,?_⟩
 rw [(piece jTJ k).2]
 have:=t.n
 omega
theorem TB.app {u w:Str} {a b c d:Nat} (t:TB u a b) (v:TB w c d):TB (u++w) (a+c) (b+d):=by
 refine ⟨fun x hx=>?_,?_,?_⟩
 ·rw [TL.tl_append] at hx
  rcases List.mem_append.mp hx with z | z
  ·exact t.c x z
  ·exact v.c x z
 ·rw [TL.tl_append,List.length_append]
  exact Nat.add_le_add t.l v.l
 ·rw [TL.tl_append,List.count_append]
  exact Nat.add_le_add t.n v.n
theorem TB.sub {u w:Str} {a b:Nat} (t:TB u a b) (s:(tl w).Sublist (tl u)):TB w a b :=
 ⟨fun x hx=>t.c x (s.subset hx),Nat.le_trans s.length_le t.l,Nat.le_trans (s.count_le 32) t.n⟩
theorem yRU {z:Str} {lo hi:Option Int}:tl (jHA z lo hi)=jAY (tl z) lo hi:=by
 unfold jHA
 exact TL.tl_mk _
theorem jOX {s:Nat}:∀ {ps:List (List Nat)},(∀ p∈ps,s∉p)→(joinL [s] ps).count s≤ps.length
 | [],_=>by simp [joinL]
 | [p],h=>by
  show p.count s≤1
  rw [List.count_eq_zero.mpr (h p (List.mem_cons_self ..))]; exact Nat.zero_le _
 | p :: q :: r,h=>by
  have h2:=jOX (s:=s) (ps:=q :: r) fun y hy=>h y (List.mem_cons_of_mem _ hy)
  show (p++([s]++joinL [s] (q :: r))).count s≤_
  rw [List.count_append,List.count_append,List.count_eq_zero.mpr (h p (List.mem_cons_self ..)),List.count_cons_self]
  show 0+(0+1+_)≤_
  have e:(p :: q :: r).length=(q :: r).length+1:=rfl
  omega
theorem TB.join {d:De} (r:DeR d) {l:List Str} {n:Nat} (h:∀ w∈l,w∈deT d) (hl:l.length≤n) (hn:n≤20) {h0:AH}:jBR h0 " " [.lst (l.map .str)]=some (.str (Txt.join " " l))∧TB (Txt.join " " l) (n * 841) n:=by
 obtain ⟨h1,h2,h3⟩:=jMC (h:=h0) (n:=840) (by decide) jLR (by decide) (l:=l) (by omega) fun w hw=>yAY r w (h w hw)
 refine ⟨h1,fun c hc=>by have:=h3 c hc; omega,Nat.le_trans h2 (Nat.mul_le_mul_right _ hl),?_⟩
 rw [join_eq,tl_join,jLR]
 refine Nat.le_trans (jOX fun p hp=>?_) (by rw [List.length_map]; exact hl)
 obtain ⟨w,hw,rfl⟩:=List.mem_map.mp hp
 exact fun q=>(jQM (h w hw) q).1 rfl
theorem yAG {d:De} (h:DeS d):TB (txD d) (9 * 841) 9:=(TB.join h.r (l:=deT d) (fun _ z=>z) h.l (by decide) (h0:=[])).2
theorem yIR {u w:Str} {a b c d:Nat} {h:AH} (t:TB u a b) (v:TB w c d) (q:a+c≤100000):yO h (.str u) (.str w)=some (.str (u++w)):=by
 show (if u.length+w.length≤sizeLine then _ else _)=_
 rw [if_pos]
 have:=t.l
 have:=v.l
 rw [jBI,jBI,sizeLine_eq]
 omega
def yCT:List Str:=["", " ", "-", "0", ".", "1", "x", "\n", " 3", "-0"]
theorem TB.sign {w:Str} (h:w∈yCT):TB w 2 1:=by
 have q:∀ w∈yCT,(∀ c∈tl w,c < 1000)∧(tl w).length≤2∧(tl w).count 32≤1:=by unfold yCT; decide +kernel
 obtain ⟨a,b,c⟩:=q w h
 exact ⟨a,b,c⟩
def upC (c:Nat):Nat:=if 97≤c∧c≤122 then c - 32 else c
theorem up128 {c:Nat} (h:c < 128):Unicode.upperOf c=[upC c]:=by
 have q:(List.range 128).all (fun c=>decide (Unicode.upperOf c=[upC c]))=true:=by decide +kernel
 exact of_decide_eq_true (List.all_eq_true.mp q c (List.mem_range.mpr h))
theorem yVL {w:Str} (h:∀ c∈tl w,c < 128):tl (Txt.upper w)=(tl w).map upC:=by
 unfold Txt.upper tl placed at *
 simp only [Array.toList_flatten,Array.toList_mapIdx]
 generalize w.cps.toList=l at *
 have e:List.mapIdx (fun i c=>(Unicode.upperOf c).toArray) l=l.map fun c=>(Unicode.upperOf c).toArray:=List.ext_getElem (by simp) (by simp)
 rw [e,List.map_map]
 clear e
 induction l with
 | nil=>rfl
 | cons c l ih =>
  rw [List.map_cons,List.flatten_cons,ih fun x hx=>h x (List.mem_cons_of_mem _ hx)]
  show (Unicode.upperOf c)++_=_
  rw [up128 (h c (List.mem_cons_self ..))]; rfl
theorem yQM {d:De} (h:DeS d):TB (Txt.upper (txD d)) (9 * 841) 9:=by
 have t:=yAG h
 have h7:=(yIX h.r).2
 have e:=yVL h7
 refine ⟨fun c hc=>?_,by rw [e,List.length_map]; exact t.l,?_⟩
 ·rw [e] at hc
  obtain ⟨x,hx,rfl⟩:=List.mem_map.mp hc
  have:=h7 x hx
  unfold upC
  split <;> omega
 ·rw [e]
  refine Nat.le_trans ?_ t.n
  have go:∀ l:List Nat,(l.map upC).count 32≤l.count 32:=fun l=>by
   induction l with
   | nil=>exact Nat.le_refl _
   | cons c l ih =>
    rw [List.map_cons,List.count_cons,List.count_cons]
    have:(if (upC c == 32)=true then 1 else 0)≤(if (c == 32)=true then 1 else 0):=by
     unfold upC
     split
     ·rename_i z
      rw [if_neg (by simp; omega)]
      exact Nat.zero_le _
     ·exact Nat.le_refl _
    omega
  exact go _
theorem yNL {d:De} (h:DeS d) {h0:AH}:jQD h0 (txD d) []=some (.str (Txt.upper (txD d))):=by
 have t:=yAG h
 have k:=((yQM h).ok (by decide) (by decide)).1
 show (if (txD d).length≤5592405∧jRP (Txt.upper (txD d))=true then _ else _)=_
 rw [if_pos ⟨by rw [jBI]; have:=t.l; omega,k.sok⟩]
end
end LW
set_option maxHeartbeats 4000000
namespace LW
open PySem PySem.Spec PyProof.Rows L2 Lp TL
theorem exp15 (ys:List (Option PV)) (h:ys.length=13):∃ a b c d e f g i j k l m n,ys=[a,b,c,d,e,f,g,i,j,k,l,m,n] :=
 match ys,h with
 | [a,b,c,d,e,f,g,i,j,k,l,m,n],_=>⟨a,b,c,d,e,f,g,i,j,k,l,m,n,rfl⟩
def InvL (ns:List Int) (s:S):Prop:=(∃ l:List (Option PV),l.length=13∧s.e=some (.scr (ns.map .int)) :: some (.cel 0) :: l)∧Bg s.h
theorem yNR {h:AH}:jEK ⟨[none,some (.exn 1 [.str "InvalidText", .int 0])],h⟩=.ok (.rt (.tup [.str "InvalidText", .int 0])) ⟨[none,some (.exn 1 [.str "InvalidText", .int 0])],h⟩:=by kernel_rfl
theorem yDF {P:PV→S→Prop} {E:PV→S→Prop} {s:S} {m:ME} (h:(m s).post (fun _ _=>False) (fun x s1=>x=xT∧s1.h=s.h)) (q:P (.tup [.str "InvalidText", .int 0]) ⟨s.e,s.h⟩):(jWL okc jEK m s).post P E:=by
 refine yQY (p_mono h (fun _ _ z=>z.elim) fun x s1 ⟨e1,e2⟩=>?_)
 exact ⟨1,_,_,_,e1,rfl,yNR,rfl,rfl,by rw [e2]; exact q⟩
def TW (s:Str):Prop:=TOk s∧(spW s).length≤43
theorem yUE {ws:List Str}:DPl 4 (.tup [.str "", inV ws]):=fun y hy=>by
 rcases List.mem_cons.mp hy with rfl | hy
 ·trivial
 ·rw [List.mem_singleton.mp hy]; exact jPN ws
theorem yTV {ws:List Str} (h:jDC (inV ws)=true):isNon (inV ws)=false:=by
 cases e:inV ws with
 | non=>rw [e] at h; cases h
 | _=>rfl
theorem yQD {xs:List Nat} {lo hi:Option Int}:(jAY xs lo hi).Sublist xs:=by
 unfold jAY
 exact (List.take_sublist _ _).trans (List.drop_sublist _ _)
theorem cell_end {h:AH} {xs:List PV}:jFA (h++[some (.lst xs)]) h.length=some xs:=by
 unfold jFA
 rw [List.getElem?_append_right (Nat.le_refl _),Nat.sub_self]; rfl
theorem yOB {h:AH} {c d:Option Cell}:(h++[c]).set h.length d=h++[d]:=by
 rw [List.set_append_right _ _ (Nat.le_refl _),Nat.sub_self]; rfl
theorem add_str {xs:List PV} {s:Str} (h:xs.length≤100):jTF xs (.str s)=some (xs++[.str s]):=by
 unfold jTF
 rw [if_neg (by rw [sizeLine_eq]; simp [isOwn]; omega)]
theorem yMC (ns:List Int) (h63:ns.length≤63) (hb:∀ z∈ns,Builtin.Int.intBits z≤1048576):∃ h',jOP [.scr (ns.map .int)] []=.ok (.bl true) h':=by
 suffices H:(jOP [.scr (ns.map .int)] []).post (fun v h'=>v=.bl true) NE by
  obtain ⟨v,h',e,rfl⟩:=yXC H
  exact ⟨h',e⟩
 unfold jOP
 rw [yRQ]
 unfold yIT
 rw [like_eq]
 refine wV (some (.scr (ns.map .int)) :: List.replicate 14 none) rfl ?_
 (repeat walk_at "p1")
 refine jX (open_spec h63) fun v h' z=>?_
 obtain ⟨rfl,b⟩:=z
 have b:=(Bg.of (h:=[none]) (by decide) b).1
 (repeat walk_at "p1")
 refine yIF (jIT ?_)
 (repeat walk_at "p1")
 refine ⟨by decide,rfl,rfl,by decide,yAO (fun _ s=>InvL ns s) ?_ (fun j v s e i=>?_) fun s i=>?_⟩
 ·exact ⟨⟨_,rfl,rfl⟩,b⟩
 ·obtain ⟨turn,_,rfl⟩:=List.mem_map.mp (List.mem_of_getElem? e)
  obtain ⟨⟨ys,hl,he⟩,bg⟩:=i
  obtain ⟨y2,y3,y4,y5,y6,y7,y8,y9,y10,y11,y12,y13,y14,rfl⟩:=exp15 ys hl
  obtain ⟨e0,h0⟩:=s
  simp only at he bg
  subst he
  refine ⟨_,rfl,?_⟩
  dsimp only [List.set_cons_succ,List.set_cons_zero]
  (repeat walk_at "p1")
  obtain ⟨hl0,ba⟩:=bg.at
  refine jX (yFT hl0 ba) fun v h1 ⟨⟨p,kp,ev⟩,q⟩=>?_
  subst ev
  obtain ⟨b1,o1⟩:=Bg.of hl0 q
  (repeat walk_at "p1")
  refine jX (lmodel5 (p:=⟨p.d,p.n,true,p.h,p.l⟩)) fun v h2 ⟨ev,M,g1⟩=>?_
  subst ev
  have b2:=b1.gr g1
  have hn:0 < h1.length:=b1.at.1
  generalize h1.length=n at *
  generalize (⟨p.d,p.n,true,p.h,p.l⟩:SpecW)=p2 at *
  refine ⟨rfl,?_⟩
  have mvc:∀ {h:AH},Md h n (sc0 5)→fIx h (.cel (n+2)) (.int 0)=some (moL m05):=fun M=>yXG M.c2 rfl
  (repeat (first | refine ⟨_,mvc M,?_⟩ | walk_at "p1"))
  refine jX (yBZ b2 M hn dw0 (by decide +kernel)) fun v h3 ⟨⟨w,l,r,k,ev,d1,d2⟩,b3,o3⟩=>?_
  subst ev
  have M3:=M.off o3 hn
  (repeat (first | refine ⟨_,mvc M3,?_⟩ | walk_at "p1"))
  refine jX (yGN (p:=p2) b3 M3 hn dw0) fun v h4 ⟨⟨a,b',ks,ev,n1,n2,n3⟩,b4,o4⟩=>?_
  subst ev
  (repeat walk_at "p1")
  refine jX (draw0 (k:=40) b4 (by decide) (by decide)) fun v h5 ⟨⟨q,ev,hq⟩,b5,o5⟩=>?_
  subst ev
  (repeat walk_at "p1")
  rw [show (0:Int) - 10 ^ Int.toNat 18=-1000000000000000000 by decide +kernel,show (10:Int) ^ Int.toNat 18=1000000000000000000 by decide +kernel]
  refine jX (of0 (α:=De) (f:=deP) (xs:=[.drop w l r k,.num a b' ks,.strike q,.back 39,.drop 0 (some 39) none [1000000000000000000,-1000000000000000000,0]]) b5 (Nat.le_of_ble_eq_true rfl) (Nat.le_of_ble_eq_true rfl) ?_) fun v h6 ⟨⟨d,hd,ev⟩,b6,o6⟩=>?_
  ·unfold uB
   rw [List.all_map,List.all_eq_true]
   exact fun d _=>by show (!isOwn (deP d))=true; rw [jUS]; rfl
  subst ev
  have ds:=mk5 d1 d2 n1 n2 n3 hq d hd
  clear d1 d2 n1 n2 n3 M M3 hd
  have od:=jUS d
  have sh1:uB [deP d]=true:=by show (!isOwn (deP d)&&true)=true; rw [od]; rfl
  refine ⟨od,?_⟩
  try dsimp only [jU,List.set_cons_succ,List.set_cons_zero]
  (repeat (first | refine ⟨⟨⟨rfl,rfl⟩,rfl,sh1⟩,⟨rfl,sh1⟩,?_⟩ | walk_at "p1"))
  refine jX (jRF ds.r) fun v h7 ⟨ev,eh⟩=>?_
  subst ev eh
  obtain ⟨kT,cT⟩:=yIX ds.r
  have tb:=yAG ds
  have ew:spW (txD d)=deT d:=yNS d
  have dv:=ds.v
  have dr:=ds.r
  have dl:=ds.l
  have d1:1≤(deT d).length:=by cases d <;> simp [deT]
  have lT:∀ h,vP h [.str (txD d)]=some (.int ((tl (txD d)).length:Nat)):=fun h=>by
   show some (PV.int ((txD d).length:Nat))=_
   rw [jBI]
  have sT:∀ h,jBU h (txD d) [.str " "]=some (.lst ((deT d).map .str)):=fun h=>by
   rw [← ew]; exact jPZ kT
  have lW:∀ h,vP h [.lst ((deT d).map .str)]=some (.int ((deT d).length:Nat)):=fun h=>by
   show some (PV.int (((deT d).map PV.str).length:Nat))=_
   rw [List.length_map]
  have tl9:=tb.l
  (repeat (first | with_reducible refine jKE ?_ | refine ⟨_,sT _,?_⟩ | refine ⟨_,lT _,?_⟩ | refine ⟨_,jNS,?_⟩ | walk_at "p1"))
  refine jX (draw0 (k:=(tl (txD d)).length+1) b6 (by omega) (by omega)) fun v h8 ⟨⟨spot,ev,hspot⟩,b8,o8⟩=>?_
  subst ev
  (repeat walk_at "p1")
  have nw:∀ {l:List Str},uB [PV.lst (l.map .str)]=true:=fun {l}=>rfl
  have de:∀ h,(vC [.str (txD d)] h).post (fun v h'=>v=deP d∧h'=h) NE:=fun h=>by
   have q:=jSZ (h:=h) kT (by rw [ew]; omega)
   rw [ew,dv] at q
   exact q
  have re:∀ h,(yU [.str (txD d)] h).post (fun v h'=>v=deP d∧h'=h) NE:=fun h=>by
   have q:=yDX (h:=h) kT (by rw [ew,jMI dr]; exact yRP dr)
   rw [ew,jMI dr] at q
   exact q
  refine jX (de _) fun v h9 ⟨ev,eh⟩=>?_
  subst ev eh
  (repeat walk_at "p1")
  refine jX (re _) fun v h9 ⟨ev,eh⟩=>?_
  subst ev eh
  have sh2:uB [deP d,deP d]=true:=by show (!isOwn (deP d)&&(!isOwn (deP d)&&true))=true; rw [od]; rfl
  have dpd:DPl 3 (deP d):=by rw [← jMI dr]; exact jPN _
  (repeat (first | refine ⟨⟨sh2,Nat.le_of_ble_eq_true rfl⟩,?_⟩ | walk_at "p1"))
  refine jX (jIZ (n:=7) rfl ?_) fun v h10 ⟨ev,eh⟩=>?_
  ·intro y hy
   have hy:y=deP d:=by simpa using hy
   rw [hy]
   exact jGZ 5 (jGZ 4 (jGZ 3 dpd))
  subst ev eh
  (repeat (first | refine ⟨_,lW _,?_⟩ | walk_at "p1"))
  refine jX (draw0 (k:=(deT d).length) b8 d1 (by omega)) fun v h10 ⟨⟨at_,ev,hat⟩,b10,o10⟩=>?_
  subst ev
  (repeat walk_at "p1")
  refine jX (of0 (α:=Str) (f:=PV.str) (xs:=yCT) b10 (Nat.le_of_ble_eq_true rfl) (Nat.le_of_ble_eq_true rfl) rfl) fun v h11 ⟨⟨sg,hsg,ev⟩,b11,o11⟩=>?_
  subst ev
  have ts:=TB.sign hsg
  (repeat walk_at "p1")
  obtain ⟨u,hu,eu⟩:∃ u,u∈deT d∧(deT d)[at_]?=some u:=⟨(deT d)[at_],List.getElem_mem _,List.getElem?_eq_getElem hat⟩
  have lm:((deT d).map PV.str).length=(deT d).length:=List.length_map ..
  have w1:∀ h,fSl h (.lst ((deT d).map .str)) none (some (at_:Int))=some (.lst (((deT d).take at_).map .str)):=fun h=>by
   show some (PV.lst (jAY _ _ _))=_
   rw [yKC (by omega) (by omega),List.map_take]; rfl
  have w2:∀ h,fSl h (.lst ((deT d).map .str)) (some ((at_:Int)+1)) none=some (.lst (((deT d).drop (at_+1)).map .str)):=fun h=>by
   show some (PV.lst (jAY _ _ _))=_
   rw [jJB (by omega) (by omega),List.map_drop]; rfl
  have w3:∀ h,fSl h (.lst ((deT d).map .str)) (some (at_:Int)) none=some (.lst (((deT d).drop at_).map .str)):=fun h=>by
   show some (PV.lst (jAY _ _ _))=_
   rw [jJB (by omega) (by omega),List.map_drop]; rfl
  have a1:∀ h (A B:List Str),A.length≤40→B.length≤40→yO h (.lst (A.map .str)) (.lst (B.map .str))=some (.lst ((A++B).map .str)):=fun h A B p q=>by
   show (if (A.map PV.str).length+(B.map PV.str).length≤sizeLine then _ else _)=_
   rw [if_pos (by rw [List.length_map,List.length_map,sizeLine_eq]; omega),List.map_append]
  have m1:∀ w∈(deT d).take at_,w∈deT d:=fun w h=>List.mem_of_mem_take h
  have m2:∀ w∈(deT d).drop (at_+1),w∈deT d:=fun w h=>List.mem_of_mem_drop h
  have m3:∀ w∈(deT d).drop at_,w∈deT d:=fun w h=>List.mem_of_mem_drop h
  have l1:((deT d).take at_).length≤9:=by rw [List.length_take]; omega
  have l2:((deT d).drop (at_+1)).length≤9:=by rw [List.length_drop]; omega
  have l3:((deT d).drop at_).length≤9:=by rw [List.length_drop]; omega
  have mm:∀ {A B:List Str},(∀ w∈A,w∈deT d)→(∀ w∈B,w∈deT d)→∀ w∈A++B,w∈deT d:=fun p q w h=>(List.mem_append.mp h).elim (p w) (q w)
  have iu:∀ h,fIx h (.lst ((deT d).map .str)) (.int at_)=some (.str u):=fun h=>ixL (yCY eu)
  have J:∀ h (l:List Str),(∀ w∈l,w∈deT d)→l.length≤20→jBR h " " [.lst (l.map .str)]=some (.str (Txt.join " " l)):=fun h l p q=>(TB.join dr p q (by decide)).1
  have JT:∀ (l:List Str),(∀ w∈l,w∈deT d)→l.length≤20→TW (Txt.join " " l):=fun l p q=>((TB.join dr p q (by decide) (h0:=[])).2).ok (by decide) (by decide)
  have c1:∀ lo hi,TB (jHA (txD d) lo hi) (9 * 841) 9:=fun lo hi=>tb.sub (by rw [yRU]; exact yQD)
  refine jWQ (jKU (jP ?_))
  (repeat (first | refine ⟨_,yIR (c1 _ _) ts (by decide),?_⟩ | walk_at "p1"))
  refine jX (draw0 (k:=2) b11 (by decide) (by decide)) fun v h12 ⟨⟨d2,ev,hd2⟩,b12,o12⟩=>?_
  subst ev
  (repeat (first | refine ⟨_,yIR ((c1 _ _).app ts) (c1 _ _) (by decide),?_⟩ | walk_at "p1"))
  (repeat (first | with_reducible refine jKE ?_ | refine ⟨_,w1 _,?_⟩ | refine ⟨_,w2 _,?_⟩ | refine ⟨_,a1 _ _ _ (by omega) (by omega),?_⟩ | refine ⟨_,J _ _ (mm m1 m2) (by rw [List.length_append]; omega),?_⟩ | walk_at "p1"))
  (repeat (first | with_reducible refine jKE ?_ | refine ⟨_,yIR tb ts (by decide),?_⟩ | refine ⟨_,w1 _,?_⟩ | refine ⟨_,w3 _,?_⟩ | refine ⟨_,iu _,?_⟩ | walk_at "p1"))
  refine ⟨_,a1 _ ((deT d).take at_) [u] (by omega) (Nat.le_of_ble_eq_true rfl),?_⟩
  (repeat (first | refine ⟨_,w3 _,?_⟩ | walk_at "p1"))
  refine ⟨_,a1 _ ((deT d).take at_++[u]) ((deT d).drop at_) (by rw [List.length_append]; show _+1≤_; omega) (by omega),?_⟩
  have mu:∀ w∈[u],w∈deT d:=fun w h=>by rw [List.mem_singleton.mp h]; exact hu
  refine yF ⟨_,J _ _ (mm (mm m1 mu) m3) (by rw [List.length_append,List.length_append]; show _+1+_≤_; omega),?_⟩
  (repeat (first | with_reducible refine jKE ?_ | refine ⟨_,yNL ds,?_⟩ | walk_at "p1"))
  obtain ⟨L,hL,hl6,eL⟩:∃ L:List Str,(∀ s∈L,TW s)∧L.length=6∧[PV.str (jHA (txD d) none (some (spot:Int))++sg++jHA (txD d) (some ((spot:Int)+(d2:Int))) none),.str (Txt.join " " ((deT d).take at_++(deT d).drop (at_+1))),.str (txD d++sg),.str (Txt.join " " ((deT d).take at_++[u]++(deT d).drop at_)),.str "", .str (Txt.upper (txD d))]=L.map .str:=by
   refine ⟨[_,_,_,_,_,_],fun s hs=>?_,rfl,rfl⟩
   simp only [List.mem_cons,List.not_mem_nil,or_false] at hs
   rcases hs with rfl | rfl | rfl | rfl | rfl | rfl
   ·exact (((c1 _ _).app ts).app (c1 _ _)).ok (by decide) (by decide)
   ·exact JT _ (mm m1 m2) (by rw [List.length_append]; omega)
   ·exact (tb.app ts).ok (by decide) (by decide)
   ·exact JT _ (mm (mm m1 mu) m3) (by rw [List.length_append,List.length_append]; show _+1+_≤_; omega)
   ·exact (TB.sign (w := "") (List.mem_cons_self ..)).ok (by decide) (by decide)
   ·exact (yQM ds).ok (by decide) (by decide)
  rw [eL]
  have lcut:(((deT d).drop at_).map PV.str).reverse=((deT d).drop at_).reverse.map PV.str:=(List.map_reverse).symm
  have l4:((deT d).drop at_).reverse.length≤9:=by rw [List.length_reverse]; exact l3
  have m4:∀ w∈((deT d).drop at_).reverse,w∈deT d:=fun w h=>m3 w (List.mem_reverse.mp h)
  refine ySY (jQ rfl ⟨_,_,rfl,cell_end,?_⟩)
  (repeat (first | with_reducible refine jKE ?_ | refine ⟨_,w1 _,?_⟩ | refine ⟨_,w3 _,?_⟩ | with_reducible refine yVU ?_ | walk_at "p1"))
  rw [lcut]
  refine ⟨_,a1 _ _ _ (by omega) (by omega),yF ⟨_,J _ _ (mm m1 m4) (by rw [List.length_append]; omega),?_⟩⟩
  refine ⟨_,_,cell_end,add_str (by rw [List.length_map]; omega),?_⟩
  rw [yOB,show L.map PV.str++[PV.str (Txt.join " " ((deT d).take at_++((deT d).drop at_).reverse))]=(L++[Txt.join " " ((deT d).take at_++((deT d).drop at_).reverse)]).map PV.str by rw [List.map_append]; rfl]
  obtain ⟨L7,h7L,l7⟩:∃ L7:List Str,(∀ s∈L7,TW s)∧L7.length=7∧L++[Txt.join " " ((deT d).take at_++((deT d).drop at_).reverse)]=L7:=⟨_,fun s hs=>(List.mem_append.mp hs).elim (hL s) fun z=>by rw [List.mem_singleton.mp z]; exact JT _ (mm m1 m4) (by rw [List.length_append]; omega),by rw [List.length_append,hl6]; rfl,rfl⟩
  rw [l7.2]
  have b13:Bg (h12++[some (.lst (L7.map .str))]):=b12.gr ⟨_,rfl⟩
  have cc:(h12++[some (Cell.lst (L7.map .str))])[h12.length]?=some (some (.lst (L7.map .str))):=by
   rw [List.getElem?_append_right (Nat.le_refl _),Nat.sub_self]; rfl
  generalize h12++[some (Cell.lst (L7.map .str))]=H at *
  generalize h12.length=cn at *
  have ld:∀ {s:Str} (h:AH),TW s→(vC [.str s] h).post (fun v h'=>v=jCX (spW s)∧h'=h) NE:=fun h q=>jSZ q.1 q.2
  (repeat walk_at "p1")
  refine yAP (jDB (jQ rfl ⟨_,yIB cc,rfl,by rw [List.length_map,l7.1,sizeLine_eq]; decide,jUF (fun j s=>(∃ z12 z13,s.e=[some (PV.scr (List.map PV.int ns)),some (PV.cel 0),some (PV.int turn),some p.v,some (mdP p2 n),some (deP d),some (PV.str (txD d)),some (PV.lst (List.map PV.str (deT d))),some (PV.int spot),some (PV.int at_),some (PV.str sg),some (PV.cel cn),z12,z13,y14])∧s.h=H) (fun j s i=>by rw [i.2]; exact jUA cc) ⟨⟨_,_,rfl⟩,rfl⟩ (fun j v s ev i=>?_) fun s i=>?_⟩))
  ·obtain ⟨⟨z12,z13,he⟩,hh⟩:=i
   obtain ⟨se,sh⟩:=s
   dsimp only at he hh
   subst he hh
   have ev:(L7.map PV.str)[j]?=some v:=ev
   obtain ⟨s,hs,rfl⟩:=List.mem_map.mp (List.mem_of_getElem? ev)
   have kw:=h7L s hs
   refine ⟨_,rfl,?_⟩
   dsimp only [List.set_cons_succ,List.set_cons_zero]
   (repeat walk_at "p1")
   refine jX (ld _ kw) fun v h14 ⟨ev,eh⟩=>?_
   subst ev eh
   have od2:isOwn (jCX (spW s))=false:=by
    unfold jCX
    split
    ·exact jHD _
    ·rfl
   refine ⟨od2,?_⟩
   dsimp only [jU,List.set_cons_succ,List.set_cons_zero]
   by_cases hd:jDC (inV (spW s))=true
   ·have e1:jCX (spW s)=inV (spW s):=by unfold jCX; rw [if_pos hd]
    rw [e1]
    have on:=jHD (spW s)
    have nn:jAL h14 (inV (spW s)) .non=some (.bl false):=by show some (PV.bl (isNon (inV (spW s))))=_; rw [yTV hd]
    have dd:=jGZ 6 (jGZ 5 (jGZ 4 (yUE (ws:=spW s))))
    have so:uB [PV.str "", inV (spW s)]=true:=by show (true&&(!isOwn (inV (spW s))&&true))=true; rw [on]; rfl
    refine uI (uU (jAW (yP (jP (yQY ?_)))))
    (repeat walk_at "p1")
    refine jX (yDX kw.1 hd) fun v h15 ⟨ev,eh⟩=>?_
    subst ev eh
    refine ⟨on,?_⟩
    (repeat (first | refine ⟨_,nn,?_⟩ | refine ⟨⟨so,Nat.le_of_ble_eq_true rfl⟩,?_⟩ | walk_at "p1"))
    refine jX (jIZ (n:=7) rfl dd) fun v h10 ⟨ev,eh⟩=>?_
    subst ev eh
    (repeat walk_at "p1")
    exact ⟨⟨_,_,rfl⟩,rfl⟩
   ·have hd:jDC (inV (spW s))=false:=by simpa using hd
    have e1:jCX (spW s)=.non:=by unfold jCX; rw [hd]; rfl
    rw [e1]
    refine uI (uU (jAW (yP (jP (yDF ?_ ?_)))))
    ·(repeat walk_at "p1")
     exact p_mono (yLK kw.1 hd) (fun _ _ z=>z) fun x h' z=>z
    (repeat walk_at "p1")
    refine jX (jIZ (n:=7) rfl ?_) fun v h10 ⟨ev,eh⟩=>?_
    ·exact jTS (by decide +kernel)
    subst ev eh
    (repeat walk_at "p1")
    exact ⟨⟨_,_,rfl⟩,rfl⟩
  ·obtain ⟨⟨z12,z13,he⟩,hh⟩:=i
   obtain ⟨se,sh⟩:=s
   dsimp only at he hh
   subst he hh
   have s5:uB [.non,.int 3,.bl true,.lst ((deT d).map .str),deP d]=true:=by
    show (true&&(true&&(true&&(true&&(!isOwn (deP d)&&true)))))=true
    rw [od]; rfl
   obtain ⟨hl1,ba1⟩:=b13.at
   (repeat (first | refine ⟨⟨s5,Nat.le_of_ble_eq_true rfl⟩,?_⟩ | walk_at "p1"))
   rw [of_eq]
   refine jX (yAQ hl1 ba1 (xs:=[.non,.int 3,.bl true,.lst ((deT d).map .str),deP d]) (Nat.le_of_ble_eq_true rfl) (Nat.le_of_ble_eq_true rfl) s5) fun v h16 ⟨hv,q16⟩=>?_
   obtain ⟨b16,o16⟩:=Bg.of hl1 q16
   obtain ⟨ov,iv⟩:isOwn v=false∧∀ h,wQ h [v,.ty "str"]=some (.bl false):=by
    simp only [List.mem_cons,List.not_mem_nil,or_false] at hv
    rcases hv with rfl | rfl | rfl | rfl | rfl
    ·exact ⟨rfl,fun h=>rfl⟩
    ·exact ⟨rfl,fun h=>rfl⟩
    ·exact ⟨rfl,fun h=>rfl⟩
    ·exact ⟨rfl,fun h=>rfl⟩
    ·exact ⟨od,fun h=>by cases d <;> rfl⟩
   refine ⟨ov,?_⟩
   dsimp only [jU,List.set_cons_succ,List.set_cons_zero]
   refine uI (uU (jAW (yP (jP (yDF ?_ ?_)))))
   ·(repeat walk_at "p1")
    refine ⟨⟨rfl,by show (!isOwn v&&true)=true; rw [ov]; rfl⟩,?_⟩
    exact p_mono (yLJ ov (iv _)) (fun _ _ z=>z) fun x h' z=>z
   (repeat walk_at "p1")
   refine jX (jIZ (n:=7) rfl ?_) fun v h10 ⟨ev,eh⟩=>?_
   ·exact jTS (by decide +kernel)
   subst ev eh
   (repeat walk_at "p1")
   exact ⟨⟨_,rfl,rfl⟩,b16⟩
 ·obtain ⟨⟨ys,hl,he⟩,bg⟩:=i
  obtain ⟨e0,h0⟩:=s
  simp only at he bg
  subst he
  (repeat walk_at "p1")
  have z:=jRF (d:=.drop 3 none (some 0) [-1,5]) (h:=h0) ⟨by decide,fun n e=>(nomatch e),fun n e=>by cases e; decide,⟨by simp,by decide,by decide +kernel⟩⟩
  refine jX z fun v h7 ⟨ev,eh⟩=>?_
  subst ev eh
  (repeat walk_at "p1")
  rw [show txD (.drop 3 none (some 0) [-1,5]) = "drop 3 - 0 -1.5" by decide +kernel]
  refine jX (jIZ (n:=7) rfl ?_) fun v h10 ⟨ev,eh⟩=>?_
  ·trivial
  subst ev eh
  exact ⟨rfl,rfl⟩
end LW
set_option maxHeartbeats 0
theorem PySem.Challenge.cw_latedrops_k08_whole_texts_of_deeds_holds : PySem.Challenge.rw_latedrops_k08_whole_texts_of_deeds.Holds := by
 exact LW.yWJ LW.yMC
