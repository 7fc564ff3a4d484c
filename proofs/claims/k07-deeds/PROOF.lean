import PyProof.Rows.All
import Wide.All
import OpenK.AllK
import Wide.FinOn
import HandS.ForMost
import HandS.Defaults
import HandS.MakeKw
import HandS.MakeKwOnly
import HandS.Exc
import HandS.IsInst
import HandS.Lambda
import HandS.TupAny
import HandS.TupMul
import HandS.TupLe
import HandS.Style
import HandS.Deep
import HandS.Star
import HandS.Text
import HandS.Zip
import HandS.ExcOwn
import HandS.EndBits
import HandS.Head0
import HandS.Head1
import HandS.Head2
import HandS.HeadEnd
import HandS.HeadHook1
import HandS.HeadHook2
import HandS.ExcInit
import HandS.ExcInitHot
import HandS.Nested
import KE.KExcSuper
import KE.KSuper
import KE.KExcInit
import HandS.ExcField
import HandS.HotCalls
import KE.KTryMore
import HandS.HeadWalk
import KE.KUnpackStar
import KE.KStateDown
import PySem.Challenge.RW_latedrops_k07_deeds_judged

set_option Elab.async false
set_option linter.all false
set_option maxRecDepth 100000
set_option maxHeartbeats 4000000
/-! Lp0: values with their contents (PV), cells, states, and how the layer's heap bears them. -/
namespace Lp
open PySem PySem.Spec PyProof.Rows L2

inductive PV where
  | non | bl (b : Bool) | int (i : Int) | str (x : Str)
  | tup (xs : List PV) | lst (xs : List PV) | scr (xs : List PV) | own (xs : List PV)
  | dic (ks : List (PV × PV)) | don (ks : List (PV × PV))
  | ins (c : Nat) (fs : List PV) | cel (n : Nat) | exn (c : Nat) (fs : List PV)
  | ty (n : String) | cls (c : Nat)

inductive Cell where
  | lst (xs : List PV) | dic (ks : List (PV × PV)) | ins (c : Nat) (fs : List PV)

abbrev AH := List (Option Cell)
structure S where
  e : List (Option PV)
  h : AH

/-- a run's end -/
inductive R (τ : Type) (α : Type) where
  | ok (a : α) (s : τ) | exc (x : PV) (s : τ) | bad
def R.bind {τ α β : Type} (r : R τ α) (f : α → τ → R τ β) : R τ β := match r with
  | .ok a s => f a s
  | .exc x s => .exc x s
  | .bad => .bad
@[simp] theorem R.bind_ok {τ α β : Type} (a : α) (s : τ) (f : α → τ → R τ β) : (R.ok a s).bind f = f a s := rfl
@[simp] theorem R.bind_exc {τ α β : Type} (x : PV) (s : τ) (f : α → τ → R τ β) : (R.exc x s : R τ α).bind f = .exc x s := rfl
@[simp] theorem R.bind_bad {τ α β : Type} (f : α → τ → R τ β) : (R.bad : R τ α).bind f = .bad := rfl
def R.post {τ α : Type} (r : R τ α) (P : α → τ → Prop) (E : PV → τ → Prop) : Prop := match r with
  | .ok a s => P a s
  | .exc x s => E x s
  | .bad => False
theorem R.post_bind {τ α β : Type} {r : R τ α} {f : α → τ → R τ β} {P : β → τ → Prop} {E : PV → τ → Prop} (h : (r.bind f).post P E) : r.post (fun a s => (f a s).post P E) E := by
  cases r with
  | ok a s => exact h
  | exc x s => exact h
  | bad => exact h
theorem R.post_mono {τ α : Type} {r : R τ α} {P P' : α → τ → Prop} {E E' : PV → τ → Prop} (h : r.post P E) (hp : ∀ a s, P a s → P' a s) (he : ∀ x s, E x s → E' x s) : r.post P' E' := by
  cases r with
  | ok a s => exact hp _ _ h
  | exc x s => exact he _ _ h
  | bad => exact h

/-! ### what bears a value -/
/-- the classes by number: where each stands, its fields in order -/
structure Bs where
  K : PySem.W.Frag
  cad : Nat → Addr
  fld : Nat → List Str
  T : List (Addr × Str)
  xn : Option (Addr × Nat × Addr) := none
/-- what stands still, by content; where the cells stand -/
structure Wd where
  F : Hp
  m : List Addr
def TupAt (B : Bs) (W : Wd) (a : Addr) (vs : List V) : Prop := W.F a = some (.tup vs) ∨
  ∃ (o : Obj) (its : Array Value) (n : Nat), B.K.lookup a = some o ∧ o.cls = .type "tuple" ∧ o.data = .seq its n ∧ its.size ≤ sizeLine ∧ Vals vs its.toList
/-- the script's list: locked, or of the written part -/
def ScrAt (B : Bs) (W : Wd) (a : Addr) (vs : List V) : Prop := ((W.F a = some (.lst vs) ∨ ∃ o, W.F a = some (.frz o (.lst vs))) ∧ vs.length ≤ sizeLine) ∨
  ∃ (o : Obj) (its : Array Value) (n : Nat), B.K.lookup a = some o ∧ o.cls = .type "list" ∧ o.dict = none ∧ o.data = .seq its n ∧ its.size ≤ sizeLine ∧ Vals vs its.toList
/-- a text of signs that are signs, not over the line -/
def SOk (x : Str) : Prop := PyData.strOk x = true ∧ x.length ≤ sizeLine
mutual
inductive Rep (B : Bs) (W : Wd) : PV → V → Prop where
  | non : Rep B W .non .non
  | bl (b : Bool) : Rep B W (.bl b) (.bl b)
  | int (i : Int) : Rep B W (.int i) (.int i)
  | str (x : Str) (h : SOk x) : Rep B W (.str x) (.str x)
  | ty (n : String) : Rep B W (.ty n) (.ty n)
  | cls (c : Nat) : Rep B W (.cls c) (.ref (B.cad c))
  | cel {n : Nat} {a : Addr} (h : W.m[n]? = some a) : Rep B W (.cel n) (.ref a)
  | tup {xs : List PV} {a : Addr} {vs : List V} (h : TupAt B W a vs) (r : Reps B W xs vs) : Rep B W (.tup xs) (.ref a)
  | lst {xs : List PV} {a : Addr} {vs : List V} (h : W.F a = some (.lst vs)) (r : Reps B W xs vs) : Rep B W (.lst xs) (.ref a)
  | scr {xs : List PV} {a : Addr} {vs : List V} (h : ScrAt B W a vs) (r : Reps B W xs vs) : Rep B W (.scr xs) (.ref a)
  | ins {c : Nat} {fs : List PV} {a dx : Addr} {vs : List V} (h : W.F a = some (.ins (B.cad c) dx ((B.fld c).zip vs))) (hl : vs.length ≤ (B.fld c).length) (r : Reps B W fs vs) : Rep B W (.ins c fs) (.ref a)
  | exn {c : Nat} {fs : List PV} {a dd : Addr} {vs : List V} (hx : B.xn = some (a, c, dd)) (h : W.F dd = some (.xd ((B.fld c).zip vs))) (hl : vs.length = (B.fld c).length) (r : Reps B W fs vs) : Rep B W (.exn c fs) (.ref a)
inductive Reps (B : Bs) (W : Wd) : List PV → List V → Prop where
  | nil : Reps B W [] []
  | cons {x : PV} {v : V} {xs : List PV} {vs : List V} (h : Rep B W x v) (t : Reps B W xs vs) : Reps B W (x :: xs) (v :: vs)
end
/-- worlds grow -/
structure Wd.Le (W W' : Wd) : Prop where
  F : ∀ a o, W.F a = some o → W'.F a = some o
  m : W.m <+: W'.m
theorem Wd.Le.refl (W : Wd) : W.Le W := ⟨fun _ _ h => h, List.prefix_refl _⟩
theorem Wd.Le.trans {W W1 W2 : Wd} (a : W.Le W1) (b : W1.Le W2) : W.Le W2 := ⟨fun c o h => b.F c o (a.F c o h), a.m.trans b.m⟩
theorem Wd.Le.at {W W' : Wd} (l : W.Le W') {n : Nat} {a : Addr} (h : W.m[n]? = some a) : W'.m[n]? = some a := by
  obtain ⟨t, e⟩ := l.m
  rw [← e, List.getElem?_append_left (List.getElem?_eq_some_iff.mp h).1]
  exact h
mutual
theorem Rep.mono {B : Bs} {W W' : Wd} (l : W.Le W') : ∀ {x : PV} {v : V}, Rep B W x v → Rep B W' x v
  | _, _, .non => .non
  | _, _, .bl b => .bl b
  | _, _, .int i => .int i
  | _, _, .str x h => .str x h
  | _, _, .ty n => .ty n
  | _, _, .cls c => .cls c
  | _, _, .cel h => .cel (l.at h)
  | _, _, .tup h r => .tup (h.imp (l.F _ _) fun z => z) (Reps.mono l r)
  | _, _, .lst h r => .lst (l.F _ _ h) (Reps.mono l r)
  | _, _, .scr h r => .scr (h.imp (fun ⟨e, z⟩ => ⟨e.imp (l.F _ _) fun ⟨o, e⟩ => ⟨o, l.F _ _ e⟩, z⟩) fun z => z) (Reps.mono l r)
  | _, _, .ins h hl r => .ins (l.F _ _ h) hl (Reps.mono l r)
  | _, _, .exn hx h hl r => .exn hx (l.F _ _ h) hl (Reps.mono l r)
theorem Reps.mono {B : Bs} {W W' : Wd} (l : W.Le W') : ∀ {xs : List PV} {vs : List V}, Reps B W xs vs → Reps B W' xs vs
  | _, _, .nil => .nil
  | _, _, .cons h t => .cons (Rep.mono l h) (Reps.mono l t)
end
section
variable {B : Bs} {W : Wd}
theorem Reps.length : ∀ {xs : List PV} {vs : List V}, Reps B W xs vs → xs.length = vs.length
  | _, _, .nil => rfl
  | _, _, .cons _ t => congrArg Nat.succ (Reps.length t)
theorem Reps.append : ∀ {xs ys : List PV} {vs ws : List V}, Reps B W xs vs → Reps B W ys ws → Reps B W (xs ++ ys) (vs ++ ws)
  | _, _, _, _, .nil, s => s
  | _, _, _, _, .cons r t, s => .cons r (Reps.append t s)
theorem Reps.get : ∀ {xs : List PV} {vs : List V} {i : Nat} {x : PV}, Reps B W xs vs → xs[i]? = some x → ∃ v, vs[i]? = some v ∧ Rep B W x v
  | _, _, _, _, .nil, e => by simp at e
  | _, _, 0, _, .cons r _, e => by simp at e; subst e; exact ⟨_, rfl, r⟩
  | _, _, i + 1, x, .cons _ t, e => by
    obtain ⟨u, h1, h2⟩ := Reps.get (i := i) (x := x) t (by simpa using e)
    exact ⟨u, by simpa using h1, h2⟩
theorem Reps.get' {xs : List PV} {vs : List V} {i : Nat} {v : V} (r : Reps B W xs vs) (e : vs[i]? = some v) : ∃ x, xs[i]? = some x ∧ Rep B W x v := by
  have hi : i < xs.length := by rw [r.length]; exact (List.getElem?_eq_some_iff.mp e).1
  obtain ⟨v', e', h⟩ := r.get (List.getElem?_eq_getElem hi)
  rw [e] at e'; cases e'
  exact ⟨_, List.getElem?_eq_getElem hi, h⟩
theorem Reps.set {x : PV} {v : V} (r : Rep B W x v) : ∀ {xs : List PV} {vs : List V} (i : Nat), Reps B W xs vs → Reps B W (xs.set i x) (vs.set i v)
  | _, _, _, .nil => .nil
  | _, _, 0, .cons _ t => .cons r t
  | _, _, i + 1, .cons q t => .cons q (Reps.set r i t)
theorem Reps.take : ∀ {xs : List PV} {vs : List V} (n : Nat), Reps B W xs vs → Reps B W (xs.take n) (vs.take n)
  | _, _, 0, _ => .nil
  | _, _, _ + 1, .nil => .nil
  | _, _, n + 1, .cons r t => .cons r (Reps.take n t)
theorem Reps.drop : ∀ {xs : List PV} {vs : List V} (n : Nat), Reps B W xs vs → Reps B W (xs.drop n) (vs.drop n)
  | _, _, 0, r => r
  | _, _, _ + 1, .nil => .nil
  | _, _, n + 1, .cons _ t => Reps.drop n t
theorem Reps.one {x : PV} {v : V} (r : Rep B W x v) : Reps B W [x] [v] := .cons r .nil
theorem Reps.rep {xs : List PV} {vs : List V} (h : Reps B W xs vs) : ∀ k : Nat, Reps B W (List.replicate k xs).flatten (List.replicate k vs).flatten
  | 0 => .nil
  | k + 1 => by
    rw [List.replicate_succ, List.replicate_succ, List.flatten_cons, List.flatten_cons]
    exact h.append (Reps.rep h k)
theorem Reps.reverse : ∀ {xs : List PV} {vs : List V}, Reps B W xs vs → Reps B W xs.reverse vs.reverse
  | _, _, .nil => .nil
  | _, _, .cons r t => by rw [List.reverse_cons, List.reverse_cons]; exact (Reps.reverse t).append (.one r)
end

/-! ### the heap -/
def Live (W : Wd) (h : AH) (a : Addr) : Prop := ∃ (n : Nat) (c : Cell), h[n]? = some (some c) ∧ W.m[n]? = some a
def CellR (B : Bs) (W : Wd) (H : Hp) (a : Addr) : Cell → Prop
  | .lst xs => ∃ vs, H a = some (.lst vs) ∧ Reps B W xs vs
  | .dic _ => False
  | .ins c fs => ∃ dx vs, H a = some (.ins (B.cad c) dx ((B.fld c).zip vs)) ∧ vs.length ≤ (B.fld c).length ∧ Reps B W fs vs
/-- an object within the line -/
def SzO : HO → Prop
  | .lst vs => vs.length ≤ sizeLine
  | .tup vs => vs.length ≤ sizeLine
  | .tbl _ => False
  | _ => True
/-- no table of code objects: the tables grow -/
def NT (o : HO) : Prop := ∀ ps, o ≠ .tbl ps
theorem SzO.nt {o : HO} (h : SzO o) : NT o := fun ps e => by rw [e] at h; exact h
theorem nt_lst {vs : List V} : NT (.lst vs) := fun _ z => nomatch z
theorem nt_tup {vs : List V} : NT (.tup vs) := fun _ z => nomatch z
theorem nt_ins {a b : Addr} {fs : List (Str × V)} : NT (.ins a b fs) := fun _ z => nomatch z
theorem nt_own {a : Addr} : NT (.own a) := fun _ z => nomatch z
structure HRel (B : Bs) (W : Wd) (h : AH) (H : Hp) : Prop where
  agree : ∀ a o, W.F a = some o → H a = some o
  len : W.m.length = h.length
  nd : W.m.Nodup
  mt : ∀ a ∈ W.m, H a ≠ none
  hz : ∀ a o, H a = some o → NT o → SzO o
  fz : ∀ a o, W.F a = some o → NT o
  tb : LamX.Tabs B.T H
  cell : ∀ (n : Nat) (c : Cell) (a : Addr), h[n]? = some (some c) → W.m[n]? = some a → W.F a = none ∧ CellR B W H a c
structure Step (W : Wd) (h : AH) (H : Hp) (W' : Wd) (h' : AH) (H' : Hp) : Prop where
  le : W.Le W'
  hl : h.length ≤ h'.length
  dead : ∀ (n : Nat) (c : Cell), n < h.length → h'[n]? = some (some c) → ∃ c0, h[n]? = some (some c0)
  keep : ∀ a o, H a = some o → NT o → ¬ Live W h a → H' a = some o
  tr : ∀ a, H' a = none → H a = none
  fgrow : ∀ a, W.F a = none → H a ≠ none → ¬ Live W h a → W'.F a = none
  hm : W'.m.length = h'.length
  mnew : ∀ (n : Nat) (a : Addr), h.length ≤ n → W'.m[n]? = some a → H a = none
section
variable {B : Bs} {W W' W1 : Wd} {h h' h1 : AH} {H H' H1 : Hp}
theorem Step.refl (r : HRel B W h H) : Step W h H W h H := ⟨.refl W, Nat.le_refl _, fun n c _ e => ⟨c, e⟩, fun _ _ e _ _ => e, fun _ e => e, fun _ e _ _ => e, r.len, fun n a hn e => by
  have := (List.getElem?_eq_some_iff.mp e).1
  rw [r.len] at this; omega⟩
theorem Live.back (s : Step W h H W1 h1 H1) (r : W.m.length = h.length) {a : Addr} (l : Live W1 h1 a) (e : H a ≠ none) : Live W h a := by
  obtain ⟨n, c, e1, e2⟩ := l
  by_cases hn : n < h.length
  · obtain ⟨c0, e0⟩ := s.dead n c hn e1
    have hm : n < W.m.length := by omega
    have q := s.le.at (List.getElem?_eq_getElem hm)
    rw [e2] at q
    cases q
    exact ⟨n, c0, e0, List.getElem?_eq_getElem hm⟩
  · exact absurd (s.mnew n a (by omega) e2) e
theorem Step.trans (r : W.m.length = h.length) (a : Step W h H W1 h1 H1) (b : Step W1 h1 H1 W' h' H') : Step W h H W' h' H' where
  le := a.le.trans b.le
  hl := Nat.le_trans a.hl b.hl
  dead := fun n c hn e => by
    obtain ⟨c1, e1⟩ := b.dead n c (Nat.lt_of_lt_of_le hn a.hl) e
    exact a.dead n c1 hn e1
  keep := fun x o e nt nl => b.keep x o (a.keep x o e nt nl) nt fun l => nl (l.back a r (by rw [e]; exact fun z => nomatch z))
  tr := fun x e => a.tr x (b.tr x e)
  fgrow := fun x e ne nl => b.fgrow x (a.fgrow x e ne nl) (fun z => ne (a.tr x z)) fun l => nl (l.back a r ne)
  hm := b.hm
  mnew := fun n x hn e => by
    by_cases h1' : h1.length ≤ n
    · exact a.tr x (b.mnew n x h1' e)
    · have hm : n < W1.m.length := by rw [a.hm]; omega
      have q := b.le.at (List.getElem?_eq_getElem hm)
      rw [e] at q
      cases q
      exact a.mnew n _ hn (List.getElem?_eq_getElem hm)
end
end Lp

set_option Elab.async false
set_option linter.all false
set_option maxRecDepth 100000
set_option maxHeartbeats 4000000
/-! Lp1: the judgements, names, constants, operators, tests. -/
namespace Lp
open PySem PySem.Spec PyProof.Rows L2

/-! ### a def's state -/
def isOwn : PV → Bool
  | .own _ => true
  | .don _ => true
  | _ => false
def SlotR (B : Bs) (W : Wd) (H H0 : Hp) (x : PV) (v : V) : Prop := match x with
  | .own xs => ∃ a vs, v = .ref a ∧ H a = some (.lst vs) ∧ Reps B W xs vs ∧ W.F a = none ∧ a ∉ W.m ∧ H0 a = none
  | .don _ => False
  | x => Rep B W x v
/-- a value in hand: a list of a slot's own may be read -/
def RepT (B : Bs) (W : Wd) (H : Hp) (x : PV) (v : V) : Prop := match x with
  | .own xs => ∃ a vs, v = .ref a ∧ H a = some (.lst vs) ∧ Reps B W xs vs ∧ a ∉ W.m
  | .don _ => False
  | x => Rep B W x v
/-- several values in hand -/
def RepTs (B : Bs) (W : Wd) (H : Hp) : List PV → List V → Prop
  | [], [] => True
  | x :: xs, v :: vs => RepT B W H x v ∧ RepTs B W H xs vs
  | _, _ => False
structure Ent where
  W : Wd
  h : AH
  H : Hp
  len : W.m.length = h.length
  P : Wd
structure Rel (B : Bs) (N : Ent) (W : Wd) (s : S) (σ : L2.St) (H : Hp) : Prop where
  hr : HRel B W s.h H
  st : Step N.W N.h N.H W s.h H
  len : σ.length = s.e.length
  env : ∀ (i : Nat) (x : PV), s.e[i]? = some (some x) → ∃ v, σ[i]? = some (some v) ∧ SlotR B W H N.H x v
  dis : ∀ (i j : Nat) (x y : PV) (a : Addr), i ≠ j → s.e[i]? = some (some x) → s.e[j]? = some (some y) → isOwn x = true → isOwn y = true → σ[i]? = some (some (.ref a)) → σ[j]? = some (some (.ref a)) → False
  pin : N.P.Le W
theorem Rep.slot {B : Bs} {W : Wd} {H H0 : Hp} {x : PV} {v : V} (r : Rep B W x v) : SlotR B W H H0 x v := by
  cases r <;> (first | exact .non | exact .bl _ | exact .int _ | (rename_i h; exact .str _ h) | exact .ty _ | exact .cls _ | (rename_i h; exact .cel h) | skip)
  · rename_i h r; exact Rep.tup h r
  · rename_i h r; exact Rep.lst h r
  · rename_i h r; exact Rep.scr h r
  · rename_i h hl r; exact Rep.ins h hl r
  · rename_i hx h hl r; exact Rep.exn hx h hl r
theorem Rep.hand {B : Bs} {W : Wd} {H : Hp} {x : PV} {v : V} (r : Rep B W x v) : RepT B W H x v := by
  cases r <;> (first | exact .non | exact .bl _ | exact .int _ | (rename_i h; exact .str _ h) | exact .ty _ | exact .cls _ | (rename_i h; exact .cel h) | skip)
  · rename_i h r; exact Rep.tup h r
  · rename_i h r; exact Rep.lst h r
  · rename_i h r; exact Rep.scr h r
  · rename_i h hl r; exact Rep.ins h hl r
  · rename_i hx h hl r; exact Rep.exn hx h hl r
theorem SlotR.hand {B : Bs} {W : Wd} {H H0 : Hp} {x : PV} {v : V} (r : SlotR B W H H0 x v) : RepT B W H x v := by
  cases x with
  | own xs =>
    obtain ⟨a, vs, e, h, r, _, nm, _⟩ := r
    exact ⟨a, vs, e, h, r, nm⟩
  | don ks => exact r
  | _ => exact r
theorem RepT.rep {B : Bs} {W : Wd} {H : Hp} {x : PV} {v : V} (r : RepT B W H x v) (o : isOwn x = false) : Rep B W x v := by
  cases x with
  | own xs => cases o
  | don ks => cases o
  | _ => exact r

section
variable {B : Bs} {N : Ent} {W W' : Wd} {s s' : S} {σ : L2.St} {H H' : Hp}
theorem Rel.slen (r : Rel B N W s σ H) : W.m.length = s.h.length := r.hr.len
theorem Live.mem {W : Wd} {h : AH} {a : Addr} (l : Live W h a) : a ∈ W.m := let ⟨_, _, _, e⟩ := l; List.mem_of_getElem? e
theorem Step.notm {W W' : Wd} {h h' : AH} {H H' : Hp} {a : Addr} (st : Step W h H W' h' H') (hl : W.m.length = h.length) (n : a ∉ W.m) (e : H a ≠ none) : a ∉ W'.m := fun z => by
  obtain ⟨k, e1⟩ := List.mem_iff_getElem?.mp z
  by_cases hk : h.length ≤ k
  · exact e (st.mnew k a hk e1)
  · have hm : k < W.m.length := by omega
    have q := st.le.at (List.getElem?_eq_getElem hm)
    rw [e1] at q
    cases q
    exact n (List.getElem_mem hm)
theorem RepT.on {x : PV} {v : V} (hl : W.m.length = s.h.length) (st : Step W s.h H W' s'.h H') (r : RepT B W H x v) : RepT B W' H' x v := by
  cases x with
  | own xs =>
    obtain ⟨a, vs, e, h, r, n⟩ := r
    exact ⟨a, vs, e, st.keep _ _ h nt_lst fun l => n l.mem, r.mono st.le, st.notm hl n (by rw [h]; exact fun z => nomatch z)⟩
  | don ks => exact r
  | _ => exact Rep.mono st.le r
theorem RepTs.on (hl : W.m.length = s.h.length) (st : Step W s.h H W' s'.h H') : ∀ {xs : List PV} {vs : List V}, RepTs B W H xs vs → RepTs B W' H' xs vs
  | [], [], _ => trivial
  | x :: xs, v :: vs, ⟨h, t⟩ => ⟨h.on hl st, RepTs.on hl st t⟩
  | [], _ :: _, h => h.elim
  | _ :: _, [], h => h.elim
end

/-! ### judgements -/
def ExcR (B : Bs) (H0 : Hp) (W : Wd) (H : Hp) (x : PV) (cls : Value) (d : Option Addr) : Prop :=
  ∃ (c : Nat) (fs : List PV) (dd : Addr) (vs : List V), x = .ins c fs ∧ cls = .ref (B.cad c) ∧ d = some dd ∧ H dd = some (.xd ((B.fld c).zip vs)) ∧ vs.length = (B.fld c).length ∧ Reps B W fs vs ∧ (H0 dd = none ∧ W.F dd = none ∧ dd ∉ W.m)
theorem ExcR.old {B : Bs} {H0 H1 : Hp} {W : Wd} {H : Hp} {x : PV} {cls : Value} {d : Option Addr} (e : ExcR B H0 W H x cls d) (h : ∀ a, H0 a = none → H1 a = none) : ExcR B H1 W H x cls d :=
  let ⟨c, fs, dd, vs, a1, a2, a3, a4, a5, a6, a7, a8⟩ := e
  ⟨c, fs, dd, vs, a1, a2, a3, a4, a5, a6, h _ a7, a8⟩
/-- its dict is younger than H -/
def Nw (H : Hp) (d : Option Addr) : Prop := ∀ dd, d = some dd → H dd = none
theorem ExcR.nw {B : Bs} {H0 : Hp} {W : Wd} {H : Hp} {x : PV} {cls : Value} {d : Option Addr} (e : ExcR B H0 W H x cls d) : Nw H0 d := fun dd ed => by
  obtain ⟨c, fs, dd', vs, a1, a2, a3, a4, a5, a6, a7, a8⟩ := e
  rw [a3] at ed
  cases ed
  exact a7
abbrev ME := S → R S PV
/-- a step of an expression: no slot gets a list of its own -/
structure StepE (W : Wd) (s : S) (H : Hp) (W' : Wd) (s' : S) (H' : Hp) : Prop where
  st : Step W s.h H W' s'.h H'
  eo : ∀ (i : Nat) (x : PV), s'.e[i]? = some (some x) → isOwn x = true → s.e[i]? = some (some x)
theorem StepE.refl {B : Bs} {W : Wd} {s : S} {H : Hp} (r : HRel B W s.h H) : StepE W s H W s H := ⟨Step.refl r, fun _ _ e _ => e⟩
theorem StepE.trans {W W1 W2 : Wd} {s s1 s2 : S} {H H1 H2 : Hp} (hl : W.m.length = s.h.length) (a : StepE W s H W1 s1 H1) (b : StepE W1 s1 H1 W2 s2 H2) : StepE W s H W2 s2 H2 := ⟨a.st.trans hl b.st, fun i x e o => a.eo i x (b.eo i x e o) o⟩
/-- what is wanted behind a run that began at W, s, H: of its value at each state that bears it; of an exception -/
def Post (B : Bs) (N : Ent) (WX : WX) {α : Type} (W : Wd) (s : S) (H : Hp) (σ : L2.St) (r : R S α) (P : α → Wd → S → Hp → Prop) : Prop := r.post
  (fun v s' => ∀ W' H', Rel B N W' s' σ H' → StepE W s H W' s' H' → P v W' s' H')
  (fun x s' => ∀ W' H' cls d, Rel B N W' s' σ H' → StepE W s H W' s' H' → ExcR B N.H W' H' x cls d → Nw H d → WX cls d σ H')
section
variable {B : Bs} {N : Ent} {WX : WX} {α β : Type} {W W1 : Wd} {s s1 : S} {H H1 : Hp} {σ : L2.St}
theorem Post.from {r : R S α} {P : α → Wd → S → Hp → Prop} (hl : W.m.length = s.h.length) (st : StepE W s H W1 s1 H1) (q : Post B N WX W s H σ r P) : Post B N WX W1 s1 H1 σ r P :=
  R.post_mono q (fun _ _ q W' H' r' st' => q W' H' r' (st.trans hl st')) fun _ _ q W' H' cls d r' st' e nw => q W' H' cls d r' (st.trans hl st') e fun dd ed => st.st.tr _ (nw dd ed)
theorem Post.mono {r : R S α} {P P' : α → Wd → S → Hp → Prop} (q : Post B N WX W s H σ r P) (k : ∀ v W' s' H', Rel B N W' s' σ H' → StepE W s H W' s' H' → P v W' s' H' → P' v W' s' H') : Post B N WX W s H σ r P' :=
  R.post_mono q (fun _ _ q W' H' r' st' => k _ _ _ _ r' st' (q W' H' r' st')) fun _ _ q => q
theorem Post.bind {r : R S α} {f : α → S → R S β} {P : β → Wd → S → Hp → Prop} (hl : W.m.length = s.h.length) (q : Post B N WX W s H σ (r.bind f) P) : Post B N WX W s H σ r fun v W' s' H' => Post B N WX W' s' H' σ (f v s') P :=
  R.post_mono (R.post_bind q) (fun _ _ q W' H' r' st' => Post.from hl st' q) fun _ _ q => q
theorem Post.ok {v : α} {P : α → Wd → S → Hp → Prop} (r : Rel B N W s σ H) (q : Post B N WX W s H σ (.ok v s) P) : P v W s H := q W H r (StepE.refl r.hr)
end
def tE (B : Bs) (N : Ent) (WX : WX) (m : ME) : TE := fun σ H Q => ∃ W s, Rel B N W s σ H ∧ Post B N WX W s H σ (m s) fun v W' _ H' => ∀ v', RepT B W' H' v v' → Q v' H'
def tT (B : Bs) (N : Ent) (WX : WX) (m : S → R S Bool) : TT := fun σ H Q => ∃ W s, Rel B N W s σ H ∧ Post B N WX W s H σ (m s) fun v _ _ H' => Q v H'
def tA (B : Bs) (N : Ent) (WX : WX) (m : S → R S (List PV)) : TA := fun σ H Q => ∃ W s, Rel B N W s σ H ∧ Post B N WX W s H σ (m s) fun v W' _ H' => ∀ v', RepTs B W' H' v v' → Q v' H'
abbrev SimE (X : Cx) (B : Bs) (N : Ent) (WX : WX) (e : Expr) (m : ME) : Prop := PE X e (tE B N WX m)
abbrev SimT (X : Cx) (B : Bs) (N : Ent) (WX : WX) (e : Expr) (m : S → R S Bool) : Prop := PT X e (tT B N WX m)
abbrev SimW (X : Cx) (B : Bs) (N : Ent) (WX : WX) (e : Expr) (m : S → R S Bool) : Prop := PW X e (tT B N WX m)
abbrev SimA (X : Cx) (B : Bs) (N : Ent) (WX : WX) (es : List Expr) (m : S → R S (List PV)) : Prop := PA X es (tA B N WX m)
theorem _root_.L2.PE.imp {X : Cx} {e : Expr} {t t' : TE} (h : PE X e t) (w : ∀ σ H Q, t' σ H Q → t σ H Q) : PE X e t' := ⟨fun pins s σ H Q I q => h.run pins s σ H Q I (w _ _ _ q)⟩
theorem _root_.L2.PT.imp {X : Cx} {e : Expr} {t t' : TT} (h : PT X e t) (w : ∀ σ H Q, t' σ H Q → t σ H Q) : PT X e t' := ⟨fun pins s σ H Q I q => h.run pins s σ H Q I (w _ _ _ q)⟩
theorem _root_.L2.PW.imp {X : Cx} {e : Expr} {t t' : TT} (h : PW X e t) (w : ∀ σ H Q, t' σ H Q → t σ H Q) : PW X e t' := ⟨fun wh pins s σ H Q I q => h.run wh pins s σ H Q I (w _ _ _ q)⟩
theorem _root_.L2.PA.imp {X : Cx} {e : List Expr} {t t' : TA} (h : PA X e t) (w : ∀ σ H Q, t' σ H Q → t σ H Q) : PA X e t' := ⟨fun p pins s σ H Q I q => h.run p pins s σ H Q I (w _ _ _ q)⟩
theorem _root_.L2.PS.imp {X : Cx} {e : Stmt} {t t' : TS} (h : PS X e t) (w : ∀ D σ H, t' D σ H → t D σ H) : PS X e t' := ⟨fun pins s σ H D I q => h.run pins s σ H D I (w _ _ _ q)⟩
theorem _root_.L2.PSs.imp {X : Cx} {e : List Stmt} {t t' : TS} (h : PSs X e t) (w : ∀ D σ H, t' D σ H → t D σ H) : PSs X e t' := ⟨fun pins s σ H D I q => h.run pins s σ H D I (w _ _ _ q)⟩

/-! ### names, constants -/
def eVar (i : Nat) : ME := fun s => match s.e[i]? with
  | some (some v) => .ok v s
  | _ => .bad
def eC (v : PV) : ME := fun s => .ok v s
section
variable {X : Cx} {B : Bs} {N : Ent} {WX : WX}
theorem sim_var {i : Nat} {x : Str} {pos : Pos} (hN : X.N[i]? = some x) (hv : Vis X.env.scope x) (hd : (x == ("__debug__" : Str)) = false) (hcd : (x == ("__classdict__" : Str)) = false) : SimE X B N WX (.Name x pos) (eVar i) :=
  (pe_var hN hv hd hcd).imp fun σ H Q ⟨W, s, r, h⟩ => by
    unfold eVar at h
    split at h
    · rename_i v e
      obtain ⟨v', e', sl⟩ := r.env i v e
      exact ⟨v', e', h.ok r v' sl.hand⟩
    · exact h.elim
theorem sim_c {e : Expr} {x : PV} {v : V} (h : PE X e (tC v)) (rx : ∀ W, Rep B W x v) : SimE X B N WX e (eC x) :=
  h.imp fun σ H Q ⟨W, s, r, h⟩ => h.ok r v (rx W).hand
theorem sim_int {i : Int} {j pos} : SimE X B N WX (.Constant (.int i) j pos) (eC (.int i)) := sim_c pe_int fun _ => .int i
theorem sim_bl {b : Bool} {j pos} : SimE X B N WX (.Constant (.bool b) j pos) (eC (.bl b)) := sim_c pe_bl fun _ => .bl b
theorem sim_non {j pos} : SimE X B N WX (.Constant .none j pos) (eC .non) := sim_c pe_non fun _ => .non
theorem sim_str {x : Str} {j pos} (h : SOk x) : SimE X B N WX (.Constant (.str x) j pos) (eC (.str x)) := sim_c pe_str fun _ => .str x h
end

/-! ### two-place operations by values -/
/-- a pure operation that a rule of the layer bears -/
def BinSem (X : Cx) (B : Bs) (f : AH → PV → PV → Option PV) (r : R2) : Prop := ∀ (W : Wd) (h : AH) (H : Hp) (x y z : PV) (x' y' : V) (Q : VK), HRel B W h H → RepT B W H x x' → RepT B W H y y' → f h x y = some z →
  (∀ z', RepT B W H z z' → Q z' H) → r x' y' H Q
def eBin (f : AH → PV → PV → Option PV) (a b : ME) : ME := fun s => (a s).bind fun x s1 => (b s1).bind fun y s2 => match f s2.h x y with
  | some z => .ok z s2
  | none => .bad
section
variable {X : Cx} {B : Bs} {N : Ent} {WX : WX} {a b : Expr} {ma mb : ME} {pos : Pos}
/-- two expressions in a row: what is known behind both -/
theorem two {f : PV → PV → S → R S PV} {σ : L2.St} {H : Hp} {Q : VK} (h : tE B N WX (fun s => (ma s).bind fun x s1 => (mb s1).bind fun y s2 => f x y s2) σ H Q) {k : V → V → Hp → Prop}
    (hk : ∀ W2 s2 H2 x y x' y', Rel B N W2 s2 σ H2 → RepT B W2 H2 x x' → RepT B W2 H2 y y' → Post B N WX W2 s2 H2 σ (f x y s2) (fun u W' _ H' => ∀ u', RepT B W' H' u u' → Q u' H') → k x' y' H2) :
    tE B N WX ma σ H fun x' H1 => tE B N WX mb σ H1 fun y' H2 => k x' y' H2 := by
  obtain ⟨W, s, r, h⟩ := h
  refine ⟨W, s, r, (h.bind r.slen).mono fun x W1 s1 H1 r1 _ q x' rx => ⟨W1, s1, r1, (q.bind r1.slen).mono fun y W2 s2 H2 r2 st2 q y' ry => ?_⟩⟩
  exact hk W2 s2 H2 x y x' y' r2 (rx.on r1.slen st2.st) ry q
theorem sim_bin {op : Operator} {r : R2} {f : AH → PV → PV → Option PV} (ho : OpR X (binaryOp op) r) (hf : BinSem X B f r) (ha : SimE X B N WX a ma) (hb : SimE X B N WX b mb) : SimE X B N WX (.BinOp a op b pos) (eBin f ma mb) :=
  (pe_op ho ha hb).imp fun σ H Q h => two h fun W2 s2 H2 x y x' y' r2 rx ry q => by
    split at q
    · rename_i z e
      exact hf W2 s2.h H2 x y z x' y' Q r2.hr rx ry e fun z' rz => q.ok r2 z' rz
    · exact q.elim
theorem sim_cmp {op : CmpOp} {r : R2} {f : AH → PV → PV → Option PV} (ho : OpR X (compareOp op) r) (hf : BinSem X B f r) (ha : SimE X B N WX a ma) (hb : SimE X B N WX b mb) (hm : behindInMarks op b = false) : SimE X B N WX (.Compare a [op] [b] pos) (eBin f ma mb) :=
  (pe_cmpR ho ha hb hm).imp fun σ H Q h => two h fun W2 s2 H2 x y x' y' r2 rx ry q => by
    split at q
    · rename_i z e
      exact hf W2 s2.h H2 x y z x' y' Q r2.hr rx ry e fun z' rz => q.ok r2 z' rz
    · exact q.elim
end

/-! ### tests -/
def asL (h : AH) : PV → Option (List PV)
  | .lst xs => some xs
  | .own xs => some xs
  | .scr xs => some xs
  | .cel n => match h[n]? with
    | some (some (.lst xs)) => some xs
    | _ => none
  | _ => none
def tru (h : AH) : PV → Option Bool
  | .non => some false
  | .bl b => some b
  | .int i => some (i != 0)
  | .str x => some ((x.length : Int) != 0)
  | .tup xs => some (!xs.isEmpty)
  | x => (asL h x).map fun xs => !xs.isEmpty
section
variable {X : Cx} {B : Bs} {N : Ent} {WX : WX} {W : Wd} {h : AH} {H : Hp}
theorem asL_ok (hr : HRel B W h H) {x : PV} {x' : V} {xs : List PV} (rx : RepT B W H x x') (e : asL h x = some xs) : ∃ a vs, x' = .ref a ∧ SqL B.K H a vs ∧ Reps B W xs vs := by
  cases x with
  | lst ys =>
    cases e
    cases (show Rep B W (.lst _) x' from rx) with
    | lst h r => exact ⟨_, _, rfl, .inl (.inl (hr.agree _ _ h)), r⟩
  | scr ys =>
    cases e
    cases (show Rep B W (.scr _) x' from rx) with
    | scr h r => exact ⟨_, _, rfl, h.imp (fun ⟨e, _⟩ => e.imp (hr.agree _ _) fun ⟨o, e⟩ => ⟨o, hr.agree _ _ e⟩) fun z => z, r⟩
  | own ys =>
    cases e
    obtain ⟨a, vs, rfl, h, r, _⟩ := rx
    exact ⟨a, vs, rfl, .inl (.inl h), r⟩
  | cel n =>
    cases (show Rep B W (.cel n) x' from rx) with
    | cel h1 =>
      unfold asL at e
      dsimp only at e
      split at e
      · rename_i ys q
        cases e
        obtain ⟨_, vs, h2, r⟩ := hr.cell n _ _ q h1
        exact ⟨_, vs, rfl, .inl (.inl h2), r⟩
      · cases e
  | _ => cases e
theorem asL_sz (hr : HRel B W h H) {x : PV} {x' : V} {xs : List PV} (rx : RepT B W H x x') (e : asL h x = some xs) : xs.length ≤ sizeLine := by
  cases x with
  | lst ys =>
    cases e
    cases (show Rep B W (.lst _) x' from rx) with
    | lst h r => rw [r.length]; exact hr.hz _ _ (hr.agree _ _ h) nt_lst
  | scr ys =>
    cases e
    cases (show Rep B W (.scr _) x' from rx) with
    | scr h r =>
      rw [r.length]
      rcases h with ⟨_, z⟩ | ⟨o, its, n, _, _, _, _, z, q⟩
      · exact z
      · rw [q.length, Array.length_toList]; exact z
  | own ys =>
    cases e
    obtain ⟨a, vs, rfl, h, r, _⟩ := rx
    rw [r.length]; exact hr.hz _ _ h nt_lst
  | cel n =>
    cases (show Rep B W (.cel n) x' from rx) with
    | cel h1 =>
      unfold asL at e
      dsimp only at e
      split at e
      · rename_i ys q
        cases e
        obtain ⟨_, vs, h2, r⟩ := hr.cell n _ _ q h1
        rw [r.length]; exact hr.hz _ _ h2 nt_lst
      · cases e
  | _ => cases e
theorem rd_sql (hK : X.K = B.K) {a : Addr} {vs : List V} (h : SqL B.K H a vs) : SqL X.K H a vs := hK ▸ h
theorem tup_ok (hK : X.K = B.K) (hr : HRel B W h H) {x' : V} {xs : List PV} (rx : Rep B W (.tup xs) x') : ∃ a vs, x' = .ref a ∧ SqT X.K H a vs ∧ Reps B W xs vs := by
  cases rx with
  | tup h r =>
    refine ⟨_, _, rfl, ?_, r⟩
    rcases h with h | ⟨o, its, n, h1, h2, h3, h4, h5⟩
    · exact .inl (.inl (hr.agree _ _ h))
    · exact .inr ⟨o, its, n, hK ▸ h1, h2, h3, h4, h5⟩
theorem reps_emp {xs : List PV} {vs : List V} (r : Reps B W xs vs) : (!xs.isEmpty) = !vs.isEmpty := by
  cases r <;> rfl
theorem tru_sem (hK : X.K = B.K) (hr : HRel B W h H) {x : PV} {x' : V} {b : Bool} (rx : RepT B W H x x') (e : tru h x = some b) : TruV X.K x' H b := by
  have fin : ∀ xs, asL h x = some xs → b = !xs.isEmpty → TruV X.K x' H b := fun xs e1 e2 => by
    obtain ⟨a, vs, rfl, h1, r⟩ := asL_ok hr rx e1
    exact .inl ⟨vs, rd_sql hK h1, by rw [e2, reps_emp r]⟩
  cases x with
  | non => cases (show Rep B W .non x' from rx); cases e; exact rfl
  | bl c => cases (show Rep B W (.bl c) x' from rx); cases e; exact rfl
  | int i => cases (show Rep B W (.int i) x' from rx); cases e; exact rfl
  | str y =>
    cases (show Rep B W (.str y) x' from rx) with
    | str _ hy =>
      cases e
      exact ⟨hy.2, rfl⟩
  | tup xs =>
    obtain ⟨a, vs, rfl, h1, r⟩ := tup_ok hK hr (show Rep B W (.tup xs) x' from rx)
    cases e
    exact .inr (.inl ⟨vs, h1, reps_emp r⟩)
  | lst ys => cases e; exact fin ys rfl rfl
  | scr ys => cases e; exact fin ys rfl rfl
  | own ys => cases e; exact fin ys rfl rfl
  | cel n =>
    have e' : (asL h (.cel n)).map (fun xs => !xs.isEmpty) = some b := e
    cases q : asL h (.cel n) with
    | none => rw [q] at e'; cases e'
    | some xs =>
      rw [q] at e'
      cases e'
      exact fin xs q rfl
  | _ => cases e
end
def tM (m : ME) : S → R S Bool := fun s => (m s).bind fun v s1 => match tru s1.h v with
  | some b => .ok b s1
  | none => .bad
def andM (a b : S → R S Bool) : S → R S Bool := fun s => (a s).bind fun c s1 => if c = true then b s1 else .ok false s1
def orM (a b : S → R S Bool) : S → R S Bool := fun s => (a s).bind fun c s1 => if c = true then .ok true s1 else b s1
def notM (a : S → R S Bool) : S → R S Bool := fun s => (a s).bind fun c s1 => .ok (!c) s1
def blM (a : S → R S Bool) : ME := fun s => (a s).bind fun c s1 => .ok (.bl c) s1
def ifM (c : S → R S Bool) (a b : ME) : ME := fun s => (c s).bind fun k s1 => if k = true then a s1 else b s1
/-- a value that is True or False -/
def bM (m : ME) : S → R S Bool := fun s => (m s).bind fun v s1 => match v with
  | .bl b => .ok b s1
  | _ => .bad
section
variable {X : Cx} {B : Bs} {N : Ent} {WX : WX} {a b c : Expr} {rest : List Expr} {ma mb : ME} {ta tb : S → R S Bool} {pos : Pos}
theorem sim_truth (hK : X.K = B.K) (ha : SimE X B N WX a ma) (he : ∀ whole, isTrue a X.env whole = (do let v ← whole; standAt a.pos; holding [v] (truthy v))) : SimT X B N WX a (tM ma) :=
  (pt_truth ha he).imp fun σ H Q ⟨W, s, r, h⟩ => ⟨W, s, r, (h.bind r.slen).mono fun v W1 s1 H1 r1 _ q v' rv => by
    split at q
    · rename_i k e
      exact ⟨k, tru_sem hK r1.hr rv e, q.ok r1⟩
    · exact q.elim⟩
theorem tB_of {ma : ME} {σ : L2.St} {H : Hp} {Q : Bool → Hp → Prop} (h : tT B N WX (bM ma) σ H Q) : tE B N WX ma σ H fun x H1 => ∃ c, x = .bl c ∧ Q c H1 := by
  obtain ⟨W, s, r, h⟩ := h
  refine ⟨W, s, r, (h.bind r.slen).mono fun v W1 s1 H1 r1 _ q v' rv => ?_⟩
  cases v with
  | bl c =>
    cases (show Rep B W1 (.bl c) v' from rv)
    exact ⟨c, rfl, q.ok r1⟩
  | _ => exact q.elim
/-- a comparison as a test -/
theorem sim_tcmp {op : CmpOp} {r : R2} {f : AH → PV → PV → Option PV} (ho : OpR X (compareOp op) r) (hf : BinSem X B f r) (ha : SimE X B N WX a ma) (hb : SimE X B N WX b mb) (hm : behindInMarks op b = false) : SimT X B N WX (.Compare a [op] [b] pos) (bM (eBin f ma mb)) :=
  (pt_cmpR ho ha hb hm).imp fun σ H Q h => two (tB_of h) fun W2 s2 H2 x y x' y' r2 rx ry q => by
    split at q
    · rename_i z e
      exact hf W2 s2.h H2 x y z x' y' _ r2.hr rx ry e fun z' rz => q.ok r2 z' rz
    · exact q.elim
theorem tAnd_of {σ : L2.St} {H : Hp} {Q : Bool → Hp → Prop} (h : tT B N WX (andM ta tb) σ H Q) : tAnd (tT B N WX ta) (tT B N WX tb) σ H Q := by
  obtain ⟨W, s, r, h⟩ := h
  refine ⟨W, s, r, (h.bind r.slen).mono fun c W1 s1 H1 r1 _ q => ?_⟩
  cases c with
  | true => exact iteT ⟨W1, s1, r1, q⟩
  | false => exact iteF (q.ok r1)
theorem tOr_of {σ : L2.St} {H : Hp} {Q : Bool → Hp → Prop} (h : tT B N WX (orM ta tb) σ H Q) : tOr (tT B N WX ta) (tT B N WX tb) σ H Q := by
  obtain ⟨W, s, r, h⟩ := h
  refine ⟨W, s, r, (h.bind r.slen).mono fun c W1 s1 H1 r1 _ q => ?_⟩
  cases c with
  | true => exact iteT (q.ok r1)
  | false => exact iteF ⟨W1, s1, r1, q⟩
theorem simw_and1 (ha : SimT X B N WX a ta) : SimW X B N WX (.BoolOp .And [a] pos) ta := pw_and1 ha
theorem simw_or1 (ha : SimT X B N WX a ta) : SimW X B N WX (.BoolOp .Or [a] pos) ta := pw_or1 ha
theorem simw_and (ha : SimT X B N WX a ta) (hb : SimW X B N WX (.BoolOp .And (b :: rest) pos) tb) : SimW X B N WX (.BoolOp .And (a :: b :: rest) pos) (andM ta tb) := (pw_and ha hb).imp fun _ _ _ h => tAnd_of h
theorem simw_or (ha : SimT X B N WX a ta) (hb : SimW X B N WX (.BoolOp .Or (b :: rest) pos) tb) : SimW X B N WX (.BoolOp .Or (a :: b :: rest) pos) (orM ta tb) := (pw_or ha hb).imp fun _ _ _ h => tOr_of h
theorem sim_tbool {op : BoolOp} {es : List Expr} (h : SimW X B N WX (.BoolOp op es pos) ta) : SimT X B N WX (.BoolOp op es pos) ta := h.pt
theorem sim_tnot (ha : SimT X B N WX a ta) : SimT X B N WX (.UnaryOp .Not a pos) (notM ta) := (pt_not ha).imp fun σ H Q ⟨W, s, r, h⟩ => ⟨W, s, r, (h.bind r.slen).mono fun c W1 s1 H1 r1 _ q => q.ok r1⟩
theorem sim_ifexp (hc : SimT X B N WX c ta) (ha : SimE X B N WX a ma) (hb : SimE X B N WX b mb) : SimE X B N WX (.IfExp c a b pos) (ifM ta ma mb) :=
  (pe_ifExp hc ha hb).imp fun σ H Q ⟨W, s, r, h⟩ => ⟨W, s, r, (h.bind r.slen).mono fun k W1 s1 H1 r1 _ q => by
    cases k with
    | true => exact iteT ⟨W1, s1, r1, q⟩
    | false => exact iteF ⟨W1, s1, r1, q⟩⟩
/-! as values -/
def andV (a b : ME) : ME := fun s => (a s).bind fun v s1 => match v with
  | .bl true => b s1
  | .bl false => .ok (.bl false) s1
  | _ => .bad
def orV (a b : ME) : ME := fun s => (a s).bind fun v s1 => match v with
  | .bl true => .ok (.bl true) s1
  | .bl false => b s1
  | _ => .bad
def notV (a : ME) : ME := fun s => (a s).bind fun v s1 => match v with
  | .bl k => .ok (.bl (!k)) s1
  | _ => .bad
theorem sim_one {op : BoolOp} (ha : SimE X B N WX a ma) : SimE X B N WX (.BoolOp op [a] pos) ma := pe_one ha
theorem sim_and (ha : SimE X B N WX a ma) (hb : SimE X B N WX (.BoolOp .And (b :: rest) pos) mb) : SimE X B N WX (.BoolOp .And (a :: b :: rest) pos) (andV ma mb) :=
  (pe_and ha hb).imp fun σ H Q ⟨W, s, r, h⟩ => ⟨W, s, r, (h.bind r.slen).mono fun v W1 s1 H1 r1 _ q v' rv => by
    cases v with
    | bl k =>
      cases (show Rep B W1 (.bl k) v' from rv)
      cases k with
      | true => exact ⟨true, rfl, iteT ⟨W1, s1, r1, q⟩⟩
      | false => exact ⟨false, rfl, iteF (q.ok r1 _ (Rep.bl false).hand)⟩
    | _ => exact q.elim⟩
theorem sim_or (ha : SimE X B N WX a ma) (hb : SimE X B N WX (.BoolOp .Or (b :: rest) pos) mb) : SimE X B N WX (.BoolOp .Or (a :: b :: rest) pos) (orV ma mb) :=
  (pe_or ha hb).imp fun σ H Q ⟨W, s, r, h⟩ => ⟨W, s, r, (h.bind r.slen).mono fun v W1 s1 H1 r1 _ q v' rv => by
    cases v with
    | bl k =>
      cases (show Rep B W1 (.bl k) v' from rv)
      cases k with
      | true => exact ⟨true, rfl, iteT (q.ok r1 _ (Rep.bl true).hand)⟩
      | false => exact ⟨false, rfl, iteF ⟨W1, s1, r1, q⟩⟩
    | _ => exact q.elim⟩
theorem sim_not (ha : SimE X B N WX a ma) : SimE X B N WX (.UnaryOp .Not a pos) (notV ma) :=
  (pe_not ha).imp fun σ H Q ⟨W, s, r, h⟩ => ⟨W, s, r, (h.bind r.slen).mono fun v W1 s1 H1 r1 _ q v' rv => by
    cases v with
    | bl k =>
      cases (show Rep B W1 (.bl k) v' from rv)
      exact ⟨k, rfl, q.ok r1 _ (Rep.bl (!k)).hand⟩
    | _ => exact q.elim⟩
end
end Lp

set_option Elab.async false
set_option linter.all false
set_option maxRecDepth 100000
set_option maxHeartbeats 4000000
/-! Lp2: operations on values, with new objects. -/
namespace Lp
open PySem PySem.Spec PyProof.Rows L2

/-! ### a new object that stands still -/
inductive Grow : Wd → Hp → Wd → Hp → Prop where
  | refl (W : Wd) (H : Hp) : Grow W H W H
  | new {W : Wd} {H : Hp} {p : Addr} {o : HO} (hp : H p = none) (ho : SzO o) : Grow W H ⟨upd W.F p o, W.m⟩ (upd H p o)
section
variable {B : Bs} {N : Ent} {W W' : Wd} {h : AH} {s : S} {σ : L2.St} {H H' : Hp} {p : Addr} {o : HO}
theorem HRel.fnone (r : HRel B W h H) (hp : H p = none) : W.F p = none := by
  cases e : W.F p with
  | none => rfl
  | some o => rw [r.agree _ _ e] at hp; cases hp
theorem le_new (hF : W.F p = none) : W.Le ⟨upd W.F p o, W.m⟩ := ⟨fun a u e => by
  show upd W.F p o a = some u
  rw [upd_ne (ne_of_none e hF)]; exact e, List.prefix_refl _⟩
theorem CellR.mono {c : Cell} {a : Addr} (l : W.Le W') (hH : ∀ u, H a = some u → H' a = some u) (r : CellR B W H a c) : CellR B W' H' a c := by
  cases c with
  | lst xs => obtain ⟨vs, h1, h2⟩ := r; exact ⟨vs, hH _ h1, h2.mono l⟩
  | dic ks => exact r
  | ins c fs => obtain ⟨dx, vs, h1, h2, h3⟩ := r; exact ⟨dx, vs, hH _ h1, h2, h3.mono l⟩
theorem tabs_new {T : List (Addr × Str)} (t : LamX.Tabs T H) (hp : H p = none) : LamX.Tabs T (upd H p o) := t.ext fun b u e => by rw [upd_ne (ne_of_none e hp)]; exact e
/-- an object that is no table and no code object is written -/
theorem tabs_wr {T : List (Addr × Str)} {a : Addr} {o0 : HO} (t : LamX.Tabs T H) (ha : H a = some o0) (nt : NT o0) (nc : ∀ c q, o0 ≠ LamX.CodeO c q) : LamX.Tabs T (upd H a o) := fun p hp => by
  obtain ⟨ps, h1, h2, h3⟩ := t p hp
  refine ⟨ps, by rw [upd_ne fun z => nt ps (by rw [z, ha] at h1; exact Option.some.inj h1)]; exact h1, h2, fun pos cv hc => ?_⟩
  obtain ⟨c, e1, e2⟩ := h3 pos cv hc
  exact ⟨c, e1, by rw [upd_ne fun z => nc c p.2 (by rw [z, ha] at e2; rw [z]; exact Option.some.inj e2)]; exact e2⟩
theorem nc_lst {vs : List V} : ∀ c q, HO.lst vs ≠ LamX.CodeO c q := fun c q z => by unfold LamX.CodeO at z; cases z
theorem nc_ins {a b : Addr} {fs : List (Str × V)} : ∀ c q, HO.ins a b fs ≠ LamX.CodeO c q := fun c q z => by unfold LamX.CodeO at z; cases z
theorem hrel_new (r : HRel B W h H) (hp : H p = none) (ho : SzO o) : HRel B ⟨upd W.F p o, W.m⟩ h (upd H p o) := by
  have hF := r.fnone hp
  refine ⟨fun a u e => ?_, r.len, r.nd, fun a hm => ?_, fun a u e nt => ?_, fun a u e => ?_, tabs_new r.tb hp, fun n c a e1 e2 => ?_⟩
  · by_cases ha : a = p
    · subst ha
      have e : upd W.F a o a = some u := e
      rw [upd_same] at e
      rw [upd_same]; exact e
    · have e : upd W.F p o a = some u := e
      rw [upd_ne ha] at e
      rw [upd_ne ha]; exact r.agree _ _ e
  · have ha : a ≠ p := fun z => r.mt a hm (by rw [z]; exact hp)
    rw [upd_ne ha]; exact r.mt a hm
  · by_cases ha : a = p
    · rw [ha, upd_same] at e
      cases e
      exact ho
    · rw [upd_ne ha] at e
      exact r.hz a u e nt
  · by_cases ha : a = p
    · have e : upd W.F p o a = some u := e
      rw [ha, upd_same] at e
      cases e
      exact ho.nt
    · have e : upd W.F p o a = some u := e
      rw [upd_ne ha] at e
      exact r.fz a u e
  · obtain ⟨h1, h2⟩ := r.cell n c a e1 e2
    have ha : a ≠ p := by
      cases c with
      | lst xs => obtain ⟨vs, h, _⟩ := h2; exact ne_of_none h hp
      | dic ks => exact h2.elim
      | ins c fs => obtain ⟨dx, vs, h, _⟩ := h2; exact ne_of_none h hp
    exact ⟨by show upd W.F p o a = none; rw [upd_ne ha]; exact h1, h2.mono (le_new hF) fun u e => by rw [upd_ne ha]; exact e⟩
theorem step_new (r : HRel B W h H) (hp : H p = none) : Step W h H ⟨upd W.F p o, W.m⟩ h (upd H p o) := by
  have hF := r.fnone hp
  refine ⟨le_new hF, Nat.le_refl _, fun n c _ e => ⟨c, e⟩, fun a u e _ _ => by rw [upd_ne (ne_of_none e hp)]; exact e, fun a e => ?_, fun a e ne _ => ?_, r.len, fun n a hn e => ?_⟩
  · by_cases ha : a = p
    · subst ha; exact hp
    · rw [upd_ne ha] at e; exact e
  · have ha : a ≠ p := fun z => ne (z ▸ hp)
    show upd W.F p o a = none
    rw [upd_ne ha]; exact e
  · have e : W.m[n]? = some a := e
    have := (List.getElem?_eq_some_iff.mp e).1
    rw [r.len] at this
    omega
theorem SlotR.mono {x : PV} {v : V} {H0 : Hp} (l : W.Le W') (hm : W'.m = W.m) (hH : ∀ a u, H a = some u → H' a = some u) (hF : ∀ a, W.F a = none → H a ≠ none → W'.F a = none) (r : SlotR B W H H0 x v) : SlotR B W' H' H0 x v := by
  cases x with
  | own xs =>
    obtain ⟨a, vs, e, h, r, f, nm, h0⟩ := r
    exact ⟨a, vs, e, hH _ _ h, r.mono l, hF a f (by rw [h]; exact fun z => nomatch z), by rw [hm]; exact nm, h0⟩
  | don ks => exact r
  | _ => exact Rep.mono l r
theorem rel_new (r : Rel B N W s σ H) (hp : H p = none) (ho : SzO o) : Rel B N ⟨upd W.F p o, W.m⟩ s σ (upd H p o) :=
  ⟨hrel_new r.hr hp ho, r.st.trans N.len (step_new r.hr hp), r.len, fun i x e => by
    obtain ⟨v, e', sl⟩ := r.env i x e
    refine ⟨v, e', sl.mono (le_new (r.hr.fnone hp)) rfl (fun a u q => by rw [upd_ne (ne_of_none q hp)]; exact q) fun a q ne => ?_⟩
    show upd W.F p o a = none
    have ha : a ≠ p := fun z => ne (by rw [z]; exact hp)
    rw [upd_ne ha]; exact q, r.dis, r.pin.trans (le_new (r.hr.fnone hp))⟩
theorem Grow.rel (g : Grow W H W' H') (r : Rel B N W s σ H) : Rel B N W' s σ H' := by
  cases g with
  | refl => exact r
  | new hp ho => exact rel_new r hp ho
theorem Grow.step (g : Grow W H W' H') (r : HRel B W h H) : Step W h H W' h H' := by
  cases g with
  | refl => exact Step.refl r
  | new hp _ => exact step_new r hp
theorem Grow.stepE (g : Grow W H W' H') (r : HRel B W s.h H) : StepE W s H W' s H' := ⟨g.step r, fun _ _ e _ => e⟩
theorem rep_tup_new {xs : List PV} {vs : List V} (hF : W.F p = none) (r : Reps B W xs vs) : Rep B ⟨upd W.F p (.tup vs), W.m⟩ (.tup xs) (.ref p) := .tup (.inl upd_same) (r.mono (le_new hF))
theorem rep_lst_new {xs : List PV} {vs : List V} (hF : W.F p = none) (r : Reps B W xs vs) : Rep B ⟨upd W.F p (.lst vs), W.m⟩ (.lst xs) (.ref p) := .lst upd_same (r.mono (le_new hF))
end
/-- an operation that a rule of the layer bears -/
def OpSem (X : Cx) (B : Bs) (f : AH → PV → PV → Option PV) (r : R2) : Prop := ∀ (W : Wd) (h : AH) (H : Hp) (x y z : PV) (x' y' : V) (Q : VK), HRel B W h H → RepT B W H x x' → RepT B W H y y' → f h x y = some z →
  (∀ W' H' z', Grow W H W' H' → RepT B W' H' z z' → Q z' H') → r x' y' H Q
theorem OpSem.or {X : Cx} {B : Bs} {f g : AH → PV → PV → Option PV} {r r' : R2} (a : OpSem X B f r) (b : OpSem X B g r') : OpSem X B (fun h x y => (f h x y).or (g h x y)) (fun x y H Q => r x y H Q ∨ r' x y H Q) := by
  intro W h H x y z x' y' Q hr rx ry e q
  have e : (f h x y).or (g h x y) = some z := e
  cases ef : f h x y with
  | some z' =>
    rw [ef] at e
    cases e
    exact .inl (a W h H x y z x' y' Q hr rx ry ef q)
  | none =>
    rw [ef] at e
    exact .inr (b W h H x y z x' y' Q hr rx ry e q)
section
variable {X : Cx} {B : Bs} {N : Ent} {WX : WX} {a b : Expr} {ma mb : ME} {pos : Pos}
theorem op_fin {f : AH → PV → PV → Option PV} {r : R2} (hf : OpSem X B f r) {W2 : Wd} {s2 : S} {σ : L2.St} {H2 : Hp} {x y : PV} {x' y' : V} {Q : VK} (r2 : Rel B N W2 s2 σ H2) (rx : RepT B W2 H2 x x') (ry : RepT B W2 H2 y y')
    (q : Post B N WX W2 s2 H2 σ (match f s2.h x y with | some z => R.ok z s2 | none => .bad) fun u W' _ H' => ∀ u', RepT B W' H' u u' → Q u' H') : r x' y' H2 Q := by
  split at q
  · rename_i z e
    exact hf W2 s2.h H2 x y z x' y' Q r2.hr rx ry e fun W' H' z' g rz => q W' H' (g.rel r2) (g.stepE r2.hr) z' rz
  · exact q.elim
theorem sim_op {op : Operator} {r : R2} {f : AH → PV → PV → Option PV} (ho : OpR X (binaryOp op) r) (hf : OpSem X B f r) (ha : SimE X B N WX a ma) (hb : SimE X B N WX b mb) : SimE X B N WX (.BinOp a op b pos) (eBin f ma mb) :=
  (pe_op ho ha hb).imp fun σ H Q h => two h fun W2 s2 H2 x y x' y' r2 rx ry q => op_fin hf r2 rx ry q
theorem sim_cmpO {op : CmpOp} {r : R2} {f : AH → PV → PV → Option PV} (ho : OpR X (compareOp op) r) (hf : OpSem X B f r) (ha : SimE X B N WX a ma) (hb : SimE X B N WX b mb) (hm : behindInMarks op b = false) : SimE X B N WX (.Compare a [op] [b] pos) (eBin f ma mb) :=
  (pe_cmpR ho ha hb hm).imp fun σ H Q h => two h fun W2 s2 H2 x y x' y' r2 rx ry q => op_fin hf r2 rx ry q
theorem op_finT {f : AH → PV → PV → Option PV} {r : R2} (hf : OpSem X B f r) {W2 : Wd} {s2 : S} {σ : L2.St} {H2 : Hp} {x y : PV} {x' y' : V} {Q : VK} (r2 : Rel B N W2 s2 σ H2) (rx : RepT B W2 H2 x x') (ry : RepT B W2 H2 y y')
    (q : Post B N WX W2 s2 H2 σ (match f s2.h x y with | some z => R.ok z s2 | none => .bad) fun u W' _ H' => ∀ u', RepT B W' H' u u' → Q u' H') : r x' y' H2 Q := op_fin hf r2 rx ry q
theorem sim_tcmpO {op : CmpOp} {r : R2} {f : AH → PV → PV → Option PV} (ho : OpR X (compareOp op) r) (hf : OpSem X B f r) (ha : SimE X B N WX a ma) (hb : SimE X B N WX b mb) (hm : behindInMarks op b = false) : SimT X B N WX (.Compare a [op] [b] pos) (bM (eBin f ma mb)) :=
  (pt_cmpR ho ha hb hm).imp fun σ H Q h => two (tB_of h) fun W2 s2 H2 x y x' y' r2 rx ry q => op_fin hf r2 rx ry q
end

/-! ### arithmetic -/
def fI (g : Int → Int → Option Int) : AH → PV → PV → Option PV := fun _ x y => match x, y with
  | .int i, .int j => (g i j).map .int
  | _, _ => none
def fIB (g : Int → Int → Bool) : AH → PV → PV → Option PV := fun _ x y => match x, y with
  | .int i, .int j => some (.bl (g i j))
  | _, _ => none
section
variable {X : Cx} {B : Bs} {W : Wd} {H : Hp}
theorem rep_int {i : Int} {v : V} (r : RepT B W H (.int i) v) : v = .int i := by cases (show Rep B W (.int i) v from r); rfl
theorem rep_bl {b : Bool} {v : V} (r : RepT B W H (.bl b) v) : v = .bl b := by cases (show Rep B W (.bl b) v from r); rfl
theorem rep_non {v : V} (r : RepT B W H .non v) : v = .non := by cases (show Rep B W .non v from r); rfl
theorem rep_str {x : Str} {v : V} (r : RepT B W H (.str x) v) : v = .str x ∧ SOk x := by
  cases (show Rep B W (.str x) v from r) with
  | str _ h => exact ⟨rfl, h⟩
theorem sem_I {g : Int → Int → Option Int} {C : Int → Int → Prop} {f : Int → Int → Int} (hg : ∀ i j k, g i j = some k → C i j ∧ f i j = k) : OpSem X B (fI g) (rI C fun i j => .int (f i j)) := by
  intro W h H x y z x' y' Q hr rx ry e q
  unfold fI at e
  split at e
  · rename_i i j
    cases eg : g i j with
    | none => rw [eg] at e; cases e
    | some k =>
      rw [eg] at e
      cases e
      obtain ⟨c, ek⟩ := hg i j k eg
      exact ⟨i, j, rep_int rx, rep_int ry, c, q W H _ (.refl W H) (by show RepT B W H (.int k) (.int (f i j)); rw [ek]; exact (Rep.int k).hand)⟩
  · cases e
theorem sem_I0 {f : Int → Int → Int} : OpSem X B (fI fun i j => some (f i j)) (rI0 fun i j => .int (f i j)) := by
  intro W h H x y z x' y' Q hr rx ry e q
  unfold fI at e
  split at e
  · rename_i i j
    cases e
    exact ⟨i, j, rep_int rx, rep_int ry, q W H _ (.refl W H) (Rep.int _).hand⟩
  · cases e
theorem sem_IB {g : Int → Int → Bool} : OpSem X B (fIB g) (rI0 fun i j => .bl (g i j)) := by
  intro W h H x y z x' y' Q hr rx ry e q
  unfold fIB at e
  split at e
  · rename_i i j
    cases e
    exact ⟨i, j, rep_int rx, rep_int ry, q W H _ (.refl W H) (Rep.bl _).hand⟩
  · cases e
end
/-- a product with one factor below 2^64 -/
def mulG (i j : Int) : Option Int := if (i.natAbs < 18446744073709551616) ∨ (j.natAbs < 18446744073709551616) then some (i * j) else none
def fdivG (i j : Int) : Option Int := if j ≠ 0 ∧ j.natAbs < 1073741824 then some (i.fdiv j) else none
def modG (i j : Int) : Option Int := if j ≠ 0 then some (i.fmod j) else none
def powG (i j : Int) : Option Int := if 0 ≤ j ∧ j ≤ 1000 ∧ i.natAbs < 18446744073709551616 then some (i ^ j.toNat) else none
theorem mulG_ok : ∀ i j k, mulG i j = some k → CMul i j ∧ i * j = k := fun i j k e => by
  unfold mulG at e
  split at e
  · rename_i h
    refine ⟨?_, Option.some.inj e⟩
    unfold CMul
    rcases h with h | h
    · exact .inl (by omega)
    · exact .inr (by omega)
  · cases e
theorem fdivG_ok : ∀ i j k, fdivG i j = some k → CDivN i j ∧ i.fdiv j = k := fun i j k e => by
  unfold fdivG at e
  split at e
  · rename_i h
    exact ⟨h, Option.some.inj e⟩
  · cases e
theorem modG_ok : ∀ i j k, modG i j = some k → j ≠ 0 ∧ i.fmod j = k := fun i j k e => by
  unfold modG at e
  split at e
  · rename_i h
    exact ⟨h, Option.some.inj e⟩
  · cases e
theorem powG_ok : ∀ i j k, powG i j = some k → CPow i j ∧ i ^ j.toNat = k := fun i j k e => by
  unfold powG at e
  split at e
  · rename_i h
    exact ⟨⟨h.1, by omega, by have := h.2.2; omega⟩, Option.some.inj e⟩
  · cases e

/-! ### texts, lists, tuples joined -/
def strOkL (x : Str) : Bool := decide (x.length ≤ sizeLine)
def fAddS : AH → PV → PV → Option PV := fun _ x y => match x, y with
  | .str i, .str j => if i.length + j.length ≤ sizeLine then some (.str (i ++ j)) else none
  | _, _ => none
/-- a list that stands by itself -/
def asM (h : AH) : PV → Option (List PV)
  | .lst xs => some xs
  | .own xs => some xs
  | .cel n => match h[n]? with
    | some (some (.lst xs)) => some xs
    | _ => none
  | _ => none
def fAddL : AH → PV → PV → Option PV := fun h x y => match asM h x, asM h y with
  | some xs, some ys => if xs.length + ys.length ≤ sizeLine then some (.lst (xs ++ ys)) else none
  | _, _ => none
def fAddT : AH → PV → PV → Option PV := fun _ x y => match x, y with
  | .tup xs, .tup ys => if xs.length + ys.length ≤ sizeLine then some (.tup (xs ++ ys)) else none
  | _, _ => none
def fRepL : AH → PV → PV → Option PV := fun h x y => match asM h x, y with
  | some xs, .int k => if k.natAbs < 1000000 ∧ xs.length * k.toNat ≤ sizeLine then some (.lst (List.replicate k.toNat xs).flatten) else none
  | _, _ => none
section
variable {X : Cx} {B : Bs} {W : Wd} {h : AH} {H : Hp}
theorem asM_ok (hr : HRel B W h H) {x : PV} {x' : V} {xs : List PV} (rx : RepT B W H x x') (e : asM h x = some xs) : ∃ a vs, x' = .ref a ∧ H a = some (.lst vs) ∧ Reps B W xs vs := by
  cases x with
  | lst ys =>
    cases e
    cases (show Rep B W (.lst _) x' from rx) with
    | lst h r => exact ⟨_, _, rfl, hr.agree _ _ h, r⟩
  | own ys =>
    cases e
    obtain ⟨a, vs, rfl, h, r, _⟩ := rx
    exact ⟨a, vs, rfl, h, r⟩
  | cel n =>
    cases (show Rep B W (.cel n) x' from rx) with
    | cel h1 =>
      unfold asM at e
      dsimp only at e
      split at e
      · rename_i ys q
        cases e
        obtain ⟨_, vs, h2, r⟩ := hr.cell n _ _ q h1
        exact ⟨_, vs, rfl, h2, r⟩
      · cases e
  | _ => cases e
theorem sok_append {i j : Str} (a : SOk i) (b : SOk j) (h : i.length + j.length ≤ sizeLine) : SOk (i ++ j) := by
  have e : (i ++ j).cps = i.cps ++ j.cps := rfl
  refine ⟨?_, ?_⟩
  · show (i ++ j).cps.all (· < 0x110000) = true
    rw [e, Array.all_append]
    rw [show i.cps.all (· < 0x110000) = true from a.1, show j.cps.all (· < 0x110000) = true from b.1]
    rfl
  · show (i ++ j).cps.size ≤ sizeLine
    rw [e, Array.size_append]
    exact h
theorem sem_addS : OpSem X B fAddS (fun x y H Q => ∃ i j, x = .str i ∧ y = .str j ∧ i.length + j.length ≤ sizeLine ∧ Q (.str (i ++ j)) H) := by
  intro W h H x y z x' y' Q hr rx ry e q
  unfold fAddS at e
  split at e
  · rename_i i j
    split at e
    · rename_i hz
      cases e
      obtain ⟨e1, k1⟩ := rep_str rx
      obtain ⟨e2, k2⟩ := rep_str ry
      exact ⟨i, j, e1, e2, hz, q W H _ (.refl W H) (Rep.str _ (sok_append k1 k2 hz)).hand⟩
    · cases e
  · cases e
theorem sem_addL : OpSem X B fAddL rCat := by
  intro W h H x y z x' y' Q hr rx ry e q
  unfold fAddL at e
  split at e
  · rename_i xs ys ex ey
    split at e
    · rename_i hz
      cases e
      obtain ⟨a, vs, rfl, ha, ra⟩ := asM_ok hr rx ex
      obtain ⟨b, ws, rfl, hb, rb⟩ := asM_ok hr ry ey
      refine ⟨a, b, vs, ws, rfl, rfl, ha, hb, by rw [← ra.length, ← rb.length]; exact hz, fun p hp => q _ _ _ (.new hp (by show (vs ++ ws).length ≤ sizeLine; rw [List.length_append, ← ra.length, ← rb.length]; exact hz)) ?_⟩
      exact (rep_lst_new (hr.fnone hp) (ra.append rb)).hand
    · cases e
  · cases e
theorem sem_addT (hK : X.K = B.K) : OpSem X B fAddT (rCatA X.K) := by
  intro W h H x y z x' y' Q hr rx ry e q
  unfold fAddT at e
  split at e
  · rename_i xs ys
    split at e
    · rename_i hz
      cases e
      obtain ⟨a, vs, rfl, ha, ra⟩ := tup_ok hK hr (show Rep B W (.tup xs) x' from rx)
      obtain ⟨b, ws, rfl, hb, rb⟩ := tup_ok hK hr (show Rep B W (.tup ys) y' from ry)
      refine ⟨a, b, vs, ws, rfl, rfl, ha, hb, by rw [← ra.length, ← rb.length]; exact hz, fun z => ?_, fun _ z => ?_, fun _ _ p hp => q _ _ _ (.new hp (by show (vs ++ ws).length ≤ sizeLine; rw [List.length_append, ← ra.length, ← rb.length]; exact hz)) ?_⟩
      · subst z
        have e0 : xs = [] := List.length_eq_zero_iff.mp ra.length
        subst e0
        exact q W H _ (.refl W H) ry
      · subst z
        have e0 : ys = [] := List.length_eq_zero_iff.mp rb.length
        subst e0
        rw [List.append_nil] at q
        exact q W H _ (.refl W H) rx
      · exact (rep_tup_new (hr.fnone hp) (ra.append rb)).hand
    · cases e
  · cases e
theorem flat_len {α : Type} (xs : List α) (k : Nat) : (List.replicate k xs).flatten.length = xs.length * k := by
  rw [List.length_flatten, List.map_replicate, List.sum_replicate_nat, Nat.mul_comm]
theorem sem_repL : OpSem X B fRepL rRep := by
  intro W h H x y z x' y' Q hr rx ry e q
  unfold fRepL at e
  split at e
  · rename_i xs k ex
    split at e
    · rename_i hz
      cases e
      obtain ⟨a, vs, rfl, ha, ra⟩ := asM_ok hr rx ex
      refine ⟨a, k, vs, rfl, rep_int ry, ha, by omega, by omega, by rw [← ra.length]; exact hz.2, fun p hp => q _ _ _ (.new hp (by show (List.replicate k.toNat vs).flatten.length ≤ sizeLine; rw [flat_len, ← ra.length]; exact hz.2)) ?_⟩
      exact (rep_lst_new (hr.fnone hp) (ra.rep _)).hand
    · cases e
  · cases e
end

/-! ### == and != of data -/
mutual
def toD : PV → Option PyData
  | .non => some .none
  | .bl b => some (.bool b)
  | .int i => some (.int i)
  | .str x => some (.str x)
  | .tup xs => (toDs xs).map .tuple
  | .lst xs => (toDs xs).map .list
  | _ => none
def toDs : List PV → Option (List PyData)
  | [] => some []
  | x :: xs => match toD x, toDs xs with
    | some d, some ds => some (d :: ds)
    | _, _ => none
end
def toDh (h : AH) (x : PV) : Option PyData := match x with
  | .own xs => (toDs xs).map .list
  | .cel n => match h[n]? with
    | some (some (.lst xs)) => (toDs xs).map .list
    | _ => none
  | x => toD x
/-- data that are not nested too deep -/
def dOk (d : PyData) : Bool := decide (d.depth ≤ 64)
def fEq : AH → PV → PV → Option PV := fun h x y => match toDh h x, toDh h y with
  | some d, some e => if dOk d && dOk e then some (.bl (PyData.eqv d e)) else none
  | _, _ => none
def fNe : AH → PV → PV → Option PV := fun h x y => match toDh h x, toDh h y with
  | some d, some e => if dOk d && dOk e then some (.bl (!PyData.eqv d e)) else none
  | _, _ => none
section
variable {X : Cx} {B : Bs} {W : Wd} {h : AH} {H : Hp}
mutual
theorem toD_dp (hK : X.K = B.K) (hr : HRel B W h H) : ∀ {x : PV} {v : V} {d : PyData}, Rep B W x v → toD x = some d → Dp X.K H v d ∧ d.canLay0 = true
  | _, _, _, .non, e => by cases e; exact ⟨.non, rfl⟩
  | _, _, _, .bl b, e => by cases e; exact ⟨.bl b, rfl⟩
  | _, _, _, .int i, e => by cases e; exact ⟨.int i, rfl⟩
  | _, _, _, .str x k, e => by cases e; exact ⟨.str x, by simpa [PyData.canLay0] using k.1⟩
  | _, _, _, .ty n, e => by simp [toD] at e
  | _, _, _, .cls c, e => by simp [toD] at e
  | _, _, _, .cel h, e => by simp [toD] at e
  | _, _, _, .ins h1 h2 h3, e => by simp [toD] at e
  | .tup xs, _, _, .tup h1 r, e => by
    rw [toD] at e
    cases q : toDs xs with
    | none => rw [q] at e; cases e
    | some ds =>
      rw [q] at e
      cases e
      obtain ⟨h2, h3⟩ := toDs_dp hK hr r q
      refine ⟨.tup ?_ h2, by simpa [PyData.canLay0] using h3⟩
      rcases h1 with h1 | ⟨o, its, n, k1, k2, k3, k4, k5⟩
      · exact .inl (.inl (hr.agree _ _ h1))
      · exact .inr ⟨o, its, n, hK ▸ k1, k2, k3, k4, k5⟩
  | .lst xs, _, _, .lst h1 r, e => by
    rw [toD] at e
    cases q : toDs xs with
    | none => rw [q] at e; cases e
    | some ds =>
      rw [q] at e
      cases e
      obtain ⟨h2, h3⟩ := toDs_dp hK hr r q
      exact ⟨.lst (.inl (.inl (hr.agree _ _ h1))) h2, by simpa [PyData.canLay0] using h3⟩
  | .scr xs, _, _, .scr h1 r, e => by simp [toD] at e
theorem toDs_dp (hK : X.K = B.K) (hr : HRel B W h H) : ∀ {xs : List PV} {vs : List V} {ds : List PyData}, Reps B W xs vs → toDs xs = some ds → DpAll X.K H vs ds ∧ PyData.canLayAll0 ds = true
  | _, _, _, .nil, e => by cases e; exact ⟨.nil, rfl⟩
  | x :: xs, _, _, .cons r t, e => by
    rw [toDs] at e
    cases q1 : toD x with
    | none => rw [q1] at e; cases e
    | some d =>
      cases q2 : toDs xs with
      | none => rw [q1, q2] at e; cases e
      | some ds =>
        rw [q1, q2] at e
        cases e
        obtain ⟨a1, a2⟩ := toD_dp hK hr r q1
        obtain ⟨b1, b2⟩ := toDs_dp hK hr t q2
        exact ⟨.cons a1 b1, by simp [PyData.canLayAll0, a2, b2]⟩
end
theorem toDh_dp (hK : X.K = B.K) (hr : HRel B W h H) {x : PV} {v : V} {d : PyData} (r : RepT B W H x v) (e : toDh h x = some d) : Dp X.K H v d ∧ d.canLay0 = true := by
  have fin : ∀ (xs : List PV) (a : Addr) (vs : List V), v = .ref a → H a = some (.lst vs) → Reps B W xs vs → (toDs xs).map PyData.list = some d → Dp X.K H v d ∧ d.canLay0 = true := fun xs a vs ev ha ra e => by
    cases q : toDs xs with
    | none => rw [q] at e; cases e
    | some ds =>
      rw [q] at e
      cases e
      obtain ⟨h2, h3⟩ := toDs_dp hK hr ra q
      rw [ev]
      exact ⟨.lst (.inl (.inl ha)) h2, by simpa [PyData.canLay0] using h3⟩
  cases x with
  | own xs =>
    obtain ⟨a, vs, ev, ha, ra, _⟩ := r
    exact fin xs a vs ev ha ra e
  | cel n =>
    unfold toDh at e
    dsimp only at e
    split at e
    · rename_i xs q
      obtain ⟨a, vs, ev, ha, ra⟩ := asM_ok (x := .cel n) (xs := xs) hr r (by unfold asM; dsimp only; rw [q])
      exact fin xs a vs ev ha ra e
    · cases e
  | don ks => exact r.elim
  | _ => exact toD_dp hK hr r e
theorem shaped_of {d : PyData} (a : d.canLay0 = true) (b : dOk d = true) : SeqAt.shaped d = true := by
  unfold SeqAt.shaped
  rw [a]
  exact b
theorem sem_eq (hK : X.K = B.K) : OpSem X B fEq (rEqD X.K) := by
  intro W h H x y z x' y' Q hr rx ry e q
  unfold fEq at e
  split at e
  · rename_i d f ed ef
    split at e
    · rename_i hz
      cases e
      obtain ⟨z1, z2⟩ := Bool.and_eq_true_iff.mp hz
      obtain ⟨a1, a2⟩ := toDh_dp hK hr rx ed
      obtain ⟨b1, b2⟩ := toDh_dp hK hr ry ef
      exact ⟨d, f, a1, b1, shaped_of a2 z1, shaped_of b2 z2, q W H _ (.refl W H) (Rep.bl _).hand⟩
    · cases e
  · cases e
theorem sem_ne (hK : X.K = B.K) : OpSem X B fNe (rNeD X.K) := by
  intro W h H x y z x' y' Q hr rx ry e q
  unfold fNe at e
  split at e
  · rename_i d f ed ef
    split at e
    · rename_i hz
      cases e
      obtain ⟨z1, z2⟩ := Bool.and_eq_true_iff.mp hz
      obtain ⟨a1, a2⟩ := toDh_dp hK hr rx ed
      obtain ⟨b1, b2⟩ := toDh_dp hK hr ry ef
      exact ⟨d, f, a1, b1, shaped_of a2 z1, shaped_of b2 z2, q W H _ (.refl W H) (Rep.bl _).hand⟩
    · cases e
  · cases e
end
/-! is None -/
def isNon : PV → Bool
  | .non => true
  | _ => false
def fIsN : AH → PV → PV → Option PV := fun _ x y => match y with
  | .non => some (.bl (isNon x))
  | _ => none
def fNotN : AH → PV → PV → Option PV := fun _ x y => match y with
  | .non => some (.bl (!isNon x))
  | _ => none
section
variable {X : Cx} {B : Bs} {W : Wd} {h : AH} {H : Hp}
theorem rep_isnon {x : PV} {v : V} (r : RepT B W H x v) : decide (v = .non) = isNon x := by
  cases x with
  | own xs => obtain ⟨a, vs, rfl, _⟩ := r; rfl
  | don ks => exact r.elim
  | _ => cases r <;> rfl
theorem sem_isN : OpSem X B fIsN (fun x y H Q => y = .non ∧ Q (.bl (decide (x = .non))) H) := by
  intro W h H x y z x' y' Q hr rx ry e q
  unfold fIsN at e
  split at e
  · cases e
    refine ⟨rep_non ry, ?_⟩
    rw [rep_isnon rx]
    exact q W H _ (.refl W H) (Rep.bl _).hand
  · cases e
theorem sem_notN : OpSem X B fNotN (fun x y H Q => y = .non ∧ Q (.bl (!decide (x = .non))) H) := by
  intro W h H x y z x' y' Q hr rx ry e q
  unfold fNotN at e
  split at e
  · cases e
    refine ⟨rep_non ry, ?_⟩
    rw [rep_isnon rx]
    exact q W H _ (.refl W H) (Rep.bl _).hand
  · cases e
end
end Lp

set_option Elab.async false
set_option linter.all false
set_option maxRecDepth 100000
set_option maxHeartbeats 4000000
/-! Lp3: arguments, displays, subscripts, chains, in, calls of built-ins. -/
namespace Lp
open PySem PySem.Spec PyProof.Rows L2

abbrev MA := S → R S (List PV)
def aNil : MA := fun s => .ok [] s
def aCons (m : ME) (r : MA) : MA := fun s => (m s).bind fun v s1 => (r s1).bind fun vs s2 => .ok (v :: vs) s2
def sOk : PV → Option (List PV)
  | .tup xs => some xs
  | _ => none
/-- what a star or a walk takes from -/
def asS (h : AH) (x : PV) : Option (List PV) := match x with
  | .tup xs => some xs
  | x => asL h x
def aStar (m : ME) (r : MA) : MA := fun s => (m s).bind fun v s1 => match asS s1.h v with
  | some xs => (r s1).bind fun vs s2 => .ok (xs ++ vs) s2
  | none => .bad
section
variable {X : Cx} {B : Bs} {N : Ent} {WX : WX} {W : Wd} {h : AH} {H : Hp} {e : Expr} {es : List Expr} {m : ME} {ma : MA}
theorem RepTs.append : ∀ {xs ys : List PV} {vs ws : List V}, RepTs B W H xs vs → RepTs B W H ys ws → RepTs B W H (xs ++ ys) (vs ++ ws)
  | [], _, [], _, _, s => s
  | _ :: _, _, _ :: _, _, ⟨r, t⟩, s => ⟨r, RepTs.append t s⟩
  | [], _, _ :: _, _, h, _ => h.elim
  | _ :: _, _, [], _, h, _ => h.elim
theorem Reps.hand : ∀ {xs : List PV} {vs : List V}, Reps B W xs vs → RepTs B W H xs vs
  | _, _, .nil => trivial
  | _, _, .cons r t => ⟨r.hand, Reps.hand t⟩
theorem RepTs.length : ∀ {xs : List PV} {vs : List V}, RepTs B W H xs vs → xs.length = vs.length
  | [], [], _ => rfl
  | _ :: _, _ :: _, ⟨_, t⟩ => congrArg Nat.succ (RepTs.length t)
  | [], _ :: _, h => h.elim
  | _ :: _, [], h => h.elim
/-- none of them is a list of a slot's own -/
def allSh (xs : List PV) : Bool := xs.all fun x => !isOwn x
theorem RepTs.reps : ∀ {xs : List PV} {vs : List V}, RepTs B W H xs vs → allSh xs = true → Reps B W xs vs
  | [], [], _, _ => .nil
  | x :: xs, _ :: _, ⟨r, t⟩, o => by
    unfold allSh at o
    rw [List.all_cons] at o
    obtain ⟨o1, o2⟩ := Bool.and_eq_true_iff.mp o
    exact .cons (r.rep (by simpa using o1)) (RepTs.reps t o2)
  | [], _ :: _, h, _ => h.elim
  | _ :: _, [], h, _ => h.elim
theorem simA_nil : SimA X B N WX [] aNil := pa_nil.imp fun σ H Q ⟨W, s, r, h⟩ => h.ok r [] trivial
theorem simA_cons (he : SimE X B N WX e m) (hr : SimA X B N WX es ma) (hs : starEach (e :: es) X.env = (false, eval e X.env) :: starEach es X.env) : SimA X B N WX (e :: es) (aCons m ma) :=
  (pa_cons he hr hs).imp fun σ H Q ⟨W, s, r, h⟩ => ⟨W, s, r, (h.bind r.slen).mono fun v W1 s1 H1 r1 _ q v' rv => ⟨W1, s1, r1, (q.bind r1.slen).mono fun vs W2 s2 H2 r2 st2 q vs' rvs =>
    q.ok r2 (v' :: vs') ⟨rv.on r1.slen st2.st, rvs⟩⟩⟩
theorem asS_ok (hK : X.K = B.K) (hr : HRel B W h H) {x : PV} {x' : V} {xs : List PV} (rx : RepT B W H x x') (e : asS h x = some xs) : ∃ a vs, x' = .ref a ∧ (SqT X.K H a vs ∨ SqL X.K H a vs) ∧ Reps B W xs vs := by
  have fin : asL h x = some xs → ∃ a vs, x' = .ref a ∧ (SqT X.K H a vs ∨ SqL X.K H a vs) ∧ Reps B W xs vs := fun e => by
    obtain ⟨a, vs, e1, h1, r1⟩ := asL_ok hr rx e
    exact ⟨a, vs, e1, .inr (rd_sql hK h1), r1⟩
  cases x with
  | tup ys =>
    cases e
    obtain ⟨a, vs, e1, h1, r1⟩ := tup_ok hK hr (show Rep B W (.tup _) x' from rx)
    exact ⟨a, vs, e1, .inl h1, r1⟩
  | _ => exact fin e
theorem simA_star {p : Pos} (hK : X.K = B.K) (he : SimE X B N WX e m) (hr : SimA X B N WX es ma) (hs : starEach (.Starred e p :: es) X.env = (true, eval e X.env) :: starEach es X.env) : SimA X B N WX (.Starred e p :: es) (aStar m ma) :=
  (StX.pa_star he hr hs).imp fun σ H Q ⟨W, s, r, h⟩ => ⟨W, s, r, (h.bind r.slen).mono fun v W1 s1 H1 r1 _ q v' rv => by
    split at q
    · rename_i xs ex
      obtain ⟨a, vs, rfl, h1, r2⟩ := asS_ok hK r1.hr rv ex
      exact ⟨a, vs, rfl, h1, W1, s1, r1, (q.bind r1.slen).mono fun us W2 s2 H2 r3 st2 q us' rus => q.ok r3 (vs ++ us') ((r2.mono st2.st.le).hand.append rus)⟩
    · exact q.elim⟩

/-! ### displays -/
def eTup (ma : MA) : ME := fun s => (ma s).bind fun vs s1 => if allSh vs && decide (vs.length ≤ 16777216) then .ok (.tup vs) s1 else .bad
def eLst (ma : MA) : ME := fun s => (ma s).bind fun vs s1 => if allSh vs && decide (vs.length ≤ 16777216) then .ok (.lst vs) s1 else .bad
theorem sim_tup {x1 pos} (ha : SimA X B N WX es ma) : SimE X B N WX (.Tuple es x1 pos) (eTup ma) :=
  (pe_tup ha).imp fun σ H Q ⟨W, s, r, h⟩ => ⟨W, s, r, (h.bind r.slen).mono fun vs W1 s1 H1 r1 _ q vs' rvs => by
    split at q
    · rename_i c
      obtain ⟨c1, c2⟩ := Bool.and_eq_true_iff.mp c
      have rr := rvs.reps c1
      refine ⟨by rw [← rr.length, sizeLine_eq]; exact of_decide_eq_true c2, fun p hp => ?_⟩
      have hsz : vs'.length ≤ sizeLine := by rw [← rr.length, sizeLine_eq]; exact of_decide_eq_true c2
      exact q _ _ (rel_new (o := .tup vs') r1 hp hsz) ⟨step_new r1.hr hp, fun _ _ e _ => e⟩ _ (rep_tup_new (r1.hr.fnone hp) rr).hand
    · exact q.elim⟩
theorem sim_lst {pos} (ha : SimA X B N WX es ma) : SimE X B N WX (.List es pos) (eLst ma) :=
  (pe_lst ha).imp fun σ H Q ⟨W, s, r, h⟩ => ⟨W, s, r, (h.bind r.slen).mono fun vs W1 s1 H1 r1 _ q vs' rvs => by
    split at q
    · rename_i c
      obtain ⟨c1, c2⟩ := Bool.and_eq_true_iff.mp c
      have rr := rvs.reps c1
      refine ⟨by rw [← rr.length, sizeLine_eq]; exact of_decide_eq_true c2, fun p hp => ?_⟩
      have hsz : vs'.length ≤ sizeLine := by rw [← rr.length, sizeLine_eq]; exact of_decide_eq_true c2
      exact q _ _ (rel_new (o := .lst vs') r1 hp hsz) ⟨step_new r1.hr hp, fun _ _ e _ => e⟩ _ (rep_lst_new (r1.hr.fnone hp) rr).hand
    · exact q.elim⟩
end

/-! ### subscripts -/
def fIx : AH → PV → PV → Option PV := fun h x y => match x, y with
  | .str z, .int i => (atI z.cps.toList i).map fun c => .str ⟨#[c]⟩
  | x, .int i => match asS h x with
    | some xs => atI xs i
    | none => none
  | _, _ => none
section
variable {X : Cx} {B : Bs} {N : Ent} {WX : WX} {W : Wd} {h : AH} {H : Hp} {a b c : Expr} {ma mb mc : ME} {pos : Pos}
theorem atI_rep {xs : List PV} {vs : List V} {i : Int} {x : PV} (r : Reps B W xs vs) (e : atI xs i = some x) : ∃ v, atI vs i = some v ∧ Rep B W x v := by
  unfold atI at e ⊢
  rw [← r.length]
  cases q : ixN xs.length i with
  | none => rw [q] at e; cases e
  | some j =>
    rw [q] at e
    obtain ⟨v, e1, r1⟩ := r.get (show xs[j]? = some x from e)
    exact ⟨v, e1, r1⟩
theorem sok_sub {z w : Str} (k : SOk z) (hl : w.length ≤ z.length) (hm : ∀ c ∈ w.cps.toList, c ∈ z.cps.toList) : SOk w := by
  refine ⟨?_, Nat.le_trans hl k.2⟩
  have k1 : z.cps.all (· < 0x110000) = true := k.1
  show w.cps.all (· < 0x110000) = true
  rw [← Array.all_toList, List.all_eq_true] at k1 ⊢
  exact fun c hc => k1 c (hm c hc)
theorem atI_mem {α : Type} {xs : List α} {i : Int} {x : α} (e : atI xs i = some x) : x ∈ xs := by
  unfold atI at e
  cases q : ixN xs.length i with
  | none => rw [q] at e; cases e
  | some j =>
    rw [q] at e
    exact List.mem_of_getElem? (show xs[j]? = some x from e)
theorem sem_ix (hK : X.K = B.K) : OpSem X B fIx (rIx X.K) := by
  intro W h H x y z x' y' Q hr rx ry e q
  have go : ∀ (i : Int) (xs : List PV), asS h x = some xs → y = .int i → atI xs i = some z → rIx X.K x' y' H Q := fun i xs ex ey ea => by
    obtain ⟨a, vs, rfl, h1, r1⟩ := asS_ok hK hr rx ex
    obtain ⟨v, e1, rv⟩ := atI_rep r1 ea
    subst ey
    rcases h1 with h1 | h1
    · exact .inr (.inl ⟨a, vs, i, v, rfl, rep_int ry, h1, e1, q W H v (.refl W H) rv.hand⟩)
    · exact .inl ⟨a, vs, i, v, rfl, rep_int ry, h1, e1, q W H v (.refl W H) rv.hand⟩
  unfold fIx at e
  split at e
  · rename_i z0 i
    cases ea : atI z0.cps.toList i with
    | none => rw [ea] at e; cases e
    | some c =>
      rw [ea] at e
      cases e
      obtain ⟨e1, k⟩ := rep_str rx
      refine .inr (.inr ⟨z0, i, c, e1, rep_int ry, k.2, ea, q W H _ (.refl W H) (Rep.str _ ?_).hand⟩)
      have hm := atI_mem ea
      refine sok_sub k ?_ fun d hd => by
        have : d = c := by simpa using hd
        rw [this]; exact hm
      show (#[c] : Array Nat).size ≤ z0.cps.size
      have := List.length_pos_of_mem hm
      simp only [Array.length_toList] at this
      show 1 ≤ z0.cps.size
      omega
  · rename_i i _
    split at e
    · rename_i xs ex
      exact go i xs ex rfl e
    · cases e
  · cases e
theorem sim_ix (hK : X.K = B.K) (ha : SimE X B N WX a ma) (hb : SimE X B N WX b mb) (hs : PlainIx b) : SimE X B N WX (.Subscript a b pos) (eBin fIx ma mb) :=
  (pe_ix ix_seq ha hb hs).imp fun σ H Q h => two h fun W2 s2 H2 x y x' y' r2 rx ry q => op_fin (sem_ix hK) r2 rx ry q
/-! slices -/
def cutP {α : Type} (xs : List α) (lo hi : Option Int) : List α := (xs.drop (HT.sIx xs.length 0 lo)).take (HT.sIx xs.length xs.length hi - HT.sIx xs.length 0 lo)
def cutStr (z : Str) (lo hi : Option Int) : Str := ⟨(cutP z.cps.toList lo hi).toArray⟩
def fSl (h : AH) (x : PV) (lo hi : Option Int) : Option PV := match x with
  | .str z => some (.str (cutStr z lo hi))
  | .tup xs => some (.tup (cutP xs lo hi))
  | x => (asL h x).map fun xs => .lst (cutP xs lo hi)
def oNone : S → R S (Option Int) := fun s => .ok none s
def oSome (m : ME) : S → R S (Option Int) := fun s => (m s).bind fun v s1 => match v with
  | .int i => .ok (some i) s1
  | _ => .bad
def eSl (m : ME) (lo hi : S → R S (Option Int)) : ME := fun s => (m s).bind fun v s1 => (lo s1).bind fun l s2 => (hi s2).bind fun u s3 => match fSl s3.h v l u with
  | some z => .ok z s3
  | none => .bad
def tO (B : Bs) (N : Ent) (WX : L2.WX) (m : S → R S (Option Int)) : TO := fun σ H Q => ∃ W s, Rel B N W s σ H ∧ Post B N WX W s H σ (m s) fun v _ _ H' => Q v H'
abbrev SimO (X : Cx) (B : Bs) (N : Ent) (WX : L2.WX) (e : Option Expr) (m : S → R S (Option Int)) : Prop := PO X e (tO B N WX m)
theorem PO_imp {e : Option Expr} {t t' : TO} (h : PO X e t) (w : ∀ σ H Q, t' σ H Q → t σ H Q) : PO X e t' := by
  constructor
  intro pins s σ H Q I q
  exact h.run pins s σ H Q I (w _ _ _ q)
theorem simO_none : SimO X B N WX none oNone := PO_imp po_none fun σ H Q ⟨W, s, r, h⟩ => h.ok r
theorem simO_some (ha : SimE X B N WX a ma) : SimO X B N WX (some a) (oSome ma) := PO_imp (po_some ha) fun σ H Q ⟨W, s, r, h⟩ => ⟨W, s, r, (h.bind r.slen).mono fun v W1 s1 H1 r1 _ q v' rv => by
  cases v with
  | int i => exact ⟨i, rep_int rv, q.ok r1⟩
  | _ => exact q.elim⟩
theorem tup_sz (hr : HRel B W h H) {x' : V} {xs : List PV} (rx : Rep B W (.tup xs) x') : xs.length ≤ sizeLine := by
  cases rx with
  | tup h r =>
    rw [r.length]
    rcases h with h | ⟨o, its, n, _, _, _, z, q⟩
    · exact hr.hz _ _ (hr.agree _ _ h) nt_tup
    · rw [q.length, Array.length_toList]; exact z
theorem asS_sz (hr : HRel B W h H) {x : PV} {x' : V} {xs : List PV} (rx : RepT B W H x x') (e : asS h x = some xs) : xs.length ≤ sizeLine := by
  cases x with
  | tup ys => cases e; exact tup_sz hr (show Rep B W (.tup _) x' from rx)
  | _ => exact asL_sz hr rx e
theorem cutP_reps {xs : List PV} {vs : List V} (r : Reps B W xs vs) (lo hi : Option Int) : Reps B W (cutP xs lo hi) (cutV vs lo hi) := by
  unfold cutP cutV
  rw [r.length]
  exact (r.drop _).take _
theorem cutP_all {α : Type} {xs : List α} {lo hi : Option Int} (h : HT.sIx xs.length 0 lo = 0 ∧ HT.sIx xs.length xs.length hi = xs.length) : cutP xs lo hi = xs := by
  unfold cutP
  rw [h.1, h.2]
  simp
theorem cutS_eq (z : Str) (lo hi : Option Int) : cutS z lo hi = cutStr z lo hi := by
  unfold cutS cutStr cutP
  first | rfl | simp
theorem sl_fin (hK : X.K = B.K) {x z : PV} {x' : V} {lo hi : Option Int} {Q : VK} (hr : HRel B W h H) (rx : RepT B W H x x') (e : fSl h x lo hi = some z) (q : ∀ W' H' z', Grow W H W' H' → RepT B W' H' z z' → Q z' H') :
    rSlL X.K x' lo hi H Q ∨ rSlA X.K x' lo hi H Q ∨ rSlS x' lo hi H Q := by
  have go : ∀ xs, asL h x = some xs → z = .lst (cutP xs lo hi) → rSlL X.K x' lo hi H Q := fun xs ex ez => by
    obtain ⟨a, vs, rfl, h1, r1⟩ := asL_ok hr rx ex
    subst ez
    exact ⟨a, vs, rfl, rd_sql hK h1, fun p hp => q _ _ _ (.new hp (Nat.le_trans (cutV_length _ _ _) (by rw [← r1.length]; exact asL_sz hr rx ex))) (rep_lst_new (hr.fnone hp) (cutP_reps r1 lo hi)).hand⟩
  unfold fSl at e
  split at e
  · rename_i y
    cases e
    obtain ⟨e1, k⟩ := rep_str rx
    refine .inr (.inr ⟨y, e1, k.2, ?_⟩)
    rw [cutS_eq]
    refine q W H _ (.refl W H) (Rep.str _ (sok_sub k ?_ fun c hc => ?_)).hand
    · show (cutP y.cps.toList lo hi).toArray.size ≤ y.cps.size
      unfold cutP
      simp only [List.size_toArray, List.length_take, List.length_drop, Array.length_toList]
      omega
    · have hc : c ∈ cutP y.cps.toList lo hi := by simpa [cutStr] using hc
      unfold cutP at hc
      exact List.mem_of_mem_drop (List.mem_of_mem_take hc)
  · rename_i xs
    cases e
    obtain ⟨a, vs, rfl, h1, r1⟩ := tup_ok hK hr (show Rep B W (.tup xs) x' from rx)
    refine .inr (.inl ⟨a, vs, rfl, h1, fun z => ?_, fun _ p hp => q _ _ _ (.new hp (Nat.le_trans (cutV_length _ _ _) (by rw [← r1.length]; exact tup_sz hr (show Rep B W (.tup xs) _ from rx)))) (rep_tup_new (hr.fnone hp) (cutP_reps r1 lo hi)).hand⟩)
    rw [cutP_all (by rw [r1.length]; exact z)] at q
    exact q W H _ (.refl W H) rx
  · cases ex : asL h x with
    | none => rw [ex] at e; cases e
    | some xs =>
      rw [ex] at e
      exact .inl (go xs ex (Option.some.inj e).symm)
theorem sim_sl {lo hi : Option Expr} {ml mh : S → R S (Option Int)} {p2 : Pos} (hK : X.K = B.K) (ha : SimE X B N WX a ma) (hl : SimO X B N WX lo ml) (hh : SimO X B N WX hi mh) : SimE X B N WX (.Subscript a (.Slice lo hi none p2) pos) (eSl ma ml mh) :=
  (pe_slice (sl_list.or (sl_tupA.or sl_str)) ha hl hh).imp fun σ H Q ⟨W, s, r, h⟩ => ⟨W, s, r, (h.bind r.slen).mono fun v W1 s1 H1 r1 _ q v' rv => ⟨W1, s1, r1, (q.bind r1.slen).mono fun l W2 s2 H2 r2 st2 q =>
    ⟨W2, s2, r2, (q.bind r2.slen).mono fun u W3 s3 H3 r3 st3 q => by
      split at q
      · rename_i z ez
        exact sl_fin hK r3.hr ((rv.on r1.slen st2.st).on r2.slen st3.st) ez fun W' H' z' g rz => q W' H' (g.rel r3) (g.stepE r3.hr) z' rz
      · exact q.elim⟩⟩⟩

/-! ### a < b < c -/
def eChain (f g : AH → PV → PV → Option PV) (a b c : ME) : ME := fun s => (a s).bind fun x s1 => (b s1).bind fun y s2 => match f s2.h x y with
  | some (.bl true) => (c s2).bind fun w s3 => match g s3.h y w with
    | some z => .ok z s3
    | none => .bad
  | some (.bl false) => .ok (.bl false) s2
  | _ => .bad
theorem chain_of {f g : AH → PV → PV → Option PV} {r r' : R2} (hf : OpSem X B f r) (hg : OpSem X B g r') {σ : L2.St} {H : Hp} {Q : VK} (h : tE B N WX (eChain f g ma mb mc) σ H Q) :
    tChain r r' (tE B N WX ma) (tE B N WX mb) (tE B N WX mc) σ H Q := by
  obtain ⟨W, s, r, h⟩ := h
  refine ⟨W, s, r, (h.bind r.slen).mono fun x W1 s1 H1 r1 _ q x' rx => ⟨W1, s1, r1, (q.bind r1.slen).mono fun y W2 s2 H2 r2 st2 q y' ry => ?_⟩⟩
  have rx2 := rx.on r1.slen st2.st
  have h0 : ∃ b, f s2.h x y = some (.bl b) := by
    split at q
    · rename_i e; exact ⟨true, e⟩
    · rename_i e; exact ⟨false, e⟩
    · exact q.elim
  obtain ⟨b, eb⟩ := h0
  refine hf W2 s2.h H2 x y _ x' y' _ r2.hr rx2 ry eb fun W3 H3 z' g3 rz => ?_
  refine ⟨b, rep_bl rz, ?_⟩
  have r3 := g3.rel r2
  have st3 := g3.stepE (s := s2) r2.hr
  cases b with
  | false =>
    rw [eb] at q
    exact iteF ((Post.from r2.slen st3 q).ok r3 _ (Rep.bl false).hand)
  | true =>
    rw [eb] at q
    refine iteT ⟨W3, s2, r3, ((Post.from r2.slen st3 q).bind r3.slen).mono fun w W4 s4 H4 r4 st4 q w' rw' => ?_⟩
    exact op_fin hg r4 ((ry.on r2.slen st3.st).on r3.slen st4.st) rw' q
theorem sim_chain {op op' : CmpOp} {r r' : R2} {f g : AH → PV → PV → Option PV} (ho : OpR X (compareOp op) r) (ho' : OpR X (compareOp op') r') (hf : OpSem X B f r) (hg : OpSem X B g r') (ha : SimE X B N WX a ma) (hb : SimE X B N WX b mb) (hc : SimE X B N WX c mc)
    (hm : lastMarks [op, op'] [b, c] = false) : SimE X B N WX (.Compare a [op, op'] [b, c] pos) (eChain f g ma mb mc) :=
  (pe_chain ho ho' ha hb hc hm).imp fun σ H Q h => chain_of hf hg h
theorem sim_tchain {op op' : CmpOp} {r r' : R2} {f g : AH → PV → PV → Option PV} (ho : OpR X (compareOp op) r) (ho' : OpR X (compareOp op') r') (hf : OpSem X B f r) (hg : OpSem X B g r') (ha : SimE X B N WX a ma) (hb : SimE X B N WX b mb) (hc : SimE X B N WX c mc)
    (hm : lastMarks [op, op'] [b, c] = false) : SimT X B N WX (.Compare a [op, op'] [b, c] pos) (bM (eChain f g ma mb mc)) :=
  (pt_chain ho ho' ha hb hc hm).imp fun σ H Q h => chain_of hf hg (tB_of h)
end
end Lp

set_option Elab.async false
set_option linter.all false
set_option maxRecDepth 100000
set_option maxHeartbeats 4000000
/-! Lp4: in, built-ins, targets, walks, comprehensions. -/
namespace Lp
open PySem PySem.Spec PyProof.Rows L2

/-! ### in -/
def fInL (neg : Bool) : AH → PV → PV → Option PV := fun h x y => match toDh h x, toDh h y with
  | some d, some (.list ds) => if dOk d && dOk (.list ds) then some (.bl (neg ^^ ds.any fun z => PyData.eqv z d)) else none
  | some d, some (.tuple ds) => if dOk d && dOk (.tuple ds) then some (.bl (neg ^^ ds.any fun z => PyData.eqv z d)) else none
  | _, _ => none
def rInT (K : PySem.W.Frag) (neg : Bool) : R2 := fun x y H Q => ∃ d ds, Dp K H x d ∧ Dp K H y (.tuple ds) ∧ SeqAt.shaped d = true ∧ SeqAt.shaped (.tuple ds) = true ∧ Q (.bl (neg ^^ ds.any fun z => PyData.eqv z d)) H
section
variable {X : Cx} {B : Bs}
theorem room_tup {A : Around} {ds : List PyData} {d : PyData} (h : SeqAt.shaped (.tuple ds) = true) (hu : A.units + 66 < cLine) : A.units + 1 + min (PyData.depthAll ds) d.depth < cLine := by
  have h1 := SeqAt.depth_of_shaped h
  simp only [PyData.depth] at h1
  have h2 : min (PyData.depthAll ds) d.depth ≤ PyData.depthAll ds := Nat.min_le_left _ _
  omega
theorem op_inT (hu : X.A.units + 66 < cLine) : OpR X (compareOp .In) (rInT X.K false) := by
  intro pins s σ H x y v u Q I rx ry h
  obtain ⟨d, ds, hd, he, sd, se, q⟩ := h
  obtain ⟨as, r1⟩ := Dp.reads I d x v hd rx
  obtain ⟨bs, r2⟩ := Dp.reads I (.tuple ds) y u he ry
  exact SeqAt.in_tuple_reads r2 r1 (SeqAt.canLay_of_shaped se) (SeqAt.canLay_of_shaped sd) (room_tup se hu) ⟨.bl _, H, I, by simp; rfl, q⟩
theorem op_ninT (hu : X.A.units + 66 < cLine) : OpR X (compareOp .NotIn) (rInT X.K true) := by
  intro pins s σ H x y v u Q I rx ry h
  obtain ⟨d, ds, hd, he, sd, se, q⟩ := h
  obtain ⟨as, r1⟩ := Dp.reads I d x v hd rx
  obtain ⟨bs, r2⟩ := Dp.reads I (.tuple ds) y u he ry
  exact SeqAt.notIn_tuple_reads r2 r1 (SeqAt.canLay_of_shaped se) (SeqAt.canLay_of_shaped sd) (room_tup se hu) ⟨.bl _, H, I, by simp; rfl, q⟩
/-- a text in a text -/
def fInS (neg : Bool) : AH → PV → PV → Option PV := fun _ x y => match x, y with
  | .str i, .str j => match i.cps.toList with
    | [c] => some (.bl (neg ^^ decide (c ∈ j.cps.toList)))
    | _ => some (.bl (neg ^^ !(Builtin.Str.occurrences j i 0 j.length 1).isEmpty))
  | _, _ => none
theorem sem_inL (hK : X.K = B.K) : OpSem X B (fInL false) (fun x y H Q => rInD X.K x y H Q ∨ rInT X.K false x y H Q) := by
  intro W h H x y z x' y' Q hr rx ry e q
  unfold fInL at e
  split at e
  · rename_i d ds ed ef
    split at e
    · rename_i hz
      cases e
      obtain ⟨z1, z2⟩ := Bool.and_eq_true_iff.mp hz
      obtain ⟨a1, a2⟩ := toDh_dp hK hr rx ed
      obtain ⟨b1, b2⟩ := toDh_dp hK hr ry ef
      exact .inl ⟨d, ds, a1, b1, shaped_of a2 z1, shaped_of b2 z2, q W H _ (.refl W H) (by simp only [Bool.false_xor]; exact (Rep.bl _).hand)⟩
    · cases e
  · rename_i d ds ed ef
    split at e
    · rename_i hz
      cases e
      obtain ⟨z1, z2⟩ := Bool.and_eq_true_iff.mp hz
      obtain ⟨a1, a2⟩ := toDh_dp hK hr rx ed
      obtain ⟨b1, b2⟩ := toDh_dp hK hr ry ef
      exact .inr ⟨d, ds, a1, b1, shaped_of a2 z1, shaped_of b2 z2, q W H _ (.refl W H) (Rep.bl _).hand⟩
    · cases e
  · cases e
theorem sem_ninL (hK : X.K = B.K) : OpSem X B (fInL true) (fun x y H Q => rNotInD X.K x y H Q ∨ rInT X.K true x y H Q) := by
  intro W h H x y z x' y' Q hr rx ry e q
  unfold fInL at e
  split at e
  · rename_i d ds ed ef
    split at e
    · rename_i hz
      cases e
      obtain ⟨z1, z2⟩ := Bool.and_eq_true_iff.mp hz
      obtain ⟨a1, a2⟩ := toDh_dp hK hr rx ed
      obtain ⟨b1, b2⟩ := toDh_dp hK hr ry ef
      exact .inl ⟨d, ds, a1, b1, shaped_of a2 z1, shaped_of b2 z2, q W H _ (.refl W H) (by simp only [Bool.true_xor]; exact (Rep.bl _).hand)⟩
    · cases e
  · rename_i d ds ed ef
    split at e
    · rename_i hz
      cases e
      obtain ⟨z1, z2⟩ := Bool.and_eq_true_iff.mp hz
      obtain ⟨a1, a2⟩ := toDh_dp hK hr rx ed
      obtain ⟨b1, b2⟩ := toDh_dp hK hr ry ef
      exact .inr ⟨d, ds, a1, b1, shaped_of a2 z1, shaped_of b2 z2, q W H _ (.refl W H) (Rep.bl _).hand⟩
    · cases e
  · cases e
def rInS (neg : Bool) : R2 := fun x y H Q => ∃ i j : Str, x = .str i ∧ y = .str j ∧ Q (.bl (neg ^^ !(Builtin.Str.occurrences j i 0 j.length 1).isEmpty)) H
theorem op_inS : OpR X (compareOp .In) (rInS false) := by
  intro pins s σ H x y v u Q I rx ry h
  obtain ⟨i, j, e1, e2, q⟩ := h
  exact op_in_str pins s σ H x y v u Q I rx ry ⟨i, j, e1, e2, by simpa using q⟩
theorem op_ninS : OpR X (compareOp .NotIn) (rInS true) := by
  intro pins s σ H x y v u Q I rx ry h
  obtain ⟨i, j, e1, e2, q⟩ := h
  exact L2.op_notin_str pins s σ H x y v u Q I rx ry ⟨i, j, e1, e2, by simpa using q⟩
theorem sem_inS {neg : Bool} : OpSem X B (fInS neg) (rInS neg) := by
  intro W h H x y z x' y' Q hr rx ry e q
  unfold fInS at e
  split at e
  · rename_i i j
    refine ⟨i, j, (rep_str rx).1, (rep_str ry).1, ?_⟩
    split at e
    · rename_i c ec
      cases e
      have ei : i = ⟨#[c]⟩ := by
        obtain ⟨a⟩ := i
        congr 1
        exact Array.toList_inj.mp ec
      subst ei
      have := PySem.StrLaws.found_one j c
      rw [this]
      exact q W H _ (.refl W H) (Rep.bl _).hand
    · cases e
      exact q W H _ (.refl W H) (Rep.bl _).hand
  · cases e
end
def fIn : AH → PV → PV → Option PV := fun h x y => (fInS false h x y).or (fInL false h x y)
def fNin : AH → PV → PV → Option PV := fun h x y => (fInS true h x y).or (fInL true h x y)
section
variable {X : Cx} {B : Bs}
theorem op_in (hu : X.A.units + 66 < cLine) : OpR X (compareOp .In) (fun x y H Q => rInS false x y H Q ∨ (rInD X.K x y H Q ∨ rInT X.K false x y H Q)) := op_inS.or ((op_inD (by omega)).or (op_inT hu))
theorem op_nin (hu : X.A.units + 66 < cLine) : OpR X (compareOp .NotIn) (fun x y H Q => rInS true x y H Q ∨ (rNotInD X.K x y H Q ∨ rInT X.K true x y H Q)) := op_ninS.or ((op_notInD (by omega)).or (op_ninT hu))
theorem sem_in (hK : X.K = B.K) : OpSem X B fIn (fun x y H Q => rInS false x y H Q ∨ (rInD X.K x y H Q ∨ rInT X.K false x y H Q)) := sem_inS.or (sem_inL hK)
theorem sem_nin (hK : X.K = B.K) : OpSem X B fNin (fun x y H Q => rInS true x y H Q ∨ (rNotInD X.K x y H Q ∨ rInT X.K true x y H Q)) := sem_inS.or (sem_ninL hK)
end

/-! ### built-ins by values -/
def CallSem (X : Cx) (B : Bs) (f : AH → List PV → Option PV) (r : List V → Hp → VK → Prop) : Prop := ∀ (W : Wd) (h : AH) (H : Hp) (xs : List PV) (z : PV) (xs' : List V) (Q : VK), HRel B W h H → RepTs B W H xs xs' → f h xs = some z →
  (∀ W' H' z', Grow W H W' H' → RepT B W' H' z z' → Q z' H') → r xs' H Q
def eCB (f : AH → List PV → Option PV) (ma : MA) : ME := fun s => (ma s).bind fun vs s1 => match f s1.h vs with
  | some z => .ok z s1
  | none => .bad
section
variable {X : Cx} {B : Bs} {N : Ent} {WX : L2.WX} {x : Str} {p pos : Pos} {e : Expr} {es : List Expr} {ma : MA} {id T : String} {f : AH → List PV → Option PV} {r : List V → Hp → VK → Prop}
theorem cb_fin (hf : CallSem X B f r) {σ : L2.St} {H : Hp} {Q : VK} (h : tE B N WX (eCB f ma) σ H Q) : tCB r (tA B N WX ma) σ H Q := by
  obtain ⟨W, s, r0, h⟩ := h
  refine ⟨W, s, r0, (h.bind r0.slen).mono fun vs W1 s1 H1 r1 _ q vs' rvs => ?_⟩
  split at q
  · rename_i z ez
    exact hf W1 s1.h H1 vs z vs' Q r1.hr rvs ez fun W' H' z' g rz => q W' H' (g.rel r1) (g.stepE r1.hr) z' rz
  · exact q.elim
theorem sim_callB (hc : CallR X (.builtin id) r) (hf : CallSem X B f r) (hg : Gl X x) (hm : X.mg x = none) (hv : bootBuiltins x = some (.builtin id)) (ha : SimA X B N WX (e :: es) ma) (hn : x ≠ "__name__") (hdb : (x == ("__debug__" : Str)) = false)
    (he : starEach (e :: es) X.env = (false, eval e X.env) :: starEach es X.env) (hpl : (backTo pos (starEach es X.env)).any (·.1) = false) : SimE X B N WX (.Call (.Name x p) (e :: es) [] pos) (eCB f ma) :=
  (pe_callB hc hg hm hv ha hn hdb he hpl).imp fun σ H Q h => cb_fin hf h
theorem sim_callTy (hc : CallR X (.type T) r) (hf : CallSem X B f r) (hg : Gl X x) (hm : X.mg x = none) (hv : bootBuiltins x = some (.type T)) (ha : SimA X B N WX (e :: es) ma) (hn : x ≠ "__name__") (hdb : (x == ("__debug__" : Str)) = false)
    (he : starEach (e :: es) X.env = (false, eval e X.env) :: starEach es X.env) (hpl : (backTo pos (starEach es X.env)).any (·.1) = false) : SimE X B N WX (.Call (.Name x p) (e :: es) [] pos) (eCB f ma) :=
  (pe_callTy hc hg hm hv ha hn hdb he hpl).imp fun σ H Q h => cb_fin hf h
end
def bLen : AH → List PV → Option PV := fun h xs => match xs with
  | [.str x] => some (.int x.length)
  | [x] => (asS h x).map fun ys => .int ys.length
  | _ => none
def bInt : AH → List PV → Option PV := fun _ xs => match xs with
  | [.int i] => some (.int i)
  | [.bl k] => some (.int (if k then 1 else 0))
  | _ => none
def blOf : PV → Option Bool
  | .bl b => some b
  | _ => none
def bAll : AH → List PV → Option PV := fun h xs => match xs with
  | [x] => match asL h x with
    | some ys => (ys.mapM blOf).map fun bs => .bl (bs.all fun b => b)
    | none => none
  | _ => none
def bAny : AH → List PV → Option PV := fun h xs => match xs with
  | [x] => match asL h x with
    | some ys => (ys.mapM blOf).map fun bs => .bl (bs.any fun b => b)
    | none => none
  | _ => none
def bList : AH → List PV → Option PV := fun h xs => match xs with
  | [x] => (asS h x).map .lst
  | _ => none
def bTuple : AH → List PV → Option PV := fun h xs => match xs with
  | [x] => (asS h x).map .tup
  | _ => none
section
variable {X : Cx} {B : Bs} {W : Wd} {h : AH} {H : Hp}
theorem repts1 {x : PV} {vs : List V} (r : RepTs B W H [x] vs) : ∃ v, vs = [v] ∧ RepT B W H x v := by
  cases vs with
  | nil => exact r.elim
  | cons v t =>
    obtain ⟨r1, r2⟩ := r
    cases t with
    | nil => exact ⟨v, rfl, r1⟩
    | cons _ _ => exact r2.elim
theorem repts2 {x y : PV} {vs : List V} (r : RepTs B W H [x, y] vs) : ∃ v w, vs = [v, w] ∧ RepT B W H x v ∧ RepT B W H y w := by
  cases vs with
  | nil => exact r.elim
  | cons v t =>
    obtain ⟨r1, r2⟩ := r
    obtain ⟨w, rfl, r3⟩ := repts1 r2
    exact ⟨v, w, rfl, r1, r3⟩
theorem sem_len (hK : X.K = B.K) : CallSem X B bLen (fun xs H Q => ∃ x n, xs = [x] ∧ LenV X.K x H n ∧ Q (.int n) H) := by
  intro W h H xs z xs' Q hr rx e q
  unfold bLen at e
  split at e
  · rename_i x
    cases e
    obtain ⟨v, rfl, r1⟩ := repts1 rx
    obtain ⟨rfl, k⟩ := rep_str r1
    exact ⟨_, x.length, rfl, ⟨k.2, rfl⟩, q W H _ (.refl W H) (Rep.int _).hand⟩
  · rename_i x _
    obtain ⟨v, rfl, r1⟩ := repts1 rx
    cases ex : asS h x with
    | none => rw [ex] at e; cases e
    | some ys =>
      rw [ex] at e
      cases e
      obtain ⟨a, vs, rfl, h1, r2⟩ := asS_ok hK hr r1 ex
      refine ⟨_, ys.length, rfl, ?_, q W H _ (.refl W H) (Rep.int _).hand⟩
      rcases h1 with h1 | h1
      · exact .inr ⟨vs, h1, r2.length⟩
      · exact .inl ⟨vs, h1, r2.length⟩
  · cases e
theorem sem_int1 : CallSem X B bInt (fun xs H Q => (∃ i, xs = [.int i] ∧ Q (.int i) H) ∨ ∃ k, xs = [.bl k] ∧ Q (.int (if k then 1 else 0)) H) := by
  intro W h H xs z xs' Q hr rx e q
  unfold bInt at e
  split at e
  · rename_i i
    cases e
    obtain ⟨v, rfl, r1⟩ := repts1 rx
    exact .inl ⟨i, by rw [rep_int r1], q W H _ (.refl W H) (Rep.int _).hand⟩
  · rename_i k
    cases e
    obtain ⟨v, rfl, r1⟩ := repts1 rx
    exact .inr ⟨k, by rw [rep_bl r1], q W H _ (.refl W H) (Rep.int _).hand⟩
  · cases e
theorem reps_bls : ∀ {ys : List PV} {vs : List V} {bs : List Bool}, Reps B W ys vs → ys.mapM blOf = some bs → vs = bs.map V.bl
  | [], _, _, .nil, e => by cases e; rfl
  | y :: ys, _, bs, .cons r t, e => by
    rw [List.mapM_cons] at e
    cases y with
    | bl b =>
      cases eq : ys.mapM blOf with
      | none => rw [eq] at e; cases e
      | some cs =>
        rw [eq] at e
        cases e
        cases r
        rw [reps_bls t eq]
        rfl
    | _ => cases e
theorem sem_all (hK : X.K = B.K) : CallSem X B bAll (rAll X.K) := by
  intro W h H xs z xs' Q hr rx e q
  unfold bAll at e
  split at e
  · rename_i x
    obtain ⟨v, rfl, r1⟩ := repts1 rx
    split at e
    · rename_i ys ex
      obtain ⟨a, vs, rfl, h1, r2⟩ := asL_ok hr r1 ex
      cases eb : ys.mapM blOf with
      | none => rw [eb] at e; cases e
      | some bs =>
        rw [eb] at e
        cases e
        refine ⟨a, bs, rfl, by rw [← reps_bls r2 eb]; exact rd_sql hK h1, ?_⟩
        have : (bs.all id) = (bs.all fun b => b) := rfl
        rw [this]
        exact q W H _ (.refl W H) (Rep.bl _).hand
    · cases e
  · cases e
theorem sem_any (hK : X.K = B.K) : CallSem X B bAny (rAny X.K) := by
  intro W h H xs z xs' Q hr rx e q
  unfold bAny at e
  split at e
  · rename_i x
    obtain ⟨v, rfl, r1⟩ := repts1 rx
    split at e
    · rename_i ys ex
      obtain ⟨a, vs, rfl, h1, r2⟩ := asL_ok hr r1 ex
      cases eb : ys.mapM blOf with
      | none => rw [eb] at e; cases e
      | some bs =>
        rw [eb] at e
        cases e
        refine ⟨a, bs, rfl, by rw [← reps_bls r2 eb]; exact rd_sql hK h1, ?_⟩
        have : (bs.any id) = (bs.any fun b => b) := rfl
        rw [this]
        exact q W H _ (.refl W H) (Rep.bl _).hand
    · cases e
  · cases e
theorem sem_list (hK : X.K = B.K) : CallSem X B bList (fun xs H Q => ∃ p ys, xs = [.ref p] ∧ (SqL X.K H p ys ∨ SqT X.K H p ys) ∧ ∀ l, H l = none → Q (.ref l) (upd H l (.lst ys))) := by
  intro W h H xs z xs' Q hr rx e q
  unfold bList at e
  split at e
  · rename_i x
    obtain ⟨v, rfl, r1⟩ := repts1 rx
    cases ex : asS h x with
    | none => rw [ex] at e; cases e
    | some ys =>
      rw [ex] at e
      cases e
      obtain ⟨a, vs, rfl, h1, r2⟩ := asS_ok hK hr r1 ex
      exact ⟨a, vs, rfl, h1.symm, fun p hp => q _ _ _ (.new hp (show vs.length ≤ sizeLine from by rw [← r2.length]; exact asS_sz hr r1 ex)) (rep_lst_new (hr.fnone hp) r2).hand⟩
  · cases e
theorem sem_tuple (hK : X.K = B.K) : CallSem X B bTuple (fun xs H Q => ∃ p ys, xs = [.ref p] ∧ ((SqL X.K H p ys ∧ ∀ l, H l = none → Q (.ref l) (upd H l (.tup ys))) ∨ (SqT X.K H p ys ∧ Q (.ref p) H))) := by
  intro W h H xs z xs' Q hr rx e q
  unfold bTuple at e
  split at e
  · rename_i x
    obtain ⟨v, rfl, r1⟩ := repts1 rx
    cases ex : asS h x with
    | none => rw [ex] at e; cases e
    | some ys =>
      rw [ex] at e
      cases e
      have go : asL h x = some ys → ∃ p zs, [v] = [.ref p] ∧ ((SqL X.K H p zs ∧ ∀ l, H l = none → Q (.ref l) (upd H l (.tup zs))) ∨ (SqT X.K H p zs ∧ Q (.ref p) H)) := fun ex => by
        obtain ⟨a, vs, rfl, h1, r2⟩ := asL_ok hr r1 ex
        exact ⟨a, vs, rfl, .inl ⟨rd_sql hK h1, fun p hp => q _ _ _ (.new hp (show SzO (.tup vs) from by show vs.length ≤ sizeLine; rw [← r2.length]; exact asL_sz hr r1 ex)) (rep_tup_new (hr.fnone hp) r2).hand⟩⟩
      cases x with
      | tup xs =>
        cases ex
        obtain ⟨a, vs, rfl, h1, r2⟩ := tup_ok hK hr (show Rep B W (.tup _) v from r1)
        exact ⟨a, vs, rfl, .inr ⟨h1, q W H _ (.refl W H) r1⟩⟩
      | _ => exact go ex
  · cases e
end
end Lp

set_option Elab.async false
set_option linter.all false
set_option maxRecDepth 100000
set_option maxHeartbeats 4000000
/-! Lp5: targets, walks, comprehensions. -/
namespace Lp
open PySem PySem.Spec PyProof.Rows L2

/-! ### what a state bears of an object that nothing names -/
/-- nothing that the state tells stands at p; it is younger than the entry -/
structure Loose (N : Ent) (W : Wd) (s : S) (σ : L2.St) (p : Addr) : Prop where
  F : W.F p = none
  m : p ∉ W.m
  o : ∀ (i : Nat) (x : PV), s.e[i]? = some (some x) → isOwn x = true → σ[i]? ≠ some (some (.ref p))
  e : N.H p = none
section
variable {B : Bs} {N : Ent} {W W' : Wd} {s s' : S} {σ : L2.St} {H H' : Hp} {p : Addr} {o : HO}
theorem CellR.off {c : Cell} {a : Addr} (r : CellR B W H a c) (ne : a ≠ p) : CellR B W (upd H p o) a c := r.mono (.refl W) (fun u e => by rw [upd_ne ne]; exact e) 
/-- an address that holds nothing, or a list or an instance -/
def Wr (H : Hp) (p : Addr) : Prop := H p = none ∨ ∃ o0, H p = some o0 ∧ NT o0 ∧ ∀ c q, o0 ≠ LamX.CodeO c q
theorem wr_lst {vs : List V} (h : H p = some (.lst vs)) : Wr H p := .inr ⟨_, h, nt_lst, nc_lst⟩
theorem tabs_put {T : List (Addr × Str)} (t : LamX.Tabs T H) (h : Wr H p) : LamX.Tabs T (upd H p o) := by
  rcases h with h | ⟨o0, h, nt, nc⟩
  · exact tabs_new t h
  · exact tabs_wr t h nt nc
theorem rel_put (r : Rel B N W s σ H) (l : Loose N W s σ p) (ho : SzO o) (wr : Wr H p) : Rel B N W s σ (upd H p o) := by
  refine ⟨⟨fun a u e => ?_, r.hr.len, r.hr.nd, fun a hm => ?_, fun a u e nt => ?_, r.hr.fz, tabs_put r.hr.tb wr, fun n c a e1 e2 => ?_⟩, ?_, r.len, fun i x e => ?_, r.dis, r.pin⟩
  · have ne : a ≠ p := fun z => by rw [z, l.F] at e; cases e
    rw [upd_ne ne]; exact r.hr.agree _ _ e
  · have ne : a ≠ p := fun z => l.m (z ▸ hm)
    rw [upd_ne ne]; exact r.hr.mt a hm
  · by_cases ha : a = p
    · rw [ha, upd_same] at e
      cases e
      exact ho
    · rw [upd_ne ha] at e
      exact r.hr.hz a u e nt
  · obtain ⟨h1, h2⟩ := r.hr.cell n c a e1 e2
    exact ⟨h1, h2.off fun z => l.m (z ▸ List.mem_of_getElem? e2)⟩
  · have st := r.st
    refine ⟨st.le, st.hl, st.dead, fun a u e nt nl => ?_, fun a e => ?_, fun a e ne nl => ?_, st.hm, st.mnew⟩
    · have ne : a ≠ p := fun z => by rw [z, l.e] at e; cases e
      rw [upd_ne ne]; exact st.keep a u e nt nl
    · by_cases ha : a = p
      · rw [ha, upd_same] at e; cases e
      · rw [upd_ne ha] at e; exact st.tr a e
    · exact st.fgrow a e ne nl
  · obtain ⟨v, e1, sl⟩ := r.env i x e
    refine ⟨v, e1, ?_⟩
    cases x with
    | own xs =>
      obtain ⟨a, vs, rfl, h1, h2, h3, h4, h5⟩ := sl
      have ne : a ≠ p := fun z => l.o i _ e rfl (by rw [e1, z])
      exact ⟨a, vs, rfl, by rw [upd_ne ne]; exact h1, h2, h3, h4, h5⟩
    | don ks => exact sl
    | _ => exact sl
/-- it is put up for good -/
theorem rel_keep (r : Rel B N W s σ H) (l : Loose N W s σ p) (hp : H p = some o) (nt : NT o) : Rel B N ⟨upd W.F p o, W.m⟩ s σ H := by
  have le : W.Le ⟨upd W.F p o, W.m⟩ := le_new l.F
  refine ⟨⟨fun a u e => ?_, r.hr.len, r.hr.nd, r.hr.mt, r.hr.hz, fun a u e => ?_, r.hr.tb, fun n c a e1 e2 => ?_⟩, ?_, r.len, fun i x e => ?_, r.dis, r.pin.trans le⟩
  · by_cases ha : a = p
    · have e : upd W.F p o a = some u := e
      rw [ha, upd_same] at e
      rw [ha, hp]; exact e
    · have e : upd W.F p o a = some u := e
      rw [upd_ne ha] at e
      exact r.hr.agree _ _ e
  · by_cases ha : a = p
    · have e : upd W.F p o a = some u := e
      rw [ha, upd_same] at e
      cases e
      exact nt
    · have e : upd W.F p o a = some u := e
      rw [upd_ne ha] at e
      exact r.hr.fz a u e
  · obtain ⟨h1, h2⟩ := r.hr.cell n c a e1 e2
    have ne : a ≠ p := fun z => l.m (z ▸ List.mem_of_getElem? e2)
    exact ⟨by show upd W.F p o a = none; rw [upd_ne ne]; exact h1, h2.mono le fun _ z => z⟩
  · have st := r.st
    refine ⟨st.le.trans le, st.hl, st.dead, st.keep, st.tr, fun a e ne nl => ?_, st.hm, st.mnew⟩
    have ha : a ≠ p := fun z => ne (z ▸ l.e)
    show upd W.F p o a = none
    rw [upd_ne ha]; exact st.fgrow a e ne nl
  · obtain ⟨v, e1, sl⟩ := r.env i x e
    refine ⟨v, e1, ?_⟩
    cases x with
    | own xs =>
      obtain ⟨a, vs, rfl, h1, h2, h3, h4, h5⟩ := sl
      have ne : a ≠ p := fun z => l.o i _ e rfl (by rw [e1, z])
      exact ⟨a, vs, rfl, h1, h2.mono le, by show upd W.F p o a = none; rw [upd_ne ne]; exact h3, h4, h5⟩
    | don ks => exact sl
    | _ => exact Rep.mono le sl
/-- from a state ahead of the object: it is loose, and stays so -/
theorem Rel.loose (r : Rel B N W s σ H) (hp : H p = none) : Loose N W s σ p := by
  refine ⟨r.hr.fnone hp, fun z => r.hr.mt p z hp, fun i x e o q => ?_, r.st.tr _ hp⟩
  · obtain ⟨v, e1, sl⟩ := r.env i x e
    rw [q] at e1
    cases e1
    cases x with
    | own xs =>
      obtain ⟨a, vs, e2, h1, _⟩ := sl
      cases e2
      rw [hp] at h1
      cases h1
    | don ks => exact sl
    | _ => cases o
theorem Loose.on (l : Loose N W s σ p) (hl : W.m.length = s.h.length) (st : StepE W s H W' s' H') (hp : H p ≠ none) : Loose N W' s' σ p :=
  ⟨st.st.fgrow p l.F hp fun z => l.m z.mem, st.st.notm hl l.m hp, fun i x e o => l.o i x (st.eo i x e o) o, l.e⟩
theorem Loose.held (l : Loose N W s σ p) (st : StepE W s H W' s' H') (hp : H p = some o) (nt : NT o) : H' p = some o := st.st.keep p o hp nt fun z => l.m z.mem
/-- a step told of the heap without the loose object -/
theorem StepE.put (st : StepE W s H W' s' H') (hp : H p = none) (hm : p ∉ W'.m) : StepE W s H W' s' (upd H' p o) := by
  refine ⟨⟨st.st.le, st.st.hl, st.st.dead, fun a u e nt nl => ?_, fun a e => ?_, st.st.fgrow, st.st.hm, st.st.mnew⟩, st.eo⟩
  · rw [upd_ne (ne_of_none e hp)]; exact st.st.keep a u e nt nl
  · by_cases ha : a = p
    · rw [ha, upd_same] at e; cases e
    · rw [upd_ne ha] at e; exact st.st.tr a e
theorem StepE.keepNew (st : StepE W s H W' s' H') (hp : H p = none) (hF : W'.F p = none) : StepE W s H ⟨upd W'.F p o, W'.m⟩ s' H' := by
  refine ⟨⟨st.st.le.trans (le_new hF), st.st.hl, st.st.dead, st.st.keep, st.st.tr, fun a e ne nl => ?_, st.st.hm, st.st.mnew⟩, st.eo⟩
  have ha : a ≠ p := fun z => ne (z ▸ hp)
  show upd W'.F p o a = none
  rw [upd_ne ha]; exact st.st.fgrow a e ne nl
end

/-! ### slots written, slots wiped -/
def wipeE (e : List (Option PV)) : List Nat → List (Option PV)
  | [] => e
  | v :: vs => (wipeE e vs).set v none
section
variable {B : Bs} {N : Ent} {W W' : Wd} {s s' : S} {σ : L2.St} {H H' : Hp} {p : Addr} {o : HO}
theorem wipeE_length (e : List (Option PV)) : ∀ vs : List Nat, (wipeE e vs).length = e.length
  | [] => rfl
  | v :: vs => by unfold wipeE; rw [List.length_set, wipeE_length e vs]
theorem wipeE_get {e : List (Option PV)} {i : Nat} {x : PV} : ∀ {vs : List Nat}, (wipeE e vs)[i]? = some (some x) → e[i]? = some (some x) ∧ i ∉ vs
  | [], h => ⟨h, by simp⟩
  | v :: vs, h => by
    unfold wipeE at h
    by_cases hi : v = i
    · subst hi
      by_cases hv : v < (wipeE e vs).length
      · rw [List.getElem?_set_self hv] at h; cases h
      · rw [List.getElem?_eq_none (by simpa using hv)] at h; cases h
    · rw [List.getElem?_set_ne hi] at h
      obtain ⟨h1, h2⟩ := wipeE_get h
      exact ⟨h1, by simp only [List.mem_cons, not_or]; exact ⟨fun e => hi e.symm, h2⟩⟩
theorem wipe_at {σ : L2.St} {i : Nat} : ∀ {vs : List Nat}, i ∉ vs → (wipe σ vs)[i]? = σ[i]?
  | [], _ => rfl
  | v :: vs, h => by
    simp only [List.mem_cons, not_or] at h
    unfold wipe
    rw [List.getElem?_set_ne (fun e => h.1 e.symm)]
    exact wipe_at h.2
theorem wipe_set {σ : L2.St} {i : Nat} {x : Option V} : ∀ {vs : List Nat}, i ∈ vs → wipe (σ.set i x) vs = wipe σ vs
  | [], h => by cases h
  | v :: vs, h => by
    unfold wipe
    by_cases hm : i ∈ vs
    · rw [wipe_set hm]
    · have hv : i = v := by
        rcases List.mem_cons.mp h with z | z
        · exact z
        · exact absurd z hm
      subst hv
      have go : ∀ ws : List Nat, i ∉ ws → wipe (σ.set i x) ws = (wipe σ ws).set i x := by
        intro ws
        induction ws with
        | nil => intro _; rfl
        | cons w ws ih =>
          intro hw
          simp only [List.mem_cons, not_or] at hw
          unfold wipe
          rw [ih hw.2, List.set_comm _ _ hw.1]
      rw [go vs hm, List.set_set]
theorem rel_set {i : Nat} {x : PV} {v : V} (r : Rel B N W s σ H) (rx : Rep B W x v) : Rel B N W ⟨s.e.set i (some x), s.h⟩ (σ.set i (some v)) H := by
  have nx : isOwn x = false := by cases rx <;> rfl
  refine ⟨r.hr, r.st, by simp only [List.length_set]; exact r.len, fun j y e => ?_, fun j k y z a hjk e1 e2 o1 o2 s1 s2 => ?_, r.pin⟩
  · by_cases hj : i = j
    · subst hj
      by_cases hi : i < s.e.length
      · have e : (s.e.set i (some x))[i]? = some (some y) := e
        rw [List.getElem?_set_self hi] at e
        cases e
        exact ⟨v, List.getElem?_set_self (by rw [r.len]; exact hi), rx.slot⟩
      · have e : (s.e.set i (some x))[i]? = some (some y) := e
        rw [List.getElem?_eq_none (by rw [List.length_set]; omega)] at e
        cases e
    · have e : (s.e.set i (some x))[j]? = some (some y) := e
      rw [List.getElem?_set_ne hj] at e
      rw [List.getElem?_set_ne hj]
      exact r.env j y e
  · have g : ∀ (j : Nat) (y : PV), (s.e.set i (some x))[j]? = some (some y) → isOwn y = true → j ≠ i := fun j y e o z => by
      subst z
      by_cases hi : j < s.e.length
      · rw [List.getElem?_set_self hi] at e
        cases e
        rw [nx] at o
        cases o
      · rw [List.getElem?_eq_none (by rw [List.length_set]; omega)] at e
        cases e
    have hj := g j y e1 o1
    have hk := g k z e2 o2
    have e1 : (s.e.set i (some x))[j]? = some (some y) := e1
    have e2 : (s.e.set i (some x))[k]? = some (some z) := e2
    rw [List.getElem?_set_ne (Ne.symm hj)] at e1 s1
    rw [List.getElem?_set_ne (Ne.symm hk)] at e2 s2
    exact r.dis j k y z a hjk e1 e2 o1 o2 s1 s2
theorem rel_wipe {vs : List Nat} (r : Rel B N W s σ H) : Rel B N W ⟨wipeE s.e vs, s.h⟩ (wipe σ vs) H := by
  refine ⟨r.hr, r.st, by simp only [wipeE_length, wipe_length]; exact r.len, fun j y e => ?_, fun j k y z a hjk e1 e2 o1 o2 s1 s2 => ?_, r.pin⟩
  · obtain ⟨e1, hj⟩ := wipeE_get e
    rw [wipe_at hj]
    exact r.env j y e1
  · obtain ⟨f1, hj⟩ := wipeE_get e1
    obtain ⟨f2, hk⟩ := wipeE_get e2
    rw [wipe_at hj] at s1
    rw [wipe_at hk] at s2
    exact r.dis j k y z a hjk f1 f2 o1 o2 s1 s2
/-- back from a state whose slots agree but for the wiped ones -/
theorem rel_back {σ2 : L2.St} {vs : List Nat} (r : Rel B N W s σ2 H) (e : wipe σ2 vs = wipe σ vs) : Rel B N W ⟨wipeE s.e vs, s.h⟩ σ H := by
  have hlen : σ2.length = σ.length := by
    have := congrArg List.length e
    rw [wipe_length, wipe_length] at this
    exact this
  have g : ∀ j, j ∉ vs → σ2[j]? = σ[j]? := fun j hj => by rw [← wipe_at (σ := σ2) hj, e, wipe_at hj]
  refine ⟨r.hr, r.st, by simp only [wipeE_length]; rw [← hlen]; exact r.len, fun j y e => ?_, fun j k y z a hjk e1 e2 o1 o2 s1 s2 => ?_, r.pin⟩
  · obtain ⟨e1, hj⟩ := wipeE_get e
    rw [← g j hj]
    exact r.env j y e1
  · obtain ⟨f1, hj⟩ := wipeE_get e1
    obtain ⟨f2, hk⟩ := wipeE_get e2
    rw [← g j hj] at s1
    rw [← g k hk] at s2
    exact r.dis j k y z a hjk f1 f2 o1 o2 s1 s2
end

/-! ### targets: names, and tuples of them -/
inductive Tg where
  | n (i : Nat) | t (ts : List Tg)
mutual
def gT (K : PySem.W.Frag) : Tg → TG
  | .n i => gName i
  | .t ts => gTup K ts.length (gTs K ts)
def gTs (K : PySem.W.Frag) : List Tg → TGs
  | [] => gNil
  | t :: ts => gCons (gT K t) (gTs K ts)
end
mutual
def bindT : Tg → PV → List (Option PV) → Option (List (Option PV))
  | .n i, v, e => if isOwn v then none else some (e.set i (some v))
  | .t ts, .tup xs, e => bindTs ts xs e
  | .t _, _, _ => none
def bindTs : List Tg → List PV → List (Option PV) → Option (List (Option PV))
  | [], [], e => some e
  | t :: ts, x :: xs, e => match bindT t x e with
    | some e1 => bindTs ts xs e1
    | none => none
  | _, _, _ => none
end
mutual
def Tg.sl : Tg → List Nat
  | .n i => [i]
  | .t ts => Tg.sls ts
def Tg.sls : List Tg → List Nat
  | [] => []
  | g :: gs => g.sl ++ Tg.sls gs
end
section
variable {X : Cx} {B : Bs} {N : Ent} {W W' : Wd} {s s' : S} {σ : L2.St} {H H' : Hp} {vs : List Nat}
theorem Reps.len_of {xs : List PV} {us : List V} (r : Reps B W xs us) {n : Nat} (h : xs.length = n) : us.length = n := by rw [← r.length]; exact h
mutual
theorem bindTs_len : ∀ {ts : List Tg} {xs : List PV} {e e' : List (Option PV)}, bindTs ts xs e = some e' → xs.length = ts.length
  | [], [], _, _, _ => rfl
  | [], _ :: _, _, _, h => by simp [bindTs] at h
  | _ :: _, [], _, _, h => by simp [bindTs] at h
  | t :: ts, x :: xs, e, e', h => by
    rw [bindTs] at h
    cases q : bindT t x e with
    | none => rw [q] at h; cases h
    | some e1 =>
      rw [q] at h
      exact congrArg Nat.succ (bindTs_len h)
end
mutual
theorem gT_ok (hK : X.K = B.K) : ∀ {t : Tg} {x : PV} {v : V} {s : S} {σ : L2.St} {e' : List (Option PV)} {Q : L2.St → Hp → Prop}, (∀ i ∈ t.sl, i ∈ vs) → Rel B N W s σ H → Rep B W x v → bindT t x s.e = some e' →
    (∀ σ', Rel B N W ⟨e', s.h⟩ σ' H → wipe σ' vs = wipe σ vs → Q σ' H) → gT X.K t v σ H Q
  | .n i, x, v, s, σ, e', Q, hv, r, rx, hb, k => by
    rw [bindT] at hb
    split at hb
    · cases hb
    · cases hb
      exact k _ (rel_set r rx) (wipe_set (hv i (by simp [Tg.sl])))
  | .t ts, x, v, s, σ, e', Q, hv, r, rx, hb, k => by
    cases x with
    | tup xs =>
      rw [bindT] at hb
      obtain ⟨a, us, rfl, h1, ru⟩ := tup_ok hK r.hr rx
      exact ⟨a, us, rfl, h1, ru.len_of (bindTs_len hb), gTs_ok hK (by rw [Tg.sl] at hv; exact hv) r ru hb k⟩
    | _ => simp [bindT] at hb
theorem gTs_ok (hK : X.K = B.K) : ∀ {ts : List Tg} {xs : List PV} {us : List V} {s : S} {σ : L2.St} {e' : List (Option PV)} {Q : L2.St → Hp → Prop}, (∀ i ∈ Tg.sls ts, i ∈ vs) → Rel B N W s σ H → Reps B W xs us → bindTs ts xs s.e = some e' →
    (∀ σ', Rel B N W ⟨e', s.h⟩ σ' H → wipe σ' vs = wipe σ vs → Q σ' H) → gTs X.K ts us σ H Q
  | [], [], _, s, σ, e', Q, _, r, .nil, hb, k => by
    rw [bindTs] at hb
    cases hb
    exact ⟨rfl, k σ r rfl⟩
  | [], _ :: _, _, _, _, _, _, _, _, _, hb, _ => by simp [bindTs] at hb
  | _ :: _, [], _, _, _, _, _, _, _, _, hb, _ => by simp [bindTs] at hb
  | t :: ts, x :: xs, _, s, σ, e', Q, hv, r, .cons rx rt, hb, k => by
    rw [bindTs] at hb
    cases q : bindT t x s.e with
    | none => rw [q] at hb; cases hb
    | some e1 =>
      rw [q] at hb
      refine ⟨_, _, rfl, gT_ok hK (fun i hi => hv i (by rw [Tg.sls]; exact List.mem_append_left _ hi)) r rx q fun σ1 r1 w1 => ?_⟩
      exact gTs_ok hK (s := ⟨e1, s.h⟩) (fun i hi => hv i (by rw [Tg.sls]; exact List.mem_append_right _ hi)) r1 rt hb fun σ2 r2 w2 => k σ2 r2 (w2.trans w1)
end
end
end Lp

set_option Elab.async false
set_option linter.all false
set_option maxRecDepth 100000
set_option maxHeartbeats 4000000
/-! Lp6: walks, comprehensions. -/
namespace Lp
open PySem PySem.Spec PyProof.Rows L2

/-- what is walked: the items; the cells whose lists are walked; whether it is a slot's own list -/
structure Sr where
  xs : List PV
  w : List (Nat × List PV)
  o : Bool
def stillS (h : AH) (r : Sr) : Prop := ∀ p ∈ r.w, h[p.1]? = some (some (.lst p.2))
structure Walks (B : Bs) (J : It) (r : Sr) (W : Wd) (s : S) (H : Hp) : Prop where
  go : ∀ (W' : Wd) (s' : S) (H' : Hp), HRel B W' s'.h H' → W.Le W' → stillS s'.h r → (r.o = true → Step W s.h H W' s'.h H') → ∀ (i : Nat) (x : PV), r.xs[i]? = some x → J.go i H' ∧ ∀ v H'', J.yld i H' v H'' → ∃ W'', Grow W' H' W'' H'' ∧ Rep B W'' x v
  stop : ∀ (W' : Wd) (s' : S) (H' : Hp), HRel B W' s'.h H' → W.Le W' → stillS s'.h r → (r.o = true → Step W s.h H W' s'.h H') → ∀ i : Nat, r.xs.length ≤ i → J.stop i H'
def tI (B : Bs) (N : Ent) (WX : L2.WX) (m : S → R S Sr) : TI := fun σ H R => ∃ W s, Rel B N W s σ H ∧ Post B N WX W s H σ (m s) fun r W' s' H' => stillS s'.h r → r.xs.length ≤ sizeLine → ∀ J, Walks B J r W' s' H' → R J H'
abbrev SimI (X : Cx) (B : Bs) (N : Ent) (WX : L2.WX) (tg : Expr) (e : Expr) (m : S → R S Sr) : Prop := PI X tg e (tI B N WX m)
theorem PI_imp {X : Cx} {tg e : Expr} {t t' : TI} (h : PI X tg e t) (w : ∀ σ H Q, t' σ H Q → t σ H Q) : PI X tg e t' := ⟨fun pins s σ H Q I q => h.run pins s σ H Q I (w _ _ _ q)⟩
def srcOf (h : AH) : PV → Option Sr
  | .str x => some ⟨x.cps.toList.map fun c => .str ⟨#[c]⟩, [], false⟩
  | .tup xs => some ⟨xs, [], false⟩
  | .lst xs => some ⟨xs, [], false⟩
  | .own xs => some ⟨xs, [], true⟩
  | .cel n => match h[n]? with
    | some (some (.lst xs)) => some ⟨xs, [(n, xs)], false⟩
    | _ => none
  | _ => none
def sAny (m : ME) : S → R S Sr := fun s => (m s).bind fun v s1 => match srcOf s1.h v with
  | some r => .ok r s1
  | none => .bad
def sRng1 (m : MA) : S → R S Sr := fun s => (m s).bind fun v s1 => match v with
  | [.int j] => if j.natAbs ≤ 16777216 then .ok ⟨(List.range j.toNat).map fun (k : Nat) => .int k, [], false⟩ s1 else .bad
  | _ => .bad
def sRng2 (m : MA) : S → R S Sr := fun s => (m s).bind fun v s1 => match v with
  | [.int i, .int j] => if i.natAbs < 4611686018427387904 ∧ j.natAbs < 4611686018427387904 ∧ j - i ≤ 16777216 then .ok ⟨(List.range (j - i).toNat).map fun (k : Nat) => .int (i + k), [], false⟩ s1 else .bad
  | _ => .bad
def zipP (xs ys : List PV) : List PV := List.zipWith (fun x y => .tup [x, y]) xs ys
def enumP : Nat → List PV → List PV
  | _, [] => []
  | n, x :: xs => .tup [.int (n : Int), x] :: enumP (n + 1) xs
/-- .. of lists alone -/
def lsrc (h : AH) : PV → Option Sr
  | .tup _ => none
  | .str _ => none
  | x => srcOf h x
def tupOf : PV → Option (List PV)
  | .tup xs => some xs
  | _ => none
def sZip (m : MA) : S → R S Sr := fun s => (m s).bind fun v s1 => match v with
  | [x, y] => match tupOf x, tupOf y with
    | some xs, some ys => .ok ⟨zipP xs ys, [], false⟩ s1
    | _, _ => match lsrc s1.h x, lsrc s1.h y with
      | some a, some b => .ok ⟨zipP a.xs b.xs, a.w ++ b.w, a.o || b.o⟩ s1
      | _, _ => .bad
  | _ => .bad
def sEnum (m : MA) : S → R S Sr := fun s => (m s).bind fun v s1 => match v with
  | [x] => match lsrc s1.h x with
    | some a => .ok ⟨enumP 0 a.xs, a.w, a.o⟩ s1
    | none => .bad
  | _ => .bad
theorem lsrc_ok {h : AH} {x : PV} {r : Sr} (e : lsrc h x = some r) : srcOf h x = some r ∧ (∀ xs, x ≠ .tup xs) ∧ ∀ y, x ≠ .str y := by
  cases x with
  | tup xs => cases e
  | str x => cases e
  | _ => exact ⟨e, (fun _ z => nomatch z), (fun _ z => nomatch z)⟩
theorem tupOf_ok {x : PV} {xs : List PV} (e : tupOf x = some xs) : x = .tup xs := by
  cases x with
  | tup ys => cases e; rfl
  | _ => cases e
section
variable {X : Cx} {B : Bs} {N : Ent} {WX : L2.WX} {W W' : Wd} {s s' : S} {σ : L2.St} {H H' : Hp} {tg e : Expr} {m : ME} {ma : MA}
theorem srcOf_still {h : AH} {v : PV} {r : Sr} (e : srcOf h v = some r) : stillS h r := by
  intro p hp
  cases v with
  | cel n =>
    unfold srcOf at e
    dsimp only at e
    split at e
    · rename_i xs q
      cases e
      simp only [List.mem_singleton] at hp
      rw [hp]; exact q
    · cases e
  | str x => cases e; cases hp
  | tup x => cases e; cases hp
  | lst x => cases e; cases hp
  | own x => cases e; cases hp
  | _ => cases e
theorem src_sz {x : PV} {x' : V} {r : Sr} {Wq : Wd} {hq : AH} {Hq : Hp} (hr : HRel B Wq hq Hq) (rx : RepT B Wq Hq x x') (e : srcOf hq x = some r) (nt : ∀ xs, x ≠ .tup xs) (ns : ∀ y, x ≠ .str y) : r.xs.length ≤ sizeLine := by
  refine asL_sz hr rx (xs := r.xs) ?_
  cases x with
  | tup xs => exact absurd rfl (nt xs)
  | str y => exact absurd rfl (ns y)
  | lst xs => cases e; rfl
  | own xs => cases e; rfl
  | cel n =>
    unfold srcOf at e
    unfold asL
    dsimp only at e ⊢
    split at e
    · cases e; rename_i q; first | rw [q] | rfl
    · cases e
  | _ => cases e
/-- a list's items, wherever it stands, at every later state -/
theorem srcL {v : PV} {v' : V} {r : Sr} (rx : RepT B W H v v') (e : srcOf s.h v = some r) (nt : ∀ xs, v ≠ .tup xs) (ns : ∀ x, v ≠ .str x) (hr0 : HRel B W s.h H) :
    ∃ a, v' = .ref a ∧ ∀ (W' : Wd) (s' : S) (H' : Hp), HRel B W' s'.h H' → W.Le W' → stillS s'.h r → (r.o = true → Step W s.h H W' s'.h H') → ∃ vs, SqL X.K H' a vs ∧ Reps B W' r.xs vs := by
  cases v with
  | tup xs => exact absurd rfl (nt xs)
  | str x => exact absurd rfl (ns x)
  | lst xs =>
    cases e
    cases (show Rep B W (.lst xs) v' from rx) with
    | lst h r => exact ⟨_, rfl, fun W' s' H' hr le _ _ => ⟨_, .inl (.inl (hr.agree _ _ (le.F _ _ h))), r.mono le⟩⟩
  | own xs =>
    cases e
    obtain ⟨a, vs, rfl, h, r, nm⟩ := rx
    exact ⟨a, rfl, fun W' s' H' hr le _ st => ⟨vs, .inl (.inl ((st rfl).keep _ _ h nt_lst fun z => nm z.mem)), r.mono le⟩⟩
  | cel n =>
    cases (show Rep B W (.cel n) v' from rx) with
    | @cel _ a h =>
      unfold srcOf at e
      dsimp only at e
      split at e
      · rename_i xs q
        cases e
        refine ⟨a, rfl, fun W' s' H' hr le st _ => ?_⟩
        obtain ⟨_, vs, h2, r2⟩ := hr.cell n _ a (st (n, xs) (by simp)) (le.at h)
        exact ⟨vs, .inl (.inl h2), r2⟩
      · cases e
  | _ => cases e
theorem reps_stop {xs : List PV} {vs : List V} (r : Reps B W xs vs) {i : Nat} (h : xs.length ≤ i) : vs.length ≤ i := by rw [← r.length]; exact h
theorem sim_any (hK : X.K = B.K) (he : SimE X B N WX e m) : SimI X B N WX tg e (sAny m) := by
  refine ⟨fun pins sp σ H RR I h => ?_⟩
  obtain ⟨W, s, r, h⟩ := h
  have q := h.bind r.slen
  cases em : m s with
  | bad => rw [em] at q; exact q.elim
  | exc x s' =>
    refine (pi_list he).run pins sp σ H RR I ⟨W, s, r, ?_⟩
    rw [em] at q ⊢
    exact q
  | ok v s1 =>
    rw [em] at q
    have done : ∀ (P : V → Hp → Prop), (∀ W1 H1, Rel B N W1 s1 σ H1 → StepE W s H W1 s1 H1 → Post B N WX W1 s1 H1 σ (match srcOf s1.h v with | some r => R.ok r s1 | none => .bad) (fun r W' s' H' => stillS s'.h r → r.xs.length ≤ sizeLine → ∀ J, Walks B J r W' s' H' → RR J H') → ∀ v', RepT B W1 H1 v v' → P v' H1) → tE B N WX m σ H P := fun P k => by
      refine ⟨W, s, r, ?_⟩
      rw [em]
      exact fun W1 H1 r1 st v' rv => k W1 H1 r1 st (q W1 H1 r1 st) v' rv
    have lst : (∀ xs, v ≠ .tup xs) → (∀ x, v ≠ .str x) → iList X.K (tE B N WX m) σ H RR := fun nt ns => done _ fun W1 H1 r1 st q v' rv => by
      split at q
      · rename_i rr er
        obtain ⟨a, rfl, hl⟩ := srcL (X := X) rv er nt ns r1.hr
        obtain ⟨vs, h1, hrv⟩ := hl W1 s1 H1 r1.hr (.refl _) (srcOf_still er) fun _ => Step.refl r1.hr
        have k := q.ok r1 (srcOf_still er) (src_sz r1.hr rv er nt ns)
        refine ⟨a, rfl, ⟨vs, h1⟩, k _ ⟨fun W' s' H' hr le st2 so i x ex => ?_, fun W' s' H' hr le st2 so i hi => ?_⟩⟩
        · obtain ⟨vs, h1, h2⟩ := hl W' s' H' hr le st2 so
          obtain ⟨u, e1, ru⟩ := h2.get ex
          refine ⟨⟨vs, u, h1, e1⟩, fun w H'' y => ?_⟩
          obtain ⟨rfl, y⟩ := y
          have := y vs h1
          rw [e1] at this
          cases this
          exact ⟨W', .refl _ _, ru⟩
        · obtain ⟨vs, h1, h2⟩ := hl W' s' H' hr le st2 so
          exact ⟨vs, h1, reps_stop h2 hi⟩
      · exact q.elim
    cases v with
    | tup xs =>
      refine (pi_tup he).run pins sp σ H RR I (done _ fun W1 H1 r1 st q v' rv => ?_)
      have k0 := (show Post B N WX W1 s1 H1 σ (R.ok (Sr.mk xs [] false) s1) (fun r W' s' H' => stillS s'.h r → r.xs.length ≤ sizeLine → ∀ J, Walks B J r W' s' H' → RR J H') from q).ok r1 (fun _ hp => nomatch hp)
      cases (show Rep B W1 (.tup xs) v' from rv) with
      | @tup _ a vs h1 h2 =>
        have hl : ∀ W' s' H', HRel B W' s' H' → W1.Le W' → SqT X.K H' a vs := fun W' s' H' hr le => by
          rcases h1 with h1 | ⟨o, its, n, k1, k2, k3, k4, k5⟩
          · exact .inl (.inl (hr.agree _ _ (le.F _ _ h1)))
          · exact .inr ⟨o, its, n, hK ▸ k1, k2, k3, k4, k5⟩
        have k := k0 (by show xs.length ≤ sizeLine; exact tup_sz r1.hr (.tup h1 h2))
        refine ⟨a, rfl, ⟨vs, hl W1 s1.h H1 r1.hr (.refl _)⟩, k _ ⟨fun W' s' H' hr le st2 so i x ex => ?_, fun W' s' H' hr le st2 so i hi => ?_⟩⟩
        · obtain ⟨u, e1, ru⟩ := (h2.mono le).get ex
          refine ⟨⟨vs, u, hl W' s'.h H' hr le, e1⟩, fun w H'' y => ?_⟩
          obtain ⟨rfl, y⟩ := y
          have := y vs (hl W' s'.h _ hr le)
          rw [e1] at this
          cases this
          exact ⟨W', .refl _ _, ru⟩
        · exact ⟨vs, hl W' s'.h H' hr le, reps_stop h2 hi⟩
    | str x =>
      refine (pi_str he).run pins sp σ H RR I (done _ fun W1 H1 r1 st q v' rv => ?_)
      have k0 := (show Post B N WX W1 s1 H1 σ (R.ok (Sr.mk (x.cps.toList.map fun c => .str ⟨#[c]⟩) [] false) s1) (fun r W' s' H' => stillS s'.h r → r.xs.length ≤ sizeLine → ∀ J, Walks B J r W' s' H' → RR J H') from q).ok r1 (fun _ hp => nomatch hp)
      obtain ⟨e1, kx⟩ := rep_str rv
      have k := k0 (by show (x.cps.toList.map fun c => PV.str ⟨#[c]⟩).length ≤ sizeLine; rw [List.length_map, Array.length_toList]; exact kx.2)
      refine ⟨x, e1, k _ ⟨fun W' s' H' hr le st2 so i y ey => ?_, fun W' s' H' hr le st2 so i hi => ?_⟩⟩
      · have ey : (x.cps.toList.map fun c => PV.str ⟨#[c]⟩)[i]? = some y := ey
        rw [List.getElem?_map] at ey
        cases ec : x.cps.toList[i]? with
        | none => rw [ec] at ey; cases ey
        | some c =>
          rw [ec] at ey
          cases ey
          have hi : i < x.cps.size := by simpa using (List.getElem?_eq_some_iff.mp ec).1
          refine ⟨hi, fun w H'' y => ?_⟩
          obtain ⟨rfl, d, e2, rfl⟩ := y
          have ed : d = c := by
            have e3 : x.cps.toList[i]? = x.cps[i]? := by simp
            rw [e3, e2] at ec
            exact Option.some.inj ec
          subst ed
          refine ⟨W', .refl _ _, .str _ (sok_sub kx ?_ fun z hz => ?_)⟩
          · show 1 ≤ x.cps.size
            omega
          · have : z = d := by simpa using hz
            rw [this]; exact List.mem_of_getElem? ec
      · have hi : (x.cps.toList.map fun c => PV.str ⟨#[c]⟩).length ≤ i := hi
        rw [List.length_map, Array.length_toList] at hi
        exact hi
    | lst xs => exact (pi_list he).run pins sp σ H RR I (lst (by intro _ z; cases z) (by intro _ z; cases z))
    | scr xs => exact (pi_list he).run pins sp σ H RR I (lst (by intro _ z; cases z) (by intro _ z; cases z))
    | own xs => exact (pi_list he).run pins sp σ H RR I (lst (by intro _ z; cases z) (by intro _ z; cases z))
    | cel xs => exact (pi_list he).run pins sp σ H RR I (lst (by intro _ z; cases z) (by intro _ z; cases z))
    | _ => exact (pi_list he).run pins sp σ H RR I (lst (by intro _ z; cases z) (by intro _ z; cases z))
theorem sim_rng1 {a : Expr} {p pos : Pos} (hg : Gl X "range") (hm : X.mg "range" = none) (ha : SimA X B N WX [a] ma) (hs : starEach [a] X.env = [(false, eval a X.env)]) : SimI X B N WX tg (.Call (.Name "range" p) [a] [] pos) (sRng1 ma) :=
  PI_imp (pi_range1 hg hm ha hs) fun σ H Q ⟨W, s, r, h⟩ => ⟨W, s, r, (h.bind r.slen).mono fun v W1 s1 H1 r1 _ q v' rv => by
    split at q
    · rename_i j
      split at q
      · rename_i hj
        obtain ⟨u, rfl, ru⟩ := repts1 rv
        have k := q.ok r1 (fun _ hp => nomatch hp) (by show ((List.range j.toNat).map fun (k : Nat) => PV.int k).length ≤ sizeLine; rw [List.length_map, List.length_range, sizeLine_eq]; omega)
        refine ⟨j, by rw [rep_int ru], by omega, by omega, k _ ⟨fun W' s' H' hr le st2 so i x ex => ?_, fun W' s' H' hr le st2 so i hi => ?_⟩⟩
        · have ex : ((List.range j.toNat).map fun (k : Nat) => PV.int k)[i]? = some x := ex
          rw [List.getElem?_map] at ex
          cases ei : (List.range j.toNat)[i]? with
          | none => rw [ei] at ex; cases ex
          | some k =>
            rw [ei] at ex
            cases ex
            obtain ⟨h1, h2⟩ := List.getElem?_eq_some_iff.mp ei
            simp only [List.getElem_range] at h2
            simp only [List.length_range] at h1
            refine ⟨h1, fun w H'' y => ?_⟩
            obtain ⟨rfl, rfl⟩ := y
            exact ⟨W', .refl _ _, by rw [← h2]; simpa using Rep.int (i : Int)⟩
        · have hi : ((List.range j.toNat).map fun (k : Nat) => PV.int k).length ≤ i := hi
          rw [List.length_map, List.length_range] at hi
          exact hi
      · exact q.elim
    · exact q.elim⟩
theorem sim_rng2 {a b : Expr} {p pos : Pos} (hg : Gl X "range") (hm : X.mg "range" = none) (ha : SimA X B N WX [a, b] ma) (hs : starEach [a, b] X.env = [(false, eval a X.env), (false, eval b X.env)]) (hs2 : starEach [b] X.env = [(false, eval b X.env)]) : SimI X B N WX tg (.Call (.Name "range" p) [a, b] [] pos) (sRng2 ma) :=
  PI_imp (pi_range2 hg hm ha hs hs2) fun σ H Q ⟨W, s, r, h⟩ => ⟨W, s, r, (h.bind r.slen).mono fun v W1 s1 H1 r1 _ q v' rv => by
    split at q
    · rename_i i0 j
      split at q
      · rename_i hj
        obtain ⟨u, u2, rfl, ru, ru2⟩ := repts2 rv
        have k := q.ok r1 (fun _ hp => nomatch hp) (by show ((List.range (j - i0).toNat).map fun (k : Nat) => PV.int (i0 + k)).length ≤ sizeLine; rw [List.length_map, List.length_range, sizeLine_eq]; omega)
        refine ⟨i0, j, by rw [rep_int ru, rep_int ru2], by omega, k _ ⟨fun W' s' H' hr le st2 so i x ex => ?_, fun W' s' H' hr le st2 so i hi => ?_⟩⟩
        · have ex : ((List.range (j - i0).toNat).map fun (k : Nat) => PV.int (i0 + k))[i]? = some x := ex
          rw [List.getElem?_map] at ex
          cases ei : (List.range (j - i0).toNat)[i]? with
          | none => rw [ei] at ex; cases ex
          | some k =>
            rw [ei] at ex
            cases ex
            obtain ⟨h1, h2⟩ := List.getElem?_eq_some_iff.mp ei
            simp only [List.getElem_range] at h2
            simp only [List.length_range] at h1
            refine ⟨h1, fun w H'' y => ?_⟩
            obtain ⟨rfl, rfl⟩ := y
            exact ⟨W', .refl _ _, by rw [← h2]; exact Rep.int _⟩
        · have hi : ((List.range (j - i0).toNat).map fun (k : Nat) => PV.int (i0 + k)).length ≤ i := hi
          rw [List.length_map, List.length_range] at hi
          exact hi
      · exact q.elim
    · exact q.elim⟩
theorem enumP_get : ∀ {xs : List PV} {n i : Nat} {z : PV}, (enumP n xs)[i]? = some z → ∃ x, xs[i]? = some x ∧ z = .tup [.int ((n + i : Nat) : Int), x]
  | [], _, _, _, h => by simp [enumP] at h
  | x :: xs, n, 0, z, h => by
    simp only [enumP, List.getElem?_cons_zero, Option.some.injEq] at h
    exact ⟨x, rfl, by rw [← h]; rfl⟩
  | x :: xs, n, i + 1, z, h => by
    simp only [enumP, List.getElem?_cons_succ] at h
    obtain ⟨y, e1, e2⟩ := enumP_get h
    exact ⟨y, by simpa using e1, by rw [e2]; congr 3; congr 1; omega⟩
theorem enumP_len : ∀ {xs : List PV} {n : Nat}, (enumP n xs).length = xs.length
  | [], _ => rfl
  | _ :: xs, n => by simp only [enumP, List.length_cons, enumP_len]
theorem grow_pair {T : Addr} {x y : PV} {u v : V} {Wq : Wd} {Hq : Hp} {hq : AH} (hr : HRel B Wq hq Hq) (hT : Hq T = none) (rx : Rep B Wq x u) (ry : Rep B Wq y v) : ∃ W'', Grow Wq Hq W'' (upd Hq T (.tup [u, v])) ∧ Rep B W'' (.tup [x, y]) (.ref T) :=
  ⟨_, .new hT (by show 2 ≤ sizeLine; decide), rep_tup_new (hr.fnone hT) (.cons rx (.cons ry .nil))⟩
theorem sim_enum {a : Expr} {p pos tpos : Pos} {elts : List Expr} {kk : Nat} (hg : Gl X "enumerate") (hm : X.mg "enumerate" = none) (ha : SimA X B N WX [a] ma) (hs : starEach [a] X.env = [(false, eval a X.env)]) : SimI X B N WX (.Tuple elts kk tpos) (.Call (.Name "enumerate" p) [a] [] pos) (sEnum ma) :=
  PI_imp (pi_enum hg hm ha hs) fun σ H Q ⟨W, s, r, h⟩ => ⟨W, s, r, (h.bind r.slen).mono fun v W1 s1 H1 r1 _ q v' rv => by
    split at q
    · rename_i x
      obtain ⟨u, rfl, ru⟩ := repts1 rv
      split at q
      · rename_i rr er0
        obtain ⟨er, nt, ns⟩ := lsrc_ok er0
        obtain ⟨a, rfl, hl⟩ := srcL (X := X) ru er nt ns r1.hr
        obtain ⟨vs, h1, hrv⟩ := hl W1 s1 H1 r1.hr (.refl _) (srcOf_still er) fun _ => Step.refl r1.hr
        have k := q.ok r1 (fun p hp => srcOf_still er p hp) (by show (enumP 0 rr.xs).length ≤ sizeLine; rw [enumP_len]; exact src_sz r1.hr ru er nt ns)
        refine ⟨a, vs, rfl, h1, k _ ⟨fun W' s' H' hr le st2 so i z ez => ?_, fun W' s' H' hr le st2 so i hi => ?_⟩⟩
        · obtain ⟨vs, h1, h2⟩ := hl W' s' H' hr le st2 so
          obtain ⟨y, ey, rfl⟩ := enumP_get ez
          obtain ⟨u, e1, ru⟩ := h2.get ey
          refine ⟨⟨vs, u, h1, e1⟩, fun w H'' yl => ?_⟩
          obtain ⟨T, w1, rfl, hT, rfl, y3⟩ := yl
          have := y3 vs h1
          rw [e1] at this
          cases this
          rw [Nat.zero_add]
          exact grow_pair hr hT (.int _) ru
        · obtain ⟨vs, h1, h2⟩ := hl W' s' H' hr le st2 so
          have hi : (enumP 0 rr.xs).length ≤ i := hi
          rw [enumP_len] at hi
          exact ⟨vs, h1, reps_stop h2 hi⟩
      · exact q.elim
    · exact q.elim⟩
theorem still_l {h : AH} {a b : Sr} {zs : List PV} {o : Bool} (st : stillS h ⟨zs, a.w ++ b.w, o⟩) : stillS h a := fun p hp => st p (List.mem_append_left _ hp)
theorem still_r {h : AH} {a b : Sr} {zs : List PV} {o : Bool} (st : stillS h ⟨zs, a.w ++ b.w, o⟩) : stillS h b := fun p hp => st p (List.mem_append_right _ hp)
theorem zip_go {xs ys : List PV} {vs ws : List V} {Wq : Wd} {Hq : Hp} {hq : AH} {i : Nat} {z : PV} (hr : HRel B Wq hq Hq) (h2 : Reps B Wq xs vs) (h4 : Reps B Wq ys ws) (ez : (zipP xs ys)[i]? = some z) :
    ∃ x y u v, xs[i]? = some x ∧ ys[i]? = some y ∧ vs[i]? = some u ∧ ws[i]? = some v ∧ Rep B Wq x u ∧ Rep B Wq y v ∧ z = .tup [x, y] := by
  unfold zipP at ez
  rw [List.getElem?_zipWith] at ez
  cases ex : xs[i]? with
  | none => rw [ex] at ez; cases ez
  | some x =>
    cases ey : ys[i]? with
    | none => rw [ex, ey] at ez; cases ez
    | some y =>
      rw [ex, ey] at ez
      cases ez
      obtain ⟨u, e1, ru⟩ := h2.get ex
      obtain ⟨v, e2, rv⟩ := h4.get ey
      exact ⟨x, y, u, v, rfl, rfl, e1, e2, ru, rv, rfl⟩
theorem sim_zip {a b : Expr} {p pos tpos : Pos} {elts : List Expr} {kk : Nat} (hK : X.K = B.K) (hg : Gl X "zip") (hm : X.mg "zip" = none) (ha : SimA X B N WX [a, b] ma) (hs : starEach [a, b] X.env = [(false, eval a X.env), (false, eval b X.env)]) (hs2 : starEach [b] X.env = [(false, eval b X.env)]) (hpl : (backTo pos (starEach [b] X.env)).any (·.1) = false) : SimI X B N WX (.Tuple elts kk tpos) (.Call (.Name "zip" p) [a, b] [] pos) (sZip ma) :=
  PI_imp (RZ.pi_zipA hg hm ha (by rw [hs, hs2]) hpl) fun σ H Q ⟨W, s, r, h⟩ => ⟨W, s, r, (h.bind r.slen).mono fun v W1 s1 H1 r1 _ q v' rv => by
    split at q
    · rename_i x y
      obtain ⟨u, u2, rfl, ru, ru2⟩ := repts2 rv
      split at q
      · rename_i xs ys ex ey
        have ex := tupOf_ok ex
        have ey := tupOf_ok ey
        subst ex ey
        have k0 := q.ok r1 (fun _ hp => nomatch hp)
        cases (show Rep B W1 (.tup xs) u from ru) with
        | @tup _ a vs h1 h2 =>
          cases (show Rep B W1 (.tup ys) u2 from ru2) with
          | @tup _ b ws h3 h4 =>
            have hl : ∀ {a : Addr} {vs : List V}, TupAt B W1 a vs → ∀ W' s' H', HRel B W' s' H' → W1.Le W' → SqT X.K H' a vs := fun h1 W' s' H' hr le => by
              rcases h1 with h1 | ⟨o, its, n, k1, k2, k3, k4, k5⟩
              · exact .inl (.inl (hr.agree _ _ (le.F _ _ h1)))
              · exact .inr ⟨o, its, n, hK ▸ k1, k2, k3, k4, k5⟩
            have k := k0 (by
              have := tup_sz r1.hr (.tup h1 h2)
              show (zipP xs ys).length ≤ sizeLine
              unfold zipP
              rw [List.length_zipWith]
              omega)
            refine ⟨a, b, vs, ws, rfl, .inr ⟨hl h1 _ _ _ r1.hr (.refl _), hl h3 _ _ _ r1.hr (.refl _), k _ ⟨fun W' s' H' hr le st2 so i z ez => ?_, fun W' s' H' hr le st2 so i hi => ?_⟩⟩⟩
            · obtain ⟨x, y, u, v, e1, e2, e3, e4, rx, ry, rfl⟩ := zip_go hr (h2.mono le) (h4.mono le) ez
              refine ⟨⟨vs, ws, u, v, hl h1 _ _ _ hr le, hl h3 _ _ _ hr le, e3, e4⟩, fun w H'' yl => ?_⟩
              obtain ⟨T, w1, w2, rfl, hT, rfl, y3, y4⟩ := yl
              have t1 := y3 vs (hl h1 _ _ _ hr le)
              have t2 := y4 ws (hl h3 _ _ _ hr le)
              rw [e3] at t1
              rw [e4] at t2
              cases t1
              cases t2
              exact grow_pair hr hT rx ry
            · refine ⟨vs, ws, hl h1 _ _ _ hr le, hl h3 _ _ _ hr le, ?_⟩
              have hi : (zipP xs ys).length ≤ i := hi
              unfold zipP at hi
              rw [List.length_zipWith, h2.length, h4.length] at hi
              omega
      · split at q
        · rename_i ra rb ea eb
          obtain ⟨ea, nt, ns⟩ := lsrc_ok ea
          obtain ⟨eb, nt2, ns2⟩ := lsrc_ok eb
          obtain ⟨a, rfl, hl⟩ := srcL (X := X) ru ea nt ns r1.hr
          obtain ⟨b, rfl, hl2⟩ := srcL (X := X) ru2 eb nt2 ns2 r1.hr
          have oa : ∀ {Z : Prop}, ((ra.o || rb.o) = true → Z) → ra.o = true → Z := fun f e => f (by rw [e]; rfl)
          have ob : ∀ {Z : Prop}, ((ra.o || rb.o) = true → Z) → rb.o = true → Z := fun f e => f (by rw [e, Bool.or_true])
          obtain ⟨vs0, h10, hr10⟩ := hl W1 s1 H1 r1.hr (.refl _) (srcOf_still ea) fun _ => Step.refl r1.hr
          obtain ⟨ws0, h30, _⟩ := hl2 W1 s1 H1 r1.hr (.refl _) (srcOf_still eb) fun _ => Step.refl r1.hr
          have k := q.ok r1 (fun p hp => (List.mem_append.mp hp).elim (srcOf_still ea p) (srcOf_still eb p)) (by
            have := src_sz r1.hr ru ea nt ns
            show (zipP ra.xs rb.xs).length ≤ sizeLine
            unfold zipP
            rw [List.length_zipWith]
            omega)
          refine ⟨a, b, vs0, ws0, rfl, .inl ⟨h10, h30, k _ ⟨fun W' s' H' hr le st2 so i z ez => ?_, fun W' s' H' hr le st2 so i hi => ?_⟩⟩⟩
          · obtain ⟨vs, h1, h2⟩ := hl W' s' H' hr le (still_l st2) (oa so)
            obtain ⟨ws, h3, h4⟩ := hl2 W' s' H' hr le (still_r st2) (ob so)
            obtain ⟨x, y, u, v, e1, e2, e3, e4, rx, ry, rfl⟩ := zip_go hr h2 h4 ez
            refine ⟨⟨vs, ws, u, v, h1, h3, e3, e4⟩, fun w H'' yl => ?_⟩
            obtain ⟨T, w1, w2, rfl, hT, rfl, y3, y4⟩ := yl
            have t1 := y3 vs h1
            have t2 := y4 ws h3
            rw [e3] at t1
            rw [e4] at t2
            cases t1
            cases t2
            exact grow_pair hr hT rx ry
          · obtain ⟨vs, h1, h2⟩ := hl W' s' H' hr le (still_l st2) (oa so)
            obtain ⟨ws, h3, h4⟩ := hl2 W' s' H' hr le (still_r st2) (ob so)
            refine ⟨vs, ws, h1, h3, ?_⟩
            have hi : (zipP ra.xs rb.xs).length ≤ i := hi
            unfold zipP at hi
            rw [List.length_zipWith, h2.length, h4.length] at hi
            omega
        · exact q.elim
    · exact q.elim⟩
end

/-! ### comprehensions -/
def testY : S → R S Bool := fun s => .ok true s
section
variable {X : Cx} {B : Bs} {N : Ent} {WX : L2.WX}
def SimTs (X : Cx) (B : Bs) (N : Ent) (WX : L2.WX) (ifs : List Expr) (m : S → R S Bool) : Prop := PTs X ifs (tT B N WX m)
theorem PTs_imp {ifs : List Expr} {t t' : TT} (h : PTs X ifs t) (w : ∀ σ H Q, t' σ H Q → t σ H Q) : PTs X ifs t' := ⟨fun pins s σ H Q I q => h.run pins s σ H Q I (w _ _ _ q)⟩
theorem simTs_nil : SimTs X B N WX [] testY := PTs_imp pts_nil fun σ H Q ⟨W, s, r, h⟩ => h.ok r
theorem simTs_one {c : Expr} {m : S → R S Bool} (h : SimT X B N WX c m) : SimTs X B N WX [c] m := pts_one h
end
/-- nothing is raised within a comprehension -/
def R.nx {τ α : Type} (r : R τ α) : R τ α := match r with
  | .ok a s => .ok a s
  | _ => .bad
@[simp] theorem R.nx_ok {τ α : Type} (a : α) (s : τ) : (R.ok a s).nx = .ok a s := rfl
@[simp] theorem R.nx_bad {τ α : Type} : (R.bad : R τ α).nx = .bad := rfl
theorem R.post_nx {τ α : Type} {r : R τ α} {P : α → τ → Prop} {E E' : PV → τ → Prop} (h : r.nx.post P E) : r.post P E' := by
  cases r with
  | ok a s => exact h
  | exc x s => exact h.elim
  | bad => exact h
/-- one turn: the item x, what is made so far acc -/
def stepC (t : Tg) (tt : S → R S Bool) (te : ME) (vs : List Nat) (x : PV) (acc : List PV) : S → R S (List PV) := fun s => match bindT t x (wipeE s.e vs) with
  | some e1 => (tt ⟨e1, s.h⟩).nx.bind fun b s2 => if b = true then (te s2).nx.bind fun y s3 => if isOwn y = true then .bad else .ok (acc ++ [y]) ⟨wipeE s3.e vs, s3.h⟩ else .ok acc ⟨wipeE s2.e vs, s2.h⟩
  | none => .bad
open Classical in
noncomputable def loopC (r : Sr) (t : Tg) (tt : S → R S Bool) (te : ME) (vs : List Nat) : List PV → List PV → S → R S (List PV)
  | [], acc, s => .ok acc s
  | x :: xs, acc, s => (stepC t tt te vs x acc s).bind fun acc' s' => if stillS s'.h r then loopC r t tt te vs xs acc' s' else .bad
noncomputable def eCompN (src : S → R S Sr) (t : Tg) (tt : S → R S Bool) (te : ME) (vs : List Nat) : S → R S (List PV) := fun s => (src s).bind fun r s1 => loopC r t tt te vs r.xs [] ⟨wipeE s1.e vs, s1.h⟩
noncomputable def eComp (src : S → R S Sr) (t : Tg) (tt : S → R S Bool) (te : ME) (vs : List Nat) : ME := fun s => (eCompN src t tt te vs s).bind fun acc s1 => .ok (.lst acc) s1
/-- it raises nothing -/
def R.Nx {τ α : Type} : R τ α → Prop
  | .exc _ _ => False
  | _ => True
theorem R.Nx.bind {τ α β : Type} {r : R τ α} {f : α → τ → R τ β} (h : r.Nx) (k : ∀ a s, (f a s).Nx) : (r.bind f).Nx := by
  cases r with
  | ok a s => exact k a s
  | exc x s => exact h
  | bad => exact trivial
theorem R.nx_Nx {τ α : Type} (r : R τ α) : r.nx.Nx := by cases r <;> exact trivial
theorem R.post_of_nx {τ α : Type} {r : R τ α} {P : α → τ → Prop} {E E' : PV → τ → Prop} (n : r.Nx) (h : r.post P E) : r.post P E' := by
  cases r with
  | ok a s => exact h
  | exc x s => exact n.elim
  | bad => exact h
theorem stepC_nx (t : Tg) (tt : S → R S Bool) (te : ME) (vs : List Nat) (x : PV) (acc : List PV) (s : S) : (stepC t tt te vs x acc s).Nx := by
  unfold stepC
  split
  · refine (R.nx_Nx _).bind fun b s2 => ?_
    split
    · refine (R.nx_Nx _).bind fun y s3 => ?_
      split <;> exact trivial
    · exact trivial
  · exact trivial
theorem loopC_nx (r : Sr) (t : Tg) (tt : S → R S Bool) (te : ME) (vs : List Nat) : ∀ (xs acc : List PV) (s : S), (loopC r t tt te vs xs acc s).Nx
  | [], _, _ => trivial
  | x :: xs, acc, s => by
    unfold loopC
    refine (stepC_nx t tt te vs x acc s).bind fun acc' s' => ?_
    split
    · exact loopC_nx r t tt te vs xs acc' s'
    · exact trivial
section
variable {X : Cx} {B : Bs} {N : Ent} {WX : L2.WX} {W W' : Wd} {s s' : S} {σ : L2.St} {H H' : Hp}
/-- a new list, not yet put anywhere: what is wanted of it -/
def tN (B : Bs) (N : Ent) (WX : L2.WX) (m : S → R S (List PV)) : TE := fun σ H Q => ∃ W s, Rel B N W s σ H ∧ Post B N WX W s H σ (m s) fun xs W' s' H' => ∀ p vs, H p = none → Loose N W' s' σ p → H' p = some (.lst vs) → Reps B W' xs vs → Q (.ref p) H'
abbrev SimN (X : Cx) (B : Bs) (N : Ent) (WX : L2.WX) (e : Expr) (m : S → R S (List PV)) : Prop := PE X e (tN B N WX m)
def shN (m : S → R S (List PV)) : ME := fun s => (m s).bind fun xs s1 => .ok (.lst xs) s1
/-- it is put up for good: a list as a value -/
theorem tE_sh {m : S → R S (List PV)} {Q : VK} (h : tE B N WX (shN m) σ H Q) : tN B N WX m σ H Q := by
  obtain ⟨W, s, r, h⟩ := h
  refine ⟨W, s, r, R.post_mono (R.post_bind h) (fun xs s1 q W1 H1 r1 st p vs hp l hH rv => ?_) fun x s1 q => q⟩
  exact q _ H1 (rel_keep r1 l hH nt_lst) (st.keepNew hp l.F) _ (Rep.lst upd_same (rv.mono (le_new l.F))).hand
theorem SimN.sh {e : Expr} {m : S → R S (List PV)} (h : SimN X B N WX e m) : SimE X B N WX e (shN m) := h.imp fun _ _ _ h => tE_sh h
theorem cmp_wipe {σ : L2.St} : ∀ vs : List Nat, wipe (wipe σ vs) vs = wipe σ vs := fun vs => by
  have key : ∀ (us : List Nat), (∀ u ∈ us, u ∈ vs) → wipe (wipe σ us) vs = wipe σ vs := by
    intro us
    induction us with
    | nil => intro _; rfl
    | cons u us ih =>
      intro h
      show wipe ((wipe σ us).set u none) vs = wipe σ vs
      rw [wipe_set (h u (by simp))]
      exact ih fun w hw => h w (List.mem_cons_of_mem _ hw)
  exact key vs fun _ h => h
mutual
theorem bindT_own : ∀ {t : Tg} {x : PV} {e e' : List (Option PV)}, bindT t x e = some e' → ∀ (i : Nat) (y : PV), e'[i]? = some (some y) → isOwn y = true → e[i]? = some (some y)
  | .n j, x, e, e', h, i, y, e1, o => by
    rw [bindT] at h
    split at h
    · cases h
    · rename_i hx
      cases h
      by_cases hj : j = i
      · subst hj
        by_cases hl : j < e.length
        · rw [List.getElem?_set_self hl] at e1
          cases e1
          exact absurd o hx
        · rw [List.getElem?_eq_none (by rw [List.length_set]; omega)] at e1
          cases e1
      · rw [List.getElem?_set_ne hj] at e1
        exact e1
  | .t ts, x, e, e', h, i, y, e1, o => by
    cases x with
    | tup xs => rw [bindT] at h; exact bindTs_own h i y e1 o
    | _ => simp [bindT] at h
theorem bindTs_own : ∀ {ts : List Tg} {xs : List PV} {e e' : List (Option PV)}, bindTs ts xs e = some e' → ∀ (i : Nat) (y : PV), e'[i]? = some (some y) → isOwn y = true → e[i]? = some (some y)
  | [], [], e, e', h, i, y, e1, o => by rw [bindTs] at h; cases h; exact e1
  | [], _ :: _, _, _, h, _, _, _, _ => by simp [bindTs] at h
  | _ :: _, [], _, _, h, _, _, _, _ => by simp [bindTs] at h
  | t :: ts, x :: xs, e, e', h, i, y, e1, o => by
    rw [bindTs] at h
    cases q : bindT t x e with
    | none => rw [q] at h; cases h
    | some e2 =>
      rw [q] at h
      exact bindT_own q i y (bindTs_own h i y e1 o) o
end
theorem stepE_wipe {vs : List Nat} (st : StepE W s H W' s' H') : StepE W s H W' ⟨wipeE s'.e vs, s'.h⟩ H' := ⟨st.st, fun i x e o => st.eo i x (wipeE_get e).1 o⟩
theorem stepE_bind {t : Tg} {x : PV} {vs : List Nat} {e1 : List (Option PV)} (st : StepE W s H W' s' H') (hb : bindT t x (wipeE s'.e vs) = some e1) : StepE W s H W' ⟨e1, s'.h⟩ H' := ⟨st.st, fun i x e o => st.eo i x (wipeE_get (bindT_own hb i x e o)).1 o⟩
theorem loose_bind {t : Tg} {x : PV} {vs : List Nat} {e1 : List (Option PV)} {p : Addr} {σ2 : L2.St} (l : Loose N W s σ p) (hb : bindT t x (wipeE s.e vs) = some e1) (hw : wipe σ2 vs = wipe σ vs) : Loose N W ⟨e1, s.h⟩ σ2 p :=
  ⟨l.F, l.m, fun i x e o z => by
    obtain ⟨e2, hi⟩ := wipeE_get (bindT_own hb i x e o)
    have : σ2[i]? = σ[i]? := by rw [← wipe_at (σ := σ2) hi, hw, wipe_at hi]
    rw [this] at z
    exact l.o i x e2 o z, l.e⟩
theorem loose_back {vs : List Nat} {p : Addr} {σ2 : L2.St} (l : Loose N W s σ2 p) (hw : wipe σ2 vs = wipe σ vs) : Loose N W ⟨wipeE s.e vs, s.h⟩ σ p :=
  ⟨l.F, l.m, fun i x e o z => by
    obtain ⟨e2, hi⟩ := wipeE_get e
    have : σ2[i]? = σ[i]? := by rw [← wipe_at (σ := σ2) hi, hw, wipe_at hi]
    rw [← this] at z
    exact l.o i x e2 o z, l.e⟩
theorem loose_put {p : Addr} (l : Loose N W s σ p) : Loose N W s σ p := l
abbrev WF : L2.WX := fun _ _ _ _ => False
theorem comp_core {r : Sr} {t : Tg} {tt : S → R S Bool} {te : ME} {vs : List Nat} {J : It} {W1 : Wd} {s0 s1 : S} {H1 : Hp} {D : Addr} {Q : VK} {Pf : List PV → Wd → S → Hp → Prop} (hK : X.K = B.K) (hv : ∀ i ∈ t.sl, i ∈ vs)
    (r1 : Rel B N W1 s1 σ H1) (wk : Walks B J r W1 s0 H1) (e0 : s0.h = s1.h) (st0 : stillS s1.h r) (hD : H1 D = none) (hline : r.xs.length ≤ sizeLine)
    (q : Post B N WF W1 s1 H1 σ (loopC r t tt te vs r.xs [] s1) Pf) (fin : ∀ xs av W' s' H', Rel B N W' s' σ H' → StepE W1 s1 H1 W' s' H' → Pf xs W' s' H' → Loose N W' s' σ D → H' D = some (.lst av) → Reps B W' xs av → Q (.ref D) H') :
    ∃ Wm : Nat → Nat → Hp → Prop, (∃ m, Wm 0 m (upd H1 D (.lst []))) ∧ ∀ i m H, Wm i m H →
      (J.stop i H ∧ Q (.ref D) H) ∨ (J.go i H ∧ ∃ Nx : Hp → Prop, (∀ H', Nx H' → ∃ m', m' < m ∧ Wm (i + 1) m' H') ∧ ∀ x H', J.yld i H x H' → gT X.K t x (wipe σ vs) H' fun σ2 H2 => wipe σ2 vs = wipe σ vs ∧ tT B N WF tt σ2 H2 fun b H3 =>
        if b = true then tE B N WF te σ2 H3 fun y H4 => ∃ acc, H4 D = some (.lst acc) ∧ acc.length < sizeLine ∧ Nx (upd H4 D (.lst (acc ++ [y]))) else Nx H3) := by
  -- what holds ahead of turn i
  let Iv : Nat → Hp → Prop := fun i H => ∃ W' s' acc av, Rel B N W' s' σ H ∧ StepE W1 s1 H1 W' s' H ∧ Loose N W' s' σ D ∧ H D = some (.lst av) ∧ Reps B W' acc av ∧ acc.length ≤ i ∧ i ≤ r.xs.length ∧ stillS s'.h r ∧
    Post B N WF W1 s1 H1 σ (loopC r t tt te vs (r.xs.drop i) acc s') Pf
  refine ⟨fun i m H => m = r.xs.length - i ∧ Iv i H, ⟨r.xs.length, rfl, W1, s1, [], [], rel_put r1 (r1.loose hD) (Nat.zero_le _) (.inl hD), (StepE.refl r1.hr).put hD (r1.loose hD).m, r1.loose hD, upd_same, .nil, Nat.le_refl _, Nat.zero_le _, st0, by simpa using q⟩, ?_⟩
  rintro i m H ⟨rfl, W', s', acc, av, r', st', l', hDv, ra, hacc, hi, sl', q'⟩
  have own_st : r.o = true → Step W1 s0.h H1 W' s'.h H := fun _ => by rw [e0]; exact st'.st
  by_cases hlt : i < r.xs.length
  · refine .inr ?_
    have ex := List.getElem?_eq_getElem hlt
    obtain ⟨g1, g2⟩ := wk.go W' s' H r'.hr st'.st.le sl' own_st i _ ex
    refine ⟨g1, fun H' => Iv (i + 1) H', fun H' hv' => ⟨r.xs.length - (i + 1), by omega, rfl, hv'⟩, fun v H2 y => ?_⟩
    obtain ⟨W2, gr, rx⟩ := g2 v H2 y
    rw [List.drop_eq_getElem_cons hlt] at q'
    have q2 := R.post_bind (show ((stepC t tt te vs r.xs[i] acc s').bind fun acc' s' => @ite _ (stillS s'.h r) (Classical.propDecidable _) (loopC r t tt te vs (r.xs.drop (i + 1)) acc' s') .bad).post _ _ from q')
    have r2 := gr.rel r'
    have st2 := st'.trans r1.slen (gr.stepE r'.hr)
    have l2 := l'.on r'.slen (gr.stepE r'.hr) (by rw [hDv]; exact fun z => nomatch z)
    have d2 := l'.held (gr.stepE r'.hr) hDv nt_lst
    unfold stepC at q2
    cases eb : bindT t r.xs[i] (wipeE s'.e vs) with
    | none => rw [eb] at q2; exact q2.elim
    | some e1 =>
      rw [eb] at q2
      refine gT_ok hK (vs := vs) (s := ⟨wipeE s'.e vs, s'.h⟩) hv (rel_wipe r2) rx eb fun σ2 r3 w3 => ?_
      have w3 : wipe σ2 vs = wipe σ vs := w3.trans (cmp_wipe vs)
      have st3 : StepE W1 s1 H1 W2 ⟨e1, s'.h⟩ H2 := stepE_bind st2 eb
      have l3 : Loose N W2 ⟨e1, s'.h⟩ σ2 D := loose_bind l2 eb w3
      refine ⟨w3, W2, ⟨e1, s'.h⟩, r3, R.post_mono (R.post_nx (E' := fun _ _ => False) (R.post_bind q2)) (fun b s4 q4 W4 H4 r4 st4 => ?_) fun x s4 q4 => q4.elim⟩
      have l4 := l3.on r3.slen st4 (by rw [d2]; exact fun z => nomatch z)
      have d4 := l3.held st4 d2 nt_lst
      have st14 := st3.trans r1.slen st4
      have go : ∀ {acc' : List PV} {av' : List V} {W5 : Wd} {s5 : S} {H5 : Hp}, Rel B N W5 s5 σ2 H5 → StepE W1 s1 H1 W5 s5 H5 → Loose N W5 s5 σ2 D → H5 D = some (.lst av') → Reps B W5 acc' av' → acc'.length ≤ i + 1 →
          (@ite _ (stillS s5.h r) (Classical.propDecidable _) (loopC r t tt te vs (r.xs.drop (i + 1)) acc' ⟨wipeE s5.e vs, s5.h⟩) .bad).post (fun v s' => ∀ W' H', Rel B N W' s' σ H' → StepE W1 s1 H1 W' s' H' → Pf v W' s' H') (fun x s' => ∀ W' H' cls d, Rel B N W' s' σ H' → StepE W1 s1 H1 W' s' H' → ExcR B N.H W' H' x cls d → Nw H1 d → WF cls d σ H') →
          Iv (i + 1) H5 := fun {acc' av' W5 s5 H5} r5 st5 l5 d5 ra5 h5 q5 => by
        split at q5
        · rename_i hst
          exact ⟨W5, ⟨wipeE s5.e vs, s5.h⟩, acc', av', rel_back r5 w3, stepE_wipe st5, loose_back l5 w3, d5, ra5, h5, hlt, hst, q5⟩
        · exact q5.elim
      cases b with
      | false =>
        refine iteF (go r4 st14 l4 d4 (ra.mono (gr.stepE r'.hr).st.le |>.mono st4.st.le) (by omega) ?_)
        exact q4
      | true =>
        refine iteT ⟨W4, s4, r4, R.post_mono (R.post_nx (E' := fun _ _ => False) (R.post_bind (show ((te s4).nx.bind fun y s3 => if isOwn y = true then R.bad else R.ok (acc ++ [y]) ⟨wipeE s3.e vs, s3.h⟩).post _ _ from q4))) (fun y s5 q5 W5 H5 r5 st5 y' ry => ?_) fun x s5 q5 => q5.elim⟩
        · split at q5
          · exact q5.elim
          · rename_i oy
            have l5 := l4.on r4.slen st5 (by rw [d4]; exact fun z => nomatch z)
            have d5 := l4.held st5 d4 nt_lst
            have ra5 : Reps B W5 acc av := ((ra.mono (gr.stepE r'.hr).st.le).mono st4.st.le).mono st5.st.le
            refine ⟨av, d5, by rw [← ra5.length]; omega, ?_⟩
            have st15 := st14.trans r1.slen st5
            exact go (rel_put r5 l5 (by show (av ++ [y']).length ≤ sizeLine; rw [List.length_append, List.length_singleton, ← ra5.length]; omega) (wr_lst d5)) (st15.put hD l5.m) l5 upd_same (ra5.append (.one (ry.rep (by simpa using oy)))) (by rw [List.length_append, List.length_singleton]; omega) q5
  · refine .inl ⟨wk.stop W' s' H r'.hr st'.st.le sl' own_st i (by omega), ?_⟩
    have hn : r.xs.drop i = [] := List.drop_eq_nil_of_le (by omega)
    rw [hn] at q'
    exact fin acc av W' s' H r' st' (q' W' H r' st') l' hDv ra
theorem lc_read {src : S → R S Sr} {t : Tg} {tt : S → R S Bool} {te : ME} {vs : List Nat} {Q : VK} (hK : X.K = B.K) (hv : ∀ i ∈ t.sl, i ∈ vs) (h : tN B N WX (eCompN src t tt te vs) σ H Q) :
    tLc (tI B N WX src) (gT X.K t) (tT B N WF tt) (tE B N WF te) vs σ H Q := by
  obtain ⟨W, s, r0, h⟩ := h
  refine ⟨W, s, r0, R.post_mono (R.post_bind h) (fun r s1 q W1 H1 r1 st1 still hline J wk D hD => ?_) fun x s1 q => q⟩
  have rw1 : Rel B N W1 ⟨wipeE s1.e vs, s1.h⟩ σ H1 := rel_back r1 rfl
  have q' : Post B N WF W1 ⟨wipeE s1.e vs, s1.h⟩ H1 σ (loopC r t tt te vs r.xs [] ⟨wipeE s1.e vs, s1.h⟩) fun xs W' s' H' => ∀ p us, H p = none → Loose N W' s' σ p → H' p = some (.lst us) → Reps B W' xs us → Q (.ref p) H' := by
    have nx := loopC_nx r t tt te vs r.xs [] ⟨wipeE s1.e vs, s1.h⟩
    refine R.post_of_nx nx (R.post_mono q (fun xs s2 q W2 H2 r2 st2 => q W2 H2 r2 ((stepE_wipe st1).trans r0.slen st2)) fun x s2 q => trivial)
  exact comp_core hK hv rw1 wk rfl still hD hline q' fun xs av W' s' H' r' st' k l hH rv => k D av (st1.st.tr _ hD) l hH rv
theorem sim_lc {elt tg iter : Expr} {ifs : List Expr} {scope : Scope} {own : List (Str × Nat)} {pos : Pos} {src : S → R S Sr} {t : Tg} {tt : S → R S Bool} {te : ME} (hK : X.K = B.K) (hc : X.calm = true) (hN : X.N.Nodup) (hi : SimI X B N WX tg iter src) (ok : BlkOk X.N X.env.scope scope own)
    (hv : ∀ i ∈ t.sl, i ∈ own.map (·.2))
    (hg : ∀ (s : Shared) (H : Hp) (C : Addr) (cl : List (Str × Addr)) (fp : List Addr), PG (X.blk s H scope (compEnvC scope cl C X.env) fp) tg (gT X.K t)) (ht : ∀ (s : Shared) (H : Hp) (C : Addr) (cl : List (Str × Addr)) (fp : List Addr), SimTs (X.blk s H scope (compEnvC scope cl C X.env) fp) B N WF ifs tt)
    (he : ∀ (s : Shared) (H : Hp) (C : Addr) (cl : List (Str × Addr)) (fp : List Addr), SimE (X.blk s H scope (compEnvC scope cl C X.env) fp) B N WF elt te) (hs : ∀ x, foldedSetIterable iter X.env x = pure x) :
    SimN X B N WX (.ListComp elt [⟨tg, iter, ifs, 0⟩] scope pos) (eCompN src t tt te (own.map (·.2))) :=
  (pe_lc hc hN hi ok hg ht he hs).imp fun σ H Q h => lc_read hK hv h
theorem pgT_n {K : PySem.W.Frag} {e : Expr} {i : Nat} (h : PG X e (gName i)) : PG X e (gT K (.n i)) := by
  rw [gT]; exact h
theorem pgT_t {es : List Expr} {k : Nat} {ts : List Tg} {pos : Pos} (hc : X.calm = true) (h : PGs X es (gTs X.K ts)) (hn : (assignEach es X.env).length = ts.length) (hst : (assignEach es X.env).findIdx? (·.1) = none) : PG X (.Tuple es k pos) (gT X.K (.t ts)) := by
  rw [gT]; exact pg_tup hc h hn hst
theorem pgTs_nil {K : PySem.W.Frag} : PGs X [] (gTs K []) := by
  rw [gTs]; exact pgs_nil
theorem pgTs_cons {K : PySem.W.Frag} {e : Expr} {es : List Expr} {t : Tg} {ts : List Tg} (h1 : PG X e (gT K t)) (h2 : PGs X es (gTs K ts)) (hs : (assignEach (e :: es) X.env).map (·.2) = assign e X.env :: (assignEach es X.env).map (·.2)) : PGs X (e :: es) (gTs K (t :: ts)) := by
  rw [gTs]; exact pgs_cons h1 h2 hs
end
end Lp

set_option Elab.async false
set_option linter.all false
set_option maxRecDepth 100000
set_option maxHeartbeats 4000000
/-! Lp7: statements. -/
namespace Lp
open PySem PySem.Spec PyProof.Rows L2

inductive Fl where
  | nx | rt (v : PV) | bk | ct
abbrev MS := S → R S Fl
/-- what is wanted behind a statement -/
def PostS (B : Bs) (N : Ent) (WX : L2.WX) (D : Ends) (r : R S Fl) : Prop := r.post
  (fun f s' => match f with
    | .nx => ∀ W' σ' H', Rel B N W' s' σ' H' → D.nx σ' H'
    | .rt v => ∀ W' σ' H' v', Rel B N W' s' σ' H' → Rep B W' v v' → D.rt v' H'
    | .bk => ∀ W' σ' H', Rel B N W' s' σ' H' → D.bk σ' H'
    | .ct => ∀ W' σ' H', Rel B N W' s' σ' H' → D.ct σ' H')
  (fun x s' => ∀ W' σ' H' cls d, Rel B N W' s' σ' H' → ExcR B N.H W' H' x cls d → WX cls d σ' H')
def tS (B : Bs) (N : Ent) (WX : L2.WX) (m : MS) : TS := fun D σ H => ∃ W s, Rel B N W s σ H ∧ PostS B N WX D (m s)
abbrev SimS (X : Cx) (B : Bs) (N : Ent) (WX : L2.WX) (st : Stmt) (m : MS) : Prop := PS X st (tS B N WX m)
abbrev SimSs (X : Cx) (B : Bs) (N : Ent) (WX : L2.WX) (st : List Stmt) (m : MS) : Prop := PSs X st (tS B N WX m)
section
variable {X : Cx} {B : Bs} {N : Ent} {WX : L2.WX} {W W' : Wd} {s s' : S} {σ : L2.St} {H H' : Hp} {D : Ends} {α : Type}
/-- an expression first -/
theorem PostS.bindE {r : R S α} {f : α → S → R S Fl} (h : PostS B N WX D (r.bind f)) : Post B N WX W s H σ r fun v W' s' H' => PostS B N WX D (f v s') :=
  R.post_mono (R.post_bind h) (fun _ _ q W' H' _ _ => q) fun _ _ q W' H' cls d r' _ e _ => q W' σ H' cls d r' e
end
def sNil : MS := fun s => .ok .nx s
def sSeq (a b : MS) : MS := fun s => (a s).bind fun f s1 => match f with
  | .nx => b s1
  | f => .ok f s1
def sExpr (m : ME) : MS := fun s => (m s).bind fun _ s1 => .ok .nx s1
def sRet (m : ME) : MS := fun s => (m s).bind fun v s1 => if isOwn v = true then .bad else .ok (.rt v) s1
def sRetN : MS := fun s => .ok (.rt .non) s
def sIf (c : S → R S Bool) (a b : MS) : MS := fun s => (c s).bind fun k s1 => if k = true then a s1 else b s1
def sAsg (i : Nat) (m : ME) : MS := fun s => (m s).bind fun v s1 => if isOwn v = true then .bad else .ok .nx ⟨s1.e.set i (some v), s1.h⟩
def sAsgN (i : Nat) (m : S → R S (List PV)) : MS := fun s => (m s).bind fun xs s1 => .ok .nx ⟨s1.e.set i (some (.own xs)), s1.h⟩
def sAsgT (t : Tg) (m : ME) : MS := fun s => (m s).bind fun v s1 => match bindT t v s1.e with
  | some e1 => if isOwn v = true then .bad else .ok .nx ⟨e1, s1.h⟩
  | none => .bad
def sBk : MS := fun s => .ok .bk s
def sCt : MS := fun s => .ok .ct s
section
variable {X : Cx} {B : Bs} {N : Ent} {WX : L2.WX} {W W' : Wd} {s s' : S} {σ : L2.St} {H H' : Hp} {st : Stmt} {rest : List Stmt} {ma mb : MS} {e c : Expr} {m : ME} {mc : S → R S Bool} {pos : Pos}
theorem simss_nil : SimSs X B N WX [] sNil := pss_nil.imp fun D σ H ⟨W, s, r, h⟩ => h W σ H r
theorem simss_one (h : SimS X B N WX st ma) : SimSs X B N WX [st] ma := pss_one h
theorem simss_cons (h1 : SimS X B N WX st ma) (h2 : SimSs X B N WX rest mb) : SimSs X B N WX (st :: rest) (sSeq ma mb) :=
  (pss_cons h1 h2).imp fun D σ H ⟨W, s, r, h⟩ => ⟨W, s, r, R.post_mono (R.post_bind h) (fun f s1 q => by
    cases f with
    | nx => exact fun W' σ' H' r' => ⟨W', s1, r', q⟩
    | rt v => exact q
    | bk => exact q
    | ct => exact q) fun x s1 q => q⟩
theorem sims_pass : SimS X B N WX (.Pass pos) sNil := ps_pass.imp fun D σ H ⟨W, s, r, h⟩ => h W σ H r
theorem sims_break : SimS X B N WX (.Break pos) sBk := ps_break.imp fun D σ H ⟨W, s, r, h⟩ => h W σ H r
theorem sims_cont : SimS X B N WX (.Continue pos) sCt := ps_continue.imp fun D σ H ⟨W, s, r, h⟩ => h W σ H r
theorem sims_expr (he : SimE X B N WX e m) (hs : swapsWith e none pos.line X.env = pure false) : SimS X B N WX (.Expr e pos) (sExpr m) :=
  (ps_expr he hs).imp fun D σ H ⟨W, s, r, h⟩ => ⟨W, s, r, h.bindE.mono fun v W1 s1 H1 r1 _ q v' rv => q W1 σ H1 r1⟩
theorem sims_ret (he : SimE X B N WX e m) : SimS X B N WX (.Return (some e) pos) (sRet m) :=
  (ps_ret he).imp fun D σ H ⟨W, s, r, h⟩ => ⟨W, s, r, h.bindE.mono fun v W1 s1 H1 r1 _ q v' rv => by
    split at q
    · exact q.elim
    · rename_i o
      exact q W1 σ H1 v' r1 (rv.rep (by simpa using o))⟩
theorem sims_retN : SimS X B N WX (.Return none pos) sRetN := ps_retN.imp fun D σ H ⟨W, s, r, h⟩ => h W σ H .non r .non
theorem sims_if {a b : List Stmt} (hc : SimT X B N WX c mc) (ha : SimSs X B N WX a ma) (hb : SimSs X B N WX b mb) : SimS X B N WX (.If c a b pos) (sIf mc ma mb) :=
  (ps_if hc ha hb).imp fun D σ H ⟨W, s, r, h⟩ => ⟨W, s, r, h.bindE.mono fun k W1 s1 H1 r1 _ q => by
    cases k with
    | true => exact iteT ⟨W1, s1, r1, q⟩
    | false => exact iteF ⟨W1, s1, r1, q⟩⟩
theorem asg_fin {i : Nat} {D : Ends} {v : PV} {v' : V} {W1 : Wd} {s1 : S} {H1 : Hp} (r1 : Rel B N W1 s1 σ H1) (rv : RepT B W1 H1 v v') (q : PostS B N WX D (if isOwn v = true then R.bad else R.ok Fl.nx ⟨s1.e.set i (some v), s1.h⟩)) : D.nx (σ.set i (some v')) H1 := by
  split at q
  · exact q.elim
  · rename_i o
    exact q W1 _ H1 (rel_set r1 (rv.rep (by simpa using o)))
theorem sims_asg {i : Nat} {x : Str} {pos' : Pos} (hN : X.N.Nodup) (hi : X.N[i]? = some x) (hx : Loc X.env.scope x) (he : SimE X B N WX e m) (hs : swapsWith e (some (.Name x pos')) pos.line X.env = pure false) (hf : X.fn x = true ∨ X.env.scope.names.lookup x = some .local) :
    SimS X B N WX (.Assign [.Name x pos'] e pos) (sAsg i m) :=
  (ps_set hN hi hx he hs hf).imp fun D σ H ⟨W, s, r, h⟩ => ⟨W, s, r, h.bindE.mono fun v W1 s1 H1 r1 _ q v' rv => asg_fin r1 rv q⟩
/-- a slot takes a list of its own -/
theorem rel_own {i : Nat} {p : Addr} {xs : List PV} {vs : List V} {σ' : L2.St} (r : Rel B N W s σ H) (hl : σ'.length = σ.length) (hj : ∀ j, j ≠ i → σ'[j]? = σ[j]?) (hi : σ'[i]? = some (some (.ref p)) ∨ s.e.length ≤ i)
    (l : W.F p = none ∧ p ∉ W.m ∧ (∀ (j : Nat) (x : PV), j ≠ i → s.e[j]? = some (some x) → isOwn x = true → σ[j]? ≠ some (some (.ref p))) ∧ N.H p = none) (hp : H p = some (.lst vs)) (rv : Reps B W xs vs) : Rel B N W ⟨s.e.set i (some (.own xs)), s.h⟩ σ' H := by
  obtain ⟨l1, l2, l3, l4⟩ := l
  have at_ : ∀ (j : Nat) (y : PV), (s.e.set i (some (.own xs)))[j]? = some (some y) → (j = i ∧ y = .own xs ∧ i < s.e.length) ∨ (j ≠ i ∧ s.e[j]? = some (some y)) := fun j y e => by
    by_cases hji : i = j
    · subst hji
      by_cases hb : i < s.e.length
      · rw [List.getElem?_set_self hb] at e
        cases e
        exact .inl ⟨rfl, rfl, hb⟩
      · rw [List.getElem?_eq_none (by rw [List.length_set]; omega)] at e
        cases e
    · rw [List.getElem?_set_ne hji] at e
      exact .inr ⟨fun z => hji z.symm, e⟩
  refine ⟨r.hr, r.st, by rw [hl, r.len]; simp, fun j y e => ?_, fun j k y z a hjk e1 e2 o1 o2 s1 s2 => ?_, r.pin⟩
  · rcases at_ j y e with ⟨rfl, rfl, hb⟩ | ⟨ne, e⟩
    · rcases hi with hi | hi
      · exact ⟨_, hi, p, vs, rfl, hp, rv, l1, l2, l4⟩
      · omega
    · rw [hj j ne]
      exact r.env j y e
  · rcases at_ j y e1 with ⟨rfl, rfl, hb⟩ | ⟨ne, f1⟩
    · rcases at_ k z e2 with ⟨rfl, _, _⟩ | ⟨ne2, f2⟩
      · exact hjk rfl
      · rcases hi with hi | hi
        · rw [hi] at s1
          cases s1
          rw [hj k ne2] at s2
          exact l3 k z ne2 f2 o2 s2
        · omega
    · rcases at_ k z e2 with ⟨rfl, rfl, hb⟩ | ⟨ne2, f2⟩
      · rcases hi with hi | hi
        · rw [hi] at s2
          cases s2
          rw [hj j ne] at s1
          exact l3 j y ne f1 o1 s1
        · omega
      · rw [hj j ne] at s1
        rw [hj k ne2] at s2
        exact r.dis j k y z a hjk f1 f2 o1 o2 s1 s2
theorem asgN_read {i : Nat} {mn : S → R S (List PV)} {D : Ends} (h : tS B N WX (sAsgN i mn) D σ H) : tN B N WX mn σ H fun x H1 => D.nx (σ.set i (some x)) H1 := by
  obtain ⟨W, s, r, h⟩ := h
  refine ⟨W, s, r, h.bindE.mono fun xs W1 s1 H1 r1 _ q p vs hp l hH rv => q W1 _ H1 (rel_own r1 (by simp) (fun j hj => by rw [List.getElem?_set_ne (Ne.symm hj)]) ?_ ⟨l.F, l.m, fun j x _ e o => l.o j x e o, l.e⟩ hH rv)⟩
  by_cases hb : i < s1.e.length
  · exact .inl (List.getElem?_set_self (by rw [r1.len]; exact hb))
  · exact .inr (by omega)
theorem sims_asgN {i : Nat} {x : Str} {pos' : Pos} {mn : S → R S (List PV)} (hN : X.N.Nodup) (hi : X.N[i]? = some x) (hx : Loc X.env.scope x) (he : SimN X B N WX e mn) (hs : swapsWith e (some (.Name x pos')) pos.line X.env = pure false) (hf : X.fn x = true ∨ X.env.scope.names.lookup x = some .local) :
    SimS X B N WX (.Assign [.Name x pos'] e pos) (sAsgN i mn) :=
  (ps_set hN hi hx he hs hf).imp fun D σ H h => asgN_read h
/-- y = [.. for ..] -/
theorem sims_asgLcN {i : Nat} {y : Str} {py : Pos} {elt tg iter : Expr} {ifs : List Expr} {scope : Scope} {own : List (Str × Nat)} {spos : Pos} {src : S → R S Sr} {t : Tg} {tt : S → R S Bool} {te : ME} (hK : X.K = B.K) (hc : X.calm = true) (hN : X.N.Nodup) (hy : X.N[i]? = some y) (hyl : X.env.scope.names.lookup y = some .local)
    (hsw : swapsWith (.ListComp elt [⟨tg, iter, ifs, 0⟩] scope pos) (some (.Name y py)) spos.line X.env = pure true) (hi : SimI X B N WX tg iter src) (ok : BlkOk X.N X.env.scope scope own) (hv : ∀ i ∈ t.sl, i ∈ own.map (·.2))
    (hg : ∀ (s : Shared) (H : Hp) (C : Addr) (cl : List (Str × Addr)) (fp : List Addr), PG (X.blk s H scope (compEnvC scope cl C X.env) fp) tg (gT X.K t)) (ht : ∀ (s : Shared) (H : Hp) (C : Addr) (cl : List (Str × Addr)) (fp : List Addr), SimTs (X.blk s H scope (compEnvC scope cl C X.env) fp) B N WF ifs tt)
    (he : ∀ (s : Shared) (H : Hp) (C : Addr) (cl : List (Str × Addr)) (fp : List Addr), SimE (X.blk s H scope (compEnvC scope cl C X.env) fp) B N WF elt te) (hs : ∀ x, foldedSetIterable iter X.env x = pure x) :
    SimS X B N WX (.Assign [.Name y py] (.ListComp elt [⟨tg, iter, ifs, 0⟩] scope pos) spos) (sAsgN i (eCompN src t tt te (own.map (·.2)))) :=
  (ps_setLc hc hN hy hyl hsw hi ok hg ht he hs).imp fun D σ H h => lc_read hK hv (asgN_read h)
theorem asg_sh {i : Nat} {mn : S → R S (List PV)} {D : Ends} (h : tS B N WX (sAsg i (shN mn)) D σ H) : tE B N WX (shN mn) σ H fun x H1 => D.nx (σ.set i (some x)) H1 := by
  obtain ⟨W, s, r, h⟩ := h
  exact ⟨W, s, r, h.bindE.mono fun v W1 s1 H1 r1 _ q v' rv => asg_fin r1 rv q⟩
theorem sims_asgLc {i : Nat} {y : Str} {py : Pos} {elt tg iter : Expr} {ifs : List Expr} {scope : Scope} {own : List (Str × Nat)} {spos : Pos} {src : S → R S Sr} {t : Tg} {tt : S → R S Bool} {te : ME} (hK : X.K = B.K) (hc : X.calm = true) (hN : X.N.Nodup) (hy : X.N[i]? = some y) (hyl : X.env.scope.names.lookup y = some .local)
    (hsw : swapsWith (.ListComp elt [⟨tg, iter, ifs, 0⟩] scope pos) (some (.Name y py)) spos.line X.env = pure true) (hi : SimI X B N WX tg iter src) (ok : BlkOk X.N X.env.scope scope own) (hv : ∀ i ∈ t.sl, i ∈ own.map (·.2))
    (hg : ∀ (s : Shared) (H : Hp) (C : Addr) (cl : List (Str × Addr)) (fp : List Addr), PG (X.blk s H scope (compEnvC scope cl C X.env) fp) tg (gT X.K t)) (ht : ∀ (s : Shared) (H : Hp) (C : Addr) (cl : List (Str × Addr)) (fp : List Addr), SimTs (X.blk s H scope (compEnvC scope cl C X.env) fp) B N WF ifs tt)
    (he : ∀ (s : Shared) (H : Hp) (C : Addr) (cl : List (Str × Addr)) (fp : List Addr), SimE (X.blk s H scope (compEnvC scope cl C X.env) fp) B N WF elt te) (hs : ∀ x, foldedSetIterable iter X.env x = pure x) :
    SimS X B N WX (.Assign [.Name y py] (.ListComp elt [⟨tg, iter, ifs, 0⟩] scope pos) spos) (sAsg i (shN (eCompN src t tt te (own.map (·.2))))) :=
  (ps_setLc hc hN hy hyl hsw hi ok hg ht he hs).imp fun D σ H h => lc_read hK hv (tE_sh (asg_sh h))
/-- a, b = e; targets of names -/
theorem sims_asgT {tg : Expr} {t : Tg} (hK : X.K = B.K) (he : SimE X B N WX e m) (hg : PG X tg (gT X.K t)) (hs : swapsWithSole [tg] e pos.line X.env = pure false) (hw : swappedStores [tg] e X.env = pure none) (h1 : (assignEach [tg] X.env).map (·.2) = [assign tg X.env]) :
    SimS X B N WX (.Assign [tg] e pos) (sAsgT t m) :=
  (ps_asg he hg hs hw h1).imp fun D σ H ⟨W, s, r, h⟩ => ⟨W, s, r, h.bindE.mono fun v W1 s1 H1 r1 _ q v' rv => by
    split at q
    · rename_i e1 eb
      split at q
      · exact q.elim
      · rename_i o
        exact gT_ok hK (vs := t.sl) (fun i hi => hi) r1 (rv.rep (by simpa using o)) eb fun σ' r' _ => q W1 σ' H1 r'
    · exact q.elim⟩
/-- a, b = e1, e2 -/
def sPar (i j : Nat) (ma : MA) : MS := fun s => (ma s).bind fun vs s1 => match vs with
  | [v, w] => if isOwn v = true ∨ isOwn w = true then .bad else .ok .nx ⟨(s1.e.set i (some v)).set j (some w), s1.h⟩
  | _ => .bad
theorem sims_par {i j : Nat} {x y : Str} {a b : Expr} {mz : MA} {px py pt : Pos} {kt k2 pt2} (hc : X.calm = true) (hN : X.N.Nodup) (hi : X.N[i]? = some x) (hj : X.N[j]? = some y) (hij : i ≠ j)
    (hx : X.env.scope.names.lookup x = some .local) (hy : X.env.scope.names.lookup y = some .local) (ha : SimA X B N WX [a, b] mz)
    (hw : swappedStores [.Tuple [.Name x px, .Name y py] kt pt] (.Tuple [a, b] k2 pt2) X.env = pure (some [x, y]))
    (hs : swapsWithSole [.Tuple [.Name x px, .Name y py] kt pt] (.Tuple [a, b] k2 pt2) pos.line X.env = pure false) :
    SimS X B N WX (.Assign [.Tuple [.Name x px, .Name y py] kt pt] (.Tuple [a, b] k2 pt2) pos) (sPar i j mz) :=
  (ps_par hc hN hi hj hij hx hy ha hw hs).imp fun D σ H ⟨W, s, r, h⟩ => ⟨W, s, r, h.bindE.mono fun vs W1 s1 H1 r1 _ q vs' rv => by
    split at q
    · rename_i v w
      obtain ⟨v', w', rfl, rv1, rv2⟩ := repts2 rv
      split at q
      · exact q.elim
      · rename_i o
        simp only [not_or] at o
        refine ⟨v', w', rfl, q W1 _ H1 (rel_set (rel_set r1 (rv1.rep (by simpa using o.1))) (rv2.rep (by simpa using o.2)))⟩
    · exact q.elim⟩
/-- the slot's list is given out for good -/
def eFrz (i : Nat) : ME := fun s => match s.e[i]? with
  | some (some (.own xs)) => .ok (.lst xs) ⟨s.e.set i (some (.lst xs)), s.h⟩
  | some (some v) => .ok v s
  | _ => .bad
theorem rel_frz {i : Nat} {xs : List PV} (r : Rel B N W s σ H) (e : s.e[i]? = some (some (.own xs))) : ∃ p vs, σ[i]? = some (some (.ref p)) ∧ H p = some (.lst vs) ∧ Reps B W xs vs ∧ W.F p = none ∧ p ∉ W.m ∧ N.H p = none ∧
    Rel B N ⟨upd W.F p (.lst vs), W.m⟩ ⟨s.e.set i (some (.lst xs)), s.h⟩ σ H := by
  obtain ⟨v, e1, p, vs, rfl, hH, rv, hF, hm, h0⟩ := r.env i _ e
  have hi : i < s.e.length := (List.getElem?_eq_some_iff.mp e).1
  refine ⟨p, vs, e1, hH, rv, hF, hm, h0, ?_⟩
  -- first the slot is cleared
  have rc : Rel B N W ⟨s.e.set i none, s.h⟩ σ H := by
    refine ⟨r.hr, r.st, by rw [r.len]; simp, fun j y ej => ?_, fun j k y z a hjk f1 f2 o1 o2 s1 s2 => ?_, r.pin⟩
    · by_cases hj : i = j
      · subst hj
        rw [List.getElem?_set_self hi] at ej
        cases ej
      · rw [List.getElem?_set_ne hj] at ej
        exact r.env j y ej
    · have g : ∀ (j : Nat) (y : PV), (s.e.set i none)[j]? = some (some y) → s.e[j]? = some (some y) := fun j y f => by
        by_cases hj : i = j
        · subst hj
          rw [List.getElem?_set_self hi] at f
          cases f
        · rw [List.getElem?_set_ne hj] at f
          exact f
      exact r.dis j k y z a hjk (g j y f1) (g k z f2) o1 o2 s1 s2
  have lc : Loose N W ⟨s.e.set i none, s.h⟩ σ p := ⟨hF, hm, fun j y f o z => by
    by_cases hj : i = j
    · subst hj
      have f : (s.e.set i none)[i]? = some (some y) := f
      rw [List.getElem?_set_self hi] at f
      cases f
    · have f : (s.e.set i none)[j]? = some (some y) := f
      rw [List.getElem?_set_ne hj] at f
      exact r.dis i j _ y p hj e f rfl o e1 z, h0⟩
  have rk := rel_keep rc lc hH nt_lst
  have rs := rel_set (i := i) rk (Rep.lst (xs := xs) (vs := vs) upd_same (rv.mono (le_new hF)))
  have es : σ.set i (some (.ref p)) = σ := by
    apply List.ext_getElem?
    intro j
    by_cases hj : i = j
    · subst hj
      rw [List.getElem?_set_self (by rw [r.len]; exact hi), e1]
    · rw [List.getElem?_set_ne hj]
  rw [es] at rs
  simpa using rs
end
end Lp

set_option Elab.async false
set_option linter.all false
set_option maxRecDepth 100000
set_option maxHeartbeats 4000000
/-! Lp8: defs, calls, walks as statements, cells. -/
namespace Lp
open PySem PySem.Spec PyProof.Rows L2

section
variable {B : Bs} {N : Ent} {W W' : Wd} {s s' : S} {σ : L2.St} {H H' : Hp} {h' : AH}
theorem rel_step (r : Rel B N W s σ H) (hr' : HRel B W' h' H') (st : Step W s.h H W' h' H') : Rel B N W' ⟨s.e, h'⟩ σ H' := by
  refine ⟨hr', r.st.trans N.len st, r.len, fun i x e => ?_, r.dis, r.pin.trans st.le⟩
  obtain ⟨v, e1, sl⟩ := r.env i x e
  refine ⟨v, e1, ?_⟩
  cases x with
  | own xs =>
    obtain ⟨a, vs, rfl, hH, rv, hF, hm, h0⟩ := sl
    have nl : ¬ Live W s.h a := fun l => hm l.mem
    have ne : H a ≠ none := by rw [hH]; exact fun z => nomatch z
    exact ⟨a, vs, rfl, st.keep _ _ hH nt_lst nl, rv.mono st.le, st.fgrow a hF ne nl, st.notm r.slen hm ne, h0⟩
  | don ks => exact sl
  | _ => exact Rep.mono st.le sl
theorem stepE_of {s : S} (st : Step W s.h H W' h' H') : StepE W s H W' ⟨s.e, h'⟩ H' := ⟨st, fun _ _ e _ => e⟩
end

/-! ### defs -/
abbrev MF := List PV → AH → R AH PV
def spF (B : Bs) (n : Nat) (m : MF) : Sp := fun vs H Q E => ∃ W h xs, HRel B W h H ∧ Reps B W xs vs ∧ xs.length = n ∧ (m xs h).post
  (fun v h' => ∀ W' H' v', HRel B W' h' H' → Step W h H W' h' H' → Rep B W' v v' → Q v' H')
  (fun x h' => ∀ W' H' cls d, HRel B W' h' H' → Step W h H W' h' H' → ExcR B H W' H' x cls d → E cls d H')
/-- a def's reading from its body's: k names behind the parameters -/
def mkF (k : Nat) (mb : MS) : MF := fun xs h => match mb ⟨xs.map some ++ List.replicate k none, h⟩ with
  | .ok (.rt v) s => .ok v s.h
  | .ok .nx s => .ok .non s.h
  | .ok _ _ => .bad
  | .exc x s => .exc x s.h
  | .bad => .bad
theorem Rep.no {B : Bs} {W : Wd} {x : PV} {v : V} (r : Rep B W x v) : isOwn x = false := by cases r <;> rfl
theorem Reps.no {B : Bs} {W : Wd} : ∀ {xs : List PV} {vs : List V}, Reps B W xs vs → ∀ x ∈ xs, isOwn x = false
  | _, _, .nil, _, h => by cases h
  | _, _, .cons r t, x, h => by
    rcases List.mem_cons.mp h with rfl | h
    · exact r.no
    · exact Reps.no t x h
theorem rel_start {B : Bs} {W : Wd} {h : AH} {H : Hp} {xs : List PV} {vs : List V} {k : Nat} (hr : HRel B W h H) (r : Reps B W xs vs) :
    Rel B ⟨W, h, H, hr.len, W⟩ W ⟨xs.map some ++ List.replicate k none, h⟩ (vs.map some ++ List.replicate k none) H := by
  have at_ : ∀ (i : Nat) (x : PV), (xs.map some ++ List.replicate k none)[i]? = some (some x) → xs[i]? = some x := fun i x e => by
    by_cases hi : i < (xs.map some).length
    · rw [List.getElem?_append_left hi, List.getElem?_map] at e
      cases q : xs[i]? with
      | none => rw [q] at e; cases e
      | some y => rw [q] at e; cases e; rfl
    · rw [List.getElem?_append_right (by omega)] at e
      rw [List.getElem?_replicate] at e
      split at e <;> cases e
  refine ⟨hr, Step.refl hr, by simp [r.length], fun i x e => ?_, fun i j x y a hij e1 e2 o1 o2 s1 s2 => ?_, .refl W⟩
  · obtain ⟨v, ev, rv⟩ := r.get (at_ i x e)
    refine ⟨v, ?_, rv.slot⟩
    rw [List.getElem?_append_left (by rw [List.length_map]; exact (List.getElem?_eq_some_iff.mp ev).1), List.getElem?_map, ev]
    rfl
  · rw [r.no x (List.mem_of_getElem? (at_ i x e1))] at o1
    cases o1
/-- what a body's proof may lean on -/
structure Bdy (X : Cx) (E : XK) (k : Nat) : Prop where
  tk : Takes X fun c d _ H => E c d H
  pa : PassesOwn (model X.prog X.w) X.A X.env X.xe
  rm : Room k X.A
theorem fn_ok {P : Program} {w : World} {K : PySem.W.Frag} {mg : Str → Option Value} {base : Heap} {x qual : Str} {params : Arguments} {body : List Stmt} {scope : Scope} {dvs : List V} {kws : List (Str × V)} {f : Addr} {fd : FuncData} {names ps : List Str} {k n kk : Nat} {B : Bs} {mb : MS}
    (F : FunD K x qual params body scope dvs kws f fd) (S : FnScope names ps scope) (hn : ps.length = n) (hk : names.length - n = kk)
    (hb : ∀ (cdv : Value) (A : Around) (outer : List Env) (s : Shared) (H : Hp) (E : XK) (N : Ent), Bdy (cxOf (L2.CX P w) P w K mg base names qual scope f cdv A outer s H E) E k →
      SimSs (cxOf (L2.CX P w) P w K mg base names qual scope f cdv A outer s H E) B N (fun c d _ H => E c d H) body mb) : FnOk P w K mg base (L2.CX P w) (k + 1) f fd ps (spF B n (mkF kk mb)) := by
  refine F.ok S (fun vs H Q E ⟨W, h, xs, hr, r, e, _⟩ => by rw [hn, ← e, r.length]) fun cdv A outer s H vs Q E hr ⟨W, h, xs, hrel, r, e, q⟩ => ?_
  have bd : Bdy (cxOf (L2.CX P w) P w K mg base names qual scope f cdv A outer s H E) E k := ⟨takes_of rfl rfl rfl rfl, passes_of rfl, hr⟩
  refine ⟨_, hb cdv A outer s H E ⟨W, h, H, hrel.len, W⟩ bd, W, ⟨xs.map some ++ List.replicate kk none, h⟩, ?_, ?_⟩
  · have := rel_start (k := kk) hrel r
    unfold L2.start
    rw [show names.length - vs.length = kk by rw [← r.length, e, hk]]
    exact this
  · unfold PostS
    unfold mkF at q
    split at q
    · rename_i v s1 e1
      rw [e1]
      exact fun W' σ' H' v' r' rv => q W' H' v' r'.hr r'.st rv
    · rename_i s1 e1
      rw [e1]
      exact fun W' σ' H' r' => q W' H' .non r'.hr r'.st .non
    · exact q.elim
    · rename_i x1 s1 e1
      rw [e1]
      exact fun W' σ' H' cls d r' ex => q W' H' cls d r'.hr r'.st ex
    · exact q.elim

/-! ### calls -/
def lift (r : R AH PV) (e : List (Option PV)) : R S PV := match r with
  | .ok v h => .ok v ⟨e, h⟩
  | .exc x h => .exc x ⟨e, h⟩
  | .bad => .bad
def callH (n : Nat) (m : MF) (vs : List PV) : ME := fun s => if vs.length = n ∧ allSh vs = true then lift (m vs s.h) s.e else .bad
def eCall (n : Nat) (m : MF) (ma : MA) : ME := fun s => (ma s).bind fun vs s1 => callH n m vs s1
def pick {α : Type} (ix : List Nat) (l : List α) : List α := ix.filterMap (l[·]?)
/-- a def of the text by its name: its reading -/
structure Fn (P : Program) (w : World) (K : PySem.W.Frag) (mg : Str → Option Value) (base : Heap) (B : Bs) (k : Nat) (x : Str) (n : Nat) (m : MF) : Prop where
  ex : ∃ f fd ps, FnOk P w K mg base (L2.CX P w) k f fd ps (spF B n m) ∧ mg x = some (.ref f) ∧ PySem.W.keepIn K (.ref f) = true ∧ Binds K fd ps []
/-- .. called with keywords: n0 values by place, then those of ks, picked into the parameters' order -/
structure FnK (P : Program) (w : World) (K : PySem.W.Frag) (mg : Str → Option Value) (base : Heap) (B : Bs) (k : Nat) (x : Str) (n0 : Nat) (ks : List Str) (ix : List Nat) (n : Nat) (m : MF) : Prop where
  ex : ∃ f fd ps, FnOk P w K mg base (L2.CX P w) k f fd ps (spF B n m) ∧ mg x = some (.ref f) ∧ PySem.W.keepIn K (.ref f) = true ∧ KBn K fd ps n0 ks (fun us ws => pick ix (us ++ ws)) fun vs zs => pick ix (vs ++ zs)
section
variable {P : Program} {w : World} {K : PySem.W.Frag} {mg : Str → Option Value} {base : Heap} {B : Bs} {j k n n0 : Nat} {x : Str} {m : MF} {ks : List Str} {ix : List Nat}
theorem Fn.mono (F : Fn P w K mg base B j x n m) (h : j ≤ k) : Fn P w K mg base B k x n m :=
  let ⟨f, fd, ps, a, b⟩ := F.ex
  ⟨f, fd, ps, a.mono h, b⟩
theorem FnK.mono (F : FnK P w K mg base B j x n0 ks ix n m) (h : j ≤ k) : FnK P w K mg base B k x n0 ks ix n m :=
  let ⟨f, fd, ps, a, b⟩ := F.ex
  ⟨f, fd, ps, a.mono h, b⟩
theorem vals_get : ∀ {vs : List V} {us : List Value} {i : Nat}, Vals vs us → (∃ v u, vs[i]? = some v ∧ us[i]? = some u ∧ RelV v u) ∨ (vs[i]? = none ∧ us[i]? = none)
  | _, _, _, .nil => .inr ⟨rfl, rfl⟩
  | _, _, 0, .cons r _ => .inl ⟨_, _, rfl, rfl, r⟩
  | _, _, i + 1, .cons _ t => by simpa using vals_get (i := i) t
theorem vals_pick {vs : List V} {us : List Value} (r : Vals vs us) : ∀ ix : List Nat, Vals (pick ix vs) (pick ix us)
  | [] => .nil
  | i :: ix => by
    unfold pick
    rcases vals_get (i := i) r with ⟨v, u, e1, e2, q⟩ | ⟨e1, e2⟩
    · rw [List.filterMap_cons_some e1, List.filterMap_cons_some e2]
      exact .cons q (vals_pick r ix)
    · rw [List.filterMap_cons_none e1, List.filterMap_cons_none e2]
      exact vals_pick r ix
theorem reps_pick {W : Wd} {xs : List PV} {vs : List V} (r : Reps B W xs vs) : ∀ ix : List Nat, Reps B W (pick ix xs) (pick ix vs)
  | [] => .nil
  | i :: ix => by
    unfold pick
    cases e1 : xs[i]? with
    | some x =>
      obtain ⟨v, e2, q⟩ := r.get e1
      rw [List.filterMap_cons_some e1, List.filterMap_cons_some e2]
      exact .cons q (reps_pick r ix)
    | none =>
      have e2 : vs[i]? = none := by
        rw [List.getElem?_eq_none_iff] at e1 ⊢
        rw [← r.length]; exact e1
      rw [List.filterMap_cons_none e1, List.filterMap_cons_none e2]
      exact reps_pick r ix
/-- keywords of a def without defaults -/
theorem kbn_of {qual : Str} {params : Arguments} {body : List Stmt} {scope : Scope} {kws : List (Str × V)} {f : Addr} {fd : FuncData} {ps : List Str} (F : FunD K x qual params body scope [] kws f fd)
    (h : ∀ (kV doc pm : Value) (an : Option Addr) (cdv ct : Value) (us ws : List Value), us.length = n0 → ws.length = ks.length → bindArgs (PySem.W.fnOf x qual params body scope .none kV doc pm an cdv ct) ⟨us, ks.zip ws⟩ = pure (ps.zip (pick ix (us ++ ws)))) :
    KBn K fd ps n0 ks (fun us ws => pick ix (us ++ ws)) fun vs zs => pick ix (vs ++ zs) := by
  obtain ⟨oc, od, dV, kV, doc, pm, an, cdv, ct, osl, rfl, lk, hcd, hD, hK⟩ := F.ex
  rcases hD with ⟨_, rfl⟩ | ⟨e, _⟩
  · exact ⟨fun s us ws _ l1 l2 => .of_eq (h kV doc pm an cdv ct us ws l1 l2), fun r1 r2 => vals_pick (r1.append r2) ix⟩
  · exact absurd rfl e
end
section
variable {X : Cx} {B : Bs} {N : Ent} {WX : L2.WX} {W W' : Wd} {s s' : S} {σ : L2.St} {H H' : Hp} {e : Expr} {es : List Expr} {ma mk : MA} {me : ME} {p pos kpos : Pos} {x : Str} {k n n0 : Nat} {m : MF} {kws : List Keyword} {nm : Option Str} {ks : List Str} {ix : List Nat} {E : XK}
theorem call_fin {vs : List PV} {vs' : List V} {Q : VK} (r : Rel B N W s σ H) (rv : Reps B W vs vs') (q : Post B N WX W s H σ (callH n m vs s) fun u W' _ H' => ∀ u', RepT B W' H' u u' → Q u' H') :
    spF B n m vs' H Q fun c d H => WX c d σ H := by
  unfold callH at q
  split at q
  · rename_i hc
    refine ⟨W, s.h, vs, r.hr, rv, hc.1, ?_⟩
    unfold lift at q
    split at q
    · rename_i v h e
      rw [e]
      exact fun W' H' v' hr' st ru => q W' H' (rel_step r hr' st) (stepE_of st) v' ru.hand
    · rename_i y h e
      rw [e]
      exact fun W' H' cls d hr' st ex => q W' H' cls d (rel_step r hr' st) (stepE_of st) (ex.old r.st.tr) ex.nw
    · exact q.elim
  · exact q.elim
theorem callH_sh {vs : List PV} {P : PV → Wd → S → Hp → Prop} (q : Post B N WX W s H σ (callH n m vs s) P) : allSh vs = true := by
  unfold callH at q
  split at q
  · rename_i hc; exact hc.2
  · exact q.elim
theorem sim_call (F : Fn X.prog X.w X.K X.mg X.base B k x n m) (tk : Takes X WX) (hr : Room k X.A) (hg : Gl X x) (ha : SimA X B N WX (e :: es) ma) (hdb : (x == ("__debug__" : Str)) = false)
    (he : starEach (e :: es) X.env = (false, eval e X.env) :: starEach es X.env) (hpl : (backTo pos (starEach es X.env)).any (·.1) = false) : SimE X B N WX (.Call (.Name x p) (e :: es) [] pos) (eCall n m ma) := by
  obtain ⟨f, fd, ps, F1, hm, hk, hb⟩ := F.ex
  exact (pe_callS (E := WE WX) F1 hr hg hm hk hb (fun σ => passAt tk σ) ha hdb he hpl).imp fun σ H Q ⟨W, s, r, h⟩ => ⟨W, s, r, (h.bind r.slen).mono fun vs W1 s1 H1 r1 _ q vs' rv => call_fin r1 (rv.reps (callH_sh q)) q⟩
/-- f() -/
theorem sim_call0 (F : Fn X.prog X.w X.K X.mg X.base B k x n m) (tk : Takes X fun c d _ H => E c d H) (hr : Room k X.A) (hg : Gl X x) (hdb : (x == ("__debug__" : Str)) = false) : SimE X B N (fun c d _ H => E c d H) (.Call (.Name x p) [] [] pos) (callH n m []) := by
  obtain ⟨f, fd, ps, F1, hm, hk, hb⟩ := F.ex
  exact (pe_call0 (E := E) F1 hr hg hm hk hb .nil (passes_call tk fun _ _ _ _ h => h) hdb).imp fun σ H Q ⟨W, s, r, h⟩ => call_fin (vs := []) r .nil h
/-- keywords' values -/
abbrev SimK (X : Cx) (B : Bs) (N : Ent) (WX : L2.WX) (kws : List Keyword) (m : MA) : Prop := PK X kws (tA B N WX m)
theorem _root_.L2.PK.imp {X : Cx} {e : List Keyword} {t t' : TA} (h : PK X e t) (w : ∀ σ H Q, t' σ H Q → t σ H Q) : PK X e t' := ⟨fun p pins s σ H Q I q => h.run p pins s σ H Q I (w _ _ _ q)⟩
theorem simK_nil : SimK X B N WX [] aNil := pk_nil.imp fun σ H Q ⟨W, s, r, h⟩ => h.ok r [] trivial
theorem simK_cons (he : SimE X B N WX e me) (hr : SimK X B N WX kws mk) : SimK X B N WX (⟨nm, e, kpos⟩ :: kws) (aCons me mk) :=
  (pk_cons he hr).imp fun σ H Q ⟨W, s, r, h⟩ => ⟨W, s, r, (h.bind r.slen).mono fun v W1 s1 H1 r1 _ q v' rv => ⟨W1, s1, r1, (q.bind r1.slen).mono fun vs W2 s2 H2 r2 st2 q2 vs' rvs => q2.ok r2 (v' :: vs') ⟨rv.on r1.slen st2.st, rvs⟩⟩⟩
def eCallK (n0 nk : Nat) (ix : List Nat) (n : Nat) (m : MF) (ma mk : MA) : ME := fun s => (ma s).bind fun vs s1 => (mk s1).bind fun zs s2 => if (vs.length = n0 ∧ zs.length = nk) ∧ allSh vs = true ∧ allSh zs = true then callH n m (pick ix (vs ++ zs)) s2 else .bad
theorem callK_fin {nk : Nat} (hl : ks.length = nk) {σ : L2.St} {H : Hp} {Q : VK} (h : tE B N (fun c d _ H => E c d H) (eCallK n0 nk ix n m ma mk) σ H Q) : tCallN n0 ks.length (spF B n m) (fun vs zs => pick ix (vs ++ zs)) E (tA B N (fun c d _ H => E c d H) ma) (tA B N (fun c d _ H => E c d H) mk) σ H Q := by
  obtain ⟨W, s, r, h⟩ := h
  refine ⟨W, s, r, (h.bind r.slen).mono fun vs W1 s1 H1 r1 _ q vs' rv => ⟨W1, s1, r1, (q.bind r1.slen).mono fun zs W2 s2 H2 r2 st2 q2 zs' rz => ?_⟩⟩
  split at q2
  · rename_i hc
    have r1' := (rv.reps hc.2.1).mono st2.st.le
    have r2' := rz.reps hc.2.2
    exact ⟨by rw [← r1'.length]; exact hc.1.1, by rw [← r2'.length, hl]; exact hc.1.2, call_fin r2 (reps_pick (r1'.append r2') ix) q2⟩
  · exact q2.elim
theorem sim_callK {nk : Nat} (F : FnK X.prog X.w X.K X.mg X.base B k x n0 ks ix n m) (tk : Takes X fun c d _ H => E c d H) (hr : Room k X.A) (hg : Gl X x) (ha : SimA X B N (fun c d _ H => E c d H) (e :: es) ma) (hkw : SimK X B N (fun c d _ H => E c d H) kws mk)
    (hl : ks.length = nk) (hall : (backToKw pos (keywordEach kws X.env)).all (·.1.isSome) = true) (hks : (backToKw pos (keywordEach kws X.env)).filterMap (·.1) = ks) (hdb : (x == ("__debug__" : Str)) = false)
    (he : starEach (e :: es) X.env = (false, eval e X.env) :: starEach es X.env) (hpl : ((backTo pos (starEach (e :: es) X.env)).any (·.1) || (backToKw pos (keywordEach kws X.env)).any (·.1.isNone)) = false) :
    SimE X B N (fun c d _ H => E c d H) (.Call (.Name x p) (e :: es) kws pos) (eCallK n0 nk ix n m ma mk) := by
  obtain ⟨f, fd, ps, F1, hm, hk, hb⟩ := F.ex
  exact (pe_callN (E := E) F1 hr hg hm hk hb (passes_call tk fun _ _ _ _ h => h) ha hkw hall hks hdb he hpl).imp fun σ H Q h => callK_fin hl h
theorem sim_callK0 {nk : Nat} (F : FnK X.prog X.w X.K X.mg X.base B k x 0 ks ix n m) (tk : Takes X fun c d _ H => E c d H) (hr : Room k X.A) (hg : Gl X x) (hkw : SimK X B N (fun c d _ H => E c d H) kws mk)
    (hl : ks.length = nk) (hall : (backToKw pos (keywordEach kws X.env)).all (·.1.isSome) = true) (hks : (backToKw pos (keywordEach kws X.env)).filterMap (·.1) = ks) (hdb : (x == ("__debug__" : Str)) = false)
    (hpl : ((backTo pos (starEach [] X.env)).any (·.1) || (backToKw pos (keywordEach kws X.env)).any (·.1.isNone)) = false) :
    SimE X B N (fun c d _ H => E c d H) (.Call (.Name x p) [] kws pos) (eCallK 0 nk ix n m aNil mk) := by
  obtain ⟨f, fd, ps, F1, hm, hk, hb⟩ := F.ex
  refine ⟨fun pins s σ H Q I h => ?_⟩
  refine wpAny_Call_Name_kw (ld_glob I hg hm ?_ hdb)
  obtain ⟨W, s1, r, h⟩ := callK_fin hl h
  have h := h.ok r [] trivial
  refine PySem.W.callWith_KW0 (h₀ := X.base) I.ok.mod.kin hk hall ?_ hpl
  refine thn (hkw.run pos pins s σ H _ I h) fun ws s2 ⟨zs, H2, I2, rz, l1, l2, q2⟩ => ⟨I2.kIn, ?_⟩
  rw [hks]
  exact run_fnN (us := []) (vs := []) F1 hr hb (passes_call tk fun _ _ _ _ h => h) I2 .nil rz rfl l2 q2
end
end Lp

set_option Elab.async false
set_option linter.all false
set_option maxRecDepth 100000
set_option maxHeartbeats 4000000
/-! Lp9: walks as statements, cells, lists of a slot's own. -/
namespace Lp
open PySem PySem.Spec PyProof.Rows L2

/-! ### for -/
def Ent.at (N : Ent) (W : Wd) : Ent := ⟨N.W, N.h, N.H, N.len, W⟩
section
variable {B : Bs} {N : Ent} {W W' : Wd} {s s' : S} {σ : L2.St} {H H' : Hp}
theorem Rel.pinAt (r : Rel B N W s σ H) : Rel B (N.at W) W s σ H := ⟨r.hr, r.st, r.len, r.env, r.dis, .refl W⟩
theorem Rel.unpin (r : Rel B (N.at W) W' s σ H) (l : N.P.Le W) : Rel B N W' s σ H := ⟨r.hr, r.st, r.len, r.env, r.dis, l.trans r.pin⟩
end
open Classical in
noncomputable def loopF (r : Sr) (t : Tg) (body : MS) : List PV → MS
  | [], s => if stillS s.h r then .ok .nx s else .bad
  | x :: xs, s => if stillS s.h r then match bindT t x s.e with
      | some e1 => (body ⟨e1, s.h⟩).bind fun f s' => match f with
        | .nx => loopF r t body xs s'
        | .ct => loopF r t body xs s'
        | .bk => .ok .nx s'
        | .rt v => .ok (.rt v) s'
      | none => .bad
    else .bad
noncomputable def sFor (src : S → R S Sr) (t : Tg) (body : MS) : MS := fun s => (src s).bind fun r s1 => if r.o = true ∨ sizeLine < r.xs.length then .bad else loopF r t body r.xs s1
section
variable {X : Cx} {B : Bs} {N : Ent} {WX : L2.WX} {W W' : Wd} {s s' : S} {σ : L2.St} {H H' : Hp} {tg iter : Expr} {body : List Stmt} {mb : MS} {src : S → R S Sr} {t : Tg} {pos : Pos}
/-- statements whose entry is told later -/
theorem pss_any {st : List Stmt} (h : ∀ N, SimSs X B N WX st mb) : PSs X st (fun D σ H => ∃ N, tS B N WX mb D σ H) := ⟨fun pins s σ H D I ⟨N, q⟩ => (h N).run pins s σ H D I q⟩
theorem PostS.unpin {D : Ends} {r : R S Fl} (l : N.P.Le W) (q : PostS B N WX D r) : PostS B (N.at W) WX D r := R.post_mono q (fun f s' q => by
    cases f with
    | nx => exact fun W' σ' H' r' => q W' σ' H' (r'.unpin l)
    | rt v => exact fun W' σ' H' v' r' => q W' σ' H' v' (r'.unpin l)
    | bk => exact fun W' σ' H' r' => q W' σ' H' (r'.unpin l)
    | ct => exact fun W' σ' H' r' => q W' σ' H' (r'.unpin l)) fun x s' q W' σ' H' cls d r' => q W' σ' H' cls d (r'.unpin l)
theorem sims_for (hp : PassesOwn (model X.prog X.w) X.A X.env X.xe) (hK : X.K = B.K) (hc : X.calm = true) (hi : SimI X B N WX tg iter src) (hg : PG X tg (gT X.K t)) (hb : ∀ N, SimSs X B N WX body mb) (hs : ∀ x, foldedSetIterable iter X.env x = pure x) :
    SimS X B N WX (.For tg iter body [] pos) (sFor src t mb) :=
  (ps_for hp hc hi hg (pss_any hb) hs).imp fun D σ H ⟨W, s, r, h⟩ => by
    refine ⟨W, s, r, h.bindE.mono fun rr W1 s1 H1 r1 _ q st hz J wk => ?_⟩
    split at q
    · exact q.elim
    · rename_i ho
      simp only [not_or] at ho
      have no : rr.o = true → ∀ {P : Prop}, P := fun z => absurd z ho.1
      refine ⟨fun i m σ' H' => m = rr.xs.length - i ∧ i ≤ rr.xs.length ∧ ∃ W' s', Rel B (N.at W1) W' s' σ' H' ∧ PostS B (N.at W1) WX D (loopF rr t mb (rr.xs.drop i) s'), ⟨_, rfl, Nat.zero_le _, W1, s1, r1.pinAt, q.unpin r1.pin⟩, ?_⟩
      rintro i m σ' H' ⟨rfl, hi, W', s', r', q'⟩
      by_cases hl : i < rr.xs.length
      · right
        rw [List.drop_eq_getElem_cons hl] at q'
        unfold loopF at q'
        split at q'
        · rename_i st'
          obtain ⟨g1, g2⟩ := wk.go W' s' H' r'.hr r'.pin st' (fun z => no z) i rr.xs[i] (List.getElem?_eq_getElem hl)
          refine ⟨g1, fun σ2 H2 => (rr.xs.length - (i + 1) = rr.xs.length - (i + 1)) ∧ i + 1 ≤ rr.xs.length ∧ ∃ W' s', Rel B (N.at W1) W' s' σ2 H2 ∧ PostS B (N.at W1) WX D (loopF rr t mb (rr.xs.drop (i + 1)) s'), fun σ2 H2 z => ⟨_, by omega, z⟩, fun x H2 y => ?_⟩
          obtain ⟨W2, gr, rx⟩ := g2 x H2 y
          split at q'
          · rename_i e1 eb
            refine gT_ok hK (vs := t.sl) (fun i hi => hi) (gr.rel r') rx eb fun σ3 r3 _ => ⟨N.at W1, W2, ⟨e1, s'.h⟩, r3, R.post_mono (R.post_bind q') (fun f s4 q4 => ?_) fun x s4 q4 => q4⟩
            cases f with
            | nx => exact fun W5 σ5 H5 r5 => ⟨rfl, hl, W5, s4, r5, q4⟩
            | ct => exact fun W5 σ5 H5 r5 => ⟨rfl, hl, W5, s4, r5, q4⟩
            | bk => exact q4
            | rt v => exact q4
          · exact q'.elim
        · exact q'.elim
      · left
        rw [List.drop_eq_nil_of_le (by omega)] at q'
        unfold loopF at q'
        split at q'
        · rename_i st'
          exact ⟨wk.stop W' s' H' r'.hr r'.pin st' (fun z => no z) i (by omega), q' W' σ' H' r'⟩
        · exact q'.elim
end

/-! ### cells -/
section
variable {B : Bs} {N : Ent} {W W' : Wd} {s s' : S} {σ : L2.St} {h h' : AH} {H H' : Hp} {n : Nat} {c c' : Cell} {a p : Addr} {o : HO}
theorem set_at {α : Type} {l : List (Option α)} {n m : Nat} {c : α} {x : α} (e : (l.set n (some c))[m]? = some (some x)) : (m = n ∧ x = c) ∨ (m ≠ n ∧ l[m]? = some (some x)) := by
  by_cases hm : n = m
  · subst hm
    by_cases hl : n < l.length
    · rw [List.getElem?_set_self hl] at e
      cases e
      exact .inl ⟨rfl, rfl⟩
    · rw [List.getElem?_eq_none (by rw [List.length_set]; omega)] at e
      cases e
  · rw [List.getElem?_set_ne hm] at e
    exact .inr ⟨fun z => hm z.symm, e⟩
theorem hrel_cell (hr : HRel B W h H) (e : h[n]? = some (some c)) (em : W.m[n]? = some a) (ho : SzO o) (hc : CellR B W (upd H a o) a c') : HRel B W (h.set n (some c')) (upd H a o) := by
  have hF := (hr.cell n c a e em).1
  refine ⟨fun b u e1 => ?_, by rw [List.length_set]; exact hr.len, hr.nd, fun b hb => ?_, fun b u e1 nt => ?_, hr.fz, ?_, fun m c1 b e1 e2 => ?_⟩
  · have ne : b ≠ a := fun z => by rw [z, hF] at e1; cases e1
    rw [upd_ne ne]; exact hr.agree _ _ e1
  · by_cases hba : b = a
    · rw [hba, upd_same]; exact fun z => nomatch z
    · rw [upd_ne hba]; exact hr.mt b hb
  · by_cases hba : b = a
    · rw [hba, upd_same] at e1; cases e1; exact ho
    · rw [upd_ne hba] at e1; exact hr.hz b u e1 nt
  · have q := (hr.cell n c a e em).2
    cases c with
    | lst xs => obtain ⟨vs, q, _⟩ := q; exact tabs_wr hr.tb q nt_lst nc_lst
    | dic ks => exact q.elim
    | ins c fs => obtain ⟨dx, vs, q, _⟩ := q; exact tabs_wr hr.tb q nt_ins nc_ins
  · rcases set_at e1 with ⟨rfl, rfl⟩ | ⟨hm, e3⟩
    · rw [em] at e2; cases e2
      exact ⟨hF, hc⟩
    · have ne : b ≠ a := fun z => by
        subst z
        have i1 := (List.getElem?_eq_some_iff.mp e2).1
        have i2 := (List.getElem?_eq_some_iff.mp em).1
        exact hm ((List.getElem?_inj i1 hr.nd).mp (e2.trans em.symm))
      obtain ⟨h1, h2⟩ := hr.cell m c1 b e3 e2
      exact ⟨h1, h2.off ne⟩
theorem step_cell (hr : HRel B W h H) (e : h[n]? = some (some c)) (em : W.m[n]? = some a) : Step W h H W (h.set n (some c')) (upd H a o) := by
  refine ⟨.refl W, by rw [List.length_set]; exact Nat.le_refl _, fun m c1 hm e1 => ?_, fun b u e1 _ nl => ?_, fun b e1 => ?_, fun b e1 _ _ => e1, by rw [List.length_set]; exact hr.len, fun m b hm e1 => ?_⟩
  · rcases set_at e1 with ⟨rfl, rfl⟩ | ⟨_, e3⟩
    · exact ⟨_, e⟩
    · exact ⟨_, e3⟩
  · have ne : b ≠ a := fun z => nl (z ▸ ⟨n, c, e, em⟩)
    rw [upd_ne ne]; exact e1
  · by_cases hba : b = a
    · rw [hba, upd_same] at e1; cases e1
    · rw [upd_ne hba] at e1; exact e1
  · have := (List.getElem?_eq_some_iff.mp e1).1
    rw [hr.len] at this; omega
/-- a new cell at p -/
theorem le_cell : W.Le ⟨W.F, W.m ++ [p]⟩ := ⟨fun _ _ e => e, List.prefix_append _ _⟩
theorem snoc_at {α : Type} {l : List α} {x y : α} {n : Nat} (e : (l ++ [x])[n]? = some y) : (n < l.length ∧ l[n]? = some y) ∨ (n = l.length ∧ y = x) := by
  by_cases hn : n < l.length
  · rw [List.getElem?_append_left hn] at e
    exact .inl ⟨hn, e⟩
  · rw [List.getElem?_append_right (by omega)] at e
    by_cases h0 : n - l.length = 0
    · rw [h0] at e
      cases e
      exact .inr ⟨by omega, rfl⟩
    · obtain ⟨m, hm⟩ := Nat.exists_eq_succ_of_ne_zero h0
      rw [hm] at e
      simp at e
theorem hrel_snoc (hr : HRel B W h H) (hF : W.F p = none) (hm : p ∉ W.m) (hp : H p ≠ none) (hc : CellR B W H p c) : HRel B ⟨W.F, W.m ++ [p]⟩ (h ++ [some c]) H := by
  refine ⟨hr.agree, by simp [hr.len], ?_, fun b hb => ?_, hr.hz, hr.fz, hr.tb, fun m c1 b e1 e2 => ?_⟩
  · rw [List.nodup_append]
    exact ⟨hr.nd, by simp, fun x hx y hy e => hm (by simp at hy; rw [← hy, ← e]; exact hx)⟩
  · rcases List.mem_append.mp hb with hb | hb
    · exact hr.mt b hb
    · simp at hb; rw [hb]; exact hp
  · have e2 : (W.m ++ [p])[m]? = some b := e2
    rcases snoc_at e1 with ⟨hn, e3⟩ | ⟨rfl, e3⟩
    · rcases snoc_at e2 with ⟨_, e4⟩ | ⟨e4, _⟩
      · obtain ⟨h1, h2⟩ := hr.cell m c1 b e3 e4
        exact ⟨h1, h2.mono le_cell fun _ z => z⟩
      · rw [hr.len] at e4; omega
    · cases e3
      rcases snoc_at e2 with ⟨hn, _⟩ | ⟨_, rfl⟩
      · rw [hr.len] at hn; omega
      · exact ⟨hF, hc.mono le_cell fun _ z => z⟩
theorem Step.snoc {H0 : Hp} {W0 : Wd} {h0 : AH} (st : Step W0 h0 H0 W h H) (hp : H0 p = none) : Step W0 h0 H0 ⟨W.F, W.m ++ [p]⟩ (h ++ [some c]) H := by
  refine ⟨st.le.trans le_cell, by rw [List.length_append]; exact Nat.le_trans st.hl (Nat.le_add_right _ _), fun m c1 hm e => ?_, st.keep, st.tr, st.fgrow, by simp [st.hm], fun m b hm e => ?_⟩
  · rw [List.getElem?_append_left (Nat.lt_of_lt_of_le hm st.hl)] at e
    exact st.dead m c1 hm e
  · rcases snoc_at e with ⟨_, e4⟩ | ⟨_, rfl⟩
    · exact st.mnew m b hm e4
    · exact hp
theorem rel_snoc (r : Rel B N W s σ H) (l : Loose N W s σ p) (hp : H p ≠ none) (hc : CellR B W H p c) : Rel B N ⟨W.F, W.m ++ [p]⟩ ⟨s.e, s.h ++ [some c]⟩ σ H := by
  refine ⟨hrel_snoc r.hr l.F l.m hp hc, r.st.snoc l.e, r.len, fun i x e => ?_, r.dis, r.pin.trans le_cell⟩
  obtain ⟨v, e1, sl⟩ := r.env i x e
  refine ⟨v, e1, ?_⟩
  cases x with
  | own xs =>
    obtain ⟨b, vs, rfl, h1, h2, h3, h4, h5⟩ := sl
    refine ⟨b, vs, rfl, h1, h2.mono le_cell, h3, fun z => ?_, h5⟩
    rcases List.mem_append.mp z with z | z
    · exact h4 z
    · simp at z
      subst z
      exact l.o i _ e rfl e1
  | don ks => exact sl
  | _ => exact Rep.mono le_cell sl
end
def eCel (mn : S → R S (List PV)) : ME := fun s => (mn s).bind fun xs s1 => .ok (.cel s1.h.length) ⟨s1.e, s1.h ++ [some (.lst xs)]⟩
section
variable {X : Cx} {B : Bs} {N : Ent} {WX : L2.WX} {W W' : Wd} {s s' : S} {σ : L2.St} {H H' : Hp} {e o i : Expr} {es : List Expr} {mn : S → R S (List PV)} {ma : MA} {m mo mi : ME} {pos : Pos}
theorem sim_cel (h : SimN X B N WX e mn) : SimE X B N WX e (eCel mn) := h.imp fun σ H Q ⟨W, s, r, h⟩ => ⟨W, s, r, R.post_mono (R.post_bind h) (fun xs s1 q W1 H1 r1 st p vs hp l hH rv => by
  have ne : H1 p ≠ none := by rw [hH]; exact fun z => nomatch z
  have r2 := rel_snoc (c := .lst xs) r1 l ne ⟨vs, hH, rv⟩
  exact q _ H1 r2 ⟨st.st.snoc hp, st.eo⟩ _ (Rep.cel (by show (W1.m ++ [p])[s1.h.length]? = some p; rw [← r1.hr.len]; simp)).hand) fun x s1 q => q⟩
/-- a list display, not yet put anywhere -/
def nLst (ma : MA) : S → R S (List PV) := fun s => (ma s).bind fun vs s1 => if allSh vs = true ∧ vs.length ≤ sizeLine then .ok vs s1 else .bad
theorem sim_lstN (ha : SimA X B N WX es ma) : SimN X B N WX (.List es pos) (nLst ma) :=
  (pe_lst ha).imp fun σ H Q ⟨W, s, r, h⟩ => ⟨W, s, r, R.post_mono (R.post_bind h) (fun vs s1 q W1 H1 r1 st vs' rv => by
    split at q
    · rename_i hc
      have rv' := rv.reps hc.1
      have hz : vs'.length ≤ sizeLine := by rw [← rv'.length]; exact hc.2
      refine ⟨hz, fun p hp => ?_⟩
      have l := r1.loose hp
      have hp0 : H p = none := st.st.tr _ hp
      exact q W1 _ (rel_put r1 l (o := .lst vs') hz (.inl hp)) (st.put hp0 l.m) p vs' hp0 l upd_same rv'
    · exact q.elim) fun x s1 q => q⟩
end
end Lp

set_option Elab.async false
set_option linter.all false
set_option maxRecDepth 100000
set_option maxHeartbeats 4000000
/-! Lp10: stores into lists, append, methods of texts, isinstance. -/
namespace Lp
open PySem PySem.Spec PyProof.Rows L2

section
variable {B : Bs} {N : Ent} {W W' : Wd} {s s' : S} {σ : L2.St} {H H' : Hp} {i : Nat} {xs : List PV}
/-- a slot's own list: the state without it -/
theorem rel_clear (r : Rel B N W s σ H) (e : s.e[i]? = some (some (.own xs))) : ∃ p vs, σ[i]? = some (some (.ref p)) ∧ H p = some (.lst vs) ∧ Reps B W xs vs ∧ Rel B N W ⟨s.e.set i none, s.h⟩ σ H ∧ Loose N W ⟨s.e.set i none, s.h⟩ σ p := by
  obtain ⟨v, e1, p, vs, rfl, hH, rv, hF, hm, h0⟩ := r.env i _ e
  have g : ∀ (j : Nat) (y : PV), (s.e.set i none)[j]? = some (some y) → j ≠ i ∧ s.e[j]? = some (some y) := fun j y f => by
    by_cases hj : i = j
    · subst hj
      by_cases hl : i < s.e.length
      · rw [List.getElem?_set_self hl] at f; cases f
      · rw [List.getElem?_eq_none (by rw [List.length_set]; omega)] at f; cases f
    · rw [List.getElem?_set_ne hj] at f
      exact ⟨fun z => hj z.symm, f⟩
  refine ⟨p, vs, e1, hH, rv, ⟨r.hr, r.st, by rw [r.len]; simp, fun j y ej => r.env j y (g j y ej).2, fun j k y z a hjk f1 f2 o1 o2 s1 s2 => r.dis j k y z a hjk (g j y f1).2 (g k z f2).2 o1 o2 s1 s2, r.pin⟩, hF, hm, fun j y f o z => ?_, h0⟩
  obtain ⟨ne, f'⟩ := g j y f
  exact r.dis i j _ y p (Ne.symm ne) e f' rfl o e1 z
/-- .. gets another content -/
theorem rel_ownset (r : Rel B N W s σ H) (e : s.e[i]? = some (some (.own xs))) : ∃ p vs, σ[i]? = some (some (.ref p)) ∧ H p = some (.lst vs) ∧ Reps B W xs vs ∧
    ∀ ys us, Reps B W ys us → us.length ≤ sizeLine → Rel B N W ⟨s.e.set i (some (.own ys)), s.h⟩ σ (upd H p (.lst us)) := by
  obtain ⟨p, vs, e1, hH, rv, rc, lc⟩ := rel_clear r e
  refine ⟨p, vs, e1, hH, rv, fun ys us ru hz => ?_⟩
  have r2 := rel_put rc lc (o := .lst us) hz (wr_lst hH)
  have := rel_own (i := i) (p := p) (xs := ys) (vs := us) (σ' := σ) r2 rfl (fun _ _ => rfl) (.inl e1) ⟨lc.F, lc.m, fun j x _ f o => lc.o j x f o, lc.e⟩ upd_same ru
  simpa using this
end
/-- xs[k] = v -/
def setL (xs : List PV) (k : PV) (v : PV) : Option (List PV) := match k with
  | .int j => if isOwn v = true then none else (ixN xs.length j).map fun q => xs.set q v
  | _ => none
def cellL (h : AH) (n : Nat) : Option (List PV) := match h[n]? with
  | some (some (.lst xs)) => some xs
  | _ => none
def celN : PV → Option Nat
  | .cel n => some n
  | _ => none
def sSetC (mv mo mi : ME) : MS := fun s => (mv s).bind fun v s1 => (mo s1).bind fun o s2 => (mi s2).bind fun k s3 => match celN o with
  | some n => match cellL s3.h n with
    | some xs => match setL xs k v with
      | some ys => .ok .nx ⟨s3.e, s3.h.set n (some (.lst ys))⟩
      | none => .bad
    | none => .bad
  | none => .bad
def ownAt (e : List (Option PV)) (i : Nat) : Option (List PV) := match e[i]? with
  | some (some (.own xs)) => some xs
  | _ => none
def sSetN (i : Nat) (mv mi : ME) : MS := fun s => (mv s).bind fun v s1 => match ownAt s1.e i with
  | some _ => (mi s1).bind fun k s2 => match ownAt s2.e i with
    | some xs => match setL xs k v with
      | some ys => .ok .nx ⟨s2.e.set i (some (.own ys)), s2.h⟩
      | none => .bad
    | none => .bad
  | none => .bad
def addL (xs : List PV) (v : PV) : Option (List PV) := if isOwn v = true ∨ sizeLine ≤ xs.length then none else some (xs ++ [v])
def eAppC (mo me : ME) : ME := fun s => (mo s).bind fun o s1 => match celN o with
  | some n => match cellL s1.h n with
    | some _ => (me s1).bind fun v s2 => match cellL s2.h n with
      | some xs => match addL xs v with
        | some ys => .ok .non ⟨s2.e, s2.h.set n (some (.lst ys))⟩
        | none => .bad
      | none => .bad
    | none => .bad
  | none => .bad
def sAppN (i : Nat) (me : ME) : MS := fun s => match ownAt s.e i with
  | some _ => (me s).bind fun v s1 => match ownAt s1.e i with
    | some xs => match addL xs v with
      | some ys => .ok .nx ⟨s1.e.set i (some (.own ys)), s1.h⟩
      | none => .bad
    | none => .bad
  | none => .bad
theorem cellL_ok {h : AH} {n : Nat} {xs : List PV} (e : cellL h n = some xs) : h[n]? = some (some (.lst xs)) := by
  unfold cellL at e
  split at e
  · rename_i ys q; cases e; exact q
  · cases e
theorem celN_ok {x : PV} {n : Nat} (e : celN x = some n) : x = .cel n := by
  unfold celN at e
  split at e
  · cases e; rfl
  · cases e
theorem ownAt_ok {e : List (Option PV)} {i : Nat} {xs : List PV} (h : ownAt e i = some xs) : e[i]? = some (some (.own xs)) := by
  unfold ownAt at h
  split at h
  · rename_i ys q; cases h; exact q
  · cases h
theorem setL_ok {xs ys : List PV} {k v : PV} (e : setL xs k v = some ys) : ∃ j q, k = .int j ∧ isOwn v = false ∧ ixN xs.length j = some q ∧ ys = xs.set q v := by
  unfold setL at e
  split at e
  · rename_i j
    split at e
    · cases e
    · rename_i o
      cases q : ixN xs.length j with
      | none => rw [q] at e; cases e
      | some m => rw [q] at e; cases e; exact ⟨j, m, rfl, by simpa using o, q, rfl⟩
  · cases e
theorem addL_ok {xs ys : List PV} {v : PV} (e : addL xs v = some ys) : isOwn v = false ∧ xs.length < sizeLine ∧ ys = xs ++ [v] := by
  unfold addL at e
  split at e
  · cases e
  · rename_i o
    cases e
    simp only [not_or] at o
    exact ⟨by simpa using o.1, by omega, rfl⟩
section
variable {X : Cx} {B : Bs} {N : Ent} {WX : L2.WX} {W W' : Wd} {s s' : S} {σ : L2.St} {H H' : Hp} {e o ie : Expr} {mv mo mi me : ME} {pos tpos apos cpos npos : Pos} {x : Str} {i : Nat}
theorem rep_cel {n : Nat} {v : V} (r : RepT B W H (.cel n) v) : ∃ a, v = .ref a ∧ W.m[n]? = some a := by
  cases (show Rep B W (.cel n) v from r) with
  | cel h => exact ⟨_, rfl, h⟩
theorem cell_put {n : Nat} {a : Addr} {xs ys : List PV} {us : List V} (r : Rel B N W s σ H) (e : cellL s.h n = some xs) (em : W.m[n]? = some a) (ru : Reps B W ys us) (hz : us.length ≤ sizeLine) : Rel B N W ⟨s.e, s.h.set n (some (.lst ys))⟩ σ (upd H a (.lst us)) ∧ StepE W s H W ⟨s.e, s.h.set n (some (.lst ys))⟩ (upd H a (.lst us)) := by
  have hr2 := hrel_cell (c' := .lst ys) r.hr (cellL_ok e) em (o := .lst us) hz ⟨us, upd_same, ru⟩
  have st := step_cell (c' := .lst ys) (o := .lst us) r.hr (cellL_ok e) em
  exact ⟨rel_step r hr2 st, stepE_of st⟩
theorem sims_setC (hv : SimE X B N WX e mv) (ho : SimE X B N WX o mo) (hi : SimE X B N WX ie mi)
    (ha : ∀ v, assign (.Subscript o ie tpos) X.env v = (do
      let ov ← holding [v] (eval o X.env)
      let iv ← holding [v, ov] (eval ie X.env)
      standAt tpos
      holding [v, ov, iv] (setItem ov iv v)
      release [v, ov, iv] []))
    (hs : swapsWithSole [.Subscript o ie tpos] e pos.line X.env = pure false) (hw : swappedStores [.Subscript o ie tpos] e X.env = pure none) (h1 : (assignEach [.Subscript o ie tpos] X.env).map (·.2) = [assign (.Subscript o ie tpos) X.env]) :
    SimS X B N WX (.Assign [.Subscript o ie tpos] e pos) (sSetC mv mo mi) :=
  (ps_asg hv (pg_sub ho hi set_list ha) hs hw h1).imp fun D σ H ⟨W, s, r, h⟩ => ⟨W, s, r, h.bindE.mono fun v W1 s1 H1 r1 _ q v' rv => ⟨W1, s1, r1, q.bindE.mono fun ov W2 s2 H2 r2 st2 q o' ro => ⟨W2, s2, r2, q.bindE.mono fun k W3 s3 H3 r3 st3 q3 k' rk => by
    split at q3
    · rename_i n en
      split at q3
      · rename_i xs ex
        split at q3
        · rename_i ys ey
          obtain ⟨j, m, rfl, ov1, e3, rfl⟩ := setL_ok ey
          obtain rfl := celN_ok en
          obtain ⟨a, rfl, em⟩ := rep_cel (ro.on r2.slen st3.st)
          obtain ⟨_, vs, hH, rvs⟩ := r3.hr.cell n _ a (cellL_ok ex) em
          have rv3 := ((rv.on r1.slen st2.st).on r2.slen st3.st).rep ov1
          have hz : (vs.set m v').length ≤ sizeLine := by rw [List.length_set]; exact r3.hr.hz a _ hH nt_lst
          refine ⟨a, vs, j, m, rfl, rep_int rk, hH, by rw [← rvs.length]; exact e3, ?_⟩
          exact q3 W3 σ _ (cell_put r3 ex em (rvs.set rv3 m) hz).1
        · exact q3.elim
      · exact q3.elim
    · exact q3.elim⟩⟩⟩
theorem own_back {W' : Wd} {s' : S} {xs : List PV} (r : Rel B N W s σ H) (st : StepE W s H W' s' H') (e : ownAt s'.e i = some xs) : s.e[i]? = some (some (.own xs)) := st.eo i _ (ownAt_ok e) rfl
theorem sims_setN (hN : X.N[i]? = some x) (hx : Vis X.env.scope x) (hd : (x == ("__debug__" : Str)) = false) (hcd : (x == ("__classdict__" : Str)) = false) (hv : SimE X B N WX e mv) (hi : SimE X B N WX ie mi)
    (ha : ∀ v, assign (.Subscript (.Name x npos) ie tpos) X.env v = (do
      let ov ← holding [v] (eval (.Name x npos) X.env)
      let iv ← holding [v, ov] (eval ie X.env)
      standAt tpos
      holding [v, ov, iv] (setItem ov iv v)
      release [v, ov, iv] []))
    (hs : swapsWithSole [.Subscript (.Name x npos) ie tpos] e pos.line X.env = pure false) (hw : swappedStores [.Subscript (.Name x npos) ie tpos] e X.env = pure none) (h1 : (assignEach [.Subscript (.Name x npos) ie tpos] X.env).map (·.2) = [assign (.Subscript (.Name x npos) ie tpos) X.env]) :
    SimS X B N WX (.Assign [.Subscript (.Name x npos) ie tpos] e pos) (sSetN i mv mi) :=
  (ps_asg hv (pg_sub (pe_var hN hx hd hcd) hi set_list ha) hs hw h1).imp fun D σ H ⟨W, s, r, h⟩ => ⟨W, s, r, h.bindE.mono fun v W1 s1 H1 r1 _ q v' rv => by
    split at q
    · rename_i xs0 e0
      obtain ⟨ov, eo, _⟩ := r1.env i _ (ownAt_ok e0)
      refine ⟨ov, eo, W1, s1, r1, q.bindE.mono fun k W2 s2 H2 r2 st2 q k' rk => ?_⟩
      split at q
      · rename_i xs ex
        split at q
        · rename_i ys ey
          obtain ⟨j, m, rfl, ov1, e3, rfl⟩ := setL_ok ey
          obtain ⟨p, vs, e1, hH, rvs, fin⟩ := rel_ownset r2 (ownAt_ok ex)
          rw [e1] at eo
          cases eo
          have rv2 := (rv.on r1.slen st2.st).rep ov1
          have hz : (vs.set m v').length ≤ sizeLine := by rw [List.length_set]; exact r2.hr.hz p _ hH nt_lst
          refine ⟨p, vs, j, m, rfl, rep_int rk, hH, by rw [← rvs.length]; exact e3, ?_⟩
          exact q W2 σ _ (fin _ _ (rvs.set rv2 m) hz)
        · exact q.elim
      · exact q.elim
    · exact q.elim⟩
theorem sim_appC (ho : SimE X B N WX o mo) (he : SimE X B N WX e me) (hbase : attributeBase o "append" X.env (eval o X.env) = eval o X.env)
    (hfew : ((backTo cpos (starEach [e] X.env)).all (fun x => !x.1) && (backToKw cpos (keywordEach [] X.env)).all (fun x => x.1.isSome) && decide (([e] : List Expr).length + ([] : List Keyword).length + (if ([] : List Keyword).isEmpty then 0 else 1) < 30)) = true)
    (hline : (apos.endLine == cpos.line) = true) (hs : starEach [e] X.env = (false, eval e X.env) :: starEach [] X.env) (hplain : (backTo cpos (starEach [] X.env)).any (·.1) = false) :
    SimE X B N WX (.Call (.Attribute o "append" apos) [e] [] cpos) (eAppC mo me) :=
  (pe_bm PySem.F.plainAttrs_list PySem.F.slot_list_append PySem.F.type_list_append mt_append ho (pa_cons he pa_nil hs) hbase hfew hline hs hplain).imp fun σ H Q ⟨W, s, r, h⟩ => ⟨W, s, r, (h.bind r.slen).mono fun o1 W1 s1 H1 r1 _ q o' ro => by
    split at q
    · rename_i n en
      obtain rfl := celN_ok en
      obtain ⟨a, rfl, em⟩ := rep_cel ro
      split at q
      · rename_i xs0 e0
        obtain ⟨_, vs0, hH0, _⟩ := r1.hr.cell n _ a (cellL_ok e0) em
        refine ⟨.inl ⟨rfl, vs0, .inl (.inl hH0)⟩, W1, s1, r1, (q.bind r1.slen).mono fun v W2 s2 H2 r2 st2 q v' rv => ?_⟩
        split at q
        · rename_i xs ex
          split at q
          · rename_i ys ey
            obtain ⟨ov1, hz, rfl⟩ := addL_ok ey
            have em2 := st2.st.le.at em
            obtain ⟨_, vs, hH, rvs⟩ := r2.hr.cell n _ a (cellL_ok ex) em2
            have hz' : vs.length < sizeLine := by rw [← rvs.length]; exact hz
            refine ⟨a, vs, v', rfl, rfl, hH, hz', ?_⟩
            obtain ⟨r3, st3⟩ := cell_put r2 ex em2 (rvs.append (.one (rv.rep ov1))) (by rw [List.length_append]; exact hz')
            exact q W2 _ r3 st3 .non Rep.non.hand
          · exact q.elim
        · exact q.elim
      · exact q.elim
    · exact q.elim⟩
theorem sims_appN (hN : X.N[i]? = some x) (hx : Vis X.env.scope x) (hd : (x == ("__debug__" : Str)) = false) (hcd : (x == ("__classdict__" : Str)) = false) (he : SimE X B N WX e me) (hbase : attributeBase (.Name x npos) "append" X.env (eval (.Name x npos) X.env) = eval (.Name x npos) X.env)
    (hfew : ((backTo cpos (starEach [e] X.env)).all (fun x => !x.1) && (backToKw cpos (keywordEach [] X.env)).all (fun x => x.1.isSome) && decide (([e] : List Expr).length + ([] : List Keyword).length + (if ([] : List Keyword).isEmpty then 0 else 1) < 30)) = true)
    (hline : (apos.endLine == cpos.line) = true) (hs : starEach [e] X.env = (false, eval e X.env) :: starEach [] X.env) (hplain : (backTo cpos (starEach [] X.env)).any (·.1) = false)
    (hsw : swapsWith (.Call (.Attribute (.Name x npos) "append" apos) [e] [] cpos) none pos.line X.env = pure false) :
    SimS X B N WX (.Expr (.Call (.Attribute (.Name x npos) "append" apos) [e] [] cpos) pos) (sAppN i me) :=
  (ps_expr (pe_bm PySem.F.plainAttrs_list PySem.F.slot_list_append PySem.F.type_list_append mt_append (pe_var hN hx hd hcd) (pa_cons he pa_nil hs) hbase hfew hline hs hplain) hsw).imp fun D σ H ⟨W, s, r, h⟩ => by
    unfold sAppN at h
    split at h
    · rename_i xs0 e0
      obtain ⟨ov, eo, p0, vs0, rfl, hH0, _⟩ := r.env i _ (ownAt_ok e0)
      refine ⟨_, eo, .inl ⟨rfl, vs0, .inl (.inl hH0)⟩, W, s, r, h.bindE.mono fun v W2 s2 H2 r2 st2 q v' rv => ?_⟩
      split at q
      · rename_i xs ex
        split at q
        · rename_i ys ey
          obtain ⟨ov1, hz, rfl⟩ := addL_ok ey
          obtain ⟨p, vs, e1, hH, rvs, fin⟩ := rel_ownset r2 (ownAt_ok ex)
          rw [e1] at eo
          cases eo
          have hz' : vs.length < sizeLine := by rw [← rvs.length]; exact hz
          exact ⟨_, vs, v', rfl, rfl, hH, hz', q W2 σ _ (fin _ _ (rvs.append (.one (rv.rep ov1))) (by rw [List.length_append]; exact hz'))⟩
        · exact q.elim
      · exact q.elim
    · exact h.elim
end

/-! ### the slot's list is given out, ahead of a statement -/
def sFrz (i : Nat) (m : MS) : MS := fun s => match ownAt s.e i with
  | some xs => m ⟨s.e.set i (some (.lst xs)), s.h⟩
  | none => m s
section
variable {X : Cx} {B : Bs} {N : Ent} {WX : L2.WX} {st : Stmt} {m : MS} {i : Nat}
theorem sims_frz (i : Nat) (h : SimS X B N WX st m) : SimS X B N WX st (sFrz i m) := h.imp fun D σ H ⟨W, s, r, q⟩ => by
  unfold sFrz at q
  split at q
  · rename_i xs e
    obtain ⟨p, vs, _, _, _, _, _, _, r2⟩ := rel_frz r (ownAt_ok e)
    exact ⟨_, _, r2, q⟩
  · exact ⟨W, s, r, q⟩
end

/-! ### methods of texts -/
def MethS (X : Cx) (B : Bs) (f : AH → Str → List PV → Option PV) (r : V → List V → Hp → VK → Prop) : Prop := ∀ (W : Wd) (h : AH) (H : Hp) (x : Str) (xs : List PV) (z : PV) (xs' : List V) (Q : VK), HRel B W h H → SOk x → RepTs B W H xs xs' → f h x xs = some z →
  (∀ W' H' z', Grow W H W' H' → RepT B W' H' z z' → Q z' H') → r (.str x) xs' H Q
def strN : PV → Option Str
  | .str x => some x
  | _ => none
def eMS (f : AH → Str → List PV → Option PV) (mo : ME) (ma : MA) : ME := fun s => (mo s).bind fun o s1 => match strN o with
  | some x => (ma s1).bind fun vs s2 => match f s2.h x vs with
    | some z => .ok z s2
    | none => .bad
  | none => .bad
section
variable {X : Cx} {B : Bs} {N : Ent} {WX : L2.WX} {W W' : Wd} {s s' : S} {σ : L2.St} {H H' : Hp} {o e : Expr} {es : List Expr} {mo : ME} {ma : MA} {name : Str} {apos cpos : Pos} {id : String} {r : V → List V → Hp → VK → Prop} {f : AH → Str → List PV → Option PV}
theorem strN_ok {x : PV} {y : Str} (e : strN x = some y) : x = .str y := by
  unfold strN at e
  split at e
  · cases e; rfl
  · cases e
theorem sim_ms (slot : Slot "str" name id) (hty : typeOf (.builtin id) = pure (.type "method_descriptor")) (hm : MtR X id r) (hf : MethS X B f r) (ho : SimE X B N WX o mo) (ha : SimA X B N WX (e :: es) ma) (hbase : attributeBase o name X.env (eval o X.env) = eval o X.env)
    (hfew : ((backTo cpos (starEach (e :: es) X.env)).all (fun x => !x.1) && (backToKw cpos (keywordEach [] X.env)).all (fun x => x.1.isSome)
      && decide ((e :: es).length + ([] : List Keyword).length + (if ([] : List Keyword).isEmpty then 0 else 1) < 30)) = true)
    (hline : (apos.endLine == cpos.line) = true) (hs : starEach (e :: es) X.env = (false, eval e X.env) :: starEach es X.env) (hplain : (backTo cpos (starEach es X.env)).any (·.1) = false) :
    SimE X B N WX (.Call (.Attribute o name apos) (e :: es) [] cpos) (eMS f mo ma) :=
  (pe_bm PySem.F.plainAttrs_str slot hty hm ho ha hbase hfew hline hs hplain).imp fun σ H Q ⟨W, s, r0, h⟩ => ⟨W, s, r0, (h.bind r0.slen).mono fun o1 W1 s1 H1 r1 _ q o' ro => by
    split at q
    · rename_i x ex
      obtain rfl := strN_ok ex
      obtain ⟨rfl, hx⟩ := rep_str ro
      refine ⟨rfl, W1, s1, r1, (q.bind r1.slen).mono fun vs W2 s2 H2 r2 st2 q vs' rvs => ?_⟩
      split at q
      · rename_i z ez
        exact hf W2 s2.h H2 x vs z vs' Q r2.hr hx rvs ez fun W' H' z' g rz => q W' H' (g.rel r2) (g.stepE r2.hr) z' rz
      · exact q.elim
    · exact q.elim⟩
theorem sim_ms0 (slot : Slot "str" name id) (hty : typeOf (.builtin id) = pure (.type "method_descriptor")) (hm : MtR X id r) (hf : MethS X B f r) (ho : SimE X B N WX o mo) (hbase : attributeBase o name X.env (eval o X.env) = eval o X.env) (hline : (apos.endLine == cpos.line) = true) :
    SimE X B N WX (.Call (.Attribute o name apos) [] [] cpos) (eMS f mo aNil) :=
  (pe_bm0 PySem.F.plainAttrs_str slot hty hm ho hbase hline).imp fun σ H Q ⟨W, s, r0, h⟩ => ⟨W, s, r0, (h.bind r0.slen).mono fun o1 W1 s1 H1 r1 _ q o' ro => by
    split at q
    · rename_i x ex
      obtain rfl := strN_ok ex
      obtain ⟨rfl, hx⟩ := rep_str ro
      refine ⟨rfl, ?_⟩
      have q := (q.bind r1.slen).ok r1
      split at q
      · rename_i z ez
        exact hf W1 s1.h H1 x [] z [] Q r1.hr hx trivial ez fun W' H' z' g rz => q W' H' (g.rel r1) (g.stepE r1.hr) z' rz
      · exact q.elim
    · exact q.elim⟩
end
/-- sep.join(..) -/
def strsOf (xs : List PV) : Option (List Str) := xs.mapM strN
def mJoin : AH → Str → List PV → Option PV := fun h x xs => match xs with
  | [y] => (asS h y).bind fun zs => (strsOf zs).bind fun ys => if (ys.map (·.length)).sum + ys.length * x.length ≤ 16777216 ∧ PyData.strOk (Txt.join x ys) = true ∧ (Txt.join x ys).length ≤ sizeLine then some (.str (Txt.join x ys)) else none
  | _ => none
theorem strs_reps {B : Bs} {W : Wd} : ∀ {ys : List PV} {vs : List V} {bs : List Str}, Reps B W ys vs → strsOf ys = some bs → vs = bs.map V.str
  | _, _, bs, .nil, e => by
    simp [strsOf] at e; subst e; rfl
  | x :: xs, _, bs, .cons (v := v) r t, e => by
    unfold strsOf at e
    rw [List.mapM_cons] at e
    cases q : strN x with
    | none => rw [q] at e; cases e
    | some y =>
      rw [q] at e
      cases q2 : xs.mapM strN with
      | none => rw [q2] at e; cases e
      | some zs =>
        rw [q2] at e
        cases e
        obtain rfl := strN_ok q
        rw [strs_reps t (show strsOf xs = some zs from q2)]
        cases r
        rfl
theorem sem_join {X : Cx} {B : Bs} (hK : X.K = B.K) : MethS X B mJoin (fun x xs H Q => ∃ a p, ∃ ys : List Str, x = .str a ∧ xs = [.ref p] ∧ (SqL X.K H p (ys.map V.str) ∨ SqT X.K H p (ys.map V.str)) ∧ (ys.map (·.length)).sum + ys.length * a.length ≤ 16777216 ∧ Q (.str (Txt.join a ys)) H) := by
  intro W h H x xs z xs' Q hr hx rxs e q
  unfold mJoin at e
  split at e
  · rename_i y
    obtain ⟨v, rfl, rv⟩ := repts1 rxs
    cases q1 : asS h y with
    | none => rw [q1] at e; cases e
    | some zs =>
      rw [q1] at e
      cases q2 : strsOf zs with
      | none =>
        have e : (strsOf zs).bind _ = some z := e
        rw [q2] at e; cases e
      | some ys =>
        have e : (strsOf zs).bind _ = some z := e
        rw [q2] at e
        have e : (if _ then _ else _) = some z := e
        split at e
        · rename_i hz
          cases e
          obtain ⟨a, vs, rfl, hs, rvs⟩ := asS_ok hK hr rv q1
          have := strs_reps rvs q2
          subst this
          exact ⟨x, a, ys, rfl, rfl, hs.symm, hz.1, q W H _ (.refl W H) (Rep.str _ ⟨hz.2.1, hz.2.2⟩).hand⟩
        · cases e
  · cases e

/-! ### isinstance, by built-in types -/
inductive BT where
  | non | bl | int | str | tup | lst | dic
  deriving DecidableEq
def BT.nm : BT → String
  | .non => "NoneType" | .bl => "bool" | .int => "int" | .str => "str" | .tup => "tuple" | .lst => "list" | .dic => "dict"
def BT.of (n : String) : Option BT := if n = "bool" then some .bl else if n = "int" then some .int else if n = "str" then some .str else if n = "tuple" then some .tup else if n = "list" then some .lst else if n = "dict" then some .dic else none
@[simp] theorem BT.of_bool : BT.of "bool" = some .bl := rfl
@[simp] theorem BT.of_int : BT.of "int" = some .int := rfl
@[simp] theorem BT.of_str : BT.of "str" = some .str := rfl
@[simp] theorem BT.of_tuple : BT.of "tuple" = some .tup := rfl
@[simp] theorem BT.of_list : BT.of "list" = some .lst := rfl
@[simp] theorem BT.of_dict : BT.of "dict" = some .dic := rfl
def subT : BT → BT → Bool
  | .bl, .int => true
  | .non, .non => true
  | .bl, .bl => true
  | .int, .int => true
  | .str, .str => true
  | .tup, .tup => true
  | .lst, .lst => true
  | .dic, .dic => true
  | _, _ => false
theorem BT.of_nm {n : String} {t : BT} (e : BT.of n = some t) : n = t.nm := by
  unfold BT.of at e
  repeat (split at e; · (rename_i h; cases e; exact h))
  cases e
theorem kit_sub : ∀ {a b : BT}, b ≠ .non → kitB a.nm b.nm = some (subT a b) := fun {a b} h => by
  cases b <;> (first | exact absurd rfl h | skip) <;> cases a <;> decide +kernel
theorem BT.of_ne {n : String} {t : BT} (e : BT.of n = some t) : t ≠ .non := by
  unfold BT.of at e
  repeat (split at e; · (cases e; exact fun z => nomatch z))
  cases e
def tyN (h : AH) : PV → Option BT
  | .non => some .non
  | .bl _ => some .bl
  | .int _ => some .int
  | .str _ => some .str
  | .tup _ => some .tup
  | x => (asL h x).map fun _ => .lst
def tysOf : List PV → Option (List BT)
  | [] => some []
  | .ty n :: xs => (BT.of n).bind fun t => (tysOf xs).map fun ts => t :: ts
  | _ => none
def bIsi : AH → List PV → Option PV := fun h xs => match xs with
  | [x, .ty n] => (tyN h x).bind fun t => (BT.of n).map fun u => .bl (subT t u)
  | [x, .tup cs] => (tyN h x).bind fun t => (tysOf cs).map fun us => .bl (us.any (subT t))
  | _ => none
section
variable {X : Cx} {B : Bs} {W : Wd} {h : AH} {H : Hp}
theorem tyN_ok (hK : X.K = B.K) (hr : HRel B W h H) {x : PV} {x' : V} {t : BT} (rx : RepT B W H x x') (e : tyN h x = some t) : TyX X.K H x' (.type t.nm) := by
  have fin : (asL h x).map (fun _ => BT.lst) = some t → TyX X.K H x' (.type t.nm) := fun e => by
    cases q : asL h x with
    | none => rw [q] at e; cases e
    | some xs =>
      rw [q] at e; cases e
      obtain ⟨a, vs, rfl, h1, _⟩ := asL_ok hr rx q
      rcases h1 with (h1 | ⟨o, h1⟩) | ⟨o, its, n, h1, h2, _⟩
      · exact .base (.lst h1)
      · exact .base (.frz h1)
      · exact .kList (hK ▸ h1) h2
  cases x with
  | non => cases e; rw [rep_non rx]; exact .base .non
  | bl b => cases e; rw [rep_bl rx]; exact .base (.bl b)
  | int i => cases e; rw [rep_int rx]; exact .base (.int i)
  | str y => cases e; rw [(rep_str rx).1]; exact .base (.str y)
  | tup xs =>
    cases e
    cases (show Rep B W (.tup xs) x' from rx) with
    | tup h1 r =>
      rcases h1 with h1 | ⟨o, its, n, h1, h2, _⟩
      · exact .base (.tup (hr.agree _ _ h1))
      · exact .kTuple (hK ▸ h1) h2
  | _ => exact fin e
theorem tysOf_ok : ∀ {cs : List PV} {vs : List V} {us : List BT}, Reps B W cs vs → tysOf cs = some us → (∀ u ∈ us, u ≠ .non) ∧ Paired ClsV vs (us.map fun u => .type u.nm)
  | _, _, us, .nil, e => by cases e; exact ⟨fun _ h => (by cases h), .nil⟩
  | .ty n :: cs, _, us, .cons r t, e => by
    rw [tysOf] at e
    cases q : BT.of n with
    | none => rw [q] at e; cases e
    | some b =>
      rw [q] at e
      cases q2 : tysOf cs with
      | none => have e : (tysOf cs).map _ = some us := e; rw [q2] at e; cases e
      | some bs =>
        have e : (tysOf cs).map _ = some us := e
        rw [q2] at e
        cases e
        obtain ⟨h1, h2⟩ := tysOf_ok t q2
        cases r
        refine ⟨fun u hu => ?_, ?_⟩
        · rcases List.mem_cons.mp hu with rfl | hu
          · exact BT.of_ne q
          · exact h1 u hu
        · rw [BT.of_nm q]
          exact .cons (.ty _) h2
  | .non :: _, _, _, .cons _ _, e => by cases e
  | .bl _ :: _, _, _, .cons _ _, e => by cases e
  | .int _ :: _, _, _, .cons _ _, e => by cases e
  | .str _ :: _, _, _, .cons _ _, e => by cases e
  | .tup _ :: _, _, _, .cons _ _, e => by cases e
  | .lst _ :: _, _, _, .cons _ _, e => by cases e
  | .scr _ :: _, _, _, .cons _ _, e => by cases e
  | .own _ :: _, _, _, .cons _ _, e => by cases e
  | .dic _ :: _, _, _, .cons _ _, e => by cases e
  | .don _ :: _, _, _, .cons _ _, e => by cases e
  | .ins _ _ :: _, _, _, .cons _ _, e => by cases e
  | .cel _ :: _, _, _, .cons _ _, e => by cases e
  | .cls _ :: _, _, _, .cons _ _, e => by cases e
theorem kitAny_of {K : PySem.W.Frag} {t : BT} : ∀ {us : List BT}, (∀ u ∈ us, u ≠ .non) → PySem.W.kitAny K (.type t.nm) (us.map fun u => .type u.nm) = some (us.any (subT t))
  | [], _ => rfl
  | u :: us, h => by
    have h1 : PySem.W.kitOne K (.type t.nm) (.type u.nm) = some (subT t u) := kit_ty (kit_sub (h u (by simp)))
    have h2 := kitAny_of (K := K) (t := t) (us := us) fun v hv => h v (List.mem_cons_of_mem _ hv)
    rw [List.map_cons, List.any_cons]
    exact kitAny_cons h1 (fun e => by rw [e, Bool.false_or]; exact h2) (fun e => by rw [e, Bool.true_or])
theorem vals_ty {us : List BT} : ∀ {vs : List V} {ws : List Value}, Paired ClsV vs (us.map fun u => .type u.nm) → Vals vs ws → ws = us.map fun u => .type u.nm := fun a b => ClsV.all a b
abbrev rIsiB (K : PySem.W.Frag) : List V → Hp → VK → Prop := fun xs H Q => rIsi K xs H Q ∨ rIsiT K xs H Q ∨ rIsiK K xs H Q
theorem call_isiB : CallR X (.builtin "isinstance") (rIsiB X.K) := fun pins s σ H xs us Q I r h => h.elim (call_isi pins s σ H xs us Q I r) fun h => h.elim (call_isiT pins s σ H xs us Q I r) (call_isiK pins s σ H xs us Q I r)
theorem sem_isi (hK : X.K = B.K) : CallSem X B bIsi (rIsiB X.K) := by
  intro W h H xs z xs' Q hr rxs e q
  unfold bIsi at e
  split at e
  · rename_i x n
    obtain ⟨v, w, rfl, rv, rw'⟩ := repts2 rxs
    cases q1 : tyN h x with
    | none => rw [q1] at e; cases e
    | some t =>
      rw [q1] at e
      have e : (BT.of n).map _ = some z := e
      cases q2 : BT.of n with
      | none => rw [q2] at e; cases e
      | some u =>
        rw [q2] at e
        cases e
        cases (show Rep B W (.ty n) w from rw')
        refine .inl ⟨v, .ty n, _, .type n, subT t u, rfl, .ty n, tyN_ok hK hr rv q1, ?_, q W H _ (.refl W H) (Rep.bl _).hand⟩
        rw [BT.of_nm q2]
        exact kit_ty (kit_sub (BT.of_ne q2))
  · rename_i x cs
    obtain ⟨v, w, rfl, rv, rw'⟩ := repts2 rxs
    cases q1 : tyN h x with
    | none => rw [q1] at e; cases e
    | some t =>
      rw [q1] at e
      have e : (tysOf cs).map _ = some z := e
      cases q2 : tysOf cs with
      | none => rw [q2] at e; cases e
      | some us =>
        rw [q2] at e
        cases e
        cases (show Rep B W (.tup cs) w from rw') with
        | tup h1 r =>
          obtain ⟨k1, k2⟩ := tysOf_ok r q2
          rcases h1 with h1 | ⟨o, its, m, h1, h2, h3, h4, h5⟩
          · exact .inr (.inl ⟨v, _, _, _, us.map fun u => .type u.nm, _, rfl, hr.agree _ _ h1, k2, tyN_ok hK hr rv q1, kitAny_of k1, q W H _ (.refl W H) (Rep.bl _).hand⟩)
          · have e5 := vals_ty k2 h5
            obtain ⟨oc, od, dt, sl⟩ := o
            simp only at h2 h3
            subst h2 h3
            refine .inr (.inr ⟨v, _, od, us.map fun u => .type u.nm, m, sl, _, _, rfl, ?_, tyN_ok hK hr rv q1, kitAny_of k1, q W H _ (.refl W H) (Rep.bl _).hand⟩)
            rw [hK, h1, ← e5]
  · cases e
/-- a built-in type's name -/
theorem sim_ty {N : Ent} {WX : L2.WX} {x : Str} {T : String} {pos : Pos} (hg : Gl X x) (hm : X.mg x = none) (hv : bootBuiltins x = some (.type T)) (hn : x ≠ "__name__") (hdb : (x == ("__debug__" : Str)) = false) : SimE X B N WX (.Name x pos) (eC (.ty T)) :=
  sim_c (pe_bltn (v := .ty T) hg hm hv rfl hn hdb) fun _ => .ty T
end
end Lp

set_option Elab.async false
set_option linter.all false
set_option maxRecDepth 100000
set_option maxHeartbeats 4000000
/-! Lp11: the operators, each by one rule; names of the module. -/
namespace Lp
open PySem PySem.Spec PyProof.Rows L2

/-- ascending by the list of ints -/
def intsOf (xs : List PV) : Option (List Int) := xs.mapM fun x => match x with
  | .int i => some i
  | _ => none
theorem ints_reps {B : Bs} {W : Wd} : ∀ {ys : List PV} {vs : List V} {bs : List Int}, Reps B W ys vs → intsOf ys = some bs → vs = bs.map V.int
  | _, _, bs, .nil, e => by
    simp [intsOf] at e; subst e; rfl
  | x :: xs, _, bs, .cons (v := v) r t, e => by
    unfold intsOf at e
    rw [List.mapM_cons] at e
    cases x with
    | int i =>
      cases q2 : xs.mapM (fun x => match x with | PV.int i => some i | _ => none) with
      | none => rw [q2] at e; cases e
      | some zs =>
        rw [q2] at e
        cases e
        rw [ints_reps t (show intsOf xs = some zs from q2)]
        cases r
        rfl
    | _ => cases e
def fTupI (g : List Int → List Int → Bool) : AH → PV → PV → Option PV := fun _ x y => match x, y with
  | .tup xs, .tup ys => match intsOf xs, intsOf ys with
    | some ns, some ms => some (.bl (g ns ms))
    | _, _ => none
  | _, _ => none
def fRepT : AH → PV → PV → Option PV := fun _ x y => match x, y with
  | .tup xs, .int k => if xs ≠ [] ∧ 2 ≤ k ∧ k ≤ 1000 ∧ xs.length ≤ 1000 then some (.tup (List.replicate k.toNat xs).flatten) else none
  | _, _ => none
section
variable {X : Cx} {B : Bs}
theorem sem_tupLt (hK : X.K = B.K) : OpSem X B (fTupI HT.lexLt) (rLtT X.K) := by
  intro W h H x y z x' y' Q hr rx ry e q
  unfold fTupI at e
  split at e
  · rename_i xs ys
    split at e
    · rename_i ns ms e1 e2
      cases e
      obtain ⟨a, vs, rfl, h1, r1⟩ := tup_ok hK hr (show Rep B W (.tup xs) x' from rx)
      obtain ⟨b, us, rfl, h2, r2⟩ := tup_ok hK hr (show Rep B W (.tup ys) y' from ry)
      rw [ints_reps r1 e1] at h1
      rw [ints_reps r2 e2] at h2
      exact ⟨a, b, ns, ms, rfl, rfl, h1, h2, q W H _ (.refl W H) (Rep.bl _).hand⟩
    · cases e
  · cases e
theorem sem_repT (hK : X.K = B.K) : OpSem X B fRepT (rRepT X.K) := by
  intro W h H x y z x' y' Q hr rx ry e q
  unfold fRepT at e
  split at e
  · rename_i xs k
    split at e
    · rename_i hz
      cases e
      obtain ⟨a, vs, rfl, h1, r1⟩ := tup_ok hK hr (show Rep B W (.tup xs) x' from rx)
      have hl := r1.length
      have l2 : vs.length ≤ 1000 := by omega
      refine ⟨a, k, vs, rfl, rep_int ry, h1, fun z => hz.1 (by rw [z] at hl; exact List.length_eq_zero_iff.mp hl), hz.2.1, hz.2.2.1, l2, fun p hp => ?_⟩
      refine q _ _ _ (.new hp ?_) (rep_tup_new (hr.fnone hp) (r1.rep k.toNat)).hand
      show (List.replicate k.toNat vs).flatten.length ≤ sizeLine
      rw [flat_len]
      have h3 : k.toNat ≤ 1000 := by have := hz.2.2.1; omega
      have h4 : vs.length * k.toNat ≤ 1000 * 1000 := Nat.mul_le_mul l2 h3
      have h5 : 1000 * 1000 ≤ sizeLine := by decide
      omega
    · cases e
  · cases e
def orR (r r' : R2) : R2 := fun x y H Q => r x y H Q ∨ r' x y H Q
def fAdd : AH → PV → PV → Option PV := fun h x y => match x, y with
  | .int i, .int j => some (.int (i + j))
  | .str _, _ => fAddS h x y
  | .tup _, _ => fAddT h x y
  | _, _ => fAddL h x y
def rAdd (K : PySem.W.Frag) : R2 := fun x y H Q => rI0 (fun i j => .int (i + j)) x y H Q ∨ (∃ i j, x = .str i ∧ y = .str j ∧ i.length + j.length ≤ sizeLine ∧ Q (.str (i ++ j)) H) ∨ rCatA K x y H Q ∨ rCat x y H Q
theorem opAdd : OpR X (binaryOp .Add) (rAdd X.K) := op_add.or (op_add_str.or (op_catA.or op_cat))
theorem semAdd (hK : X.K = B.K) : OpSem X B fAdd (rAdd X.K) := by
  intro W h H x y z x' y' Q hr rx ry e q
  unfold fAdd at e
  split at e
  · exact .inl (sem_I0 (X := X) (f := fun i j => i + j) W h H _ _ z x' y' Q hr rx ry e q)
  · exact .inr (.inl (sem_addS (X := X) (B := B) W h H _ _ z x' y' Q hr rx ry e q))
  · exact .inr (.inr (.inl (sem_addT hK W h H _ _ z x' y' Q hr rx ry e q)))
  · exact .inr (.inr (.inr (sem_addL (X := X) W h H _ _ z x' y' Q hr rx ry e q)))
def fSub : AH → PV → PV → Option PV := fI fun i j => some (i - j)
def fMul : AH → PV → PV → Option PV := fun h x y => match x, y with
  | .int _, _ => fI mulG h x y
  | .tup _, _ => fRepT h x y
  | _, _ => fRepL h x y
def rMul (K : PySem.W.Frag) : R2 := fun x y H Q => rI CMul (fun i j => .int (i * j)) x y H Q ∨ rRepT K x y H Q ∨ rRep x y H Q
theorem opMul : OpR X (binaryOp .Mult) (rMul X.K) := op_mul.or (op_repT.or op_rep)
theorem semMul (hK : X.K = B.K) : OpSem X B fMul (rMul X.K) := by
  intro W h H x y z x' y' Q hr rx ry e q
  unfold fMul at e
  split at e
  · exact .inl (sem_I (X := X) mulG_ok W h H _ _ z x' y' Q hr rx ry e q)
  · exact .inr (.inl (sem_repT hK W h H _ _ z x' y' Q hr rx ry e q))
  · exact .inr (.inr (sem_repL (X := X) W h H _ _ z x' y' Q hr rx ry e q))
def fFdv : AH → PV → PV → Option PV := fI fdivG
def fMod : AH → PV → PV → Option PV := fI modG
def fPow : AH → PV → PV → Option PV := fI powG
def fLt : AH → PV → PV → Option PV := fun h x y => match x, y with
  | .int i, .int j => some (.bl (decide (i < j)))
  | _, _ => fTupI HT.lexLt h x y
def rLt (K : PySem.W.Frag) : R2 := fun x y H Q => rI0 (fun i j => .bl (decide (i < j))) x y H Q ∨ rLtT K x y H Q
theorem opLt (hu : X.A.units < cLine) : OpR X (compareOp .Lt) (rLt X.K) := op_lt.or (op_ltT hu)
theorem semLt (hK : X.K = B.K) : OpSem X B fLt (rLt X.K) := by
  intro W h H x y z x' y' Q hr rx ry e q
  unfold fLt at e
  split at e
  · exact .inl (sem_IB (X := X) (g := fun i j => decide (i < j)) W h H _ _ z x' y' Q hr rx ry e q)
  · exact .inr (sem_tupLt hK W h H _ _ z x' y' Q hr rx ry e q)
def fLe : AH → PV → PV → Option PV := fIB fun i j => decide (i ≤ j)
def fGt : AH → PV → PV → Option PV := fIB fun i j => decide (j < i)
def fGe : AH → PV → PV → Option PV := fIB fun i j => decide (j ≤ i)
end
section
variable {X : Cx} {B : Bs} {N : Ent} {WX : L2.WX} {a b : Expr} {ma mb : ME} {pos : Pos} {k : Nat}
theorem sim_add (hK : X.K = B.K) (ha : SimE X B N WX a ma) (hb : SimE X B N WX b mb) : SimE X B N WX (.BinOp a .Add b pos) (eBin fAdd ma mb) := sim_op opAdd (semAdd hK) ha hb
theorem sim_sub (ha : SimE X B N WX a ma) (hb : SimE X B N WX b mb) : SimE X B N WX (.BinOp a .Sub b pos) (eBin fSub ma mb) := sim_op op_sub (sem_I0 (f := fun i j => i - j)) ha hb
theorem sim_mul (hK : X.K = B.K) (ha : SimE X B N WX a ma) (hb : SimE X B N WX b mb) : SimE X B N WX (.BinOp a .Mult b pos) (eBin fMul ma mb) := sim_op opMul (semMul hK) ha hb
theorem sim_fdv (ha : SimE X B N WX a ma) (hb : SimE X B N WX b mb) : SimE X B N WX (.BinOp a .FloorDiv b pos) (eBin fFdv ma mb) := sim_op op_fdivN (sem_I fdivG_ok) ha hb
theorem sim_mod (ha : SimE X B N WX a ma) (hb : SimE X B N WX b mb) : SimE X B N WX (.BinOp a .Mod b pos) (eBin fMod ma mb) := sim_op op_modN (sem_I (f := fun i j => i.fmod j) modG_ok) ha hb
theorem sim_pow (ha : SimE X B N WX a ma) (hb : SimE X B N WX b mb) : SimE X B N WX (.BinOp a .Pow b pos) (eBin fPow ma mb) := sim_op op_pow (sem_I powG_ok) ha hb
/-- a comparison's rule with its reading -/
structure CmpOk (X : Cx) (B : Bs) (op : CmpOp) (f : AH → PV → PV → Option PV) : Prop where
  ex : ∃ r : R2, OpR X (compareOp op) r ∧ OpSem X B f r
/-- room for what a comparison costs -/
abbrev U9 (A : Around) : Prop := A.units + 200 < cLine
theorem _root_.L2.Room.u9 {k : Nat} {A : Around} (r : Room k A) : U9 A := by have := r.un; show A.units + 200 < cLine; omega
theorem co_eq (hK : X.K = B.K) (hr : U9 X.A) : CmpOk X B .Eq fEq := ⟨_, op_eqD (Nat.lt_of_le_of_lt (by omega) hr), sem_eq hK⟩
theorem co_ne (hK : X.K = B.K) (hr : U9 X.A) : CmpOk X B .NotEq fNe := ⟨_, op_neD (Nat.lt_of_le_of_lt (by omega) hr), sem_ne hK⟩
theorem co_lt (hK : X.K = B.K) (hr : U9 X.A) : CmpOk X B .Lt fLt := ⟨_, opLt (Nat.lt_of_le_of_lt (by omega) hr), semLt hK⟩
theorem co_le : CmpOk X B .LtE fLe := ⟨_, op_le, sem_IB⟩
theorem co_gt : CmpOk X B .Gt fGt := ⟨_, op_gt, sem_IB⟩
theorem co_ge : CmpOk X B .GtE fGe := ⟨_, op_ge, sem_IB⟩
theorem co_isN : CmpOk X B .Is fIsN := ⟨_, op_isN, sem_isN⟩
theorem co_notN : CmpOk X B .IsNot fNotN := ⟨_, op_notN, sem_notN⟩
theorem co_in (hK : X.K = B.K) (hr : U9 X.A) : CmpOk X B .In fIn := ⟨_, op_in (by have hr : X.A.units + 200 < cLine := hr; omega), sem_in hK⟩
theorem co_nin (hK : X.K = B.K) (hr : U9 X.A) : CmpOk X B .NotIn fNin := ⟨_, op_nin (by have hr : X.A.units + 200 < cLine := hr; omega), sem_nin hK⟩
variable {op op' : CmpOp} {f g : AH → PV → PV → Option PV} {c : Expr} {mc : ME}
theorem sim_cm (o : CmpOk X B op f) (ha : SimE X B N WX a ma) (hb : SimE X B N WX b mb) (hm : behindInMarks op b = false) : SimE X B N WX (.Compare a [op] [b] pos) (eBin f ma mb) := by
  obtain ⟨r, h1, h2⟩ := o.ex
  exact sim_cmpO h1 h2 ha hb hm
theorem sim_tcm (o : CmpOk X B op f) (ha : SimE X B N WX a ma) (hb : SimE X B N WX b mb) (hm : behindInMarks op b = false) : SimT X B N WX (.Compare a [op] [b] pos) (bM (eBin f ma mb)) := by
  obtain ⟨r, h1, h2⟩ := o.ex
  exact sim_tcmpO h1 h2 ha hb hm
theorem sim_ch (o : CmpOk X B op f) (o' : CmpOk X B op' g) (ha : SimE X B N WX a ma) (hb : SimE X B N WX b mb) (hc : SimE X B N WX c mc) (hm : lastMarks [op, op'] [b, c] = false) : SimE X B N WX (.Compare a [op, op'] [b, c] pos) (eChain f g ma mb mc) := by
  obtain ⟨r, h1, h2⟩ := o.ex
  obtain ⟨r', h3, h4⟩ := o'.ex
  exact sim_chain h1 h3 h2 h4 ha hb hc hm
theorem sim_tch (o : CmpOk X B op f) (o' : CmpOk X B op' g) (ha : SimE X B N WX a ma) (hb : SimE X B N WX b mb) (hc : SimE X B N WX c mc) (hm : lastMarks [op, op'] [b, c] = false) : SimT X B N WX (.Compare a [op, op'] [b, c] pos) (bM (eChain f g ma mb mc)) := by
  obtain ⟨r, h1, h2⟩ := o.ex
  obtain ⟨r', h3, h4⟩ := o'.ex
  exact sim_tchain h1 h3 h2 h4 ha hb hc hm

/-! built-ins -/
/-- a call of a built-in -/
structure BiOk (X : Cx) (B : Bs) (x : Str) (f : AH → List PV → Option PV) : Prop where
  ex : ∃ (v : Value) (r : List V → Hp → VK → Prop), bootBuiltins x = some v ∧ CallR X v r ∧ CallSem X B f r ∧ ((∃ id, v = .builtin id) ∨ ∃ T, v = .type T)
variable {x : Str} {p : Pos} {e : Expr} {es : List Expr} {ma : MA} {fb : AH → List PV → Option PV}
theorem sim_bi (o : BiOk X B x fb) (hg : Gl X x) (hm : X.mg x = none) (ha : SimA X B N WX (e :: es) ma) (hn : x ≠ "__name__") (hdb : (x == ("__debug__" : Str)) = false)
    (he : starEach (e :: es) X.env = (false, eval e X.env) :: starEach es X.env) (hpl : (backTo pos (starEach es X.env)).any (·.1) = false) : SimE X B N WX (.Call (.Name x p) (e :: es) [] pos) (eCB fb ma) := by
  obtain ⟨v, r, h1, h2, h3, h4⟩ := o.ex
  rcases h4 with ⟨id, rfl⟩ | ⟨T, rfl⟩
  · exact sim_callB h2 h3 hg hm h1 ha hn hdb he hpl
  · exact sim_callTy h2 h3 hg hm h1 ha hn hdb he hpl
theorem boot_all : bootBuiltins "all" = some (.builtin "all") := by decide +kernel
theorem boot_any : bootBuiltins "any" = some (.builtin "any") := by decide +kernel
theorem bi_isi (hK : X.K = B.K) : BiOk X B "isinstance" bIsi := ⟨_, _, PyProof.Rows.boot_isinstance, call_isiB, sem_isi hK, .inl ⟨_, rfl⟩⟩
theorem bi_len (hK : X.K = B.K) : BiOk X B "len" bLen := ⟨_, _, PySem.boot_len, call_len, sem_len hK, .inl ⟨_, rfl⟩⟩
theorem bi_all (hK : X.K = B.K) (hc : X.calm = true) : BiOk X B "all" bAll := ⟨_, _, boot_all, cr_all hc, sem_all hK, .inl ⟨_, rfl⟩⟩
theorem bi_any (hK : X.K = B.K) (hc : X.calm = true) : BiOk X B "any" bAny := ⟨_, _, boot_any, cr_any hc, sem_any hK, .inl ⟨_, rfl⟩⟩
theorem bi_int : BiOk X B "int" bInt := ⟨_, _, PyProof.Rows.boot_int, call_int1, sem_int1, .inr ⟨_, rfl⟩⟩
theorem bi_list (hK : X.K = B.K) : BiOk X B "list" bList := ⟨_, _, PyProof.Rows.boot_list, call_list_of, sem_list hK, .inr ⟨_, rfl⟩⟩
theorem bi_tuple (hK : X.K = B.K) : BiOk X B "tuple" bTuple := ⟨_, _, PyProof.Rows.boot_tuple, call_tuple_of, sem_tuple hK, .inr ⟨_, rfl⟩⟩
end
end Lp

set_option Elab.async false
set_option linter.all false
set_option maxRecDepth 100000
set_option maxHeartbeats 4000000
/-! Lp12: what printed derivations use. -/
namespace Lp
open PySem PySem.Spec PyProof.Rows L2
def sokB (x : Str) : Bool := PyData.strOk x && decide (x.length ≤ sizeLine)
theorem sok_of {x : Str} (h : sokB x = true) : SOk x := by
  obtain ⟨a, b⟩ := Bool.and_eq_true_iff.mp h
  exact ⟨a, of_decide_eq_true b⟩
def kindEq (a b : NameKind) : Bool := match a, b with
  | .local, .local => true
  | .cell, .cell => true
  | .free, .free => true
  | _, _ => false
theorem kindEq_ok {a b : NameKind} (h : kindEq a b = true) : a = b := by cases a <;> cases b <;> first | rfl | cases h
theorem takesWF (X : Cx) (u : Value) (s : Shared) (x : XE X WF u s) : X.xe u s := by
  obtain ⟨a, B, sI, pins, σ, H, cls, d, e, I, nb, up, sky, na, os, ag, w⟩ := x
  exact w.elim
section
variable {X : Cx} {B : Bs} {N : Ent} {WX : L2.WX} {x : Str} {pos : Pos} {v : V} {y : PV}
theorem sim_gl (hg : Gl X x) (h : ∃ u, X.mg x = some u ∧ RelV v u) (rx : ∀ W, Rep B W y v) (hd : (x == ("__debug__" : Str)) = false := by rfl) : SimE X B N WX (.Name x pos) (eC y) := by
  obtain ⟨u, hm, r⟩ := h
  exact sim_c (pe_glob hg hm r hd) rx
end
def blkB (N : List Str) (sc scope : Scope) (own : List (Str × Nat)) : Bool := (match scope.kind with | .function => true | _ => false) && (scope.names.all (fun y => decide (scope.names.lookup y.1 = some y.2)) && (own.all (fun p => decide (N[p.2]? = some p.1)) &&
  (scope.names.all (fun y => !decide (y.2 = .free) || (decide (sc.names.lookup y.1 = some .cell) || decide (sc.names.lookup y.1 = some .free))) && scope.names.all fun y => !(decide (y.2 = .local) || decide (y.2 = .cell)) || (decide (y.1 ∈ own.map (·.1)) || !decide (y.1 ∈ N)))))
theorem blk_of {N : List Str} {sc scope : Scope} {own : List (Str × Nat)} (h : blkB N sc scope own = true) : BlkOk N sc scope own := by
  unfold blkB at h
  simp only [Bool.and_eq_true, List.all_eq_true, Bool.or_eq_true, Bool.not_eq_true', decide_eq_true_eq, decide_eq_false_iff_not] at h
  obtain ⟨h1, h2, h3, h4, h5⟩ := h
  refine ⟨?_, h2, h3, fun y hy e => ?_, fun y hy e => ?_⟩
  · split at h1
    · assumption
    · cases h1
  · exact (h4 y hy).resolve_left fun z => z e
  · exact (h5 y hy).resolve_left fun z => by rcases e with e | e <;> rw [e] at z <;> simp at z
end Lp

set_option Elab.async false
set_option linter.all false
set_option maxRecDepth 100000
set_option maxHeartbeats 4000000
/-! Lp13: a law's end. -/
namespace Lp
open PySem PySem.Spec PyProof.Rows L2
theorem reps_ints {B : Bs} {W : Wd} : ∀ ns : List Int, Reps B W (ns.map PV.int) (ns.map V.int)
  | [] => .nil
  | n :: ns => .cons (.int n) (reps_ints ns)
/-- within the line, the tables apart -/
def HzO (H : Hp) : Prop := ∀ b o, H b = some o → NT o → SzO o
theorem law_at {B : Bs} {W : Wd} {m : MF} {ns : List Int} {H : Hp} {a : Addr} (hz : HzO H) (hT : LamX.Tabs B.T H) (hm : W.m = []) (ag : ∀ b o, W.F b = some o → H b = some o) (nt : ∀ b o, W.F b = some o → NT o) (sc : ScrAt B W a (ns.map V.int))
    (h : ∃ h', m [.scr (ns.map .int)] [] = .ok (.bl true) h') : spF B 1 m [.ref a] H (fun v _ => v = .bl true) fun _ _ _ => False := by
  refine ⟨W, [], [.scr (ns.map .int)], ⟨ag, by rw [hm]; rfl, by rw [hm]; exact List.nodup_nil, fun _ z => (by rw [hm] at z; cases z), hz, nt, hT, fun n c b e => (by cases e)⟩, .cons (.scr sc (reps_ints ns)) .nil, rfl, ?_⟩
  obtain ⟨h', e⟩ := h
  rw [e]
  intro W' H' v' _ _ rv
  cases rv
  rfl
theorem law_sp {B : Bs} {m : MF} {ns : List Int} {H : Hp} {a : Addr} (hz : HzO H) (hT : LamX.Tabs B.T H) (hl : ns.length ≤ sizeLine) (hS : SqL B.K H a (ns.map V.int)) (h : ∃ h', m [.scr (ns.map .int)] [] = .ok (.bl true) h') :
    spF B 1 m [.ref a] H (fun v _ => v = .bl true) fun _ _ _ => False := by
  have hl' : (ns.map V.int).length ≤ sizeLine := by rw [List.length_map]; exact hl
  have one : ∀ o, H a = some o → NT o → ScrAt B ⟨fun b => if b = a then some o else none, []⟩ a (ns.map V.int) → spF B 1 m [.ref a] H (fun v _ => v = .bl true) fun _ _ _ => False := fun o e nt sc => by
    have at_ : ∀ b u, (if b = a then some o else none) = some u → b = a ∧ u = o := fun b u z => by
      split at z
      · rename_i hb; cases z; exact ⟨hb, rfl⟩
      · cases z
    exact law_at hz hT rfl (fun b u z => by obtain ⟨rfl, rfl⟩ := at_ b u z; exact e) (fun b u z => by obtain ⟨rfl, rfl⟩ := at_ b u z; exact nt) sc h
  rcases hS with (q | ⟨o, q⟩) | q
  · exact one _ q nt_lst (.inl ⟨.inl (if_pos rfl), hl'⟩)
  · exact one _ q (fun _ z => nomatch z) (.inl ⟨.inr ⟨o, if_pos rfl⟩, hl'⟩)
  · exact law_at (W := ⟨fun _ => none, []⟩) hz hT rfl (fun _ _ z => nomatch z) (fun _ _ z => nomatch z) (.inr q) h
/-- a promise that leans on the sizes of what is tracked -/
def spZ (n : Nat) (sp : Sp) : Sp := fun vs H Q E => vs.length = n ∧ (HzO H → sp vs H Q E)
theorem fn_bad {P : Program} {w : World} {K : PySem.W.Frag} {mg : Str → Option Value} {base : Heap} {x qual : Str} {params : Arguments} {body : List Stmt} {scope : Scope} {dvs : List V} {kws : List (Str × V)} {f : Addr} {fd : FuncData} {names ps : List Str} {k n : Nat} {B : Bs}
    (F : FunD K x qual params body scope dvs kws f fd) (S : FnScope names ps scope) : FnOk P w K mg base (L2.CX P w) (k + 1) f fd ps (spF B n fun _ _ => .bad) :=
  F.ok S (fun vs H Q E ⟨_, _, _, _, _, _, z⟩ => z.elim) fun _ _ _ _ _ _ _ _ _ ⟨_, _, _, _, _, _, z⟩ => z.elim
theorem hzo_of {P : Program} {w : World} {H : Hp} {h : Heap} (x : HOk P w H h) : HzO H := fun b o e nt => by
  have q := x b o e
  cases o with
  | lst vs => exact q.1
  | tup vs => exact q.1
  | tbl ps => exact absurd rfl (nt ps)
  | _ => trivial
theorem spz_ok {P : Program} {w : World} {K : PySem.W.Frag} {mg : Str → Option Value} {base : Heap} {CX : CXT} {k n : Nat} {f : Addr} {fd : FuncData} {ps : List Str} {sp : Sp} (F : FnOk P w K mg base CX k f fd ps sp) (hn : ps.length = n) : FnOk P w K mg base CX k f fd ps (spZ n sp) :=
  ⟨fun vs H Q E q => by rw [q.1, hn], fun A outer s H args us vs Q E hr e0 hb hv q => F.run A outer s H args us vs Q E hr e0 hb hv (q.2 (hzo_of e0.hok))⟩
end Lp

set_option Elab.async false
set_option linter.all false
set_option maxRecDepth 100000
set_option maxHeartbeats 4000000
/-! Lq1: what a reading does, step by step. -/
namespace Lp
open PySem PySem.Spec PyProof.Rows L2
section
variable {τ α β : Type} {P : α → τ → Prop} {E : PV → τ → Prop}
theorem p_ok {a : α} {s : τ} (h : P a s) : (R.ok a s).post P E := h
theorem p_exc {x : PV} {s : τ} (h : E x s) : (R.exc x s : R τ α).post P E := h
theorem p_bind {r : R τ α} {f : α → τ → R τ β} {Q : β → τ → Prop} (h : r.post (fun a s => (f a s).post Q E) E) : (r.bind f).post Q E := by
  cases r with
  | ok a s => exact h
  | exc x s => exact h
  | bad => exact h
theorem p_eq {r : R τ α} {a : α} {s : τ} (e : r = .ok a s) (h : P a s) : r.post P E := by rw [e]; exact h
theorem p_mono {r : R τ α} {P' : α → τ → Prop} {E' : PV → τ → Prop} (h : r.post P' E') (k : ∀ a s, P' a s → P a s) (k' : ∀ x s, E' x s → E x s) : r.post P E := R.post_mono h k k'
/-- .. that raises nothing -/
def NE {τ : Type} : PV → τ → Prop := fun _ _ => False
theorem p_spec {r : R τ α} {P' : α → τ → Prop} (h : r.post P' NE) (k : ∀ a s, P' a s → P a s) : r.post P E := R.post_mono h k fun _ _ z => z.elim
theorem p_ex {r : R τ α} (h : r.post P NE) : ∃ a s, r = .ok a s ∧ P a s := by
  cases r with
  | ok a s => exact ⟨a, s, rfl, h⟩
  | exc x s => exact h.elim
  | bad => exact h.elim
theorem p_and {r : R τ α} {P' : α → τ → Prop} (h : r.post P NE) (h' : r.post P' NE) : r.post (fun a s => P a s ∧ P' a s) NE := by
  cases r with
  | ok a s => exact ⟨h, h'⟩
  | exc x s => exact h.elim
  | bad => exact h.elim
end
/-- a branch -/
def br0 (c : Bool) (A C : Prop) : Prop := match c with
  | true => A
  | false => C
@[irreducible] def br (c : Bool) (A C : Prop) : Prop := br0 c A C
theorem br_eq : br = br0 := by
  funext c A C
  unfold br
  rfl
theorem p_br {c : Bool} {A C : Prop} (h1 : c = true → A) (h2 : c = false → C) : br c A C := by
  rw [br_eq]
  cases c
  · exact h2 rfl
  · exact h1 rfl
theorem p_brt {c : Bool} {A C : Prop} (e : c = true) (h : A) : br c A C := by rw [br_eq]; subst e; exact h
theorem p_brf {c : Bool} {A C : Prop} (e : c = false) (h : C) : br c A C := by rw [br_eq]; subst e; exact h
section
variable {P : PV → S → Prop} {PB : Bool → S → Prop} {PA : List PV → S → Prop} {PO : Option Int → S → Prop} {PF : Fl → S → Prop} {E : PV → S → Prop} {s : S}
variable {a b c m : ME} {ma : MA} {ta tb : S → R S Bool} {f g : AH → PV → PV → Option PV} {v : PV} {i : Nat}
theorem p0_var (e : s.e[i]? = some (some v)) (h : P v s) : (eVar i s).post P E := by unfold eVar; rw [e]; exact h
theorem p0_c (h : P v s) : (eC v s).post P E := h
theorem p0_bin (h : (a s).post (fun x s1 => (b s1).post (fun y s2 => ∃ z, f s2.h x y = some z ∧ P z s2) E) E) : (eBin f a b s).post P E :=
  p_bind (p_mono h (fun x s1 q => p_bind (p_mono q (fun y s2 ⟨z, e, q⟩ => by simp only [e]; exact q) fun _ _ z => z)) fun _ _ z => z)
theorem p0_nil (h : PA [] s) : (aNil s).post PA E := h
theorem p0_cons (h : (a s).post (fun v s1 => (ma s1).post (fun vs s2 => PA (v :: vs) s2) E) E) : (aCons a ma s).post PA E :=
  p_bind (p_mono h (fun x s1 q => p_bind q) fun _ _ z => z)
theorem p0_star (h : (a s).post (fun v s1 => ∃ xs, asS s1.h v = some xs ∧ (ma s1).post (fun vs s2 => PA (xs ++ vs) s2) E) E) : (aStar a ma s).post PA E :=
  p_bind (p_mono h (fun x s1 ⟨xs, e, q⟩ => by simp only [e]; exact p_bind q) fun _ _ z => z)
theorem p0_tup (h : (ma s).post (fun vs s1 => (allSh vs = true ∧ vs.length ≤ 16777216) ∧ P (.tup vs) s1) E) : (eTup ma s).post P E :=
  p_bind (p_mono h (fun vs s1 ⟨⟨h1, h2⟩, q⟩ => by rw [h1, decide_eq_true h2]; exact q) fun _ _ z => z)
theorem p0_lst (h : (ma s).post (fun vs s1 => (allSh vs = true ∧ vs.length ≤ 16777216) ∧ P (.lst vs) s1) E) : (eLst ma s).post P E :=
  p_bind (p_mono h (fun vs s1 ⟨⟨h1, h2⟩, q⟩ => by rw [h1, decide_eq_true h2]; exact q) fun _ _ z => z)
theorem p0_nlst (h : (ma s).post (fun vs s1 => (allSh vs = true ∧ vs.length ≤ sizeLine) ∧ PA vs s1) E) : (nLst ma s).post PA E :=
  p_bind (p_mono h (fun vs s1 ⟨h1, q⟩ => by simp only [if_pos h1]; exact q) fun _ _ z => z)
theorem p0_sh {mn : S → R S (List PV)} (h : (mn s).post (fun xs s1 => P (.lst xs) s1) E) : (shN mn s).post P E := p_bind h
theorem p0_cel {mn : S → R S (List PV)} (h : (mn s).post (fun xs s1 => P (.cel s1.h.length) ⟨s1.e, s1.h ++ [some (.lst xs)]⟩) E) : (eCel mn s).post P E := p_bind h
theorem p0_cb {fb : AH → List PV → Option PV} (h : (ma s).post (fun vs s1 => ∃ z, fb s1.h vs = some z ∧ P z s1) E) : (eCB fb ma s).post P E :=
  p_bind (p_mono h (fun vs s1 ⟨z, e, q⟩ => by simp only [e]; exact q) fun _ _ z => z)
theorem p0_chain (h : (a s).post (fun x s1 => (b s1).post (fun y s2 => ∃ k, f s2.h x y = some (.bl k) ∧ br0 k ((c s2).post (fun w s3 => ∃ z, g s3.h y w = some z ∧ P z s3) E) (P (.bl false) s2)) E) E) : (eChain f g a b c s).post P E :=
  p_bind (p_mono h (fun x s1 q => p_bind (p_mono q (fun y s2 ⟨k, e, q⟩ => by
    simp only [e]
    cases k with
    | true => exact p_bind (p_mono q (fun w s3 ⟨z, e, q⟩ => by simp only [e]; exact q) fun _ _ z => z)
    | false => exact q) fun _ _ z => z)) fun _ _ z => z)
theorem p0_onone (h : PO none s) : (oNone s).post PO E := h
theorem p0_osome (h : (a s).post (fun v s1 => ∃ i, v = .int i ∧ PO (some i) s1) E) : (oSome a s).post PO E :=
  p_bind (p_mono h (fun v s1 ⟨i, e, q⟩ => by subst e; exact q) fun _ _ z => z)
theorem p0_sl {lo hi : S → R S (Option Int)} (h : (a s).post (fun v s1 => (lo s1).post (fun l s2 => (hi s2).post (fun u s3 => ∃ z, fSl s3.h v l u = some z ∧ P z s3) E) E) E) : (eSl a lo hi s).post P E :=
  p_bind (p_mono h (fun x s1 q => p_bind (p_mono q (fun y s2 q => p_bind (p_mono q (fun u s3 ⟨z, e, q⟩ => by simp only [e]; exact q) fun _ _ z => z)) fun _ _ z => z)) fun _ _ z => z)
theorem p0_callH {n : Nat} {mf : MF} {vs : List PV} (h : (vs.length = n ∧ allSh vs = true) ∧ (mf vs s.h).post (fun v h => P v ⟨s.e, h⟩) (fun x h => E x ⟨s.e, h⟩)) : (callH n mf vs s).post P E := by
  unfold callH
  rw [if_pos h.1]
  unfold lift
  have q := h.2
  split <;> rename_i e <;> rw [e] at q <;> exact q
theorem p0_call {n : Nat} {mf : MF} (h : (ma s).post (fun vs s1 => (vs.length = n ∧ allSh vs = true) ∧ (mf vs s1.h).post (fun v h => P v ⟨s1.e, h⟩) (fun x h => E x ⟨s1.e, h⟩)) E) : (eCall n mf ma s).post P E :=
  p_bind (p_mono h (fun vs s1 q => p0_callH q) fun _ _ z => z)
theorem p0_callK {n0 nk n : Nat} {ix : List Nat} {mf : MF} {mk : MA} (h : (ma s).post (fun vs s1 => (mk s1).post (fun zs s2 => ((vs.length = n0 ∧ zs.length = nk) ∧ allSh vs = true ∧ allSh zs = true) ∧ ((pick ix (vs ++ zs)).length = n ∧ allSh (pick ix (vs ++ zs)) = true) ∧
    (mf (pick ix (vs ++ zs)) s2.h).post (fun v h => P v ⟨s2.e, h⟩) (fun x h => E x ⟨s2.e, h⟩)) E) E) : (eCallK n0 nk ix n mf ma mk s).post P E :=
  p_bind (p_mono h (fun vs s1 q => p_bind (p_mono q (fun zs s2 q => by simp only [if_pos q.1]; exact p0_callH q.2) fun _ _ z => z)) fun _ _ z => z)
theorem p_if {k : Nat} : True := trivial
theorem p0_andV (h : (a s).post (fun v s1 => ∃ k, v = .bl k ∧ br0 k ((b s1).post P E) (P (.bl false) s1)) E) : (andV a b s).post P E :=
  p_bind (p_mono h (fun v s1 ⟨k, e, q⟩ => by subst e; cases k <;> exact q) fun _ _ z => z)
theorem p0_orV (h : (a s).post (fun v s1 => ∃ k, v = .bl k ∧ br0 k (P (.bl true) s1) ((b s1).post P E)) E) : (orV a b s).post P E :=
  p_bind (p_mono h (fun v s1 ⟨k, e, q⟩ => by subst e; cases k <;> exact q) fun _ _ z => z)
theorem p0_notV (h : (a s).post (fun v s1 => ∃ k, v = .bl k ∧ P (.bl (!k)) s1) E) : (notV a s).post P E :=
  p_bind (p_mono h (fun v s1 ⟨k, e, q⟩ => by subst e; exact q) fun _ _ z => z)
theorem p0_ifM (h : (ta s).post (fun k s1 => br0 k ((a s1).post P E) ((b s1).post P E)) E) : (ifM ta a b s).post P E :=
  p_bind (p_mono h (fun k s1 q => by cases k <;> exact q) fun _ _ z => z)
theorem p0_tM (h : (a s).post (fun v s1 => ∃ k, tru s1.h v = some k ∧ PB k s1) E) : (tM a s).post PB E :=
  p_bind (p_mono h (fun v s1 ⟨k, e, q⟩ => by simp only [e]; exact q) fun _ _ z => z)
theorem p0_bM (h : (a s).post (fun v s1 => ∃ k, v = .bl k ∧ PB k s1) E) : (bM a s).post PB E :=
  p_bind (p_mono h (fun v s1 ⟨k, e, q⟩ => by subst e; exact q) fun _ _ z => z)
theorem p0_blM (h : (ta s).post (fun k s1 => P (.bl k) s1) E) : (blM ta s).post P E := p_bind h
theorem p0_andM (h : (ta s).post (fun k s1 => br0 k ((tb s1).post PB E) (PB false s1)) E) : (andM ta tb s).post PB E :=
  p_bind (p_mono h (fun k s1 q => by cases k <;> exact q) fun _ _ z => z)
theorem p0_orM (h : (ta s).post (fun k s1 => br0 k (PB true s1) ((tb s1).post PB E)) E) : (orM ta tb s).post PB E :=
  p_bind (p_mono h (fun k s1 q => by cases k <;> exact q) fun _ _ z => z)
theorem p0_notM (h : (ta s).post (fun k s1 => PB (!k) s1) E) : (notM ta s).post PB E := p_bind h
theorem p0_ms {fm : AH → Str → List PV → Option PV} (h : (a s).post (fun o s1 => ∃ x, o = .str x ∧ (ma s1).post (fun vs s2 => ∃ z, fm s2.h x vs = some z ∧ P z s2) E) E) : (eMS fm a ma s).post P E :=
  p_bind (p_mono h (fun o s1 ⟨x, e, q⟩ => by subst e; exact p_bind (p_mono q (fun vs s2 ⟨z, e, q⟩ => by simp only [e]; exact q) fun _ _ z => z)) fun _ _ z => z)
/-! statements -/
variable {x y : MS}
theorem p0_snil (h : PF .nx s) : (sNil s).post PF E := h
theorem p0_seq (h : (x s).post (fun fl s1 => match fl with | .nx => (y s1).post PF E | fl => PF fl s1) E) : (sSeq x y s).post PF E :=
  p_bind (p_mono h (fun fl s1 q => by cases fl <;> exact q) fun _ _ z => z)
theorem p0_sexpr (h : (a s).post (fun _ s1 => PF .nx s1) E) : (sExpr a s).post PF E := p_bind h
theorem p0_ret (h : (a s).post (fun v s1 => isOwn v = false ∧ PF (.rt v) s1) E) : (sRet a s).post PF E :=
  p_bind (p_mono h (fun v s1 ⟨e, q⟩ => by rw [e]; exact q) fun _ _ z => z)
theorem p0_retN (h : PF (.rt .non) s) : (sRetN s).post PF E := h
theorem p0_sif (h : (ta s).post (fun k s1 => br0 k ((x s1).post PF E) ((y s1).post PF E)) E) : (sIf ta x y s).post PF E :=
  p_bind (p_mono h (fun k s1 q => by cases k <;> exact q) fun _ _ z => z)
theorem p0_asg (h : (a s).post (fun v s1 => isOwn v = false ∧ PF .nx ⟨s1.e.set i (some v), s1.h⟩) E) : (sAsg i a s).post PF E :=
  p_bind (p_mono h (fun v s1 ⟨e, q⟩ => by rw [e]; exact q) fun _ _ z => z)
theorem p0_asgN {mn : S → R S (List PV)} (h : (mn s).post (fun v s1 => PF .nx ⟨s1.e.set i (some (.own v)), s1.h⟩) E) : (sAsgN i mn s).post PF E := p_bind h
theorem p0_asgT {t : Tg} (h : (a s).post (fun v s1 => isOwn v = false ∧ ∃ e1, bindT t v s1.e = some e1 ∧ PF .nx ⟨e1, s1.h⟩) E) : (sAsgT t a s).post PF E :=
  p_bind (p_mono h (fun v s1 ⟨e, e1, e2, q⟩ => by simp only [e2, e]; exact q) fun _ _ z => z)
theorem p0_par {j : Nat} (h : (ma s).post (fun vs s1 => ∃ v w, vs = [v, w] ∧ (isOwn v = false ∧ isOwn w = false) ∧ PF .nx ⟨(s1.e.set i (some v)).set j (some w), s1.h⟩) E) : (sPar i j ma s).post PF E :=
  p_bind (p_mono h (fun vs s1 ⟨v, w, e, ⟨e1, e2⟩, q⟩ => by subst e; simp only [e1, e2]; exact q) fun _ _ z => z)
theorem p0_setC (h : (a s).post (fun v s1 => (b s1).post (fun o s2 => (c s2).post (fun k s3 => ∃ n xs ys, o = .cel n ∧ cellL s3.h n = some xs ∧ setL xs k v = some ys ∧ PF .nx ⟨s3.e, s3.h.set n (some (.lst ys))⟩) E) E) E) : (sSetC a b c s).post PF E :=
  p_bind (p_mono h (fun v s1 q => p_bind (p_mono q (fun o s2 q2 => p_bind (p_mono q2 (fun k s3 ⟨n, xs, ys, e1, e2, e3, q3⟩ => by subst e1; simp only [celN, e2, e3]; exact q3) fun _ _ z => z)) fun _ _ z => z)) fun _ _ z => z)
theorem p_mkF {k : Nat} {mb : MS} {xs : List PV} {h : AH} (e0 : List (Option PV)) (he : xs.map some ++ List.replicate k none = e0) {Q : PV → AH → Prop} {E : PV → AH → Prop} (q : (mb ⟨e0, h⟩).post (fun fl s => match fl with
    | .rt v => Q v s.h
    | .nx => Q .non s.h
    | _ => False) (fun x s => E x s.h)) : (mkF k mb xs h).post Q E := by
  subst he
  unfold mkF
  cases e : mb ⟨xs.map some ++ List.replicate k none, h⟩ with
  | ok fl s =>
    rw [e] at q
    cases fl <;> exact q
  | exc x s => rw [e] at q; exact q
  | bad => rw [e] at q; exact q
/-! walks -/
theorem still_w {h : AH} {r : Sr} (hr : r.w = []) : stillS h r := fun p hp => by rw [hr] at hp; cases hp
theorem still_nil {h : AH} {xs : List PV} {o : Bool} : stillS h ⟨xs, [], o⟩ := fun _ hp => by cases hp
/-- a walk over what does not change, by an invariant -/
theorem p_loop {xs : List PV} {t : Tg} (I : Nat → S → Prop) (h0 : I 0 s) (hs : ∀ (j : Nat) (v : PV) (s : S), xs[j]? = some v → I j s → ∃ e1, bindT t v s.e = some e1 ∧ (x ⟨e1, s.h⟩).post (fun fl s' => match fl with
    | .nx => I (j + 1) s'
    | .ct => I (j + 1) s'
    | .bk => PF .nx s'
    | .rt v => PF (.rt v) s') E) (hn : ∀ s, I xs.length s → PF .nx s) {o : Bool} : (loopF ⟨xs, [], o⟩ t x xs s).post PF E := by
  have go : ∀ (ys : List PV) (r : Sr) (j : Nat) (s : S), r.w = [] → (∀ k, ys[k]? = xs[j + k]?) → j + ys.length = xs.length → I j s → (loopF r t x ys s).post PF E := by
    intro ys
    induction ys with
    | nil =>
      intro r j s hr hy hl hI
      unfold loopF
      rw [if_pos (still_w hr)]
      exact hn s (by rw [← hl]; exact hI)
    | cons y ys ih =>
      intro r j s hr hy hl hI
      unfold loopF
      rw [if_pos (still_w hr)]
      obtain ⟨e1, eb, q⟩ := hs j y s (by have := hy 0; simpa using this.symm) hI
      rw [eb]
      refine p_bind (p_mono q (fun fl s' q => ?_) fun _ _ z => z)
      have nxt : I (j + 1) s' → (loopF r t x ys s').post PF E := fun hI => ih r (j + 1) s' hr (fun k => by have := hy (k + 1); simp only [List.getElem?_cons_succ] at this; rw [this]; congr 1; omega) (by simp only [List.length_cons] at hl; omega) hI
      cases fl with
      | nx => exact nxt q
      | ct => exact nxt q
      | bk => exact q
      | rt v => exact q
  exact go xs _ 0 s rfl (fun k => by simp) (by simp) h0
theorem p0_for {src : S → R S Sr} {t : Tg} (h : (src s).post (fun r s1 => r.w = [] ∧ r.o = false ∧ r.xs.length ≤ sizeLine ∧ (loopF ⟨r.xs, [], false⟩ t x r.xs s1).post PF E) E) : (sFor src t x s).post PF E :=
  p_bind (p_mono h (fun r s1 ⟨e1, e2, e3, q⟩ => by
    obtain ⟨xs, w, o⟩ := r
    simp only at e1 e2 e3 q
    subst e1 e2
    simp only [Bool.false_eq_true, false_or, if_neg (Nat.not_lt.mpr e3)]
    exact q) fun _ _ z => z)
theorem p0_any {m : ME} {PS : Sr → S → Prop} (h : (m s).post (fun v s1 => ∃ r, srcOf s1.h v = some r ∧ PS r s1) E) : (sAny m s).post PS E :=
  p_bind (p_mono h (fun v s1 ⟨z, e, q⟩ => by simp only [e]; exact q) fun _ _ z => z)
/-- a comprehension, by an invariant over what is made so far -/
theorem p0_compN {src : S → R S Sr} {t : Tg} {tt : S → R S Bool} {te : ME} {vs : List Nat}
    (h : (src s).post (fun r s1 => r.w = [] ∧ ∃ I : Nat → List PV → AH → Prop, I 0 [] s1.h ∧ (∀ (j : Nat) (v : PV) (acc : List PV) (h : AH), r.xs[j]? = some v → I j acc h → ∃ e1, bindT t v (wipeE s1.e vs) = some e1 ∧
      (tt ⟨e1, h⟩).post (fun k s2 => br0 k ((te s2).post (fun y s3 => isOwn y = false ∧ wipeE s3.e vs = wipeE s1.e vs ∧ I (j + 1) (acc ++ [y]) s3.h) NE) (wipeE s2.e vs = wipeE s1.e vs ∧ I (j + 1) acc s2.h)) NE) ∧ ∀ acc h, I r.xs.length acc h → PA acc ⟨wipeE s1.e vs, h⟩) E) : (eCompN src t tt te vs s).post PA E := by
  refine p_bind (p_mono h (fun r s1 ⟨hw, I, h0, hs, hn⟩ => ?_) fun _ _ z => z)
  have ww : wipeE (wipeE s1.e vs) vs = wipeE s1.e vs := by
    have key : ∀ (us : List Nat) (e : List (Option PV)), (∀ u ∈ us, u ∈ vs) → wipeE (wipeE e us) vs = wipeE e vs := by
      intro us e
      induction us with
      | nil => intro _; rfl
      | cons u us ih =>
        intro hu
        show wipeE ((wipeE e us).set u none) vs = wipeE e vs
        have : ∀ (l : List (Option PV)) (ws : List Nat), u ∈ ws → wipeE (l.set u none) ws = wipeE l ws := by
          intro l ws
          induction ws with
          | nil => intro z; cases z
          | cons w ws ih2 =>
            intro z
            show (wipeE (l.set u none) ws).set w none = (wipeE l ws).set w none
            by_cases hm : u ∈ ws
            · rw [ih2 hm]
            · have hw : u = w := by
                rcases List.mem_cons.mp z with z | z
                · exact z
                · exact absurd z hm
              subst hw
              have go : ∀ zs : List Nat, u ∉ zs → wipeE (l.set u none) zs = (wipeE l zs).set u none := by
                intro zs
                induction zs with
                | nil => intro _; rfl
                | cons y zs ih3 =>
                  intro hy
                  simp only [List.mem_cons, not_or] at hy
                  show (wipeE (l.set u none) zs).set y none = ((wipeE l zs).set y none).set u none
                  rw [ih3 hy.2, List.set_comm _ _ hy.1]
              rw [go ws hm, List.set_set]
        rw [this _ _ (hu u (by simp))]
        exact ih fun w hw => hu w (List.mem_cons_of_mem _ hw)
    exact key vs _ fun _ h => h
  have go : ∀ (ys : List PV) (j : Nat) (acc : List PV) (h : AH) (e : List (Option PV)), wipeE e vs = wipeE s1.e vs → (∀ k, ys[k]? = r.xs[j + k]?) → j + ys.length = r.xs.length → I j acc h → (ys = [] → e = wipeE s1.e vs) → (loopC r t tt te vs ys acc ⟨e, h⟩).post PA E := by
    intro ys
    induction ys with
    | nil =>
      intro j acc h e he hy hl hI hz
      unfold loopC
      rw [hz rfl]
      exact hn acc h (by rw [← hl]; exact hI)
    | cons y ys ih =>
      intro j acc h e he hy hl hI hz
      unfold loopC
      obtain ⟨e1, eb, q⟩ := hs j y acc h (by have := hy 0; simpa using this.symm) hI
      unfold stepC
      simp only [he, eb]
      have nx : ∀ {α : Type} {r : R S α} {P : α → S → Prop}, r.post P NE → r.nx.post P NE := fun {α r P} z => by
        cases r with
        | ok a s => exact z
        | exc x s => exact z.elim
        | bad => exact z.elim
      refine p_bind (p_spec (P' := fun acc' s' => s'.e = wipeE s1.e vs ∧ I (j + 1) acc' s'.h) (p_bind (p_mono (nx q) (fun k s2 q => ?_) fun _ _ z => z)) fun acc' s' ⟨q1, q2⟩ => ?_)
      · cases k with
        | true =>
          rw [if_pos rfl]
          refine p_bind (p_mono (nx q) (fun v s3 ⟨o, q1, q2⟩ => ?_) fun _ _ z => z)
          rw [o]
          exact ⟨q1, q2⟩
        | false =>
          rw [if_neg (by decide)]
          exact q
      · rw [if_pos (still_w hw)]
        obtain ⟨e', h'⟩ := s'
        simp only at q1 q2
        subst q1
        exact ih (j + 1) acc' h' _ ww (fun k => by have := hy (k + 1); simp only [List.getElem?_cons_succ] at this; rw [this]; congr 1; omega) (by simp only [List.length_cons] at hl; omega) q2 fun _ => rfl
  exact go r.xs 0 [] s1.h _ ww (fun k => by simp) (by simp) h0 fun _ => rfl
end
/-! the readings' words, closed -/
@[irreducible] def xEVar (i : Nat) : ME := eVar i
@[irreducible] def xEC (v : PV) : ME := eC v
@[irreducible] def xEBin (f : AH → PV → PV → Option PV) (a b : ME) : ME := eBin f a b
@[irreducible] def xANil : MA := aNil 
@[irreducible] def xACons (m : ME) (r : MA) : MA := aCons m r
@[irreducible] def xAStar (m : ME) (r : MA) : MA := aStar m r
@[irreducible] def xETup (ma : MA) : ME := eTup ma
@[irreducible] def xELst (ma : MA) : ME := eLst ma
@[irreducible] def xNLst (ma : MA) : S → R S (List PV) := nLst ma
@[irreducible] def xShN (m : S → R S (List PV)) : ME := shN m
@[irreducible] def xECel (m : S → R S (List PV)) : ME := eCel m
@[irreducible] def xECB (f : AH → List PV → Option PV) (ma : MA) : ME := eCB f ma
@[irreducible] def xEChain (f g : AH → PV → PV → Option PV) (a b c : ME) : ME := eChain f g a b c
@[irreducible] def xONone : S → R S (Option Int) := oNone 
@[irreducible] def xOSome (m : ME) : S → R S (Option Int) := oSome m
@[irreducible] def xESl (m : ME) (lo hi : S → R S (Option Int)) : ME := eSl m lo hi
@[irreducible] def xCallH (n : Nat) (m : MF) (vs : List PV) : ME := callH n m vs
@[irreducible] def xECall (n : Nat) (m : MF) (ma : MA) : ME := eCall n m ma
@[irreducible] def xECallK (n0 nk : Nat) (ix : List Nat) (n : Nat) (m : MF) (ma mk : MA) : ME := eCallK n0 nk ix n m ma mk
@[irreducible] def xAndV (a b : ME) : ME := andV a b
@[irreducible] def xOrV (a b : ME) : ME := orV a b
@[irreducible] def xNotV (a : ME) : ME := notV a
@[irreducible] def xIfM (c : S → R S Bool) (a b : ME) : ME := ifM c a b
@[irreducible] def xTM (m : ME) : S → R S Bool := tM m
@[irreducible] def xBM (m : ME) : S → R S Bool := bM m
@[irreducible] def xBlM (a : S → R S Bool) : ME := blM a
@[irreducible] def xAndM (a b : S → R S Bool) : S → R S Bool := Lp.andM a b
@[irreducible] def xOrM (a b : S → R S Bool) : S → R S Bool := Lp.orM a b
@[irreducible] def xNotM (a : S → R S Bool) : S → R S Bool := Lp.notM a
@[irreducible] def xEMS (f : AH → Str → List PV → Option PV) (mo : ME) (ma : MA) : ME := eMS f mo ma
@[irreducible] def xSNil : MS := sNil 
@[irreducible] def xSSeq (a b : MS) : MS := sSeq a b
@[irreducible] def xSExpr (m : ME) : MS := sExpr m
@[irreducible] def xSRet (m : ME) : MS := sRet m
@[irreducible] def xSRetN : MS := sRetN 
@[irreducible] def xSIf (c : S → R S Bool) (a b : MS) : MS := sIf c a b
@[irreducible] def xSAsg (i : Nat) (m : ME) : MS := sAsg i m
@[irreducible] def xSAsgN (i : Nat) (m : S → R S (List PV)) : MS := sAsgN i m
@[irreducible] def xSAsgT (t : Tg) (m : ME) : MS := sAsgT t m
@[irreducible] def xSPar (i j : Nat) (ma : MA) : MS := sPar i j ma
@[irreducible] def xSSetC (mv mo mi : ME) : MS := sSetC mv mo mi
@[irreducible] noncomputable def xSFor (src : S → R S Sr) (t : Tg) (body : MS) : MS := sFor src t body
@[irreducible] def xSAny (m : ME) : S → R S Sr := sAny m
@[irreducible] noncomputable def xECompN (src : S → R S Sr) (t : Tg) (tt : S → R S Bool) (te : ME) (vs : List Nat) : S → R S (List PV) := eCompN src t tt te vs
section
variable {P : PV → S → Prop} {PB : Bool → S → Prop} {PA : List PV → S → Prop} {PO : Option Int → S → Prop} {PF : Fl → S → Prop} {E : PV → S → Prop} {s : S}
variable {a b c m : ME} {ma : MA} {ta tb : S → R S Bool} {f g : AH → PV → PV → Option PV} {v : PV} {i : Nat} {x y : MS}
theorem p_var (e : s.e[i]? = some (some v)) (h : P v s) : (xEVar i s).post P E := by
  unfold xEVar
  exact p0_var e h
theorem p_c (h : P v s) : (xEC v s).post P E := by
  unfold xEC
  exact p0_c h
theorem p_bin (h : (a s).post (fun x s1 => (b s1).post (fun y s2 => ∃ z, f s2.h x y = some z ∧ P z s2) E) E) : (xEBin f a b s).post P E := by
  unfold xEBin
  exact p0_bin h
theorem p_nil (h : PA [] s) : (xANil s).post PA E := by
  unfold xANil
  exact p0_nil h
theorem p_cons (h : (a s).post (fun v s1 => (ma s1).post (fun vs s2 => PA (v :: vs) s2) E) E) : (xACons a ma s).post PA E := by
  unfold xACons
  exact p0_cons h
theorem p_star (h : (a s).post (fun v s1 => ∃ xs, asS s1.h v = some xs ∧ (ma s1).post (fun vs s2 => PA (xs ++ vs) s2) E) E) : (xAStar a ma s).post PA E := by
  unfold xAStar
  exact p0_star h
theorem p_tup (h : (ma s).post (fun vs s1 => (allSh vs = true ∧ vs.length ≤ 16777216) ∧ P (.tup vs) s1) E) : (xETup ma s).post P E := by
  unfold xETup
  exact p0_tup h
theorem p_lst (h : (ma s).post (fun vs s1 => (allSh vs = true ∧ vs.length ≤ 16777216) ∧ P (.lst vs) s1) E) : (xELst ma s).post P E := by
  unfold xELst
  exact p0_lst h
theorem p_nlst (h : (ma s).post (fun vs s1 => (allSh vs = true ∧ vs.length ≤ sizeLine) ∧ PA vs s1) E) : (xNLst ma s).post PA E := by
  unfold xNLst
  exact p0_nlst h
theorem p_sh {mn : S → R S (List PV)} (h : (mn s).post (fun xs s1 => P (.lst xs) s1) E) : (xShN mn s).post P E := by
  unfold xShN
  exact p0_sh h
theorem p_cel {mn : S → R S (List PV)} (h : (mn s).post (fun xs s1 => P (.cel s1.h.length) ⟨s1.e, s1.h ++ [some (.lst xs)]⟩) E) : (xECel mn s).post P E := by
  unfold xECel
  exact p0_cel h
theorem p_cb {fb : AH → List PV → Option PV} (h : (ma s).post (fun vs s1 => ∃ z, fb s1.h vs = some z ∧ P z s1) E) : (xECB fb ma s).post P E := by
  unfold xECB
  exact p0_cb h
theorem p_chain (h : (a s).post (fun x s1 => (b s1).post (fun y s2 => ∃ k, f s2.h x y = some (.bl k) ∧ br k ((c s2).post (fun w s3 => ∃ z, g s3.h y w = some z ∧ P z s3) E) (P (.bl false) s2)) E) E) : (xEChain f g a b c s).post P E := by
  unfold xEChain
  simp only [br_eq] at h
  exact p0_chain h
theorem p_onone (h : PO none s) : (xONone s).post PO E := by
  unfold xONone
  exact p0_onone h
theorem p_osome (h : (a s).post (fun v s1 => ∃ i, v = .int i ∧ PO (some i) s1) E) : (xOSome a s).post PO E := by
  unfold xOSome
  exact p0_osome h
theorem p_sl {lo hi : S → R S (Option Int)} (h : (a s).post (fun v s1 => (lo s1).post (fun l s2 => (hi s2).post (fun u s3 => ∃ z, fSl s3.h v l u = some z ∧ P z s3) E) E) E) : (xESl a lo hi s).post P E := by
  unfold xESl
  exact p0_sl h
theorem p_callH {n : Nat} {mf : MF} {vs : List PV} (h : (vs.length = n ∧ allSh vs = true) ∧ (mf vs s.h).post (fun v h => P v ⟨s.e, h⟩) (fun x h => E x ⟨s.e, h⟩)) : (xCallH n mf vs s).post P E := by
  unfold xCallH
  exact p0_callH h
theorem p_call {n : Nat} {mf : MF} (h : (ma s).post (fun vs s1 => (vs.length = n ∧ allSh vs = true) ∧ (mf vs s1.h).post (fun v h => P v ⟨s1.e, h⟩) (fun x h => E x ⟨s1.e, h⟩)) E) : (xECall n mf ma s).post P E := by
  unfold xECall
  exact p0_call h
theorem p_callK {n0 nk n : Nat} {ix : List Nat} {mf : MF} {mk : MA} (h : (ma s).post (fun vs s1 => (mk s1).post (fun zs s2 => ((vs.length = n0 ∧ zs.length = nk) ∧ allSh vs = true ∧ allSh zs = true) ∧ ((pick ix (vs ++ zs)).length = n ∧ allSh (pick ix (vs ++ zs)) = true) ∧
    (mf (pick ix (vs ++ zs)) s2.h).post (fun v h => P v ⟨s2.e, h⟩) (fun x h => E x ⟨s2.e, h⟩)) E) E) : (xECallK n0 nk ix n mf ma mk s).post P E := by
  unfold xECallK
  exact p0_callK h
theorem p_andV (h : (a s).post (fun v s1 => ∃ k, v = .bl k ∧ br k ((b s1).post P E) (P (.bl false) s1)) E) : (xAndV a b s).post P E := by
  unfold xAndV
  simp only [br_eq] at h
  exact p0_andV h
theorem p_orV (h : (a s).post (fun v s1 => ∃ k, v = .bl k ∧ br k (P (.bl true) s1) ((b s1).post P E)) E) : (xOrV a b s).post P E := by
  unfold xOrV
  simp only [br_eq] at h
  exact p0_orV h
theorem p_notV (h : (a s).post (fun v s1 => ∃ k, v = .bl k ∧ P (.bl (!k)) s1) E) : (xNotV a s).post P E := by
  unfold xNotV
  exact p0_notV h
theorem p_ifM (h : (ta s).post (fun k s1 => br k ((a s1).post P E) ((b s1).post P E)) E) : (xIfM ta a b s).post P E := by
  unfold xIfM
  simp only [br_eq] at h
  exact p0_ifM h
theorem p_tM (h : (a s).post (fun v s1 => ∃ k, tru s1.h v = some k ∧ PB k s1) E) : (xTM a s).post PB E := by
  unfold xTM
  exact p0_tM h
theorem p_bM (h : (a s).post (fun v s1 => ∃ k, v = .bl k ∧ PB k s1) E) : (xBM a s).post PB E := by
  unfold xBM
  exact p0_bM h
theorem p_blM (h : (ta s).post (fun k s1 => P (.bl k) s1) E) : (xBlM ta s).post P E := by
  unfold xBlM
  exact p0_blM h
theorem p_andM (h : (ta s).post (fun k s1 => br k ((tb s1).post PB E) (PB false s1)) E) : (xAndM ta tb s).post PB E := by
  unfold xAndM
  simp only [br_eq] at h
  exact p0_andM h
theorem p_orM (h : (ta s).post (fun k s1 => br k (PB true s1) ((tb s1).post PB E)) E) : (xOrM ta tb s).post PB E := by
  unfold xOrM
  simp only [br_eq] at h
  exact p0_orM h
theorem p_notM (h : (ta s).post (fun k s1 => PB (!k) s1) E) : (xNotM ta s).post PB E := by
  unfold xNotM
  exact p0_notM h
theorem p_ms {fm : AH → Str → List PV → Option PV} (h : (a s).post (fun o s1 => ∃ x, o = .str x ∧ (ma s1).post (fun vs s2 => ∃ z, fm s2.h x vs = some z ∧ P z s2) E) E) : (xEMS fm a ma s).post P E := by
  unfold xEMS
  exact p0_ms h
theorem p_snil (h : PF .nx s) : (xSNil s).post PF E := by
  unfold xSNil
  exact p0_snil h
theorem p_seq (h : (x s).post (fun fl s1 => match fl with | .nx => (y s1).post PF E | fl => PF fl s1) E) : (xSSeq x y s).post PF E := by
  unfold xSSeq
  exact p0_seq h
theorem p_sexpr (h : (a s).post (fun _ s1 => PF .nx s1) E) : (xSExpr a s).post PF E := by
  unfold xSExpr
  exact p0_sexpr h
theorem p_ret (h : (a s).post (fun v s1 => isOwn v = false ∧ PF (.rt v) s1) E) : (xSRet a s).post PF E := by
  unfold xSRet
  exact p0_ret h
theorem p_retN (h : PF (.rt .non) s) : (xSRetN s).post PF E := by
  unfold xSRetN
  exact p0_retN h
theorem p_sif (h : (ta s).post (fun k s1 => br k ((x s1).post PF E) ((y s1).post PF E)) E) : (xSIf ta x y s).post PF E := by
  unfold xSIf
  simp only [br_eq] at h
  exact p0_sif h
theorem p_asg (h : (a s).post (fun v s1 => isOwn v = false ∧ PF .nx ⟨s1.e.set i (some v), s1.h⟩) E) : (xSAsg i a s).post PF E := by
  unfold xSAsg
  exact p0_asg h
theorem p_asgN {mn : S → R S (List PV)} (h : (mn s).post (fun v s1 => PF .nx ⟨s1.e.set i (some (.own v)), s1.h⟩) E) : (xSAsgN i mn s).post PF E := by
  unfold xSAsgN
  exact p0_asgN h
theorem p_asgT {t : Tg} (h : (a s).post (fun v s1 => isOwn v = false ∧ ∃ e1, bindT t v s1.e = some e1 ∧ PF .nx ⟨e1, s1.h⟩) E) : (xSAsgT t a s).post PF E := by
  unfold xSAsgT
  exact p0_asgT h
theorem p_par {j : Nat} (h : (ma s).post (fun vs s1 => ∃ v w, vs = [v, w] ∧ (isOwn v = false ∧ isOwn w = false) ∧ PF .nx ⟨(s1.e.set i (some v)).set j (some w), s1.h⟩) E) : (xSPar i j ma s).post PF E := by
  unfold xSPar
  exact p0_par h
theorem p_setC (h : (a s).post (fun v s1 => (b s1).post (fun o s2 => (c s2).post (fun k s3 => ∃ n xs ys, o = .cel n ∧ cellL s3.h n = some xs ∧ setL xs k v = some ys ∧ PF .nx ⟨s3.e, s3.h.set n (some (.lst ys))⟩) E) E) E) : (xSSetC a b c s).post PF E := by
  unfold xSSetC
  exact p0_setC h
theorem p_for {src : S → R S Sr} {t : Tg} (h : (src s).post (fun r s1 => r.w = [] ∧ r.o = false ∧ r.xs.length ≤ sizeLine ∧ (loopF ⟨r.xs, [], false⟩ t x r.xs s1).post PF E) E) : (xSFor src t x s).post PF E := by
  unfold xSFor
  exact p0_for h
theorem p_any {m : ME} {PS : Sr → S → Prop} (h : (m s).post (fun v s1 => ∃ r, srcOf s1.h v = some r ∧ PS r s1) E) : (xSAny m s).post PS E := by
  unfold xSAny
  exact p0_any h
theorem p_compN {src : S → R S Sr} {t : Tg} {tt : S → R S Bool} {te : ME} {vs : List Nat}
    (h : (src s).post (fun r s1 => r.w = [] ∧ ∃ I : Nat → List PV → AH → Prop, I 0 [] s1.h ∧ (∀ (j : Nat) (v : PV) (acc : List PV) (h : AH), r.xs[j]? = some v → I j acc h → ∃ e1, bindT t v (wipeE s1.e vs) = some e1 ∧
      (tt ⟨e1, h⟩).post (fun k s2 => br k ((te s2).post (fun y s3 => isOwn y = false ∧ wipeE s3.e vs = wipeE s1.e vs ∧ I (j + 1) (acc ++ [y]) s3.h) NE) (wipeE s2.e vs = wipeE s1.e vs ∧ I (j + 1) acc s2.h)) NE) ∧ ∀ acc h, I r.xs.length acc h → PA acc ⟨wipeE s1.e vs, h⟩) E) : (xECompN src t tt te vs s).post PA E := by
  unfold xECompN
  simp only [br_eq] at h
  exact p0_compN h
end
end Lp

set_option Elab.async false
set_option linter.all false
set_option maxRecDepth 100000
set_option maxHeartbeats 4000000
/-! Lq2: the bag of draws. -/
namespace Lp
open PySem PySem.Spec PyProof.Rows L2
/-- a bag's list -/
def Bag (l : List PV) : Prop := ∃ (ns : List Int) (i c sd t : Int), l = [.lst (ns.map .int), .int i, .int c, .int sd, .int t] ∧ 0 ≤ i ∧ 0 ≤ c ∧ 0 ≤ sd ∧ sd < 2147483587
theorem cellL_set {h : AH} {n : Nat} {l : List PV} (hn : n < h.length) : cellL (h.set n (some (.lst l))) n = some l := by
  unfold cellL
  rw [List.getElem?_set_self hn]
theorem fIx_cel {h : AH} {n : Nat} {l : List PV} {i : Int} {z : PV} (e : cellL h n = some l) (e2 : atI l i = some z) : fIx h (.cel n) (.int i) = some z := by
  have q := cellL_ok e
  unfold fIx
  show (match asS h (.cel n) with | some xs => atI xs i | none => none) = some z
  have : asS h (.cel n) = some l := by
    unfold asS asL
    simp only [q]
  rw [this]
  exact e2
theorem p_setB {PF : Fl → S → Prop} {E : PV → S → Prop} {a b c : ME} {s : S} (q : (a s).post (fun v s1 => (b s1).post (fun o s2 => (c s2).post (fun k s3 => ∃ (n : Nat) (h : AH) (l ys : List PV), o = .cel n ∧ n < h.length ∧ s3.h = h.set n (some (.lst l)) ∧ setL l k v = some ys ∧ PF .nx ⟨s3.e, h.set n (some (.lst ys))⟩) E) E) E) :
    (xSSetC a b c s).post PF E :=
  p_setC (p_mono q (fun v s1 q => p_mono q (fun o s2 q => p_mono q (fun k s3 ⟨n, h, l, ys, e1, e2, e3, e4, q⟩ => ⟨n, l, ys, e1, by rw [e3]; exact cellL_set e2, e4, by rw [e3, List.set_set]; exact q⟩) fun _ _ z => z) fun _ _ z => z) fun _ _ z => z)
theorem atI_ints {ns : List Int} {i : Int} (h0 : 0 ≤ i) (h1 : i < ns.length) : ∃ k, atI (ns.map PV.int) i = some (.int k) := by
  unfold atI ixN
  rw [if_pos h0, List.length_map, if_pos h1]
  show ∃ k, (ns.map PV.int)[i.toNat]? = some (.int k)
  rw [List.getElem?_map, List.getElem?_eq_getElem (by omega)]
  exact ⟨_, rfl⟩
theorem eq_int {h : AH} {i j : Int} : fEq h (.int i) (.int j) = some (.bl (PyData.eqv (.int i) (.int j))) := rfl
theorem mulG_r {i j : Int} (h : j.natAbs < 18446744073709551616) : mulG i j = some (i * j) := if_pos (.inr h)
theorem mulG_l {i j : Int} (h : i.natAbs < 18446744073709551616) : mulG i j = some (i * j) := if_pos (.inl h)
theorem fMul_r {h : AH} {i j : Int} (hj : j.natAbs < 18446744073709551616) : fMul h (.int i) (.int j) = some (.int (i * j)) := by
  show (mulG i j).map PV.int = _
  rw [mulG_r hj]; rfl
theorem fMul_l {h : AH} {i j : Int} (hj : i.natAbs < 18446744073709551616) : fMul h (.int i) (.int j) = some (.int (i * j)) := by
  show (mulG i j).map PV.int = _
  rw [mulG_l hj]; rfl
theorem fMod_i {h : AH} {i j : Int} (hj : j ≠ 0) : fMod h (.int i) (.int j) = some (.int (i.fmod j)) := by
  show (modG i j).map PV.int = _
  unfold modG
  rw [if_pos hj]; rfl
theorem fFdv_i {h : AH} {i j : Int} (hj : j ≠ 0) (h2 : j.natAbs < 1073741824) : fFdv h (.int i) (.int j) = some (.int (i.fdiv j)) := by
  show (fdivG i j).map PV.int = _
  unfold fdivG
  rw [if_pos ⟨hj, h2⟩]; rfl
theorem eqv_int (i j : Int) : PyData.eqv (.int i) (.int j) = decide (i = j) := rfl
theorem fmod_lt {a b : Int} (h : 0 < b) : 0 ≤ a.fmod b ∧ a.fmod b < b := ⟨Int.fmod_nonneg_of_pos a h, Int.fmod_lt_of_pos a h⟩
noncomputable def drawMb : MS := (sSeq (sIf (andM (bM (eBin fEq (eBin fIx (eVar 0) (eC (.int 2))) (eC (.int 0)))) (bM (eBin fLt (eBin fIx (eVar 0) (eC (.int 1))) (eCB bLen (aCons (eBin fIx (eVar 0) (eC (.int 0))) aNil))))) (sSeq (sAsg 2 (eBin fIx (eBin fIx (eVar 0) (eC (.int 0))) (eBin fIx (eVar 0) (eC (.int 1)))))
  (sSeq (sSetC (eBin fAdd (eBin fIx (eVar 0) (eC (.int 1))) (eC (.int 1))) (eVar 0) (eC (.int 1)))
  (sSeq (sSetC (ifM (bM (eBin fGe (eVar 2) (eBin fPow (eC (.int 10)) (eC (.int 18))))) (eVar 2) (eC (.int 0))) (eVar 0) (eC (.int 2)))
  (sSetC (eBin fMod (eCB bInt (aCons (eBin fAdd (eBin fAdd (eBin fMul (eBin fIx (eVar 0) (eC (.int 3))) (eC (.int 40031))) (eBin fMul (eBin fMod (eCB bInt (aCons (eVar 2) aNil)) (eC (.int 2147483549))) (eC (.int 331)))) (eC (.int 2011))) aNil)) (eC (.int 2147483587))) (eVar 0) (eC (.int 3)))))) sNil)
  (sSeq (sIf (bM (eBin fGt (eBin fIx (eVar 0) (eC (.int 2))) (eC (.int 0)))) (sSeq (sAsg 3 (eBin fMod (eCB bInt (aCons (eBin fIx (eVar 0) (eC (.int 2))) aNil)) (eVar 1)))
  (sSeq (sSetC (eBin fFdv (eBin fIx (eVar 0) (eC (.int 2))) (eVar 1)) (eVar 0) (eC (.int 2)))
  (sRet (eVar 3)))) sNil)
  (sSeq (sSetC (eBin fAdd (eBin fIx (eVar 0) (eC (.int 4))) (eC (.int 1))) (eVar 0) (eC (.int 4)))
  (sSeq (sAsg 4 (eBin fIx (eVar 0) (eC (.int 3))))
  (sSeq (sSetC (eBin fMod (eCB bInt (aCons (eBin fAdd (eBin fAdd (eBin fAdd (eBin fMul (eVar 4) (eVar 4)) (eBin fMul (eC (.int 65071)) (eVar 4))) (eBin fMul (eC (.int 6673)) (eBin fIx (eVar 0) (eC (.int 4))))) (eC (.int 40013))) aNil)) (eC (.int 2147483587))) (eVar 0) (eC (.int 3)))
  (sRet (eBin fMod (eCB bInt (aCons (eBin fAdd (eBin fAdd (eBin fFdv (eBin fIx (eVar 0) (eC (.int 3))) (eC (.int 61))) (eBin fMul (eVar 4) (eC (.int 32009)))) (eBin fIx (eVar 0) (eC (.int 4)))) aNil)) (eVar 1))))))))
noncomputable def drawMx : MS := (xSSeq (xSIf (xAndM (xBM (xEBin fEq (xEBin fIx (xEVar 0) (xEC (.int 2))) (xEC (.int 0)))) (xBM (xEBin fLt (xEBin fIx (xEVar 0) (xEC (.int 1))) (xECB bLen (xACons (xEBin fIx (xEVar 0) (xEC (.int 0))) xANil))))) (xSSeq (xSAsg 2 (xEBin fIx (xEBin fIx (xEVar 0) (xEC (.int 0))) (xEBin fIx (xEVar 0) (xEC (.int 1)))))
  (xSSeq (xSSetC (xEBin fAdd (xEBin fIx (xEVar 0) (xEC (.int 1))) (xEC (.int 1))) (xEVar 0) (xEC (.int 1)))
  (xSSeq (xSSetC (xIfM (xBM (xEBin fGe (xEVar 2) (xEBin fPow (xEC (.int 10)) (xEC (.int 18))))) (xEVar 2) (xEC (.int 0))) (xEVar 0) (xEC (.int 2)))
  (xSSetC (xEBin fMod (xECB bInt (xACons (xEBin fAdd (xEBin fAdd (xEBin fMul (xEBin fIx (xEVar 0) (xEC (.int 3))) (xEC (.int 40031))) (xEBin fMul (xEBin fMod (xECB bInt (xACons (xEVar 2) xANil)) (xEC (.int 2147483549))) (xEC (.int 331)))) (xEC (.int 2011))) xANil)) (xEC (.int 2147483587))) (xEVar 0) (xEC (.int 3)))))) xSNil)
  (xSSeq (xSIf (xBM (xEBin fGt (xEBin fIx (xEVar 0) (xEC (.int 2))) (xEC (.int 0)))) (xSSeq (xSAsg 3 (xEBin fMod (xECB bInt (xACons (xEBin fIx (xEVar 0) (xEC (.int 2))) xANil)) (xEVar 1)))
  (xSSeq (xSSetC (xEBin fFdv (xEBin fIx (xEVar 0) (xEC (.int 2))) (xEVar 1)) (xEVar 0) (xEC (.int 2)))
  (xSRet (xEVar 3)))) xSNil)
  (xSSeq (xSSetC (xEBin fAdd (xEBin fIx (xEVar 0) (xEC (.int 4))) (xEC (.int 1))) (xEVar 0) (xEC (.int 4)))
  (xSSeq (xSAsg 4 (xEBin fIx (xEVar 0) (xEC (.int 3))))
  (xSSeq (xSSetC (xEBin fMod (xECB bInt (xACons (xEBin fAdd (xEBin fAdd (xEBin fAdd (xEBin fMul (xEVar 4) (xEVar 4)) (xEBin fMul (xEC (.int 65071)) (xEVar 4))) (xEBin fMul (xEC (.int 6673)) (xEBin fIx (xEVar 0) (xEC (.int 4))))) (xEC (.int 40013))) xANil)) (xEC (.int 2147483587))) (xEVar 0) (xEC (.int 3)))
  (xSRet (xEBin fMod (xECB bInt (xACons (xEBin fAdd (xEBin fAdd (xEBin fFdv (xEBin fIx (xEVar 0) (xEC (.int 3))) (xEC (.int 61))) (xEBin fMul (xEVar 4) (xEC (.int 32009)))) (xEBin fIx (xEVar 0) (xEC (.int 4)))) xANil)) (xEVar 1))))))))
theorem drawM_x : drawMb = drawMx := by kernel_rfl
@[irreducible] noncomputable def drawM : MF := mkF 3 drawMb
section
theorem draw_spec {h : AH} {n : Nat} {l : List PV} (hn : n < h.length) (b : Bag l) {k : Int} (hk : 1 ≤ k) (hk2 : k < 1073741824) :
    (drawM [.cel n, .int k] (h.set n (some (.lst l)))).post (fun v h' => ∃ d l', v = .int d ∧ 0 ≤ d ∧ d < k ∧ Bag l' ∧ h' = h.set n (some (.lst l'))) NE := by
  obtain ⟨ns, i, c, sd, t, rfl, h1, h2, h3, h4⟩ := b
  unfold drawM
  rw [drawM_x]
  unfold drawMx
  refine p_mkF [some (.cel n), some (.int k), none, none, none] rfl (p_seq (p_spec (P' := fun fl s1 => fl = .nx ∧ ∃ l' x, Bag l' ∧ s1 = ⟨[some (.cel n), some (.int k), x, none, none], h.set n (some (.lst l'))⟩) ?_ ?_))
  · (repeat (first | refine p_var rfl ?_ | refine p_c ?_ | refine p_bin ?_ | refine p_cons ?_ | refine p_nil ?_ | refine p_seq ?_ | refine p_asg ?_ | refine p_sif ?_ | refine p_ret ?_ | refine p_bM ?_ | refine p_tM ?_ | refine p_cb ?_ | refine p_andM ?_ | refine p_orM ?_ | refine p_notM ?_ | refine p_chain ?_ | refine p_andV ?_ | refine p_orV ?_ | refine p_notV ?_ | refine p_ifM ?_ | refine p_tup ?_ | refine p_lst ?_ | refine p_call ?_ | refine p_callK ?_ | refine ⟨⟨⟨rfl, rfl⟩, rfl, rfl⟩, ⟨rfl, rfl⟩, ?_⟩ | refine p_setB ?_ | refine p_sl ?_ | refine p_osome ?_ | refine p_onone ?_ | refine p_snil ?_ | refine p_sexpr ?_ | refine p_retN ?_ | refine p_par ?_ | refine p_sh ?_ | refine p_brt rfl ?_ | refine p_brf rfl ?_ | refine ⟨_, rfl, ?_⟩ | refine ⟨⟨rfl, rfl⟩, ?_⟩ | refine ⟨⟨rfl, Nat.le_of_ble_eq_true rfl⟩, ?_⟩ | refine ⟨_, _, _, _, rfl, hn, rfl, rfl, ?_⟩ | (refine ⟨_, _, rfl, ⟨rfl, rfl⟩, ?_⟩; try dsimp only [wipeE, List.set_cons_succ, List.set_cons_zero]) | (refine ⟨rfl, ?_⟩; try dsimp only [wipeE, List.set_cons_succ, List.set_cons_zero]) | refine ⟨_, fIx_cel (cellL_set hn) rfl, ?_⟩))
    refine p_br (fun hc => ?_) fun hc => ?_
    · (repeat (first | refine p_var rfl ?_ | refine p_c ?_ | refine p_bin ?_ | refine p_cons ?_ | refine p_nil ?_ | refine p_seq ?_ | refine p_asg ?_ | refine p_sif ?_ | refine p_ret ?_ | refine p_bM ?_ | refine p_tM ?_ | refine p_cb ?_ | refine p_andM ?_ | refine p_orM ?_ | refine p_notM ?_ | refine p_chain ?_ | refine p_andV ?_ | refine p_orV ?_ | refine p_notV ?_ | refine p_ifM ?_ | refine p_tup ?_ | refine p_lst ?_ | refine p_call ?_ | refine p_callK ?_ | refine ⟨⟨⟨rfl, rfl⟩, rfl, rfl⟩, ⟨rfl, rfl⟩, ?_⟩ | refine p_setB ?_ | refine p_sl ?_ | refine p_osome ?_ | refine p_onone ?_ | refine p_snil ?_ | refine p_sexpr ?_ | refine p_retN ?_ | refine p_par ?_ | refine p_sh ?_ | refine p_brt rfl ?_ | refine p_brf rfl ?_ | refine ⟨_, rfl, ?_⟩ | refine ⟨⟨rfl, rfl⟩, ?_⟩ | refine ⟨⟨rfl, Nat.le_of_ble_eq_true rfl⟩, ?_⟩ | refine ⟨_, _, _, _, rfl, hn, rfl, rfl, ?_⟩ | (refine ⟨_, _, rfl, ⟨rfl, rfl⟩, ?_⟩; try dsimp only [wipeE, List.set_cons_succ, List.set_cons_zero]) | (refine ⟨rfl, ?_⟩; try dsimp only [wipeE, List.set_cons_succ, List.set_cons_zero]) | refine ⟨_, fIx_cel (cellL_set hn) rfl, ?_⟩))
      refine p_br (fun hi => ?_) fun hi => ?_
      · have hi : i < (((ns.map PV.int).length : Nat) : Int) := of_decide_eq_true hi
        obtain ⟨q, eq⟩ := atI_ints h1 (by simpa using hi)
        (repeat (first | refine p_var rfl ?_ | refine p_c ?_ | refine p_bin ?_ | refine p_cons ?_ | refine p_nil ?_ | refine p_seq ?_ | refine p_asg ?_ | refine p_sif ?_ | refine p_ret ?_ | refine p_bM ?_ | refine p_tM ?_ | refine p_cb ?_ | refine p_andM ?_ | refine p_orM ?_ | refine p_notM ?_ | refine p_chain ?_ | refine p_andV ?_ | refine p_orV ?_ | refine p_notV ?_ | refine p_ifM ?_ | refine p_tup ?_ | refine p_lst ?_ | refine p_call ?_ | refine p_callK ?_ | refine ⟨⟨⟨rfl, rfl⟩, rfl, rfl⟩, ⟨rfl, rfl⟩, ?_⟩ | refine p_setB ?_ | refine p_sl ?_ | refine p_osome ?_ | refine p_onone ?_ | refine p_snil ?_ | refine p_sexpr ?_ | refine p_retN ?_ | refine p_par ?_ | refine p_sh ?_ | refine p_brt rfl ?_ | refine p_brf rfl ?_ | refine ⟨_, rfl, ?_⟩ | refine ⟨⟨rfl, rfl⟩, ?_⟩ | refine ⟨⟨rfl, Nat.le_of_ble_eq_true rfl⟩, ?_⟩ | refine ⟨_, _, _, _, rfl, hn, rfl, rfl, ?_⟩ | (refine ⟨_, _, rfl, ⟨rfl, rfl⟩, ?_⟩; try dsimp only [wipeE, List.set_cons_succ, List.set_cons_zero]) | (refine ⟨rfl, ?_⟩; try dsimp only [wipeE, List.set_cons_succ, List.set_cons_zero]) | refine ⟨_, fIx_cel (cellL_set hn) rfl, ?_⟩ | refine ⟨_, eq, ?_⟩))
        have fin := @fmod_lt
        refine p_br (fun hq => ?_) fun hq => ?_
        · have hq : (10 : Int) ^ 18 ≤ q := of_decide_eq_true hq
          (repeat (first | refine p_var rfl ?_ | refine p_c ?_ | refine p_bin ?_ | refine p_cons ?_ | refine p_nil ?_ | refine p_seq ?_ | refine p_asg ?_ | refine p_sif ?_ | refine p_ret ?_ | refine p_bM ?_ | refine p_tM ?_ | refine p_cb ?_ | refine p_andM ?_ | refine p_orM ?_ | refine p_notM ?_ | refine p_chain ?_ | refine p_andV ?_ | refine p_orV ?_ | refine p_notV ?_ | refine p_ifM ?_ | refine p_tup ?_ | refine p_lst ?_ | refine p_call ?_ | refine p_callK ?_ | refine ⟨⟨⟨rfl, rfl⟩, rfl, rfl⟩, ⟨rfl, rfl⟩, ?_⟩ | refine p_setB ?_ | refine p_sl ?_ | refine p_osome ?_ | refine p_onone ?_ | refine p_snil ?_ | refine p_sexpr ?_ | refine p_retN ?_ | refine p_par ?_ | refine p_sh ?_ | refine p_brt rfl ?_ | refine p_brf rfl ?_ | refine ⟨_, rfl, ?_⟩ | refine ⟨⟨rfl, rfl⟩, ?_⟩ | refine ⟨⟨rfl, Nat.le_of_ble_eq_true rfl⟩, ?_⟩ | refine ⟨_, _, _, _, rfl, hn, rfl, rfl, ?_⟩ | (refine ⟨_, _, rfl, ⟨rfl, rfl⟩, ?_⟩; try dsimp only [wipeE, List.set_cons_succ, List.set_cons_zero]) | (refine ⟨rfl, ?_⟩; try dsimp only [wipeE, List.set_cons_succ, List.set_cons_zero]) | refine ⟨_, fIx_cel (cellL_set hn) rfl, ?_⟩ | refine ⟨_, eq, ?_⟩ | refine ⟨_, fMul_r (by decide), ?_⟩ | refine ⟨_, fMod_i (by decide), ?_⟩))
          refine ⟨_, some _, ⟨ns, i + 1, q, _, t, rfl, by omega, by omega, (fin (by decide)).1, (fin (by decide)).2⟩, rfl⟩
        · (repeat (first | refine p_var rfl ?_ | refine p_c ?_ | refine p_bin ?_ | refine p_cons ?_ | refine p_nil ?_ | refine p_seq ?_ | refine p_asg ?_ | refine p_sif ?_ | refine p_ret ?_ | refine p_bM ?_ | refine p_tM ?_ | refine p_cb ?_ | refine p_andM ?_ | refine p_orM ?_ | refine p_notM ?_ | refine p_chain ?_ | refine p_andV ?_ | refine p_orV ?_ | refine p_notV ?_ | refine p_ifM ?_ | refine p_tup ?_ | refine p_lst ?_ | refine p_call ?_ | refine p_callK ?_ | refine ⟨⟨⟨rfl, rfl⟩, rfl, rfl⟩, ⟨rfl, rfl⟩, ?_⟩ | refine p_setB ?_ | refine p_sl ?_ | refine p_osome ?_ | refine p_onone ?_ | refine p_snil ?_ | refine p_sexpr ?_ | refine p_retN ?_ | refine p_par ?_ | refine p_sh ?_ | refine p_brt rfl ?_ | refine p_brf rfl ?_ | refine ⟨_, rfl, ?_⟩ | refine ⟨⟨rfl, rfl⟩, ?_⟩ | refine ⟨⟨rfl, Nat.le_of_ble_eq_true rfl⟩, ?_⟩ | refine ⟨_, _, _, _, rfl, hn, rfl, rfl, ?_⟩ | (refine ⟨_, _, rfl, ⟨rfl, rfl⟩, ?_⟩; try dsimp only [wipeE, List.set_cons_succ, List.set_cons_zero]) | (refine ⟨rfl, ?_⟩; try dsimp only [wipeE, List.set_cons_succ, List.set_cons_zero]) | refine ⟨_, fIx_cel (cellL_set hn) rfl, ?_⟩ | refine ⟨_, eq, ?_⟩ | refine ⟨_, fMul_r (by decide), ?_⟩ | refine ⟨_, fMod_i (by decide), ?_⟩))
          refine ⟨_, some _, ⟨ns, i + 1, 0, _, t, rfl, by omega, by omega, (fin (by decide)).1, (fin (by decide)).2⟩, rfl⟩
      · (repeat (first | refine p_var rfl ?_ | refine p_c ?_ | refine p_bin ?_ | refine p_cons ?_ | refine p_nil ?_ | refine p_seq ?_ | refine p_asg ?_ | refine p_sif ?_ | refine p_ret ?_ | refine p_bM ?_ | refine p_tM ?_ | refine p_cb ?_ | refine p_andM ?_ | refine p_orM ?_ | refine p_notM ?_ | refine p_chain ?_ | refine p_andV ?_ | refine p_orV ?_ | refine p_notV ?_ | refine p_ifM ?_ | refine p_tup ?_ | refine p_lst ?_ | refine p_call ?_ | refine p_callK ?_ | refine ⟨⟨⟨rfl, rfl⟩, rfl, rfl⟩, ⟨rfl, rfl⟩, ?_⟩ | refine p_setB ?_ | refine p_sl ?_ | refine p_osome ?_ | refine p_onone ?_ | refine p_snil ?_ | refine p_sexpr ?_ | refine p_retN ?_ | refine p_par ?_ | refine p_sh ?_ | refine p_brt rfl ?_ | refine p_brf rfl ?_ | refine ⟨_, rfl, ?_⟩ | refine ⟨⟨rfl, rfl⟩, ?_⟩ | refine ⟨⟨rfl, Nat.le_of_ble_eq_true rfl⟩, ?_⟩ | refine ⟨_, _, _, _, rfl, hn, rfl, rfl, ?_⟩ | (refine ⟨_, _, rfl, ⟨rfl, rfl⟩, ?_⟩; try dsimp only [wipeE, List.set_cons_succ, List.set_cons_zero]) | (refine ⟨rfl, ?_⟩; try dsimp only [wipeE, List.set_cons_succ, List.set_cons_zero])))
        exact ⟨_, none, ⟨ns, i, c, sd, t, rfl, h1, h2, h3, h4⟩, rfl⟩
    · (repeat (first | refine p_var rfl ?_ | refine p_c ?_ | refine p_bin ?_ | refine p_cons ?_ | refine p_nil ?_ | refine p_seq ?_ | refine p_asg ?_ | refine p_sif ?_ | refine p_ret ?_ | refine p_bM ?_ | refine p_tM ?_ | refine p_cb ?_ | refine p_andM ?_ | refine p_orM ?_ | refine p_notM ?_ | refine p_chain ?_ | refine p_andV ?_ | refine p_orV ?_ | refine p_notV ?_ | refine p_ifM ?_ | refine p_tup ?_ | refine p_lst ?_ | refine p_call ?_ | refine p_callK ?_ | refine ⟨⟨⟨rfl, rfl⟩, rfl, rfl⟩, ⟨rfl, rfl⟩, ?_⟩ | refine p_setB ?_ | refine p_sl ?_ | refine p_osome ?_ | refine p_onone ?_ | refine p_snil ?_ | refine p_sexpr ?_ | refine p_retN ?_ | refine p_par ?_ | refine p_sh ?_ | refine p_brt rfl ?_ | refine p_brf rfl ?_ | refine ⟨_, rfl, ?_⟩ | refine ⟨⟨rfl, rfl⟩, ?_⟩ | refine ⟨⟨rfl, Nat.le_of_ble_eq_true rfl⟩, ?_⟩ | refine ⟨_, _, _, _, rfl, hn, rfl, rfl, ?_⟩ | (refine ⟨_, _, rfl, ⟨rfl, rfl⟩, ?_⟩; try dsimp only [wipeE, List.set_cons_succ, List.set_cons_zero]) | (refine ⟨rfl, ?_⟩; try dsimp only [wipeE, List.set_cons_succ, List.set_cons_zero])))
      exact ⟨_, none, ⟨ns, i, c, sd, t, rfl, h1, h2, h3, h4⟩, rfl⟩
  · rintro fl s1 ⟨rfl, l', x, ⟨ns, i, c, sd, t, rfl, h1, h2, h3, h4⟩, rfl⟩
    dsimp only
    (repeat (first | refine p_var rfl ?_ | refine p_c ?_ | refine p_bin ?_ | refine p_cons ?_ | refine p_nil ?_ | refine p_seq ?_ | refine p_asg ?_ | refine p_sif ?_ | refine p_ret ?_ | refine p_bM ?_ | refine p_tM ?_ | refine p_cb ?_ | refine p_andM ?_ | refine p_orM ?_ | refine p_notM ?_ | refine p_chain ?_ | refine p_andV ?_ | refine p_orV ?_ | refine p_notV ?_ | refine p_ifM ?_ | refine p_tup ?_ | refine p_lst ?_ | refine p_call ?_ | refine p_callK ?_ | refine ⟨⟨⟨rfl, rfl⟩, rfl, rfl⟩, ⟨rfl, rfl⟩, ?_⟩ | refine p_setB ?_ | refine p_sl ?_ | refine p_osome ?_ | refine p_onone ?_ | refine p_snil ?_ | refine p_sexpr ?_ | refine p_retN ?_ | refine p_par ?_ | refine p_sh ?_ | refine p_brt rfl ?_ | refine p_brf rfl ?_ | refine ⟨_, rfl, ?_⟩ | refine ⟨⟨rfl, rfl⟩, ?_⟩ | refine ⟨⟨rfl, Nat.le_of_ble_eq_true rfl⟩, ?_⟩ | refine ⟨_, _, _, _, rfl, hn, rfl, rfl, ?_⟩ | (refine ⟨_, _, rfl, ⟨rfl, rfl⟩, ?_⟩; try dsimp only [wipeE, List.set_cons_succ, List.set_cons_zero]) | (refine ⟨rfl, ?_⟩; try dsimp only [wipeE, List.set_cons_succ, List.set_cons_zero]) | refine ⟨_, fIx_cel (cellL_set hn) rfl, ?_⟩))
    refine p_br (fun hc => ?_) fun hc => ?_
    · have hc : (0 : Int) < c := of_decide_eq_true hc
      (repeat (first | refine p_var rfl ?_ | refine p_c ?_ | refine p_bin ?_ | refine p_cons ?_ | refine p_nil ?_ | refine p_seq ?_ | refine p_asg ?_ | refine p_sif ?_ | refine p_ret ?_ | refine p_bM ?_ | refine p_tM ?_ | refine p_cb ?_ | refine p_andM ?_ | refine p_orM ?_ | refine p_notM ?_ | refine p_chain ?_ | refine p_andV ?_ | refine p_orV ?_ | refine p_notV ?_ | refine p_ifM ?_ | refine p_tup ?_ | refine p_lst ?_ | refine p_call ?_ | refine p_callK ?_ | refine ⟨⟨⟨rfl, rfl⟩, rfl, rfl⟩, ⟨rfl, rfl⟩, ?_⟩ | refine p_setB ?_ | refine p_sl ?_ | refine p_osome ?_ | refine p_onone ?_ | refine p_snil ?_ | refine p_sexpr ?_ | refine p_retN ?_ | refine p_par ?_ | refine p_sh ?_ | refine p_brt rfl ?_ | refine p_brf rfl ?_ | refine ⟨_, rfl, ?_⟩ | refine ⟨⟨rfl, rfl⟩, ?_⟩ | refine ⟨⟨rfl, Nat.le_of_ble_eq_true rfl⟩, ?_⟩ | refine ⟨_, _, _, _, rfl, hn, rfl, rfl, ?_⟩ | (refine ⟨_, _, rfl, ⟨rfl, rfl⟩, ?_⟩; try dsimp only [wipeE, List.set_cons_succ, List.set_cons_zero]) | (refine ⟨rfl, ?_⟩; try dsimp only [wipeE, List.set_cons_succ, List.set_cons_zero]) | refine ⟨_, fIx_cel (cellL_set hn) rfl, ?_⟩ | refine ⟨_, fMod_i (by omega), ?_⟩ | refine ⟨_, fFdv_i (by omega) (by omega), ?_⟩))
      refine ⟨_, _, rfl, (fmod_lt (by omega)).1, (fmod_lt (by omega)).2, ⟨ns, i, _, sd, t, rfl, h1, ?_, h3, h4⟩, rfl⟩
      exact Int.fdiv_nonneg (by omega) (by omega)
    · (repeat (first | refine p_var rfl ?_ | refine p_c ?_ | refine p_bin ?_ | refine p_cons ?_ | refine p_nil ?_ | refine p_seq ?_ | refine p_asg ?_ | refine p_sif ?_ | refine p_ret ?_ | refine p_bM ?_ | refine p_tM ?_ | refine p_cb ?_ | refine p_andM ?_ | refine p_orM ?_ | refine p_notM ?_ | refine p_chain ?_ | refine p_andV ?_ | refine p_orV ?_ | refine p_notV ?_ | refine p_ifM ?_ | refine p_tup ?_ | refine p_lst ?_ | refine p_call ?_ | refine p_callK ?_ | refine ⟨⟨⟨rfl, rfl⟩, rfl, rfl⟩, ⟨rfl, rfl⟩, ?_⟩ | refine p_setB ?_ | refine p_sl ?_ | refine p_osome ?_ | refine p_onone ?_ | refine p_snil ?_ | refine p_sexpr ?_ | refine p_retN ?_ | refine p_par ?_ | refine p_sh ?_ | refine p_brt rfl ?_ | refine p_brf rfl ?_ | refine ⟨_, rfl, ?_⟩ | refine ⟨⟨rfl, rfl⟩, ?_⟩ | refine ⟨⟨rfl, Nat.le_of_ble_eq_true rfl⟩, ?_⟩ | refine ⟨_, _, _, _, rfl, hn, rfl, rfl, ?_⟩ | (refine ⟨_, _, rfl, ⟨rfl, rfl⟩, ?_⟩; try dsimp only [wipeE, List.set_cons_succ, List.set_cons_zero]) | (refine ⟨rfl, ?_⟩; try dsimp only [wipeE, List.set_cons_succ, List.set_cons_zero]) | refine ⟨_, fIx_cel (cellL_set hn) rfl, ?_⟩ | refine ⟨_, fMod_i (by omega), ?_⟩ | refine ⟨_, fFdv_i (by omega) (by omega), ?_⟩ | refine ⟨_, fMul_l (by omega), ?_⟩ | refine ⟨_, fMul_r (by omega), ?_⟩))
      exact ⟨_, _, rfl, (fmod_lt (by omega)).1, (fmod_lt (by omega)).2, ⟨ns, i, c, _, _, rfl, h1, h2, (fmod_lt (by decide)).1, (fmod_lt (by decide)).2⟩, rfl⟩
end
end Lp

set_option Elab.async false
set_option linter.all false
set_option maxRecDepth 100000
set_option maxHeartbeats 4000000
/-! Lq3: choices from the bag. -/
namespace Lp
open PySem PySem.Spec PyProof.Rows L2
noncomputable def ofMb : MS := (sRet (eBin fIx (eVar 1) (eCall 2 drawM (aCons (eVar 0) (aCons (eCB bLen (aCons (eVar 1) aNil)) aNil)))))
noncomputable def ofMx : MS := (xSRet (xEBin fIx (xEVar 1) (xECall 2 drawM (xACons (xEVar 0) (xACons (xECB bLen (xACons (xEVar 1) xANil)) xANil)))))
theorem ofM_x : ofMb = ofMx := by kernel_rfl
@[irreducible] noncomputable def ofM : MF := mkF 0 ofMb
/-- the bag stands at n -/
def BagAt (h : AH) (n : Nat) (h' : AH) : Prop := ∃ l, Bag l ∧ h' = h.set n (some (.lst l))
section
theorem draw_at {h h1 : AH} {n : Nat} (hn : n < h.length) (b : BagAt h n h1) {k : Int} (hk : 1 ≤ k) (hk2 : k < 1073741824) : (drawM [.cel n, .int k] h1).post (fun v h' => (∃ d, v = .int d ∧ 0 ≤ d ∧ d < k) ∧ BagAt h n h') NE := by
  obtain ⟨l, b, rfl⟩ := b
  exact p_mono (draw_spec hn b hk hk2) (fun v h' ⟨d, l', e, h1, h2, b, e'⟩ => ⟨⟨d, e, h1, h2⟩, l', b, e'⟩) fun _ _ z => z
theorem atI_of {α : Type} {xs : List α} {d : Int} (h0 : 0 ≤ d) (h1 : d < xs.length) : ∃ x, atI xs d = some x ∧ x ∈ xs := by
  unfold atI ixN
  rw [if_pos h0, if_pos h1]
  have : d.toNat < xs.length := by omega
  exact ⟨xs[d.toNat], by show xs[d.toNat]? = _; exact List.getElem?_eq_getElem this, List.getElem_mem this⟩
theorem fIx_lst {h : AH} {xs : List PV} {i : Int} : fIx h (.lst xs) (.int i) = atI xs i := rfl
theorem fIx_tup {h : AH} {xs : List PV} {i : Int} : fIx h (.tup xs) (.int i) = atI xs i := rfl
theorem fIx_str {h : AH} {x : Str} {i : Int} : fIx h (.str x) (.int i) = (atI x.cps.toList i).map fun c => .str ⟨#[c]⟩ := rfl
theorem of_lst {h h1 : AH} {n : Nat} (hn : n < h.length) (b : BagAt h n h1) {xs : List PV} (h0 : 1 ≤ xs.length) (h2 : xs.length < 1073741824) (hs : allSh xs = true) :
    (ofM [.cel n, .lst xs] h1).post (fun v h' => v ∈ xs ∧ BagAt h n h') NE := by
  unfold ofM
  rw [ofM_x]
  unfold ofMx
  refine p_mkF [some (.cel n), some (.lst xs)] rfl ?_
  (repeat (first | refine p_var rfl ?_ | refine p_c ?_ | refine p_bin ?_ | refine p_cons ?_ | refine p_nil ?_ | refine p_seq ?_ | refine p_asg ?_ | refine p_sif ?_ | refine p_ret ?_ | refine p_bM ?_ | refine p_tM ?_ | refine p_cb ?_ | refine p_andM ?_ | refine p_orM ?_ | refine p_notM ?_ | refine p_chain ?_ | refine p_andV ?_ | refine p_orV ?_ | refine p_notV ?_ | refine p_ifM ?_ | refine p_tup ?_ | refine p_lst ?_ | refine p_call ?_ | refine p_callK ?_ | refine ⟨⟨⟨rfl, rfl⟩, rfl, rfl⟩, ⟨rfl, rfl⟩, ?_⟩ | refine p_setB ?_ | refine p_sl ?_ | refine p_osome ?_ | refine p_onone ?_ | refine p_snil ?_ | refine p_sexpr ?_ | refine p_retN ?_ | refine p_par ?_ | refine p_sh ?_ | refine p_brt rfl ?_ | refine p_brf rfl ?_ | refine ⟨_, rfl, ?_⟩ | refine ⟨⟨rfl, rfl⟩, ?_⟩ | refine ⟨⟨rfl, Nat.le_of_ble_eq_true rfl⟩, ?_⟩ | refine ⟨_, _, _, _, rfl, hn, rfl, rfl, ?_⟩ | (refine ⟨_, _, rfl, ⟨rfl, rfl⟩, ?_⟩; try dsimp only [wipeE, List.set_cons_succ, List.set_cons_zero]) | (refine ⟨rfl, ?_⟩; try dsimp only [wipeE, List.set_cons_succ, List.set_cons_zero])))
  refine p_spec (draw_at hn b (k := (xs.length : Int)) (by omega) (by omega)) fun v h' ⟨⟨d, e, d0, d1⟩, b'⟩ => ?_
  subst e
  obtain ⟨x, ex, hx⟩ := atI_of (xs := xs) d0 (by simpa using d1)
  refine ⟨x, ex, ?_, hx, b'⟩
  unfold allSh at hs
  have := List.all_eq_true.mp hs x hx
  simpa using this
theorem of_str {h h1 : AH} {n : Nat} (hn : n < h.length) (b : BagAt h n h1) {x : Str} (h0 : 1 ≤ x.length) (h2 : x.length < 1073741824) :
    (ofM [.cel n, .str x] h1).post (fun v h' => (∃ c ∈ x.cps.toList, v = .str ⟨#[c]⟩) ∧ BagAt h n h') NE := by
  unfold ofM
  rw [ofM_x]
  unfold ofMx
  refine p_mkF [some (.cel n), some (.str x)] rfl ?_
  (repeat (first | refine p_var rfl ?_ | refine p_c ?_ | refine p_bin ?_ | refine p_cons ?_ | refine p_nil ?_ | refine p_seq ?_ | refine p_asg ?_ | refine p_sif ?_ | refine p_ret ?_ | refine p_bM ?_ | refine p_tM ?_ | refine p_cb ?_ | refine p_andM ?_ | refine p_orM ?_ | refine p_notM ?_ | refine p_chain ?_ | refine p_andV ?_ | refine p_orV ?_ | refine p_notV ?_ | refine p_ifM ?_ | refine p_tup ?_ | refine p_lst ?_ | refine p_call ?_ | refine p_callK ?_ | refine ⟨⟨⟨rfl, rfl⟩, rfl, rfl⟩, ⟨rfl, rfl⟩, ?_⟩ | refine p_setB ?_ | refine p_sl ?_ | refine p_osome ?_ | refine p_onone ?_ | refine p_snil ?_ | refine p_sexpr ?_ | refine p_retN ?_ | refine p_par ?_ | refine p_sh ?_ | refine p_brt rfl ?_ | refine p_brf rfl ?_ | refine ⟨_, rfl, ?_⟩ | refine ⟨⟨rfl, rfl⟩, ?_⟩ | refine ⟨⟨rfl, Nat.le_of_ble_eq_true rfl⟩, ?_⟩ | refine ⟨_, _, _, _, rfl, hn, rfl, rfl, ?_⟩ | (refine ⟨_, _, rfl, ⟨rfl, rfl⟩, ?_⟩; try dsimp only [wipeE, List.set_cons_succ, List.set_cons_zero]) | (refine ⟨rfl, ?_⟩; try dsimp only [wipeE, List.set_cons_succ, List.set_cons_zero])))
  refine p_spec (draw_at hn b (k := (x.length : Int)) (by omega) (by omega)) fun v h' ⟨⟨d, e, d0, d1⟩, b'⟩ => ?_
  subst e
  obtain ⟨c, ec, hc⟩ := atI_of (xs := x.cps.toList) d0 (by simpa [Str.length] using d1)
  refine ⟨.str ⟨#[c]⟩, by rw [fIx_str, ec]; rfl, rfl, ⟨c, hc, rfl⟩, b'⟩
end
end Lp

set_option Elab.async false
set_option linter.all false
set_option maxRecDepth 100000
set_option maxHeartbeats 4000000
/-! Lq4: plain data. -/
namespace Lp
open PySem PySem.Spec PyProof.Rows L2
/-- plain values: None, bools, ints, texts, tuples, lists (frozen) -/
def Pl : PV → Prop
  | .non => True
  | .bl _ => True
  | .int _ => True
  | .str _ => True
  | .tup _ => True
  | .lst _ => True
  | _ => False
def tyP : PV → BT
  | .non => .non
  | .bl _ => .bl
  | .int _ => .int
  | .str _ => .str
  | .tup _ => .tup
  | _ => .lst
theorem tyN_pl {v : PV} (p : Pl v) (h : AH) : tyN h v = some (tyP v) := by cases v <;> first | rfl | exact p.elim
theorem pl_own {v : PV} (p : Pl v) : isOwn v = false := by cases v <;> first | rfl | exact p.elim
theorem isi_p {h : AH} {v : PV} {u : BT} {n : String} (p : Pl v) (e2 : BT.of n = some u) : bIsi h [v, .ty n] = some (.bl (subT (tyP v) u)) := by
  show ((tyN h v).bind fun t => (BT.of n).map fun u => PV.bl (subT t u)) = _
  rw [tyN_pl p, e2]; rfl
theorem isi_t {h : AH} {v : PV} {us : List BT} {cs : List PV} (p : Pl v) (e2 : tysOf cs = some us) : bIsi h [v, .tup cs] = some (.bl (us.any (subT (tyP v)))) := by
  show ((tyN h v).bind fun t => (tysOf cs).map fun us => PV.bl (us.any (subT t))) = _
  rw [tyN_pl p, e2]; rfl
/-- items told one by one -/
theorem take_step {α : Type} {xs : List α} {j : Nat} {x : α} (e : xs[j]? = some x) : xs.take (j + 1) = xs.take j ++ [x] := by
  obtain ⟨h, rfl⟩ := List.getElem?_eq_some_iff.mp e
  rw [List.take_succ, List.getElem?_eq_getElem h]; rfl
theorem mapM_bls (bs : List Bool) : (bs.map PV.bl).mapM blOf = some bs := by
  induction bs with
  | nil => rfl
  | cons b bs ih => rw [List.map_cons, List.mapM_cons, ih]; rfl
theorem all_bls {h : AH} (bs : List Bool) : bAll h [.lst (bs.map PV.bl)] = some (.bl (bs.all fun b => b)) := by
  show ((bs.map PV.bl).mapM blOf).map _ = _
  rw [mapM_bls]; rfl
theorem any_bls {h : AH} (bs : List Bool) : bAny h [.lst (bs.map PV.bl)] = some (.bl (bs.any fun b => b)) := by
  show ((bs.map PV.bl).mapM blOf).map _ = _
  rw [mapM_bls]; rfl
theorem all_map {h : AH} {xs : List PV} (f : PV → Bool) : bAll h [.lst (xs.map fun v => .bl (f v))] = some (.bl ((xs.map f).all fun b => b)) := by
  rw [show (xs.map fun v => PV.bl (f v)) = (xs.map f).map PV.bl by rw [List.map_map]; rfl]
  exact all_bls _
/-! a comprehension without conditions whose elements are told by a function -/
section
variable {PA : List PV → S → Prop} {E : PV → S → Prop} {s : S}
theorem p_compMap {src : S → R S Sr} {t : Tg} {te : ME} {vs : List Nat}
    (h : (src s).post (fun r s1 => r.w = [] ∧ ∃ f : PV → PV, (∀ v ∈ r.xs, ∃ e1, bindT t v (wipeE s1.e vs) = some e1 ∧ (te ⟨e1, s1.h⟩).post (fun y s3 => y = f v ∧ isOwn y = false ∧ wipeE s3.e vs = wipeE s1.e vs ∧ s3.h = s1.h) NE) ∧ PA (r.xs.map f) ⟨wipeE s1.e vs, s1.h⟩) E) :
    (xECompN src t testY te vs s).post PA E := by
  refine p_compN (p_mono h (fun r s1 ⟨hw, f, hs, hn⟩ => ⟨hw, fun j acc h => acc = (r.xs.take j).map f ∧ h = s1.h, ⟨rfl, rfl⟩, fun j v acc h e ⟨i1, i2⟩ => ?_, fun acc h ⟨i1, i2⟩ => ?_⟩) fun _ _ z => z)
  · obtain ⟨e1, eb, q⟩ := hs v (List.mem_of_getElem? e)
    subst i2
    refine ⟨e1, eb, p_ok (p_brt rfl (p_mono q (fun y s3 ⟨ey, o, w, eh⟩ => ⟨o, w, ?_, eh⟩) fun _ _ z => z))⟩
    rw [take_step e, List.map_append, i1, ey]; rfl
  · rw [i1, i2, List.take_length]; exact hn
end
end Lp

set_option Elab.async false
set_option linter.all false
set_option maxRecDepth 100000
set_option maxHeartbeats 4000000
/-! Lq5: alike. -/
namespace Lp
open PySem PySem.Spec PyProof.Rows L2
@[irreducible] def xSRng1 (m : MA) : S → R S Sr := sRng1 m
@[irreducible] def xSRng2 (m : MA) : S → R S Sr := sRng2 m
@[irreducible] def xSZip (m : MA) : S → R S Sr := sZip m
noncomputable def likeB (m : MF) : MS := (sSeq (sIf (tM (eCB bIsi (aCons (eVar 1) (aCons (eTup (aCons (eC (.ty "list")) (aCons (eC (.ty "tuple")) aNil))) aNil)))) (sSeq (sIf (orM (bM (eBin fNe (eCB bIsi (aCons (eVar 0) (aCons (eC (.ty "list")) aNil))) (eCB bIsi (aCons (eVar 1) (aCons (eC (.ty "list")) aNil))))) (bM (eBin fNe (eCB bIsi (aCons (eVar 0) (aCons (eC (.ty "tuple")) aNil))) (eCB bIsi (aCons (eVar 1) (aCons (eC (.ty "tuple")) aNil)))))) (sRet (eC (.bl false))) sNil)
  (sRet (andV (eBin fEq (eCB bLen (aCons (eVar 0) aNil)) (eCB bLen (aCons (eVar 1) aNil))) (eCB bAll (aCons (shN (eCompN (sZip (aCons (eVar 0) (aCons (eVar 1) aNil))) (.t [(.n 2), (.n 3)]) testY (eCall 2 m (aCons (eVar 2) (aCons (eVar 3) aNil))) [2, 3])) aNil))))) sNil)
  (sSeq (sIf (orM (bM (eBin fIsN (eVar 1) (eC .non))) (bM (eBin fIsN (eVar 0) (eC .non)))) (sRet (andV (eBin fIsN (eVar 1) (eC .non)) (eBin fIsN (eVar 0) (eC .non)))) sNil)
  (sSeq (sIf (orM (bM (eBin fNe (eCB bIsi (aCons (eVar 0) (aCons (eC (.ty "bool")) aNil))) (eCB bIsi (aCons (eVar 1) (aCons (eC (.ty "bool")) aNil))))) (bM (eBin fNe (eCB bIsi (aCons (eVar 0) (aCons (eC (.ty "int")) aNil))) (eCB bIsi (aCons (eVar 1) (aCons (eC (.ty "int")) aNil)))))) (sRet (eC (.bl false))) sNil)
  (sRet (andV (eBin fEq (eCB bIsi (aCons (eVar 0) (aCons (eC (.ty "str")) aNil))) (eCB bIsi (aCons (eVar 1) (aCons (eC (.ty "str")) aNil)))) (eBin fEq (eVar 0) (eVar 1)))))))
noncomputable def likeX (m : MF) : MS := (xSSeq (xSIf (xTM (xECB bIsi (xACons (xEVar 1) (xACons (xETup (xACons (xEC (.ty "list")) (xACons (xEC (.ty "tuple")) xANil))) xANil)))) (xSSeq (xSIf (xOrM (xBM (xEBin fNe (xECB bIsi (xACons (xEVar 0) (xACons (xEC (.ty "list")) xANil))) (xECB bIsi (xACons (xEVar 1) (xACons (xEC (.ty "list")) xANil))))) (xBM (xEBin fNe (xECB bIsi (xACons (xEVar 0) (xACons (xEC (.ty "tuple")) xANil))) (xECB bIsi (xACons (xEVar 1) (xACons (xEC (.ty "tuple")) xANil)))))) (xSRet (xEC (.bl false))) xSNil)
  (xSRet (xAndV (xEBin fEq (xECB bLen (xACons (xEVar 0) xANil)) (xECB bLen (xACons (xEVar 1) xANil))) (xECB bAll (xACons (xShN (xECompN (xSZip (xACons (xEVar 0) (xACons (xEVar 1) xANil))) (.t [(.n 2), (.n 3)]) testY (xECall 2 m (xACons (xEVar 2) (xACons (xEVar 3) xANil))) [2, 3])) xANil))))) xSNil)
  (xSSeq (xSIf (xOrM (xBM (xEBin fIsN (xEVar 1) (xEC .non))) (xBM (xEBin fIsN (xEVar 0) (xEC .non)))) (xSRet (xAndV (xEBin fIsN (xEVar 1) (xEC .non)) (xEBin fIsN (xEVar 0) (xEC .non)))) xSNil)
  (xSSeq (xSIf (xOrM (xBM (xEBin fNe (xECB bIsi (xACons (xEVar 0) (xACons (xEC (.ty "bool")) xANil))) (xECB bIsi (xACons (xEVar 1) (xACons (xEC (.ty "bool")) xANil))))) (xBM (xEBin fNe (xECB bIsi (xACons (xEVar 0) (xACons (xEC (.ty "int")) xANil))) (xECB bIsi (xACons (xEVar 1) (xACons (xEC (.ty "int")) xANil)))))) (xSRet (xEC (.bl false))) xSNil)
  (xSRet (xAndV (xEBin fEq (xECB bIsi (xACons (xEVar 0) (xACons (xEC (.ty "str")) xANil))) (xECB bIsi (xACons (xEVar 1) (xACons (xEC (.ty "str")) xANil)))) (xEBin fEq (xEVar 0) (xEVar 1)))))))
theorem likeB_x (m : MF) : likeB m = likeX m := by kernel_rfl
noncomputable def likeM0 : Nat → MF
  | 0 => fun _ _ => .bad
  | n + 1 => mkF 2 (likeB (likeM0 n))
@[irreducible] noncomputable def likeM (n : Nat) : MF := likeM0 n
/-- plain through and through, nested at most so deep -/
def DPl : Nat → PV → Prop
  | _, .non => True
  | _, .bl _ => True
  | _, .int _ => True
  | _, .str _ => True
  | n + 1, .tup xs => ∀ x ∈ xs, DPl n x
  | n + 1, .lst xs => ∀ x ∈ xs, DPl n x
  | _, _ => False
def plB : PV → Bool
  | .non => true
  | .bl _ => true
  | .int _ => true
  | .str _ => true
  | .tup _ => true
  | .lst _ => true
  | _ => false
theorem pl_of {v : PV} (h : plB v = true) : Pl v := by cases v <;> first | trivial | cases h
theorem pl_all {xs : List PV} (h : xs.all plB = true) : ∀ v ∈ xs, Pl v := fun v hv => pl_of (List.all_eq_true.mp h v hv)
def dplB : Nat → PV → Bool
  | _, .non => true
  | _, .bl _ => true
  | _, .int _ => true
  | _, .str _ => true
  | n + 1, .tup xs => xs.all (dplB n)
  | n + 1, .lst xs => xs.all (dplB n)
  | _, _ => false
theorem dpl_of : ∀ {n : Nat} {v : PV}, dplB n v = true → DPl n v
  | 0, v, h => by cases v <;> first | trivial | cases h
  | n + 1, v, h => by
    cases v with
    | tup xs => exact fun x hx => dpl_of (List.all_eq_true.mp h x hx)
    | lst xs => exact fun x hx => dpl_of (List.all_eq_true.mp h x hx)
    | _ => first | trivial | cases h
theorem DPl.pl : ∀ {n : Nat} {v : PV}, DPl n v → Pl v := fun {n v} h => by
  cases n <;> cases v <;> first | trivial | exact h.elim
theorem eqv_refl_int (i : Int) : PyData.eqv (.int i) (.int i) = true := by rw [eqv_int]; simp
theorem eqv_str (x y : Str) : PyData.eqv (.str x) (.str y) = decide (x = y) := by
  first | rfl | (simp [PyData.eqv]; done) | (show (x == y) = _; rfl)
theorem eqv_bool (x y : Bool) : PyData.eqv (.bool x) (.bool y) = decide (x = y) := by
  cases x <;> cases y <;> rfl
section
variable {P : PV → S → Prop} {PS : Sr → S → Prop} {E : PV → S → Prop} {s : S} {ma : MA}
theorem p_zip (h : (ma s).post (fun vs s1 => (∃ xs ys, vs = [.tup xs, .tup ys] ∧ PS ⟨zipP xs ys, [], false⟩ s1) ∨ ∃ xs ys, vs = [.lst xs, .lst ys] ∧ PS ⟨zipP xs ys, [], false⟩ s1) E) : (xSZip ma s).post PS E := by
  unfold xSZip
  exact p_bind (p_mono h (fun vs s1 q => by
    rcases q with ⟨xs, ys, rfl, q⟩ | ⟨xs, ys, rfl, q⟩
    · exact q
    · exact q) fun _ _ z => z)
theorem p_rng1 (h : (ma s).post (fun vs s1 => ∃ j, vs = [.int j] ∧ j.natAbs ≤ 16777216 ∧ PS ⟨(List.range j.toNat).map fun (k : Nat) => .int k, [], false⟩ s1) E) : (xSRng1 ma s).post PS E := by
  unfold xSRng1
  exact p_bind (p_mono h (fun vs s1 ⟨j, e, hj, q⟩ => by subst e; simp only [if_pos hj]; exact q) fun _ _ z => z)
theorem p_rng2 (h : (ma s).post (fun vs s1 => ∃ i j, vs = [.int i, .int j] ∧ (i.natAbs < 4611686018427387904 ∧ j.natAbs < 4611686018427387904 ∧ j - i ≤ 16777216) ∧ PS ⟨(List.range (j - i).toNat).map fun (k : Nat) => .int (i + k), [], false⟩ s1) E) : (xSRng2 ma s).post PS E := by
  unfold xSRng2
  exact p_bind (p_mono h (fun vs s1 ⟨i, j, e, hj, q⟩ => by subst e; simp only [if_pos hj]; exact q) fun _ _ z => z)
theorem p_loopS {x : MS} {PF : Fl → S → Prop} {xs : List PV} {i : Nat} {o : Bool} (hi : i < s.e.length) (hs : ∀ v ∈ xs, isOwn v = false ∧ (x ⟨s.e.set i (some v), s.h⟩).post (fun fl s' => fl = .nx ∧ s' = ⟨s.e.set i (some v), s.h⟩) E) (hn : ∀ z, PF .nx ⟨s.e.set i z, s.h⟩) : (loopF ⟨xs, [], o⟩ (.n i) x xs s).post PF E := by
  refine p_loop (fun _ s' => ∃ z, s' = ⟨s.e.set i z, s.h⟩) ⟨s.e[i], by rw [List.set_getElem_self]⟩ (fun j v s' e ⟨z, es⟩ => ?_) fun s' ⟨z, es⟩ => ?_
  · obtain ⟨h1, h2⟩ := hs v (List.mem_of_getElem? e)
    subst es
    refine ⟨s.e.set i (some v), by show (if isOwn v = true then none else some ((s.e.set i z).set i (some v))) = _; rw [h1, List.set_set]; rfl, ?_⟩
    refine p_mono h2 (fun fl s'' ⟨q1, q2⟩ => ?_) fun _ _ z => z
    subst q1
    exact ⟨_, q2⟩
  · subst es
    exact hn z
theorem zip_self {xs : List PV} {v : PV} (h : v ∈ zipP xs xs) : ∃ x ∈ xs, v = .tup [x, x] := by
  unfold zipP at h
  induction xs with
  | nil => cases h
  | cons y ys ih =>
    rw [List.zipWith_cons_cons] at h
    rcases List.mem_cons.mp h with h | h
    · exact ⟨y, by simp, h⟩
    · obtain ⟨x, hx, e⟩ := ih h
      exact ⟨x, List.mem_cons_of_mem _ hx, e⟩
end
section
theorem all_true {h : AH} (xs : List PV) : bAll h [.lst (xs.map fun _ => PV.bl true)] = some (.bl true) := by
  rw [all_map fun _ => true]
  congr 2
  rw [List.all_eq_true]
  intro x hx
  obtain ⟨_, _, rfl⟩ := List.mem_map.mp hx
  rfl
theorem like_sc {m : MF} {v : PV} {h : AH} (d : DPl 0 v) : (mkF 2 (likeB m) [v, v] h).post (fun r h' => r = .bl true ∧ h' = h) NE := by
  rw [likeB_x]
  unfold likeX
  refine p_mkF [some v, some v, none, none] rfl ?_
  cases v with
  | non => (repeat (first | refine p_var rfl ?_ | refine p_c ?_ | refine p_bin ?_ | refine p_cons ?_ | refine p_nil ?_ | refine p_seq ?_ | refine p_asg ?_ | refine p_sif ?_ | refine p_ret ?_ | refine p_bM ?_ | refine p_tM ?_ | refine p_cb ?_ | refine p_andM ?_ | refine p_orM ?_ | refine p_notM ?_ | refine p_chain ?_ | refine p_andV ?_ | refine p_orV ?_ | refine p_notV ?_ | refine p_ifM ?_ | refine p_tup ?_ | refine p_lst ?_ | refine p_call ?_ | refine p_callK ?_ | refine ⟨⟨⟨rfl, rfl⟩, rfl, rfl⟩, ⟨rfl, rfl⟩, ?_⟩ | refine p_setB ?_ | refine p_sl ?_ | refine p_osome ?_ | refine p_onone ?_ | refine p_snil ?_ | refine p_sexpr ?_ | refine p_retN ?_ | refine p_par ?_ | refine p_sh ?_ | refine p_brt rfl ?_ | refine p_brf rfl ?_ | refine ⟨_, rfl, ?_⟩ | refine ⟨⟨rfl, rfl⟩, ?_⟩ | refine ⟨⟨rfl, Nat.le_of_ble_eq_true rfl⟩, ?_⟩ | refine ⟨_, _, _, _, rfl, hn, rfl, rfl, ?_⟩ | (refine ⟨_, _, rfl, ⟨rfl, rfl⟩, ?_⟩; try dsimp only [wipeE, List.set_cons_succ, List.set_cons_zero]) | (refine ⟨rfl, ?_⟩; try dsimp only [wipeE, List.set_cons_succ, List.set_cons_zero])))
  | bl b =>
    (repeat (first | refine p_var rfl ?_ | refine p_c ?_ | refine p_bin ?_ | refine p_cons ?_ | refine p_nil ?_ | refine p_seq ?_ | refine p_asg ?_ | refine p_sif ?_ | refine p_ret ?_ | refine p_bM ?_ | refine p_tM ?_ | refine p_cb ?_ | refine p_andM ?_ | refine p_orM ?_ | refine p_notM ?_ | refine p_chain ?_ | refine p_andV ?_ | refine p_orV ?_ | refine p_notV ?_ | refine p_ifM ?_ | refine p_tup ?_ | refine p_lst ?_ | refine p_call ?_ | refine p_callK ?_ | refine ⟨⟨⟨rfl, rfl⟩, rfl, rfl⟩, ⟨rfl, rfl⟩, ?_⟩ | refine p_setB ?_ | refine p_sl ?_ | refine p_osome ?_ | refine p_onone ?_ | refine p_snil ?_ | refine p_sexpr ?_ | refine p_retN ?_ | refine p_par ?_ | refine p_sh ?_ | refine p_brt rfl ?_ | refine p_brf rfl ?_ | refine ⟨_, rfl, ?_⟩ | refine ⟨⟨rfl, rfl⟩, ?_⟩ | refine ⟨⟨rfl, Nat.le_of_ble_eq_true rfl⟩, ?_⟩ | refine ⟨_, _, _, _, rfl, hn, rfl, rfl, ?_⟩ | (refine ⟨_, _, rfl, ⟨rfl, rfl⟩, ?_⟩; try dsimp only [wipeE, List.set_cons_succ, List.set_cons_zero]) | (refine ⟨rfl, ?_⟩; try dsimp only [wipeE, List.set_cons_succ, List.set_cons_zero])))
    exact ⟨by rw [eqv_bool, decide_eq_true rfl], rfl⟩
  | int i =>
    (repeat (first | refine p_var rfl ?_ | refine p_c ?_ | refine p_bin ?_ | refine p_cons ?_ | refine p_nil ?_ | refine p_seq ?_ | refine p_asg ?_ | refine p_sif ?_ | refine p_ret ?_ | refine p_bM ?_ | refine p_tM ?_ | refine p_cb ?_ | refine p_andM ?_ | refine p_orM ?_ | refine p_notM ?_ | refine p_chain ?_ | refine p_andV ?_ | refine p_orV ?_ | refine p_notV ?_ | refine p_ifM ?_ | refine p_tup ?_ | refine p_lst ?_ | refine p_call ?_ | refine p_callK ?_ | refine ⟨⟨⟨rfl, rfl⟩, rfl, rfl⟩, ⟨rfl, rfl⟩, ?_⟩ | refine p_setB ?_ | refine p_sl ?_ | refine p_osome ?_ | refine p_onone ?_ | refine p_snil ?_ | refine p_sexpr ?_ | refine p_retN ?_ | refine p_par ?_ | refine p_sh ?_ | refine p_brt rfl ?_ | refine p_brf rfl ?_ | refine ⟨_, rfl, ?_⟩ | refine ⟨⟨rfl, rfl⟩, ?_⟩ | refine ⟨⟨rfl, Nat.le_of_ble_eq_true rfl⟩, ?_⟩ | refine ⟨_, _, _, _, rfl, hn, rfl, rfl, ?_⟩ | (refine ⟨_, _, rfl, ⟨rfl, rfl⟩, ?_⟩; try dsimp only [wipeE, List.set_cons_succ, List.set_cons_zero]) | (refine ⟨rfl, ?_⟩; try dsimp only [wipeE, List.set_cons_succ, List.set_cons_zero])))
    exact ⟨by rw [eqv_int, decide_eq_true rfl], rfl⟩
  | str x =>
    (repeat (first | refine p_var rfl ?_ | refine p_c ?_ | refine p_bin ?_ | refine p_cons ?_ | refine p_nil ?_ | refine p_seq ?_ | refine p_asg ?_ | refine p_sif ?_ | refine p_ret ?_ | refine p_bM ?_ | refine p_tM ?_ | refine p_cb ?_ | refine p_andM ?_ | refine p_orM ?_ | refine p_notM ?_ | refine p_chain ?_ | refine p_andV ?_ | refine p_orV ?_ | refine p_notV ?_ | refine p_ifM ?_ | refine p_tup ?_ | refine p_lst ?_ | refine p_call ?_ | refine p_callK ?_ | refine ⟨⟨⟨rfl, rfl⟩, rfl, rfl⟩, ⟨rfl, rfl⟩, ?_⟩ | refine p_setB ?_ | refine p_sl ?_ | refine p_osome ?_ | refine p_onone ?_ | refine p_snil ?_ | refine p_sexpr ?_ | refine p_retN ?_ | refine p_par ?_ | refine p_sh ?_ | refine p_brt rfl ?_ | refine p_brf rfl ?_ | refine ⟨_, rfl, ?_⟩ | refine ⟨⟨rfl, rfl⟩, ?_⟩ | refine ⟨⟨rfl, Nat.le_of_ble_eq_true rfl⟩, ?_⟩ | refine ⟨_, _, _, _, rfl, hn, rfl, rfl, ?_⟩ | (refine ⟨_, _, rfl, ⟨rfl, rfl⟩, ?_⟩; try dsimp only [wipeE, List.set_cons_succ, List.set_cons_zero]) | (refine ⟨rfl, ?_⟩; try dsimp only [wipeE, List.set_cons_succ, List.set_cons_zero])))
    exact ⟨by rw [eqv_str, decide_eq_true rfl], rfl⟩
  | _ => exact d.elim
theorem like_sq {m : MF} {v : PV} {xs : List PV} {h : AH} (hv : v = .tup xs ∨ v = .lst xs) (hp : ∀ x ∈ xs, Pl x) (ih : ∀ x ∈ xs, (m [x, x] h).post (fun r h' => r = .bl true ∧ h' = h) NE) :
    (mkF 2 (likeB m) [v, v] h).post (fun r h' => r = .bl true ∧ h' = h) NE := by
  have item : ∀ (w : PV), w ∈ zipP xs xs → ∀ (u : PV), Pl u → ∃ e1, bindT (.t [(.n 2), (.n 3)]) w (wipeE [some u, some u, none, none] [2, 3]) = some e1 ∧
      (xECall 2 m (xACons (xEVar 2) (xACons (xEVar 3) xANil)) ⟨e1, h⟩).post (fun y s3 => y = (fun _ => PV.bl true) w ∧ isOwn y = false ∧ wipeE s3.e [2, 3] = wipeE [some u, some u, none, none] [2, 3] ∧ s3.h = h) NE := fun w hw u pu => by
    obtain ⟨x, hx, rfl⟩ := zip_self hw
    have ox : isOwn x = false := pl_own (hp x hx)
    refine ⟨[some u, some u, some x, some x], by simp [bindT, bindTs, wipeE, ox], ?_⟩
    (repeat (first | refine p_var rfl ?_ | refine p_c ?_ | refine p_bin ?_ | refine p_cons ?_ | refine p_nil ?_ | refine p_seq ?_ | refine p_asg ?_ | refine p_sif ?_ | refine p_ret ?_ | refine p_bM ?_ | refine p_tM ?_ | refine p_cb ?_ | refine p_andM ?_ | refine p_orM ?_ | refine p_notM ?_ | refine p_chain ?_ | refine p_andV ?_ | refine p_orV ?_ | refine p_notV ?_ | refine p_ifM ?_ | refine p_tup ?_ | refine p_lst ?_ | refine p_call ?_ | refine p_callK ?_ | refine ⟨⟨⟨rfl, rfl⟩, rfl, rfl⟩, ⟨rfl, rfl⟩, ?_⟩ | refine p_setB ?_ | refine p_sl ?_ | refine p_osome ?_ | refine p_onone ?_ | refine p_snil ?_ | refine p_sexpr ?_ | refine p_retN ?_ | refine p_par ?_ | refine p_sh ?_ | refine p_brt rfl ?_ | refine p_brf rfl ?_ | refine ⟨_, rfl, ?_⟩ | refine ⟨⟨rfl, rfl⟩, ?_⟩ | refine ⟨⟨rfl, Nat.le_of_ble_eq_true rfl⟩, ?_⟩ | refine ⟨_, _, _, _, rfl, hn, rfl, rfl, ?_⟩ | (refine ⟨_, _, rfl, ⟨rfl, rfl⟩, ?_⟩; try dsimp only [wipeE, List.set_cons_succ, List.set_cons_zero]) | (refine ⟨rfl, ?_⟩; try dsimp only [wipeE, List.set_cons_succ, List.set_cons_zero]) | refine ⟨⟨rfl, by simp [allSh, ox]⟩, p_spec (ih x hx) fun r h' z => ?_⟩))
    obtain ⟨rfl, rfl⟩ := z
    exact ⟨rfl, rfl, rfl, rfl⟩
  rw [likeB_x]
  unfold likeX
  refine p_mkF [some v, some v, none, none] rfl ?_
  rcases hv with rfl | rfl
  · (repeat (first | refine p_var rfl ?_ | refine p_c ?_ | refine p_bin ?_ | refine p_cons ?_ | refine p_nil ?_ | refine p_seq ?_ | refine p_asg ?_ | refine p_sif ?_ | refine p_ret ?_ | refine p_bM ?_ | refine p_tM ?_ | refine p_cb ?_ | refine p_andM ?_ | refine p_orM ?_ | refine p_notM ?_ | refine p_chain ?_ | refine p_andV ?_ | refine p_orV ?_ | refine p_notV ?_ | refine p_ifM ?_ | refine p_tup ?_ | refine p_lst ?_ | refine p_call ?_ | refine p_callK ?_ | refine ⟨⟨⟨rfl, rfl⟩, rfl, rfl⟩, ⟨rfl, rfl⟩, ?_⟩ | refine p_setB ?_ | refine p_sl ?_ | refine p_osome ?_ | refine p_onone ?_ | refine p_snil ?_ | refine p_sexpr ?_ | refine p_retN ?_ | refine p_par ?_ | refine p_sh ?_ | refine p_brt rfl ?_ | refine p_brf rfl ?_ | refine ⟨_, rfl, ?_⟩ | refine ⟨⟨rfl, rfl⟩, ?_⟩ | refine ⟨⟨rfl, Nat.le_of_ble_eq_true rfl⟩, ?_⟩ | refine ⟨_, _, _, _, rfl, hn, rfl, rfl, ?_⟩ | (refine ⟨_, _, rfl, ⟨rfl, rfl⟩, ?_⟩; try dsimp only [wipeE, List.set_cons_succ, List.set_cons_zero]) | (refine ⟨rfl, ?_⟩; try dsimp only [wipeE, List.set_cons_succ, List.set_cons_zero])))
    refine p_brt (by show PyData.eqv (.int _) (.int _) = true; rw [eqv_int, decide_eq_true rfl]) ?_
    (repeat (first | refine p_var rfl ?_ | refine p_c ?_ | refine p_bin ?_ | refine p_cons ?_ | refine p_nil ?_ | refine p_seq ?_ | refine p_asg ?_ | refine p_sif ?_ | refine p_ret ?_ | refine p_bM ?_ | refine p_tM ?_ | refine p_cb ?_ | refine p_andM ?_ | refine p_orM ?_ | refine p_notM ?_ | refine p_chain ?_ | refine p_andV ?_ | refine p_orV ?_ | refine p_notV ?_ | refine p_ifM ?_ | refine p_tup ?_ | refine p_lst ?_ | refine p_call ?_ | refine p_callK ?_ | refine ⟨⟨⟨rfl, rfl⟩, rfl, rfl⟩, ⟨rfl, rfl⟩, ?_⟩ | refine p_setB ?_ | refine p_sl ?_ | refine p_osome ?_ | refine p_onone ?_ | refine p_snil ?_ | refine p_sexpr ?_ | refine p_retN ?_ | refine p_par ?_ | refine p_sh ?_ | refine p_brt rfl ?_ | refine p_brf rfl ?_ | refine ⟨_, rfl, ?_⟩ | refine ⟨⟨rfl, rfl⟩, ?_⟩ | refine ⟨⟨rfl, Nat.le_of_ble_eq_true rfl⟩, ?_⟩ | refine ⟨_, _, _, _, rfl, hn, rfl, rfl, ?_⟩ | (refine ⟨_, _, rfl, ⟨rfl, rfl⟩, ?_⟩; try dsimp only [wipeE, List.set_cons_succ, List.set_cons_zero]) | (refine ⟨rfl, ?_⟩; try dsimp only [wipeE, List.set_cons_succ, List.set_cons_zero])))
    refine p_compMap (p_zip (p_cons (p_var rfl (p_cons (p_var rfl (p_nil (.inl ⟨xs, xs, rfl, rfl, fun _ => .bl true, fun w hw => item w hw _ trivial, ?_⟩)))))))
    (repeat (first | refine p_var rfl ?_ | refine p_c ?_ | refine p_bin ?_ | refine p_cons ?_ | refine p_nil ?_ | refine p_seq ?_ | refine p_asg ?_ | refine p_sif ?_ | refine p_ret ?_ | refine p_bM ?_ | refine p_tM ?_ | refine p_cb ?_ | refine p_andM ?_ | refine p_orM ?_ | refine p_notM ?_ | refine p_chain ?_ | refine p_andV ?_ | refine p_orV ?_ | refine p_notV ?_ | refine p_ifM ?_ | refine p_tup ?_ | refine p_lst ?_ | refine p_call ?_ | refine p_callK ?_ | refine ⟨⟨⟨rfl, rfl⟩, rfl, rfl⟩, ⟨rfl, rfl⟩, ?_⟩ | refine p_setB ?_ | refine p_sl ?_ | refine p_osome ?_ | refine p_onone ?_ | refine p_snil ?_ | refine p_sexpr ?_ | refine p_retN ?_ | refine p_par ?_ | refine p_sh ?_ | refine p_brt rfl ?_ | refine p_brf rfl ?_ | refine ⟨_, rfl, ?_⟩ | refine ⟨⟨rfl, rfl⟩, ?_⟩ | refine ⟨⟨rfl, Nat.le_of_ble_eq_true rfl⟩, ?_⟩ | refine ⟨_, _, _, _, rfl, hn, rfl, rfl, ?_⟩ | (refine ⟨_, _, rfl, ⟨rfl, rfl⟩, ?_⟩; try dsimp only [wipeE, List.set_cons_succ, List.set_cons_zero]) | (refine ⟨rfl, ?_⟩; try dsimp only [wipeE, List.set_cons_succ, List.set_cons_zero]) | refine ⟨_, all_true _, ?_⟩))
  · (repeat (first | refine p_var rfl ?_ | refine p_c ?_ | refine p_bin ?_ | refine p_cons ?_ | refine p_nil ?_ | refine p_seq ?_ | refine p_asg ?_ | refine p_sif ?_ | refine p_ret ?_ | refine p_bM ?_ | refine p_tM ?_ | refine p_cb ?_ | refine p_andM ?_ | refine p_orM ?_ | refine p_notM ?_ | refine p_chain ?_ | refine p_andV ?_ | refine p_orV ?_ | refine p_notV ?_ | refine p_ifM ?_ | refine p_tup ?_ | refine p_lst ?_ | refine p_call ?_ | refine p_callK ?_ | refine ⟨⟨⟨rfl, rfl⟩, rfl, rfl⟩, ⟨rfl, rfl⟩, ?_⟩ | refine p_setB ?_ | refine p_sl ?_ | refine p_osome ?_ | refine p_onone ?_ | refine p_snil ?_ | refine p_sexpr ?_ | refine p_retN ?_ | refine p_par ?_ | refine p_sh ?_ | refine p_brt rfl ?_ | refine p_brf rfl ?_ | refine ⟨_, rfl, ?_⟩ | refine ⟨⟨rfl, rfl⟩, ?_⟩ | refine ⟨⟨rfl, Nat.le_of_ble_eq_true rfl⟩, ?_⟩ | refine ⟨_, _, _, _, rfl, hn, rfl, rfl, ?_⟩ | (refine ⟨_, _, rfl, ⟨rfl, rfl⟩, ?_⟩; try dsimp only [wipeE, List.set_cons_succ, List.set_cons_zero]) | (refine ⟨rfl, ?_⟩; try dsimp only [wipeE, List.set_cons_succ, List.set_cons_zero])))
    refine p_brt (by show PyData.eqv (.int _) (.int _) = true; rw [eqv_int, decide_eq_true rfl]) ?_
    (repeat (first | refine p_var rfl ?_ | refine p_c ?_ | refine p_bin ?_ | refine p_cons ?_ | refine p_nil ?_ | refine p_seq ?_ | refine p_asg ?_ | refine p_sif ?_ | refine p_ret ?_ | refine p_bM ?_ | refine p_tM ?_ | refine p_cb ?_ | refine p_andM ?_ | refine p_orM ?_ | refine p_notM ?_ | refine p_chain ?_ | refine p_andV ?_ | refine p_orV ?_ | refine p_notV ?_ | refine p_ifM ?_ | refine p_tup ?_ | refine p_lst ?_ | refine p_call ?_ | refine p_callK ?_ | refine ⟨⟨⟨rfl, rfl⟩, rfl, rfl⟩, ⟨rfl, rfl⟩, ?_⟩ | refine p_setB ?_ | refine p_sl ?_ | refine p_osome ?_ | refine p_onone ?_ | refine p_snil ?_ | refine p_sexpr ?_ | refine p_retN ?_ | refine p_par ?_ | refine p_sh ?_ | refine p_brt rfl ?_ | refine p_brf rfl ?_ | refine ⟨_, rfl, ?_⟩ | refine ⟨⟨rfl, rfl⟩, ?_⟩ | refine ⟨⟨rfl, Nat.le_of_ble_eq_true rfl⟩, ?_⟩ | refine ⟨_, _, _, _, rfl, hn, rfl, rfl, ?_⟩ | (refine ⟨_, _, rfl, ⟨rfl, rfl⟩, ?_⟩; try dsimp only [wipeE, List.set_cons_succ, List.set_cons_zero]) | (refine ⟨rfl, ?_⟩; try dsimp only [wipeE, List.set_cons_succ, List.set_cons_zero])))
    refine p_compMap (p_zip (p_cons (p_var rfl (p_cons (p_var rfl (p_nil (.inr ⟨xs, xs, rfl, rfl, fun _ => .bl true, fun w hw => item w hw _ trivial, ?_⟩)))))))
    (repeat (first | refine p_var rfl ?_ | refine p_c ?_ | refine p_bin ?_ | refine p_cons ?_ | refine p_nil ?_ | refine p_seq ?_ | refine p_asg ?_ | refine p_sif ?_ | refine p_ret ?_ | refine p_bM ?_ | refine p_tM ?_ | refine p_cb ?_ | refine p_andM ?_ | refine p_orM ?_ | refine p_notM ?_ | refine p_chain ?_ | refine p_andV ?_ | refine p_orV ?_ | refine p_notV ?_ | refine p_ifM ?_ | refine p_tup ?_ | refine p_lst ?_ | refine p_call ?_ | refine p_callK ?_ | refine ⟨⟨⟨rfl, rfl⟩, rfl, rfl⟩, ⟨rfl, rfl⟩, ?_⟩ | refine p_setB ?_ | refine p_sl ?_ | refine p_osome ?_ | refine p_onone ?_ | refine p_snil ?_ | refine p_sexpr ?_ | refine p_retN ?_ | refine p_par ?_ | refine p_sh ?_ | refine p_brt rfl ?_ | refine p_brf rfl ?_ | refine ⟨_, rfl, ?_⟩ | refine ⟨⟨rfl, rfl⟩, ?_⟩ | refine ⟨⟨rfl, Nat.le_of_ble_eq_true rfl⟩, ?_⟩ | refine ⟨_, _, _, _, rfl, hn, rfl, rfl, ?_⟩ | (refine ⟨_, _, rfl, ⟨rfl, rfl⟩, ?_⟩; try dsimp only [wipeE, List.set_cons_succ, List.set_cons_zero]) | (refine ⟨rfl, ?_⟩; try dsimp only [wipeE, List.set_cons_succ, List.set_cons_zero]) | refine ⟨_, all_true _, ?_⟩))
theorem like_refl0 : ∀ (n : Nat) {v : PV} {h : AH}, DPl n v → (likeM0 (n + 1) [v, v] h).post (fun r h' => r = .bl true ∧ h' = h) NE
  | 0, v, h, d => like_sc d
  | n + 1, v, h, d => by
    cases v with
    | tup xs => exact like_sq (.inl rfl) (fun x hx => DPl.pl (d x hx)) fun x hx => like_refl0 n (d x hx)
    | lst xs => exact like_sq (.inr rfl) (fun x hx => DPl.pl (d x hx)) fun x hx => like_refl0 n (d x hx)
    | non => exact like_sc trivial
    | bl b => exact like_sc trivial
    | int i => exact like_sc trivial
    | str x => exact like_sc trivial
    | _ => exact d.elim
theorem like_refl {n : Nat} {v : PV} {h : AH} (d : DPl n v) : (likeM (n + 1) [v, v] h).post (fun r h' => r = .bl true ∧ h' = h) NE := by
  unfold likeM
  exact like_refl0 n d
theorem like_eqv {n : Nat} {a b : PV} {h : AH} (e : a = b) (d : DPl n b) : (likeM (n + 1) [a, b] h).post (fun r h' => r = .bl true ∧ h' = h) NE := by
  subst e; exact like_refl d
end
end Lp

set_option Elab.async false
set_option linter.all false
set_option maxRecDepth 100000
set_option maxHeartbeats 4000000
/-! Lq6: texts by their signs; cuts. -/
namespace Lp
open PySem PySem.Spec PyProof.Rows L2
def mkS (cs : List Nat) : Str := ⟨cs.toArray⟩
theorem mkS_cps (cs : List Nat) : (mkS cs).cps.toList = cs := rfl
theorem mkS_len (cs : List Nat) : (mkS cs).length = cs.length := by show cs.toArray.size = _; simp
theorem mkS_eta (x : Str) : x = mkS x.cps.toList := rfl
theorem mkS_app (a b : List Nat) : mkS a ++ mkS b = mkS (a ++ b) := by
  show (⟨a.toArray ++ b.toArray⟩ : Str) = ⟨(a ++ b).toArray⟩
  rw [List.append_toArray]
theorem mkS_one (c : Nat) : (⟨#[c]⟩ : Str) = mkS [c] := rfl
theorem len_eq (x : Str) : x.length = x.cps.toList.length := by show x.cps.size = _; simp
theorem fAdd_mk {h : AH} {a b : List Nat} (z : a.length + b.length ≤ sizeLine) : fAdd h (.str (mkS a)) (.str (mkS b)) = some (.str (mkS (a ++ b))) := by
  show (if (mkS a).length + (mkS b).length ≤ sizeLine then some (PV.str (mkS a ++ mkS b)) else none) = _
  rw [mkS_len, mkS_len, if_pos z, mkS_app]
theorem strs_ones (cs : List Nat) : strsOf (cs.map fun c => PV.str (mkS [c])) = some (cs.map fun c => mkS [c]) := by
  unfold strsOf
  induction cs with
  | nil => rfl
  | cons c cs ih => rw [List.map_cons, List.mapM_cons, ih]; rfl
theorem join_ones : ∀ cs : List Nat, Txt.join (mkS []) (cs.map fun c => mkS [c]) = mkS cs := fun cs => by
  rw [TL.join_eq]
  induction cs with
  | nil => rfl
  | cons c cs ih =>
    cases cs with
    | nil => rfl
    | cons d ds =>
      show mkS [c] ++ mkS [] ++ Str.join (mkS []) ((d :: ds).map fun c => mkS [c]) = _
      rw [ih, mkS_app, mkS_app]; rfl
theorem sok_mk {cs : List Nat} (h : ∀ c ∈ cs, c < 1114112) : PyData.strOk (mkS cs) = true := by
  show (cs.toArray.all fun c => decide (c < 0x110000)) = true
  rw [List.all_toArray]
  rw [List.all_eq_true]
  exact fun c hc => decide_eq_true (h c hc)
theorem mJoin_ones {h : AH} {cs : List Nat} (z : cs.length ≤ 16777216) (hc : ∀ c ∈ cs, c < 1114112) : mJoin h (mkS []) [.lst (cs.map fun c => .str (mkS [c]))] = some (.str (mkS cs)) := by
  show (strsOf (cs.map fun c => PV.str (mkS [c]))).bind _ = _
  rw [strs_ones]
  show (if _ then _ else _) = _
  rw [join_ones]
  rw [if_pos]
  refine ⟨?_, sok_mk hc, ?_⟩
  · have e1 : ((cs.map fun c => mkS [c]).map (·.length)).sum = cs.length := by
      clear z hc
      induction cs with
      | nil => rfl
      | cons c cs ih => rw [List.map_cons, List.map_cons, List.sum_cons, ih]; show 1 + cs.length = cs.length + 1; omega
    rw [e1]
    show cs.length + _ * 0 ≤ _
    omega
  · rw [mkS_len]
    have : 16777216 ≤ sizeLine := by decide
    omega
theorem cut_to {α : Type} {xs : List α} {i : Int} (h0 : 0 ≤ i) (h1 : i ≤ xs.length) : cutP xs none (some i) = xs.take i.toNat := by
  unfold cutP
  have e1 : HT.sIx xs.length 0 none = 0 := rfl
  have e2 : HT.sIx xs.length xs.length (some i) = i.toNat := by
    unfold HT.sIx
    simp only
    split <;> omega
  rw [e1, e2, List.drop_zero, Nat.sub_zero]
theorem cut_from {α : Type} {xs : List α} {i : Int} (h0 : 0 ≤ i) (h1 : i ≤ xs.length) : cutP xs (some i) none = xs.drop i.toNat := by
  unfold cutP
  have e1 : HT.sIx xs.length 0 (some i) = i.toNat := by
    unfold HT.sIx
    simp only
    split <;> omega
  have e2 : HT.sIx xs.length xs.length none = xs.length := rfl
  rw [e1, e2]
  rw [List.take_of_length_le (by rw [List.length_drop]; omega)]
theorem fSl_str {h : AH} {cs : List Nat} {lo hi : Option Int} : fSl h (.str (mkS cs)) lo hi = some (.str (mkS (cutP cs lo hi))) := rfl
theorem fAdd_tup {h : AH} {a b : List PV} (z : a.length + b.length ≤ sizeLine) : fAdd h (.tup a) (.tup b) = some (.tup (a ++ b)) := by
  show (if a.length + b.length ≤ sizeLine then some (PV.tup (a ++ b)) else none) = _
  rw [if_pos z]
theorem fAdd_lst {h : AH} {a b : List PV} (z : a.length + b.length ≤ sizeLine) : fAdd h (.lst a) (.lst b) = some (.lst (a ++ b)) := by
  show (if a.length + b.length ≤ sizeLine then some (PV.lst (a ++ b)) else none) = _
  rw [if_pos z]
theorem fMul_tup {h : AH} {a : List PV} {k : Int} (h1 : a ≠ []) (h2 : 2 ≤ k) (h3 : k ≤ 1000) (h4 : a.length ≤ 1000) : fMul h (.tup a) (.int k) = some (.tup (List.replicate k.toNat a).flatten) := by
  show (if a ≠ [] ∧ 2 ≤ k ∧ k ≤ 1000 ∧ a.length ≤ 1000 then some (PV.tup (List.replicate k.toNat a).flatten) else none) = _
  rw [if_pos ⟨h1, h2, h3, h4⟩]
end Lp

set_option Elab.async false
set_option linter.all false
set_option maxRecDepth 100000
set_option maxHeartbeats 4000000
/-! Lp14: own classes: fields read and stored; what is never reached. -/
namespace Lp
open PySem PySem.Spec PyProof.Rows L2

/-! ### never reached -/
def eNo : ME := fun _ => .bad
def tNo : S → R S Bool := fun _ => .bad
def sNo : MS := fun _ => .bad
section
variable {X : Cx} {B : Bs} {N : Ent} {WX : L2.WX} {e : Expr} {st : Stmt} {ss : List Stmt}
theorem sim_no : SimE X B N WX e eNo := ⟨fun _ _ _ _ _ _ ⟨_, _, _, h⟩ => h.elim⟩
theorem sim_tno : SimT X B N WX e tNo := ⟨fun _ _ _ _ _ _ ⟨_, _, _, h⟩ => h.elim⟩
theorem sims_no : SimS X B N WX st sNo := ⟨fun _ _ _ _ _ _ ⟨_, _, _, h⟩ => h.elim⟩
theorem simss_no : SimSs X B N WX ss sNo := ⟨fun _ _ _ _ _ _ ⟨_, _, _, h⟩ => h.elim⟩
end

/-! ### fields -/
abbrev FL := Nat → List Str
/-- what is known of the law's classes: cs, the numbers of those whose instances are looked at -/
structure ClsF (K : PySem.W.Frag) (B : Bs) (fl : FL) : Prop where
  fld : ∀ c, fl c ≠ [] → B.fld c = fl c
  cls : ∀ c f, f ∈ fl c → Cls K (B.cad c) ∧ NoAttr K (B.cad c) f
  few : ∀ c, (fl c).length < 1000
  nd : ∀ c, (fl c).Nodup
theorem ClsF.at_ {K : PySem.W.Frag} {B : Bs} {fl : FL} (C : ClsF K B fl) {c : Nat} {f : Str} (h : f ∈ fl c) : B.fld c = fl c := C.fld c fun z => by rw [z] at h; cases h
def insOf (h : AH) : PV → Option (Nat × List PV)
  | .ins c fs => some (c, fs)
  | .cel n => match h[n]? with
    | some (some (.ins c fs)) => some (c, fs)
    | _ => none
  | _ => none
def getF (fl : FL) (f : Str) (h : AH) (o : PV) : Option PV := (insOf h o).bind fun p => ((fl p.1).zip p.2).lookup f
def eFld (fl : FL) (f : Str) (mo : ME) : ME := fun s => (mo s).bind fun o s1 => match getF fl f s1.h o with
  | some v => .ok v s1
  | none => .bad
/-- the fields behind a store -/
def setF (ns : List Str) (f : Str) (v : PV) (fs : List PV) : Option (List PV) := if fs.length < ns.idxOf f then none else if ns.idxOf f < ns.length then some (if ns.idxOf f < fs.length then fs.set (ns.idxOf f) v else fs ++ [v]) else none
section
variable {X : Cx} {B : Bs} {N : Ent} {WX : L2.WX} {W W' : Wd} {s s' : S} {h : AH} {σ : L2.St} {H H' : Hp} {e o : Expr} {mo mv : ME} {f : Str} {fl : FL} {pos pos' : Pos}
theorem ins_ok (hr : HRel B W h H) {x : PV} {x' : V} {c : Nat} {fs : List PV} (rx : RepT B W H x x') (e : insOf h x = some (c, fs)) : ∃ a dx vs, x' = .ref a ∧ H a = some (.ins (B.cad c) dx ((B.fld c).zip vs)) ∧ vs.length ≤ (B.fld c).length ∧ Reps B W fs vs := by
  cases x with
  | ins c' fs' =>
    cases e
    cases (show Rep B W (.ins c fs) x' from rx) with
    | ins h hl r => exact ⟨_, _, _, rfl, hr.agree _ _ h, hl, r⟩
  | cel n =>
    cases (show Rep B W (.cel n) x' from rx) with
    | cel h1 =>
      unfold insOf at e
      dsimp only at e
      split at e
      · rename_i c' fs' q
        cases e
        obtain ⟨_, dx, vs, h2, hl, r⟩ := hr.cell n _ _ q h1
        exact ⟨_, dx, vs, rfl, h2, hl, r⟩
      · cases e
  | _ => cases e
theorem lookup_reps : ∀ {ns : List Str} {fs : List PV} {vs : List V} {v : PV}, Reps B W fs vs → (ns.zip fs).lookup f = some v → ∃ v', (ns.zip vs).lookup f = some v' ∧ Rep B W v v' ∧ f ∈ ns
  | [], _, _, _, _, e => by simp at e
  | n :: ns, _, _, _, .nil, e => by simp at e
  | n :: ns, x :: xs, u :: us, v, .cons r t, e => by
    rw [List.zip_cons_cons, List.lookup_cons] at e
    rw [List.zip_cons_cons, List.lookup_cons]
    cases q : f == n with
    | true =>
      rw [q] at e
      cases e
      exact ⟨u, rfl, r, by rw [beq_iff_eq.mp q]; simp⟩
    | false =>
      rw [q] at e
      obtain ⟨v', e1, r1, m⟩ := lookup_reps t e
      exact ⟨v', e1, r1, List.mem_cons_of_mem _ m⟩
theorem sim_fld (C : ClsF X.K B fl) (he : SimE X B N WX o mo) (hb : attributeBase o f X.env (eval o X.env) = eval o X.env) : SimE X B N WX (.Attribute o f pos) (eFld fl f mo) :=
  (pe_fld he hb).imp fun σ H Q ⟨W, s, r, h⟩ => ⟨W, s, r, (h.bind r.slen).mono fun v W1 s1 H1 r1 _ q v' rv => by
    split at q
    · rename_i u eu
      unfold getF at eu
      cases ei : insOf s1.h v with
      | none => rw [ei] at eu; cases eu
      | some p =>
        obtain ⟨c, fs⟩ := p
        rw [ei] at eu
        have eu : ((fl c).zip fs).lookup f = some u := eu
        obtain ⟨a, dx, vs, rfl, hH, hl, rs⟩ := ins_ok r1.hr rv ei
        obtain ⟨u', e1, r2, m⟩ := lookup_reps rs eu
        have cc := C.cls c f m
        exact ⟨a, _, dx, _, u', rfl, hH, cc.1, cc.2, by rw [C.at_ m]; exact e1, q.ok r1 u' r2.hand⟩
    · exact q.elim⟩
theorem putF_zip {v : V} : ∀ {ns : List Str} {vs : List V}, ns.Nodup → vs.length ≤ ns.length → ns.idxOf f ≤ vs.length → ns.idxOf f < ns.length →
    putF f v (ns.zip vs) = ns.zip (if ns.idxOf f < vs.length then vs.set (ns.idxOf f) v else vs ++ [v])
  | [], _, _, _, _, h => by simp at h
  | n :: ns, vs, nd, hl, h1, h2 => by
    by_cases hn : n = f
    · subst hn
      have e0 : (n :: ns).idxOf n = 0 := by simp [List.idxOf_cons]
      rw [e0]
      cases vs with
      | nil => simp [putF]
      | cons u us =>
        rw [if_pos (by simp)]
        show (if n = n then (n, v) :: ns.zip us else _) = _
        rw [if_pos rfl]; rfl
    · have e0 : (n :: ns).idxOf f = ns.idxOf f + 1 := by rw [List.idxOf_cons, show (n == f) = false from beq_false_of_ne hn]; rfl
      rw [e0] at h1 h2 ⊢
      cases vs with
      | nil => simp at h1
      | cons u us =>
        have ih := putF_zip (v := v) (ns := ns) (vs := us) (List.nodup_cons.mp nd).2 (by simpa using hl) (by simpa using h1) (by simpa using h2)
        show (if n = f then _ else (n, u) :: putF f v (ns.zip us)) = _
        rw [if_neg hn, ih]
        by_cases h3 : ns.idxOf f < us.length
        · rw [if_pos h3, if_pos (by simpa using h3)]; rfl
        · rw [if_neg h3, if_neg (by simpa using h3)]; rfl
end
/-- o.f = e, o a cell -/
def sFldC (fl : FL) (f : Str) (mv mo : ME) : MS := fun s => (mv s).bind fun v s1 => (mo s1).bind fun o s2 => match celN o with
  | some n => match s2.h[n]? with
    | some (some (.ins c fs)) => match setF (fl c) f v fs with
      | some gs => if isOwn v = true then .bad else .ok .nx ⟨s2.e, s2.h.set n (some (.ins c gs))⟩
      | none => .bad
    | _ => .bad
  | none => .bad
section
variable {X : Cx} {B : Bs} {N : Ent} {WX : L2.WX} {W W' : Wd} {s s' : S} {h : AH} {σ : L2.St} {H H' : Hp} {e o : Expr} {mo mv : ME} {f : Str} {fl : FL} {pos pos' : Pos}
theorem setF_ok {ns : List Str} {v : PV} {fs gs : List PV} (e : setF ns f v fs = some gs) : ns.idxOf f ≤ fs.length ∧ ns.idxOf f < ns.length ∧ gs = if ns.idxOf f < fs.length then fs.set (ns.idxOf f) v else fs ++ [v] := by
  unfold setF at e
  split at e
  · cases e
  · split at e
    · rename_i h1 h2
      cases e
      exact ⟨by omega, h2, rfl⟩
    · cases e
/-- a field of a cell's is stored -/
theorem fld_put (C : ClsF X.K B fl) {n c : Nat} {fs gs : List PV} {v : PV} {v' : V} {a : Addr} (r : Rel B N W s σ H) (en : s.h[n]? = some (some (.ins c fs))) (em : W.m[n]? = some a) (rv : Rep B W v v') (eg : setF (fl c) f v fs = some gs) :
    ∃ dx vs, H a = some (.ins (B.cad c) dx ((fl c).zip vs)) ∧ Cls X.K (B.cad c) ∧ NoAttr X.K (B.cad c) f ∧ ((fl c).zip vs).length < 1000 ∧
      Rel B N W ⟨s.e, s.h.set n (some (.ins c gs))⟩ σ (upd H a (.ins (B.cad c) dx (putF f v' ((fl c).zip vs)))) ∧ StepE W s H W ⟨s.e, s.h.set n (some (.ins c gs))⟩ (upd H a (.ins (B.cad c) dx (putF f v' ((fl c).zip vs)))) := by
  obtain ⟨hF, dx, vs, hH, hl, rs⟩ := r.hr.cell n _ a en em
  obtain ⟨g1, g2, g3⟩ := setF_ok eg
  have hm : f ∈ fl c := by
    have := List.idxOf_lt_length_iff.mp g2
    exact this
  have Cf := C.at_ hm
  rw [Cf] at hH hl
  have cc := C.cls c f hm
  have hlen := rs.length
  have lz : ((fl c).zip vs).length < 1000 := by
    rw [List.length_zip]
    have := C.few c
    omega
  have ep := putF_zip (v := v') (C.nd c) hl (by rw [← hlen]; exact g1) g2
  refine ⟨dx, vs, hH, cc.1, cc.2, lz, ?_⟩
  have hc : CellR B W (upd H a (.ins (B.cad c) dx (putF f v' ((fl c).zip vs)))) a (.ins c gs) := by
    refine ⟨dx, (if (fl c).idxOf f < vs.length then vs.set ((fl c).idxOf f) v' else vs ++ [v']), by rw [upd_same, Cf, ep], ?_, ?_⟩
    · rw [Cf]
      split
      · rw [List.length_set]; exact hl
      · rw [List.length_append, List.length_singleton]; omega
    · rw [g3, hlen]
      split
      · exact rs.set rv _
      · exact rs.append (.one rv)
  have hr2 := hrel_cell (c' := .ins c gs) r.hr en em (o := .ins (B.cad c) dx (putF f v' ((fl c).zip vs))) trivial hc
  have st := step_cell (c' := .ins c gs) (o := .ins (B.cad c) dx (putF f v' ((fl c).zip vs))) r.hr en em
  exact ⟨rel_step r hr2 st, stepE_of st⟩
theorem sims_fldC (C : ClsF X.K B fl) (hv : SimE X B N WX e mv) (ho : SimE X B N WX o mo) (hs : swapsWith e (some (.Attribute o f pos')) pos.line X.env = pure false) : SimS X B N WX (.Assign [.Attribute o f pos'] e pos) (sFldC fl f mv mo) :=
  (ps_fld ho hv hs).imp fun D σ H ⟨W, s, r, h⟩ => ⟨W, s, r, h.bindE.mono fun v W1 s1 H1 r1 _ q v' rv => ⟨W1, s1, r1, q.bindE.mono fun ov W2 s2 H2 r2 st2 q2 o' ro => by
    split at q2
    · rename_i n en
      obtain rfl := celN_ok en
      split at q2
      · rename_i c fs ec
        split at q2
        · rename_i gs eg
          split at q2
          · exact q2.elim
          · rename_i ow
            obtain ⟨a, rfl, em⟩ := rep_cel ro
            obtain ⟨dx, vs, hH, c1, c2, lz, r3, _⟩ := fld_put C r2 ec em ((rv.on r1.slen st2.st).rep (by simpa using ow)) eg
            exact ⟨a, _, dx, _, rfl, hH, c1, c2, lz, q2 W2 σ _ r3⟩
        · exact q2.elim
      · exact q2.elim
    · exact q2.elim⟩⟩
end
end Lp

set_option Elab.async false
set_option linter.all false
set_option maxRecDepth 100000
set_option maxHeartbeats 4000000
/-! Lp15: own classes: instances made. -/
namespace Lp
open PySem PySem.Spec PyProof.Rows L2

section
variable {B : Bs} {W W1 W2 : Wd} {h h1 h2 : AH} {H H1 H2 : Hp} {p x dx : Addr} {o : HO} {c : Nat} {C : Cell}
/-- an object that nothing tells -/
theorem hrel_loose (hr : HRel B W h H) (hp : H p = none) (ho : SzO o) : HRel B W h (upd H p o) := by
  refine ⟨fun a u e => ?_, hr.len, hr.nd, fun a hm => ?_, fun a u e nt => ?_, hr.fz, tabs_new hr.tb hp, fun n c a e1 e2 => ?_⟩
  · have ne : a ≠ p := fun z => by rw [z, hr.fnone hp] at e; cases e
    rw [upd_ne ne]; exact hr.agree _ _ e
  · by_cases ha : a = p
    · rw [ha, upd_same]; exact fun z => nomatch z
    · rw [upd_ne ha]; exact hr.mt a hm
  · by_cases ha : a = p
    · rw [ha, upd_same] at e; cases e; exact ho
    · rw [upd_ne ha] at e; exact hr.hz a u e nt
  · obtain ⟨g1, g2⟩ := hr.cell n c a e1 e2
    exact ⟨g1, g2.off fun z => hr.mt a (List.mem_of_getElem? e2) (by rw [z]; exact hp)⟩
theorem Step.loose (st : Step W h H W1 h1 H1) (hp : H p = none) : Step W h H W1 h1 (upd H1 p o) := by
  refine ⟨st.le, st.hl, st.dead, fun a u e nt nl => ?_, fun a e => ?_, st.fgrow, st.hm, st.mnew⟩
  · rw [upd_ne (ne_of_none e hp)]; exact st.keep a u e nt nl
  · by_cases ha : a = p
    · rw [ha, upd_same] at e; cases e
    · rw [upd_ne ha] at e; exact st.tr a e
/-- a new instance without fields, as a cell -/
theorem made_new (hr : HRel B W h H) (hx : H x = none) (hd : H dx = none) (ne : dx ≠ x) :
    HRel B ⟨W.F, W.m ++ [x]⟩ (h ++ [some (.ins c [])]) (upd (upd H dx (.own x)) x (.ins (B.cad c) dx [])) ∧ Step W h H ⟨W.F, W.m ++ [x]⟩ (h ++ [some (.ins c [])]) (upd (upd H dx (.own x)) x (.ins (B.cad c) dx [])) := by
  have a1 := hrel_loose (o := .own x) hr hd trivial
  have hx1 : upd H dx (.own x) x = none := by rw [upd_ne (Ne.symm ne)]; exact hx
  have a2 := hrel_loose (o := .ins (B.cad c) dx []) a1 hx1 trivial
  refine ⟨hrel_snoc a2 (hr.fnone hx) (fun z => hr.mt x z hx) (by rw [upd_same]; exact fun z => nomatch z) ⟨dx, [], by rw [upd_same]; simp, Nat.zero_le _, .nil⟩, ?_⟩
  exact (((Step.refl hr).loose hd).loose hx).snoc hx
end
/-! cells named in a value -/
mutual
def celB (n : Nat) : PV → Bool
  | .cel k => decide (k < n)
  | .tup xs => celsB n xs
  | .lst xs => celsB n xs
  | .scr xs => celsB n xs
  | .ins _ fs => celsB n fs
  | .exn _ fs => celsB n fs
  | _ => true
def celsB (n : Nat) : List PV → Bool
  | [] => true
  | x :: xs => celB n x && celsB n xs
end
section
variable {B : Bs}
mutual
theorem Rep.cels {W : Wd} : ∀ {x : PV} {v : V}, Rep B W x v → celB W.m.length x = true
  | _, _, .non => rfl
  | _, _, .bl _ => rfl
  | _, _, .int _ => rfl
  | _, _, .str _ _ => rfl
  | _, _, .ty _ => rfl
  | _, _, .cls _ => rfl
  | _, _, .cel h => decide_eq_true (List.getElem?_eq_some_iff.mp h).1
  | _, _, .tup _ r => Reps.cels r
  | _, _, .lst _ r => Reps.cels r
  | _, _, .scr _ r => Reps.cels r
  | _, _, .ins _ _ r => Reps.cels r
  | _, _, .exn _ _ _ r => Reps.cels r
theorem Reps.cels {W : Wd} : ∀ {xs : List PV} {vs : List V}, Reps B W xs vs → celsB W.m.length xs = true
  | _, _, .nil => rfl
  | _, _, .cons h t => by
    show (celB _ _ && celsB _ _) = true
    rw [Rep.cels h, Reps.cels t]; rfl
end
mutual
theorem Rep.cut {W : Wd} {n : Nat} : ∀ {x : PV} {v : V}, Rep B W x v → celB n x = true → Rep B ⟨W.F, W.m.take n⟩ x v
  | _, _, .non, _ => .non
  | _, _, .bl b, _ => .bl b
  | _, _, .int i, _ => .int i
  | _, _, .str x h, _ => .str x h
  | _, _, .ty n, _ => .ty n
  | _, _, .cls c, _ => .cls c
  | _, _, .cel h, e => .cel (by show (W.m.take n)[_]? = _; rw [List.getElem?_take_of_lt (of_decide_eq_true e)]; exact h)
  | _, _, .tup h r, e => .tup h (Reps.cut r e)
  | _, _, .lst h r, e => .lst h (Reps.cut r e)
  | _, _, .scr h r, e => .scr h (Reps.cut r e)
  | _, _, .ins h hl r, e => .ins h hl (Reps.cut r e)
  | _, _, .exn hx h hl r, e => .exn hx h hl (Reps.cut r e)
theorem Reps.cut {W : Wd} {n : Nat} : ∀ {xs : List PV} {vs : List V}, Reps B W xs vs → celsB n xs = true → Reps B ⟨W.F, W.m.take n⟩ xs vs
  | _, _, .nil, _ => .nil
  | _, _, .cons h t, e => by
    obtain ⟨e1, e2⟩ := Bool.and_eq_true_iff.mp (show (celB _ _ && celsB _ _) = true from e)
    exact .cons (Rep.cut h e1) (Reps.cut t e2)
end
/-- cells told by values of an older state: the newer cells are not named -/
def celC (n : Nat) : Cell → Bool
  | .lst xs => celsB n xs
  | .dic _ => true
  | .ins _ fs => celsB n fs
variable {W W1 W2 : Wd} {h h1 h2 : AH} {H H1 H2 : Hp} {p x dx : Addr} {o : HO} {c : Nat} {C : Cell}
theorem CellR.cels {a : Addr} (r : CellR B W H a C) : celC W.m.length C = true := by
  cases C with
  | lst xs => obtain ⟨vs, _, q⟩ := r; exact q.cels
  | dic ks => rfl
  | ins c fs => obtain ⟨_, vs, _, _, q⟩ := r; exact q.cels
theorem CellR.cut {a : Addr} {n : Nat} (r : CellR B W H a C) (e : celC n C = true) : CellR B ⟨W.F, W.m.take n⟩ H a C := by
  cases C with
  | lst xs => obtain ⟨vs, q1, q⟩ := r; exact ⟨vs, q1, q.cut e⟩
  | dic ks => exact r
  | ins c fs => obtain ⟨d, vs, q1, q2, q⟩ := r; exact ⟨d, vs, q1, q2, q.cut e⟩
/-- behind a run that left the old cells' contents as they were, the one new cell is dropped -/
theorem made_cut (hr : HRel B W h H) (hx : H x = none) (hr2 : HRel B W2 (h ++ [some C]) H2) (st : Step ⟨W.F, W.m ++ [x]⟩ (h ++ [some (.ins c [])]) H1 W2 (h ++ [some C]) H2) (hk : ∀ a o, H a = some o → H1 a = some o) (ht : ∀ a, H1 a = none → H a = none) :
    W2.m = W.m ++ [x] ∧ HRel B ⟨W2.F, W.m⟩ h H2 ∧ Step W h H ⟨W2.F, W.m⟩ h H2 := by
  have em : W2.m = W.m ++ [x] := by
    obtain ⟨t, e⟩ := st.le.m
    have hl := hr2.len
    rw [← e] at hl
    simp only [List.length_append, List.length_singleton, hr.len] at hl
    have : t = [] := List.length_eq_zero_iff.mp (by omega)
    rw [← e, this, List.append_nil]
  have et : W2.m.take h.length = W.m := by rw [em, ← hr.len, List.take_left']; rfl
  have live : ∀ a, H a ≠ none → Live ⟨W.F, W.m ++ [x]⟩ (h ++ [some (.ins c [])]) a → Live W h a := fun a ne l => by
    obtain ⟨n, c1, e1, e2⟩ := l
    have e2 : (W.m ++ [x])[n]? = some a := e2
    rcases snoc_at e2 with ⟨hn, e3⟩ | ⟨_, rfl⟩
    · rw [hr.len] at hn
      rw [List.getElem?_append_left hn] at e1
      exact ⟨n, c1, e1, e3⟩
    · exact absurd hx ne
  refine ⟨em, ⟨hr2.agree, hr.len, hr.nd, fun a hm => hr2.mt a (by rw [em]; exact List.mem_append_left _ hm), hr2.hz, hr2.fz, hr2.tb, fun m c1 a e1 e2 => ?_⟩, ⟨⟨st.le.F, List.prefix_refl _⟩, Nat.le_refl _, fun n c1 _ e => ⟨c1, e⟩, fun a u e nt nl => ?_, fun a e => ht a (st.tr a e), fun a e ne nl => ?_, hr.len, fun n a hn e => ?_⟩⟩
  · have hm : m < h.length := (List.getElem?_eq_some_iff.mp e1).1
    have e2 : W.m[m]? = some a := e2
    obtain ⟨g1, g2⟩ := hr2.cell m c1 a (by rw [List.getElem?_append_left hm]; exact e1) (by rw [em, List.getElem?_append_left (by rw [hr.len]; exact hm)]; exact e2)
    have q := g2.cut (n := h.length) (by rw [← hr.len]; exact (hr.cell m c1 a e1 e2).2.cels)
    rw [et] at q
    exact ⟨g1, q⟩
  · exact st.keep a u (hk a u e) nt fun l => nl (live a (by rw [e]; exact fun z => nomatch z) l)
  · exact st.fgrow a e (fun z => ne (ht a z)) fun l => nl (live a ne l)
  · have := (List.getElem?_eq_some_iff.mp (show W.m[n]? = some a from e)).1
    rw [hr.len] at this; omega
end
section
variable {B : Bs} {W W1 W2 : Wd} {h h1 h2 : AH} {H H1 H2 : Hp} {p x dx : Addr} {o : HO} {c : Nat} {C : Cell}
theorem hrel_keep (hr : HRel B W h H) (hF : W.F p = none) (hm : p ∉ W.m) (hp : H p = some o) (nt : NT o) : HRel B ⟨upd W.F p o, W.m⟩ h H := by
  refine ⟨fun a u e => ?_, hr.len, hr.nd, hr.mt, hr.hz, fun a u e => ?_, hr.tb, fun n c a e1 e2 => ?_⟩
  · by_cases ha : a = p
    · have e : upd W.F p o a = some u := e
      rw [ha, upd_same] at e
      rw [ha, hp]; exact e
    · have e : upd W.F p o a = some u := e
      rw [upd_ne ha] at e
      exact hr.agree _ _ e
  · by_cases ha : a = p
    · have e : upd W.F p o a = some u := e
      rw [ha, upd_same] at e
      cases e
      exact nt
    · have e : upd W.F p o a = some u := e
      rw [upd_ne ha] at e
      exact hr.fz a u e
  · obtain ⟨g1, g2⟩ := hr.cell n c a e1 e2
    have ne : a ≠ p := fun z => hm (z ▸ List.mem_of_getElem? e2)
    exact ⟨by show upd W.F p o a = none; rw [upd_ne ne]; exact g1, g2.mono (le_new hF) fun _ z => z⟩
theorem Step.keepNew (st : Step W h H W1 h1 H1) (hp : H p = none) (hF : W1.F p = none) : Step W h H ⟨upd W1.F p o, W1.m⟩ h1 H1 :=
  ⟨st.le.trans (le_new hF), st.hl, st.dead, st.keep, st.tr, fun a e ne nl => by
    have ha : a ≠ p := fun z => ne (z ▸ hp)
    show upd W1.F p o a = none
    rw [upd_ne ha]; exact st.fgrow a e ne nl, st.hm, st.mnew⟩
end
open Classical in
/-- what a call of a class gives: fz: the instance stands still from now on -/
noncomputable def mkH (fz : Bool) (c n : Nat) (m : MF) (vs : List PV → List PV) (s : S) : R S PV :=
  if (vs [.cel s.h.length]).length = n ∧ allSh (vs [.cel s.h.length]) = true then match m (vs [.cel s.h.length]) (s.h ++ [some (.ins c [])]) with
    | .ok .non h2 => if fz = true then (if ∃ fs, h2 = s.h ++ [some (.ins c fs)] ∧ celsB s.h.length fs = true then match h2[s.h.length]? with
        | some (some (.ins _ fs)) => .ok (.ins c fs) s
        | _ => .bad else .bad) else .ok (.cel s.h.length) ⟨s.e, h2⟩
    | .ok _ _ => .bad
    | .exc y h2 => if (∃ C, h2 = s.h ++ [some C]) ∧ celB s.h.length y = true then .exc y s else .bad
    | .bad => .bad
  else .bad
structure MkC (P : Program) (w : World) (K : PySem.W.Frag) (mg : Str → Option Value) (base : Heap) (B : Bs) (k : Nat) (x : Str) (c n0 : Nat) (ks : List Str) (g : List PV → List PV → List PV) (n : Nat) (m : MF) : Prop where
  ex : ∃ f fd ps gW gV, Mk K (B.cad c) f ∧ FnOk P w K mg base (L2.CX P w) k f fd ps (spF B n m) ∧ mg x = some (.ref (B.cad c)) ∧ KBn K fd ps (n0 + 1) ks gW gV ∧
    ∀ (W : Wd) (xs ys : List PV) (vs zs : List V), Reps B W xs vs → Reps B W ys zs → Reps B W (g xs ys) (gV vs zs)
noncomputable def eMk (fz : Bool) (c n0 nk n : Nat) (g : List PV → List PV → List PV) (m : MF) (ma mk : MA) : ME := fun s => (ma s).bind fun vs s1 => (mk s1).bind fun zs s2 => if (vs.length = n0 ∧ zs.length = nk) ∧ allSh vs = true ∧ allSh zs = true then mkH fz c n m (fun self => g (self ++ vs) zs) s2 else .bad
section
variable {X : Cx} {B : Bs} {N : Ent} {W W' : Wd} {s s' : S} {σ : L2.St} {H H' : Hp} {e : Expr} {es : List Expr} {ma mk : MA} {p pos : Pos} {x : Str} {k n n0 c : Nat} {m : MF} {kws : List Keyword} {ks : List Str} {E : XK} {fz : Bool} {g : List PV → List PV → List PV}
theorem mk_fin {vs zs : List PV} {vs' zs' : List V} {gV : List V → List V → List V} {Q : VK} (hg : ∀ (W : Wd) (xs ys : List PV) (vs zs : List V), Reps B W xs vs → Reps B W ys zs → Reps B W (g xs ys) (gV vs zs))
    (r : Rel B N W s σ H) (rv : Reps B W vs vs') (rz : Reps B W zs zs') (q : Post B N (fun c d _ H => E c d H) W s H σ (mkH fz c n m (fun self => g (self ++ vs) zs) s) fun u W' _ H' => ∀ u', RepT B W' H' u u' → Q u' H') :
    ∀ x dx, H x = none → H dx = none → dx ≠ x → spF B n m (gV (.ref x :: vs') zs') (upd (upd H dx (.own x)) x (.ins (B.cad c) dx [])) (fun v H2 => v = .non ∧ Q (.ref x) H2) E := by
  intro x dx hx hd ne
  obtain ⟨hr1, st1⟩ := made_new (c := c) r.hr hx hd ne
  unfold mkH at q
  split at q
  · rename_i hc
    have hk : ∀ a o, H a = some o → upd (upd H dx (.own x)) x (.ins (B.cad c) dx []) a = some o := fun a o e => by rw [upd_ne (ne_of_none e hx), upd_ne (ne_of_none e hd)]; exact e
    have ht : ∀ a, upd (upd H dx (.own x)) x (.ins (B.cad c) dx []) a = none → H a = none := fun a e => st1.tr a e
    have self : Rep B ⟨W.F, W.m ++ [x]⟩ (.cel s.h.length) (.ref x) := .cel (by show (W.m ++ [x])[s.h.length]? = some x; rw [← r.hr.len]; simp)
    refine ⟨_, _, g ([PV.cel s.h.length] ++ vs) zs, hr1, hg _ _ _ _ _ (.cons self (rv.mono le_cell)) (rz.mono le_cell), hc.1, ?_⟩
    cases em : m (g ([PV.cel s.h.length] ++ vs) zs) (s.h ++ [some (Cell.ins c [])]) with
    | bad => simp only [em] at q; exact q.elim
    | exc y h2 =>
      simp only [em] at q
      intro W2 H2 cls d hr2 st2 ex
      split at q
      · rename_i hy
        obtain ⟨⟨C, rfl⟩, cy⟩ := hy
        obtain ⟨em2, hr3, st3⟩ := made_cut r.hr hx hr2 st2 hk ht
        have nw : Nw H d := fun dd ed => ht _ (ex.nw dd ed)
        refine q _ H2 cls d (rel_step r hr3 st3) (stepE_of st3) ?_ nw
        obtain ⟨c', fs, dd, us, rfl, rfl, rfl, e1, e2, e3, e4, e5, e6⟩ := ex
        refine ⟨c', fs, dd, us, rfl, rfl, rfl, e1, e2, ?_, r.st.tr _ (ht _ e4), e5, fun z => e6 (by rw [em2]; exact List.mem_append_left _ z)⟩
        have := e3.cut (n := s.h.length) cy
        rw [show W2.m.take s.h.length = W.m by rw [em2, ← r.hr.len, List.take_left']; rfl] at this
        exact this
      · exact q.elim
    | ok v h2 =>
      cases v with
      | non =>
        simp only [em] at q
        intro W2 H2 v' hr2 st2 rv'
        cases rv'
        refine ⟨rfl, ?_⟩
        cases fz with
        | false =>
          have q : Post B N (fun c d _ H => E c d H) W s H σ (R.ok (PV.cel s.h.length) ⟨s.e, h2⟩) (fun u W' _ H' => ∀ u', RepT B W' H' u u' → Q u' H') := q
          have st := st1.trans r.slen st2
          have e1 : W2.m[s.h.length]? = some x := st2.le.at (by show (W.m ++ [x])[s.h.length]? = some x; rw [← r.hr.len]; simp)
          exact q W2 H2 (rel_step r hr2 st) (stepE_of st) (.ref x) (Rep.hand (x := PV.cel s.h.length) (.cel e1))
        | true =>
          rw [if_pos rfl] at q
          split at q
          · rename_i hy
            obtain ⟨fs, rfl, cf⟩ := hy
            have e0 : (s.h ++ [some (Cell.ins c fs)])[s.h.length]? = some (some (.ins c fs)) := by simp
            rw [e0] at q
            obtain ⟨em2, hr3, st3⟩ := made_cut r.hr hx hr2 st2 hk ht
            obtain ⟨gF, dx', us, g1, g2, g3⟩ := hr2.cell s.h.length _ x e0 (by rw [em2, ← r.hr.len]; simp)
            have g3' := g3.cut (n := s.h.length) cf
            rw [show W2.m.take s.h.length = W.m by rw [em2, ← r.hr.len, List.take_left']; rfl] at g3'
            have nx : x ∉ W.m := fun z => r.hr.mt x z hx
            have hr4 := hrel_keep hr3 gF nx g1 nt_ins
            have st4 := st3.keepNew (o := .ins (B.cad c) dx' ((B.fld c).zip us)) hx gF
            have g3n : Reps B ⟨upd W2.F x (.ins (B.cad c) dx' ((B.fld c).zip us)), W.m⟩ fs us := g3'.mono (W := ⟨W2.F, W.m⟩) (le_new (W := ⟨W2.F, W.m⟩) gF)
            exact q _ H2 (rel_step r hr4 st4) (stepE_of st4) (.ref x) (Rep.hand (x := PV.ins c fs) (.ins upd_same g2 g3n))
          · exact q.elim
      | _ => simp only [em] at q; exact q.elim
  · exact q.elim
theorem mk_read {nk : Nat} (hl : ks.length = nk) {gV : List V → List V → List V} (hg : ∀ (W : Wd) (xs ys : List PV) (vs zs : List V), Reps B W xs vs → Reps B W ys zs → Reps B W (g xs ys) (gV vs zs)) {Q : VK} (h : tE B N (fun c d _ H => E c d H) (eMk fz c n0 nk n g m ma mk) σ H Q) :
    tMakeK (B.cad c) n0 ks.length (spF B n m) gV E (tA B N (fun c d _ H => E c d H) ma) (tA B N (fun c d _ H => E c d H) mk) σ H Q := by
  obtain ⟨W, s, r, h⟩ := h
  refine ⟨W, s, r, (h.bind r.slen).mono fun vs W1 s1 H1 r1 _ q vs' rv => ⟨W1, s1, r1, (q.bind r1.slen).mono fun zs W2 s2 H2 r2 st2 q2 zs' rz => ?_⟩⟩
  split at q2
  · rename_i hc
    have r1' := (rv.reps hc.2.1).mono st2.st.le
    have r2' := rz.reps hc.2.2
    exact ⟨by rw [← r1'.length]; exact hc.1.1, by rw [← r2'.length, hl]; exact hc.1.2, mk_fin hg r2 r1' r2' q2⟩
  · exact q2.elim
theorem sim_mk {nk : Nat} (F : MkC X.prog X.w X.K X.mg X.base B k x c n0 ks g n m) (tk : Takes X fun c d _ H => E c d H) (hr : Room (k + 1) X.A) (hg : Gl X x) (ha : SimA X B N (fun c d _ H => E c d H) (e :: es) ma) (hkw : SimK X B N (fun c d _ H => E c d H) kws mk) (hl : ks.length = nk)
    (hall : (backToKw pos (keywordEach kws X.env)).all (·.1.isSome) = true) (hks : (backToKw pos (keywordEach kws X.env)).filterMap (·.1) = ks) (hdb : (x == ("__debug__" : Str)) = false)
    (he : starEach (e :: es) X.env = (false, eval e X.env) :: starEach es X.env) (hpl : ((backTo pos (starEach (e :: es) X.env)).any (·.1) || (backToKw pos (keywordEach kws X.env)).any (·.1.isNone)) = false) :
    SimE X B N (fun c d _ H => E c d H) (.Call (.Name x p) (e :: es) kws pos) (eMk fz c n0 nk n g m ma mk) := by
  obtain ⟨f, fd, ps, gW, gV, M, F1, hm, hb, hv⟩ := F.ex
  exact (pe_makeK M F1 hr hg hm hb (passes_call tk fun _ _ _ _ h => h) ha hkw hall hks hdb he hpl).imp fun σ H Q h => mk_read hl hv h
theorem sim_mk0 {nk : Nat} (F : MkC X.prog X.w X.K X.mg X.base B k x c 0 ks g n m) (tk : Takes X fun c d _ H => E c d H) (hr : Room (k + 1) X.A) (hg : Gl X x) (hkw : SimK X B N (fun c d _ H => E c d H) kws mk) (hl : ks.length = nk)
    (hall : (backToKw pos (keywordEach kws X.env)).all (·.1.isSome) = true) (hks : (backToKw pos (keywordEach kws X.env)).filterMap (·.1) = ks) (hdb : (x == ("__debug__" : Str)) = false)
    (hpl : ((backTo pos (starEach [] X.env)).any (·.1) || (backToKw pos (keywordEach kws X.env)).any (·.1.isNone)) = false) :
    SimE X B N (fun c d _ H => E c d H) (.Call (.Name x p) [] kws pos) (eMk fz c 0 nk n g m aNil mk) := by
  obtain ⟨f, fd, ps, gW, gV, M, F1, hm, hb, hv⟩ := F.ex
  exact (pe_makeK0 M F1 hr hg hm hb (passes_call tk fun _ _ _ _ h => h) hkw hall hks hdb hpl).imp fun σ H Q h => by
    have q := mk_read (ma := aNil) hl hv h
    obtain ⟨W, s, r, q⟩ := q
    exact q.ok r [] trivial
end
end Lp

set_option Elab.async false
set_option linter.all false
set_option maxRecDepth 100000
set_option maxHeartbeats 4000000
/-! Lp16: methods. -/
namespace Lp
open PySem PySem.Spec PyProof.Rows L2

/-- o.m(.., k = ..): n values by place, nk by keywords -/
def tMeN (C : Addr) (m : Str) (n nk : Nat) (sp : Sp) (gV : List V → List V → List V) (E : XK) (ta : TE) (t tk : TA) : TE := fun σ H Q => ta σ H fun x H1 => ∃ a dx fs, x = .ref a ∧ H1 a = some (.ins C dx fs) ∧ fs.lookup m = none ∧
  t σ H1 fun vs H2 => tk σ H2 fun zs H3 => vs.length = n ∧ zs.length = nk ∧ sp (gV (x :: vs) zs) H3 Q E
section
variable {X : Cx} {CX : CXT} {k n : Nat} {f C : Addr} {fd : FuncData} {ps ks : List Str} {sp : Sp} {E : XK} {m : Str} {pos apos : Pos} {e o : Expr} {es : List Expr} {kws : List Keyword} {ta : TE} {t tk : TA} {g : List Value → List Value → List Value} {gV : List V → List V → List V}
theorem pe_meN {pl : Sem Bool} (he : PE X o ta) (c : Cls X.K C) (hm : Meth X.K C m f) (F : FnOk X.prog X.w X.K X.mg X.base CX k f fd ps sp) (hr : Room k X.A) (hb : KBn X.K fd ps (n + 1) ks g gV) (hx : Passes CX X E) (ha : PA X (e :: es) t) (hkw : PK X kws tk)
    (hall : (backToKw pos (keywordEach kws X.env)).all (·.1.isSome) = true) (hks : (backToKw pos (keywordEach kws X.env)).filterMap (·.1) = ks) (hst : starEach (e :: es) X.env = (false, eval e X.env) :: starEach es X.env)
    (hpl : ((backTo pos (starEach (e :: es) X.env)).any (·.1) || (backToKw pos (keywordEach kws X.env)).any (·.1.isNone)) = false)
    (ht : eval (.Call (.Attribute o m apos) (e :: es) kws pos) X.env = (do
      let ov ← eval o X.env
      standAt apos.atName
      let (f, first) ← holding [ov] (getMethod ov m pl)
      callWith pos f first (backTo pos (starEach (e :: es) X.env)) (backToKw pos (keywordEach kws X.env)))) : PE X (.Call (.Attribute o m apos) (e :: es) kws pos) (tMeN C m n ks.length sp gV E ta t tk) := by
  refine ⟨fun pins s σ H Q I h => ?_⟩
  refine PySem.W.methodCall_KW (pl := pl) (thn (he.run pins s σ H _ I h) fun u s1 ⟨x, H1, I1, rx, a, dx, fs, ex, ea, l, q⟩ => ?_) ht
  subst ex
  obtain rfl : u = Value.ref a := rx
  refine getmeth_ok I1 ea c hm l ?_
  refine PySem.W.callWith_KW (first := [.ref a]) (h₀ := X.base) I.ok.mod.kin hm.kp hall (thn (ha.run pos pins s1 σ H1 _ I1 q) fun us s2 ⟨vs, H2, I2, r, q2⟩ => ?_) hpl hst
  refine thn (hkw.run pos pins s2 σ H2 _ I2 q2) fun ws s3 ⟨zs, H3, I3, rz, l1, l2, q3⟩ => ⟨I3.kIn, ?_⟩
  rw [hks]
  exact run_fnN (us := .ref a :: us) (vs := .ref a :: vs) F hr hb hx I3 (.cons rfl r) rz (by rw [List.length_cons, l1]) l2 q3
theorem pe_meN0 {pl : Sem Bool} (he : PE X o ta) (c : Cls X.K C) (hm : Meth X.K C m f) (F : FnOk X.prog X.w X.K X.mg X.base CX k f fd ps sp) (hr : Room k X.A) (hb : KBn X.K fd ps 1 ks g gV) (hx : Passes CX X E) (hkw : PK X kws tk)
    (hall : (backToKw pos (keywordEach kws X.env)).all (·.1.isSome) = true) (hks : (backToKw pos (keywordEach kws X.env)).filterMap (·.1) = ks)
    (hpl : ((backTo pos (starEach [] X.env)).any (·.1) || (backToKw pos (keywordEach kws X.env)).any (·.1.isNone)) = false)
    (ht : eval (.Call (.Attribute o m apos) [] kws pos) X.env = (do
      let ov ← eval o X.env
      standAt apos.atName
      let (f, first) ← holding [ov] (getMethod ov m pl)
      callWith pos f first (backTo pos (starEach [] X.env)) (backToKw pos (keywordEach kws X.env)))) : PE X (.Call (.Attribute o m apos) [] kws pos) (tMeN C m 0 ks.length sp gV E ta tNil tk) := by
  refine ⟨fun pins s σ H Q I h => ?_⟩
  refine PySem.W.methodCall_KW (pl := pl) (thn (he.run pins s σ H _ I h) fun u s1 ⟨x, H1, I1, rx, a, dx, fs, ex, ea, l, q⟩ => ?_) ht
  subst ex
  obtain rfl : u = Value.ref a := rx
  refine getmeth_ok I1 ea c hm l ?_
  refine PySem.W.callWith_KW0 (first := [.ref a]) (h₀ := X.base) I.ok.mod.kin hm.kp hall ?_ hpl
  refine thn (hkw.run pos pins s1 σ H1 _ I1 q) fun ws s3 ⟨zs, H3, I3, rz, l1, l2, q3⟩ => ⟨I3.kIn, ?_⟩
  rw [hks]
  exact run_fnN (us := [.ref a]) (vs := [.ref a]) F hr hb hx I3 (.cons rfl .nil) rz rfl l2 q3
end
structure Me (P : Program) (w : World) (K : PySem.W.Frag) (mg : Str → Option Value) (base : Heap) (B : Bs) (k : Nat) (c : Nat) (x : Str) (n0 : Nat) (ks : List Str) (g : List PV → List PV → List PV) (n : Nat) (m : MF) : Prop where
  ex : ∃ f fd ps gW gV, Meth K (B.cad c) x f ∧ FnOk P w K mg base (L2.CX P w) k f fd ps (spF B n m) ∧ KBn K fd ps (n0 + 1) ks gW gV ∧
    ∀ (W : Wd) (xs ys : List PV) (vs zs : List V), Reps B W xs vs → Reps B W ys zs → Reps B W (g xs ys) (gV vs zs)
theorem Me.mono {P : Program} {w : World} {K : PySem.W.Frag} {mg : Str → Option Value} {base : Heap} {B : Bs} {j k : Nat} {c : Nat} {x : Str} {n0 : Nat} {ks : List Str} {g : List PV → List PV → List PV} {n : Nat} {m : MF} (F : Me P w K mg base B j c x n0 ks g n m) (h : j ≤ k) : Me P w K mg base B k c x n0 ks g n m :=
  let ⟨f, fd, ps, gW, gV, a, b, d⟩ := F.ex
  ⟨f, fd, ps, gW, gV, a, b.mono h, d⟩
theorem MkC.mono {P : Program} {w : World} {K : PySem.W.Frag} {mg : Str → Option Value} {base : Heap} {B : Bs} {j k : Nat} {c : Nat} {x : Str} {n0 : Nat} {ks : List Str} {g : List PV → List PV → List PV} {n : Nat} {m : MF} (F : MkC P w K mg base B j x c n0 ks g n m) (h : j ≤ k) : MkC P w K mg base B k x c n0 ks g n m :=
  let ⟨f, fd, ps, gW, gV, a, b, d⟩ := F.ex
  ⟨f, fd, ps, gW, gV, a, b.mono h, d⟩
def clsOf (h : AH) (o : PV) : Option Nat := (insOf h o).map (·.1)
def eMe (c n0 nk n : Nat) (g : List PV → List PV → List PV) (m : MF) (mo : ME) (ma mk : MA) : ME := fun s => (mo s).bind fun o s1 => match clsOf s1.h o with
  | some c' => if c' = c ∧ isOwn o = false then (ma s1).bind fun vs s2 => (mk s2).bind fun zs s3 => if (vs.length = n0 ∧ zs.length = nk) ∧ allSh vs = true ∧ allSh zs = true then callH n m (g (o :: vs) zs) s3 else .bad else .bad
  | none => .bad
section
variable {X : Cx} {B : Bs} {N : Ent} {W W' : Wd} {s s' : S} {σ : L2.St} {H H' : Hp} {e o : Expr} {es : List Expr} {mo : ME} {ma mk : MA} {pos apos : Pos} {x : Str} {k n n0 nk c : Nat} {m : MF} {kws : List Keyword} {ks : List Str} {E : XK} {g : List PV → List PV → List PV} {fl : FL}
theorem zip_none : ∀ {ns : List Str} {vs : List V}, x ∉ ns → (ns.zip vs).lookup x = none
  | [], _, _ => rfl
  | n :: ns, [], _ => rfl
  | n :: ns, v :: vs, h => by
    simp only [List.mem_cons, not_or] at h
    rw [List.zip_cons_cons, List.lookup_cons, show (x == n) = false from beq_false_of_ne h.1]
    exact zip_none h.2
theorem me_read {gV : List V → List V → List V} (hx : x ∉ B.fld c) (hl : ks.length = nk) (hg : ∀ (W : Wd) (xs ys : List PV) (vs zs : List V), Reps B W xs vs → Reps B W ys zs → Reps B W (g xs ys) (gV vs zs)) {Q : VK} (h : tE B N (fun c d _ H => E c d H) (eMe c n0 nk n g m mo ma mk) σ H Q) :
    tMeN (B.cad c) x n0 ks.length (spF B n m) gV E (tE B N (fun c d _ H => E c d H) mo) (tA B N (fun c d _ H => E c d H) ma) (tA B N (fun c d _ H => E c d H) mk) σ H Q := by
  obtain ⟨W, s, r, h⟩ := h
  refine ⟨W, s, r, (h.bind r.slen).mono fun o1 W0 s0 H0 r0 _ q0 o' ro => ?_⟩
  split at q0
  · rename_i c' ec
    split at q0
    · rename_i hc0
      obtain ⟨rfl, ow⟩ := hc0
      unfold clsOf at ec
      cases ei : insOf s0.h o1 with
      | none => rw [ei] at ec; cases ec
      | some p =>
        obtain ⟨c1, fs⟩ := p
        rw [ei] at ec
        cases ec
        obtain ⟨a, dx, vs, rfl, hH, hle, rs⟩ := ins_ok r0.hr ro ei
        refine ⟨a, dx, _, rfl, hH, zip_none hx, W0, s0, r0, (q0.bind r0.slen).mono fun us W1 s1 H1 r1 st1 q us' ru => ⟨W1, s1, r1, (q.bind r1.slen).mono fun zs W2 s2 H2 r2 st2 q2 zs' rz => ?_⟩⟩
        split at q2
        · rename_i hc
          have r1' := (ru.reps hc.2.1).mono st2.st.le
          have r2' := rz.reps hc.2.2
          have ro' := ((ro.on r0.slen st1.st).on r1.slen st2.st).rep ow
          exact ⟨by rw [← r1'.length]; exact hc.1.1, by rw [← r2'.length, hl]; exact hc.1.2, call_fin r2 (hg _ _ _ _ _ (.cons ro' r1') r2') q2⟩
        · exact q2.elim
    · exact q0.elim
  · exact q0.elim
theorem sim_me {pl : Sem Bool} (F : Me X.prog X.w X.K X.mg X.base B k c x n0 ks g n m) (hc : Cls X.K (B.cad c)) (hx : x ∉ B.fld c) (tk : Takes X fun c d _ H => E c d H) (hr : Room k X.A) (ho : SimE X B N (fun c d _ H => E c d H) o mo)
    (ha : SimA X B N (fun c d _ H => E c d H) (e :: es) ma) (hkw : SimK X B N (fun c d _ H => E c d H) kws mk) (hl : ks.length = nk)
    (hall : (backToKw pos (keywordEach kws X.env)).all (·.1.isSome) = true) (hks : (backToKw pos (keywordEach kws X.env)).filterMap (·.1) = ks) (he : starEach (e :: es) X.env = (false, eval e X.env) :: starEach es X.env)
    (hpl : ((backTo pos (starEach (e :: es) X.env)).any (·.1) || (backToKw pos (keywordEach kws X.env)).any (·.1.isNone)) = false)
    (ht : eval (.Call (.Attribute o x apos) (e :: es) kws pos) X.env = (do
      let ov ← eval o X.env
      standAt apos.atName
      let (f, first) ← holding [ov] (getMethod ov x pl)
      callWith pos f first (backTo pos (starEach (e :: es) X.env)) (backToKw pos (keywordEach kws X.env)))) : SimE X B N (fun c d _ H => E c d H) (.Call (.Attribute o x apos) (e :: es) kws pos) (eMe c n0 nk n g m mo ma mk) := by
  obtain ⟨f, fd, ps, gW, gV, M, F1, hb, hg⟩ := F.ex
  exact (pe_meN ho hc M F1 hr hb (passes_call tk fun _ _ _ _ h => h) ha hkw hall hks he hpl ht).imp fun σ H Q h => me_read hx hl hg h
theorem sim_me0 {pl : Sem Bool} (F : Me X.prog X.w X.K X.mg X.base B k c x 0 ks g n m) (hc : Cls X.K (B.cad c)) (hx : x ∉ B.fld c) (tk : Takes X fun c d _ H => E c d H) (hr : Room k X.A) (ho : SimE X B N (fun c d _ H => E c d H) o mo)
    (hkw : SimK X B N (fun c d _ H => E c d H) kws mk) (hl : ks.length = nk)
    (hall : (backToKw pos (keywordEach kws X.env)).all (·.1.isSome) = true) (hks : (backToKw pos (keywordEach kws X.env)).filterMap (·.1) = ks)
    (hpl : ((backTo pos (starEach [] X.env)).any (·.1) || (backToKw pos (keywordEach kws X.env)).any (·.1.isNone)) = false)
    (ht : eval (.Call (.Attribute o x apos) [] kws pos) X.env = (do
      let ov ← eval o X.env
      standAt apos.atName
      let (f, first) ← holding [ov] (getMethod ov x pl)
      callWith pos f first (backTo pos (starEach [] X.env)) (backToKw pos (keywordEach kws X.env)))) : SimE X B N (fun c d _ H => E c d H) (.Call (.Attribute o x apos) [] kws pos) (eMe c 0 nk n g m mo aNil mk) := by
  obtain ⟨f, fd, ps, gW, gV, M, F1, hb, hg⟩ := F.ex
  refine (pe_meN0 ho hc M F1 hr hb (passes_call tk fun _ _ _ _ h => h) hkw hall hks hpl ht).imp fun σ H Q h => ?_
  obtain ⟨W, s, r, q⟩ := me_read (ma := aNil) hx hl hg h
  refine ⟨W, s, r, q.mono fun o1 W1 s1 H1 r1 _ z o' ro => ?_⟩
  obtain ⟨a, dx, fs, e1, e2, e3, z⟩ := z o' ro
  obtain ⟨W2, s2, r2, z⟩ := z
  exact ⟨a, dx, fs, e1, e2, e3, z.ok r2 [] trivial⟩
end
end Lp

set_option Elab.async false
set_option linter.all false
set_option maxRecDepth 100000
set_option maxHeartbeats 4000000
/-! Lp17: a lambda made and handed to a def. -/
namespace Lp
open PySem PySem.Spec PyProof.Rows L2 LamX

/-- what the making of a lambda changes: nothing, or its code object is new, told by the table at P -/
def LamH (H H1 : Hp) (P c1 : Addr) (q : Str) : Prop := H1 = H ∨ ∃ ps ps1, H P = some (.tbl ps) ∧ H c1 = none ∧ H1 = upd (upd H P (.tbl ps1)) c1 (CodeO c1 q)
theorem nt_code {c : Addr} {q : Str} : NT (CodeO c q) := codeO_ne
theorem tabs_snoc {T : List (Addr × Str)} {H : Hp} {P c1 : Addr} {q : Str} {pos : Pos} {ps : Array Value} (t : Tabs T H) (hm : (P, q) ∈ T) (hu : ∀ p ∈ T, p.1 = P → p.2 = q) (hP : H P = some (.tbl ps)) (hc : H c1 = none) :
    Tabs T (upd (upd H P (.tbl (ps ++ #[rawInt pos.line, rawInt pos.col, .ref c1]))) c1 (CodeO c1 q)) := by
  have old : ∀ b o, H b = some o → NT o → upd (upd H P (.tbl (ps ++ #[rawInt pos.line, rawInt pos.col, .ref c1]))) c1 (CodeO c1 q) b = some o := fun b o e n => by
    have n1 : b ≠ P := fun z => n ps (by rw [z, hP] at e; exact (Option.some.inj e).symm)
    rw [upd_ne (ne_of_none e hc), upd_ne n1]; exact e
  intro p hp
  obtain ⟨ps0, e0, tr, am⟩ := t p hp
  by_cases h : p.1 = P
  · have e0' := e0
    rw [h, hP] at e0'
    cases e0'
    refine ⟨_, by rw [h, upd_ne (ne_of_none hP hc), upd_same], ?_, fun pos' cv z => ?_⟩
    · rw [Array.toList_append]; exact PySem.TriplesOk_snoc _ _ _ _ tr
    · rw [Array.toList_append] at z
      rcases among_app _ tr z with z | z
      · obtain ⟨c0, f1, f2⟩ := am pos' cv z
        exact ⟨c0, f1, old _ _ f2 nt_code⟩
      · exact ⟨c1, z, by rw [upd_same, hu p hp h]⟩
  · refine ⟨ps0, by rw [upd_ne (ne_of_none e0 hc), upd_ne h]; exact e0, tr, fun pos' cv z => ?_⟩
    obtain ⟨c0, f1, f2⟩ := am pos' cv z
    exact ⟨c0, f1, old _ _ f2 nt_code⟩
section
variable {X : Cx} {pins : List (Addr × Obj)} {σ : L2.St} {H : Hp} {s : Shared}
theorem not_frame (I : Inv X pins σ H s) {f : Addr} (hf : s.heap.objs.size ≤ f) : f ∉ frs X.stack := fun z => by
  rcases List.mem_cons.mp (I.stkSub f z) with e | e
  · have h1 := I.lt
    rw [← e] at h1
    exact absurd (Nat.lt_of_lt_of_le h1 hf) (Nat.lt_irrefl f)
  · exact I.nofs hf e
abbrev lamO (X : Cx) (params : Arguments) (body : Expr) (scope : Scope) (pm : Value) (c1 : Addr) (ctv : Value) : Obj := PySem.W.kla_obj "<lambda>" (X.env.qual ++ "<lambda>") params body scope (cloFrom X.env.cells scope.names []) pm c1 ctv
theorem lam_new {T : List (Addr × Str)} {c P : Addr} {params : Arguments} {body : Expr} {scope : Scope} {pos : Pos} {E Q : Value → Shared → Prop} (I : Inv X pins σ H s) (B : TabB X.base X.mg c P) (hc : X.env.code = .ref c)
    (hm : (P, X.env.qual ++ "<lambda>") ∈ T) (hu : ∀ p ∈ T, p.1 = P → p.2 = X.env.qual ++ "<lambda>") (t : Tabs T H) (hd : defaultsOf params X.env = ([], [])) (hf : ∀ y ∈ scope.names, y.2 = .free → ∃ c, X.env.cells.lookup y.1 = some c)
    (k : ∀ (f c1 : Addr) (pm ctv : Value) (H1 : Hp) (s1 : Shared), Inv X pins σ H1 s1 → LamH H H1 P c1 (X.env.qual ++ "<lambda>") → Tabs T H1 → s1.heap.get? f = some (lamO X params body scope pm c1 ctv) → H1 f = none → f ∉ frs X.stack →
      H1 c1 = some (CodeO c1 (X.env.qual ++ "<lambda>")) → Q (.ref f) s1) : wpAny (model X.prog X.w) X.A (eval (.Lambda params body scope pos) X.env) Q E s := by
  obtain ⟨ps, eP, tr, am⟩ := t _ hm
  have gP : s.heap.get? P = some (PySem.W.tabObj ps) := I.hok P _ eP
  have ltP := Heap.lt_size gP
  have cl := closure_ok hf
  have ns := I.mod.glob.keeps I.bk
  have cd := B.code.keeps I.bk
  have bb := B.bm.keeps I.bk
  refine PySem.W.kla_eval hd ?_
  cases e : codeAmong pos ps.toList with
  | some cv =>
    obtain ⟨c1, rfl, o1⟩ := am pos cv e
    exact PySem.W.kla_makeFunctionHit cl I.ok.glob ns hc cd gP tr e bb fun ctv h1 tk hx sz =>
      k _ c1 _ ctv H _ (I.kept (h' := h1.push (lamO X params body scope ((X.mg "__name__").getD .none) c1 ctv)) (t' := tk) fun b o z => Heap.get?_push_of_some _ (hx b o z)) (.inl rfl) t (Heap.get?_push_size _ rfl) (I.hok.fresh sz) (not_frame I sz) o1
  | none =>
    refine PySem.W.kla_makeFunction cl I.ok.glob ns hc cd gP tr e B.gP bb fun c1 ctv h1 tk hx ge lt rc tb => ?_
    obtain ⟨c2, oc, vs, tq, z, g1, g2, g3⟩ := rc
    cases z
    have sz : s.heap.objs.size ≤ h1.objs.size := by omega
    have n1 : H c1 = none := I.hok.fresh ge
    have J := inv_table (t' := tk) (h' := h1.push (lamO X params body scope ((X.mg "__name__").getD .none) c1 ctv)) I eP (fun b o n z => Heap.get?_push_of_some _ (hx b o n z)) (Heap.get?_push_of_some _ tb) ge ⟨oc, vs, tq, Heap.get?_push_of_some _ g1, g2, g3⟩
    refine k _ c1 _ ctv _ _ J (.inr ⟨ps, _, eP, n1, rfl⟩) (tabs_snoc t hm hu eP n1) (Heap.get?_push_size _ rfl) ?_ (not_frame I sz) upd_same
    rw [upd_ne (Nat.ne_of_gt lt), upd_ne (Nat.ne_of_gt (Nat.lt_of_lt_of_le ltP sz))]
    exact I.hok.fresh sz
end
section
variable {B : Bs} {W : Wd} {h : AH} {H H1 : Hp} {P c1 : Addr} {q : Str}
theorem LamH.old (l : LamH H H1 P c1 q) {b : Addr} {o : HO} (e : H b = some o) (n : NT o) : H1 b = some o := by
  rcases l with rfl | ⟨ps, ps1, eP, ec, rfl⟩
  · exact e
  · rw [upd_ne (ne_of_none e ec), upd_ne fun z => n ps (by rw [z, eP] at e; exact (Option.some.inj e).symm)]; exact e
theorem LamH.none (l : LamH H H1 P c1 q) {b : Addr} (e : H1 b = none) : H b = none := by
  rcases l with rfl | ⟨ps, ps1, eP, ec, rfl⟩
  · exact e
  · by_cases h1 : b = c1
    · rw [h1, upd_same] at e; cases e
    · rw [upd_ne h1] at e
      by_cases h2 : b = P
      · rw [h2, upd_same] at e; cases e
      · rw [upd_ne h2] at e; exact e
theorem LamH.new (l : LamH H H1 P c1 q) {b : Addr} {o : HO} (e : H1 b = some o) : H b = some o ∨ (∃ ps, o = .tbl ps) ∨ o = CodeO c1 q := by
  rcases l with rfl | ⟨ps, ps1, eP, ec, rfl⟩
  · exact .inl e
  · by_cases h1 : b = c1
    · rw [h1, upd_same] at e; cases e; exact .inr (.inr rfl)
    · rw [upd_ne h1] at e
      by_cases h2 : b = P
      · rw [h2, upd_same] at e; cases e; exact .inr (.inl ⟨_, rfl⟩)
      · rw [upd_ne h2] at e; exact .inl e
theorem hrel_lam (hr : HRel B W h H) (l : LamH H H1 P c1 q) (t : Tabs B.T H1) : HRel B W h H1 := by
  refine ⟨fun a o e => l.old (hr.agree a o e) (hr.fz a o e), hr.len, hr.nd, fun a ha z => hr.mt a ha (l.none z), fun a o e nt => ?_, hr.fz, t, fun n c a e1 e2 => ?_⟩
  · rcases l.new e with z | ⟨ps, rfl⟩ | rfl
    · exact hr.hz a o z nt
    · exact absurd rfl (nt ps)
    · trivial
  · obtain ⟨g1, g2⟩ := hr.cell n c a e1 e2
    refine ⟨g1, ?_⟩
    cases c with
    | lst xs => obtain ⟨vs, h1, h2⟩ := g2; exact ⟨vs, l.old h1 nt_lst, h2⟩
    | dic ks => exact g2
    | ins c fs => obtain ⟨dx, vs, h1, h2, h3⟩ := g2; exact ⟨dx, vs, l.old h1 nt_ins, h2, h3⟩
theorem step_lam (hr : HRel B W h H) (l : LamH H H1 P c1 q) : Step W h H W h H1 :=
  ⟨.refl W, Nat.le_refl _, fun n c _ e => ⟨c, e⟩, fun a o e nt _ => l.old e nt, fun a e => l.none e, fun a e _ _ => e, hr.len, fun n a hn e => by
    have := (List.getElem?_eq_some_iff.mp e).1
    rw [hr.len] at this; omega⟩
end
end Lp

set_option Elab.async false
set_option linter.all false
set_option maxRecDepth 100000
set_option maxHeartbeats 4000000
/-! Lp18: own exceptions whose __init__ begins by super().__init__(TEXT). -/
namespace Lp
open PySem PySem.Spec PyProof.Rows L2 LamX NdefX

section
open PySem.W
variable {prog : Program} {w : World} {A : Around} {E : Value → Shared → Prop} {s : Shared} {K : Frag} {x C D u : Addr} {ox : Obj} {odx : Option Obj} {B i newId : String} {bmB : List Value}
/-- the super object's method -/
theorem sup_get {so : Addr} {pl : Sem Bool} {cd : ClassData} {Q : Value × List Value → Shared → Prop} (KF : KxsFacts B i) (X : K.In s.heap) (hso : s.heap.get? so = some (ks_superObj D x C)) (I : InstAt s.heap x ox C odx) (ho : nsIn K cStatics "thirdparty.any" = some none)
    (hc : clsIn K C = some cd) (hm : ks_superIn K C D "__init__" = some (some (.builtin i))) (hB : subIn K (.ref C) (.type B) = some true)
    (h : Q (.ref s.heap.objs.size, []) { s with heap := s.heap.push (kxs_mw i x), toks := s.toks + 1 }) : wpAny (model prog w) A (getMethod (.ref so) "__init__" pl) Q E s := by
  have hI : Looks (model prog w) s.heap (isInstance (.ref x) (.type B)) true := I.type.andThen (looks_subIn X hB)
  obtain ⟨hh, g, d, t, os⟩ := s
  unfold ks_superIn at hm
  rw [hc] at hm
  exact kxs_getMethod KF hso (looks_opaque X ho) (l₀ := cd.mro) (fun A Q E s k q => wpAny_bind ((looks_clsIn X hc) A _ E s k (wpAny_pure q))) rfl X hm hI (ks_ne X I hc) rfl h
/-- .. called -/
theorem sup_call {t : Addr} {rest : List Value} {Q : Value → Shared → Prop} (FB : ExcBaseFacts B newId i bmB) (X : K.In s.heap) (q : excInitIn K C bmB newId = true) (hu : s.heap.get? u = some (kxs_mw i x)) (he : s.heap.get? x = some (excObj C t none .none)) (hz : rest.length ≤ sizeLine)
    (fin : ∀ h' t', (∀ b o, b ≠ x → s.heap.get? b = some o → h'.get? b = some o) → h'.get? x = some (excObj C t' none .none) → Q .none { s with heap := h' }) :
    wpAny (model prog w) A (call (.ref u) rest) Q E s := by
  obtain ⟨nm, N', qn, bs, bm, hdct, sn, sub, ab, col, dd, k0, k1, k2, k3, k5, hC, hT⟩ := excInit_of X q
  obtain ⟨hh, g, d, tk, os⟩ := s
  refine wpAny_call (codeAny_of_tree ?_)
  show wpAny _ A.in1 (callAny (.ref u) ⟨rest, []⟩) _ _ _
  simp only [callAny]
  refine wpAny_bind (wpAny_load hu ?_)
  simp only [kxs_mw, show (Value.type "method-wrapper" == Value.type "method" || Value.type "method-wrapper" == Value.type "builtin_function_or_method" || Value.type "method-wrapper" == Value.type "method-wrapper") = true by decide, if_true]
  refine KFB.if_so (by decide) ?_
  refine wpAny_bind (check_bound_init FB.toExcCallFacts hC he rfl ?_)
  refine wpAny_bind (wpAny_pure (wpAny_pure ?_))
  refine ⟨plainId_quiet FB.init.plain _, codeAny_builtin FB.initEntry ?_⟩
  exact exc_init_tree (cls := .ref C) (t0 := t) (dv := none) (c2 := .none) (c3 := .none) (b4 := .bool false) he hz fun h' k e' _ => fin h' _ k e'
end

/-- an __init__ that begins by super().__init__(TEXT): where it stands; D its class -/
structure SupF (P : Program) (K : PySem.W.Frag) (D : Addr) (qual : Str) (params : Arguments) (body : List Stmt) (scope : Scope) (f cc cda : Addr) (fd : FuncData) : Prop where
  fn : ∃ (oc : Value) (od : Option Addr) (dV kV doc pm : Value) (an : Option Addr) (ct : Value) (osl : Array (Option Value)), fd = PySem.W.ksFn "__init__" qual params body scope dV kV doc pm an (.ref cda) ct cc ∧ K.lookup f = some ⟨oc, od, .func fd, osl⟩
  code : PySem.W.codeIn K (.ref cda) qual = true
  file : ∃ (ccl : Value) (cdd : Option Addr) (vs : Array Value) (ccs : Array (Option Value)) (file : Str) (tf : Tok), K.lookup cda = some ⟨ccl, cdd, .fields vs, ccs⟩ ∧ vs[2]? = some (.str file tf) ∧ ((P.main.file : Str) == file) = true
  cell : ∃ (cl : Value) (cld : Option Addr) (csl : Array (Option Value)), K.lookup cc = some ⟨cl, cld, .cell (some (.ref D)), csl⟩
  cls : ∃ cd, PySem.W.clsIn K D = some cd
  sta : PySem.W.nsIn K cStatics "thirdparty.any" = some none
  self : ∃ ar : Arg, (params.posonlyargs ++ params.args).head? = some ar ∧ ar.arg = ("self" : Str)
  hs : scope.names.lookup ("super" : Str) = some .globalImplicit
  hc : scope.names.lookup ("__class__" : Str) = some .free
  hl : scope.names.lookup ("self" : Str) = some .local
  top : (P.main.scope.names.lookup ("super" : Str)).isSome = false
/-- what the written part says of an exception class over the built-in B -/
structure SupC (K : PySem.W.Frag) (B i newId : String) (bmB : List Value) (C D : Addr) : Prop where
  ini : PySem.W.excInitIn K C bmB newId = true
  sup : PySem.W.ks_superIn K C D "__init__" = some (some (.builtin i))
  sub : PySem.W.subIn K (.ref C) (.type B) = some true
  mro : PySem.W.mroIn K C (.ref D) = some true
section
variable {P : Program} {w : World} {K : PySem.W.Frag} {mg : Str → Option Value} {base : Heap} {CX : CXT} {D f cc cda C a : Addr} {qual : Str} {params : Arguments} {body : List Stmt} {scope : Scope} {fd : FuncData} {A : Around} {outer : List Env} {s0 s : Shared} {H H0 : Hp} {E : XK} {N : List Str} {pins : List (Addr × Obj)} {σ : L2.St}
variable {B i newId : String} {bmB : List Value} {TEXT : Str} {j : Nat} {p0 p1 p2 p3 cp ap : Pos}
abbrev supNF (qual : Str) (params : Arguments) (body : List Stmt) (scope : Scope) (cc cda : Addr) : NF := ⟨"__init__", qual, params, body, scope, [("__class__", cc)], cda⟩
theorem sup_stmt {pl : Sem Bool} {body' : List Stmt} {E' : Value → Shared → Prop} {R : Flow → Shared → Prop} (S : SupF P K D qual params body scope f cc cda fd) (T : SupC K B i newId bmB C D) (KF : PySem.W.KxsFacts B i) (FB : ExcBaseFacts B newId i bmB) (hsu : mg "super" = none)
    (I : Inv (ncx CX P w K mg base N (supNF qual params body scope cc cda) f A outer s0 H0 E) pins σ H s) (hN : N[0]? = some ("self" : Str)) (h0 : σ[0]? = some (some (.ref a))) (ha : H a = some (exo a C none))
    (ht : eval (.Call (.Attribute (.Call (.Name "super" p0) [] [] p1) "__init__" ap) [.Constant (.str TEXT) j cp] [] p2) (envF (supNF qual params body scope cc cda) f s0.heap.objs.size) = (do
      let ov ← attributeBase (.Call (.Name "super" p0) [] [] p1) "__init__" (envF (supNF qual params body scope cc cda) f s0.heap.objs.size) (eval (.Call (.Name "super" p0) [] [] p1) (envF (supNF qual params body scope cc cda) f s0.heap.objs.size))
      standAt ap.atName
      let (f1, first) ← holding [ov] (getMethod ov "__init__" pl)
      callWith p2 f1 first (backTo p2 (starEach [.Constant (.str TEXT) j cp] (envF (supNF qual params body scope cc cda) f s0.heap.objs.size))) []))
    (h : ∀ s', Inv (ncx CX P w K mg base N (supNF qual params body scope cc cda) f A outer s0 H0 E) pins σ H s' → R .next s') :
    _root_.PySem.wpAt (model P w) (A.deeper (envF (supNF qual params body scope cc cda) f s0.heap.objs.size)) (.func body' (envF (supNF qual params body scope cc cda) f s0.heap.objs.size))
      (exec (.Expr (.Call (.Attribute (.Call (.Name "super" p0) [] [] p1) "__init__" ap) [.Constant (.str TEXT) j cp] [] p2) p3) (envF (supNF qual params body scope cc cda) f s0.heap.objs.size)) R E' s := by
  obtain ⟨oc, od, dV, kV, doc, pm, an, ct, osl, rfl, lk⟩ := S.fn
  obtain ⟨ccl, cdd, vs, ccs, file, tf, lc, hvs, hfile⟩ := S.file
  obtain ⟨cl, cld, csl, lcc⟩ := S.cell
  obtain ⟨cdD, hD⟩ := S.cls
  obtain ⟨ar, hp, har⟩ := S.self
  have X := I.kIn
  have X : K.In s.heap := X
  obtain ⟨oD, hD1, hD2⟩ : ∃ oD, s.heap.get? D = some oD ∧ oD.data = .cls cdD := by
    unfold PySem.W.clsIn at hD
    split at hD
    · rename_i c d cd' sl ho
      cases hD
      exact ⟨_, X _ _ ho, rfl⟩
    · cases hD
  obtain ⟨t1, hx⟩ := exo_at I.hok ha
  have hcC : ∃ cd, PySem.W.clsIn K C = some cd := by
    have q := T.mro
    unfold PySem.W.mroIn at q
    cases e : PySem.W.clsIn K C with
    | none => rw [e] at q; cases q
    | some cd => exact ⟨cd, rfl⟩
  obtain ⟨cdC, hcC⟩ := hcC
  have Ins : ∀ {h' : Heap}, h'.get? a = some (PySem.W.excObj C t1 none .none) → PySem.W.InstAt h' a (PySem.W.excObj C t1 none .none) C none := fun e => ⟨e, rfl, rfl, trivial⟩
  have hint : interactive (envF (supNF qual params body scope cc cda) f s0.heap.objs.size) = false := by
    have hk : scope.kind = .function := I.ok.kind
    unfold interactive
    simp [hk]
  refine PySem.ks_wpAt_Expr_any ?_ hint
  refine PySem.ks_wpAt_MethodCall (pl := pl) ?_ ht
  refine PySem.ks_wpAt_super_base (env := envF (supNF qual params body scope cc cda) f s0.heap.objs.size) S.hs S.hc rfl rfl (X _ _ lk) rfl hp rfl (X _ _ lc) rfl hvs hfile S.top ?_
  obtain ⟨mb, b1, b2⟩ := I.mod.blt
  have b1 : base.Ns builtinsNs mb := b1
  refine PySem.W.ks_loadName_global I.ok.kind S.hs (Calls.loadGlobal_builtin (env := envF (supNF qual params body scope cc cda) f s0.heap.objs.size) (I.mod.glob.keeps I.bk) hsu (b1.keeps I.bk) ((b2 _ (by decide)).trans (show bootBuiltins "super" = some (.type "super") by decide +kernel)) ⟨rfl, ?_⟩)
  refine wpAny_loadName_free I.ok.kind S.hc rfl ⟨_, X _ _ lcc, rfl⟩ ?_
  obtain ⟨m, hns, hl⟩ := I.loc
  obtain ⟨u, ru, lu⟩ := hl 0 "self" _ hN h0 (.inl S.hl)
  obtain rfl : u = Value.ref a := ru
  have hm : m ("self" : Str) = some (.ref a) := by
    rcases lu with ⟨_, z⟩ | ⟨z, _⟩
    · exact z
    · have z : scope.names.lookup ("self" : Str) = some .cell ∨ scope.names.lookup ("self" : Str) = some .free := z
      rw [S.hl] at z
      rcases z with z | z <;> cases z
  rw [har]
  refine wpAny_loadName_local I.ok.kind S.hl hns hm ?_
  have I0 := I
  obtain ⟨hh, g, d, t, os⟩ := s
  refine PySem.ks_wpAny_isType_cls hD1 hD2 ⟨rfl, ?_⟩
  refine PySem.ks_wpAny_call_super hD1 hD2 hx rfl (fun c z => nomatch z) (PySem.W.looks_mroIn X T.mro) (fun h1 e1 k1 => ?_)
  have I1 := I.kept (h' := h1) (t' := t) k1
  refine sup_get (s := ⟨h1, g, d, t, os⟩) (pl := _) KF I1.kIn e1 (Ins (k1 _ _ hx)) S.sta hcC T.sup T.sub ?_
  have k2 : ∀ b o, h1.get? b = some o → (h1.push (PySem.W.kxs_mw i a)).get? b = some o := fun b o e => Heap.get?_push_of_some _ e
  have I2 := I1.kept (h' := h1.push (PySem.W.kxs_mw i a)) (t' := t + 1) k2
  have hu : (h1.push (PySem.W.kxs_mw i a)).get? h1.objs.size = some (PySem.W.kxs_mw i a) := Heap.get?_push_at rfl rfl
  refine PySem.W.kxs_callWith (i := i) (x := a) rfl ?_
  refine Calls.evalArgs_plain ?_
  refine Calls.spliced_cons (Calls.Constant_str (pos := cp) (k := j) ?_)
  refine Calls.spliced_nil ⟨hu, ?_⟩
  refine sup_call (s := ⟨h1.push (PySem.W.kxs_mw i a), g, d, t + 1 + 1, os⟩) FB I2.kIn T.ini hu (k2 _ _ (k1 _ _ hx)) (by rw [sizeLine_eq]; exact Nat.le_of_ble_eq_true rfl) fun h' t' k' e' => ?_
  have J := (I2.tok (t + 1 + 1)).write (h' := h') (t' := t + 1 + 1) (x := a) (e := a) (o := exo a C none) (by rw [ha]; exact True.intro) (.inl rfl) k' ⟨_, e'⟩ (exo_ok e')
  have eu : upd H a (exo a C none) = H := by
    funext b
    by_cases hb : b = a
    · rw [hb, upd_same, ha]
    · rw [upd_ne hb]
  rw [eu] at J
  exact h _ J
/-- THE RULE: super().__init__(TEXT), then the rest -/
theorem sup_ok {st0 : Stmt} {rest : List Stmt} {sp : Sp} {k : Nat} {ps N : List Str} (S : SupF P K D qual params (st0 :: rest) scope f cc cda fd) (KF : PySem.W.KxsFacts B i) (FB : ExcBaseFacts B newId i bmB) (hsu : mg "super" = none) (sc : NScope N ps ["__class__"] scope)
    (hps : ps[0]? = some ("self" : Str)) (e0 : st0 = .Expr (.Call (.Attribute (.Call (.Name "super" p0) [] [] p1) "__init__" ap) [.Constant (.str TEXT) j cp] [] p2) p3)
    (ht : ∀ L : Addr, ∃ pl : Sem Bool, eval (.Call (.Attribute (.Call (.Name "super" p0) [] [] p1) "__init__" ap) [.Constant (.str TEXT) j cp] [] p2) (envF (supNF qual params (st0 :: rest) scope cc cda) f L) = (do
      let ov ← attributeBase (.Call (.Name "super" p0) [] [] p1) "__init__" (envF (supNF qual params (st0 :: rest) scope cc cda) f L) (eval (.Call (.Name "super" p0) [] [] p1) (envF (supNF qual params (st0 :: rest) scope cc cda) f L))
      standAt ap.atName
      let (f1, first) ← holding [ov] (getMethod ov "__init__" pl)
      callWith p2 f1 first (backTo p2 (starEach [.Constant (.str TEXT) j cp] (envF (supNF qual params (st0 :: rest) scope cc cda) f L))) []))
    (hsp : ∀ vs H Q E, sp vs H Q E → vs.length = ps.length ∧ ∃ (a C : Addr) (us : List V), vs = .ref a :: us ∧ H a = some (exo a C none) ∧ SupC K B i newId bmB C D)
    (hbody : ∀ (A : Around) (outer : List Env) (s : Shared) (H : Hp) (vs : List V) (Q : VK) (E : XK), Room k (A.deeper (envF (supNF qual params (st0 :: rest) scope cc cda) f s.heap.objs.size)) → sp vs H Q E →
      ∃ t, PSs (ncx CX P w K mg base N (supNF qual params (st0 :: rest) scope cc cda) f A outer s H E) rest t ∧ t { nx := fun _ H' => Q .non H', rt := Q } (startF N vs [some (.ref D)]) H) :
    FnOk P w K mg base CX (k + 1) f fd ps sp := by
  refine ⟨fun vs H Q E q => (hsp vs H Q E q).1, fun A outer s H args us vs Q E hr e1 hb r q => ?_⟩
  obtain ⟨hl, a, C, us', rfl, ha, T⟩ := hsp _ _ _ _ q
  have S0 := S
  obtain ⟨oc, od, dV, kV, doc, pm, an, ct, osl, rfl, lk⟩ := S.fn
  obtain ⟨cl, cld, csl, lcc⟩ := S.cell
  have KX : K.In s.heap := e1.mod.kin.keeps fun b o e => (e1.bs b o e).1
  have lim : s.heap.NoLimit := e1.mod.nolimit.keeps fun b o e => (e1.bs b o e).1
  have hcc0 : H cc = none := (e1.bs cc _ (e1.mod.kin _ _ lcc)).2
  have CA : CellsAt [(("__class__" : Str), cc)] ["__class__"] [some (.ref D)] s.heap H := by
    have one : ∀ (y : Str) (c : Addr), ([(("__class__" : Str), cc)] : List (Str × Addr)).lookup y = some c → y = "__class__" ∧ c = cc := fun y c e => by
      rw [List.lookup_cons] at e
      split at e
      · rename_i z; cases e; exact ⟨beq_iff_eq.mp z, rfl⟩
      · cases e
    refine ⟨rfl, fun y c e => ?_, fun x y c e1 e2 => ?_, fun i y e => ?_⟩
    · obtain ⟨_, rfl⟩ := one y c e
      exact ⟨hcc0, _, _, KX _ _ lcc, rfl⟩
    · rw [(one x c e1).1, (one y c e2).1]
    · cases i with
      | zero =>
        cases e
        refine ⟨cc, rfl, fun v ev => ?_⟩
        cases ev
        exact ⟨.ref D, rfl, _, KX _ _ lcc, rfl⟩
      | succ i => simp at e
  have hk : scope.kind = .function := sc.kind
  refine PySem.ks_codeAny_call_defAt (fd := PySem.W.ksFn "__init__" qual params (st0 :: rest) scope dV kV doc pm an (.ref cda) ct cc) (body := st0 :: rest) (binds := ps.zip us) hr.depth (KX _ _ lk) rfl lim (PySem.W.codeRec_of KX S.code) rfl hb sc.nocell (fun ⟨n, _⟩ hy => sc.par n (List.of_mem_zip hy).1) (fun h₁ hns kp => ?_) sc.co sc.gen hk
  have I : Inv (ncx CX P w K mg base N (supNF qual params (st0 :: rest) scope cc cda) f A outer s H E) [] (startF N (.ref a :: us') [some (.ref D)]) H { s with heap := h₁, toks := s.toks + (ps.zip us).length } := inv_startN sc hr.hd e1 hl r CA hns kp
  obtain ⟨pl, ht⟩ := ht s.heap.objs.size
  show _root_.PySem.wpAt (model P w) (A.deeper (envF (supNF qual params (st0 :: rest) scope cc cda) f s.heap.objs.size)) (.func (st0 :: rest) (envF (supNF qual params (st0 :: rest) scope cc cda) f s.heap.objs.size)) (execs (st0 :: rest) (envF (supNF qual params (st0 :: rest) scope cc cda) f s.heap.objs.size)) _ _ _
  refine PySem.ks_wpAt_execs_cons ?_
  have hN : N[0]? = some ("self" : Str) := by
    have q := sc.pre
    have : (N.take (ps.length + (["__class__"] : List Str).length))[0]? = (ps ++ (["__class__"] : List Str))[0]? := by rw [q]
    rw [List.getElem?_take_of_lt (by simp)] at this
    rw [this, List.getElem?_append_left (by rw [← hl]; simp)]
    exact hps
  subst e0
  refine sup_stmt (R := _) S0 T KF FB hsu I hN rfl ha ht fun s' J => ?_
  obtain ⟨t, hp, hq⟩ := hbody A outer s H _ Q E (hr.deeper _) q
  refine wpAt_of_wpAny (wpAny_mono (hp.run [] s' _ H _ J hq) (fun fl s2 hs => ?_) fun _ _ z => z)
  cases fl with
  | ret u =>
    obtain ⟨v, σ', H', J, rv, q⟩ := hs
    exact ⟨v, H', J.os, J.bare, J.base, J.hok, rv, q⟩
  | next =>
    obtain ⟨σ', H', J, q⟩ := hs
    exact ⟨V.non, H', J.os, J.bare, J.base, J.hok, rfl, q⟩
  | brk =>
    obtain ⟨_, _, _, q⟩ := hs
    exact False.elim q
  | cont =>
    obtain ⟨_, _, _, q⟩ := hs
    exact False.elim q
end
end Lp

set_option Elab.async false
set_option linter.all false
set_option maxRecDepth 100000
set_option maxHeartbeats 4000000
/-! Lp18b: stores into an exception that is being made, whatever built-in class it stands over. -/
namespace Lp
open PySem PySem.Spec PyProof.Rows L2 LamX NdefX
/-- what is asked of the class at C, over a built-in with the classes bmB -/
structure OexB (K : PySem.W.Frag) (bmB : List Value) (C : Addr) : Prop where
  over : PySem.W.excOver K C bmB = true
  hd : ∃ cd, PySem.W.clsIn K C = some cd ∧ cd.hasDict = true
  sa : PySem.W.findIn K (.ref C) "__setattr__" = some (some (.builtin "object.__setattr__"))
section
open PySem.W Builtin Builtin.ObjectAttr
variable {prog : Program} {w : World} {A : Around} {R : Result → Shared → Prop} {hp : Heap} {g : Array GenState} {d : Drawn} {t : Nat} {os : OsState} {K : Frag} {bmB : List Value} {B : String} {C x dx : Addr} {name : Str} {tk : Tok} {v : Value}
theorem taker_no (ha : findIn K (.ref C) name = some none) : takerIn K C name = some none := by
  unfold takerIn
  rw [ha]; rfl
theorem osaB_new {t1 : Addr} (SF : StoreFacts B bmB "object.__setattr__" "object") (O : OexB K bmB C) (X : K.In hp) (hx : hp.get? x = some (excObj C t1 none .none)) (ha : findIn K (.ref C) name = some none)
    (hq : ∀ h' tk' dx, (∀ b o, b ≠ x → hp.get? b = some o → h'.get? b = some o) → hp.objs.size ≤ dx → dx ≠ x → h'.get? x = some (excObj C t1 (some dx) .none) → h'.Ns1 dx (fun y => if y = name then some v else none) → R (.ok (.ret .none)) ⟨h', g, d, tk', os⟩) :
    codeAny (model prog w) A (.call (.builtin "object.__setattr__") ⟨[.ref x, .str name tk, v], []⟩) R ⟨hp, g, d, t, os⟩ := by
  obtain ⟨cd, hcd, hh⟩ := O.hd
  have xs : x ≠ hp.objs.size := Nat.ne_of_lt (Heap.lt_size hx)
  have hcls : Looks (model prog w) hp (classData C) cd := looks_clsIn X hcd
  refine osa_openX (ox := excObj C t1 none .none) (od := none) SF X ⟨hx, rfl, rfl, trivial⟩ O.over (taker_no ha) fun b => ?_
  obtain ⟨nm, bs, mro, ns, qn, hd, sn, sb, ab, col, del⟩ := cd
  dsimp only at hh
  subst hh
  dsimp only
  unfold storeInOwnDict ownDictForStores
  repeat (first | with_reducible refine HandSPX.store_in_new ?_ ?_ | with_reducible refine wpAny_loadPart_at hx ?_ | with_reducible refine hcls.at ?_ | wp_step)
  · have e0 := (Heap.get?_update_ne _ _ _ (fun o => { o with dict := some hp.objs.size }) xs.symm).trans (Heap.get?_push_at (h := hp) (o := { cls := .type "dict", data := .dict #[] }) rfl rfl)
    exact ⟨_, #[], _, e0, rfl, fun e he => absurd he (by simp), fun _ => rfl⟩
  · intro h' tk' hn' hs
    have hx1 : (hp.push { cls := .type "dict", data := .dict #[] }).get? x = some (excObj C t1 none .none) := Heap.get?_push_of_some _ hx
    refine hq h' tk' hp.objs.size (fun b o hb ho => ?_) (Nat.le_refl _) xs.symm ((hs.2 x xs).trans (Heap.get?_update_self _ hx1 rfl)) hn'
    refine (hs.2 b (Nat.ne_of_lt (Heap.lt_size ho))).trans ?_
    exact (Heap.get?_update_ne _ _ _ _ hb).trans (Heap.get?_push_of_some _ ho)
theorem osaB_old {t1 : Addr} {m0 : Str → Option Value} {nl : List Str} (SF : StoreFacts B bmB "object.__setattr__" "object") (O : OexB K bmB C) (X : K.In hp) (hx : hp.get? x = some (excObj C t1 (some dx) .none)) (hns : hp.Ns1 dx m0) (hw : Within m0 nl) (hz : nl.length ≤ 1000) (ha : findIn K (.ref C) name = some none)
    (hq : ∀ h' tk', (∀ b o, b ≠ dx → hp.get? b = some o → h'.get? b = some o) → h'.Ns1 dx (fun y => if y = name then some v else m0 y) → R (.ok (.ret .none)) ⟨h', g, d, tk', os⟩) :
    codeAny (model prog w) A (.call (.builtin "object.__setattr__") ⟨[.ref x, .str name tk, v], []⟩) R ⟨hp, g, d, t, os⟩ := by
  obtain ⟨cd, hcd, hh⟩ := O.hd
  obtain ⟨oD, esD, epD, hoD, hdD, _⟩ := hns.count hw
  have hcls : Looks (model prog w) hp (classData C) cd := looks_clsIn X hcd
  refine osa_openX (ox := excObj C t1 (some dx) .none) (od := some oD) SF X ⟨hx, rfl, rfl, hoD⟩ O.over (taker_no ha) fun b => ?_
  obtain ⟨nm, bs, mro, ns, qn, hd, sn, sb, ab, col, del⟩ := cd
  dsimp only at hh
  subst hh
  dsimp only
  unfold storeInOwnDict ownDictForStores
  repeat (first | with_reducible refine OEX.store_in_old hns hw hz ?_ | with_reducible refine wpAny_loadPart_at hx ?_ | with_reducible refine hcls.at ?_ | wp_step)
  intro h' tk' hn' hs
  exact hq h' tk' (fun b o hb ho => (hs.2 b hb).trans ho) hn'
end
section
variable {X : Cx} {pins : List (Addr × Obj)} {σ : L2.St} {H : Hp} {s : Shared} {a C dx : Addr} {f : Str} {y : V} {u : Value} {fs : List (Str × V)} {Q : Unit → Shared → Prop} {E : Value → Shared → Prop} {A : Around} {bmB : List Value} {B : String}
theorem ostB_new (SF : StoreFacts B bmB "object.__setattr__" "object") (T : OexB X.K bmB C) (I : Inv X pins σ H s) (e : H a = some (exo a C none)) (hno : PySem.W.findIn X.K (.ref C) f = some none) (ry : RelV y u)
    (h : ∀ dx s', H dx = none → dx ≠ a → Inv X pins σ (upd (upd H dx (exd dx [(f, y)])) a (exo a C (some dx))) s' → Q () s') : wpAny (model X.prog X.w) A (setAttr (.ref a) f u) Q E s := by
  obtain ⟨t1, ho⟩ := exo_at I.hok e
  obtain ⟨hp, g, d, t, os⟩ := s
  refine PySem.W.set_plain I.kIn (ox := PySem.W.excObj C t1 none .none) (od := none) ⟨ho, rfl, rfl, trivial⟩ T.sa ?_
  refine osaB_new SF T I.kIn ho hno fun h' tk' dx k dn dne hx hn => ?_
  have hnd : H dx = none := I.hok.fresh dn
  have nd : ∀ {b : Addr} {o : Obj}, hp.get? b = some o → b ≠ dx := fun {b o} q z => Nat.lt_irrefl _ (Nat.lt_of_lt_of_le (z ▸ Heap.lt_size q) dn)
  have na : ∀ {b : Addr}, H b = none → b ≠ a := fun {b} n z => by
    rw [z, e] at n
    cases n
  have k1 : ∀ {b : Addr} {o : Obj}, H b = none → hp.get? b = some o → h'.get? b = some o := fun {b o} n q => k b o (na n) q
  have U : Un X.fs [] H (upd (upd H dx (exd dx [(f, y)])) a (exo a C (some dx))) hp h' := by
    refine ⟨fun b o q n _ _ => k1 n q, fun b o q n _ _ => ⟨o.slots, k1 n q⟩, fun b o q n _ => ?_, fun b o q _ => ?_, fun b xs q => ?_, fun b o v q => ?_, fun b ps q => ⟨#[], ?_⟩⟩
    · rw [upd_ne (na n), upd_ne (nd q)]; exact n
    · by_cases hb : b = a
      · subst hb; exact ⟨_, hx⟩
      · exact ⟨o, k b o hb q⟩
    · rw [upd_ne (at_ne e q exo_tup), upd_ne (ne_of_none q hnd)]; exact q
    · rw [upd_ne (at_ne e q exo_frz), upd_ne (ne_of_none q hnd)]; exact q
    · rw [upd_ne (at_ne e q exo_tbl), upd_ne (ne_of_none q hnd), q, Array.append_empty]
  refine h dx _ hnd dne (I.un (t' := tk') U fun b o q => ?_)
  by_cases hb : b = a
  · subst hb
    rw [upd_same] at q
    cases q
    exact exo_ok hx
  rw [upd_ne hb] at q
  by_cases hd : b = dx
  · subst hd
    rw [upd_same] at q
    cases q
    exact exd_ok hn (relO_put (fs := []) ry fun g => True.intro)
  rw [upd_ne hd] at q
  refine (I.hok b o q).stay (fun c v hc z => k c v ?_ z) (fun c hc => ?_) fun c xs hc => ?_
  · rcases hc with rfl | hc
    · exact hb
    · exact at_ne e hc exo_own
  · rw [upd_ne (at_ne e hc exo_own), upd_ne (ne_of_none hc hnd)]; exact hc
  · rw [upd_ne (at_ne e hc exo_tup), upd_ne (ne_of_none hc hnd)]; exact hc
theorem ostB_old (SF : StoreFacts B bmB "object.__setattr__" "object") (T : OexB X.K bmB C) (I : Inv X pins σ H s) (e : H a = some (exo a C (some dx))) (ed : H dx = some (exd dx fs)) (hl : fs.length ≤ 900) (hno : PySem.W.findIn X.K (.ref C) f = some none) (ry : RelV y u)
    (h : ∀ s', Inv X pins σ (upd H dx (exd dx ((f, y) :: fs))) s' → Q () s') : wpAny (model X.prog X.w) A (setAttr (.ref a) f u) Q E s := by
  obtain ⟨t1, ho⟩ := exo_at I.hok e
  obtain ⟨mA, hns, rel⟩ := exd_at I.hok ed
  have hw := within_of rel
  obtain ⟨hp, g, d, t, os⟩ := s
  obtain ⟨oD, _, _, hoD, _, _⟩ := hns.count hw
  refine PySem.W.set_plain I.kIn (ox := PySem.W.excObj C t1 (some dx) .none) (od := some oD) ⟨ho, rfl, rfl, hoD⟩ T.sa ?_
  refine osaB_old SF T I.kIn ho hns hw (by rw [List.length_map]; omega) hno fun h' tk' k hn => ?_
  have hd : ∃ o, h'.get? dx = some o := let ⟨o, _, _, e', _⟩ := hn; ⟨o, e'⟩
  have J := I.write (t' := tk') (x := dx) (e := dx) (o := exd dx ((f, y) :: fs)) (by rw [ed]; exact True.intro) (.inl rfl) k hd (exd_ok hn (relO_put ry rel))
  exact h _ J
end
/-- self.f = e within an exception's making -/
def tOstB (K : PySem.W.Frag) (bmB : List Value) (f : Str) (to te : TE) : TS := fun D σ H => te σ H fun y H1 => to σ H1 fun x H2 => ∃ a C : Addr, x = .ref a ∧ OexB K bmB C ∧ PySem.W.findIn K (.ref C) f = some none ∧
  ((H2 a = some (exo a C none) ∧ ∀ dx, H2 dx = none → dx ≠ a → D.nx σ (upd (upd H2 dx (exd dx [(f, y)])) a (exo a C (some dx)))) ∨
    ∃ (dx : Addr) (fs : List (Str × V)), H2 a = some (exo a C (some dx)) ∧ H2 dx = some (exd dx fs) ∧ fs.length ≤ 900 ∧ D.nx σ (upd H2 dx (exd dx ((f, y) :: fs))))
theorem ps_ostB {X : Cx} {o e : Expr} {to te : TE} {f : Str} {p' pos : Pos} {bmB : List Value} {B : String} (SF : StoreFacts B bmB "object.__setattr__" "object") (ho : PE X o to) (he : PE X e te) (hs : swapsWith e (some (.Attribute o f p')) pos.line X.env = pure false := by rfl) :
    PS X (.Assign [.Attribute o f p'] e pos) (tOstB X.K bmB f to te) := by
  refine ⟨fun pins s σ H D I h => plainObj_wpAny_Assign_Attribute (thn (he.run pins s σ H _ I h) fun v s1 ⟨y, H1, I1, r1, q1⟩ => thn (ho.run pins s1 σ H1 _ I1 q1) fun u s2 ⟨x, H2, I2, r2, a, C, ex, T, hno, q⟩ => ?_) hs⟩
  subst ex
  obtain rfl : u = Value.ref a := r2
  rcases q with ⟨ea, q⟩ | ⟨dx, fs, ea, ed, hl, q⟩
  · exact ostB_new SF T I2 ea hno r1 fun dx s' n ne J => ⟨σ, _, J, q dx n ne⟩
  · exact ostB_old SF T I2 ea ed hl hno r1 fun s' J => ⟨σ, _, J, q⟩
end Lp

set_option Elab.async false
set_option linter.all false
set_option maxRecDepth 100000
set_option maxHeartbeats 4000000
/-! Lp19: own exceptions made and raised. -/
namespace Lp
open PySem PySem.Spec PyProof.Rows L2 LamX NdefX

/-- what an __init__ of an exception of the class at C does: n values by place; fs: the fields from the last one back -/
def spIni (C : Addr) (n : Nat) (fs : List V → List (Str × V)) : Sp := fun vs H Q E => ∃ (a : Addr) (us : List V), vs = .ref a :: us ∧ us.length = n ∧ H a = some (exo a C none) ∧
  ∀ (dx : Addr) (H' : Hp), H dx = none → dx ≠ a → H' a = some (exo a C (some dx)) → H' dx = some (exd dx (fs us)) → (∀ b, b ≠ a → b ≠ dx → H' b = H b) → Q .non H'
section
variable {P : Program} {w : World} {K : PySem.W.Frag} {mg : Str → Option Value} {base : Heap} {CX : CXT} {D f cc cda a : Addr} {qual : Str} {params : Arguments} {body : List Stmt} {scope : Scope} {fd : FuncData} {k : Nat}
variable {B i newId : String} {bmB : List Value} {TEXT f1 f2 x1 x2 : Str} {st0 : Stmt} {j j2 : Nat} {p0 p1 p2 p3 cp ap q0 q1 q2 q3 r0 r1 r2 r3 t0 t1 t2 t3 : Pos}
/-- the text of the call of super().__init__ -/
abbrev supSt (TEXT : Str) (j : Nat) (p0 p1 p2 p3 cp ap : Pos) : Stmt := .Expr (.Call (.Attribute (.Call (.Name "super" p0) [] [] p1) "__init__" ap) [.Constant (.str TEXT) j cp] [] p2) p3
def SupEv (TEXT : Str) (j : Nat) (p0 p1 p2 cp ap : Pos) (env : Env) : Prop := ∃ pl : Sem Bool, eval (.Call (.Attribute (.Call (.Name "super" p0) [] [] p1) "__init__" ap) [.Constant (.str TEXT) j cp] [] p2) env = (do
      let ov ← attributeBase (.Call (.Name "super" p0) [] [] p1) "__init__" env (eval (.Call (.Name "super" p0) [] [] p1) env)
      standAt ap.atName
      let (f1, first) ← holding [ov] (getMethod ov "__init__" pl)
      callWith p2 f1 first (backTo p2 (starEach [.Constant (.str TEXT) j cp] env)) [])
theorem ini_len {n : Nat} {fs : List V → List (Str × V)} {ps : List Str} (hps : ps.length = n + 1) (T : SupC K B i newId bmB D D) : ∀ vs H Q E, spIni D n fs vs H Q E → vs.length = ps.length ∧ ∃ (a C : Addr) (us : List V), vs = .ref a :: us ∧ H a = some (exo a C none) ∧ SupC K B i newId bmB C D :=
  fun vs H Q E ⟨a, us, e, hl, ha, _⟩ => ⟨by rw [e, List.length_cons, hl, hps], a, D, us, e, ha, T⟩
/-- a run of stores into an exception: what holds of the heap -/
structure OstR (a dx : Addr) (H H' : Hp) (C : Addr) (fs : List (Str × V)) : Prop where
  hd : H dx = none
  ne : dx ≠ a
  at_ : H' a = some (exo a C (some dx))
  dd : H' dx = some (exd dx fs)
  keep : ∀ b, b ≠ a → b ≠ dx → H' b = H b
theorem OstR.first {H : Hp} {C dx : Addr} {g : Str} {y : V} (n : H dx = none) (ne : dx ≠ a) : OstR a dx H (upd (upd H dx (exd dx [(g, y)])) a (exo a C (some dx))) C [(g, y)] :=
  ⟨n, ne, upd_same, by rw [upd_ne ne, upd_same], fun b h1 h2 => by rw [upd_ne h1, upd_ne h2]⟩
theorem OstR.next {H H' : Hp} {C dx : Addr} {g : Str} {y : V} {fs : List (Str × V)} (r : OstR a dx H H' C fs) : OstR a dx H (upd H' dx (exd dx ((g, y) :: fs))) C ((g, y) :: fs) :=
  ⟨r.hd, r.ne, by rw [upd_ne (Ne.symm r.ne)]; exact r.at_, upd_same, fun b h1 h2 => by rw [upd_ne h2]; exact r.keep b h1 h2⟩
/-- a built-in exception class: what the library says of it -/
structure BltX (B i newId : String) (bmB : List Value) : Prop where
  kx : PySem.W.KxsFacts B i
  ba : ExcBaseFacts B newId i bmB
  st : StoreFacts B bmB "object.__setattr__" "object"
theorem blt_VE : BltX "ValueError" "ValueError.__init__" "ValueError.__new__" [.type "ValueError", .type "Exception", .type "BaseException", .type "object"] := ⟨PySem.W.kxs_ValueError, PySem.F.excBase_ValueError, PySem.F.store_ValueError⟩
theorem blt_LE : BltX "LookupError" "LookupError.__init__" "LookupError.__new__" [.type "LookupError", .type "Exception", .type "BaseException", .type "object"] := ⟨PySem.W.kxs_LookupError, PySem.F.excBase_LookupError, PySem.F.store_LookupError⟩
theorem blt_IE : BltX "IndexError" "IndexError.__init__" "IndexError.__new__" [.type "IndexError", .type "LookupError", .type "Exception", .type "BaseException", .type "object"] := ⟨PySem.W.kxs_IndexError, PySem.F.excBase_IndexError, PySem.F.store_IndexError⟩
/-- the class's facts -/
structure VeC (K : PySem.W.Frag) (B i newId : String) (bmB : List Value) (D : Addr) : Prop where
  sup : SupC K B i newId bmB D D
  oex : OexB K bmB D
  exC : PySem.W.subIn K (.ref D) (.type "BaseException") = some true
  tyC : PySem.W.typeIn K (.ref D) = some (.type "type")
  kC : PySem.W.keepIn K (.ref D) = true
theorem ini0 (S : SupF P K D qual params [supSt TEXT j p0 p1 p2 p3 cp ap, .Assign [.Attribute (.Name "self" t0) "code" t1] (.Constant (.str TEXT) j2 t2) t3] scope f cc cda fd) (G : BltX B i newId bmB) (V : VeC K B i newId bmB D) (hsu : mg "super" = none) (sc : NScope ["self", "__class__"] ["self"] ["__class__"] scope)
    (ht : ∀ L : Addr, SupEv TEXT j p0 p1 p2 cp ap (envF (supNF qual params [supSt TEXT j p0 p1 p2 p3 cp ap, .Assign [.Attribute (.Name "self" t0) "code" t1] (.Constant (.str TEXT) j2 t2) t3] scope cc cda) f L))
    (nc : PySem.W.findIn K (.ref D) "code" = some none) :
    FnOk P w K mg base CX (k + 1) f fd ["self"] (spIni D 0 fun _ => [("code", .str TEXT)]) := by
  refine sup_ok S G.kx G.ba hsu sc rfl rfl ht (ini_len rfl V.sup) fun A outer s H vs Q E hr ⟨a, us, e, hl, ha, q⟩ => ?_
  subst e
  obtain rfl := List.length_eq_zero_iff.mp hl
  refine ⟨_, pss_one (ps_ostB G.st (pe_var (i := 0) rfl (.inl (sc.par _ (by simp))) rfl rfl) pe_str), ?_⟩
  refine ⟨.ref a, rfl, a, D, rfl, V.oex, nc, .inl ⟨ha, fun dx n ne => ?_⟩⟩
  have o := OstR.first (C := D) (g := "code") (y := .str TEXT) n ne
  exact q dx _ n ne o.at_ o.dd o.keep
theorem ini1 (S : SupF P K D qual params [supSt TEXT j p0 p1 p2 p3 cp ap, .Assign [.Attribute (.Name "self" q0) f1 q1] (.Name x1 q2) q3, .Assign [.Attribute (.Name "self" t0) "code" t1] (.Constant (.str TEXT) j2 t2) t3] scope f cc cda fd) (G : BltX B i newId bmB) (V : VeC K B i newId bmB D) (hsu : mg "super" = none)
    (sc : NScope ["self", x1, "__class__"] ["self", x1] ["__class__"] scope)
    (ht : ∀ L : Addr, SupEv TEXT j p0 p1 p2 cp ap (envF (supNF qual params [supSt TEXT j p0 p1 p2 p3 cp ap, .Assign [.Attribute (.Name "self" q0) f1 q1] (.Name x1 q2) q3, .Assign [.Attribute (.Name "self" t0) "code" t1] (.Constant (.str TEXT) j2 t2) t3] scope cc cda) f L))
    (hx : (x1 == ("__debug__" : Str)) = false) (hx2 : (x1 == ("__classdict__" : Str)) = false) (n1 : PySem.W.findIn K (.ref D) f1 = some none) (nc : PySem.W.findIn K (.ref D) "code" = some none) :
    FnOk P w K mg base CX (k + 1) f fd ["self", x1] (spIni D 1 fun us => [("code", .str TEXT), (f1, us.headD .non)]) := by
  refine sup_ok S G.kx G.ba hsu sc rfl rfl ht (ini_len rfl V.sup) fun A outer s H vs Q E hr ⟨a, us, e, hl, ha, q⟩ => ?_
  subst e
  obtain ⟨v, rfl⟩ := List.length_eq_one_iff.mp hl
  refine ⟨_, pss_cons (ps_ostB G.st (pe_var (i := 0) rfl (.inl (sc.par _ (by simp))) rfl rfl) (pe_var (i := 1) rfl (.inl (sc.par _ (by simp))) hx hx2)) (pss_one (ps_ostB G.st (pe_var (i := 0) rfl (.inl (sc.par _ (by simp))) rfl rfl) pe_str)), ?_⟩
  refine ⟨v, rfl, .ref a, rfl, a, D, rfl, V.oex, n1, .inl ⟨ha, fun dx n ne => ?_⟩⟩
  have o := OstR.first (C := D) (g := f1) (y := v) n ne
  refine ⟨.ref a, rfl, a, D, rfl, V.oex, nc, .inr ⟨dx, _, o.at_, o.dd, by simp, ?_⟩⟩
  have o2 := o.next (g := "code") (y := .str TEXT)
  exact q dx _ n ne o2.at_ o2.dd o2.keep
theorem ini2 (S : SupF P K D qual params [supSt TEXT j p0 p1 p2 p3 cp ap, .Assign [.Attribute (.Name "self" q0) f1 q1] (.Name x1 q2) q3, .Assign [.Attribute (.Name "self" r0) f2 r1] (.Name x2 r2) r3, .Assign [.Attribute (.Name "self" t0) "code" t1] (.Constant (.str TEXT) j2 t2) t3] scope f cc cda fd) (G : BltX B i newId bmB) (V : VeC K B i newId bmB D) (hsu : mg "super" = none)
    (sc : NScope ["self", x1, x2, "__class__"] ["self", x1, x2] ["__class__"] scope)
    (ht : ∀ L : Addr, SupEv TEXT j p0 p1 p2 cp ap (envF (supNF qual params [supSt TEXT j p0 p1 p2 p3 cp ap, .Assign [.Attribute (.Name "self" q0) f1 q1] (.Name x1 q2) q3, .Assign [.Attribute (.Name "self" r0) f2 r1] (.Name x2 r2) r3, .Assign [.Attribute (.Name "self" t0) "code" t1] (.Constant (.str TEXT) j2 t2) t3] scope cc cda) f L))
    (hx : (x1 == ("__debug__" : Str)) = false) (hx2 : (x1 == ("__classdict__" : Str)) = false) (hy : (x2 == ("__debug__" : Str)) = false) (hy2 : (x2 == ("__classdict__" : Str)) = false) (n1 : PySem.W.findIn K (.ref D) f1 = some none) (n2 : PySem.W.findIn K (.ref D) f2 = some none) (nc : PySem.W.findIn K (.ref D) "code" = some none) :
    FnOk P w K mg base CX (k + 1) f fd ["self", x1, x2] (spIni D 2 fun us => [("code", .str TEXT), (f2, us.tail.headD .non), (f1, us.headD .non)]) := by
  refine sup_ok S G.kx G.ba hsu sc rfl rfl ht (ini_len rfl V.sup) fun A outer s H vs Q E hr ⟨a, us, e, hl, ha, q⟩ => ?_
  subst e
  obtain ⟨v, u, rfl⟩ : ∃ v u, us = [v, u] := by
    match us, hl with
    | [v, u], _ => exact ⟨v, u, rfl⟩
  refine ⟨_, pss_cons (ps_ostB G.st (pe_var (i := 0) rfl (.inl (sc.par _ (by simp))) rfl rfl) (pe_var (i := 1) rfl (.inl (sc.par _ (by simp))) hx hx2)) (pss_cons (ps_ostB G.st (pe_var (i := 0) rfl (.inl (sc.par _ (by simp))) rfl rfl) (pe_var (i := 2) rfl (.inl (sc.par _ (by simp))) hy hy2)) (pss_one (ps_ostB G.st (pe_var (i := 0) rfl (.inl (sc.par _ (by simp))) rfl rfl) pe_str))), ?_⟩
  refine ⟨v, rfl, .ref a, rfl, a, D, rfl, V.oex, n1, .inl ⟨ha, fun dx n ne => ?_⟩⟩
  have o := OstR.first (C := D) (g := f1) (y := v) n ne
  refine ⟨u, rfl, .ref a, rfl, a, D, rfl, V.oex, n2, .inr ⟨dx, _, o.at_, o.dd, by simp, ?_⟩⟩
  have o2 := o.next (g := f2) (y := u)
  refine ⟨.ref a, rfl, a, D, rfl, V.oex, nc, .inr ⟨dx, _, o2.at_, o2.dd, by simp, ?_⟩⟩
  have o3 := o2.next (g := "code") (y := .str TEXT)
  exact q dx _ n ne o3.at_ o3.dd o3.keep
end

/-! ### a class called -/
section
variable {X : Cx} {N : Ent} {WX : L2.WX} {CX : CXT} {C fI : Addr} {fd : FuncData} {ps : List Str} {k n : Nat} {B i newId : String} {bmB : List Value} {fs : List V → List (Str × V)} {x : Str} {p pos : Pos} {e : Expr} {es : List Expr} {ta : TA}
/-- an exception's class of the text, with its own __init__: n values by place -/
structure ExcK (P : Program) (w : World) (K : PySem.W.Frag) (mg : Str → Option Value) (base : Heap) (k : Nat) (x : Str) (C : Addr) (n : Nat) (fs : List V → List (Str × V)) : Prop where
  ex : ∃ B i newId bmB fI fd ps, BltX B i newId bmB ∧ VeC K B i newId bmB C ∧ PySem.W.findIn K (.ref C) "__init__" = some (some (.ref fI)) ∧ PySem.W.typeIn K (.ref fI) = some (.type "function") ∧ FnOk P w K mg base (L2.CX P w) k fI fd ps (spIni C n fs) ∧ Binds K fd ps [] ∧ mg x = some (.ref C)
theorem ExcK.mono {P : Program} {w : World} {K : PySem.W.Frag} {mg : Str → Option Value} {base : Heap} {j : Nat} (F : ExcK P w K mg base j x C n fs) (h : j ≤ k) : ExcK P w K mg base k x C n fs :=
  let ⟨B, i, ne, bm, fI, fd, ps, a, b, c, d, e, f⟩ := F.ex
  ⟨B, i, ne, bm, fI, fd, ps, a, b, c, d, e.mono h, f⟩
/-- C(e, ..): the exception and its dict are new -/
def tExc (C : Addr) (n : Nat) (fs : List V → List (Str × V)) (ta : TA) : L2.St → Hp → XK → Prop := fun σ H Q => ta σ H fun vs H1 => vs.length = n ∧ n ≤ 1000 ∧ ∀ d, H1 d = none → Q (.ref C) (some d) (upd H1 d (.xd (fs vs)))
theorem exc_run {pins : List (Addr × Obj)} {σ : L2.St} {H : Hp} {s : Shared} {Q : XK} {us : List Value} {vs : List V} (F : ExcK X.prog X.w X.K X.mg X.base k x C n fs) (hr : Room (k + 1) X.A) (hx : Passes (L2.CX X.prog X.w) X (fun _ _ _ => False)) (I : Inv X pins σ H s) (r : Vals vs us) (hn : vs.length = n) (h1 : n ≤ 1000)
    (q : ∀ d, H d = none → Q (.ref C) (some d) (upd H d (.xd (fs vs)))) : wpAny (model X.prog X.w) X.A (call (.ref C) us) (MkP X pins σ Q) X.xe s := by
  obtain ⟨B, i, newId, bmB, fI, fd, ps, G, V, iC, tI, F1, hb, hm⟩ := F.ex
  obtain ⟨nm, N', qn, bs, bm, hdct, sn, sub, ab, col, dd, k0, k1, k2, k3, k5, hC, hT⟩ := PySem.W.excInit_of I.kIn V.sup.ini
  obtain ⟨hp, g, dr, tk, os⟩ := s
  have hsz : hp.objs.size ≤ hp.objs.size + 1 := Nat.le_succ _
  have na : H (hp.objs.size + 1) = none := I.hok.fresh hsz
  have kk : ∀ b o, hp.get? b = some o → ((hp.push (PySem.W.kdv_tup us)).push (PySem.HandSPX.excO C hp.objs.size)).get? b = some o := fun b o e => Heap.get?_push_of_some _ (Heap.get?_push_of_some _ e)
  have ge : ((hp.push (PySem.W.kdv_tup us)).push (PySem.HandSPX.excO C hp.objs.size)).get? (hp.objs.size + 1) = some (PySem.HandSPX.excO C hp.objs.size) := by heap_get
  have I2 := I.laid (t' := tk) (a := hp.objs.size + 1) (o := exo (hp.objs.size + 1) C none) (h' := (hp.push (PySem.W.kdv_tup us)).push (PySem.HandSPX.excO C hp.objs.size)) kk hsz (exo_ok ge)
  have sp : spIni C n fs (.ref (hp.objs.size + 1) :: vs) (upd H (hp.objs.size + 1) (exo (hp.objs.size + 1) C none))
      (fun v H2 => v = .non ∧ ∃ d, H2 (hp.objs.size + 1) = some (exo (hp.objs.size + 1) C (some d)) ∧ H2 d = some (exd d (fs vs)) ∧ H d = none ∧ d ≠ hp.objs.size + 1 ∧ ∀ b, b ≠ hp.objs.size + 1 → b ≠ d → H2 b = H b) (fun _ _ _ => False) :=
    ⟨_, vs, rfl, hn, upd_same, fun dx H' n1 n2 e1 e2 e3 => ⟨rfl, dx, e1, e2, by rw [upd_ne n2] at n1; exact n1, n2, fun b h1 h2 => by rw [e3 b h1 h2, upd_ne h1]⟩⟩
  have r2 : Vals (L2.V.ref (hp.objs.size + 1) :: vs) (Value.ref (hp.objs.size + 1) :: us) := .cons rfl r
  have hl : (Value.ref (hp.objs.size + 1) :: us).length = ps.length := by rw [← r2.length]; exact F1.len _ _ _ _ sp
  have hz : us.length ≤ sizeLine := by rw [← r.length, hn, sizeLine_eq]; omega
  refine wpAny_call (PySem.HandSPX.call_own G.ba hT hC (PySem.W.looks_findIn I.kIn iC) (fun self => PySem.W.bind_fn I.kIn self tI) hz ?_)
  have hbb := hb ⟨(hp.push (PySem.W.kdv_tup us)).push (PySem.HandSPX.excO C hp.objs.size), g, dr, tk, os⟩ (Value.ref (hp.objs.size + 1) :: us) I2.kIn (by rw [List.append_nil]; exact hl)
  rw [List.append_nil] at hbb
  refine codeAny_mono (F1.run _ X.stack _ _ _ _ _ _ (fun _ _ _ => False) (hr.make C us []) (I2.env0.make C us []) hbb r2 sp) fun r s' hq => ?_
  cases r with
  | error er => exact hx pins σ _ _ er s' I2 hq
  | ok fl =>
    cases fl with
    | ret u =>
      obtain ⟨v, H2, os2, bare2, un2, hok2, rv, ev, d, ea, ed, hd1, hda, keep⟩ := hq
      subst ev
      obtain ⟨h2, g2, d2, t2, os'⟩ := s'
      have eH : upd (del H2 (hp.objs.size + 1)) d (.xd (fs vs)) = upd H d (.xd (fs vs)) := by
        funext b
        by_cases hbd : b = d
        · rw [hbd, upd_same, upd_same]
        · rw [upd_ne hbd, upd_ne hbd]
          by_cases hba : b = hp.objs.size + 1
          · rw [hba, del_same, na]
          · rw [del_ne hba, keep b hba hbd]
      exact ⟨rv, mk_end (raises_own V.exC V.tyC) I hsz kk un2 hok2 os2 bare2 ea ed hd1 (by rw [eH]; exact q d hd1)⟩
    | next => exact False.elim hq
    | brk => exact False.elim hq
    | cont => exact False.elim hq
theorem pmk_exc (F : ExcK X.prog X.w X.K X.mg X.base k x C n fs) (hr : Room (k + 1) X.A) (hx : Passes (L2.CX X.prog X.w) X (fun _ _ _ => False)) (hg : Gl X x) (ha : PA X (e :: es) ta)
    (hdb : (x == ("__debug__" : Str)) = false := by decide) (he : starEach (e :: es) X.env = (false, eval e X.env) :: starEach es X.env := by rfl) (hpl : (backTo pos (starEach es X.env)).any (·.1) = false := by rfl) :
    PMk X (.Call (.Name x p) (e :: es) [] pos) (tExc C n fs ta) := by
  intro pins s σ H Q I h
  obtain ⟨B, i, newId, bmB, fI, fd, ps, G, V, iC, tI, F1, hb, hm⟩ := id F.ex
  refine wpAny_Call_Name_kw (ld_glob I hg hm ?_ hdb)
  refine PySem.W.callWith_K (h₀ := X.base) I.ok.mod.kin V.kC (thn (ha.run pos pins s σ H _ I h) fun us s1 ⟨vs, H1, I1, r1, hn, hz, q1⟩ => ⟨I1.kIn, ?_⟩) he hpl
  exact exc_run F hr hx I1 r1 hn hz q1
theorem pmk_exc0 (F : ExcK X.prog X.w X.K X.mg X.base k x C 0 fs) (hr : Room (k + 1) X.A) (hx : Passes (L2.CX X.prog X.w) X (fun _ _ _ => False)) (hg : Gl X x) (hdb : (x == ("__debug__" : Str)) = false := by decide) :
    PMk X (.Call (.Name x p) [] [] pos) (tExc C 0 fs tNil) := by
  intro pins s σ H Q I h
  obtain ⟨B, i, newId, bmB, fI, fd, ps, G, V, iC, tI, F1, hb, hm⟩ := id F.ex
  obtain ⟨_, _, q⟩ := h
  refine wpAny_Call_Name_kw (ld_glob I hg hm ?_ hdb)
  exact PySem.W.callWith_K0 I.kIn V.kC (exc_run (us := []) F hr hx I .nil rfl (by decide) q)
end

/-! ### raise -/
/-- the class x of number c: its fields' values from those given -/
structure ExcC (P : Program) (w : World) (K : PySem.W.Frag) (mg : Str → Option Value) (base : Heap) (B : Bs) (k : Nat) (x : Str) (c n : Nat) (fv : List PV → List PV) : Prop where
  ex : ∃ fs, ExcK P w K mg base k x (B.cad c) n fs ∧ n ≤ 1000 ∧ ∀ (W : Wd) (xs : List PV) (vs : List V), Reps B W xs vs → xs.length = n → ∃ us, fs vs = (B.fld c).zip us ∧ us.length = (B.fld c).length ∧ Reps B W (fv xs) us
theorem ExcC.mono {P : Program} {w : World} {K : PySem.W.Frag} {mg : Str → Option Value} {base : Heap} {B : Bs} {j k : Nat} {x : Str} {c n : Nat} {fv : List PV → List PV} (F : ExcC P w K mg base B j x c n fv) (h : j ≤ k) : ExcC P w K mg base B k x c n fv :=
  let ⟨fs, a, b⟩ := F.ex
  ⟨fs, a.mono h, b⟩
def sRaise (c n : Nat) (fv : List PV → List PV) (ma : MA) : MS := fun s => (ma s).bind fun vs s1 => if vs.length = n ∧ allSh vs = true then .exc (.ins c (fv vs)) s1 else .bad
section
variable {X : Cx} {B : Bs} {N : Ent} {WX : L2.WX} {x : Str} {c n k : Nat} {fv : List PV → List PV} {ma : MA} {e : Expr} {es : List Expr} {p pos pos' : Pos} {W : Wd} {s : S} {σ : L2.St} {H : Hp}
theorem raise_fin {vs : List PV} {vs' : List V} {D : Ends} {fs : List V → List (Str × V)} (hf : ∀ (W : Wd) (xs : List PV) (vs : List V), Reps B W xs vs → xs.length = n → ∃ us, fs vs = (B.fld c).zip us ∧ us.length = (B.fld c).length ∧ Reps B W (fv xs) us)
    (r : Rel B N W s σ H) (rv : RepTs B W H vs vs') (q : PostS B N WX D (if vs.length = n ∧ allSh vs = true then R.exc (.ins c (fv vs)) s else R.bad)) : vs'.length = n ∧ ∀ d, H d = none → WX (.ref (B.cad c)) (some d) σ (upd H d (.xd (fs vs'))) := by
  split at q
  · rename_i hc
    have rr := rv.reps hc.2
    refine ⟨by rw [← rr.length]; exact hc.1, fun d hd => ?_⟩
    obtain ⟨us, e1, e2, e3⟩ := hf W vs vs' rr hc.1
    have r2 := rel_put (o := .xd (fs vs')) r (r.loose hd) trivial (.inl hd)
    exact q W σ _ _ _ r2 ⟨c, fv vs, d, us, rfl, rfl, rfl, by rw [upd_same, e1], e2, e3, r.st.tr _ hd, r.hr.fnone hd, fun z => r.hr.mt _ z hd⟩
  · exact q.elim
theorem no_takes {X : Cx} : Takes X (fun _ _ _ _ => False) := takes0
theorem sims_raise (F : ExcC X.prog X.w X.K X.mg X.base B k x c n fv) (hc : X.calm = true) (tk : Takes X WX) (hr : Room (k + 1) X.A) (hg : Gl X x) (ha : SimA X B N WX (e :: es) ma) (hdb : (x == ("__debug__" : Str)) = false)
    (he : starEach (e :: es) X.env = (false, eval e X.env) :: starEach es X.env) (hpl : (backTo pos (starEach es X.env)).any (·.1) = false) : SimS X B N WX (.Raise (some (.Call (.Name x p) (e :: es) [] pos)) none pos') (sRaise c n fv ma) := by
  obtain ⟨fs, F1, hn, hf⟩ := F.ex
  exact (ps_raise hc tk (pmk_exc F1 hr (passes_call no_takes fun _ _ _ _ h => h) hg ha hdb he hpl)).imp fun D σ H ⟨W, s, r, h⟩ => ⟨W, s, r, h.bindE.mono fun vs W1 s1 H1 r1 _ q vs' rv => by
    obtain ⟨q1, q2⟩ := raise_fin hf r1 rv q
    exact ⟨q1, hn, q2⟩⟩
theorem sims_raise0 (F : ExcC X.prog X.w X.K X.mg X.base B k x c 0 fv) (hc : X.calm = true) (tk : Takes X WX) (hr : Room (k + 1) X.A) (hg : Gl X x) (hdb : (x == ("__debug__" : Str)) = false) : SimS X B N WX (.Raise (some (.Call (.Name x p) [] [] pos)) none pos') (sRaise c 0 fv aNil) := by
  obtain ⟨fs, F1, hn, hf⟩ := F.ex
  exact (ps_raise hc tk (pmk_exc0 F1 hr (passes_call no_takes fun _ _ _ _ h => h) hg hdb)).imp fun D σ H ⟨W, s, r, h⟩ => by
    have h0 : PostS B N WX D (if ([] : List PV).length = 0 ∧ allSh [] = true then R.exc (.ins c (fv [])) s else R.bad) := h
    obtain ⟨q1, q2⟩ := raise_fin (vs := []) (vs' := []) hf r trivial h0
    exact ⟨q1, by decide, q2⟩
end
end Lp

set_option Elab.async false
set_option linter.all false
set_option maxRecDepth 100000
set_option maxHeartbeats 4000000
/-! Lp20: try: .. except (A, B, ..) as e: .. -/
namespace Lp
open PySem PySem.Spec PyProof.Rows L2 LamX NdefX
theorem flyZ_keeps {B : Heap} {l : List Env} {e : Addr} {Z : Obj → Prop} {h h' : Heap} (R : HandSPX.FlyingZ B l e Z h) (k : ∀ b o, h.get? b = some o → h'.get? b = some o) : HandSPX.FlyingZ B l e Z h' := by
  obtain ⟨f1, f2, f3, oe, vs, T, oT, ts, he, hz, hd, h1, hn, hne, hT, hdT, h3⟩ := R
  exact ⟨fun b o q => k b o (f1 b o q), f2, f3.of_keeps fun b o q _ => ⟨o, k b o q, rfl⟩, oe, vs, T, oT, ts, k _ _ he, hz, hd, h1, hn, hne, k _ _ hT, hdT, h3⟩
/-- a clause's test: the classes cs -/
structure TestX (X : Cx) (t : Expr) (cs : List Value) : Prop where
  run : ∀ (a : Addr) (pn pins : List (Addr × Obj)) (σ : L2.St) (H : Hp) (s : Shared) (cls : Value) (b : Bool) (Q : Bool → Shared → Prop) (E : Value → Shared → Prop), Inv (X.suite a pn) pins σ H s → PySem.W.Looks (model X.prog X.w) s.heap (typeOf (.ref a)) cls → PySem.W.exmAny X.K cls cs = some b →
    (∀ h', (∀ q o, s.heap.get? q = some o → h'.get? q = some o) → Q b { s with heap := h' }) →
    wpAny (model X.prog X.w) (X.A.mark (some (.ref a))) (eval t X.env) (fun c s₁ => wpAny (model X.prog X.w) (X.A.mark (some (.ref a))) (excMatches (.ref a) c) Q E s₁) E s
section
variable {X : Cx} {x1 x2 x3 : Str} {c1 c2 c3 : Value} {p1 p2 p3 tp : Pos} {kk : Nat}
theorem name_at {a : Addr} {pn pins : List (Addr × Obj)} {σ : L2.St} {H : Hp} {s : Shared} {Q E : Value → Shared → Prop} (n : Names X x1 c1) (I : Inv (X.suite a pn) pins σ H s) (q : Q c1 s) : wpAny (model X.prog X.w) (X.A.mark (some (.ref a))) (eval (.Name x1 p1) X.env) Q E s := by
  obtain ⟨hg, hd, hm | ⟨hm, hv, hn⟩⟩ := n
  · exact ld_glob (X := X.suite a pn) I hg hm q hd
  · exact ld_blt (X := X.suite a pn) I hg hm hv q hn hd
theorem test_one (n1 : Names X x1 c1) : TestX X (.Name x1 p1) [c1] := by
  refine ⟨fun a pn pins σ H s cls b Q E I LT hb q => name_at n1 I ?_⟩
  obtain ⟨b1, d1, e1, e2, rfl⟩ := PySem.W.exmAny_cons hb
  cases e2
  rw [Bool.or_false] at q
  exact (PySem.W.exm_one (I.kIn) LT e1).here (q s.heap fun _ _ z => z)
theorem test_two (n1 : Names X x1 c1) (n2 : Names X x2 c2) : TestX X (.Tuple [.Name x1 p1, .Name x2 p2] kk tp) [c1, c2] := by
  refine ⟨fun a pn pins σ H s cls b Q E I LT hb q => ?_⟩
  have kp : ∀ q o, s.heap.get? q = some o → (s.heap.push { cls := .type "tuple", data := .seq [c1, c2].toArray }).get? q = some o := fun _ _ z => Heap.get?_push_of_some _ z
  refine wpAny_Tuple (wpAny_items_cons (name_at n1 I (wpAny_items_cons (name_at n2 I (wpAny_items_nil ⟨by size_fits, ?_⟩)))))
  exact (PySem.W.exm_tup2 (I.kIn.keeps kp) (LT.keeps kp) (Heap.get?_push_size s.heap rfl) hb).here (q _ kp)
theorem test_three (n1 : Names X x1 c1) (n2 : Names X x2 c2) (n3 : Names X x3 c3) : TestX X (.Tuple [.Name x1 p1, .Name x2 p2, .Name x3 p3] kk tp) [c1, c2, c3] := by
  refine ⟨fun a pn pins σ H s cls b Q E I LT hb q => ?_⟩
  have kp : ∀ q o, s.heap.get? q = some o → (s.heap.push { cls := .type "tuple", data := .seq [c1, c2, c3].toArray }).get? q = some o := fun _ _ z => Heap.get?_push_of_some _ z
  refine wpAny_Tuple (wpAny_items_cons (name_at n1 I (wpAny_items_cons (name_at n2 I (wpAny_items_cons (name_at n3 I (wpAny_items_nil ⟨by size_fits, ?_⟩)))))))
  exact (PySem.W.exm_tup3 (I.kIn.keeps kp) (LT.keeps kp) (Heap.get?_push_size s.heap rfl) hb).here (q _ kp)
end
/-- what the clause wishes of an exception that every test meets: slot i is the clause's name -/
def wAll (K : PySem.W.Frag) (cs : List Value) (i : Nat) (ts : Addr → Value → Option Addr → TS) (D : Ends) : WX := fun cls d σ H => PySem.W.exmAny K cls cs = some true ∧
  ∀ a, H a = none → ts a cls d { nx := fun σ' H' => D.nx (σ'.set i none) H', rt := D.rt, bk := fun σ' H' => D.bk (σ'.set i none) H', ct := fun σ' H' => D.ct (σ'.set i none) H' } (σ.set i (some (.ref a))) H
section
variable {X : Cx} {n : Str} {t : Expr} {cs : List Value} {i : Nat} {body suite : List Stmt} {b₀ : Stmt} {pos pos' : Pos} {tb : WX → TS} {ts : Addr → Value → Option Addr → TS}
theorem ps_tryAll (hs : X.stack = X.env :: X.outer) (hf : X.env.frame = some X.env.locals) (hN : X.N.Nodup) (hi : X.N[i]? = some n) (hln : X.env.kindOf n = some .local) (T : TestX X t cs)
    (hb : ∀ (W : WX) (pn : List (Addr × Obj)) (xe : Value → Shared → Prop), Takes (X.tr pn xe) W → PassesOwn (model X.prog X.w) X.A X.env xe → PSs (X.tr pn xe) body (tb W))
    (hsu : ∀ (a : Addr) (oe : Obj) (cls : Value) (d : Option Addr) (pn : List (Addr × Obj)), Zc cls d oe → (∃ vs, oe.data = .fields vs) → PSs (X.suite a ((a, oe) :: pn)) (b₀ :: suite) (ts a cls d)) :
    PS X (.Try body [.ExceptHandler (some t) (some n) (b₀ :: suite) pos'] [] [] pos) (fun D σ H => tb (wAll X.K cs i ts D) D σ H) := by
  refine ⟨fun pins s σ H D I h => wpAny_Try_except ?_⟩
  have ok := I.ok
  have fr0 : X.A.frames = some (X.env :: X.outer) := by rw [ok.frames, hs]
  refine wpAny_mono ((hb (wAll X.K cs i ts D) (X.pn ++ pins) _ (fun u s' xx => ?_) PassesOwn.looking).run [] s σ H D (I.toTry (fun e s₁ => wpAny (model X.prog X.w) X.A (noteFrame e X.env) (fun _ s₂ => wpAny (model X.prog X.w) X.A (setFlight e none) (fun _ s₃ =>
    wpAny (model X.prog X.w) X.A (handleBy e X.env [.ExceptHandler (some t) (some n) (b₀ :: suite) pos']) (SP X pins D) X.xe s₃) X.xe s₂) X.xe s₁)) h) (fun f s1 q => ?_) (fun e s1 z => z)
  · obtain ⟨a, B, sI, pins', σ', H', cls, d, rfl, J', nb, up, sky, na, os, ag, hm, yes⟩ := xx
    have Jn : Inv X pins σ' H' sI := J'.ofTry ok
    have sk : Sky B (X.env :: X.outer) a (Zc cls d) X.env.locals s'.heap := by rw [← hs]; exact sky
    show wpAny (model X.prog X.w) X.A (noteFrame (.ref a) X.env) _ _ _
    refine Sky.land Zc.steady fr0 hf sk fun g3 fz uz => ?_
    have J3 : Inv X pins σ' H' { s' with heap := g3 } := Jn.landed nb fz.1 (up.trans uz) os ag
    obtain ⟨oe, ws, ge, hz, hd⟩ := fz.there
    have out : a ∉ frs (X.env :: X.outer) := fun hm => by
      obtain ⟨_, o', e', hnf⟩ := fz.2.2.1.mem hm
      rw [ge] at e'
      cases e'
      exact hnf _ hd
    have nL : a ≠ X.env.locals := fun z => out (List.mem_filterMap.mpr ⟨X.env, List.mem_cons_self, by rw [hf, z]⟩)
    have nF : a ∉ X.fs := fun hm => by
      obtain ⟨e, he, q⟩ := List.mem_filterMap.mp hm
      exact out (List.mem_filterMap.mpr ⟨e, List.mem_cons_of_mem _ he, q⟩)
    refine wpAny_handleBy_cons (codeAny_handlers_test ?_) (by intro q; cases q)
    refine T.run a _ _ _ _ _ cls true _ _ (J3.suite ge hd na nL nF) (fun A Q E s k q => wpAny_typeOf_ref (k _ _ ge) (by rw [hz.1]; exact q)) hm fun g4 k4 => ?_
    have fz4 := flyZ_keeps fz k4
    have u4 : s'.heap.UpToSlots g4 := uz.trans (Heap.UpToSlots.of_keeps k4)
    refine codeAny_handlers_suite_as (HandSPX.lands_againZ fz4 fun g5 fz5 u5 => ?_)
    have J5 : Inv X pins σ' H' { s' with heap := g5 } := Jn.landed nb fz5.1 ((up.trans u4).trans u5) os ag
    obtain ⟨oe5, ws5, ge5, hz5, hd5⟩ := fz5.there
    refine store_ok (X := X.suite a ((a, oe5) :: (X.pn ++ pins))) (v := .ref a) (J5.suite ge5 hd5 na nL nF) hN hi (.inl hln) rfl (fun s5 S5 => ?_) (.inr hln)
    refine wpAny_mono ((hsu a oe5 cls d (X.pn ++ pins) hz5 ⟨_, hd5⟩).run [] s5 _ H' _ S5 (yes a na)) (fun f s6 hsp => ?_) (fun _ _ z => False.elim z)
    have leave : ∀ {σ6 : L2.St} {H6 : Hp} {Q : Shared → Prop}, Inv (X.suite a ((a, oe5) :: (X.pn ++ pins))) [] σ6 H6 s6 → (∀ s7, Inv X pins (σ6.set i none) H6 s7 → Q s7) →
        wpAny (model X.prog X.w) X.A (do bindName X.env n .none; unbindBehindTheSuite X.env n pos') (fun _ s7 => Q s7) X.xe s6 := fun S6 hq => gone_ok (S6.unsuite ok) hN hi hln hq
    cases f with
    | next => obtain ⟨σ6, H6, S6, q6⟩ := hsp; exact leave S6 fun s7 J7 => ⟨_, _, J7, q6⟩
    | brk => obtain ⟨σ6, H6, S6, q6⟩ := hsp; exact leave S6 fun s7 J7 => ⟨_, _, J7, q6⟩
    | cont => obtain ⟨σ6, H6, S6, q6⟩ := hsp; exact leave S6 fun s7 J7 => ⟨_, _, J7, q6⟩
    | ret u => obtain ⟨v6, σ6, H6, S6, r6, q6⟩ := hsp; exact leave S6 fun s7 J7 => ⟨_, _, _, J7, r6, q6⟩
  · cases f with
    | next => obtain ⟨σ', H', K', q⟩ := q; exact wpAny_execs_nil ⟨σ', H', K'.ofTry ok, q⟩
    | brk => obtain ⟨σ', H', K', q⟩ := q; exact ⟨σ', H', K'.ofTry ok, q⟩
    | cont => obtain ⟨σ', H', K', q⟩ := q; exact ⟨σ', H', K'.ofTry ok, q⟩
    | ret u => obtain ⟨v, σ', H', K', r, q⟩ := q; exact ⟨v, σ', H', K'.ofTry ok, r, q⟩
end
end Lp

set_option Elab.async false
set_option linter.all false
set_option maxRecDepth 100000
set_option maxHeartbeats 4000000
/-! Lp21: a caught exception in hand: its fields, defs that take it, the suite. -/
namespace Lp
open PySem PySem.Spec PyProof.Rows L2 LamX NdefX

/-! ### the tables with an exception -/
abbrev Bs.with (B : Bs) (x : Addr × Nat × Addr) : Bs := { B with xn := some x }
mutual
def noX : PV → Bool
  | .exn _ _ => false
  | .tup xs => noXs xs
  | .lst xs => noXs xs
  | .scr xs => noXs xs
  | .ins _ fs => noXs fs
  | _ => true
def noXs : List PV → Bool
  | [] => true
  | x :: xs => noX x && noXs xs
end
section
variable {B : Bs} {x : Addr × Nat × Addr}
mutual
theorem Rep.up {W : Wd} (h0 : B.xn = none) : ∀ {y : PV} {v : V}, Rep B W y v → Rep (B.with x) W y v
  | _, _, .non => .non
  | _, _, .bl b => .bl b
  | _, _, .int i => .int i
  | _, _, .str s h => .str s h
  | _, _, .ty n => .ty n
  | _, _, .cls c => .cls (B := B.with x) c
  | _, _, .cel h => .cel h
  | _, _, .tup h r => .tup h (Reps.up h0 r)
  | _, _, .lst h r => .lst h (Reps.up h0 r)
  | _, _, .scr h r => .scr h (Reps.up h0 r)
  | _, _, .ins h hl r => .ins (B := B.with x) h hl (Reps.up h0 r)
  | _, _, .exn hx _ _ _ => by rw [h0] at hx; cases hx
theorem Reps.up {W : Wd} (h0 : B.xn = none) : ∀ {ys : List PV} {vs : List V}, Reps B W ys vs → Reps (B.with x) W ys vs
  | _, _, .nil => .nil
  | _, _, .cons h t => .cons (Rep.up h0 h) (Reps.up h0 t)
end
mutual
theorem Rep.down {W : Wd} : ∀ {y : PV} {v : V}, Rep (B.with x) W y v → noX y = true → Rep B W y v
  | _, _, .non, _ => .non
  | _, _, .bl b, _ => .bl b
  | _, _, .int i, _ => .int i
  | _, _, .str s h, _ => .str s h
  | _, _, .ty n, _ => .ty n
  | _, _, .cls c, _ => .cls (B := B) c
  | _, _, .cel h, _ => .cel h
  | _, _, .tup h r, e => .tup h (Reps.down r e)
  | _, _, .lst h r, e => .lst h (Reps.down r e)
  | _, _, .scr h r, e => .scr h (Reps.down r e)
  | _, _, .ins h hl r, e => .ins (B := B) h hl (Reps.down r e)
  | _, _, .exn _ _ _ _, e => by cases e
theorem Reps.down {W : Wd} : ∀ {ys : List PV} {vs : List V}, Reps (B.with x) W ys vs → noXs ys = true → Reps B W ys vs
  | _, _, .nil, _ => .nil
  | _, _, .cons h t, e => by
    obtain ⟨e1, e2⟩ := Bool.and_eq_true_iff.mp (show (noX _ && noXs _) = true from e)
    exact .cons (Rep.down h e1) (Reps.down t e2)
end
mutual
theorem Rep.noX {W : Wd} (h0 : B.xn = none) : ∀ {y : PV} {v : V}, Rep B W y v → noX y = true
  | _, _, .non => rfl
  | _, _, .bl b => rfl
  | _, _, .int i => rfl
  | _, _, .str s h => rfl
  | _, _, .ty n => rfl
  | _, _, .cls c => rfl
  | _, _, .cel h => rfl
  | _, _, .tup h r => Reps.noX h0 r
  | _, _, .lst h r => Reps.noX h0 r
  | _, _, .scr h r => Reps.noX h0 r
  | _, _, .ins h hl r => Reps.noX h0 r
  | _, _, .exn hx _ _ _ => by rw [h0] at hx; cases hx
theorem Reps.noX {W : Wd} (h0 : B.xn = none) : ∀ {ys : List PV} {vs : List V}, Reps B W ys vs → noXs ys = true
  | _, _, .nil => rfl
  | _, _, .cons h t => by
    show (Lp.noX _ && noXs _) = true
    rw [Rep.noX h0 h, Reps.noX h0 t]; rfl
end
variable {N : Ent} {W W1 : Wd} {h : AH} {H H1 : Hp} {s : S} {σ : L2.St}
theorem CellR.up {a : Addr} {c : Cell} (h0 : B.xn = none) (r : CellR B W H a c) : CellR (B.with x) W H a c := by
  cases c with
  | lst xs => obtain ⟨vs, h1, h2⟩ := r; exact ⟨vs, h1, h2.up h0⟩
  | dic ks => exact r
  | ins c fs => obtain ⟨dx, vs, h1, h2, h3⟩ := r; exact ⟨dx, vs, h1, h2, h3.up h0⟩
theorem HRel.up (h0 : B.xn = none) (r : HRel B W h H) : HRel (B.with x) W h H :=
  ⟨r.agree, r.len, r.nd, r.mt, r.hz, r.fz, r.tb, fun n c a e1 e2 => let ⟨g1, g2⟩ := r.cell n c a e1 e2; ⟨g1, g2.up h0⟩⟩
/-- behind a run that left the cells' contents -/
theorem HRel.down (h0 : B.xn = none) (r0 : HRel B W h H) (r : HRel (B.with x) W1 h H1) (em : W1.m = W.m) : HRel B W1 h H1 :=
  ⟨r.agree, r.len, r.nd, r.mt, r.hz, r.fz, r.tb, fun n c a e1 e2 => by
    obtain ⟨g1, g2⟩ := r.cell n c a e1 e2
    obtain ⟨_, g3⟩ := r0.cell n c a e1 (em ▸ e2)
    refine ⟨g1, ?_⟩
    cases c with
    | lst xs => obtain ⟨vs, h1, h2⟩ := g2; obtain ⟨_, _, h4⟩ := g3; exact ⟨vs, h1, h2.down (h4.noX h0)⟩
    | dic ks => exact g2
    | ins c fs => obtain ⟨dx, vs, h1, h2, h3⟩ := g2; obtain ⟨_, _, _, _, h4⟩ := g3; exact ⟨dx, vs, h1, h2, h3.down (h4.noX h0)⟩⟩
theorem SlotR.up {y : PV} {v : V} {H0 : Hp} (h0 : B.xn = none) (r : SlotR B W H H0 y v) : SlotR (B.with x) W H H0 y v := by
  cases y with
  | own xs => obtain ⟨a, vs, e, h1, h2, h3⟩ := r; exact ⟨a, vs, e, h1, h2.up h0, h3⟩
  | don ks => exact r
  | _ => exact Rep.up h0 r
theorem Rel.up (h0 : B.xn = none) (r : Rel B N W s σ H) : Rel (B.with x) N W s σ H :=
  ⟨r.hr.up h0, r.st, r.len, fun i y e => let ⟨v, e1, sl⟩ := r.env i y e; ⟨v, e1, sl.up h0⟩, r.dis, r.pin⟩
end

/-! ### its fields -/
def eXf (fl : FL) (f : Str) (mo : ME) : ME := fun s => (mo s).bind fun o s1 => match o with
  | .exn c fs => match ((fl c).zip fs).lookup f with
    | some v => .ok v s1
    | none => .bad
  | _ => .bad
/-- the exception stands, pinned -/
structure HasX (X : Cx) (B : Bs) : Prop where
  at_ : ∀ a c dd, B.xn = some (a, c, dd) → ∃ oe, (a, oe) ∈ X.pn ∧ Zc (.ref (B.cad c)) (some dd) oe ∧ ∃ vs, oe.data = .fields vs
/-- what is known of the law's exception classes -/
structure XClsF (K : PySem.W.Frag) (B : Bs) (fl : FL) : Prop where
  fld : ∀ c, fl c ≠ [] → B.fld c = fl c
  cls : ∀ c f, f ∈ fl c → XfC K (B.cad c) ∧ PySem.W.findIn K (.ref (B.cad c)) f = some none
section
variable {X : Cx} {B : Bs} {N : Ent} {WX : L2.WX} {W : Wd} {s : S} {σ : L2.St} {H : Hp} {e o : Expr} {mo : ME} {f : Str} {fl : FL} {pos : Pos}
/-- e.f of a pinned exception -/
theorem sim_xf (HX : HasX X B) (C : XClsF X.K B fl) (he : SimE X B N WX o mo) (hb : attributeBase o f X.env (eval o X.env) = eval o X.env) : SimE X B N WX (.Attribute o f pos) (eXf fl f mo) := by
  refine ⟨fun pins s σ H Q I ⟨W, s0, r, h⟩ => ?_⟩
  refine attr_of hb (thn (he.run pins s σ H (fun v' H1 => ∃ W1 s1 v, Rel B N W1 s1 σ H1 ∧ StepE W s0 H W1 s1 H1 ∧ RepT B W1 H1 v v' ∧ Post B N WX W1 s1 H1 σ (match v with
    | .exn c fs => match ((fl c).zip fs).lookup f with
      | some v => R.ok v s1
      | none => .bad
    | _ => .bad) fun u W' _ H' => ∀ u', RepT B W' H' u u' → Q u' H') I ⟨W, s0, r, (h.bind r.slen).mono fun v W1 s1 H1 r1 st q v' rv => ⟨W1, s1, v, r1, st, rv, q⟩⟩) fun u s1 hh => ?_)
  obtain ⟨x, H1, I1, rx, W1, s2, v, r1, st, rv, q⟩ := hh
  split at q
  · rename_i c fs
    split at q
    · rename_i y ey
      cases (show Rep B W1 (.exn c fs) x from rv) with
      | exn hx hF hl rs =>
        rename_i a dd vs
        obtain rfl : u = Value.ref a := rx
        obtain ⟨oe, hp, hz, ws, hd⟩ := HX.at_ a c dd hx
        obtain ⟨y', e1, ry, m⟩ := lookup_reps rs ey
        obtain ⟨T, hno⟩ := C.cls c f m
        have ea : H1 dd = some (.xd ((B.fld c).zip vs)) := r1.hr.agree _ _ hF
        rw [C.fld c fun z => by rw [z] at m; cases m] at ea
        obtain ⟨ha, _⟩ := I1.pin (a, oe) (List.mem_append_left _ hp)
        have hx : ObjOk X.prog X.w H1 s1.heap dd (.xd ((fl c).zip vs)) := I1.hok dd _ ea
        obtain ⟨mA, hns, hr⟩ := hx
        obtain ⟨od, ho, hl2⟩ := lookIn_ns hns
        obtain ⟨u, hu, ru⟩ := RelO.some_of (v := y') (o := mA f) (by rw [← e1]; exact hr f)
        have J : PySem.W.InstAt s1.heap a oe (B.cad c) (some od) := ⟨ha, hz.1, by unfold PySem.W.notCls; rw [hd] <;> rfl, by rw [hz.2]; exact ho⟩
        exact HandSPX.exc_get I1.kIn J T.ga T.gg T.exC (PySem.W.findObj_own T.hdC hno rfl (by rw [hl2, hu])) (handed_of ru) ⟨y', H1, I1.tok _, ru, q.ok r1 y' ry.hand⟩
    · exact q.elim
  · exact q.elim
end

/-! ### defs that take it -/
structure FnX (P : Program) (w : World) (K : PySem.W.Frag) (mg : Str → Option Value) (base : Heap) (B : Bs) (k : Nat) (x : Str) (n : Nat) (m : MF) : Prop where
  ex : ∃ f fd ps, mg x = some (.ref f) ∧ PySem.W.keepIn K (.ref f) = true ∧ Binds K fd ps [] ∧ ps.length = n ∧
    ∀ (A : Around) (outer : List Env) (s : Shared) (H : Hp) (args : Args) (us : List Value) (vs : List V) (Q : VK) (E : XK) (p : Addr × Obj) (c : Nat) (dd : Addr), L2H.RoomH k A → L2H.PinOk outer H s p → Zc (.ref (B.cad c)) (some dd) p.2 → (∃ ws, p.2.data = .fields ws) → Env0 P w K mg base A outer s H → BindsTo s fd args (ps.zip us) → Vals vs us →
      spF (B.with (p.1, c, dd)) n m vs H Q E → codeAny (model P w) A (.call (.ref f) args) (CR (L2.CX P w) outer P w H s Q E) s
theorem FnX.mono {P : Program} {w : World} {K : PySem.W.Frag} {mg : Str → Option Value} {base : Heap} {B : Bs} {j k : Nat} {x : Str} {n : Nat} {m : MF} (F : FnX P w K mg base B j x n m) (h : j ≤ k) : FnX P w K mg base B k x n m :=
  let ⟨f, fd, ps, a, b, c, d, e⟩ := F.ex
  ⟨f, fd, ps, a, b, c, d, fun A outer s H args us vs Q E p c dd r => e A outer s H args us vs Q E p c dd (r.mono h)⟩
/-- what a body's proof may lean on, there -/
structure BdyX (X : Cx) (B : Bs) (E : XK) (k : Nat) : Prop where
  tk : Takes X fun c d _ H => E c d H
  pa : PassesOwn (model X.prog X.w) X.A X.env X.xe
  rm : L2H.RoomH k X.A
  hx : HasX X B
theorem fnx_ok {P : Program} {w : World} {K : PySem.W.Frag} {mg : Str → Option Value} {base : Heap} {x qual : Str} {params : Arguments} {body : List Stmt} {scope : Scope} {dvs : List V} {kws : List (Str × V)} {f : Addr} {fd : FuncData} {names ps : List Str} {k n kk : Nat} {B : Bs} {mb : MS}
    (F : FunD K x qual params body scope dvs kws f fd) (S : FnScope names ps scope) (hm : mg x = some (.ref f)) (hbi : Binds K fd ps []) (hn : ps.length = n) (hk : names.length - n = kk)
    (hb : ∀ (cdv : Value) (A : Around) (outer : List Env) (s : Shared) (H : Hp) (E : XK) (N : Ent) (p : Addr × Obj) (c : Nat) (dd : Addr), BdyX (L2H.cxH (L2.CX P w) P w K mg base names qual scope f cdv A outer s H E p) (B.with (p.1, c, dd)) E k →
      SimSs (L2H.cxH (L2.CX P w) P w K mg base names qual scope f cdv A outer s H E p) (B.with (p.1, c, dd)) N (fun c d _ H => E c d H) body mb) : FnX P w K mg base B (k + 1) x n (mkF kk mb) := by
  refine ⟨f, fd, ps, hm, F.kp, hbi, hn, fun A outer s H args us vs Q E p c dd hr hpin hz hd e0 hbt r hsp => ?_⟩
  obtain ⟨oc, od, dV, kV, doc, pm, an, cdv, ct, osl, rfl, lk, hcd, _, _⟩ := F.ex
  obtain ⟨W, h, xs, hrel, rr, el, q⟩ := hsp
  have hl : vs.length = ps.length := by rw [hn, ← el, rr.length]
  have KX : K.In s.heap := e0.mod.kin.keeps fun b o e => (e0.bs b o e).1
  have lim : s.heap.NoLimit := e0.mod.nolimit.keeps fun b o e => (e0.bs b o e).1
  have kinds : ∀ y ∈ ps.zip us, scope.names.lookup y.1 = some .local ∨ (scope.names.lookup y.1 = some .cell ∧ ((cellsFrom (s.heap.objs.size + 1) scope.names []).lookup y.1).isSome = true) := fun ⟨n, v⟩ hy => (S.par n (List.of_mem_zip hy).1).imp id fun q => ⟨q, PySem.W.cellsFrom_some _ _ _ (.inl q)⟩
  refine codeAny_call_function hr.depth (KX _ _ lk) rfl S.co S.gen rfl (PySem.W.codeRec_of KX hcd) (hbt _ _ _ _ (wpAny_newFunctionEnv_cells S.kind kinds fun env he s1 xx => ?_))
  subst he
  refine ⟨lim.keeps xx.toInCall.keep, codeAny_func ?_⟩
  have I := L2H.inv_startH (CX := L2.CX P w) (E := E) (cd := cdv) (qual := qual) (f := f) S hpin e0 hl r xx
  have bd : BdyX (L2H.cxH (L2.CX P w) P w K mg base names qual scope f cdv A outer s H E p) (B.with (p.1, c, dd)) E k := ⟨takes_of rfl rfl rfl rfl, passes_of rfl, hr.deeper _, ⟨fun a c' dd' e => by cases e; exact ⟨p.2, List.mem_singleton.mpr rfl, hz, hd⟩⟩⟩
  have st := rel_start (k := kk) hrel rr
  have hq : tS (B.with (p.1, c, dd)) ⟨W, h, H, hrel.len, W⟩ (fun c d _ H => E c d H) mb { nx := fun _ H' => Q .non H', rt := Q } (L2.start names vs) H := by
    refine ⟨W, ⟨xs.map some ++ List.replicate kk none, h⟩, ?_, ?_⟩
    · unfold L2.start
      rw [show names.length - vs.length = kk by rw [← rr.length, el, hk]]
      exact st
    · unfold PostS
      unfold mkF at q
      split at q
      · rename_i v s1 e1
        rw [e1]
        exact fun W' σ' H' v' r' rv => q W' H' v' r'.hr r'.st rv
      · rename_i s1 e1
        rw [e1]
        exact fun W' σ' H' r' => q W' H' .non r'.hr r'.st .non
      · exact q.elim
      · rename_i x1 s1 e1
        rw [e1]
        exact fun W' σ' H' cls d r' ex => q W' H' cls d r'.hr r'.st ex
      · exact q.elim
  refine wpAny_mono ((hb cdv A outer s H E ⟨W, h, H, hrel.len, W⟩ p c dd bd).run [] s1 _ H _ I hq) (fun fl s' hs => ?_) fun e s' hs => hs
  cases fl with
  | ret u =>
    obtain ⟨v, σ', H', J, rv, q⟩ := hs
    exact ⟨v, H', J.os, J.bare, J.base, J.hok, rv, q⟩
  | next =>
    obtain ⟨σ', H', J, q⟩ := hs
    exact ⟨V.non, H', J.os, J.bare, J.base, J.hok, rfl, q⟩
  | brk =>
    obtain ⟨_, _, _, q⟩ := hs
    exact False.elim q
  | cont =>
    obtain ⟨_, _, _, q⟩ := hs
    exact False.elim q
section
variable {X : Cx} {B : Bs} {N : Ent} {WX : L2.WX} {x : Str} {c n k : Nat} {m : MF} {ma : MA} {e : Expr} {es : List Expr} {p pos : Pos} {y : Addr × Nat × Addr}
theorem sim_callX (F : FnX X.prog X.w X.K X.mg X.base B k x n m) (HX : HasX X (B.with y)) (tk : Takes X WX) (hr : L2H.RoomH k X.A) (hg : Gl X x) (ha : SimA X (B.with y) N WX (e :: es) ma) (hdb : (x == ("__debug__" : Str)) = false)
    (he : starEach (e :: es) X.env = (false, eval e X.env) :: starEach es X.env) (hpl : (backTo pos (starEach es X.env)).any (·.1) = false) : SimE X (B.with y) N WX (.Call (.Name x p) (e :: es) [] pos) (eCall n m ma) := by
  obtain ⟨f, fd, ps, hm, hk, hb, hn, run⟩ := F.ex
  refine ⟨fun pins s σ H Q I ⟨W, s0, r, h⟩ => ?_⟩
  refine wpAny_Call_Name_kw (ld_glob I hg hm ?_ hdb)
  refine PySem.W.callWith_K (h₀ := X.base) I.ok.mod.kin hk (thn (ha.run pos pins s σ H (fun vs' H1 => spF (B.with y) n m vs' H1 Q fun c d H => WX c d σ H) I ⟨W, s0, r, (h.bind r.slen).mono fun vs W1 s1 H1 r1 _ q vs' rv => call_fin r1 (rv.reps (callH_sh q)) q⟩) fun us s1 ⟨vs, H1, I1, rv2, q⟩ => ⟨I1.kIn, ?_⟩) he hpl
  show wpAny _ _ (call (.ref f) us) _ _ _
  obtain ⟨a, c, dd⟩ := y
  obtain ⟨oe, hp, hz, hd⟩ := HX.at_ a c dd rfl
  have hl : us.length = ps.length := by
    obtain ⟨_, _, xs, _, rr, el, _⟩ := q
    rw [← rv2.length, hn, ← el, rr.length]
  have b := hb s1 us I1.kIn (by rw [List.append_nil]; exact hl)
  rw [List.append_nil] at b
  have P1 := I1.pin (a, oe) (List.mem_append_left _ hp)
  refine wpAny_call (codeAny_mono (run X.A X.stack s1 H1 ⟨us, []⟩ us vs Q _ (a, oe) c dd hr ⟨P1.1, P1.2.1, fun hm => (List.mem_cons.mp (I1.stkSub a hm)).elim P1.2.2.1 P1.2.2.2.1, P1.2.2.2.2⟩ hz hd I1.env0 b rv2 q) fun r s' hq => ?_)
  cases r with
  | error e => exact passAt tk σ pins H1 s1 e s' I1 hq
  | ok fl =>
    cases fl with
    | ret u => exact I1.after hq
    | next => exact False.elim hq
    | brk => exact False.elim hq
    | cont => exact False.elim hq
end

/-! ### the suite -/
open Classical in
/-- try: mb / except (..) as i: ms, where every exception is caught -/
noncomputable def sTryA (mb : MS) (i : Nat) (okc : Nat → Bool) (ms : MS) : MS := fun s => match mb s with
  | .exc x s1 => match x with
    | .ins c fs => if okc c = true then (match ms ⟨s1.e.set i (some (.exn c fs)), s1.h⟩ with
      | .ok (.rt v) s2 => if noX v = true ∧ s2.h = s1.h then .ok (.rt v) ⟨s2.e.map fun _ => none, s1.h⟩ else .bad
      | _ => .bad) else .bad
    | _ => .bad
  | r => r
section
variable {X : Cx} {B : Bs} {N : Ent} {WX : L2.WX} {W : Wd} {s : S} {σ : L2.St} {H : Hp} {mb ms : MS} {i : Nat} {okc : Nat → Bool} {cs : List Value}
theorem rel_noenv (r : Rel B N W s σ H) : Rel B N W ⟨s.e.map fun _ => none, s.h⟩ σ H := by
  have no : ∀ (j : Nat) (x : PV), (s.e.map fun _ => (none : Option PV))[j]? = some (some x) → False := fun j x e => by
    rw [List.getElem?_map] at e
    cases q : s.e[j]? with
    | none => rw [q] at e; cases e
    | some y => rw [q] at e; cases e
  exact ⟨r.hr, r.st, by rw [r.len]; simp, fun j x e => (no j x e).elim, fun j k x y a _ e => (no j x e).elim, r.pin⟩
/-- the exception stands still from now on -/
theorem rel_exn {x : PV} {cls : Value} {d : Option Addr} (h0 : B.xn = none) (r : Rel B N W s σ H) (ex : ExcR B N.H W H x cls d) (a : Addr) : ∃ c fs dd W1, x = .ins c fs ∧ cls = .ref (B.cad c) ∧ d = some dd ∧ W1.m = W.m ∧ Rel B N W1 s σ H ∧ Rep (B.with (a, c, dd)) W1 (.exn c fs) (.ref a) := by
  obtain ⟨c, fs, dd, vs, rfl, rfl, rfl, e1, e2, e3, e4, e5, e6⟩ := ex
  have own : ∀ (j : Nat) (x : PV), s.e[j]? = some (some x) → isOwn x = true → σ[j]? ≠ some (some (.ref dd)) := fun j x ej o q => by
    obtain ⟨v, ev, sl⟩ := r.env j x ej
    rw [q] at ev
    cases ev
    cases x with
    | own xs =>
      obtain ⟨a, us, ea, h1, _⟩ := sl
      cases ea
      rw [e1] at h1
      cases h1
    | don ks => exact sl
    | _ => cases o
  have lo : Loose N W s σ dd := ⟨e5, e6, own, e4⟩
  have nt : NT (.xd ((B.fld c).zip vs)) := fun _ z => nomatch z
  have r1 := rel_keep r lo e1 nt
  exact ⟨c, fs, dd, ⟨upd W.F dd (.xd ((B.fld c).zip vs)), W.m⟩, rfl, rfl, rfl, rfl, r1, Rep.exn (B := B.with (a, c, dd)) rfl upd_same e2 ((e3.mono (le_new e5)).up h0)⟩
theorem rel_pin (r : Rel B N W s σ H) : Rel B ⟨N.W, N.h, N.H, N.len, W⟩ W s σ H := ⟨r.hr, r.st, r.len, r.env, r.dis, .refl W⟩
theorem tryA_read {D : Ends} {K : PySem.W.Frag} (h0 : B.xn = none) (hm : ∀ c, okc c = true → PySem.W.exmAny K (.ref (B.cad c)) cs = some true) (h : tS B N WX (sTryA mb i okc ms) D σ H) :
    tS B N (wAll K cs i (fun a cls d D σ H => ∃ (c : Nat) (dd : Addr) (P : Wd), cls = .ref (B.cad c) ∧ d = some dd ∧ tS (B.with (a, c, dd)) ⟨N.W, N.h, N.H, N.len, P⟩ (fun _ _ _ _ => False) ms D σ H) D) mb D σ H := by
  obtain ⟨W, s, r, h⟩ := h
  refine ⟨W, s, r, ?_⟩
  unfold PostS at h ⊢
  unfold sTryA at h
  cases e : mb s with
  | ok fl s1 =>
    rw [e] at h
    exact h
  | bad => rw [e] at h; exact h.elim
  | exc x s1 =>
    rw [e] at h
    intro W' σ' H' cls d r' ex
    obtain ⟨c, fs, dd, W1, rfl, rfl, rfl, em1, r1, rx⟩ := rel_exn h0 r' ex 0
    dsimp only at h
    split at h
    · rename_i oc
      refine ⟨hm c oc, fun a ha => ?_⟩
      obtain ⟨c2, fs2, dd2, W1, q1, q2, q3, em1, r1, rx⟩ := rel_exn h0 r' ex a
      cases q1
      cases q3
      refine ⟨c, dd, W1, rfl, rfl, W1, ⟨s1.e.set i (some (.exn c fs)), s1.h⟩, rel_set (rel_pin (r1.up h0)) rx, ?_⟩
      unfold PostS
      split at h
      · rename_i v s2 e2
        rw [e2]
        intro W2 σ2 H2 v' r2 rv
        split at h
        · rename_i hc
          obtain ⟨nv, eh⟩ := hc
          obtain ⟨e3, h3⟩ := s2
          simp only at eh
          subst eh
          have em : W2.m = W1.m := by
            obtain ⟨t, et⟩ := r2.pin.m
            have l1 := r1.hr.len
            have l2 := r2.hr.len
            have et : W1.m ++ t = W2.m := et
            rw [← et, List.length_append] at l2
            have l2 : W1.m.length + t.length = s1.h.length := l2
            have : t = [] := List.length_eq_zero_iff.mp (by omega)
            rw [← et, this, List.append_nil]
          have hr2 := HRel.down h0 r1.hr r2.hr em
          refine h W2 σ2 H2 v' ⟨hr2, r2.st, ?_, fun j y ej => ?_, fun j k y z a _ ej => ?_, r1.pin.trans r2.pin⟩ (rv.down nv)
          · rw [r2.len]; simp
          · have := List.mem_of_getElem? ej
            simp at this
          · have := List.mem_of_getElem? ej
            simp at this
        · exact h.elim
      · exact h.elim
    · exact h.elim
theorem sims_tryA {t : Expr} {n : Str} {b₀ : Stmt} {body suite : List Stmt} {pos pos' : Pos} (h0 : B.xn = none) (hs : X.stack = X.env :: X.outer) (hf : X.env.frame = some X.env.locals) (hN : X.N.Nodup) (hi : X.N[i]? = some n) (hln : X.env.kindOf n = some .local) (T : TestX X t cs)
    (hm : ∀ c, okc c = true → PySem.W.exmAny X.K (.ref (B.cad c)) cs = some true)
    (hb : ∀ (W : L2.WX) (pn : List (Addr × Obj)) (xe : Value → Shared → Prop), Takes (X.tr pn xe) W → PassesOwn (model X.prog X.w) X.A X.env xe → SimSs (X.tr pn xe) B N W body mb)
    (hsu : ∀ (a : Addr) (oe : Obj) (c : Nat) (dd : Addr) (pn : List (Addr × Obj)) (N' : Ent), HasX (X.suite a ((a, oe) :: pn)) (B.with (a, c, dd)) → SimSs (X.suite a ((a, oe) :: pn)) (B.with (a, c, dd)) N' (fun _ _ _ _ => False) (b₀ :: suite) ms) :
    SimS X B N WX (.Try body [.ExceptHandler (some t) (some n) (b₀ :: suite) pos'] [] [] pos) (sTryA mb i okc ms) :=
  (ps_tryAll (tb := fun W => tS B N W mb) hs hf hN hi hln T hb fun a oe cls d pn hz hd => ⟨fun pins s σ H D I ⟨c, dd, P, e1, e2, h⟩ => by
    subst e1
    subst e2
    refine (hsu a oe c dd pn ⟨N.W, N.h, N.H, N.len, P⟩ ⟨fun a' c' dd' e => ?_⟩).run pins s σ H D I h
    cases e
    exact ⟨oe, List.mem_cons_self, hz, hd⟩⟩).imp fun D σ H h => tryA_read h0 hm h
end
end Lp

set_option Elab.async false
set_option linter.all false
set_option maxRecDepth 100000
set_option maxHeartbeats 4000000
/-! Lp22: _law_try(lambda: e). -/
namespace Lp
open PySem PySem.Spec PyProof.Rows L2 LamX NdefX

open Classical in
noncomputable def eTry (okc : Nat → Bool) (ms : MS) (ml : ME) : ME := fun s => match ml s with
  | .ok v s1 => if isOwn v = true then .bad else .ok (.tup [.str "", v]) ⟨s.e, s1.h⟩
  | .exc x s1 => match x with
    | .ins c fs => if okc c = true then (match ms ⟨[none, some (.exn c fs)], s1.h⟩ with
      | .ok (.rt v) s2 => if noX v = true ∧ s2.h = s1.h then .ok v ⟨s.e, s1.h⟩ else .bad
      | _ => .bad) else .bad
    | _ => .bad
  | .bad => .bad
section
variable {X : Cx} {B : Bs} {N : Ent} {WX : L2.WX} {W : Wd} {s : S} {σ σZ : L2.St} {H : Hp} {ms : MS} {ml : ME} {okc : Nat → Bool} {cs : List Value}
/-- the frame of _law_try, nothing told of its slots but their number -/
theorem rel_in (h0 : HRel B W s.h H) (hl : σZ.length = 2) (N2 : Ent) (e1 : N2.W = W) (e2 : N2.h = s.h) (e3 : N2.H = H) (e4 : N2.P = W) : Rel B N2 W ⟨[none, none], s.h⟩ σZ H := by
  obtain ⟨w, h, hh, l, p⟩ := N2
  simp only at e1 e2 e3 e4
  subst e1 e2 e3 e4
  have no : ∀ (j : Nat) (x : PV), ([none, none] : List (Option PV))[j]? = some (some x) → False := fun j x e => by
    have := List.mem_of_getElem? e
    simp at this
  exact ⟨h0, Step.refl h0, by simpa using hl, fun j x e => (no j x e).elim, fun j k x y a _ e => (no j x e).elim, .refl _⟩
/-- the suite, told of its result alone -/
noncomputable def suiteR (ms : MS) (c : Nat) (fs : List PV) (e : List (Option PV)) (h : AH) : R S PV := open Classical in match ms ⟨[none, some (.exn c fs)], h⟩ with
  | .ok (.rt v) s2 => if noX v = true ∧ s2.h = h then .ok v ⟨e, h⟩ else .bad
  | _ => .bad
theorem eTry_eq : eTry okc ms ml = fun s => match ml s with
  | .ok v s1 => if isOwn v = true then R.bad else .ok (.tup [.str "", v]) ⟨s.e, s1.h⟩
  | .exc (.ins c fs) s1 => if okc c = true then suiteR ms c fs s.e s1.h else .bad
  | _ => .bad := by
  funext s
  unfold eTry
  cases ml s with
  | ok v s1 => rfl
  | bad => rfl
  | exc x s1 => cases x <;> rfl
/-- what is left to show behind the making of the lambda -/
theorem try_read {K : PySem.W.Frag} {D : Ends} (hB : B.xn = none) (hm : ∀ c, okc c = true → PySem.W.exmAny K (.ref (B.cad c)) cs = some true) (r : Rel B N W s σ H) {Q : VK} (h : Post B N WX W s H σ (eTry okc ms ml s) fun u W' _ H' => ∀ u', RepT B W' H' u u' → Q u' H') (hD : ∀ v H', Q v H' → D.rt v H') :
    tE B N (fun cls d _ H' => ∀ σ' : L2.St, σ'.length = 2 → wAll K cs 1 (fun a cls d D σ H => ∃ (N' : Ent) (c : Nat) (dd : Addr), cls = .ref (B.cad c) ∧ d = some dd ∧ tS (B.with (a, c, dd)) N' (fun _ _ _ _ => False) ms D σ H) D cls d σ' H') ml σ H
      fun v' H' => ([V.str "", v'] : List V).length ≤ sizeLine ∧ ∀ p, H' p = none → D.rt (.ref p) (upd H' p (.tup [.str "", v'])) := by
  refine ⟨W, s, r, ?_⟩
  rw [eTry_eq] at h
  unfold Post at h ⊢
  cases e : ml s with
  | bad => simp only [e] at h; exact h.elim
  | ok v s1 =>
    simp only [e] at h
    intro W' H' r1 st v' rv
    refine ⟨by show 2 ≤ sizeLine; rw [sizeLine_eq]; exact Nat.le_of_ble_eq_true rfl, fun p hp => ?_⟩
    refine hD _ _ ?_
    split at h
    · exact h.elim
    · rename_i ow
      have rr := rv.rep (by simpa using ow)
      have r2 := rel_step r r1.hr st.st
      have r3 := rel_new (o := .tup [.str "", v']) r2 hp (by show 2 ≤ sizeLine; rw [sizeLine_eq]; exact Nat.le_of_ble_eq_true rfl)
      have st3 : StepE W s H ⟨upd W'.F p (.tup [.str "", v']), W'.m⟩ ⟨s.e, s1.h⟩ (upd H' p (.tup [.str "", v'])) := ⟨st.st.trans r.slen (step_new r1.hr hp), fun _ _ e _ => e⟩
      exact h _ _ r3 st3 _ (rep_tup_new (r1.hr.fnone hp) (.cons (.str _ ⟨by decide +kernel, by decide +kernel⟩) (.cons rr .nil))).hand
  | exc x s1 =>
    simp only [e] at h
    intro W' H' cls d r1 st ex nw σ' hl
    obtain ⟨c, fs, dd, vs, rfl, rfl, rfl, e1, e2, e3, e4, e5, e6⟩ := ex
    dsimp only at h
    split at h
    · rename_i oc
      refine ⟨hm c oc, fun a ha => ?_⟩
      -- the exception's dict stands still from now on
      have nd : H dd = none := nw dd rfl
      have nt : NT (.xd ((B.fld c).zip vs)) := fun _ z => nomatch z
      have hr1 := hrel_keep r1.hr e5 e6 e1 nt
      have st1 : Step W s.h H ⟨upd W'.F dd (.xd ((B.fld c).zip vs)), W'.m⟩ s1.h H' := st.st.keepNew nd e5
      have rx : Rep (B.with (a, c, dd)) ⟨upd W'.F dd (.xd ((B.fld c).zip vs)), W'.m⟩ (.exn c fs) (.ref a) := Rep.exn (B := B.with (a, c, dd)) rfl upd_same e2 ((e3.mono (le_new e5)).up hB)
      generalize (⟨upd W'.F dd (.xd ((B.fld c).zip vs)), W'.m⟩ : Wd) = W1 at hr1 st1 rx
      have ri := rel_in (σZ := σ') (s := ⟨s.e, s1.h⟩) (hr1.up (x := (a, c, dd)) hB) hl ⟨W1, s1.h, H', hr1.len, W1⟩ rfl rfl rfl rfl
      refine ⟨⟨W1, s1.h, H', hr1.len, W1⟩, c, dd, rfl, rfl, W1, ⟨[none, some (.exn c fs)], s1.h⟩, rel_set (i := 1) ri rx, ?_⟩
      unfold PostS
      unfold suiteR at h
      cases e9 : ms ⟨[none, some (.exn c fs)], s1.h⟩ with
      | bad => rw [e9] at h; exact h.elim
      | exc x2 s2 => rw [e9] at h; exact h.elim
      | ok fl s2 =>
        rw [e9] at h
        cases fl with
        | rt v =>
          intro W2 σ2 H2 v' r2 rv
          dsimp only at h
          split at h
          · rename_i hc
            obtain ⟨nv, eh⟩ := hc
            obtain ⟨e3', h3⟩ := s2
            simp only at eh
            subst eh
            have em : W2.m = W1.m := by
              obtain ⟨t, et⟩ := r2.pin.m
              have l1 := hr1.len
              have l2 := r2.hr.len
              have et : W1.m ++ t = W2.m := et
              rw [← et, List.length_append] at l2
              have l2 : W1.m.length + t.length = s1.h.length := l2
              have : t = [] := List.length_eq_zero_iff.mp (by omega)
              rw [← et, this, List.append_nil]
            have hr2 := HRel.down hB hr1 r2.hr em
            have st2 : Step W1 s1.h H' W2 s1.h H2 := r2.st
            have stf := st1.trans r.slen st2
            exact hD _ _ (h W2 H2 (rel_step r hr2 stf) (stepE_of stf) v' (rv.down nv).hand)
          · exact h.elim
        | nx => exact h.elim
        | bk => exact h.elim
        | ct => exact h.elim
    · exact h.elim
end
/-! ### the def _law_try -/
structure TryF (P : Program) (w : World) (K : PySem.W.Frag) (mg : Str → Option Value) (base : Heap) (B : Bs) (k : Nat) (x : Str) (okc : Nat → Bool) (ms : MS) : Prop where
  ex : ∃ (g : Addr) (oc : Value) (od : Option Addr) (pg : Arguments) (bg : List Stmt) (sg : Scope) (dV kV doc pm cdv ct : Value) (an : Option Addr) (osl : Array (Option Value)) (cs : List Value),
    mg x = some (.ref g) ∧ PySem.W.keepIn K (.ref g) = true ∧ K.lookup g = some ⟨oc, od, .func (PySem.W.fnOf x x pg bg sg dV kV doc pm an cdv ct), osl⟩ ∧ PySem.W.codeIn K cdv x = true ∧ L2.Binds K (PySem.W.fnOf x x pg bg sg dV kV doc pm an cdv ct) ["_law_ask"] [] ∧ FnScope ["_law_ask", "_law_e"] ["_law_ask"] sg ∧ Vis sg "_law_ask" ∧
    (∀ c, okc c = true → PySem.W.exmAny K (.ref (B.cad c)) cs = some true) ∧
    ∀ (A : Around) (outer : List Env) (s : Shared) (H : Hp), Room k (A.deeper (envOfC x sg s.heap.objs.size g cdv)) →
      ∀ (tl : XK → Hp → VK → Prop) (f : Addr), (∀ (W : L2.WX) (pn : List (Addr × Obj)) (xe : Value → Shared → Prop) (E : XK) (p1 p2 : Pos), Takes ((cxOf C8.CX0 P w K mg base ["_law_ask", "_law_e"] x sg g cdv A outer s H C8.E0).tr pn xe) W → (∀ cls d σ' H', E cls d H' → W cls d σ' H') →
        PE ((cxOf C8.CX0 P w K mg base ["_law_ask", "_law_e"] x sg g cdv A outer s H C8.E0).tr pn xe) (.Call (.Name "_law_ask" p1) [] [] p2) (fun σZ HZ Q => σZ[0]? = some (some (.ref f)) ∧ tl E HZ Q)) →
      ∃ t, PSs (cxOf C8.CX0 P w K mg base ["_law_ask", "_law_e"] x sg g cdv A outer s H C8.E0) bg t ∧ ∀ (D : Ends) (σ : L2.St) (H : Hp), σ.length = 2 → σ[0]? = some (some (.ref f)) →
        tl (fun cls d H' => ∀ σ' : L2.St, σ'.length = 2 → wAll K cs 1 (fun a cls d D σ H => ∃ (N' : Ent) (c : Nat) (dd : Addr), cls = .ref (B.cad c) ∧ d = some dd ∧ tS (B.with (a, c, dd)) N' (fun _ _ _ _ => False) ms D σ H) D cls d σ' H') H (fun v' H' => ([V.str "", v'] : List V).length ≤ sizeLine ∧ ∀ p, H' p = none → D.rt (.ref p) (upd H' p (.tup [.str "", v']))) → t D σ H
section
variable {P : Program} {w : World} {K : PySem.W.Frag} {mg : Str → Option Value} {base : Heap} {B : Bs} {k : Nat} {x : Str} {sg : Scope} {g : Addr} {cdv : Value} {A : Around} {outer : List Env} {s : Shared} {H : Hp} {okc : Nat → Bool} {ms : MS} {cs : List Value} {f : Addr} {tl : XK → Hp → VK → Prop}
variable {tt : Expr} {b₀ : Stmt} {suite : List Stmt} {j k1 : Nat} {q1 q2 q2' q3 q4 q5 q6 q7 : Pos}
/-- its body: try: return ("", _law_ask()) / except tt as _law_e: suite -/
theorem try_body (hN : (["_law_ask", "_law_e"] : List Str).Nodup) (he : sg.names.lookup ("_law_e" : Str) = some .local) (T : TestX (cxOf C8.CX0 P w K mg base ["_law_ask", "_law_e"] x sg g cdv A outer s H C8.E0) tt cs)
    (act : ∀ (W : L2.WX) (pn : List (Addr × Obj)) (xe : Value → Shared → Prop) (E : XK) (p1 p2 : Pos), Takes ((cxOf C8.CX0 P w K mg base ["_law_ask", "_law_e"] x sg g cdv A outer s H C8.E0).tr pn xe) W → (∀ cls d σ' H', E cls d H' → W cls d σ' H') →
        PE ((cxOf C8.CX0 P w K mg base ["_law_ask", "_law_e"] x sg g cdv A outer s H C8.E0).tr pn xe) (.Call (.Name "_law_ask" p1) [] [] p2) (fun σZ HZ Q => σZ[0]? = some (some (.ref f)) ∧ tl E HZ Q))
    (hsu : ∀ (a : Addr) (oe : Obj) (c : Nat) (dd : Addr) (pn : List (Addr × Obj)) (N' : Ent), HasX ((cxOf C8.CX0 P w K mg base ["_law_ask", "_law_e"] x sg g cdv A outer s H C8.E0).suite a ((a, oe) :: pn)) (B.with (a, c, dd)) →
      SimSs ((cxOf C8.CX0 P w K mg base ["_law_ask", "_law_e"] x sg g cdv A outer s H C8.E0).suite a ((a, oe) :: pn)) (B.with (a, c, dd)) N' (fun _ _ _ _ => False) (b₀ :: suite) ms) :
    ∃ t, PSs (cxOf C8.CX0 P w K mg base ["_law_ask", "_law_e"] x sg g cdv A outer s H C8.E0) [.Try [.Return (some (.Tuple [.Constant (.str "") j q1, .Call (.Name "_law_ask" q2) [] [] q2'] k1 q3)) q4] [.ExceptHandler (some tt) (some "_law_e") (b₀ :: suite) q5] [] [] q6] t ∧ ∀ (D : Ends) (σ : L2.St) (H : Hp), σ.length = 2 → σ[0]? = some (some (.ref f)) →
        tl (fun cls d H' => ∀ σ' : L2.St, σ'.length = 2 → wAll K cs 1 (fun a cls d D σ H => ∃ (N' : Ent) (c : Nat) (dd : Addr), cls = .ref (B.cad c) ∧ d = some dd ∧ tS (B.with (a, c, dd)) N' (fun _ _ _ _ => False) ms D σ H) D cls d σ' H') H (fun v' H' => ([V.str "", v'] : List V).length ≤ sizeLine ∧ ∀ p, H' p = none → D.rt (.ref p) (upd H' p (.tup [.str "", v']))) → t D σ H := by
  refine ⟨_, pss_one (ps_tryAll (tb := fun W D σ H => ∃ E : XK, (∀ cls d H', E cls d H' → ∀ σ' : L2.St, σ'.length = 2 → W cls d σ' H') ∧ σ[0]? = some (some (.ref f)) ∧ tl E H (fun v' H' => ([V.str "", v'] : List V).length ≤ sizeLine ∧ ∀ p, H' p = none → D.rt (.ref p) (upd H' p (.tup [.str "", v']))))
    (ts := fun a cls d D σ H => ∃ (N' : Ent) (c : Nat) (dd : Addr), cls = .ref (B.cad c) ∧ d = some dd ∧ tS (B.with (a, c, dd)) N' (fun _ _ _ _ => False) ms D σ H) (i := 1) rfl rfl hN rfl he T (fun W pn xe tk pa => ?_) fun a oe cls d pn hz hd => ?_), fun D σ H hl h0 h => ⟨_, fun cls d H' q => q, h0, h⟩⟩
  · -- the wish told of frames of two slots
    have tk2 : Takes ((cxOf C8.CX0 P w K mg base ["_law_ask", "_law_e"] x sg g cdv A outer s H C8.E0).tr pn xe) (fun cls d σ H => σ.length = 2 → W cls d σ H) := fun u s' ⟨a, B, sI, pins, σ, H, cls, d, e, I, nb, up, sky, na, os, ag, w⟩ => tk u s' ⟨a, B, sI, pins, σ, H, cls, d, e, I, nb, up, sky, na, os, ag, w I.len⟩
    refine ⟨fun pins s2 σ H D I ⟨E, hE, h0, h⟩ => ?_⟩
    refine (pss_one (ps_ret (pos := q4) (pe_tup (x1 := k1) (pos := q3) (pa_cons (pe_str (j := j) (pos := q1)) (pa_cons (act _ pn xe E q2 q2' tk2 fun cls d σ' H' q hl => hE cls d H' q σ' hl) pa_nil))))).run pins s2 σ H D I ?_
    refine ⟨h0, ?_⟩
    exact h
  · refine ⟨fun pins s2 σ H D I ⟨N', c, dd, e1, e2, h⟩ => ?_⟩
    subst e1
    subst e2
    refine (hsu a oe c dd pn N' ⟨fun a' c' dd' e => ?_⟩).run pins s2 σ H D I h
    cases e
    exact ⟨oe, List.mem_cons_self, hz, hd⟩
end
/-! ### the call -/
/-- what the making of a lambda asks of the def that runs: its code object's table -/
structure LamT (X : Cx) (B : Bs) : Prop where
  ex : ∃ c P, TabB X.base X.mg c P ∧ X.env.code = .ref c ∧ (P, X.env.qual ++ "<lambda>") ∈ B.T ∧ ∀ p ∈ B.T, p.1 = P → p.2 = X.env.qual ++ "<lambda>"
section
variable {X : Cx} {B : Bs} {N : Ent} {WX : L2.WX} {k j : Nat} {x : Str} {okc : Nat → Bool} {ms : MS} {ml : ME} {params : Arguments} {body : Expr} {scope : Scope} {p lpos pos : Pos}
theorem sim_try (F : TryF X.prog X.w X.K X.mg X.base B k x okc ms) (hB : B.xn = none) (LT : LamT X B) (hr : Room (k + 1) X.A) (hg : Gl X x) (L : LamS X.env.scope scope) (hdef : defaultsOf params X.env = ([], []))
    (hbind : ∀ (q : Str) (cl : List (Str × Addr)) (pm cv ctv : Value), bindArgs (PySem.W.kla_fn "<lambda>" q params body scope cl pm cv ctv) ⟨[], []⟩ = pure [])
    (hbody : ∀ (A : Around) (outer : List Env) (s : Shared) (H : Hp) (E : XK) (f c' : Addr), Room j (A.deeper (lamEnv X scope s.heap.objs.size f c')) → Takes (lamCx X A outer s H E scope f c') (fun c d _ H => E c d H) → SimE (lamCx X A outer s H E scope f c') B N (fun c d _ H => E c d H) body ml) (hjk : j + 1 ≤ k)
    (hdb : (x == ("__debug__" : Str)) = false := by decide) :
    SimE X B N WX (.Call (.Name x p) [.Lambda params body scope lpos] [] pos) (eTry okc ms ml) := by
  refine ⟨fun pins s σ H Q I h => ?_⟩
  obtain ⟨g, oc, od, pg, bg, sg, dV, kV, doc, pm, cdv, ct, an, osl, cs, hm, hk, lk, hcg, hb, Sg, hva, hok, giv⟩ := F.ex
  obtain ⟨c, P, TB, hcode, hmT, hu⟩ := LT.ex
  obtain ⟨W, s0, r, h⟩ := h
  refine wpAny_Call_Name_kw (ld_glob I hg hm ?_ hdb)
  refine PySem.W.callWith_K (h₀ := X.base) I.ok.mod.kin hk ?_ (by rfl) (by rfl)
  show wpAny _ _ (spliced ((false, eval (.Lambda params body scope lpos) X.env) :: backTo pos (starEach [] X.env))) _ _ s
  refine Calls.spliced_cons (lam_new I TB hcode hmT hu r.hr.tb hdef (L.has I.ok) fun f c1 pm' ctv H1 s1 I1 lh T1 hf hfn hfr hco => ?_)
  refine Calls.spliced_nil ⟨I1.kIn, ?_⟩
  have r1 := rel_step r (hrel_lam r.hr lh T1) (step_lam r.hr lh)
  have h1 := Post.from r.slen (stepE_of (step_lam r.hr lh)) h
  have rc : codeAny (model X.prog X.w) X.A (.call (.ref g) ⟨[.ref f], []⟩) (CR C8.CX0 X.stack X.prog X.w H1 s1 Q C8.E0) s1 := by
    refine run_ofS (N := ["_law_ask", "_law_e"]) (ps := ["_law_ask"]) (us := [.ref f]) (vs := [.ref f]) lk hcg Sg hr I1.env0 (hb s1 [.ref f] I1.kIn rfl) (.cons rfl .nil) rfl fun hr' => ?_
    obtain ⟨t, ht, hq⟩ := giv X.A X.stack s1 H1 hr' (fun E HZ Q' => HZ c1 = some (CodeO c1 (X.env.qual ++ "<lambda>")) ∧ tE B N (fun c d _ H => E c d H) ml σ HZ Q') f fun W pn xe E p1 p2 tk hW =>
      pe_act (i := 0) I1 L hf hfn hfr (hbind _ _ _ _ _) tk hW (hr'.mono hjk) (fun A outer s H hr2 => hbody A outer s H E f c1 hr2 (takes_of rfl rfl rfl rfl)) rfl hva rfl rfl
    refine ⟨t, ht, hq _ _ _ rfl rfl ⟨hco, ?_⟩⟩
    exact try_read (D := { nx := fun _ H' => Q .non H', rt := Q }) hB hok r1 h1 fun _ _ q => q
  refine wpAny_call (codeAny_mono rc fun r s2 hq => ?_)
  cases r with
  | error e => exact (show False from hq).elim
  | ok fl =>
    cases fl with
    | ret u => exact I1.after hq
    | next => exact False.elim hq
    | brk => exact False.elim hq
    | cont => exact False.elim hq
end
end Lp

set_option Elab.async false
set_option linter.all false
set_option maxRecDepth 100000
set_option maxHeartbeats 4000000
/-! Lp23: the head's facts read by an own Hook (tables of code objects apart), a law's end. -/
namespace Lp
open PySem PySem.Spec PyProof.Rows L2 LamX NdefX

/-! ### the part of the heap -/
def isTab : Obj → Bool
  | ⟨.none, none, .fields vs, sl⟩ => decide (vs.size = 0) && decide (sl.size = 0)
  | _ => false
theorem isTab_ok {o : Obj} (h : isTab o = true) : o = { cls := .none, data := .fields #[] } := by
  unfold isTab at h
  split at h
  · rename_i vs sl
    obtain ⟨h1, h2⟩ := Bool.and_eq_true_iff.mp h
    rw [Array.eq_empty_of_size_eq_zero (of_decide_eq_true h1), Array.eq_empty_of_size_eq_zero (of_decide_eq_true h2)]
  · cases h
def reachL (g : Addr → Option Obj) : Nat → List Addr
  | 0 => [mainGlobals, cStatics]
  | n + 1 => He.growD g (reachL g n)
def tabsL (g : Addr → Option Obj) (as : List Addr) : List Addr := as.filter fun a => match g a with
  | some o => isTab o
  | none => false
def keepL (g : Addr → Option Obj) (as : List Addr) : List Addr := as.filter fun a => match g a with
  | some o => !isTab o
  | none => true
theorem frG_no {g : Addr → Option Obj} {a : Addr} : ∀ {as : List Addr}, a ∉ as → (He.frG g as).lookup a = none
  | [], _ => rfl
  | b :: r, h => by
    simp only [List.mem_cons, not_or] at h
    unfold He.frG
    cases e : g b with
    | none =>
      rw [List.filterMap_cons, e]
      exact frG_no h.2
    | some o =>
      rw [List.filterMap_cons, e]
      show (((b, o) :: He.frG g r).lookup a) = none
      rw [List.lookup_cons, show (a == b) = false from beq_false_of_ne h.1]
      exact frG_no h.2
/-! ### facts -/
abbrev FactL : Type := PySem.W.Frag → List Addr → Bool
abbrev FnL : Type := Option (Str × Str × Arguments × FuncBody × Scope × Addr × List Str × Addr)
def fnL (K : PySem.W.Frag) (a : Addr) : FnL := match K.lookup a with
  | some ⟨_, _, .func fd, _⟩ => some (fd.name, fd.qualname, fd.params, fd.body, fd.scope, fd.globals, fd.closure.map (·.1), fd.builtins)
  | _ => none
structure DefL where
  at_ : PySem.W.Frag → Addr
  name : Str
  qual : Str
  params : Arguments
  body : List Stmt
  scope : Scope
  cl : List Str := []
  dfl : List He.Dv := []
  kwd : List (Str × He.Dv) := []
def DefL.val (d : DefL) : FnL := some (d.name, d.qual, d.params, .stmts d.body, d.scope, mainGlobals, d.cl, builtinsNs)
def DefL.ok (K : PySem.W.Frag) (d : DefL) : Bool := PySem.W.keepIn K (.ref (d.at_ K)) && (match K.lookup (d.at_ K) with
  | some ⟨_, _, .func fd, _⟩ => PySem.W.codeIn K fd.code d.qual && (He.dflB K fd.defaults (d.dfl.map (He.Dv.v K)) && He.kwdB K fd.kwdefaults (d.kwd.map fun q => (q.1, q.2.v K)))
  | _ => false)
/-- what is asked of an exception's __init__ besides: the code object's file, the cell of its class -/
def supB (P : Program) (K : PySem.W.Frag) (a D : Addr) : Bool := match K.lookup a with
  | some ⟨_, _, .func fd, _⟩ => (match fd.code, fd.closure with
    | .ref c, [(_, cc)] => (match K.lookup c with
      | some ⟨_, _, .fields vs, _⟩ => (match (vs[2]? : Option Value) with
        | some (.str file _) => ((P.main.file : Str) == file)
        | _ => false)
      | _ => false) && (match K.lookup cc with
      | some ⟨_, _, .cell (some (.ref D')), _⟩ => decide (D' = D)
      | _ => false)
    | _, _ => false) && ((PySem.W.clsIn K D).isSome && decide (PySem.W.nsIn K cStatics "thirdparty.any" = some none))
  | _ => false
section
variable {K : PySem.W.Frag} {d : DefL}
theorem DefL.get (e : fnL K (d.at_ K) = d.val) (c : d.ok K = true) : PySem.W.keepIn K (.ref (d.at_ K)) = true ∧ ∃ (oc : Value) (od : Option Addr) (fd : FuncData) (osl : Array (Option Value)), K.lookup (d.at_ K) = some ⟨oc, od, .func fd, osl⟩ ∧
    PySem.W.codeIn K fd.code d.qual = true ∧ DflV K fd.defaults (d.dfl.map (He.Dv.v K)) ∧ KwdV K fd.kwdefaults (d.kwd.map fun q => (q.1, q.2.v K)) ∧
    fd.name = d.name ∧ fd.qualname = d.qual ∧ fd.params = d.params ∧ fd.body = .stmts d.body ∧ fd.scope = d.scope ∧ fd.globals = mainGlobals ∧ fd.closure.map (·.1) = d.cl ∧ fd.builtins = builtinsNs := by
  obtain ⟨kp, c2⟩ := Bool.and_eq_true_iff.mp c
  refine ⟨kp, ?_⟩
  unfold fnL at e
  cases q : K.lookup (d.at_ K) with
  | none => rw [q] at c2; cases c2
  | some o =>
    obtain ⟨oc, od, dt, osl⟩ := o
    rw [q] at c2 e
    cases dt with
    | func fd =>
      have e2 : (some (fd.name, fd.qualname, fd.params, fd.body, fd.scope, fd.globals, fd.closure.map (·.1), fd.builtins) : FnL) = some (d.name, d.qual, d.params, .stmts d.body, d.scope, mainGlobals, d.cl, builtinsNs) := e
      simp only [Option.some.injEq, Prod.mk.injEq] at e2
      obtain ⟨h1, h2, h3, h4, h5, h6, h7, h8⟩ := e2
      obtain ⟨k1, k2⟩ := Bool.and_eq_true_iff.mp (show (PySem.W.codeIn K fd.code d.qual && (He.dflB K fd.defaults (d.dfl.map (He.Dv.v K)) && He.kwdB K fd.kwdefaults (d.kwd.map fun q => (q.1, q.2.v K)))) = true from c2)
      obtain ⟨k3, k4⟩ := Bool.and_eq_true_iff.mp k2
      exact ⟨oc, od, fd, osl, rfl, k1, He.dflB_ok k3, He.kwdB_ok k4, h1, h2, h3, h4, h5, h6, h7, h8⟩
    | _ => cases c2
theorem DefL.funD (e : fnL K (d.at_ K) = d.val) (c : d.ok K = true) (hc : d.cl = []) : ∃ fd, FunD K d.name d.qual d.params d.body d.scope (d.dfl.map (He.Dv.v K)) (d.kwd.map fun q => (q.1, q.2.v K)) (d.at_ K) fd := by
  obtain ⟨kp, oc, od, fd, osl, lk, k1, k2, k3, h1, h2, h3, h4, h5, h6, h7, h8⟩ := d.get e c
  obtain ⟨n1, n2, n3, n4, n5, n6, n7, n8, n9, n10, n11, n12, n13, n14, n15⟩ := fd
  simp only at h1 h2 h3 h4 h5 h6 h7 h8 k1 k2 k3
  rw [hc, List.map_eq_nil_iff] at h7
  subst h1 h2 h3 h4 h5 h6 h7 h8
  exact ⟨_, ⟨oc, od, n8, n9, n10, n11, n12, n13, n14, osl, rfl, lk, k1, k2, k3⟩, kp⟩
theorem DefL.sup {P : Program} {D : Addr} (e : fnL K (d.at_ K) = d.val) (c : d.ok K = true) (hc : d.cl = [("__class__" : Str)]) (hn : d.name = "__init__") (hb : supB P K (d.at_ K) D = true)
    (self : ∃ ar : Arg, (d.params.posonlyargs ++ d.params.args).head? = some ar ∧ ar.arg = ("self" : Str)) (hs : d.scope.names.lookup ("super" : Str) = some .globalImplicit) (hcl : d.scope.names.lookup ("__class__" : Str) = some .free) (hl : d.scope.names.lookup ("self" : Str) = some .local)
    (top : (P.main.scope.names.lookup ("super" : Str)).isSome = false) : ∃ cc cda fd, SupF P K D d.qual d.params d.body d.scope (d.at_ K) cc cda fd ∧ ∃ (oc : Value) (od : Option Addr) (dV kV doc pm : Value) (an : Option Addr) (ct : Value) (osl : Array (Option Value)), fd = PySem.W.ksFn "__init__" d.qual d.params d.body d.scope dV kV doc pm an (.ref cda) ct cc ∧ DflV K dV (d.dfl.map (He.Dv.v K)) := by
  obtain ⟨kp, oc, od, fd, osl, lk, k1, k2, k3, h1, h2, h3, h4, h5, h6, h7, h8⟩ := d.get e c
  unfold supB at hb
  rw [lk] at hb
  obtain ⟨n1, n2, n3, n4, n5, n6, n7, n8, n9, n10, n11, n12, n13, n14, n15⟩ := fd
  simp only at h1 h2 h3 h4 h5 h6 h7 h8 k1 k2 k3
  rw [hc] at h7
  rw [hn] at h1
  obtain ⟨p, rfl, hp⟩ := List.map_eq_singleton_iff.mp h7
  obtain ⟨pn, cc⟩ := p
  have hp : pn = "__class__" := hp
  subst hp
  dsimp only at hb
  obtain ⟨hb1, hb2⟩ := Bool.and_eq_true_iff.mp hb
  obtain ⟨hb2, hb3⟩ := Bool.and_eq_true_iff.mp hb2
  cases n13 with
  | ref cda =>
    dsimp only at hb1
    obtain ⟨f1, f2⟩ := Bool.and_eq_true_iff.mp hb1
    have hfile : ∃ (ccl : Value) (cdd : Option Addr) (vs : Array Value) (ccs : Array (Option Value)) (file : Str) (tf : Tok), K.lookup cda = some ⟨ccl, cdd, .fields vs, ccs⟩ ∧ vs[2]? = some (.str file tf) ∧ ((P.main.file : Str) == file) = true := by
      split at f1
      · rename_i ccl cdd vs ccs q
        split at f1
        · rename_i file tf q2
          exact ⟨ccl, cdd, vs, ccs, file, tf, q, q2, f1⟩
        · cases f1
      · cases f1
    have hcell : ∃ (cl : Value) (cld : Option Addr) (csl : Array (Option Value)), K.lookup cc = some ⟨cl, cld, .cell (some (.ref D)), csl⟩ := by
      split at f2
      · rename_i cl cld D' csl q
        have := of_decide_eq_true f2
        subst this
        exact ⟨cl, cld, csl, q⟩
      · cases f2
    subst h1 h2 h3 h4 h5 h6 h8
    refine ⟨cc, cda, _, ⟨⟨oc, od, n8, n9, n10, n11, n12, n14, osl, rfl, lk⟩, k1, hfile, hcell, ?_, of_decide_eq_true hb3, self, hs, hcl, hl, top⟩, oc, od, n8, n9, n10, n11, n12, n14, osl, rfl, k2⟩
    cases z : PySem.W.clsIn K D with
    | none => rw [z] at hb2; cases hb2
    | some cd => exact ⟨cd, rfl⟩
  | _ => cases hb1
end
/-- an exception class's facts -/
def vecB (K : PySem.W.Frag) (B i newId : String) (bmB : List Value) (D : Addr) : Bool := PySem.W.excInitIn K D bmB newId && (decide (PySem.W.ks_superIn K D D "__init__" = some (some (.builtin i))) && (decide (PySem.W.subIn K (.ref D) (.type B) = some true) && (decide (PySem.W.mroIn K D (.ref D) = some true) && (PySem.W.excOver K D bmB &&
  ((match PySem.W.clsIn K D with
    | some cd => cd.hasDict
    | none => false) && (decide (PySem.W.findIn K (.ref D) "__setattr__" = some (some (.builtin "object.__setattr__"))) && (decide (PySem.W.subIn K (.ref D) (.type "BaseException") = some true) && (decide (PySem.W.typeIn K (.ref D) = some (.type "type")) && PySem.W.keepIn K (.ref D)))))))))
theorem vecB_ok {K : PySem.W.Frag} {B i newId : String} {bmB : List Value} {D : Addr} (h : vecB K B i newId bmB D = true) : VeC K B i newId bmB D := by
  unfold vecB at h
  simp only [Bool.and_eq_true, decide_eq_true_eq] at h
  obtain ⟨h1, h2, h3, h4, h5, h6, h7, h8, h9, h10⟩ := h
  refine ⟨⟨h1, h2, h3, h4⟩, ⟨h5, ?_, h7⟩, h8, h9, h10⟩
  split at h6
  · rename_i cd q; exact ⟨cd, q, h6⟩
  · cases h6
/-- the fields of a caught one -/
def xfsB (K : PySem.W.Frag) (C : Addr) (fs : List Str) : Bool := xfB K C && fs.all fun f => decide (PySem.W.findIn K (.ref C) f = some none)
theorem xfsB_ok {K : PySem.W.Frag} {C : Addr} {fs : List Str} (h : xfsB K C fs = true) {f : Str} (hf : f ∈ fs) : XfC K C ∧ PySem.W.findIn K (.ref C) f = some none := by
  obtain ⟨h1, h2⟩ := Bool.and_eq_true_iff.mp h
  exact ⟨xfB_ok h1, of_decide_eq_true (List.all_eq_true.mp h2 f hf)⟩
/-- the table of a def's code object -/
def codeAd (K : PySem.W.Frag) (a : Addr) : Addr := match K.lookup a with
  | some ⟨_, _, .func fd, _⟩ => (match fd.code with
    | .ref c => c
    | _ => 0)
  | _ => 0
def tabAd (K : PySem.W.Frag) (a : Addr) : Addr := match K.lookup (codeAd K a) with
  | some ⟨_, _, .fields vs, _⟩ => (match (vs[11]? : Option Value) with
    | some (.ref P) => P
    | _ => 0)
  | _ => 0
def tabB (K : PySem.W.Frag) (T : List Addr) (a : Addr) : Bool := decide (tabAd K a ∈ T) && (decide (codeAd K a ≠ tabAd K a) && (decide (mainGlobals ≠ tabAd K a) && ((match K.lookup a with
  | some ⟨_, _, .func fd, _⟩ => (match fd.code with
    | .ref c => true
    | _ => false)
  | _ => false) && (match K.lookup (codeAd K a) with
  | some ⟨.type c, _, .fields vs, _⟩ => decide (c = "code") && ((match (vs[11]? : Option Value) with
      | some (.ref _) => true
      | _ => false) && ((match (vs[18]? : Option Value) with
      | some (.str _ _) => true
      | _ => false) && ((match (vs[7]? : Option Value) with
      | some (.int _ _) => true
      | _ => false) && ((match (vs[9]? : Option Value) with
      | some (.bool _) => true
      | _ => false) && (match (vs[10]? : Option Value) with
      | some (.int _ _) => true
      | _ => false)))))
  | _ => false))))
theorem tabB_ok {K : PySem.W.Frag} {T : List Addr} {a : Addr} (b : tabB K T a = true) : tabAd K a ∈ T ∧ mainGlobals ≠ tabAd K a ∧ (∀ {fd : FuncData} {oc : Value} {od : Option Addr} {osl : Array (Option Value)}, K.lookup a = some ⟨oc, od, .func fd, osl⟩ → fd.code = .ref (codeAd K a)) ∧ ∀ h : Heap, K.In h → PySem.W.CodeHd h (codeAd K a) (tabAd K a) := by
  unfold tabB at b
  simp only [Bool.and_eq_true, decide_eq_true_eq] at b
  obtain ⟨b1, b2, b3, b4, b5⟩ := b
  refine ⟨b1, b3, fun {fd oc od osl} lk => ?_, fun h X => ?_⟩
  · unfold codeAd
    rw [lk] at b4 ⊢
    dsimp only at b4 ⊢
    cases e : fd.code with
    | ref c => rfl
    | _ => rw [e] at b4; cases b4
  · split at b5
    · rename_i c od vs sl q
      simp only [Bool.and_eq_true, decide_eq_true_eq] at b5
      obtain ⟨rfl, c1, c2, c3, c4, c5⟩ := b5
      have hP : tabAd K a = (match (vs[11]? : Option Value) with
        | some (.ref P) => P
        | _ => 0) := by
        unfold tabAd
        rw [q]
      obtain ⟨P, e1⟩ : ∃ P, vs[11]? = some (Value.ref P) := by
        split at c1
        · rename_i P e; exact ⟨P, e⟩
        · cases c1
      obtain ⟨file, tf, e2⟩ : ∃ file tf, vs[18]? = some (Value.str file tf) := by
        split at c2
        · rename_i f t e; exact ⟨f, t, e⟩
        · cases c2
      obtain ⟨flags, tg, e3⟩ : ∃ i t, vs[7]? = some (Value.int i t) := by
        split at c3
        · rename_i f t e; exact ⟨f, t, e⟩
        · cases c3
      obtain ⟨inF, e4⟩ : ∃ b, vs[9]? = some (Value.bool b) := by
        split at c4
        · rename_i f e; exact ⟨f, e⟩
        · cases c4
      obtain ⟨text, tt, e5⟩ : ∃ i t, vs[10]? = some (Value.int i t) := by
        split at c5
        · rename_i f t e; exact ⟨f, t, e⟩
        · cases c5
      have hP : tabAd K a = P := by rw [hP, e1]
      have gd : ∀ {i : Nat} {v : Value}, vs[i]? = some v → vs.getD i .none = v := fun {i v} e => by
        rw [Array.getD_eq_getD_getElem?, e]; rfl
      exact ⟨_, vs, file, tf, flags, tg, inF, text, tt, X _ _ q, rfl, rfl, by rw [hP]; exact e1, by rw [hP]; exact gd e1, gd e2, gd e3, gd e4, gd e5, b2⟩
    · cases b5
/-! ### the Hook -/
abbrev AlL : Type := Bool × List FnL
def obsK (fa : List FactL) (fn : List DefL) (K : PySem.W.Frag) (T : List Addr) : AlL := ((fa.all fun f => f K T) && fn.all fun d => d.ok K, fn.map fun d => fnL K (d.at_ K))
def valL (fn : List DefL) : AlL := (true, fn.map DefL.val)
def SaysL (fa : List FactL) (fn : List DefL) (K : PySem.W.Frag) (T : List Addr) : Prop := obsK fa fn K T = valL fn
def obsAt (fa : List FactL) (fn : List DefL) (g : Addr → Option Obj) (as : List Addr) : AlL := obsK fa fn (He.frG g (keepL g as)) (tabsL g as)
def obsLG (n : Nat) (fa : List FactL) (fn : List DefL) (g : Addr → Option Obj) : AlL := obsAt fa fn g (reachL g n)
def SayL (fa : List FactL) (fn : List DefL) (h : Heap) (K : PySem.W.Frag) (T : List Addr) : Prop := K.In h ∧ (∀ P ∈ T, h.get? P = some { cls := .none, data := .fields #[] } ∧ K.lookup P = none) ∧ SaysL fa fn K T
theorem sayL_of {n : Nat} {fa : List FactL} {fn : List DefL} {h : Heap} (e : obsLG n fa fn h.get? = valL fn) : ∃ K T, SayL fa fn h K T := by
  refine ⟨_, _, He.frG_in, fun P hP => ?_, e⟩
  obtain ⟨h1, h2⟩ := List.mem_filter.mp hP
  cases q : h.get? P with
  | none => rw [q] at h2; cases h2
  | some o =>
    rw [q] at h2
    refine ⟨congrArg some (isTab_ok h2), frG_no fun z => ?_⟩
    obtain ⟨_, z2⟩ := List.mem_filter.mp z
    rw [q] at z2
    have h2 : isTab o = true := h2
    have z2 : (!isTab o) = true := z2
    rw [h2] at z2
    cases z2
def hookL (n : Nat) (fa : List FactL) (fn : List DefL) : PySem.W.Hook where
  α := AlL
  obs := fun s => obsLG n fa fn s.heap.get?
  val := fun _ => valL fn
  says := fun _ h => ∃ K T, SayL fa fn h K T
  of := fun _ _ e => sayL_of e
  keeps := fun _ _ _ ⟨K, T, hK, hT, c⟩ k => ⟨K, T, PySem.W.Frag.In.keeps hK k, fun P hP => ⟨k _ _ (hT P hP).1, (hT P hP).2⟩, c⟩
theorem obsLG_eq {n : Nat} {fa : List FactL} {fn : List DefL} {g : Addr → Option Obj} {s : Shared} (h : ∀ a, g a = s.heap.get? a) : obsLG n fa fn g = (hookL n fa fn).obs s := by
  have e : g = s.heap.get? := funext h
  rw [e] <;> rfl
section
variable {fa : List FactL} {fn : List DefL} {K : PySem.W.Frag} {T : List Addr}
theorem SaysL.fact (c : SaysL fa fn K T) (i : Nat) {f : FactL} (h : fa[i]? = some f := by rfl) : f K T = true := by
  have c1 := (Bool.and_eq_true_iff.mp (show ((fa.all fun f => f K T) && fn.all fun d => d.ok K) = true from congrArg (fun z : AlL => z.1) c)).1
  exact List.all_eq_true.mp c1 f (List.mem_of_getElem? h)
theorem SaysL.def_ (c : SaysL fa fn K T) (i : Nat) {d : DefL} (h : fn[i]? = some d := by rfl) : fnL K (d.at_ K) = d.val ∧ d.ok K = true := by
  have c2 := (Bool.and_eq_true_iff.mp (show ((fa.all fun f => f K T) && fn.all fun d => d.ok K) = true from congrArg (fun z : AlL => z.1) c)).2
  have e : fn.map (fun d => fnL K (d.at_ K)) = fn.map DefL.val := congrArg (fun z : AlL => z.2) c
  have e2 : (fn.map fun d => fnL K (d.at_ K))[i]? = (fn.map DefL.val)[i]? := by rw [e]
  rw [List.getElem?_map, List.getElem?_map, h] at e2
  exact ⟨Option.some.inj e2, List.all_eq_true.mp c2 d (List.mem_of_getElem? h)⟩
end
/-! ### a law's end -/
/-- the tables that lambdas' code objects go to: the makers' addresses and names -/
def tabT (K : PySem.W.Frag) (ls : List ((PySem.W.Frag → Addr) × Str)) : List (Addr × Str) := ls.map fun p => (tabAd K (p.1 K), p.2)
theorem walkL {l : PySem.W.OpenLaw} {n k : Nat} {q : Program} {loose : List Str} {XP : (Str → Option Value) → Heap → Prop} {YP : World → Heap → Prop} {d : DefRec} {x : Str} {fa : List FactL} {fn : List DefL} {B : PySem.W.Frag → Bs} {m : MF} {ls : List ((PySem.W.Frag → Addr) × Str)}
    (hn : l.most = some n) (hn2 : n ≤ sizeLine) (hdf : d.params.defaults = []) (hr : Room k callerA) (hY : ∀ w h, YP w h → ∃ K T, SayL fa fn h K T) (hB : ∀ K, (B K).K = K) (hT : ∀ K, (B K).T = tabT K ls) (hls : ∀ K T, SaysL fa fn K T → ∀ p ∈ ls, tabB K T (p.1 K) = true)
    (F : ∀ (w : World) (mg : Str → Option Value) (f : Addr) (h : Heap) (K : PySem.W.Frag) (T : List Addr), K.In h → h.Ns mainGlobals mg → mg d.name = some (.ref f) → SaysL fa fn K T →
      ∃ fd : FuncData, (∀ (s : Shared) (u : Value), BindsTo s fd ⟨[u], []⟩ [(x, u)]) ∧ ∀ base : Heap, K.In base → base.Ns mainGlobals mg → (∀ p ∈ ls, TabB base mg (codeAd K (p.1 K)) (tabAd K (p.1 K))) → FnOk l.prog w K mg base (L2.CX l.prog w) k f fd [x] (spF (B K) 1 m))
    (law : ∀ ns : List Int, ns.length ≤ n → (∀ z ∈ ns, Builtin.Int.intBits z ≤ 1048576) → ∃ h', m [.scr (ns.map .int)] [] = .ok (.bl true) h') :
    PySem.W.WalkO q loose XP YP l.row.toRowW d [] (fun f vs => PySem.call f vs) := by
  refine walk_ofTsE (CX := fun w => L2.CX l.prog w) (x := x) hn hn2 hdf hr (fun w mg f h Y hns hmg => ?_) fun w H s e s' z => ?_
  · obtain ⟨K, T, KX, hTT, c⟩ := hY w h Y
    obtain ⟨fd, hb, hF⟩ := F w mg f h K T KX hns hmg c
    have tb := fun p hp => tabB_ok (hls K T c p hp)
    refine ⟨K, KX, fd, ls.map fun p => (codeAd K (p.1 K), tabAd K (p.1 K)), spZ 1 (spF (B K) 1 m), fun p hp => ?_, fun p hp => ?_, fun p hp => ?_, hb, fun H a ns hl hbits hH hS => ⟨rfl, fun hz => ?_⟩, fun base hKb hnb htb => spz_ok (hF base hKb hnb fun p hp => htb (codeAd K (p.1 K), tabAd K (p.1 K)) (List.mem_map.mpr ⟨p, hp, rfl⟩)) rfl⟩
    · obtain ⟨q, hq, rfl⟩ := List.mem_map.mp hp
      exact (hTT _ (tb q hq).1).1
    · obtain ⟨q, hq, rfl⟩ := List.mem_map.mp hp
      exact (hTT _ (tb q hq).1).2
    · obtain ⟨q, hq, rfl⟩ := List.mem_map.mp hp
      exact (tb q hq).2.2.2 h KX
    · refine law_sp hz (fun p hp => ?_) (Nat.le_trans hl hn2) (by rw [hB]; exact hS) (law ns hl hbits)
      rw [hT] at hp
      obtain ⟨q, hq, rfl⟩ := List.mem_map.mp hp
      exact TabS.nil (hH (codeAd K (q.1 K), tabAd K (q.1 K)) (List.mem_map.mpr ⟨q, hq, rfl⟩))
  · obtain ⟨_, _, _, _, _, _, _, _, _, _, _, _, z⟩ := z
    exact z
end Lp

set_option Elab.async false
set_option linter.all false
set_option maxRecDepth 100000
set_option maxHeartbeats 4000000
/-! Lp24: what printed derivations use, exceptions. -/
namespace Lp
open PySem PySem.Spec PyProof.Rows L2 LamX NdefX
theorem _root_.L2H.RoomH.u9 {k : Nat} {A : Around} (r : L2H.RoomH k A) : U9 A := by have := r.un; show A.units + 200 < cLine; omega
def ExcA (P : Program) (w : World) (K : PySem.W.Frag) (mg : Str → Option Value) (base : Heap) (B : Bs) (k : Nat) (x : Str) (c n : Nat) (fv : List PV → List PV) : Prop := ∃ j, j + 1 ≤ k ∧ ExcC P w K mg base B j x c n fv
theorem ExcA.mono {P : Program} {w : World} {K : PySem.W.Frag} {mg : Str → Option Value} {base : Heap} {B : Bs} {i k : Nat} {x : Str} {c n : Nat} {fv : List PV → List PV} (F : ExcA P w K mg base B i x c n fv) (h : i ≤ k) : ExcA P w K mg base B k x c n fv :=
  let ⟨j, hj, a⟩ := F
  ⟨j, Nat.le_trans hj h, a⟩
section
variable {X : Cx} {B : Bs} {N : Ent} {WX : L2.WX} {x : Str} {c n k : Nat} {fv : List PV → List PV} {ma : MA} {e : Expr} {es : List Expr} {p pos pos' : Pos}
theorem sims_raiseA (F : ExcA X.prog X.w X.K X.mg X.base B k x c n fv) (hc : X.calm = true) (tk : Takes X WX) (hr : Room k X.A) (hg : Gl X x) (ha : SimA X B N WX (e :: es) ma) (hdb : (x == ("__debug__" : Str)) = false)
    (he : starEach (e :: es) X.env = (false, eval e X.env) :: starEach es X.env) (hpl : (backTo pos (starEach es X.env)).any (·.1) = false) : SimS X B N WX (.Raise (some (.Call (.Name x p) (e :: es) [] pos)) none pos') (sRaise c n fv ma) :=
  let ⟨j, hj, F⟩ := F
  sims_raise F hc tk (hr.mono hj) hg ha hdb he hpl
theorem sims_raiseA0 (F : ExcA X.prog X.w X.K X.mg X.base B k x c 0 fv) (hc : X.calm = true) (tk : Takes X WX) (hr : Room k X.A) (hg : Gl X x) (hdb : (x == ("__debug__" : Str)) = false) : SimS X B N WX (.Raise (some (.Call (.Name x p) [] [] pos)) none pos') (sRaise c 0 fv aNil) :=
  let ⟨j, hj, F⟩ := F
  sims_raise0 F hc tk (hr.mono hj) hg hdb
end
theorem TryF.mono {P : Program} {w : World} {K : PySem.W.Frag} {mg : Str → Option Value} {base : Heap} {B : Bs} {j k : Nat} {x : Str} {okc : Nat → Bool} {ms : MS} (F : TryF P w K mg base B j x okc ms) (h : j ≤ k) : TryF P w K mg base B k x okc ms := by
  obtain ⟨g, oc, od, pg, bg, sg, dV, kV, doc, pm, cdv, ct, an, osl, cs, h1, h2, h3, h4, h5, h6, h7, h8, h9⟩ := F.ex
  exact ⟨g, oc, od, pg, bg, sg, dV, kV, doc, pm, cdv, ct, an, osl, cs, h1, h2, h3, h4, h5, h6, h7, h8, fun A outer s H hr => h9 A outer s H (hr.mono h)⟩
theorem XClsF.with {K : PySem.W.Frag} {B : Bs} {fl : FL} (C : XClsF K B fl) {y : Addr × Nat × Addr} : XClsF K (B.with y) fl := ⟨C.fld, C.cls⟩
/-- the promise of an exception's class from its __init__'s -/
theorem exc_mk {P : Program} {w : World} {K : PySem.W.Frag} {mg : Str → Option Value} {base : Heap} {B : Bs} {k : Nat} {x : Str} {c n : Nat} {fv : List PV → List PV} {fs : List V → List (Str × V)} {Bn i newId : String} {bmB : List Value} {fI : Addr} {fd : FuncData} {ps : List Str} (G : BltX Bn i newId bmB) (Ve : VeC K Bn i newId bmB (B.cad c))
    (iC : PySem.W.findIn K (.ref (B.cad c)) "__init__" = some (some (.ref fI))) (tI : PySem.W.typeIn K (.ref fI) = some (.type "function")) (F : FnOk P w K mg base (L2.CX P w) k fI fd ps (spIni (B.cad c) n fs)) (hb : Binds K fd ps []) (hm : mg x = some (.ref (B.cad c))) (hn : n ≤ 1000)
    (hf : ∀ (W : Wd) (xs : List PV) (vs : List V), Reps B W xs vs → xs.length = n → ∃ us, fs vs = (B.fld c).zip us ∧ us.length = (B.fld c).length ∧ Reps B W (fv xs) us) : ExcC P w K mg base B k x c n fv := ⟨fs, ⟨Bn, i, newId, bmB, fI, fd, ps, G, Ve, iC, tI, F, hb, hm⟩, hn, hf⟩
theorem exc_f0 {B : Bs} {T : Str} {c : Nat} (e : B.fld c = [("code" : Str)]) (k : SOk T) : ∀ (W : Wd) (xs : List PV) (vs : List V), Reps B W xs vs → xs.length = 0 → ∃ us, ([(("code" : Str), V.str T)] : List (Str × V)) = (B.fld c).zip us ∧ us.length = (B.fld c).length ∧ Reps B W [.str T] us := fun W xs vs r hl => by
  rw [e]
  exact ⟨[.str T], rfl, rfl, .one (.str _ k)⟩
theorem exc_f1 {B : Bs} {T f : Str} {c : Nat} (e : B.fld c = [("code" : Str), f]) (k : SOk T) : ∀ (W : Wd) (xs : List PV) (vs : List V), Reps B W xs vs → xs.length = 1 → ∃ us, ([(("code" : Str), V.str T), (f, vs.headD .non)] : List (Str × V)) = (B.fld c).zip us ∧ us.length = (B.fld c).length ∧ Reps B W [.str T, xs.headD .non] us := fun W xs vs r hl => by
  rw [e]
  match xs, vs, r, hl with
  | [x], [v], .cons r1 .nil, _ => exact ⟨[.str T, v], rfl, rfl, .cons (.str _ k) (.one r1)⟩
theorem exc_f2 {B : Bs} {T f g : Str} {c : Nat} (e : B.fld c = [("code" : Str), g, f]) (k : SOk T) : ∀ (W : Wd) (xs : List PV) (vs : List V), Reps B W xs vs → xs.length = 2 → ∃ us, ([(("code" : Str), V.str T), (g, vs.tail.headD .non), (f, vs.headD .non)] : List (Str × V)) = (B.fld c).zip us ∧ us.length = (B.fld c).length ∧ Reps B W [.str T, xs.tail.headD .non, xs.headD .non] us := fun W xs vs r hl => by
  rw [e]
  match xs, vs, r, hl with
  | [x, y], [v, u], .cons r1 (.cons r2 .nil), _ => exact ⟨[.str T, u, v], rfl, rfl, .cons (.str _ k) (.cons r2 (.one r1))⟩
/-- a def whose code object is known -/
theorem fn_okL {P : Program} {w : World} {K : PySem.W.Frag} {mg : Str → Option Value} {base : Heap} {x qual : Str} {params : Arguments} {body : List Stmt} {scope : Scope} {dvs : List V} {kws : List (Str × V)} {f : Addr} {fd : FuncData} {names ps : List Str} {k n kk : Nat} {B : Bs} {mb : MS} {cv : Value}
    (F : FunD K x qual params body scope dvs kws f fd) (S : FnScope names ps scope) (hn : ps.length = n) (hk : names.length - n = kk) (hcode : ∀ {fd : FuncData} {oc : Value} {od : Option Addr} {osl : Array (Option Value)}, K.lookup f = some ⟨oc, od, .func fd, osl⟩ → fd.code = cv)
    (hb : ∀ (A : Around) (outer : List Env) (s : Shared) (H : Hp) (E : XK) (N : Ent), Bdy (cxOf (L2.CX P w) P w K mg base names qual scope f cv A outer s H E) E k →
      SimSs (cxOf (L2.CX P w) P w K mg base names qual scope f cv A outer s H E) B N (fun c d _ H => E c d H) body mb) : FnOk P w K mg base (L2.CX P w) (k + 1) f fd ps (spF B n (mkF kk mb)) := by
  obtain ⟨oc, od, dV, kV, doc, pm, an, cdv, ct, osl, rfl, lk, hcd, _, _⟩ := F.ex
  obtain rfl : cdv = cv := hcode lk
  refine fn_of lk hcd S (fun vs H Q E ⟨W, h, xs, hr, r, e, _⟩ => by rw [hn, ← e, r.length]) fun A outer s H vs Q E hr ⟨W, h, xs, hrel, r, e, q⟩ => ?_
  have bd : Bdy (cxOf (L2.CX P w) P w K mg base names qual scope f cdv A outer s H E) E k := ⟨takes_of rfl rfl rfl rfl, passes_of rfl, hr⟩
  refine ⟨_, hb A outer s H E ⟨W, h, H, hrel.len, W⟩ bd, W, ⟨xs.map some ++ List.replicate kk none, h⟩, ?_, ?_⟩
  · unfold L2.start
    rw [show names.length - vs.length = kk by rw [← r.length, e, hk]]
    exact rel_start (k := kk) hrel r
  · unfold PostS
    unfold mkF at q
    cases e1 : mb ⟨xs.map some ++ List.replicate kk none, h⟩ with
    | bad => rw [e1] at q; exact q.elim
    | exc x1 s1 => rw [e1] at q; exact fun W' σ' H' cls d r' ex => q W' H' cls d r'.hr r'.st ex
    | ok fl s1 =>
      rw [e1] at q
      cases fl with
      | rt v => exact fun W' σ' H' v' r' rv => q W' H' v' r'.hr r'.st rv
      | nx => exact fun W' σ' H' r' => q W' H' .non r'.hr r'.st .non
      | bk => exact q.elim
      | ct => exact q.elim
theorem tab_uniq : ∀ {l : List (Addr × Str)}, (l.map (·.1)).Nodup → ∀ {a : Addr} {q : Str}, (a, q) ∈ l → ∀ p ∈ l, p.1 = a → p.2 = q
  | [], _, _, _, h, _, _, _ => by cases h
  | y :: l, nd, a, q, h, p, hp, e => by
    obtain ⟨n1, n2⟩ := List.nodup_cons.mp nd
    rcases List.mem_cons.mp h with h | h <;> rcases List.mem_cons.mp hp with hp | hp
    · rw [hp, ← h]
    · exact absurd (List.mem_map.mpr ⟨p, hp, by rw [e, ← h]⟩) n1
    · exact absurd (List.mem_map.mpr ⟨(a, q), h, by rw [← hp]; exact e.symm⟩) n1
    · exact tab_uniq n2 h p hp e
def ndT (K : PySem.W.Frag) (ls : List ((PySem.W.Frag → Addr) × Str)) : Bool := decide (((tabT K ls).map (·.1)).Nodup)
def clsB : Stmt → List Stmt
  | .ClassDef _ _ _ b _ _ _ _ _ _ _ => b
  | _ => []
/-- the making of a lambda in the def at f -/
theorem lamT_of {CX : CXT} {P : Program} {w : World} {K : PySem.W.Frag} {mg : Str → Option Value} {base : Heap} {names : List Str} {qual : Str} {scope : Scope} {f : Addr} {A : Around} {outer : List Env} {s : Shared} {H : Hp} {E : XK} {B : Bs} {ls : List ((PySem.W.Frag → Addr) × Str)} {g : PySem.W.Frag → Addr}
    (TB : TabB base mg (codeAd K f) (tabAd K f)) (hT : B.T = tabT K ls) (nd : ndT K ls = true) (hg : g K = f) (hm : (g, qual ++ ".<locals>." ++ "<lambda>") ∈ ls) : LamT (cxOf CX P w K mg base names qual scope f (.ref (codeAd K f)) A outer s H E) B := by
  subst hg
  have m1 : (tabAd K (g K), qual ++ ".<locals>." ++ "<lambda>") ∈ B.T := by
    rw [hT]
    exact List.mem_map.mpr ⟨_, hm, rfl⟩
  refine ⟨codeAd K (g K), tabAd K (g K), TB, rfl, m1, ?_⟩
  have nd : ((tabT K ls).map (·.1)).Nodup := of_decide_eq_true nd
  rw [← hT] at nd
  exact tab_uniq nd m1
end Lp

set_option Elab.async false
set_option linter.all false
set_option maxRecDepth 100000
set_option maxHeartbeats 4000000
/-! Lp25: what is never reached; _law_try's promise; an exception's class from the head's facts. -/
namespace Lp
open PySem PySem.Spec PyProof.Rows L2 LamX NdefX
noncomputable def eBad : ME := fun _ => .bad
noncomputable def sBad : MS := fun _ => .bad
section
variable {X : Cx} {B : Bs} {N : Ent} {WX : L2.WX} {e : Expr} {st : Stmt} {sts : List Stmt}
theorem sim_bad : SimE X B N WX e eBad := ⟨fun pins s σ H Q I h => by obtain ⟨W, s0, r, h⟩ := h; exact h.elim⟩
theorem sims_bad : SimS X B N WX st sBad := ⟨fun pins s σ H D I h => by obtain ⟨W, s0, r, h⟩ := h; exact h.elim⟩
end
section
variable {P : Program} {w : World} {K : PySem.W.Frag} {mg : Str → Option Value} {base : Heap} {B : Bs} {k : Nat} {x : Str} {okc : Nat → Bool} {ms : MS} {cs : List Value} {g : Addr} {fd : FuncData}
variable {tt : Expr} {b₀ : Stmt} {suite : List Stmt} {j k1 : Nat} {q1 q2 q2' q3 q4 q5 q6 q7 : Pos} {params : Arguments} {sg : Scope}
theorem try_ok (F : FunD K x x params [.Try [.Return (some (.Tuple [.Constant (.str "") j q1, .Call (.Name "_law_ask" q2) [] [] q2'] k1 q3)) q4] [.ExceptHandler (some tt) (some "_law_e") (b₀ :: suite) q5] [] [] q6] sg [] [] g fd) (hm : mg x = some (.ref g)) (hbi : L2.Binds K fd ["_law_ask"] [])
    (S : FnScope ["_law_ask", "_law_e"] ["_law_ask"] sg) (hva : Vis sg "_law_ask") (he : sg.names.lookup ("_law_e" : Str) = some .local) (hok : ∀ c, okc c = true → PySem.W.exmAny K (.ref (B.cad c)) cs = some true)
    (T : ∀ (A : Around) (outer : List Env) (s : Shared) (H : Hp) (cdv : Value), TestX (cxOf C8.CX0 P w K mg base ["_law_ask", "_law_e"] x sg g cdv A outer s H C8.E0) tt cs)
    (hsu : ∀ (A : Around) (outer : List Env) (s : Shared) (H : Hp) (cdv : Value) (a : Addr) (oe : Obj) (c : Nat) (dd : Addr) (pn : List (Addr × Obj)) (N' : Ent), L2H.RoomH k ((A.deeper (envOfC x sg s.heap.objs.size g cdv)).mark (some (.ref a))) → HasX ((cxOf C8.CX0 P w K mg base ["_law_ask", "_law_e"] x sg g cdv A outer s H C8.E0).suite a ((a, oe) :: pn)) (B.with (a, c, dd)) →
      SimSs ((cxOf C8.CX0 P w K mg base ["_law_ask", "_law_e"] x sg g cdv A outer s H C8.E0).suite a ((a, oe) :: pn)) (B.with (a, c, dd)) N' (fun _ _ _ _ => False) (b₀ :: suite) ms) : TryF P w K mg base B k x okc ms := by
  obtain ⟨oc, od, dV, kV, doc, pm, an, cdv, ct, osl, rfl, lk, hcd, _, _⟩ := F.ex
  exact ⟨g, oc, od, params, _, sg, dV, kV, doc, pm, cdv, ct, an, osl, cs, hm, F.kp, lk, hcd, hbi, S, hva, hok, fun A outer s H hr tl f act => try_body S.nd he (T A outer s H cdv) act fun a oe c dd pn N' HX => hsu A outer s H cdv a oe c dd pn N' ⟨hr.dp, hr.un⟩ HX⟩
end
/-! ### an exception's class -/
def initB (K : PySem.W.Frag) (D f : Addr) : Bool := decide (PySem.W.findIn K (.ref D) "__init__" = some (some (.ref f))) && decide (PySem.W.typeIn K (.ref f) = some (.type "function"))
/-- what is asked of an __init__'s text besides its body -/
structure IniT (P : Program) (qual : Str) (params : Arguments) (body : List Stmt) (scope : Scope) (ps : List Str) : Prop where
  sc : NScope (ps ++ [("__class__" : Str)]) ps ["__class__"] scope
  self : ∃ ar : Arg, (params.posonlyargs ++ params.args).head? = some ar ∧ ar.arg = ("self" : Str)
  su : scope.names.lookup ("super" : Str) = some .globalImplicit
  cl : scope.names.lookup ("__class__" : Str) = some .free
  sl : scope.names.lookup ("self" : Str) = some .local
  top : (P.main.scope.names.lookup ("super" : Str)).isSome = false
  bind : ∀ (kV doc pm : Value) (an : Option Addr) (cdv ct : Value) (cc : Addr) (us : List Value), us.length = ps.length → bindArgs (PySem.W.ksFn "__init__" qual params body scope .none kV doc pm an cdv ct cc) ⟨us, []⟩ = pure (ps.zip us)
section
variable {P : Program} {w : World} {K : PySem.W.Frag} {mg : Str → Option Value} {base : Heap} {B : Bs} {x T f1 f2 x1 x2 qual : Str} {c j j2 : Nat} {Bn i newId : String} {bmB : List Value} {at_ : PySem.W.Frag → Addr} {params : Arguments} {scope : Scope} {p0 p1 p2 p3 cp ap q0 q1 q2 q3 r0 r1 r2 r3 t0 t1 t2 t3 : Pos}
theorem exc_of0 (G : BltX Bn i newId bmB) (hfl : B.fld c = [("code" : Str)]) (v : vecB K Bn i newId bmB (B.cad c) = true) (xf : xfsB K (B.cad c) ["code"] = true) (hi : initB K (B.cad c) (at_ K) = true) (hs : supB P K (at_ K) (B.cad c) = true)
    (e : fnL K ((DefL.mk at_ "__init__" qual params [supSt T j p0 p1 p2 p3 cp ap, .Assign [.Attribute (.Name "self" t0) "code" t1] (.Constant (.str T) j2 t2) t3] scope ["__class__"] [] []).at_ K) = (DefL.mk at_ "__init__" qual params [supSt T j p0 p1 p2 p3 cp ap, .Assign [.Attribute (.Name "self" t0) "code" t1] (.Constant (.str T) j2 t2) t3] scope ["__class__"] [] []).val ∧ (DefL.mk at_ "__init__" qual params [supSt T j p0 p1 p2 p3 cp ap, .Assign [.Attribute (.Name "self" t0) "code" t1] (.Constant (.str T) j2 t2) t3] scope ["__class__"] [] []).ok K = true)
    (I : IniT P qual params [supSt T j p0 p1 p2 p3 cp ap, .Assign [.Attribute (.Name "self" t0) "code" t1] (.Constant (.str T) j2 t2) t3] scope ["self"])
    (ht : ∀ (cc cda f L : Addr), SupEv T j p0 p1 p2 cp ap (envF (supNF qual params [supSt T j p0 p1 p2 p3 cp ap, .Assign [.Attribute (.Name "self" t0) "code" t1] (.Constant (.str T) j2 t2) t3] scope cc cda) f L))
    (hsu : mg "super" = none) (hm : mg x = some (.ref (B.cad c))) (k : SOk T) : ExcC P w K mg base B 1 x c 0 fun _ => [.str T] := by
  obtain ⟨cc, cda, fd, S, oc, od, dV, kV, doc, pm, an, ct, osl, rfl, hD⟩ := DefL.sup e.1 e.2 rfl rfl hs I.self I.su I.cl I.sl I.top
  obtain ⟨i1, i2⟩ := Bool.and_eq_true_iff.mp hi
  have V := vecB_ok v
  refine exc_mk G V (of_decide_eq_true i1) (of_decide_eq_true i2) (ini0 (k := 0) S G V hsu I.sc (fun L => ht _ _ _ L) (xfsB_ok xf (by simp)).2) ?_ hm (by decide) (exc_f0 hfl k)
  rcases hD with ⟨_, rfl⟩ | ⟨e, _⟩
  · exact .all (I.bind kV doc pm an _ ct cc)
  · exact absurd rfl e
theorem exc_of1 (G : BltX Bn i newId bmB) (hfl : B.fld c = [("code" : Str), f1]) (v : vecB K Bn i newId bmB (B.cad c) = true) (xf : xfsB K (B.cad c) ["code", f1] = true) (hi : initB K (B.cad c) (at_ K) = true) (hs : supB P K (at_ K) (B.cad c) = true)
    (e : fnL K ((DefL.mk at_ "__init__" qual params [supSt T j p0 p1 p2 p3 cp ap, .Assign [.Attribute (.Name "self" q0) f1 q1] (.Name x1 q2) q3, .Assign [.Attribute (.Name "self" t0) "code" t1] (.Constant (.str T) j2 t2) t3] scope ["__class__"] [] []).at_ K) = (DefL.mk at_ "__init__" qual params [supSt T j p0 p1 p2 p3 cp ap, .Assign [.Attribute (.Name "self" q0) f1 q1] (.Name x1 q2) q3, .Assign [.Attribute (.Name "self" t0) "code" t1] (.Constant (.str T) j2 t2) t3] scope ["__class__"] [] []).val ∧ (DefL.mk at_ "__init__" qual params [supSt T j p0 p1 p2 p3 cp ap, .Assign [.Attribute (.Name "self" q0) f1 q1] (.Name x1 q2) q3, .Assign [.Attribute (.Name "self" t0) "code" t1] (.Constant (.str T) j2 t2) t3] scope ["__class__"] [] []).ok K = true)
    (I : IniT P qual params [supSt T j p0 p1 p2 p3 cp ap, .Assign [.Attribute (.Name "self" q0) f1 q1] (.Name x1 q2) q3, .Assign [.Attribute (.Name "self" t0) "code" t1] (.Constant (.str T) j2 t2) t3] scope ["self", x1])
    (ht : ∀ (cc cda f L : Addr), SupEv T j p0 p1 p2 cp ap (envF (supNF qual params [supSt T j p0 p1 p2 p3 cp ap, .Assign [.Attribute (.Name "self" q0) f1 q1] (.Name x1 q2) q3, .Assign [.Attribute (.Name "self" t0) "code" t1] (.Constant (.str T) j2 t2) t3] scope cc cda) f L))
    (hx : (x1 == ("__debug__" : Str)) = false) (hx2 : (x1 == ("__classdict__" : Str)) = false)
    (hsu : mg "super" = none) (hm : mg x = some (.ref (B.cad c))) (k : SOk T) : ExcC P w K mg base B 1 x c 1 fun xs => [.str T, xs.headD .non] := by
  obtain ⟨cc, cda, fd, S, oc, od, dV, kV, doc, pm, an, ct, osl, rfl, hD⟩ := DefL.sup e.1 e.2 rfl rfl hs I.self I.su I.cl I.sl I.top
  obtain ⟨i1, i2⟩ := Bool.and_eq_true_iff.mp hi
  have V := vecB_ok v
  refine exc_mk G V (of_decide_eq_true i1) (of_decide_eq_true i2) (ini1 (k := 0) S G V hsu I.sc (fun L => ht _ _ _ L) hx hx2 (xfsB_ok xf (by simp)).2 (xfsB_ok xf (by simp)).2) ?_ hm (by decide) (exc_f1 hfl k)
  rcases hD with ⟨_, rfl⟩ | ⟨e, _⟩
  · exact .all (I.bind kV doc pm an _ ct cc)
  · exact absurd rfl e
theorem exc_of2 (G : BltX Bn i newId bmB) (hfl : B.fld c = [("code" : Str), f2, f1]) (v : vecB K Bn i newId bmB (B.cad c) = true) (xf : xfsB K (B.cad c) ["code", f2, f1] = true) (hi : initB K (B.cad c) (at_ K) = true) (hs : supB P K (at_ K) (B.cad c) = true)
    (e : fnL K ((DefL.mk at_ "__init__" qual params [supSt T j p0 p1 p2 p3 cp ap, .Assign [.Attribute (.Name "self" q0) f1 q1] (.Name x1 q2) q3, .Assign [.Attribute (.Name "self" r0) f2 r1] (.Name x2 r2) r3, .Assign [.Attribute (.Name "self" t0) "code" t1] (.Constant (.str T) j2 t2) t3] scope ["__class__"] [] []).at_ K) = (DefL.mk at_ "__init__" qual params [supSt T j p0 p1 p2 p3 cp ap, .Assign [.Attribute (.Name "self" q0) f1 q1] (.Name x1 q2) q3, .Assign [.Attribute (.Name "self" r0) f2 r1] (.Name x2 r2) r3, .Assign [.Attribute (.Name "self" t0) "code" t1] (.Constant (.str T) j2 t2) t3] scope ["__class__"] [] []).val ∧ (DefL.mk at_ "__init__" qual params [supSt T j p0 p1 p2 p3 cp ap, .Assign [.Attribute (.Name "self" q0) f1 q1] (.Name x1 q2) q3, .Assign [.Attribute (.Name "self" r0) f2 r1] (.Name x2 r2) r3, .Assign [.Attribute (.Name "self" t0) "code" t1] (.Constant (.str T) j2 t2) t3] scope ["__class__"] [] []).ok K = true)
    (I : IniT P qual params [supSt T j p0 p1 p2 p3 cp ap, .Assign [.Attribute (.Name "self" q0) f1 q1] (.Name x1 q2) q3, .Assign [.Attribute (.Name "self" r0) f2 r1] (.Name x2 r2) r3, .Assign [.Attribute (.Name "self" t0) "code" t1] (.Constant (.str T) j2 t2) t3] scope ["self", x1, x2])
    (ht : ∀ (cc cda f L : Addr), SupEv T j p0 p1 p2 cp ap (envF (supNF qual params [supSt T j p0 p1 p2 p3 cp ap, .Assign [.Attribute (.Name "self" q0) f1 q1] (.Name x1 q2) q3, .Assign [.Attribute (.Name "self" r0) f2 r1] (.Name x2 r2) r3, .Assign [.Attribute (.Name "self" t0) "code" t1] (.Constant (.str T) j2 t2) t3] scope cc cda) f L))
    (hx : (x1 == ("__debug__" : Str)) = false) (hx2 : (x1 == ("__classdict__" : Str)) = false) (hy : (x2 == ("__debug__" : Str)) = false) (hy2 : (x2 == ("__classdict__" : Str)) = false)
    (hsu : mg "super" = none) (hm : mg x = some (.ref (B.cad c))) (k : SOk T) : ExcC P w K mg base B 1 x c 2 fun xs => [.str T, xs.tail.headD .non, xs.headD .non] := by
  obtain ⟨cc, cda, fd, S, oc, od, dV, kV, doc, pm, an, ct, osl, rfl, hD⟩ := DefL.sup e.1 e.2 rfl rfl hs I.self I.su I.cl I.sl I.top
  obtain ⟨i1, i2⟩ := Bool.and_eq_true_iff.mp hi
  have V := vecB_ok v
  refine exc_mk G V (of_decide_eq_true i1) (of_decide_eq_true i2) (ini2 (k := 0) S G V hsu I.sc (fun L => ht _ _ _ L) hx hx2 hy hy2 (xfsB_ok xf (by simp)).2 (xfsB_ok xf (by simp)).2 (xfsB_ok xf (by simp)).2) ?_ hm (by decide) (exc_f2 hfl k)
  rcases hD with ⟨_, rfl⟩ | ⟨e, _⟩
  · exact .all (I.bind kV doc pm an _ ct cc)
  · exact absurd rfl e
end
end Lp

set_option Elab.async false
set_option linter.all false
set_option maxRecDepth 100000
set_option maxHeartbeats 4000000
/-! Lp26: a, *b = a tuple. -/
namespace Lp
open PySem PySem.Spec PyProof.Rows L2 LamX NdefX
def gStar (K : PySem.W.Frag) (i j : Nat) : TG := fun v σ H Q => ∃ a x xs, v = .ref a ∧ SqT K H a (x :: xs) ∧ xs.length < 16384 ∧ ∀ p, H p = none → Q ((σ.set i (some x)).set j (some (.ref p))) (upd H p (.lst xs))
/-- the values drawn: the first one, a new list of the others -/
theorem star_items {prog : Program} {w : World} {A : Around} {E : Value → Shared → Prop} {s : Shared} {a : Addr} {y : Value} {ys : List Value} {Q : List Value → Shared → Prop} (hh : A.handled = none) (ht : IsTup s.heap a (y :: ys).toArray) (hz : ys.length < 16384)
    (h : ∀ (g : Heap) (tk : Nat), (∀ b o, s.heap.get? b = some o → g.get? b = some o) → Q [y, .ref g.objs.size] { s with heap := g.push { cls := .type "list", data := .seq ys.toArray }, toks := tk }) : wpAny (model prog w) A (unpackItems (.ref a) 2 (some 1)) Q E s := by
  have apart : a ≠ s.heap.objs.size := by
    obtain ⟨o, e, _⟩ := ht
    exact Nat.ne_of_lt (Heap.lt_size e)
  unfold unpackItems
  refine wpAny_bind ?_
  unfold notIterableAtAll
  refine wpAny_bind (wpAny_specialOf ht.typeIs slot_tuple_iter.lookup (wpAny_pure ?_))
  rw [if_neg (by decide)]
  refine wpAny_bind (wpAny_holding (iter_tuple ht (wpAny_bind (wpAny_holding ?_))))
  refine draw_tuple apart 1 0 _ _ ⟨_, Heap.get?_push_size _ rfl, rfl, rfl⟩ (ht.push _) (by simp) fun g1 it1 sb => ?_
  rw [Nat.zero_add] at it1
  have ht1 : IsTup g1 a (y :: ys).toArray := (ht.push _).extBut sb.extBut apart
  have lt1 : s.heap.objs.size < g1.objs.size := by
    obtain ⟨o, e, _⟩ := it1
    exact Heap.lt_size e
  have lt2 : a < g1.objs.size := by
    obtain ⟨o, e, _⟩ := ht1
    exact Heap.lt_size e
  show wpAny _ _ (if ([y] : List Value).length < 1 then _ else _) _ _ _
  rw [if_neg (show ¬ ([y] : List Value).length < 1 from Nat.lt_irrefl 1)]
  refine wpAny_bind (wpAny_holding (PySem.W.kun_collect (s := { s with heap := g1 }) (T := "tuple_iterator") (.inr (.inr (.inr rfl))) (Walks.tuple (A := A.in1) hh s.heap.objs.size a apart (y :: ys).toArray) (fun _ _ st => st.1.typeIs) (k := 1) (by simp) ⟨it1, ht1⟩ lt1 lt2 (fun g2 tk kp => ?_) (by rw [sizeLine_eq, List.size_toArray, List.length_cons]; omega)))
  have e1 : ((y :: ys).toArray.toList.drop 1) = ys := rfl
  rw [e1]
  show wpAny _ _ (if ys.length < 2 - 1 - 1 then _ else _) _ _ _
  rw [if_neg (by omega)]
  show wpAny _ _ (newList (ys.take (ys.length - 0)) >>= fun d => pure ([y] ++ [d] ++ ys.drop (ys.length - 0))) _ _ _
  rw [Nat.sub_zero, List.take_length, List.drop_length]
  refine wpAny_bind (wpAny_newList (wpAny_pure ?_) (by rw [sizeLine_eq]; omega))
  have keep : ∀ b o, s.heap.get? b = some o → g2.get? b = some o := fun b o e => by
    have ne : b ≠ s.heap.objs.size := Nat.ne_of_lt (Heap.lt_size e)
    exact kp b o ne (sb.extBut b o ne (Heap.get?_push_of_some _ e))
  exact h g2 tk keep
section
variable {X : Cx} {e1 e2 : Expr} {k i j : Nat} {pos p2 : Pos}
theorem pg_star (hc : X.calm = true) (h1 : PG X e1 (gName i)) (h2 : PG X e2 (gName j)) (hn : assignEach [e1, .Starred e2 p2] X.env = [(false, assign e1 X.env), (true, assign e2 X.env)]) : PG X (.Tuple [e1, .Starred e2 p2] k pos) (gStar X.K i j) := by
  refine ⟨fun pins s σ H v u Q I r hw => ?_⟩
  obtain ⟨a, x, xs, rfl, hq, hz, q⟩ := hw
  cases r
  obtain ⟨its, rv, ht, _⟩ := I.tuple hq
  cases rv with
  | cons r1 rv =>
    rename_i y ys
    have hl : ys.length < 16384 := by rw [← rv.length]; exact hz
    rw [assign_Tuple]
    refine wpAny_bind (wpAny_standAt ?_)
    unfold unpack
    rw [hn]
    refine wpAny_bind (wpAny_holding (star_items (I.ok.hd hc) ht hl fun g tk kp => ?_))
    have I1 : Inv X pins σ H { s with heap := g, toks := tk } := I.kept kp
    have I2 : Inv X pins σ (upd H g.objs.size (.lst xs)) { s with heap := g.push { cls := .type "list", data := .seq ys.toArray }, toks := tk } := I1.laid (t' := tk) (fun b o e => Heap.get?_push_of_some _ e) (Nat.le_refl _) ⟨by rw [sizeLine_eq]; omega, ys, 0, rv, Heap.get?_push_size _ rfl⟩
    have q2 := q g.objs.size (I1.hok.fresh (Nat.le_refl _))
    refine assignInOrder_cons (thn (h1.run pins _ σ _ x y _ I2 r1 (show gName i x σ _ fun σ' H' => σ' = σ.set i (some x) ∧ H' = upd H g.objs.size (.lst xs) from ⟨rfl, rfl⟩)) fun _ s3 ⟨σ3, H3, I3, e3, e4⟩ => ?_)
    subst e3 e4
    refine assignInOrder_cons (thn (h2.run pins _ _ _ (.ref g.objs.size) (.ref g.objs.size) _ I3 rfl (show gName j _ _ _ Q from q2)) fun _ s4 q4 => assignInOrder_nil q4)
end
/-- a, *b = e -/
def sStar (i j : Nat) (m : ME) : MS := fun s => (m s).bind fun v s1 => match v with
  | .tup (x :: xs) => if xs.length < 16384 then .ok .nx ⟨(s1.e.set i (some x)).set j (some (.lst xs)), s1.h⟩ else .bad
  | _ => .bad
section
variable {X : Cx} {B : Bs} {N : Ent} {WX : L2.WX} {tg e : Expr} {i j : Nat} {m : ME} {pos : Pos}
theorem sims_star (hK : X.K = B.K) (he : SimE X B N WX e m) (hg : PG X tg (gStar X.K i j)) (hs : swapsWithSole [tg] e pos.line X.env = pure false) (hw : swappedStores [tg] e X.env = pure none) (h1 : (assignEach [tg] X.env).map (·.2) = [assign tg X.env]) :
    SimS X B N WX (.Assign [tg] e pos) (sStar i j m) :=
  (ps_asg he hg hs hw h1).imp fun D σ H ⟨W, s, r, h⟩ => ⟨W, s, r, h.bindE.mono fun v W1 s1 H1 r1 _ q v' rv => by
    split at q
    · rename_i x xs
      split at q
      · rename_i hz
        have rt : Rep B W1 (.tup (x :: xs)) v' := rv.rep rfl
        obtain ⟨a, us, rfl, h1, ru⟩ := tup_ok hK r1.hr rt
        cases ru with
        | cons rx rxs =>
          rename_i x' xs'
          have hz' : xs'.length < 16384 := by rw [← rxs.length]; exact hz
          refine ⟨a, x', xs', rfl, h1, hz', fun p hp => ?_⟩
          have hsz : xs'.length ≤ sizeLine := by rw [sizeLine_eq]; omega
          have r2 := rel_new (o := .lst xs') r1 hp hsz
          have le := le_new (o := HO.lst xs') (r1.hr.fnone hp)
          exact q _ _ _ (rel_set (rel_set r2 (rx.mono le)) (rep_lst_new (r1.hr.fnone hp) rxs))
      · exact q.elim
    · exact q.elim⟩
end
end Lp

set_option Elab.async false
set_option linter.all false
set_option maxRecDepth 100000
set_option maxHeartbeats 4000000
/-! Lq7: raise, _law_try(lambda: e), a, *b = e. -/
namespace Lp
open PySem PySem.Spec PyProof.Rows L2
@[irreducible] noncomputable def xETry (okc : Nat → Bool) (ms : MS) (ml : ME) : ME := eTry okc ms ml
@[irreducible] def xSRaise (c n : Nat) (fv : List PV → List PV) (ma : MA) : MS := sRaise c n fv ma
@[irreducible] def xSStar (i j : Nat) (m : ME) : MS := sStar i j m
section
variable {P : PV → S → Prop} {PF : Fl → S → Prop} {E : PV → S → Prop} {s : S} {m : ME} {ma : MA} {i j c n : Nat} {fv : List PV → List PV} {okc : Nat → Bool} {ms : MS}
theorem p_try (h : (m s).post (fun v s1 => isOwn v = false ∧ P (.tup [.str "", v]) ⟨s.e, s1.h⟩) (fun x s1 => ∃ c fs v s2, x = .ins c fs ∧ okc c = true ∧ ms ⟨[none, some (.exn c fs)], s1.h⟩ = .ok (.rt v) s2 ∧ noX v = true ∧ s2.h = s1.h ∧ P v ⟨s.e, s1.h⟩)) : (xETry okc ms m s).post P E := by
  unfold xETry eTry
  cases e : m s with
  | ok v s1 =>
    rw [e] at h
    obtain ⟨h1, h2⟩ := h
    simp only [h1]
    exact h2
  | exc x s1 =>
    rw [e] at h
    obtain ⟨c, fs, v, s2, rfl, h1, h2, h3, h4, h5⟩ := h
    simp only [h1, if_pos, h2, h3, h4, and_self]
    exact h5
  | bad => rw [e] at h; exact h.elim
theorem p_raise (h : (ma s).post (fun vs s1 => (vs.length = n ∧ allSh vs = true) ∧ E (.ins c (fv vs)) s1) E) : (xSRaise c n fv ma s).post PF E := by
  unfold xSRaise sRaise
  exact p_bind (p_mono h (fun vs s1 ⟨h1, q⟩ => by simp only [if_pos h1]; exact q) fun _ _ z => z)
theorem p_starA (h : (m s).post (fun v s1 => ∃ x xs, v = .tup (x :: xs) ∧ xs.length < 16384 ∧ PF .nx ⟨(s1.e.set i (some x)).set j (some (.lst xs)), s1.h⟩) E) : (xSStar i j m s).post PF E := by
  unfold xSStar sStar
  exact p_bind (p_mono h (fun v s1 ⟨x, xs, e, h1, q⟩ => by subst e; simp only [if_pos h1]; exact q) fun _ _ z => z)
end
end Lp

set_option Elab.async false
set_option linter.all false
set_option maxRecDepth 100000
set_option maxHeartbeats 4000000
namespace LW
open PySem PySem.Spec PyProof.Rows L2 Lp LamX NdefX
abbrev Rw : PySem.W.OpenRow := PySem.W.OpenLaw.row PySem.Challenge.rw_latedrops_k07_deeds_judged
abbrev Pg : Program := PySem.Challenge.pw_latedrops_k07_deeds_judged
def top (i : Nat) : Stmt := PySem.Challenge.pw_latedrops_k07_deeds_judged.main.body.getD i (.Pass ⟨0, 0, 0, 0⟩)
structure Gm (mg : Str → Option Value) : Prop where
  n_all : mg "all" = none
  n_bool : mg "bool" = none
  n_int : mg "int" = none
  n_isinstance : mg "isinstance" = none
  n_len : mg "len" = none
  n_list : mg "list" = none
  n_range : mg "range" = none
  n_str : mg "str" = none
  n_tuple : mg "tuple" = none
  n_zip : mg "zip" = none
  c_GREATEST_ROW : ∃ u, mg "GREATEST_ROW" = some u ∧ L2.RelV (.int 39) u
  c_MOST_LISTED : ∃ u, mg "MOST_LISTED" = some u ∧ L2.RelV (.int 40) u
  c_MOST_NUMBER : ∃ u, mg "MOST_NUMBER" = some u ∧ L2.RelV (.int 1000000000000000000) u
  c_MOST_NUMBERS : ∃ u, mg "MOST_NUMBERS" = some u ∧ L2.RelV (.int 40) u
/-! exceptions -/
def xfl : FL := fun c => match c with
  | 0 => ["code"]
  | _ => []
def fv_InvalidDeed : List PV → List PV := fun xs => [.str "InvalidDeed"]
def okc : Nat → Bool := fun c => decide (c < 1)

/-! is_number -/
abbrev st_is_number : Stmt := top 8
def nm_is_number : List Str := ["value", "least", "most"]
theorem sc_is_number : FnScope nm_is_number ["value", "least", "most"] (defScope st_is_number) := ⟨rfl, rfl, rfl, by decide +kernel, rfl, by decide +kernel, by decide +kernel⟩
noncomputable def mb_is_number : MS := (sRet (andV (eCB bIsi (aCons (eVar 0) (aCons (eC (.ty "int")) aNil))) (andV (notV (eCB bIsi (aCons (eVar 0) (aCons (eC (.ty "bool")) aNil)))) (eChain fLe fLe (eVar 1) (eVar 0) (eVar 2)))))
noncomputable def xb_is_number : MS := (xSRet (xAndV (xECB bIsi (xACons (xEVar 0) (xACons (xEC (.ty "int")) xANil))) (xAndV (xNotV (xECB bIsi (xACons (xEVar 0) (xACons (xEC (.ty "bool")) xANil)))) (xEChain fLe fLe (xEVar 1) (xEVar 0) (xEVar 2)))))
theorem xe_is_number : mb_is_number = xb_is_number := by kernel_rfl
@[irreducible] noncomputable def m_is_number : MF := mkF 0 mb_is_number
theorem b_is_number {P : Program} {w : World} {K : PySem.W.Frag} {mg : Str → Option Value} {base : Heap} {B : Bs} {f : Addr} {cdv : Value} {A : Around} {outer : List Env} {s : Shared} {H : Hp} {E : XK} {k : Nat} {N : Ent} (hK : K = B.K) (g : Gm mg)
    (D : Bdy (cxOf (L2.CX P w) P w K mg base nm_is_number "is_number" (defScope st_is_number) f cdv A outer s H E) E k)   :
    SimSs (cxOf (L2.CX P w) P w K mg base nm_is_number "is_number" (defScope st_is_number) f cdv A outer s H E) B N (fun c d _ H => E c d H) (defBody st_is_number) (mb_is_number) :=
  (simss_one (sims_ret (sim_and (sim_bi (bi_isi hK) rfl g.n_isinstance (simA_cons (sim_var (i := 0) rfl (.inl rfl) rfl rfl) (simA_cons (sim_ty rfl g.n_int PyProof.Rows.boot_int (by decide) rfl) simA_nil rfl) rfl) (by decide) rfl rfl rfl) (sim_and (sim_not (sim_bi (bi_isi hK) rfl g.n_isinstance (simA_cons (sim_var (i := 0) rfl (.inl rfl) rfl rfl) (simA_cons (sim_ty rfl g.n_bool PyProof.Rows.boot_bool (by decide) rfl) simA_nil rfl) rfl) (by decide) rfl rfl rfl)) (sim_one (sim_ch (co_le) (co_le) (sim_var (i := 1) rfl (.inl rfl) rfl rfl) (sim_var (i := 0) rfl (.inl rfl) rfl rfl) (sim_var (i := 2) rfl (.inl rfl) rfl rfl) rfl))))))

/-! is_key -/
abbrev st_is_key : Stmt := top 9
def nm_is_key : List Str := ["value", "number"]
theorem sc_is_key : FnScope nm_is_key ["value"] (defScope st_is_key) := ⟨rfl, rfl, rfl, by decide +kernel, rfl, by decide +kernel, by decide +kernel⟩
noncomputable def mb_is_key : MS := (sSeq (sIf (orM (notM (tM (eCB bIsi (aCons (eVar 0) (aCons (eC (.ty "tuple")) aNil))))) (notM (bM (eChain fLe fLe (eC (.int 1)) (eCB bLen (aCons (eVar 0) aNil)) (eC (.int 40)))))) (sRet (eC (.bl false))) sNil)
  (sRet (eCB bAll (aCons (shN (eCompN (sAny (eVar 0)) (.n 1) testY (eCall 3 m_is_number (aCons (eVar 1) (aCons (eBin fSub (eC (.int 0)) (eC (.int 1000000000000000000))) (aCons (eC (.int 1000000000000000000)) aNil)))) [1])) aNil))))
noncomputable def xb_is_key : MS := (xSSeq (xSIf (xOrM (xNotM (xTM (xECB bIsi (xACons (xEVar 0) (xACons (xEC (.ty "tuple")) xANil))))) (xNotM (xBM (xEChain fLe fLe (xEC (.int 1)) (xECB bLen (xACons (xEVar 0) xANil)) (xEC (.int 40)))))) (xSRet (xEC (.bl false))) xSNil)
  (xSRet (xECB bAll (xACons (xShN (xECompN (xSAny (xEVar 0)) (.n 1) testY (xECall 3 m_is_number (xACons (xEVar 1) (xACons (xEBin fSub (xEC (.int 0)) (xEC (.int 1000000000000000000))) (xACons (xEC (.int 1000000000000000000)) xANil)))) [1])) xANil))))
theorem xe_is_key : mb_is_key = xb_is_key := by kernel_rfl
@[irreducible] noncomputable def m_is_key : MF := mkF 1 mb_is_key
theorem b_is_key {P : Program} {w : World} {K : PySem.W.Frag} {mg : Str → Option Value} {base : Heap} {B : Bs} {f : Addr} {cdv : Value} {A : Around} {outer : List Env} {s : Shared} {H : Hp} {E : XK} {k : Nat} {N : Ent} (hK : K = B.K) (g : Gm mg)
    (D : Bdy (cxOf (L2.CX P w) P w K mg base nm_is_key "is_key" (defScope st_is_key) f cdv A outer s H E) E k)  (F_is_number : Fn P w K mg base B k "is_number" 3 m_is_number) :
    SimSs (cxOf (L2.CX P w) P w K mg base nm_is_key "is_key" (defScope st_is_key) f cdv A outer s H E) B N (fun c d _ H => E c d H) (defBody st_is_key) (mb_is_key) :=
  (simss_cons (sims_if (sim_tbool (simw_or (sim_tnot (sim_truth hK (sim_bi (bi_isi hK) rfl g.n_isinstance (simA_cons (sim_var (i := 0) rfl (.inl rfl) rfl rfl) (simA_cons (sim_ty rfl g.n_tuple PyProof.Rows.boot_tuple (by decide) rfl) simA_nil rfl) rfl) (by decide) rfl rfl rfl) (fun _ => rfl))) (simw_or1 (sim_tnot (sim_tch (co_le) (co_le) sim_int (sim_bi (bi_len hK) rfl g.n_len (simA_cons (sim_var (i := 0) rfl (.inl rfl) rfl rfl) simA_nil rfl) (by decide) rfl rfl rfl) (sim_gl rfl g.c_MOST_NUMBERS fun _ => .int _) rfl))))) (simss_one (sims_ret sim_bl)) simss_nil)
  (simss_one (sims_ret (sim_bi (bi_all hK rfl) rfl g.n_all (simA_cons (SimN.sh (sim_lc (own := [("number", 1)]) hK rfl sc_is_key.nd (sim_any hK (sim_var (i := 0) rfl (.inl rfl) rfl rfl)) (blk_of (by kernel_rfl)) (by decide) (fun _ _ _ _ _ => (pgT_n (pg_name sc_is_key.nd rfl (.inl rfl) (.inr rfl)))) (fun _ _ _ _ _ => simTs_nil) (fun _ _ _ _ _ => (sim_call F_is_number (takesWF _) D.rm rfl (simA_cons (sim_var (i := 1) rfl (.inl rfl) rfl rfl) (simA_cons (sim_sub sim_int (sim_gl rfl g.c_MOST_NUMBER fun _ => .int _)) (simA_cons (sim_gl rfl g.c_MOST_NUMBER fun _ => .int _) simA_nil rfl) rfl) rfl) rfl rfl rfl)) (fun _ => rfl))) simA_nil rfl) (by decide) rfl rfl rfl))))

/-! is_row -/
abbrev st_is_row : Stmt := top 13
def nm_is_row : List Str := ["value"]
theorem sc_is_row : FnScope nm_is_row ["value"] (defScope st_is_row) := ⟨rfl, rfl, rfl, by decide +kernel, rfl, by decide +kernel, by decide +kernel⟩
noncomputable def mb_is_row : MS := (sRet (eCall 3 m_is_number (aCons (eVar 0) (aCons (eC (.int 0)) (aCons (eC (.int 39)) aNil)))))
noncomputable def xb_is_row : MS := (xSRet (xECall 3 m_is_number (xACons (xEVar 0) (xACons (xEC (.int 0)) (xACons (xEC (.int 39)) xANil)))))
theorem xe_is_row : mb_is_row = xb_is_row := by kernel_rfl
@[irreducible] noncomputable def m_is_row : MF := mkF 0 mb_is_row
theorem b_is_row {P : Program} {w : World} {K : PySem.W.Frag} {mg : Str → Option Value} {base : Heap} {B : Bs} {f : Addr} {cdv : Value} {A : Around} {outer : List Env} {s : Shared} {H : Hp} {E : XK} {k : Nat} {N : Ent} (hK : K = B.K) (g : Gm mg)
    (D : Bdy (cxOf (L2.CX P w) P w K mg base nm_is_row "is_row" (defScope st_is_row) f cdv A outer s H E) E k)  (F_is_number : Fn P w K mg base B k "is_number" 3 m_is_number) :
    SimSs (cxOf (L2.CX P w) P w K mg base nm_is_row "is_row" (defScope st_is_row) f cdv A outer s H E) B N (fun c d _ H => E c d H) (defBody st_is_row) (mb_is_row) :=
  (simss_one (sims_ret (sim_call F_is_number D.tk D.rm rfl (simA_cons (sim_var (i := 0) rfl (.inl rfl) rfl rfl) (simA_cons sim_int (simA_cons (sim_gl rfl g.c_GREATEST_ROW fun _ => .int _) simA_nil rfl) rfl) rfl) rfl rfl rfl)))

/-! is_side -/
abbrev st_is_side : Stmt := top 14
def nm_is_side : List Str := ["value"]
theorem sc_is_side : FnScope nm_is_side ["value"] (defScope st_is_side) := ⟨rfl, rfl, rfl, by decide +kernel, rfl, by decide +kernel, by decide +kernel⟩
noncomputable def mb_is_side : MS := (sRet (orV (eBin fIsN (eVar 0) (eC .non)) (eCall 1 m_is_row (aCons (eVar 0) aNil))))
noncomputable def xb_is_side : MS := (xSRet (xOrV (xEBin fIsN (xEVar 0) (xEC .non)) (xECall 1 m_is_row (xACons (xEVar 0) xANil))))
theorem xe_is_side : mb_is_side = xb_is_side := by kernel_rfl
@[irreducible] noncomputable def m_is_side : MF := mkF 0 mb_is_side
theorem b_is_side {P : Program} {w : World} {K : PySem.W.Frag} {mg : Str → Option Value} {base : Heap} {B : Bs} {f : Addr} {cdv : Value} {A : Around} {outer : List Env} {s : Shared} {H : Hp} {E : XK} {k : Nat} {N : Ent} (hK : K = B.K) (g : Gm mg)
    (D : Bdy (cxOf (L2.CX P w) P w K mg base nm_is_side "is_side" (defScope st_is_side) f cdv A outer s H E) E k)  (F_is_row : Fn P w K mg base B k "is_row" 1 m_is_row) :
    SimSs (cxOf (L2.CX P w) P w K mg base nm_is_side "is_side" (defScope st_is_side) f cdv A outer s H E) B N (fun c d _ H => E c d H) (defBody st_is_side) (mb_is_side) :=
  (simss_one (sims_ret (sim_or (sim_cm (co_isN) (sim_var (i := 0) rfl (.inl rfl) rfl rfl) sim_non rfl) (sim_one (sim_call F_is_row D.tk D.rm rfl (simA_cons (sim_var (i := 0) rfl (.inl rfl) rfl rfl) simA_nil rfl) rfl rfl rfl)))))

/-! is_deed -/
abbrev st_is_deed : Stmt := top 15
def nm_is_deed : List Str := ["value", "word", "parts", "some", "key"]
theorem sc_is_deed : FnScope nm_is_deed ["value"] (defScope st_is_deed) := ⟨rfl, rfl, rfl, by decide +kernel, rfl, by decide +kernel, by decide +kernel⟩
noncomputable def mb_is_deed : MS := (sSeq (sIf (orM (notM (tM (eCB bIsi (aCons (eVar 0) (aCons (eC (.ty "tuple")) aNil))))) (orM (bM (eBin fEq (eVar 0) (eTup aNil))) (notM (tM (eCB bIsi (aCons (eBin fIx (eVar 0) (eC (.int 0))) (aCons (eC (.ty "str")) aNil))))))) (sRet (eC (.bl false))) sNil)
  (sSeq (sStar 1 2 (eVar 0))
  (sSeq (sIf (bM (eBin fIn (eVar 1) (eTup (aCons (eC (.str "strike")) (aCons (eC (.str "back")) aNil))))) (sRet (andV (eBin fEq (eCB bLen (aCons (eVar 2) aNil)) (eC (.int 1))) (eCall 1 m_is_row (aCons (eBin fIx (eVar 2) (eC (.int 0))) aNil)))) sNil)
  (sSeq (sIf (bM (eBin fEq (eVar 1) (eC (.str "drop")))) (sRet (andV (eBin fEq (eCB bLen (aCons (eVar 2) aNil)) (eC (.int 4))) (andV (eCall 1 m_is_row (aCons (eBin fIx (eVar 2) (eC (.int 0))) aNil)) (andV (eCall 1 m_is_side (aCons (eBin fIx (eVar 2) (eC (.int 1))) aNil)) (andV (eCall 1 m_is_side (aCons (eBin fIx (eVar 2) (eC (.int 2))) aNil)) (eCall 1 m_is_key (aCons (eBin fIx (eVar 2) (eC (.int 3))) aNil))))))) sNil)
  (sSeq (sIf (orM (bM (eBin fNe (eVar 1) (eC (.str "number")))) (orM (bM (eBin fNe (eCB bLen (aCons (eVar 2) aNil)) (eC (.int 3)))) (orM (notM (tM (eCall 1 m_is_side (aCons (eBin fIx (eVar 2) (eC (.int 0))) aNil)))) (notM (tM (eCall 1 m_is_side (aCons (eBin fIx (eVar 2) (eC (.int 1))) aNil))))))) (sRet (eC (.bl false))) sNil)
  (sSeq (sAsg 3 (eBin fIx (eVar 2) (eC (.int 2))))
  (sRet (andV (eCB bIsi (aCons (eVar 3) (aCons (eC (.ty "tuple")) aNil))) (andV (eBin fLe (eCB bLen (aCons (eVar 3) aNil)) (eC (.int 40))) (eCB bAll (aCons (shN (eCompN (sAny (eVar 3)) (.n 4) testY (eCall 1 m_is_key (aCons (eVar 4) aNil)) [4])) aNil)))))))))))
noncomputable def xb_is_deed : MS := (xSSeq (xSIf (xOrM (xNotM (xTM (xECB bIsi (xACons (xEVar 0) (xACons (xEC (.ty "tuple")) xANil))))) (xOrM (xBM (xEBin fEq (xEVar 0) (xETup xANil))) (xNotM (xTM (xECB bIsi (xACons (xEBin fIx (xEVar 0) (xEC (.int 0))) (xACons (xEC (.ty "str")) xANil))))))) (xSRet (xEC (.bl false))) xSNil)
  (xSSeq (xSStar 1 2 (xEVar 0))
  (xSSeq (xSIf (xBM (xEBin fIn (xEVar 1) (xETup (xACons (xEC (.str "strike")) (xACons (xEC (.str "back")) xANil))))) (xSRet (xAndV (xEBin fEq (xECB bLen (xACons (xEVar 2) xANil)) (xEC (.int 1))) (xECall 1 m_is_row (xACons (xEBin fIx (xEVar 2) (xEC (.int 0))) xANil)))) xSNil)
  (xSSeq (xSIf (xBM (xEBin fEq (xEVar 1) (xEC (.str "drop")))) (xSRet (xAndV (xEBin fEq (xECB bLen (xACons (xEVar 2) xANil)) (xEC (.int 4))) (xAndV (xECall 1 m_is_row (xACons (xEBin fIx (xEVar 2) (xEC (.int 0))) xANil)) (xAndV (xECall 1 m_is_side (xACons (xEBin fIx (xEVar 2) (xEC (.int 1))) xANil)) (xAndV (xECall 1 m_is_side (xACons (xEBin fIx (xEVar 2) (xEC (.int 2))) xANil)) (xECall 1 m_is_key (xACons (xEBin fIx (xEVar 2) (xEC (.int 3))) xANil))))))) xSNil)
  (xSSeq (xSIf (xOrM (xBM (xEBin fNe (xEVar 1) (xEC (.str "number")))) (xOrM (xBM (xEBin fNe (xECB bLen (xACons (xEVar 2) xANil)) (xEC (.int 3)))) (xOrM (xNotM (xTM (xECall 1 m_is_side (xACons (xEBin fIx (xEVar 2) (xEC (.int 0))) xANil)))) (xNotM (xTM (xECall 1 m_is_side (xACons (xEBin fIx (xEVar 2) (xEC (.int 1))) xANil))))))) (xSRet (xEC (.bl false))) xSNil)
  (xSSeq (xSAsg 3 (xEBin fIx (xEVar 2) (xEC (.int 2))))
  (xSRet (xAndV (xECB bIsi (xACons (xEVar 3) (xACons (xEC (.ty "tuple")) xANil))) (xAndV (xEBin fLe (xECB bLen (xACons (xEVar 3) xANil)) (xEC (.int 40))) (xECB bAll (xACons (xShN (xECompN (xSAny (xEVar 3)) (.n 4) testY (xECall 1 m_is_key (xACons (xEVar 4) xANil)) [4])) xANil)))))))))))
theorem xe_is_deed : mb_is_deed = xb_is_deed := by kernel_rfl
@[irreducible] noncomputable def m_is_deed : MF := mkF 4 mb_is_deed
theorem b_is_deed {P : Program} {w : World} {K : PySem.W.Frag} {mg : Str → Option Value} {base : Heap} {B : Bs} {f : Addr} {cdv : Value} {A : Around} {outer : List Env} {s : Shared} {H : Hp} {E : XK} {k : Nat} {N : Ent} (hK : K = B.K) (g : Gm mg)
    (D : Bdy (cxOf (L2.CX P w) P w K mg base nm_is_deed "is_deed" (defScope st_is_deed) f cdv A outer s H E) E k)  (F_is_row : Fn P w K mg base B k "is_row" 1 m_is_row) (F_is_side : Fn P w K mg base B k "is_side" 1 m_is_side) (F_is_key : Fn P w K mg base B k "is_key" 1 m_is_key) :
    SimSs (cxOf (L2.CX P w) P w K mg base nm_is_deed "is_deed" (defScope st_is_deed) f cdv A outer s H E) B N (fun c d _ H => E c d H) (defBody st_is_deed) (mb_is_deed) :=
  (simss_cons (sims_if (sim_tbool (simw_or (sim_tnot (sim_truth hK (sim_bi (bi_isi hK) rfl g.n_isinstance (simA_cons (sim_var (i := 0) rfl (.inl rfl) rfl rfl) (simA_cons (sim_ty rfl g.n_tuple PyProof.Rows.boot_tuple (by decide) rfl) simA_nil rfl) rfl) (by decide) rfl rfl rfl) (fun _ => rfl))) (simw_or (sim_tcm (co_eq hK D.rm.u9) (sim_var (i := 0) rfl (.inl rfl) rfl rfl) (sim_tup simA_nil) rfl) (simw_or1 (sim_tnot (sim_truth hK (sim_bi (bi_isi hK) rfl g.n_isinstance (simA_cons (sim_ix hK (sim_var (i := 0) rfl (.inl rfl) rfl rfl) sim_int (fun _ _ => rfl)) (simA_cons (sim_ty rfl g.n_str PyProof.Rows.boot_str (by decide) rfl) simA_nil rfl) rfl) (by decide) rfl rfl rfl) (fun _ => rfl))))))) (simss_one (sims_ret sim_bl)) simss_nil)
  (simss_cons (sims_star hK (sim_var (i := 0) rfl (.inl rfl) rfl rfl) (pg_star rfl (pg_name sc_is_deed.nd rfl (.inl rfl) (.inl rfl)) (pg_name sc_is_deed.nd rfl (.inl rfl) (.inl rfl)) rfl) rfl rfl rfl)
  (simss_cons (sims_if (sim_tcm (co_in hK D.rm.u9) (sim_var (i := 1) rfl (.inl rfl) rfl rfl) (sim_tup (simA_cons (sim_str (sok_of (by decide +kernel))) (simA_cons (sim_str (sok_of (by decide +kernel))) simA_nil rfl) rfl)) rfl) (simss_one (sims_ret (sim_and (sim_cm (co_eq hK D.rm.u9) (sim_bi (bi_len hK) rfl g.n_len (simA_cons (sim_var (i := 2) rfl (.inl rfl) rfl rfl) simA_nil rfl) (by decide) rfl rfl rfl) sim_int rfl) (sim_one (sim_call F_is_row D.tk D.rm rfl (simA_cons (sim_ix hK (sim_var (i := 2) rfl (.inl rfl) rfl rfl) sim_int (fun _ _ => rfl)) simA_nil rfl) rfl rfl rfl))))) simss_nil)
  (simss_cons (sims_if (sim_tcm (co_eq hK D.rm.u9) (sim_var (i := 1) rfl (.inl rfl) rfl rfl) (sim_str (sok_of (by decide +kernel))) rfl) (simss_one (sims_ret (sim_and (sim_cm (co_eq hK D.rm.u9) (sim_bi (bi_len hK) rfl g.n_len (simA_cons (sim_var (i := 2) rfl (.inl rfl) rfl rfl) simA_nil rfl) (by decide) rfl rfl rfl) sim_int rfl) (sim_and (sim_call F_is_row D.tk D.rm rfl (simA_cons (sim_ix hK (sim_var (i := 2) rfl (.inl rfl) rfl rfl) sim_int (fun _ _ => rfl)) simA_nil rfl) rfl rfl rfl) (sim_and (sim_call F_is_side D.tk D.rm rfl (simA_cons (sim_ix hK (sim_var (i := 2) rfl (.inl rfl) rfl rfl) sim_int (fun _ _ => rfl)) simA_nil rfl) rfl rfl rfl) (sim_and (sim_call F_is_side D.tk D.rm rfl (simA_cons (sim_ix hK (sim_var (i := 2) rfl (.inl rfl) rfl rfl) sim_int (fun _ _ => rfl)) simA_nil rfl) rfl rfl rfl) (sim_one (sim_call F_is_key D.tk D.rm rfl (simA_cons (sim_ix hK (sim_var (i := 2) rfl (.inl rfl) rfl rfl) sim_int (fun _ _ => rfl)) simA_nil rfl) rfl rfl rfl)))))))) simss_nil)
  (simss_cons (sims_if (sim_tbool (simw_or (sim_tcm (co_ne hK D.rm.u9) (sim_var (i := 1) rfl (.inl rfl) rfl rfl) (sim_str (sok_of (by decide +kernel))) rfl) (simw_or (sim_tcm (co_ne hK D.rm.u9) (sim_bi (bi_len hK) rfl g.n_len (simA_cons (sim_var (i := 2) rfl (.inl rfl) rfl rfl) simA_nil rfl) (by decide) rfl rfl rfl) sim_int rfl) (simw_or (sim_tnot (sim_truth hK (sim_call F_is_side D.tk D.rm rfl (simA_cons (sim_ix hK (sim_var (i := 2) rfl (.inl rfl) rfl rfl) sim_int (fun _ _ => rfl)) simA_nil rfl) rfl rfl rfl) (fun _ => rfl))) (simw_or1 (sim_tnot (sim_truth hK (sim_call F_is_side D.tk D.rm rfl (simA_cons (sim_ix hK (sim_var (i := 2) rfl (.inl rfl) rfl rfl) sim_int (fun _ _ => rfl)) simA_nil rfl) rfl rfl rfl) (fun _ => rfl)))))))) (simss_one (sims_ret sim_bl)) simss_nil)
  (simss_cons (sims_asg sc_is_deed.nd rfl (.inl rfl) (sim_ix hK (sim_var (i := 2) rfl (.inl rfl) rfl rfl) sim_int (fun _ _ => rfl)) rfl (.inl rfl))
  (simss_one (sims_ret (sim_and (sim_bi (bi_isi hK) rfl g.n_isinstance (simA_cons (sim_var (i := 3) rfl (.inl rfl) rfl rfl) (simA_cons (sim_ty rfl g.n_tuple PyProof.Rows.boot_tuple (by decide) rfl) simA_nil rfl) rfl) (by decide) rfl rfl rfl) (sim_and (sim_cm (co_le) (sim_bi (bi_len hK) rfl g.n_len (simA_cons (sim_var (i := 3) rfl (.inl rfl) rfl rfl) simA_nil rfl) (by decide) rfl rfl rfl) (sim_gl rfl g.c_MOST_LISTED fun _ => .int _) rfl) (sim_one (sim_bi (bi_all hK rfl) rfl g.n_all (simA_cons (SimN.sh (sim_lc (own := [("key", 4)]) hK rfl sc_is_deed.nd (sim_any hK (sim_var (i := 3) rfl (.inl rfl) rfl rfl)) (blk_of (by kernel_rfl)) (by decide) (fun _ _ _ _ _ => (pgT_n (pg_name sc_is_deed.nd rfl (.inl rfl) (.inr rfl)))) (fun _ _ _ _ _ => simTs_nil) (fun _ _ _ _ _ => (sim_call F_is_key (takesWF _) D.rm rfl (simA_cons (sim_var (i := 4) rfl (.inl rfl) rfl rfl) simA_nil rfl) rfl rfl rfl)) (fun _ => rfl))) simA_nil rfl) (by decide) rfl rfl rfl))))))))))))

/-! key_text -/
abbrev st_key_text : Stmt := top 16
def nm_key_text : List Str := ["key", "number"]
theorem sc_key_text : FnScope nm_key_text ["key"] (defScope st_key_text) := ⟨rfl, rfl, rfl, by decide +kernel, rfl, by decide +kernel, by decide +kernel⟩
noncomputable def mb_key_text : MS := (sRet (eMS mJoin (eC (.str ".")) (aCons (shN (eCompN (sAny (eVar 0)) (.n 1) testY eBad [1])) aNil)))
noncomputable def xb_key_text : MS := (xSRet (xEMS mJoin (xEC (.str ".")) (xACons (xShN (xECompN (xSAny (xEVar 0)) (.n 1) testY eBad [1])) xANil)))
theorem xe_key_text : mb_key_text = xb_key_text := by kernel_rfl
@[irreducible] noncomputable def m_key_text : MF := mkF 1 mb_key_text
theorem b_key_text {P : Program} {w : World} {K : PySem.W.Frag} {mg : Str → Option Value} {base : Heap} {B : Bs} {f : Addr} {cdv : Value} {A : Around} {outer : List Env} {s : Shared} {H : Hp} {E : XK} {k : Nat} {N : Ent} (hK : K = B.K) (g : Gm mg)
    (D : Bdy (cxOf (L2.CX P w) P w K mg base nm_key_text "key_text" (defScope st_key_text) f cdv A outer s H E) E k)   :
    SimSs (cxOf (L2.CX P w) P w K mg base nm_key_text "key_text" (defScope st_key_text) f cdv A outer s H E) B N (fun c d _ H => E c d H) (defBody st_key_text) (mb_key_text) :=
  (simss_one (sims_ret (sim_ms PySem.F.slot_str_join PySem.F.type_str_join mt_join (sem_join hK) (sim_str (sok_of (by decide +kernel))) (simA_cons (SimN.sh (sim_lc (own := [("number", 1)]) hK rfl sc_key_text.nd (sim_any hK (sim_var (i := 0) rfl (.inl rfl) rfl rfl)) (blk_of (by kernel_rfl)) (by decide) (fun _ _ _ _ _ => (pgT_n (pg_name sc_key_text.nd rfl (.inl rfl) (.inr rfl)))) (fun _ _ _ _ _ => simTs_nil) (fun _ _ _ _ _ => sim_bad) (fun _ => rfl))) simA_nil rfl) rfl rfl rfl rfl rfl)))

/-! side_text -/
abbrev st_side_text : Stmt := top 17
def nm_side_text : List Str := ["side"]
theorem sc_side_text : FnScope nm_side_text ["side"] (defScope st_side_text) := ⟨rfl, rfl, rfl, by decide +kernel, rfl, by decide +kernel, by decide +kernel⟩
noncomputable def mb_side_text : MS := (sRet (ifM (bM (eBin fIsN (eVar 0) (eC .non))) (eC (.str "-")) eBad))
noncomputable def xb_side_text : MS := (xSRet (xIfM (xBM (xEBin fIsN (xEVar 0) (xEC .non))) (xEC (.str "-")) eBad))
theorem xe_side_text : mb_side_text = xb_side_text := by kernel_rfl
@[irreducible] noncomputable def m_side_text : MF := mkF 0 mb_side_text
theorem b_side_text {P : Program} {w : World} {K : PySem.W.Frag} {mg : Str → Option Value} {base : Heap} {B : Bs} {f : Addr} {cdv : Value} {A : Around} {outer : List Env} {s : Shared} {H : Hp} {E : XK} {k : Nat} {N : Ent} (hK : K = B.K) (g : Gm mg)
    (D : Bdy (cxOf (L2.CX P w) P w K mg base nm_side_text "side_text" (defScope st_side_text) f cdv A outer s H E) E k)   :
    SimSs (cxOf (L2.CX P w) P w K mg base nm_side_text "side_text" (defScope st_side_text) f cdv A outer s H E) B N (fun c d _ H => E c d H) (defBody st_side_text) (mb_side_text) :=
  (simss_one (sims_ret (sim_ifexp (sim_tcm (co_isN) (sim_var (i := 0) rfl (.inl rfl) rfl rfl) sim_non rfl) (sim_str (sok_of (by decide +kernel))) sim_bad)))

/-! deed_text -/
abbrev st_deed_text : Stmt := top 18
def nm_deed_text : List Str := ["deed", "word", "parts", "key"]
theorem sc_deed_text : FnScope nm_deed_text ["deed"] (defScope st_deed_text) := ⟨rfl, rfl, rfl, by decide +kernel, rfl, by decide +kernel, by decide +kernel⟩
noncomputable def mb_deed_text : MS := (sSeq (sIf (notM (tM (eCall 1 m_is_deed (aCons (eVar 0) aNil)))) (sRaise 0 0 fv_InvalidDeed aNil) sNil)
  (sSeq (sStar 1 2 (eVar 0))
  (sSeq (sIf (bM (eBin fEq (eVar 1) (eC (.str "drop")))) (sRet (eMS mJoin (eC (.str " ")) (aCons (eLst (aCons (eVar 1) (aCons eBad (aCons (eCall 1 m_side_text (aCons (eBin fIx (eVar 2) (eC (.int 1))) aNil)) (aCons (eCall 1 m_side_text (aCons (eBin fIx (eVar 2) (eC (.int 2))) aNil)) (aCons (eCall 1 m_key_text (aCons (eBin fIx (eVar 2) (eC (.int 3))) aNil)) aNil)))))) aNil))) sNil)
  (sSeq (sIf (bM (eBin fEq (eVar 1) (eC (.str "number")))) (sRet (eMS mJoin (eC (.str " ")) (aCons (eLst (aCons (eVar 1) (aCons (eCall 1 m_side_text (aCons (eBin fIx (eVar 2) (eC (.int 0))) aNil)) (aCons (eCall 1 m_side_text (aCons (eBin fIx (eVar 2) (eC (.int 1))) aNil)) (aStar (shN (eCompN (sAny (eBin fIx (eVar 2) (eC (.int 2)))) (.n 3) testY (eCall 1 m_key_text (aCons (eVar 3) aNil)) [3])) aNil))))) aNil))) sNil)
  (sRet eBad)))))
noncomputable def xb_deed_text : MS := (xSSeq (xSIf (xNotM (xTM (xECall 1 m_is_deed (xACons (xEVar 0) xANil)))) (xSRaise 0 0 fv_InvalidDeed xANil) xSNil)
  (xSSeq (xSStar 1 2 (xEVar 0))
  (xSSeq (xSIf (xBM (xEBin fEq (xEVar 1) (xEC (.str "drop")))) (xSRet (xEMS mJoin (xEC (.str " ")) (xACons (xELst (xACons (xEVar 1) (xACons eBad (xACons (xECall 1 m_side_text (xACons (xEBin fIx (xEVar 2) (xEC (.int 1))) xANil)) (xACons (xECall 1 m_side_text (xACons (xEBin fIx (xEVar 2) (xEC (.int 2))) xANil)) (xACons (xECall 1 m_key_text (xACons (xEBin fIx (xEVar 2) (xEC (.int 3))) xANil)) xANil)))))) xANil))) xSNil)
  (xSSeq (xSIf (xBM (xEBin fEq (xEVar 1) (xEC (.str "number")))) (xSRet (xEMS mJoin (xEC (.str " ")) (xACons (xELst (xACons (xEVar 1) (xACons (xECall 1 m_side_text (xACons (xEBin fIx (xEVar 2) (xEC (.int 0))) xANil)) (xACons (xECall 1 m_side_text (xACons (xEBin fIx (xEVar 2) (xEC (.int 1))) xANil)) (xAStar (xShN (xECompN (xSAny (xEBin fIx (xEVar 2) (xEC (.int 2)))) (.n 3) testY (xECall 1 m_key_text (xACons (xEVar 3) xANil)) [3])) xANil))))) xANil))) xSNil)
  (xSRet eBad)))))
theorem xe_deed_text : mb_deed_text = xb_deed_text := by kernel_rfl
@[irreducible] noncomputable def m_deed_text : MF := mkF 3 mb_deed_text
theorem b_deed_text {P : Program} {w : World} {K : PySem.W.Frag} {mg : Str → Option Value} {base : Heap} {B : Bs} {f : Addr} {cdv : Value} {A : Around} {outer : List Env} {s : Shared} {H : Hp} {E : XK} {k : Nat} {N : Ent} (hK : K = B.K) (g : Gm mg)
    (D : Bdy (cxOf (L2.CX P w) P w K mg base nm_deed_text "deed_text" (defScope st_deed_text) f cdv A outer s H E) E k)  (F_is_deed : Fn P w K mg base B k "is_deed" 1 m_is_deed) (F_key_text : Fn P w K mg base B k "key_text" 1 m_key_text) (F_side_text : Fn P w K mg base B k "side_text" 1 m_side_text) (X_InvalidDeed : ExcA P w K mg base B k "InvalidDeed" 0 0 fv_InvalidDeed) :
    SimSs (cxOf (L2.CX P w) P w K mg base nm_deed_text "deed_text" (defScope st_deed_text) f cdv A outer s H E) B N (fun c d _ H => E c d H) (defBody st_deed_text) (mb_deed_text) :=
  (simss_cons (sims_if (sim_tnot (sim_truth hK (sim_call F_is_deed D.tk D.rm rfl (simA_cons (sim_var (i := 0) rfl (.inl rfl) rfl rfl) simA_nil rfl) rfl rfl rfl) (fun _ => rfl))) (simss_one (sims_raiseA0 X_InvalidDeed rfl D.tk D.rm rfl rfl)) simss_nil)
  (simss_cons (sims_star hK (sim_var (i := 0) rfl (.inl rfl) rfl rfl) (pg_star rfl (pg_name sc_deed_text.nd rfl (.inl rfl) (.inl rfl)) (pg_name sc_deed_text.nd rfl (.inl rfl) (.inl rfl)) rfl) rfl rfl rfl)
  (simss_cons (sims_if (sim_tcm (co_eq hK D.rm.u9) (sim_var (i := 1) rfl (.inl rfl) rfl rfl) (sim_str (sok_of (by decide +kernel))) rfl) (simss_one (sims_ret (sim_ms PySem.F.slot_str_join PySem.F.type_str_join mt_join (sem_join hK) (sim_str (sok_of (by decide +kernel))) (simA_cons (sim_lst (simA_cons (sim_var (i := 1) rfl (.inl rfl) rfl rfl) (simA_cons sim_bad (simA_cons (sim_call F_side_text D.tk D.rm rfl (simA_cons (sim_ix hK (sim_var (i := 2) rfl (.inl rfl) rfl rfl) sim_int (fun _ _ => rfl)) simA_nil rfl) rfl rfl rfl) (simA_cons (sim_call F_side_text D.tk D.rm rfl (simA_cons (sim_ix hK (sim_var (i := 2) rfl (.inl rfl) rfl rfl) sim_int (fun _ _ => rfl)) simA_nil rfl) rfl rfl rfl) (simA_cons (sim_call F_key_text D.tk D.rm rfl (simA_cons (sim_ix hK (sim_var (i := 2) rfl (.inl rfl) rfl rfl) sim_int (fun _ _ => rfl)) simA_nil rfl) rfl rfl rfl) simA_nil rfl) rfl) rfl) rfl) rfl)) simA_nil rfl) rfl rfl rfl rfl rfl))) simss_nil)
  (simss_cons (sims_if (sim_tcm (co_eq hK D.rm.u9) (sim_var (i := 1) rfl (.inl rfl) rfl rfl) (sim_str (sok_of (by decide +kernel))) rfl) (simss_one (sims_ret (sim_ms PySem.F.slot_str_join PySem.F.type_str_join mt_join (sem_join hK) (sim_str (sok_of (by decide +kernel))) (simA_cons (sim_lst (simA_cons (sim_var (i := 1) rfl (.inl rfl) rfl rfl) (simA_cons (sim_call F_side_text D.tk D.rm rfl (simA_cons (sim_ix hK (sim_var (i := 2) rfl (.inl rfl) rfl rfl) sim_int (fun _ _ => rfl)) simA_nil rfl) rfl rfl rfl) (simA_cons (sim_call F_side_text D.tk D.rm rfl (simA_cons (sim_ix hK (sim_var (i := 2) rfl (.inl rfl) rfl rfl) sim_int (fun _ _ => rfl)) simA_nil rfl) rfl rfl rfl) (simA_star hK (SimN.sh (sim_lc (own := [("key", 3)]) hK rfl sc_deed_text.nd (sim_any hK (sim_ix hK (sim_var (i := 2) rfl (.inl rfl) rfl rfl) sim_int (fun _ _ => rfl))) (blk_of (by kernel_rfl)) (by decide) (fun _ _ _ _ _ => (pgT_n (pg_name sc_deed_text.nd rfl (.inl rfl) (.inr rfl)))) (fun _ _ _ _ _ => simTs_nil) (fun _ _ _ _ _ => (sim_call F_key_text (takesWF _) D.rm rfl (simA_cons (sim_var (i := 3) rfl (.inl rfl) rfl rfl) simA_nil rfl) rfl rfl rfl)) (fun _ => rfl))) simA_nil rfl) rfl) rfl) rfl)) simA_nil rfl) rfl rfl rfl rfl rfl))) simss_nil)
  (simss_one (sims_ret sim_bad))))))

/-! _law_open -/
abbrev st__law_open : Stmt := top 20
def nm__law_open : List Str := ["_law_script"]
theorem sc__law_open : FnScope nm__law_open ["_law_script"] (defScope st__law_open) := ⟨rfl, rfl, rfl, by decide +kernel, rfl, by decide +kernel, by decide +kernel⟩
noncomputable def mb__law_open : MS := (sRet (eCel (nLst (aCons (eCB bList (aCons (eSl (eVar 0) oNone (oSome (eC (.int 63)))) aNil)) (aCons (eC (.int 0)) (aCons (eC (.int 0)) (aCons (eC (.int 100201)) (aCons (eC (.int 0)) aNil))))))))
noncomputable def xb__law_open : MS := (xSRet (xECel (xNLst (xACons (xECB bList (xACons (xESl (xEVar 0) xONone (xOSome (xEC (.int 63)))) xANil)) (xACons (xEC (.int 0)) (xACons (xEC (.int 0)) (xACons (xEC (.int 100201)) (xACons (xEC (.int 0)) xANil))))))))
theorem xe__law_open : mb__law_open = xb__law_open := by kernel_rfl
@[irreducible] noncomputable def m__law_open : MF := mkF 0 mb__law_open
theorem b__law_open {P : Program} {w : World} {K : PySem.W.Frag} {mg : Str → Option Value} {base : Heap} {B : Bs} {f : Addr} {cdv : Value} {A : Around} {outer : List Env} {s : Shared} {H : Hp} {E : XK} {k : Nat} {N : Ent} (hK : K = B.K) (g : Gm mg)
    (D : Bdy (cxOf (L2.CX P w) P w K mg base nm__law_open "_law_open" (defScope st__law_open) f cdv A outer s H E) E k)   :
    SimSs (cxOf (L2.CX P w) P w K mg base nm__law_open "_law_open" (defScope st__law_open) f cdv A outer s H E) B N (fun c d _ H => E c d H) (defBody st__law_open) (mb__law_open) :=
  (simss_one (sims_ret (sim_cel (sim_lstN (simA_cons (sim_bi (bi_list hK) rfl g.n_list (simA_cons (sim_sl hK (sim_var (i := 0) rfl (.inl rfl) rfl rfl) simO_none (simO_some sim_int)) simA_nil rfl) (by decide) rfl rfl rfl) (simA_cons sim_int (simA_cons sim_int (simA_cons sim_int (simA_cons sim_int simA_nil rfl) rfl) rfl) rfl) rfl)))))

/-! _law_draw -/
abbrev st__law_draw : Stmt := top 21
def nm__law_draw : List Str := ["_law_bag", "_law_many", "_law_cell", "_law_digit", "_law_seed"]
theorem sc__law_draw : FnScope nm__law_draw ["_law_bag", "_law_many"] (defScope st__law_draw) := ⟨rfl, rfl, rfl, by decide +kernel, rfl, by decide +kernel, by decide +kernel⟩
noncomputable def mb__law_draw : MS := (sSeq (sIf (andM (bM (eBin fEq (eBin fIx (eVar 0) (eC (.int 2))) (eC (.int 0)))) (bM (eBin fLt (eBin fIx (eVar 0) (eC (.int 1))) (eCB bLen (aCons (eBin fIx (eVar 0) (eC (.int 0))) aNil))))) (sSeq (sAsg 2 (eBin fIx (eBin fIx (eVar 0) (eC (.int 0))) (eBin fIx (eVar 0) (eC (.int 1)))))
  (sSeq (sSetC (eBin fAdd (eBin fIx (eVar 0) (eC (.int 1))) (eC (.int 1))) (eVar 0) (eC (.int 1)))
  (sSeq (sSetC (ifM (bM (eBin fGe (eVar 2) (eBin fPow (eC (.int 10)) (eC (.int 18))))) (eVar 2) (eC (.int 0))) (eVar 0) (eC (.int 2)))
  (sSetC (eBin fMod (eCB bInt (aCons (eBin fAdd (eBin fAdd (eBin fMul (eBin fIx (eVar 0) (eC (.int 3))) (eC (.int 40031))) (eBin fMul (eBin fMod (eCB bInt (aCons (eVar 2) aNil)) (eC (.int 2147483549))) (eC (.int 331)))) (eC (.int 2011))) aNil)) (eC (.int 2147483587))) (eVar 0) (eC (.int 3)))))) sNil)
  (sSeq (sIf (bM (eBin fGt (eBin fIx (eVar 0) (eC (.int 2))) (eC (.int 0)))) (sSeq (sAsg 3 (eBin fMod (eCB bInt (aCons (eBin fIx (eVar 0) (eC (.int 2))) aNil)) (eVar 1)))
  (sSeq (sSetC (eBin fFdv (eBin fIx (eVar 0) (eC (.int 2))) (eVar 1)) (eVar 0) (eC (.int 2)))
  (sRet (eVar 3)))) sNil)
  (sSeq (sSetC (eBin fAdd (eBin fIx (eVar 0) (eC (.int 4))) (eC (.int 1))) (eVar 0) (eC (.int 4)))
  (sSeq (sAsg 4 (eBin fIx (eVar 0) (eC (.int 3))))
  (sSeq (sSetC (eBin fMod (eCB bInt (aCons (eBin fAdd (eBin fAdd (eBin fAdd (eBin fMul (eVar 4) (eVar 4)) (eBin fMul (eC (.int 65071)) (eVar 4))) (eBin fMul (eC (.int 6673)) (eBin fIx (eVar 0) (eC (.int 4))))) (eC (.int 40013))) aNil)) (eC (.int 2147483587))) (eVar 0) (eC (.int 3)))
  (sRet (eBin fMod (eCB bInt (aCons (eBin fAdd (eBin fAdd (eBin fFdv (eBin fIx (eVar 0) (eC (.int 3))) (eC (.int 61))) (eBin fMul (eVar 4) (eC (.int 32009)))) (eBin fIx (eVar 0) (eC (.int 4)))) aNil)) (eVar 1))))))))
noncomputable def xb__law_draw : MS := (xSSeq (xSIf (xAndM (xBM (xEBin fEq (xEBin fIx (xEVar 0) (xEC (.int 2))) (xEC (.int 0)))) (xBM (xEBin fLt (xEBin fIx (xEVar 0) (xEC (.int 1))) (xECB bLen (xACons (xEBin fIx (xEVar 0) (xEC (.int 0))) xANil))))) (xSSeq (xSAsg 2 (xEBin fIx (xEBin fIx (xEVar 0) (xEC (.int 0))) (xEBin fIx (xEVar 0) (xEC (.int 1)))))
  (xSSeq (xSSetC (xEBin fAdd (xEBin fIx (xEVar 0) (xEC (.int 1))) (xEC (.int 1))) (xEVar 0) (xEC (.int 1)))
  (xSSeq (xSSetC (xIfM (xBM (xEBin fGe (xEVar 2) (xEBin fPow (xEC (.int 10)) (xEC (.int 18))))) (xEVar 2) (xEC (.int 0))) (xEVar 0) (xEC (.int 2)))
  (xSSetC (xEBin fMod (xECB bInt (xACons (xEBin fAdd (xEBin fAdd (xEBin fMul (xEBin fIx (xEVar 0) (xEC (.int 3))) (xEC (.int 40031))) (xEBin fMul (xEBin fMod (xECB bInt (xACons (xEVar 2) xANil)) (xEC (.int 2147483549))) (xEC (.int 331)))) (xEC (.int 2011))) xANil)) (xEC (.int 2147483587))) (xEVar 0) (xEC (.int 3)))))) xSNil)
  (xSSeq (xSIf (xBM (xEBin fGt (xEBin fIx (xEVar 0) (xEC (.int 2))) (xEC (.int 0)))) (xSSeq (xSAsg 3 (xEBin fMod (xECB bInt (xACons (xEBin fIx (xEVar 0) (xEC (.int 2))) xANil)) (xEVar 1)))
  (xSSeq (xSSetC (xEBin fFdv (xEBin fIx (xEVar 0) (xEC (.int 2))) (xEVar 1)) (xEVar 0) (xEC (.int 2)))
  (xSRet (xEVar 3)))) xSNil)
  (xSSeq (xSSetC (xEBin fAdd (xEBin fIx (xEVar 0) (xEC (.int 4))) (xEC (.int 1))) (xEVar 0) (xEC (.int 4)))
  (xSSeq (xSAsg 4 (xEBin fIx (xEVar 0) (xEC (.int 3))))
  (xSSeq (xSSetC (xEBin fMod (xECB bInt (xACons (xEBin fAdd (xEBin fAdd (xEBin fAdd (xEBin fMul (xEVar 4) (xEVar 4)) (xEBin fMul (xEC (.int 65071)) (xEVar 4))) (xEBin fMul (xEC (.int 6673)) (xEBin fIx (xEVar 0) (xEC (.int 4))))) (xEC (.int 40013))) xANil)) (xEC (.int 2147483587))) (xEVar 0) (xEC (.int 3)))
  (xSRet (xEBin fMod (xECB bInt (xACons (xEBin fAdd (xEBin fAdd (xEBin fFdv (xEBin fIx (xEVar 0) (xEC (.int 3))) (xEC (.int 61))) (xEBin fMul (xEVar 4) (xEC (.int 32009)))) (xEBin fIx (xEVar 0) (xEC (.int 4)))) xANil)) (xEVar 1))))))))
theorem xe__law_draw : mb__law_draw = xb__law_draw := by kernel_rfl
@[irreducible] noncomputable def m__law_draw : MF := mkF 3 mb__law_draw
theorem b__law_draw {P : Program} {w : World} {K : PySem.W.Frag} {mg : Str → Option Value} {base : Heap} {B : Bs} {f : Addr} {cdv : Value} {A : Around} {outer : List Env} {s : Shared} {H : Hp} {E : XK} {k : Nat} {N : Ent} (hK : K = B.K) (g : Gm mg)
    (D : Bdy (cxOf (L2.CX P w) P w K mg base nm__law_draw "_law_draw" (defScope st__law_draw) f cdv A outer s H E) E k)   :
    SimSs (cxOf (L2.CX P w) P w K mg base nm__law_draw "_law_draw" (defScope st__law_draw) f cdv A outer s H E) B N (fun c d _ H => E c d H) (defBody st__law_draw) (mb__law_draw) :=
  (simss_cons (sims_if (sim_tbool (simw_and (sim_tcm (co_eq hK D.rm.u9) (sim_ix hK (sim_var (i := 0) rfl (.inl rfl) rfl rfl) sim_int (fun _ _ => rfl)) sim_int rfl) (simw_and1 (sim_tcm (co_lt hK D.rm.u9) (sim_ix hK (sim_var (i := 0) rfl (.inl rfl) rfl rfl) sim_int (fun _ _ => rfl)) (sim_bi (bi_len hK) rfl g.n_len (simA_cons (sim_ix hK (sim_var (i := 0) rfl (.inl rfl) rfl rfl) sim_int (fun _ _ => rfl)) simA_nil rfl) (by decide) rfl rfl rfl) rfl)))) (simss_cons (sims_asg sc__law_draw.nd rfl (.inl rfl) (sim_ix hK (sim_ix hK (sim_var (i := 0) rfl (.inl rfl) rfl rfl) sim_int (fun _ _ => rfl)) (sim_ix hK (sim_var (i := 0) rfl (.inl rfl) rfl rfl) sim_int (fun _ _ => rfl)) (fun _ _ => rfl)) rfl (.inl rfl))
  (simss_cons (sims_setC (sim_add hK (sim_ix hK (sim_var (i := 0) rfl (.inl rfl) rfl rfl) sim_int (fun _ _ => rfl)) sim_int) (sim_var (i := 0) rfl (.inl rfl) rfl rfl) sim_int (fun _ => rfl) rfl rfl rfl)
  (simss_cons (sims_setC (sim_ifexp (sim_tcm (co_ge) (sim_var (i := 2) rfl (.inl rfl) rfl rfl) (sim_pow sim_int sim_int) rfl) (sim_var (i := 2) rfl (.inl rfl) rfl rfl) sim_int) (sim_var (i := 0) rfl (.inl rfl) rfl rfl) sim_int (fun _ => rfl) rfl rfl rfl)
  (simss_one (sims_setC (sim_mod (sim_bi (bi_int) rfl g.n_int (simA_cons (sim_add hK (sim_add hK (sim_mul hK (sim_ix hK (sim_var (i := 0) rfl (.inl rfl) rfl rfl) sim_int (fun _ _ => rfl)) sim_int) (sim_mul hK (sim_mod (sim_bi (bi_int) rfl g.n_int (simA_cons (sim_var (i := 2) rfl (.inl rfl) rfl rfl) simA_nil rfl) (by decide) rfl rfl rfl) sim_int) sim_int)) sim_int) simA_nil rfl) (by decide) rfl rfl rfl) sim_int) (sim_var (i := 0) rfl (.inl rfl) rfl rfl) sim_int (fun _ => rfl) rfl rfl rfl))))) simss_nil)
  (simss_cons (sims_if (sim_tcm (co_gt) (sim_ix hK (sim_var (i := 0) rfl (.inl rfl) rfl rfl) sim_int (fun _ _ => rfl)) sim_int rfl) (simss_cons (sims_asg sc__law_draw.nd rfl (.inl rfl) (sim_mod (sim_bi (bi_int) rfl g.n_int (simA_cons (sim_ix hK (sim_var (i := 0) rfl (.inl rfl) rfl rfl) sim_int (fun _ _ => rfl)) simA_nil rfl) (by decide) rfl rfl rfl) (sim_var (i := 1) rfl (.inl rfl) rfl rfl)) rfl (.inl rfl))
  (simss_cons (sims_setC (sim_fdv (sim_ix hK (sim_var (i := 0) rfl (.inl rfl) rfl rfl) sim_int (fun _ _ => rfl)) (sim_var (i := 1) rfl (.inl rfl) rfl rfl)) (sim_var (i := 0) rfl (.inl rfl) rfl rfl) sim_int (fun _ => rfl) rfl rfl rfl)
  (simss_one (sims_ret (sim_var (i := 3) rfl (.inl rfl) rfl rfl))))) simss_nil)
  (simss_cons (sims_setC (sim_add hK (sim_ix hK (sim_var (i := 0) rfl (.inl rfl) rfl rfl) sim_int (fun _ _ => rfl)) sim_int) (sim_var (i := 0) rfl (.inl rfl) rfl rfl) sim_int (fun _ => rfl) rfl rfl rfl)
  (simss_cons (sims_asg sc__law_draw.nd rfl (.inl rfl) (sim_ix hK (sim_var (i := 0) rfl (.inl rfl) rfl rfl) sim_int (fun _ _ => rfl)) rfl (.inl rfl))
  (simss_cons (sims_setC (sim_mod (sim_bi (bi_int) rfl g.n_int (simA_cons (sim_add hK (sim_add hK (sim_add hK (sim_mul hK (sim_var (i := 4) rfl (.inl rfl) rfl rfl) (sim_var (i := 4) rfl (.inl rfl) rfl rfl)) (sim_mul hK sim_int (sim_var (i := 4) rfl (.inl rfl) rfl rfl))) (sim_mul hK sim_int (sim_ix hK (sim_var (i := 0) rfl (.inl rfl) rfl rfl) sim_int (fun _ _ => rfl)))) sim_int) simA_nil rfl) (by decide) rfl rfl rfl) sim_int) (sim_var (i := 0) rfl (.inl rfl) rfl rfl) sim_int (fun _ => rfl) rfl rfl rfl)
  (simss_one (sims_ret (sim_mod (sim_bi (bi_int) rfl g.n_int (simA_cons (sim_add hK (sim_add hK (sim_fdv (sim_ix hK (sim_var (i := 0) rfl (.inl rfl) rfl rfl) sim_int (fun _ _ => rfl)) sim_int) (sim_mul hK (sim_var (i := 4) rfl (.inl rfl) rfl rfl) sim_int)) (sim_ix hK (sim_var (i := 0) rfl (.inl rfl) rfl rfl) sim_int (fun _ _ => rfl))) simA_nil rfl) (by decide) rfl rfl rfl) (sim_var (i := 1) rfl (.inl rfl) rfl rfl)))))))))

/-! _law_of -/
abbrev st__law_of : Stmt := top 22
def nm__law_of : List Str := ["_law_bag", "_law_things"]
theorem sc__law_of : FnScope nm__law_of ["_law_bag", "_law_things"] (defScope st__law_of) := ⟨rfl, rfl, rfl, by decide +kernel, rfl, by decide +kernel, by decide +kernel⟩
noncomputable def mb__law_of : MS := (sRet (eBin fIx (eVar 1) (eCall 2 m__law_draw (aCons (eVar 0) (aCons (eCB bLen (aCons (eVar 1) aNil)) aNil)))))
noncomputable def xb__law_of : MS := (xSRet (xEBin fIx (xEVar 1) (xECall 2 m__law_draw (xACons (xEVar 0) (xACons (xECB bLen (xACons (xEVar 1) xANil)) xANil)))))
theorem xe__law_of : mb__law_of = xb__law_of := by kernel_rfl
@[irreducible] noncomputable def m__law_of : MF := mkF 0 mb__law_of
theorem b__law_of {P : Program} {w : World} {K : PySem.W.Frag} {mg : Str → Option Value} {base : Heap} {B : Bs} {f : Addr} {cdv : Value} {A : Around} {outer : List Env} {s : Shared} {H : Hp} {E : XK} {k : Nat} {N : Ent} (hK : K = B.K) (g : Gm mg)
    (D : Bdy (cxOf (L2.CX P w) P w K mg base nm__law_of "_law_of" (defScope st__law_of) f cdv A outer s H E) E k)  (F__law_draw : Fn P w K mg base B k "_law_draw" 2 m__law_draw) :
    SimSs (cxOf (L2.CX P w) P w K mg base nm__law_of "_law_of" (defScope st__law_of) f cdv A outer s H E) B N (fun c d _ H => E c d H) (defBody st__law_of) (mb__law_of) :=
  (simss_one (sims_ret (sim_ix hK (sim_var (i := 1) rfl (.inl rfl) rfl rfl) (sim_call F__law_draw D.tk D.rm rfl (simA_cons (sim_var (i := 0) rfl (.inl rfl) rfl rfl) (simA_cons (sim_bi (bi_len hK) rfl g.n_len (simA_cons (sim_var (i := 1) rfl (.inl rfl) rfl rfl) simA_nil rfl) (by decide) rfl rfl rfl) simA_nil rfl) rfl) rfl rfl rfl) (fun _ _ => rfl))))

/-! _law_like -/
abbrev st__law_like : Stmt := top 23
def nm__law_like : List Str := ["_law_found", "_law_due", "_law_one", "_law_other"]
theorem sc__law_like : FnScope nm__law_like ["_law_found", "_law_due"] (defScope st__law_like) := ⟨rfl, rfl, rfl, by decide +kernel, rfl, by decide +kernel, by decide +kernel⟩
noncomputable def mb__law_like (m : MF) : MS := (sSeq (sIf (tM (eCB bIsi (aCons (eVar 1) (aCons (eTup (aCons (eC (.ty "list")) (aCons (eC (.ty "tuple")) aNil))) aNil)))) (sSeq (sIf (orM (bM (eBin fNe (eCB bIsi (aCons (eVar 0) (aCons (eC (.ty "list")) aNil))) (eCB bIsi (aCons (eVar 1) (aCons (eC (.ty "list")) aNil))))) (bM (eBin fNe (eCB bIsi (aCons (eVar 0) (aCons (eC (.ty "tuple")) aNil))) (eCB bIsi (aCons (eVar 1) (aCons (eC (.ty "tuple")) aNil)))))) (sRet (eC (.bl false))) sNil)
  (sRet (andV (eBin fEq (eCB bLen (aCons (eVar 0) aNil)) (eCB bLen (aCons (eVar 1) aNil))) (eCB bAll (aCons (shN (eCompN (sZip (aCons (eVar 0) (aCons (eVar 1) aNil))) (.t [(.n 2), (.n 3)]) testY (eCall 2 m (aCons (eVar 2) (aCons (eVar 3) aNil))) [2, 3])) aNil))))) sNil)
  (sSeq (sIf (orM (bM (eBin fIsN (eVar 1) (eC .non))) (bM (eBin fIsN (eVar 0) (eC .non)))) (sRet (andV (eBin fIsN (eVar 1) (eC .non)) (eBin fIsN (eVar 0) (eC .non)))) sNil)
  (sSeq (sIf (orM (bM (eBin fNe (eCB bIsi (aCons (eVar 0) (aCons (eC (.ty "bool")) aNil))) (eCB bIsi (aCons (eVar 1) (aCons (eC (.ty "bool")) aNil))))) (bM (eBin fNe (eCB bIsi (aCons (eVar 0) (aCons (eC (.ty "int")) aNil))) (eCB bIsi (aCons (eVar 1) (aCons (eC (.ty "int")) aNil)))))) (sRet (eC (.bl false))) sNil)
  (sRet (andV (eBin fEq (eCB bIsi (aCons (eVar 0) (aCons (eC (.ty "str")) aNil))) (eCB bIsi (aCons (eVar 1) (aCons (eC (.ty "str")) aNil)))) (eBin fEq (eVar 0) (eVar 1)))))))
noncomputable def xb__law_like (m : MF) : MS := (xSSeq (xSIf (xTM (xECB bIsi (xACons (xEVar 1) (xACons (xETup (xACons (xEC (.ty "list")) (xACons (xEC (.ty "tuple")) xANil))) xANil)))) (xSSeq (xSIf (xOrM (xBM (xEBin fNe (xECB bIsi (xACons (xEVar 0) (xACons (xEC (.ty "list")) xANil))) (xECB bIsi (xACons (xEVar 1) (xACons (xEC (.ty "list")) xANil))))) (xBM (xEBin fNe (xECB bIsi (xACons (xEVar 0) (xACons (xEC (.ty "tuple")) xANil))) (xECB bIsi (xACons (xEVar 1) (xACons (xEC (.ty "tuple")) xANil)))))) (xSRet (xEC (.bl false))) xSNil)
  (xSRet (xAndV (xEBin fEq (xECB bLen (xACons (xEVar 0) xANil)) (xECB bLen (xACons (xEVar 1) xANil))) (xECB bAll (xACons (xShN (xECompN (xSZip (xACons (xEVar 0) (xACons (xEVar 1) xANil))) (.t [(.n 2), (.n 3)]) testY (xECall 2 m (xACons (xEVar 2) (xACons (xEVar 3) xANil))) [2, 3])) xANil))))) xSNil)
  (xSSeq (xSIf (xOrM (xBM (xEBin fIsN (xEVar 1) (xEC .non))) (xBM (xEBin fIsN (xEVar 0) (xEC .non)))) (xSRet (xAndV (xEBin fIsN (xEVar 1) (xEC .non)) (xEBin fIsN (xEVar 0) (xEC .non)))) xSNil)
  (xSSeq (xSIf (xOrM (xBM (xEBin fNe (xECB bIsi (xACons (xEVar 0) (xACons (xEC (.ty "bool")) xANil))) (xECB bIsi (xACons (xEVar 1) (xACons (xEC (.ty "bool")) xANil))))) (xBM (xEBin fNe (xECB bIsi (xACons (xEVar 0) (xACons (xEC (.ty "int")) xANil))) (xECB bIsi (xACons (xEVar 1) (xACons (xEC (.ty "int")) xANil)))))) (xSRet (xEC (.bl false))) xSNil)
  (xSRet (xAndV (xEBin fEq (xECB bIsi (xACons (xEVar 0) (xACons (xEC (.ty "str")) xANil))) (xECB bIsi (xACons (xEVar 1) (xACons (xEC (.ty "str")) xANil)))) (xEBin fEq (xEVar 0) (xEVar 1)))))))
theorem xe__law_like (m : MF) : mb__law_like m = xb__law_like m := by kernel_rfl
noncomputable def mr__law_like : Nat → MF
  | 0 => fun _ _ => .bad
  | n + 1 => mkF 2 (mb__law_like (mr__law_like n))
@[irreducible] noncomputable def m__law_like : MF := mr__law_like 8
theorem b__law_like {P : Program} {w : World} {K : PySem.W.Frag} {mg : Str → Option Value} {base : Heap} {B : Bs} {f : Addr} {cdv : Value} {A : Around} {outer : List Env} {s : Shared} {H : Hp} {E : XK} {k : Nat} {N : Ent} (hK : K = B.K) (g : Gm mg)
    (D : Bdy (cxOf (L2.CX P w) P w K mg base nm__law_like "_law_like" (defScope st__law_like) f cdv A outer s H E) E k)  {m : MF} (F__law_like : Fn P w K mg base B k "_law_like" 2 m) :
    SimSs (cxOf (L2.CX P w) P w K mg base nm__law_like "_law_like" (defScope st__law_like) f cdv A outer s H E) B N (fun c d _ H => E c d H) (defBody st__law_like) (mb__law_like m) :=
  (simss_cons (sims_if (sim_truth hK (sim_bi (bi_isi hK) rfl g.n_isinstance (simA_cons (sim_var (i := 1) rfl (.inl rfl) rfl rfl) (simA_cons (sim_tup (simA_cons (sim_ty rfl g.n_list PyProof.Rows.boot_list (by decide) rfl) (simA_cons (sim_ty rfl g.n_tuple PyProof.Rows.boot_tuple (by decide) rfl) simA_nil rfl) rfl)) simA_nil rfl) rfl) (by decide) rfl rfl rfl) (fun _ => rfl)) (simss_cons (sims_if (sim_tbool (simw_or (sim_tcm (co_ne hK D.rm.u9) (sim_bi (bi_isi hK) rfl g.n_isinstance (simA_cons (sim_var (i := 0) rfl (.inl rfl) rfl rfl) (simA_cons (sim_ty rfl g.n_list PyProof.Rows.boot_list (by decide) rfl) simA_nil rfl) rfl) (by decide) rfl rfl rfl) (sim_bi (bi_isi hK) rfl g.n_isinstance (simA_cons (sim_var (i := 1) rfl (.inl rfl) rfl rfl) (simA_cons (sim_ty rfl g.n_list PyProof.Rows.boot_list (by decide) rfl) simA_nil rfl) rfl) (by decide) rfl rfl rfl) rfl) (simw_or1 (sim_tcm (co_ne hK D.rm.u9) (sim_bi (bi_isi hK) rfl g.n_isinstance (simA_cons (sim_var (i := 0) rfl (.inl rfl) rfl rfl) (simA_cons (sim_ty rfl g.n_tuple PyProof.Rows.boot_tuple (by decide) rfl) simA_nil rfl) rfl) (by decide) rfl rfl rfl) (sim_bi (bi_isi hK) rfl g.n_isinstance (simA_cons (sim_var (i := 1) rfl (.inl rfl) rfl rfl) (simA_cons (sim_ty rfl g.n_tuple PyProof.Rows.boot_tuple (by decide) rfl) simA_nil rfl) rfl) (by decide) rfl rfl rfl) rfl)))) (simss_one (sims_ret sim_bl)) simss_nil)
  (simss_one (sims_ret (sim_and (sim_cm (co_eq hK D.rm.u9) (sim_bi (bi_len hK) rfl g.n_len (simA_cons (sim_var (i := 0) rfl (.inl rfl) rfl rfl) simA_nil rfl) (by decide) rfl rfl rfl) (sim_bi (bi_len hK) rfl g.n_len (simA_cons (sim_var (i := 1) rfl (.inl rfl) rfl rfl) simA_nil rfl) (by decide) rfl rfl rfl) rfl) (sim_one (sim_bi (bi_all hK rfl) rfl g.n_all (simA_cons (SimN.sh (sim_lc (own := [("_law_one", 2), ("_law_other", 3)]) hK rfl sc__law_like.nd (sim_zip hK rfl g.n_zip (simA_cons (sim_var (i := 0) rfl (.inl rfl) rfl rfl) (simA_cons (sim_var (i := 1) rfl (.inl rfl) rfl rfl) simA_nil rfl) rfl) rfl rfl rfl) (blk_of (by kernel_rfl)) (by decide) (fun _ _ _ _ _ => (pgT_t rfl (pgTs_cons (pgT_n (pg_name sc__law_like.nd rfl (.inl rfl) (.inr rfl))) (pgTs_cons (pgT_n (pg_name sc__law_like.nd rfl (.inl rfl) (.inr rfl))) pgTs_nil rfl) rfl) rfl rfl)) (fun _ _ _ _ _ => simTs_nil) (fun _ _ _ _ _ => (sim_call F__law_like (takesWF _) D.rm rfl (simA_cons (sim_var (i := 2) rfl (.inl rfl) rfl rfl) (simA_cons (sim_var (i := 3) rfl (.inl rfl) rfl rfl) simA_nil rfl) rfl) rfl rfl rfl)) (fun _ => rfl))) simA_nil rfl) (by decide) rfl rfl rfl)))))) simss_nil)
  (simss_cons (sims_if (sim_tbool (simw_or (sim_tcm (co_isN) (sim_var (i := 1) rfl (.inl rfl) rfl rfl) sim_non rfl) (simw_or1 (sim_tcm (co_isN) (sim_var (i := 0) rfl (.inl rfl) rfl rfl) sim_non rfl)))) (simss_one (sims_ret (sim_and (sim_cm (co_isN) (sim_var (i := 1) rfl (.inl rfl) rfl rfl) sim_non rfl) (sim_one (sim_cm (co_isN) (sim_var (i := 0) rfl (.inl rfl) rfl rfl) sim_non rfl))))) simss_nil)
  (simss_cons (sims_if (sim_tbool (simw_or (sim_tcm (co_ne hK D.rm.u9) (sim_bi (bi_isi hK) rfl g.n_isinstance (simA_cons (sim_var (i := 0) rfl (.inl rfl) rfl rfl) (simA_cons (sim_ty rfl g.n_bool PyProof.Rows.boot_bool (by decide) rfl) simA_nil rfl) rfl) (by decide) rfl rfl rfl) (sim_bi (bi_isi hK) rfl g.n_isinstance (simA_cons (sim_var (i := 1) rfl (.inl rfl) rfl rfl) (simA_cons (sim_ty rfl g.n_bool PyProof.Rows.boot_bool (by decide) rfl) simA_nil rfl) rfl) (by decide) rfl rfl rfl) rfl) (simw_or1 (sim_tcm (co_ne hK D.rm.u9) (sim_bi (bi_isi hK) rfl g.n_isinstance (simA_cons (sim_var (i := 0) rfl (.inl rfl) rfl rfl) (simA_cons (sim_ty rfl g.n_int PyProof.Rows.boot_int (by decide) rfl) simA_nil rfl) rfl) (by decide) rfl rfl rfl) (sim_bi (bi_isi hK) rfl g.n_isinstance (simA_cons (sim_var (i := 1) rfl (.inl rfl) rfl rfl) (simA_cons (sim_ty rfl g.n_int PyProof.Rows.boot_int (by decide) rfl) simA_nil rfl) rfl) (by decide) rfl rfl rfl) rfl)))) (simss_one (sims_ret sim_bl)) simss_nil)
  (simss_one (sims_ret (sim_and (sim_cm (co_eq hK D.rm.u9) (sim_bi (bi_isi hK) rfl g.n_isinstance (simA_cons (sim_var (i := 0) rfl (.inl rfl) rfl rfl) (simA_cons (sim_ty rfl g.n_str PyProof.Rows.boot_str (by decide) rfl) simA_nil rfl) rfl) (by decide) rfl rfl rfl) (sim_bi (bi_isi hK) rfl g.n_isinstance (simA_cons (sim_var (i := 1) rfl (.inl rfl) rfl rfl) (simA_cons (sim_ty rfl g.n_str PyProof.Rows.boot_str (by decide) rfl) simA_nil rfl) rfl) (by decide) rfl rfl rfl) rfl) (sim_one (sim_cm (co_eq hK D.rm.u9) (sim_var (i := 0) rfl (.inl rfl) rfl rfl) (sim_var (i := 1) rfl (.inl rfl) rfl rfl) rfl))))))))

/-! _law_field -/
abbrev st__law_field : Stmt := top 24
def nm__law_field : List Str := ["_law_e"]
theorem sc__law_field : FnScope nm__law_field ["_law_e"] (defScope st__law_field) := ⟨rfl, rfl, rfl, by decide +kernel, rfl, by decide +kernel, by decide +kernel⟩
noncomputable def mb__law_field : MS := (sSeq (sIf (bM (eBin fIn (eXf xfl "code" (eVar 0)) (eLst (aCons (eC (.str "InvalidKey")) (aCons (eC (.str "InvalidNumber")) (aCons (eC (.str "InvalidTable")) (aCons (eC (.str "InvalidSight")) (aCons (eC (.str "InvalidWish")) (aCons (eC (.str "InvalidStand")) aNil))))))))) (sRet (eXf xfl "given" (eVar 0))) sNil)
  (sSeq (sIf (bM (eBin fIn (eXf xfl "code" (eVar 0)) (eLst (aCons (eC (.str "InvalidName")) (aCons (eC (.str "InvalidLimit")) (aCons (eC (.str "TakenKey")) aNil)))))) (sRet (eXf xfl "given" (eVar 0))) sNil)
  (sSeq (sIf (bM (eBin fIn (eXf xfl "code" (eVar 0)) (eLst (aCons (eC (.str "InvalidEntry")) (aCons (eC (.str "InvalidStep")) (aCons (eC (.str "InvalidCommand")) aNil)))))) (sRet (eXf xfl "at" (eVar 0))) sNil)
  (sSeq (sIf (bM (eBin fIn (eXf xfl "code" (eVar 0)) (eLst (aCons (eC (.str "DuplicateName")) (aCons (eC (.str "UnknownName")) aNil))))) (sRet (eXf xfl "name" (eVar 0))) sNil)
  (sSeq (sIf (bM (eBin fIn (eXf xfl "code" (eVar 0)) (eLst (aCons (eC (.str "InvalidOption")) (aCons (eC (.str "InvalidText")) aNil))))) (sRet (ifM (bM (eBin fEq (eXf xfl "code" (eVar 0)) (eC (.str "InvalidOption")))) (eXf xfl "word" (eVar 0)) (eXf xfl "line" (eVar 0)))) sNil)
  (sSeq (sIf (bM (eBin fIn (eXf xfl "code" (eVar 0)) (eLst (aCons (eC (.str "TooMany")) (aCons (eC (.str "Full")) aNil))))) (sRet (ifM (bM (eBin fEq (eXf xfl "code" (eVar 0)) (eC (.str "TooMany")))) (eXf xfl "most" (eVar 0)) (eXf xfl "limit" (eVar 0)))) sNil)
  (sSeq (sIf (bM (eBin fIn (eXf xfl "code" (eVar 0)) (eLst (aCons (eC (.str "NoRow")) (aCons (eC (.str "NoLetter")) aNil))))) (sRet (ifM (bM (eBin fEq (eXf xfl "code" (eVar 0)) (eC (.str "NoRow")))) (eXf xfl "row" (eVar 0)) (eXf xfl "letter" (eVar 0)))) sNil)
  (sRet (ifM (bM (eBin fEq (eXf xfl "code" (eVar 0)) (eC (.str "NotBeside")))) (eTup (aCons (eXf xfl "left" (eVar 0)) (aCons (eXf xfl "right" (eVar 0)) aNil))) (eC .non))))))))))
noncomputable def xb__law_field : MS := (xSSeq (xSIf (xBM (xEBin fIn (eXf xfl "code" (xEVar 0)) (xELst (xACons (xEC (.str "InvalidKey")) (xACons (xEC (.str "InvalidNumber")) (xACons (xEC (.str "InvalidTable")) (xACons (xEC (.str "InvalidSight")) (xACons (xEC (.str "InvalidWish")) (xACons (xEC (.str "InvalidStand")) xANil))))))))) (xSRet (eXf xfl "given" (xEVar 0))) xSNil)
  (xSSeq (xSIf (xBM (xEBin fIn (eXf xfl "code" (xEVar 0)) (xELst (xACons (xEC (.str "InvalidName")) (xACons (xEC (.str "InvalidLimit")) (xACons (xEC (.str "TakenKey")) xANil)))))) (xSRet (eXf xfl "given" (xEVar 0))) xSNil)
  (xSSeq (xSIf (xBM (xEBin fIn (eXf xfl "code" (xEVar 0)) (xELst (xACons (xEC (.str "InvalidEntry")) (xACons (xEC (.str "InvalidStep")) (xACons (xEC (.str "InvalidCommand")) xANil)))))) (xSRet (eXf xfl "at" (xEVar 0))) xSNil)
  (xSSeq (xSIf (xBM (xEBin fIn (eXf xfl "code" (xEVar 0)) (xELst (xACons (xEC (.str "DuplicateName")) (xACons (xEC (.str "UnknownName")) xANil))))) (xSRet (eXf xfl "name" (xEVar 0))) xSNil)
  (xSSeq (xSIf (xBM (xEBin fIn (eXf xfl "code" (xEVar 0)) (xELst (xACons (xEC (.str "InvalidOption")) (xACons (xEC (.str "InvalidText")) xANil))))) (xSRet (xIfM (xBM (xEBin fEq (eXf xfl "code" (xEVar 0)) (xEC (.str "InvalidOption")))) (eXf xfl "word" (xEVar 0)) (eXf xfl "line" (xEVar 0)))) xSNil)
  (xSSeq (xSIf (xBM (xEBin fIn (eXf xfl "code" (xEVar 0)) (xELst (xACons (xEC (.str "TooMany")) (xACons (xEC (.str "Full")) xANil))))) (xSRet (xIfM (xBM (xEBin fEq (eXf xfl "code" (xEVar 0)) (xEC (.str "TooMany")))) (eXf xfl "most" (xEVar 0)) (eXf xfl "limit" (xEVar 0)))) xSNil)
  (xSSeq (xSIf (xBM (xEBin fIn (eXf xfl "code" (xEVar 0)) (xELst (xACons (xEC (.str "NoRow")) (xACons (xEC (.str "NoLetter")) xANil))))) (xSRet (xIfM (xBM (xEBin fEq (eXf xfl "code" (xEVar 0)) (xEC (.str "NoRow")))) (eXf xfl "row" (xEVar 0)) (eXf xfl "letter" (xEVar 0)))) xSNil)
  (xSRet (xIfM (xBM (xEBin fEq (eXf xfl "code" (xEVar 0)) (xEC (.str "NotBeside")))) (xETup (xACons (eXf xfl "left" (xEVar 0)) (xACons (eXf xfl "right" (xEVar 0)) xANil))) (xEC .non))))))))))
theorem xe__law_field : mb__law_field = xb__law_field := by kernel_rfl
@[irreducible] noncomputable def m__law_field : MF := mkF 0 mb__law_field
theorem b__law_field {P : Program} {w : World} {K : PySem.W.Frag} {mg : Str → Option Value} {base : Heap} {B : Bs} {f : Addr} {cdv : Value} {A : Around} {outer : List Env} {s : Shared} {H : Hp} {E : XK} {k : Nat} {N : Ent} {p : Addr × Obj} {c : Nat} {dd : Addr} (hK : K = (B.with (p.1, c, dd)).K) (g : Gm mg) (XC : XClsF K B xfl)
    (D : BdyX (L2H.cxH (L2.CX P w) P w K mg base nm__law_field "_law_field" (defScope st__law_field) f cdv A outer s H E p) (B.with (p.1, c, dd)) E k)  :
    SimSs (L2H.cxH (L2.CX P w) P w K mg base nm__law_field "_law_field" (defScope st__law_field) f cdv A outer s H E p) (B.with (p.1, c, dd)) N (fun c d _ H => E c d H) (defBody st__law_field) (mb__law_field) :=
  (simss_cons (sims_if (sim_tcm (co_in hK D.rm.u9) (sim_xf D.hx XC.with (sim_var (i := 0) rfl (.inl rfl) rfl rfl) rfl) (sim_lst (simA_cons (sim_str (sok_of (by decide +kernel))) (simA_cons (sim_str (sok_of (by decide +kernel))) (simA_cons (sim_str (sok_of (by decide +kernel))) (simA_cons (sim_str (sok_of (by decide +kernel))) (simA_cons (sim_str (sok_of (by decide +kernel))) (simA_cons (sim_str (sok_of (by decide +kernel))) simA_nil rfl) rfl) rfl) rfl) rfl) rfl)) rfl) (simss_one (sims_ret (sim_xf D.hx XC.with (sim_var (i := 0) rfl (.inl rfl) rfl rfl) rfl))) simss_nil)
  (simss_cons (sims_if (sim_tcm (co_in hK D.rm.u9) (sim_xf D.hx XC.with (sim_var (i := 0) rfl (.inl rfl) rfl rfl) rfl) (sim_lst (simA_cons (sim_str (sok_of (by decide +kernel))) (simA_cons (sim_str (sok_of (by decide +kernel))) (simA_cons (sim_str (sok_of (by decide +kernel))) simA_nil rfl) rfl) rfl)) rfl) (simss_one (sims_ret (sim_xf D.hx XC.with (sim_var (i := 0) rfl (.inl rfl) rfl rfl) rfl))) simss_nil)
  (simss_cons (sims_if (sim_tcm (co_in hK D.rm.u9) (sim_xf D.hx XC.with (sim_var (i := 0) rfl (.inl rfl) rfl rfl) rfl) (sim_lst (simA_cons (sim_str (sok_of (by decide +kernel))) (simA_cons (sim_str (sok_of (by decide +kernel))) (simA_cons (sim_str (sok_of (by decide +kernel))) simA_nil rfl) rfl) rfl)) rfl) (simss_one (sims_ret (sim_xf D.hx XC.with (sim_var (i := 0) rfl (.inl rfl) rfl rfl) rfl))) simss_nil)
  (simss_cons (sims_if (sim_tcm (co_in hK D.rm.u9) (sim_xf D.hx XC.with (sim_var (i := 0) rfl (.inl rfl) rfl rfl) rfl) (sim_lst (simA_cons (sim_str (sok_of (by decide +kernel))) (simA_cons (sim_str (sok_of (by decide +kernel))) simA_nil rfl) rfl)) rfl) (simss_one (sims_ret (sim_xf D.hx XC.with (sim_var (i := 0) rfl (.inl rfl) rfl rfl) rfl))) simss_nil)
  (simss_cons (sims_if (sim_tcm (co_in hK D.rm.u9) (sim_xf D.hx XC.with (sim_var (i := 0) rfl (.inl rfl) rfl rfl) rfl) (sim_lst (simA_cons (sim_str (sok_of (by decide +kernel))) (simA_cons (sim_str (sok_of (by decide +kernel))) simA_nil rfl) rfl)) rfl) (simss_one (sims_ret (sim_ifexp (sim_tcm (co_eq hK D.rm.u9) (sim_xf D.hx XC.with (sim_var (i := 0) rfl (.inl rfl) rfl rfl) rfl) (sim_str (sok_of (by decide +kernel))) rfl) (sim_xf D.hx XC.with (sim_var (i := 0) rfl (.inl rfl) rfl rfl) rfl) (sim_xf D.hx XC.with (sim_var (i := 0) rfl (.inl rfl) rfl rfl) rfl)))) simss_nil)
  (simss_cons (sims_if (sim_tcm (co_in hK D.rm.u9) (sim_xf D.hx XC.with (sim_var (i := 0) rfl (.inl rfl) rfl rfl) rfl) (sim_lst (simA_cons (sim_str (sok_of (by decide +kernel))) (simA_cons (sim_str (sok_of (by decide +kernel))) simA_nil rfl) rfl)) rfl) (simss_one (sims_ret (sim_ifexp (sim_tcm (co_eq hK D.rm.u9) (sim_xf D.hx XC.with (sim_var (i := 0) rfl (.inl rfl) rfl rfl) rfl) (sim_str (sok_of (by decide +kernel))) rfl) (sim_xf D.hx XC.with (sim_var (i := 0) rfl (.inl rfl) rfl rfl) rfl) (sim_xf D.hx XC.with (sim_var (i := 0) rfl (.inl rfl) rfl rfl) rfl)))) simss_nil)
  (simss_cons (sims_if (sim_tcm (co_in hK D.rm.u9) (sim_xf D.hx XC.with (sim_var (i := 0) rfl (.inl rfl) rfl rfl) rfl) (sim_lst (simA_cons (sim_str (sok_of (by decide +kernel))) (simA_cons (sim_str (sok_of (by decide +kernel))) simA_nil rfl) rfl)) rfl) (simss_one (sims_ret (sim_ifexp (sim_tcm (co_eq hK D.rm.u9) (sim_xf D.hx XC.with (sim_var (i := 0) rfl (.inl rfl) rfl rfl) rfl) (sim_str (sok_of (by decide +kernel))) rfl) (sim_xf D.hx XC.with (sim_var (i := 0) rfl (.inl rfl) rfl rfl) rfl) (sim_xf D.hx XC.with (sim_var (i := 0) rfl (.inl rfl) rfl rfl) rfl)))) simss_nil)
  (simss_one (sims_ret (sim_ifexp (sim_tcm (co_eq hK D.rm.u9) (sim_xf D.hx XC.with (sim_var (i := 0) rfl (.inl rfl) rfl rfl) rfl) (sim_str (sok_of (by decide +kernel))) rfl) (sim_tup (simA_cons (sim_xf D.hx XC.with (sim_var (i := 0) rfl (.inl rfl) rfl rfl) rfl) (simA_cons (sim_xf D.hx XC.with (sim_var (i := 0) rfl (.inl rfl) rfl rfl) rfl) simA_nil rfl) rfl)) sim_non))))))))))

/-! _law_try -/
abbrev st__law_try : Stmt := top 25
def nm__law_try : List Str := ["_law_ask", "_law_e"]
theorem sc__law_try : FnScope nm__law_try ["_law_ask"] (defScope st__law_try) := ⟨rfl, rfl, rfl, by decide +kernel, rfl, by decide +kernel, by decide +kernel⟩
noncomputable def m_suite : MS := sRet (eTup (aCons (eXf xfl "code" (eVar 1)) (aCons (eCall 1 m__law_field (aCons (eVar 1) aNil)) aNil)))

/-! _law_good_deeds -/
abbrev st__law_good_deeds : Stmt := top 26
def nm__law_good_deeds : List Str := ["_law_bag", "_law_key", "_law_row", "_law_side", "_law_k"]
theorem sc__law_good_deeds : FnScope nm__law_good_deeds ["_law_bag"] (defScope st__law_good_deeds) := ⟨rfl, rfl, rfl, by decide +kernel, rfl, by decide +kernel, by decide +kernel⟩
noncomputable def mb__law_good_deeds : MS := (sSeq (sAsg 1 (eCB bTuple (aCons (shN (eCompN (sRng1 (aCons (eBin fAdd (eC (.int 1)) (eCall 2 m__law_draw (aCons (eVar 0) (aCons (eC (.int 4)) aNil)))) aNil)) (.n 4) testY (eBin fSub (eCall 2 m__law_draw (aCons (eVar 0) (aCons (eC (.int 9)) aNil))) (eC (.int 4))) [4])) aNil)))
  (sSeq (sPar 2 3 (aCons (eCall 2 m__law_draw (aCons (eVar 0) (aCons (eC (.int 40)) aNil))) (aCons (eCall 2 m__law_of (aCons (eVar 0) (aCons (eLst (aCons (eC .non) (aCons (eC (.int 0)) (aCons (eC (.int 39)) (aCons (eCall 2 m__law_draw (aCons (eVar 0) (aCons (eC (.int 40)) aNil))) aNil))))) aNil))) aNil)))
  (sRet (eLst (aCons (eTup (aCons (eC (.str "drop")) (aCons (eVar 2) (aCons (eVar 3) (aCons (eC .non) (aCons (eVar 1) aNil)))))) (aCons (eTup (aCons (eC (.str "drop")) (aCons (eC (.int 39)) (aCons (eVar 2) (aCons (eVar 2) (aCons (eTup (aCons (eBin fPow (eC (.int 10)) (eC (.int 18))) aNil)) aNil)))))) (aCons (eTup (aCons (eC (.str "strike")) (aCons (eVar 2) aNil))) (aCons (eTup (aCons (eC (.str "back")) (aCons (eC (.int 0)) aNil))) (aCons (eTup (aCons (eC (.str "number")) (aCons (eC .non) (aCons (eVar 3) (aCons (eTup aNil) aNil))))) (aCons (eTup (aCons (eC (.str "number")) (aCons (eVar 3) (aCons (eC .non) (aCons (eTup (aCons (eVar 1) (aCons (eVar 1) (aCons (eBin fMul (eTup (aCons (eC (.int 0)) aNil)) (eC (.int 40))) aNil)))) aNil))))) (aCons (eTup (aCons (eC (.str "number")) (aCons (eC (.int 0)) (aCons (eC (.int 0)) (aCons (eBin fMul (eTup (aCons (eVar 1) aNil)) (eC (.int 40))) aNil))))) aNil)))))))))))
noncomputable def xb__law_good_deeds : MS := (xSSeq (xSAsg 1 (xECB bTuple (xACons (xShN (xECompN (xSRng1 (xACons (xEBin fAdd (xEC (.int 1)) (xECall 2 m__law_draw (xACons (xEVar 0) (xACons (xEC (.int 4)) xANil)))) xANil)) (.n 4) testY (xEBin fSub (xECall 2 m__law_draw (xACons (xEVar 0) (xACons (xEC (.int 9)) xANil))) (xEC (.int 4))) [4])) xANil)))
  (xSSeq (xSPar 2 3 (xACons (xECall 2 m__law_draw (xACons (xEVar 0) (xACons (xEC (.int 40)) xANil))) (xACons (xECall 2 m__law_of (xACons (xEVar 0) (xACons (xELst (xACons (xEC .non) (xACons (xEC (.int 0)) (xACons (xEC (.int 39)) (xACons (xECall 2 m__law_draw (xACons (xEVar 0) (xACons (xEC (.int 40)) xANil))) xANil))))) xANil))) xANil)))
  (xSRet (xELst (xACons (xETup (xACons (xEC (.str "drop")) (xACons (xEVar 2) (xACons (xEVar 3) (xACons (xEC .non) (xACons (xEVar 1) xANil)))))) (xACons (xETup (xACons (xEC (.str "drop")) (xACons (xEC (.int 39)) (xACons (xEVar 2) (xACons (xEVar 2) (xACons (xETup (xACons (xEBin fPow (xEC (.int 10)) (xEC (.int 18))) xANil)) xANil)))))) (xACons (xETup (xACons (xEC (.str "strike")) (xACons (xEVar 2) xANil))) (xACons (xETup (xACons (xEC (.str "back")) (xACons (xEC (.int 0)) xANil))) (xACons (xETup (xACons (xEC (.str "number")) (xACons (xEC .non) (xACons (xEVar 3) (xACons (xETup xANil) xANil))))) (xACons (xETup (xACons (xEC (.str "number")) (xACons (xEVar 3) (xACons (xEC .non) (xACons (xETup (xACons (xEVar 1) (xACons (xEVar 1) (xACons (xEBin fMul (xETup (xACons (xEC (.int 0)) xANil)) (xEC (.int 40))) xANil)))) xANil))))) (xACons (xETup (xACons (xEC (.str "number")) (xACons (xEC (.int 0)) (xACons (xEC (.int 0)) (xACons (xEBin fMul (xETup (xACons (xEVar 1) xANil)) (xEC (.int 40))) xANil))))) xANil)))))))))))
theorem xe__law_good_deeds : mb__law_good_deeds = xb__law_good_deeds := by kernel_rfl
@[irreducible] noncomputable def m__law_good_deeds : MF := mkF 4 mb__law_good_deeds
theorem b__law_good_deeds {P : Program} {w : World} {K : PySem.W.Frag} {mg : Str → Option Value} {base : Heap} {B : Bs} {f : Addr} {cdv : Value} {A : Around} {outer : List Env} {s : Shared} {H : Hp} {E : XK} {k : Nat} {N : Ent} (hK : K = B.K) (g : Gm mg)
    (D : Bdy (cxOf (L2.CX P w) P w K mg base nm__law_good_deeds "_law_good_deeds" (defScope st__law_good_deeds) f cdv A outer s H E) E k)  (F__law_draw : Fn P w K mg base B k "_law_draw" 2 m__law_draw) (F__law_of : Fn P w K mg base B k "_law_of" 2 m__law_of) :
    SimSs (cxOf (L2.CX P w) P w K mg base nm__law_good_deeds "_law_good_deeds" (defScope st__law_good_deeds) f cdv A outer s H E) B N (fun c d _ H => E c d H) (defBody st__law_good_deeds) (mb__law_good_deeds) :=
  (simss_cons (sims_asg sc__law_good_deeds.nd rfl (.inl rfl) (sim_bi (bi_tuple hK) rfl g.n_tuple (simA_cons (SimN.sh (sim_lc (own := [("_law_k", 4)]) hK rfl sc__law_good_deeds.nd (sim_rng1 rfl g.n_range (simA_cons (sim_add hK sim_int (sim_call F__law_draw D.tk D.rm rfl (simA_cons (sim_var (i := 0) rfl (.inr (.inl rfl)) rfl rfl) (simA_cons sim_int simA_nil rfl) rfl) rfl rfl rfl)) simA_nil rfl) rfl) (blk_of (by kernel_rfl)) (by decide) (fun _ _ _ _ _ => (pgT_n (pg_name sc__law_good_deeds.nd rfl (.inl rfl) (.inr rfl)))) (fun _ _ _ _ _ => simTs_nil) (fun _ _ _ _ _ => (sim_sub (sim_call F__law_draw (takesWF _) D.rm rfl (simA_cons (sim_var (i := 0) rfl (.inr (.inl rfl)) rfl rfl) (simA_cons sim_int simA_nil rfl) rfl) rfl rfl rfl) sim_int)) (fun _ => rfl))) simA_nil rfl) (by decide) rfl rfl rfl) rfl (.inl rfl))
  (simss_cons (sims_par (i := 2) (j := 3) rfl sc__law_good_deeds.nd rfl rfl (by decide) rfl rfl (simA_cons (sim_call F__law_draw D.tk D.rm rfl (simA_cons (sim_var (i := 0) rfl (.inr (.inl rfl)) rfl rfl) (simA_cons sim_int simA_nil rfl) rfl) rfl rfl rfl) (simA_cons (sim_call F__law_of D.tk D.rm rfl (simA_cons (sim_var (i := 0) rfl (.inr (.inl rfl)) rfl rfl) (simA_cons (sim_lst (simA_cons sim_non (simA_cons sim_int (simA_cons sim_int (simA_cons (sim_call F__law_draw D.tk D.rm rfl (simA_cons (sim_var (i := 0) rfl (.inr (.inl rfl)) rfl rfl) (simA_cons sim_int simA_nil rfl) rfl) rfl rfl rfl) simA_nil rfl) rfl) rfl) rfl)) simA_nil rfl) rfl) rfl rfl rfl) simA_nil rfl) rfl) rfl rfl)
  (simss_one (sims_ret (sim_lst (simA_cons (sim_tup (simA_cons (sim_str (sok_of (by decide +kernel))) (simA_cons (sim_var (i := 2) rfl (.inl rfl) rfl rfl) (simA_cons (sim_var (i := 3) rfl (.inl rfl) rfl rfl) (simA_cons sim_non (simA_cons (sim_var (i := 1) rfl (.inl rfl) rfl rfl) simA_nil rfl) rfl) rfl) rfl) rfl)) (simA_cons (sim_tup (simA_cons (sim_str (sok_of (by decide +kernel))) (simA_cons sim_int (simA_cons (sim_var (i := 2) rfl (.inl rfl) rfl rfl) (simA_cons (sim_var (i := 2) rfl (.inl rfl) rfl rfl) (simA_cons (sim_tup (simA_cons (sim_pow sim_int sim_int) simA_nil rfl)) simA_nil rfl) rfl) rfl) rfl) rfl)) (simA_cons (sim_tup (simA_cons (sim_str (sok_of (by decide +kernel))) (simA_cons (sim_var (i := 2) rfl (.inl rfl) rfl rfl) simA_nil rfl) rfl)) (simA_cons (sim_tup (simA_cons (sim_str (sok_of (by decide +kernel))) (simA_cons sim_int simA_nil rfl) rfl)) (simA_cons (sim_tup (simA_cons (sim_str (sok_of (by decide +kernel))) (simA_cons sim_non (simA_cons (sim_var (i := 3) rfl (.inl rfl) rfl rfl) (simA_cons (sim_tup simA_nil) simA_nil rfl) rfl) rfl) rfl)) (simA_cons (sim_tup (simA_cons (sim_str (sok_of (by decide +kernel))) (simA_cons (sim_var (i := 3) rfl (.inl rfl) rfl rfl) (simA_cons sim_non (simA_cons (sim_tup (simA_cons (sim_var (i := 1) rfl (.inl rfl) rfl rfl) (simA_cons (sim_var (i := 1) rfl (.inl rfl) rfl rfl) (simA_cons (sim_mul hK (sim_tup (simA_cons sim_int simA_nil rfl)) sim_int) simA_nil rfl) rfl) rfl)) simA_nil rfl) rfl) rfl) rfl)) (simA_cons (sim_tup (simA_cons (sim_str (sok_of (by decide +kernel))) (simA_cons sim_int (simA_cons sim_int (simA_cons (sim_mul hK (sim_tup (simA_cons (sim_var (i := 1) rfl (.inl rfl) rfl rfl) simA_nil rfl)) sim_int) simA_nil rfl) rfl) rfl) rfl)) simA_nil rfl) rfl) rfl) rfl) rfl) rfl) rfl))))))

/-! law -/
abbrev st_law : Stmt := top 27
def nm_law : List Str := ["_law_script", "_law_bag", "_law_turn", "_law_good", "_law_key", "_law_row", "_law_odd", "_law_far", "_law_bent", "_law_bad", "_law_one"]
theorem sc_law : FnScope nm_law ["_law_script"] (defScope st_law) := ⟨rfl, rfl, rfl, by decide +kernel, rfl, by decide +kernel, by decide +kernel⟩
noncomputable def mb_law : MS := (sSeq (sAsg 1 (eCall 1 m__law_open (aCons (eVar 0) aNil)))
  (sSeq (sFor (sRng1 (aCons (eC (.int 5)) aNil)) (.n 2) (sSeq (sAsg 3 (eCall 1 m__law_good_deeds (aCons (eVar 1) aNil)))
  (sSeq (sPar 4 5 (aCons (eBin fIx (eBin fIx (eVar 3) (eC (.int 0))) (eC (.int 4))) (aCons (eBin fIx (eBin fIx (eVar 3) (eC (.int 0))) (eC (.int 1))) aNil)))
  (sSeq (sAsg 6 (eCall 2 m__law_of (aCons (eVar 1) (aCons (eLst (aCons (eC (.int 40)) (aCons (eBin fSub (eC (.int 0)) (eC (.int 1))) (aCons (eC .non) (aCons (eC (.bl true)) (aCons (eC (.str "1")) (aCons (eTup (aCons (eC (.int 1)) aNil)) aNil))))))) aNil))))
  (sSeq (sAsg 7 (eCall 2 m__law_of (aCons (eVar 1) (aCons (eLst (aCons (eC (.int 40)) (aCons (eBin fSub (eC (.int 0)) (eC (.int 1))) (aCons (eC (.bl true)) (aCons (eC (.str "1")) (aCons (eTup (aCons (eC (.int 1)) aNil)) (aCons (eLst (aCons (eC (.int 1)) aNil)) aNil))))))) aNil))))
  (sSeq (sAsg 8 (eCall 2 m__law_of (aCons (eVar 1) (aCons (eLst (aCons (eTup aNil) (aCons (eLst (aCons (eC (.int 1)) aNil)) (aCons (eC .non) (aCons (eC (.int 3)) (aCons (eTup (aCons (eC .non) aNil)) (aCons (eBin fMul (eTup (aCons (eC (.int 1)) aNil)) (eC (.int 41))) (aCons (eC (.str "1")) (aCons (eTup (aCons (eBin fAdd (eBin fPow (eC (.int 10)) (eC (.int 18))) (eC (.int 1))) aNil)) aNil))))))))) aNil))))
  (sSeq (sAsg 9 (eLst (aCons (eTup (aCons (eC (.str "drop")) (aCons (eVar 6) (aCons (eC .non) (aCons (eC .non) (aCons (eVar 4) aNil)))))) (aCons (eTup (aCons (eC (.str "drop")) (aCons (eVar 5) (aCons (eVar 7) (aCons (eC .non) (aCons (eVar 4) aNil)))))) (aCons (eTup (aCons (eC (.str "drop")) (aCons (eVar 5) (aCons (eC .non) (aCons (eVar 7) (aCons (eVar 4) aNil)))))) (aCons (eTup (aCons (eC (.str "drop")) (aCons (eVar 5) (aCons (eC .non) (aCons (eC .non) (aCons (eVar 8) aNil)))))) (aCons (eTup (aCons (eC (.str "drop")) (aCons (eVar 5) (aCons (eC .non) (aCons (eC .non) aNil))))) (aCons (eTup (aCons (eC (.str "drop")) (aCons (eVar 5) (aCons (eC .non) (aCons (eC .non) (aCons (eVar 4) (aCons (eC (.int 0)) aNil))))))) aNil))))))))
  (sSeq (sAsg 9 (eBin fAdd (eVar 9) (eLst (aCons (eTup (aCons (eC (.str "strike")) (aCons (eVar 6) aNil))) (aCons (eTup (aCons (eC (.str "back")) (aCons (eVar 6) aNil))) (aCons (eTup (aCons (eC (.str "strike")) aNil)) (aCons (eTup (aCons (eC (.str "back")) (aCons (eC (.int 1)) (aCons (eC (.int 2)) aNil)))) (aCons (eTup (aCons (eC (.str "number")) (aCons (eVar 7) (aCons (eC .non) (aCons (eTup aNil) aNil))))) (aCons (eTup (aCons (eC (.str "number")) (aCons (eC .non) (aCons (eVar 7) (aCons (eTup aNil) aNil))))) (aCons (eTup (aCons (eC (.str "number")) (aCons (eC .non) (aCons (eC .non) (aCons (eLst (aCons (eVar 4) aNil)) aNil))))) (aCons (eTup (aCons (eC (.str "number")) (aCons (eC .non) (aCons (eC .non) (aCons (eTup (aCons (eVar 4) (aCons (eVar 8) aNil))) aNil))))) aNil)))))))))))
  (sSeq (sAsg 9 (eBin fAdd (eVar 9) (eLst (aCons (eTup (aCons (eC (.str "number")) (aCons (eC .non) (aCons (eC .non) aNil)))) (aCons (eTup (aCons (eC (.str "number")) (aCons (eC .non) (aCons (eC .non) (aCons (eBin fMul (eTup (aCons (eVar 4) aNil)) (eC (.int 41))) aNil))))) (aCons (eTup (aCons (eC (.str "Drop")) (aCons (eVar 5) (aCons (eC .non) (aCons (eC .non) (aCons (eVar 4) aNil)))))) (aCons (eTup aNil) (aCons (eC .non) (aCons (eC (.int 3)) (aCons (eC (.str "strike 1")) (aCons (eLst (aCons (eC (.str "strike")) (aCons (eVar 5) aNil))) (aCons (eTup (aCons (eLst (aCons (eC (.str "strike")) aNil)) (aCons (eVar 5) aNil))) (aCons (eTup (aCons (eC (.str "strike")) (aCons (eVar 5) (aCons (eC .non) aNil)))) (aCons (eTup (aCons (eC (.str "take")) (aCons (eC (.int 1)) aNil))) (aCons (eTup (aCons (eC (.int 3)) (aCons (eC (.int 1)) aNil))) aNil)))))))))))))))
  (sSeq (sIf (notM (tM (eCall 2 m__law_like (aCons (shN (eCompN (sAny (eVar 3)) (.n 10) testY (eCall 1 m_is_deed (aCons (eVar 10) aNil)) [10])) (aCons (eBin fMul (eLst (aCons (eC (.bl true)) aNil)) (eC (.int 7))) aNil))))) (sRet (eC (.bl false))) sNil)
  (sSeq (sIf (notM (tM (eCall 2 m__law_like (aCons (shN (eCompN (sAny (eVar 9)) (.n 10) testY (eCallK 0 1 [0] 1 m_is_deed aNil (aCons (eVar 10) aNil)) [10])) (aCons (eBin fMul (eLst (aCons (eC (.bl false)) aNil)) (eCB bLen (aCons (eVar 9) aNil))) aNil))))) (sRet (eC (.bl false))) sNil)
  (sFor (sAny (eVar 9)) (.n 10) (sIf (notM (tM (eCall 2 m__law_like (aCons (eTry okc m_suite (eCall 1 m_deed_text (aCons (eVar 10) aNil))) (aCons (eTup (aCons (eC (.str "InvalidDeed")) (aCons (eC .non) aNil))) aNil))))) (sRet (eC (.bl false))) sNil)))))))))))))
  (sRet (eC (.bl true)))))
noncomputable def xb_law : MS := (xSSeq (xSAsg 1 (xECall 1 m__law_open (xACons (xEVar 0) xANil)))
  (xSSeq (xSFor (xSRng1 (xACons (xEC (.int 5)) xANil)) (.n 2) (xSSeq (xSAsg 3 (xECall 1 m__law_good_deeds (xACons (xEVar 1) xANil)))
  (xSSeq (xSPar 4 5 (xACons (xEBin fIx (xEBin fIx (xEVar 3) (xEC (.int 0))) (xEC (.int 4))) (xACons (xEBin fIx (xEBin fIx (xEVar 3) (xEC (.int 0))) (xEC (.int 1))) xANil)))
  (xSSeq (xSAsg 6 (xECall 2 m__law_of (xACons (xEVar 1) (xACons (xELst (xACons (xEC (.int 40)) (xACons (xEBin fSub (xEC (.int 0)) (xEC (.int 1))) (xACons (xEC .non) (xACons (xEC (.bl true)) (xACons (xEC (.str "1")) (xACons (xETup (xACons (xEC (.int 1)) xANil)) xANil))))))) xANil))))
  (xSSeq (xSAsg 7 (xECall 2 m__law_of (xACons (xEVar 1) (xACons (xELst (xACons (xEC (.int 40)) (xACons (xEBin fSub (xEC (.int 0)) (xEC (.int 1))) (xACons (xEC (.bl true)) (xACons (xEC (.str "1")) (xACons (xETup (xACons (xEC (.int 1)) xANil)) (xACons (xELst (xACons (xEC (.int 1)) xANil)) xANil))))))) xANil))))
  (xSSeq (xSAsg 8 (xECall 2 m__law_of (xACons (xEVar 1) (xACons (xELst (xACons (xETup xANil) (xACons (xELst (xACons (xEC (.int 1)) xANil)) (xACons (xEC .non) (xACons (xEC (.int 3)) (xACons (xETup (xACons (xEC .non) xANil)) (xACons (xEBin fMul (xETup (xACons (xEC (.int 1)) xANil)) (xEC (.int 41))) (xACons (xEC (.str "1")) (xACons (xETup (xACons (xEBin fAdd (xEBin fPow (xEC (.int 10)) (xEC (.int 18))) (xEC (.int 1))) xANil)) xANil))))))))) xANil))))
  (xSSeq (xSAsg 9 (xELst (xACons (xETup (xACons (xEC (.str "drop")) (xACons (xEVar 6) (xACons (xEC .non) (xACons (xEC .non) (xACons (xEVar 4) xANil)))))) (xACons (xETup (xACons (xEC (.str "drop")) (xACons (xEVar 5) (xACons (xEVar 7) (xACons (xEC .non) (xACons (xEVar 4) xANil)))))) (xACons (xETup (xACons (xEC (.str "drop")) (xACons (xEVar 5) (xACons (xEC .non) (xACons (xEVar 7) (xACons (xEVar 4) xANil)))))) (xACons (xETup (xACons (xEC (.str "drop")) (xACons (xEVar 5) (xACons (xEC .non) (xACons (xEC .non) (xACons (xEVar 8) xANil)))))) (xACons (xETup (xACons (xEC (.str "drop")) (xACons (xEVar 5) (xACons (xEC .non) (xACons (xEC .non) xANil))))) (xACons (xETup (xACons (xEC (.str "drop")) (xACons (xEVar 5) (xACons (xEC .non) (xACons (xEC .non) (xACons (xEVar 4) (xACons (xEC (.int 0)) xANil))))))) xANil))))))))
  (xSSeq (xSAsg 9 (xEBin fAdd (xEVar 9) (xELst (xACons (xETup (xACons (xEC (.str "strike")) (xACons (xEVar 6) xANil))) (xACons (xETup (xACons (xEC (.str "back")) (xACons (xEVar 6) xANil))) (xACons (xETup (xACons (xEC (.str "strike")) xANil)) (xACons (xETup (xACons (xEC (.str "back")) (xACons (xEC (.int 1)) (xACons (xEC (.int 2)) xANil)))) (xACons (xETup (xACons (xEC (.str "number")) (xACons (xEVar 7) (xACons (xEC .non) (xACons (xETup xANil) xANil))))) (xACons (xETup (xACons (xEC (.str "number")) (xACons (xEC .non) (xACons (xEVar 7) (xACons (xETup xANil) xANil))))) (xACons (xETup (xACons (xEC (.str "number")) (xACons (xEC .non) (xACons (xEC .non) (xACons (xELst (xACons (xEVar 4) xANil)) xANil))))) (xACons (xETup (xACons (xEC (.str "number")) (xACons (xEC .non) (xACons (xEC .non) (xACons (xETup (xACons (xEVar 4) (xACons (xEVar 8) xANil))) xANil))))) xANil)))))))))))
  (xSSeq (xSAsg 9 (xEBin fAdd (xEVar 9) (xELst (xACons (xETup (xACons (xEC (.str "number")) (xACons (xEC .non) (xACons (xEC .non) xANil)))) (xACons (xETup (xACons (xEC (.str "number")) (xACons (xEC .non) (xACons (xEC .non) (xACons (xEBin fMul (xETup (xACons (xEVar 4) xANil)) (xEC (.int 41))) xANil))))) (xACons (xETup (xACons (xEC (.str "Drop")) (xACons (xEVar 5) (xACons (xEC .non) (xACons (xEC .non) (xACons (xEVar 4) xANil)))))) (xACons (xETup xANil) (xACons (xEC .non) (xACons (xEC (.int 3)) (xACons (xEC (.str "strike 1")) (xACons (xELst (xACons (xEC (.str "strike")) (xACons (xEVar 5) xANil))) (xACons (xETup (xACons (xELst (xACons (xEC (.str "strike")) xANil)) (xACons (xEVar 5) xANil))) (xACons (xETup (xACons (xEC (.str "strike")) (xACons (xEVar 5) (xACons (xEC .non) xANil)))) (xACons (xETup (xACons (xEC (.str "take")) (xACons (xEC (.int 1)) xANil))) (xACons (xETup (xACons (xEC (.int 3)) (xACons (xEC (.int 1)) xANil))) xANil)))))))))))))))
  (xSSeq (xSIf (xNotM (xTM (xECall 2 m__law_like (xACons (xShN (xECompN (xSAny (xEVar 3)) (.n 10) testY (xECall 1 m_is_deed (xACons (xEVar 10) xANil)) [10])) (xACons (xEBin fMul (xELst (xACons (xEC (.bl true)) xANil)) (xEC (.int 7))) xANil))))) (xSRet (xEC (.bl false))) xSNil)
  (xSSeq (xSIf (xNotM (xTM (xECall 2 m__law_like (xACons (xShN (xECompN (xSAny (xEVar 9)) (.n 10) testY (xECallK 0 1 [0] 1 m_is_deed xANil (xACons (xEVar 10) xANil)) [10])) (xACons (xEBin fMul (xELst (xACons (xEC (.bl false)) xANil)) (xECB bLen (xACons (xEVar 9) xANil))) xANil))))) (xSRet (xEC (.bl false))) xSNil)
  (xSFor (xSAny (xEVar 9)) (.n 10) (xSIf (xNotM (xTM (xECall 2 m__law_like (xACons (xETry okc m_suite (xECall 1 m_deed_text (xACons (xEVar 10) xANil))) (xACons (xETup (xACons (xEC (.str "InvalidDeed")) (xACons (xEC .non) xANil))) xANil))))) (xSRet (xEC (.bl false))) xSNil)))))))))))))
  (xSRet (xEC (.bl true)))))
theorem xe_law : mb_law = xb_law := by kernel_rfl
@[irreducible] noncomputable def m_law : MF := mkF 10 mb_law
theorem b_law {P : Program} {w : World} {K : PySem.W.Frag} {mg : Str → Option Value} {base : Heap} {B : Bs} {f : Addr} {cdv : Value} {A : Around} {outer : List Env} {s : Shared} {H : Hp} {E : XK} {k : Nat} {N : Ent} (hK : K = B.K) (g : Gm mg)
    (D : Bdy (cxOf (L2.CX P w) P w K mg base nm_law "law" (defScope st_law) f cdv A outer s H E) E k) (hxn : B.xn = none) {j : Nat} (hj : j + 2 ≤ k) (T_try : TryF P w K mg base B (j + 1) "_law_try" okc m_suite) (LT : LamT (cxOf (L2.CX P w) P w K mg base nm_law "law" (defScope st_law) f cdv A outer s H E) B) (F__law_open : Fn P w K mg base B k "_law_open" 1 m__law_open) (F__law_good_deeds : Fn P w K mg base B k "_law_good_deeds" 1 m__law_good_deeds) (F__law_of : Fn P w K mg base B k "_law_of" 2 m__law_of) (F__law_like : Fn P w K mg base B k "_law_like" 2 m__law_like) (F_is_deed : Fn P w K mg base B k "is_deed" 1 m_is_deed) (K_is_deed_0_value : FnK P w K mg base B k "is_deed" 0 ["value"] [0] 1 m_is_deed) (FL_deed_text : Fn P w K mg base B j "deed_text" 1 m_deed_text) :
    SimSs (cxOf (L2.CX P w) P w K mg base nm_law "law" (defScope st_law) f cdv A outer s H E) B N (fun c d _ H => E c d H) (defBody st_law) (mb_law) :=
  (simss_cons (sims_asg sc_law.nd rfl (.inl rfl) (sim_call F__law_open D.tk D.rm rfl (simA_cons (sim_var (i := 0) rfl (.inl rfl) rfl rfl) simA_nil rfl) rfl rfl rfl) rfl (.inl rfl))
  (simss_cons (sims_for D.pa hK rfl (sim_rng1 rfl g.n_range (simA_cons sim_int simA_nil rfl) rfl) (pgT_n (pg_name sc_law.nd rfl (.inl rfl) (.inl rfl))) (fun _ => (simss_cons (sims_asg sc_law.nd rfl (.inl rfl) (sim_call F__law_good_deeds D.tk D.rm rfl (simA_cons (sim_var (i := 1) rfl (.inl rfl) rfl rfl) simA_nil rfl) rfl rfl rfl) rfl (.inl rfl))
  (simss_cons (sims_par (i := 4) (j := 5) rfl sc_law.nd rfl rfl (by decide) rfl rfl (simA_cons (sim_ix hK (sim_ix hK (sim_var (i := 3) rfl (.inl rfl) rfl rfl) sim_int (fun _ _ => rfl)) sim_int (fun _ _ => rfl)) (simA_cons (sim_ix hK (sim_ix hK (sim_var (i := 3) rfl (.inl rfl) rfl rfl) sim_int (fun _ _ => rfl)) sim_int (fun _ _ => rfl)) simA_nil rfl) rfl) rfl rfl)
  (simss_cons (sims_asg sc_law.nd rfl (.inl rfl) (sim_call F__law_of D.tk D.rm rfl (simA_cons (sim_var (i := 1) rfl (.inl rfl) rfl rfl) (simA_cons (sim_lst (simA_cons sim_int (simA_cons (sim_sub sim_int sim_int) (simA_cons sim_non (simA_cons sim_bl (simA_cons (sim_str (sok_of (by decide +kernel))) (simA_cons (sim_tup (simA_cons sim_int simA_nil rfl)) simA_nil rfl) rfl) rfl) rfl) rfl) rfl)) simA_nil rfl) rfl) rfl rfl rfl) rfl (.inl rfl))
  (simss_cons (sims_asg sc_law.nd rfl (.inl rfl) (sim_call F__law_of D.tk D.rm rfl (simA_cons (sim_var (i := 1) rfl (.inl rfl) rfl rfl) (simA_cons (sim_lst (simA_cons sim_int (simA_cons (sim_sub sim_int sim_int) (simA_cons sim_bl (simA_cons (sim_str (sok_of (by decide +kernel))) (simA_cons (sim_tup (simA_cons sim_int simA_nil rfl)) (simA_cons (sim_lst (simA_cons sim_int simA_nil rfl)) simA_nil rfl) rfl) rfl) rfl) rfl) rfl)) simA_nil rfl) rfl) rfl rfl rfl) rfl (.inl rfl))
  (simss_cons (sims_asg sc_law.nd rfl (.inl rfl) (sim_call F__law_of D.tk D.rm rfl (simA_cons (sim_var (i := 1) rfl (.inl rfl) rfl rfl) (simA_cons (sim_lst (simA_cons (sim_tup simA_nil) (simA_cons (sim_lst (simA_cons sim_int simA_nil rfl)) (simA_cons sim_non (simA_cons sim_int (simA_cons (sim_tup (simA_cons sim_non simA_nil rfl)) (simA_cons (sim_mul hK (sim_tup (simA_cons sim_int simA_nil rfl)) sim_int) (simA_cons (sim_str (sok_of (by decide +kernel))) (simA_cons (sim_tup (simA_cons (sim_add hK (sim_pow sim_int sim_int) sim_int) simA_nil rfl)) simA_nil rfl) rfl) rfl) rfl) rfl) rfl) rfl) rfl)) simA_nil rfl) rfl) rfl rfl rfl) rfl (.inl rfl))
  (simss_cons (sims_asg sc_law.nd rfl (.inl rfl) (sim_lst (simA_cons (sim_tup (simA_cons (sim_str (sok_of (by decide +kernel))) (simA_cons (sim_var (i := 6) rfl (.inl rfl) rfl rfl) (simA_cons sim_non (simA_cons sim_non (simA_cons (sim_var (i := 4) rfl (.inl rfl) rfl rfl) simA_nil rfl) rfl) rfl) rfl) rfl)) (simA_cons (sim_tup (simA_cons (sim_str (sok_of (by decide +kernel))) (simA_cons (sim_var (i := 5) rfl (.inl rfl) rfl rfl) (simA_cons (sim_var (i := 7) rfl (.inl rfl) rfl rfl) (simA_cons sim_non (simA_cons (sim_var (i := 4) rfl (.inl rfl) rfl rfl) simA_nil rfl) rfl) rfl) rfl) rfl)) (simA_cons (sim_tup (simA_cons (sim_str (sok_of (by decide +kernel))) (simA_cons (sim_var (i := 5) rfl (.inl rfl) rfl rfl) (simA_cons sim_non (simA_cons (sim_var (i := 7) rfl (.inl rfl) rfl rfl) (simA_cons (sim_var (i := 4) rfl (.inl rfl) rfl rfl) simA_nil rfl) rfl) rfl) rfl) rfl)) (simA_cons (sim_tup (simA_cons (sim_str (sok_of (by decide +kernel))) (simA_cons (sim_var (i := 5) rfl (.inl rfl) rfl rfl) (simA_cons sim_non (simA_cons sim_non (simA_cons (sim_var (i := 8) rfl (.inl rfl) rfl rfl) simA_nil rfl) rfl) rfl) rfl) rfl)) (simA_cons (sim_tup (simA_cons (sim_str (sok_of (by decide +kernel))) (simA_cons (sim_var (i := 5) rfl (.inl rfl) rfl rfl) (simA_cons sim_non (simA_cons sim_non simA_nil rfl) rfl) rfl) rfl)) (simA_cons (sim_tup (simA_cons (sim_str (sok_of (by decide +kernel))) (simA_cons (sim_var (i := 5) rfl (.inl rfl) rfl rfl) (simA_cons sim_non (simA_cons sim_non (simA_cons (sim_var (i := 4) rfl (.inl rfl) rfl rfl) (simA_cons sim_int simA_nil rfl) rfl) rfl) rfl) rfl) rfl)) simA_nil rfl) rfl) rfl) rfl) rfl) rfl)) rfl (.inl rfl))
  (simss_cons (sims_asg sc_law.nd rfl (.inl rfl) (sim_add hK (sim_var (i := 9) rfl (.inl rfl) rfl rfl) (sim_lst (simA_cons (sim_tup (simA_cons (sim_str (sok_of (by decide +kernel))) (simA_cons (sim_var (i := 6) rfl (.inl rfl) rfl rfl) simA_nil rfl) rfl)) (simA_cons (sim_tup (simA_cons (sim_str (sok_of (by decide +kernel))) (simA_cons (sim_var (i := 6) rfl (.inl rfl) rfl rfl) simA_nil rfl) rfl)) (simA_cons (sim_tup (simA_cons (sim_str (sok_of (by decide +kernel))) simA_nil rfl)) (simA_cons (sim_tup (simA_cons (sim_str (sok_of (by decide +kernel))) (simA_cons sim_int (simA_cons sim_int simA_nil rfl) rfl) rfl)) (simA_cons (sim_tup (simA_cons (sim_str (sok_of (by decide +kernel))) (simA_cons (sim_var (i := 7) rfl (.inl rfl) rfl rfl) (simA_cons sim_non (simA_cons (sim_tup simA_nil) simA_nil rfl) rfl) rfl) rfl)) (simA_cons (sim_tup (simA_cons (sim_str (sok_of (by decide +kernel))) (simA_cons sim_non (simA_cons (sim_var (i := 7) rfl (.inl rfl) rfl rfl) (simA_cons (sim_tup simA_nil) simA_nil rfl) rfl) rfl) rfl)) (simA_cons (sim_tup (simA_cons (sim_str (sok_of (by decide +kernel))) (simA_cons sim_non (simA_cons sim_non (simA_cons (sim_lst (simA_cons (sim_var (i := 4) rfl (.inl rfl) rfl rfl) simA_nil rfl)) simA_nil rfl) rfl) rfl) rfl)) (simA_cons (sim_tup (simA_cons (sim_str (sok_of (by decide +kernel))) (simA_cons sim_non (simA_cons sim_non (simA_cons (sim_tup (simA_cons (sim_var (i := 4) rfl (.inl rfl) rfl rfl) (simA_cons (sim_var (i := 8) rfl (.inl rfl) rfl rfl) simA_nil rfl) rfl)) simA_nil rfl) rfl) rfl) rfl)) simA_nil rfl) rfl) rfl) rfl) rfl) rfl) rfl) rfl))) rfl (.inl rfl))
  (simss_cons (sims_asg sc_law.nd rfl (.inl rfl) (sim_add hK (sim_var (i := 9) rfl (.inl rfl) rfl rfl) (sim_lst (simA_cons (sim_tup (simA_cons (sim_str (sok_of (by decide +kernel))) (simA_cons sim_non (simA_cons sim_non simA_nil rfl) rfl) rfl)) (simA_cons (sim_tup (simA_cons (sim_str (sok_of (by decide +kernel))) (simA_cons sim_non (simA_cons sim_non (simA_cons (sim_mul hK (sim_tup (simA_cons (sim_var (i := 4) rfl (.inl rfl) rfl rfl) simA_nil rfl)) sim_int) simA_nil rfl) rfl) rfl) rfl)) (simA_cons (sim_tup (simA_cons (sim_str (sok_of (by decide +kernel))) (simA_cons (sim_var (i := 5) rfl (.inl rfl) rfl rfl) (simA_cons sim_non (simA_cons sim_non (simA_cons (sim_var (i := 4) rfl (.inl rfl) rfl rfl) simA_nil rfl) rfl) rfl) rfl) rfl)) (simA_cons (sim_tup simA_nil) (simA_cons sim_non (simA_cons sim_int (simA_cons (sim_str (sok_of (by decide +kernel))) (simA_cons (sim_lst (simA_cons (sim_str (sok_of (by decide +kernel))) (simA_cons (sim_var (i := 5) rfl (.inl rfl) rfl rfl) simA_nil rfl) rfl)) (simA_cons (sim_tup (simA_cons (sim_lst (simA_cons (sim_str (sok_of (by decide +kernel))) simA_nil rfl)) (simA_cons (sim_var (i := 5) rfl (.inl rfl) rfl rfl) simA_nil rfl) rfl)) (simA_cons (sim_tup (simA_cons (sim_str (sok_of (by decide +kernel))) (simA_cons (sim_var (i := 5) rfl (.inl rfl) rfl rfl) (simA_cons sim_non simA_nil rfl) rfl) rfl)) (simA_cons (sim_tup (simA_cons (sim_str (sok_of (by decide +kernel))) (simA_cons sim_int simA_nil rfl) rfl)) (simA_cons (sim_tup (simA_cons sim_int (simA_cons sim_int simA_nil rfl) rfl)) simA_nil rfl) rfl) rfl) rfl) rfl) rfl) rfl) rfl) rfl) rfl) rfl) rfl))) rfl (.inl rfl))
  (simss_cons (sims_if (sim_tnot (sim_truth hK (sim_call F__law_like D.tk D.rm rfl (simA_cons (SimN.sh (sim_lc (own := [("_law_one", 10)]) hK rfl sc_law.nd (sim_any hK (sim_var (i := 3) rfl (.inl rfl) rfl rfl)) (blk_of (by kernel_rfl)) (by decide) (fun _ _ _ _ _ => (pgT_n (pg_name sc_law.nd rfl (.inl rfl) (.inr rfl)))) (fun _ _ _ _ _ => simTs_nil) (fun _ _ _ _ _ => (sim_call F_is_deed (takesWF _) D.rm rfl (simA_cons (sim_var (i := 10) rfl (.inl rfl) rfl rfl) simA_nil rfl) rfl rfl rfl)) (fun _ => rfl))) (simA_cons (sim_mul hK (sim_lst (simA_cons sim_bl simA_nil rfl)) sim_int) simA_nil rfl) rfl) rfl rfl rfl) (fun _ => rfl))) (simss_one (sims_ret sim_bl)) simss_nil)
  (simss_cons (sims_if (sim_tnot (sim_truth hK (sim_call F__law_like D.tk D.rm rfl (simA_cons (SimN.sh (sim_lc (own := [("_law_one", 10)]) hK rfl sc_law.nd (sim_any hK (sim_var (i := 9) rfl (.inl rfl) rfl rfl)) (blk_of (by kernel_rfl)) (by decide) (fun _ _ _ _ _ => (pgT_n (pg_name sc_law.nd rfl (.inl rfl) (.inr rfl)))) (fun _ _ _ _ _ => simTs_nil) (fun _ _ _ _ _ => (sim_callK0 K_is_deed_0_value (takesWF _) D.rm rfl (simK_cons (sim_var (i := 10) rfl (.inl rfl) rfl rfl) simK_nil) rfl rfl rfl rfl rfl)) (fun _ => rfl))) (simA_cons (sim_mul hK (sim_lst (simA_cons sim_bl simA_nil rfl)) (sim_bi (bi_len hK) rfl g.n_len (simA_cons (sim_var (i := 9) rfl (.inl rfl) rfl rfl) simA_nil rfl) (by decide) rfl rfl rfl)) simA_nil rfl) rfl) rfl rfl rfl) (fun _ => rfl))) (simss_one (sims_ret sim_bl)) simss_nil)
  (simss_one (sims_for D.pa hK rfl (sim_any hK (sim_var (i := 9) rfl (.inl rfl) rfl rfl)) (pgT_n (pg_name sc_law.nd rfl (.inr rfl) (.inl rfl))) (fun _ => (simss_one (sims_if (sim_tnot (sim_truth hK (sim_call F__law_like D.tk D.rm rfl (simA_cons (sim_try T_try hxn LT (D.rm.mono hj) rfl (lamS_by (by kernel_rfl)) rfl (fun _ _ _ _ _ => rfl) (fun _ _ _ _ _ _ _ hrL tkL => (sim_call FL_deed_text tkL hrL rfl (simA_cons (sim_var (i := 10) rfl (.inr (.inr rfl)) rfl rfl) simA_nil rfl) rfl rfl rfl)) (Nat.le_refl _)) (simA_cons (sim_tup (simA_cons (sim_str (sok_of (by decide +kernel))) (simA_cons sim_non simA_nil rfl) rfl)) simA_nil rfl) rfl) rfl rfl rfl) (fun _ => rfl))) (simss_one (sims_ret sim_bl)) simss_nil))) (fun _ => rfl)))))))))))))) (fun _ => rfl))
  (simss_one (sims_ret sim_bl))))
end LW

set_option Elab.async false
set_option linter.all false
set_option maxRecDepth 100000
set_option maxHeartbeats 0
namespace LW
open PySem PySem.Spec PyProof.Rows L2 Lp LamX NdefX
def lsT : List ((PySem.W.Frag → Addr) × Str) := [(fun K => He.ga K "law", ("law" : Str) ++ ".<locals>." ++ "<lambda>")]
theorem fo_is_number {P : Program} {w : World} {K : PySem.W.Frag} {mg : Str → Option Value} {base : Heap} {B : Bs} (hK : K = B.K) (g : Gm mg) {fa : Addr} {fd : FuncData} (F : FunD K "is_number" "is_number" (defArgs st_is_number) (defBody st_is_number) (defScope st_is_number) [] [] fa fd)  : FnOk P w K mg base (L2.CX P w) 1 fa fd ["value", "least", "most"] (spF B 3 m_is_number) := by
  unfold m_is_number
  exact fn_ok F sc_is_number rfl rfl fun _ _ _ _ _ _ _ D => b_is_number hK g D 
theorem fo_is_key {P : Program} {w : World} {K : PySem.W.Frag} {mg : Str → Option Value} {base : Heap} {B : Bs} (hK : K = B.K) (g : Gm mg) {fa : Addr} {fd : FuncData} (F : FunD K "is_key" "is_key" (defArgs st_is_key) (defBody st_is_key) (defScope st_is_key) [] [] fa fd) (F_is_number : Fn P w K mg base B 1 "is_number" 3 m_is_number) : FnOk P w K mg base (L2.CX P w) 2 fa fd ["value"] (spF B 1 m_is_key) := by
  unfold m_is_key
  exact fn_ok F sc_is_key rfl rfl fun _ _ _ _ _ _ _ D => b_is_key hK g D F_is_number
theorem fo_is_row {P : Program} {w : World} {K : PySem.W.Frag} {mg : Str → Option Value} {base : Heap} {B : Bs} (hK : K = B.K) (g : Gm mg) {fa : Addr} {fd : FuncData} (F : FunD K "is_row" "is_row" (defArgs st_is_row) (defBody st_is_row) (defScope st_is_row) [] [] fa fd) (F_is_number : Fn P w K mg base B 1 "is_number" 3 m_is_number) : FnOk P w K mg base (L2.CX P w) 2 fa fd ["value"] (spF B 1 m_is_row) := by
  unfold m_is_row
  exact fn_ok F sc_is_row rfl rfl fun _ _ _ _ _ _ _ D => b_is_row hK g D F_is_number
theorem fo_is_side {P : Program} {w : World} {K : PySem.W.Frag} {mg : Str → Option Value} {base : Heap} {B : Bs} (hK : K = B.K) (g : Gm mg) {fa : Addr} {fd : FuncData} (F : FunD K "is_side" "is_side" (defArgs st_is_side) (defBody st_is_side) (defScope st_is_side) [] [] fa fd) (F_is_row : Fn P w K mg base B 2 "is_row" 1 m_is_row) : FnOk P w K mg base (L2.CX P w) 3 fa fd ["value"] (spF B 1 m_is_side) := by
  unfold m_is_side
  exact fn_ok F sc_is_side rfl rfl fun _ _ _ _ _ _ _ D => b_is_side hK g D F_is_row
theorem fo_is_deed {P : Program} {w : World} {K : PySem.W.Frag} {mg : Str → Option Value} {base : Heap} {B : Bs} (hK : K = B.K) (g : Gm mg) {fa : Addr} {fd : FuncData} (F : FunD K "is_deed" "is_deed" (defArgs st_is_deed) (defBody st_is_deed) (defScope st_is_deed) [] [] fa fd) (F_is_row : Fn P w K mg base B 3 "is_row" 1 m_is_row) (F_is_side : Fn P w K mg base B 3 "is_side" 1 m_is_side) (F_is_key : Fn P w K mg base B 3 "is_key" 1 m_is_key) : FnOk P w K mg base (L2.CX P w) 4 fa fd ["value"] (spF B 1 m_is_deed) := by
  unfold m_is_deed
  exact fn_ok F sc_is_deed rfl rfl fun _ _ _ _ _ _ _ D => b_is_deed hK g D F_is_row F_is_side F_is_key
theorem fo_key_text {P : Program} {w : World} {K : PySem.W.Frag} {mg : Str → Option Value} {base : Heap} {B : Bs} (hK : K = B.K) (g : Gm mg) {fa : Addr} {fd : FuncData} (F : FunD K "key_text" "key_text" (defArgs st_key_text) (defBody st_key_text) (defScope st_key_text) [] [] fa fd)  : FnOk P w K mg base (L2.CX P w) 1 fa fd ["key"] (spF B 1 m_key_text) := by
  unfold m_key_text
  exact fn_ok F sc_key_text rfl rfl fun _ _ _ _ _ _ _ D => b_key_text hK g D 
theorem fo_side_text {P : Program} {w : World} {K : PySem.W.Frag} {mg : Str → Option Value} {base : Heap} {B : Bs} (hK : K = B.K) (g : Gm mg) {fa : Addr} {fd : FuncData} (F : FunD K "side_text" "side_text" (defArgs st_side_text) (defBody st_side_text) (defScope st_side_text) [] [] fa fd)  : FnOk P w K mg base (L2.CX P w) 1 fa fd ["side"] (spF B 1 m_side_text) := by
  unfold m_side_text
  exact fn_ok F sc_side_text rfl rfl fun _ _ _ _ _ _ _ D => b_side_text hK g D 
theorem fo_deed_text {P : Program} {w : World} {K : PySem.W.Frag} {mg : Str → Option Value} {base : Heap} {B : Bs} (hK : K = B.K) (g : Gm mg) {fa : Addr} {fd : FuncData} (F : FunD K "deed_text" "deed_text" (defArgs st_deed_text) (defBody st_deed_text) (defScope st_deed_text) [] [] fa fd) (F_is_deed : Fn P w K mg base B 4 "is_deed" 1 m_is_deed) (F_key_text : Fn P w K mg base B 4 "key_text" 1 m_key_text) (F_side_text : Fn P w K mg base B 4 "side_text" 1 m_side_text) (X_InvalidDeed : ExcA P w K mg base B 4 "InvalidDeed" 0 0 fv_InvalidDeed) : FnOk P w K mg base (L2.CX P w) 5 fa fd ["deed"] (spF B 1 m_deed_text) := by
  unfold m_deed_text
  exact fn_ok F sc_deed_text rfl rfl fun _ _ _ _ _ _ _ D => b_deed_text hK g D F_is_deed F_key_text F_side_text X_InvalidDeed
theorem fo__law_open {P : Program} {w : World} {K : PySem.W.Frag} {mg : Str → Option Value} {base : Heap} {B : Bs} (hK : K = B.K) (g : Gm mg) {fa : Addr} {fd : FuncData} (F : FunD K "_law_open" "_law_open" (defArgs st__law_open) (defBody st__law_open) (defScope st__law_open) [] [] fa fd)  : FnOk P w K mg base (L2.CX P w) 1 fa fd ["_law_script"] (spF B 1 m__law_open) := by
  unfold m__law_open
  exact fn_ok F sc__law_open rfl rfl fun _ _ _ _ _ _ _ D => b__law_open hK g D 
theorem fo__law_draw {P : Program} {w : World} {K : PySem.W.Frag} {mg : Str → Option Value} {base : Heap} {B : Bs} (hK : K = B.K) (g : Gm mg) {fa : Addr} {fd : FuncData} (F : FunD K "_law_draw" "_law_draw" (defArgs st__law_draw) (defBody st__law_draw) (defScope st__law_draw) [] [] fa fd)  : FnOk P w K mg base (L2.CX P w) 1 fa fd ["_law_bag", "_law_many"] (spF B 2 m__law_draw) := by
  unfold m__law_draw
  exact fn_ok F sc__law_draw rfl rfl fun _ _ _ _ _ _ _ D => b__law_draw hK g D 
theorem fo__law_of {P : Program} {w : World} {K : PySem.W.Frag} {mg : Str → Option Value} {base : Heap} {B : Bs} (hK : K = B.K) (g : Gm mg) {fa : Addr} {fd : FuncData} (F : FunD K "_law_of" "_law_of" (defArgs st__law_of) (defBody st__law_of) (defScope st__law_of) [] [] fa fd) (F__law_draw : Fn P w K mg base B 1 "_law_draw" 2 m__law_draw) : FnOk P w K mg base (L2.CX P w) 2 fa fd ["_law_bag", "_law_things"] (spF B 2 m__law_of) := by
  unfold m__law_of
  exact fn_ok F sc__law_of rfl rfl fun _ _ _ _ _ _ _ D => b__law_of hK g D F__law_draw
theorem fr__law_like {P : Program} {w : World} {K : PySem.W.Frag} {mg : Str → Option Value} {base : Heap} {B : Bs} (hK : K = B.K) (g : Gm mg) {fa : Addr} {fd : FuncData} (F : FunD K "_law_like" "_law_like" (defArgs st__law_like) (defBody st__law_like) (defScope st__law_like) [] [] fa fd) (hm : mg "_law_like" = some (.ref fa))  : ∀ n : Nat, FnOk P w K mg base (L2.CX P w) (0 + n + 1) fa fd ["_law_found", "_law_due"] (spF B 2 (mr__law_like n))
  | 0 => fn_bad F sc__law_like
  | n + 1 => fn_ok (k := 0 + n + 1) F sc__law_like rfl rfl fun _ _ _ _ _ _ _ D => b__law_like hK g D ⟨fa, fd, _, fr__law_like hK g F hm  n, hm, F.kp, (F.bindsN fun _ _ _ _ _ _ us hl => match us, hl with | [_, _], _ => rfl)⟩
theorem fo__law_like {P : Program} {w : World} {K : PySem.W.Frag} {mg : Str → Option Value} {base : Heap} {B : Bs} (hK : K = B.K) (g : Gm mg) {fa : Addr} {fd : FuncData} (F : FunD K "_law_like" "_law_like" (defArgs st__law_like) (defBody st__law_like) (defScope st__law_like) [] [] fa fd) (hm : mg "_law_like" = some (.ref fa))  : FnOk P w K mg base (L2.CX P w) 9 fa fd ["_law_found", "_law_due"] (spF B 2 m__law_like) := by
  unfold m__law_like
  exact fr__law_like hK g F hm  8
theorem fo__law_field {P : Program} {w : World} {K : PySem.W.Frag} {mg : Str → Option Value} {base : Heap} {B : Bs} (hK : K = B.K) (g : Gm mg) {fa : Addr} {fd : FuncData} (F : FunD K "_law_field" "_law_field" (defArgs st__law_field) (defBody st__law_field) (defScope st__law_field) [] [] fa fd) (XC : XClsF K B xfl) (hm : mg "_law_field" = some (.ref fa)) (hb : L2.Binds K fd ["_law_e"] [])  : FnX P w K mg base B 1 "_law_field" 1 m__law_field := by
  unfold m__law_field
  exact fnx_ok F sc__law_field hm hb rfl rfl fun _ _ _ _ _ _ _ p c dd D => b__law_field (B := B) (c := c) (dd := dd) hK g XC D 
theorem fo__law_good_deeds {P : Program} {w : World} {K : PySem.W.Frag} {mg : Str → Option Value} {base : Heap} {B : Bs} (hK : K = B.K) (g : Gm mg) {fa : Addr} {fd : FuncData} (F : FunD K "_law_good_deeds" "_law_good_deeds" (defArgs st__law_good_deeds) (defBody st__law_good_deeds) (defScope st__law_good_deeds) [] [] fa fd) (F__law_draw : Fn P w K mg base B 2 "_law_draw" 2 m__law_draw) (F__law_of : Fn P w K mg base B 2 "_law_of" 2 m__law_of) : FnOk P w K mg base (L2.CX P w) 3 fa fd ["_law_bag"] (spF B 1 m__law_good_deeds) := by
  unfold m__law_good_deeds
  exact fn_ok F sc__law_good_deeds rfl rfl fun _ _ _ _ _ _ _ D => b__law_good_deeds hK g D F__law_draw F__law_of
theorem fo_law {P : Program} {w : World} {K : PySem.W.Frag} {mg : Str → Option Value} {base : Heap} {B : Bs} (hK : K = B.K) (g : Gm mg) {fd : FuncData} (F : FunD K "law" "law" (defArgs st_law) (defBody st_law) (defScope st_law) [] [] (He.ga K "law") fd) (hxn : B.xn = none) (TB : TabB base mg (codeAd K (He.ga K "law")) (tabAd K (He.ga K "law"))) (hT : B.T = tabT K lsT) (nd : ndT K lsT = true) (hcode : ∀ {fd : FuncData} {oc : Value} {od : Option Addr} {osl : Array (Option Value)}, K.lookup (He.ga K "law") = some ⟨oc, od, .func fd, osl⟩ → fd.code = .ref (codeAd K (He.ga K "law")))
    (T_try : TryF P w K mg base B 6 "_law_try" okc m_suite) (F__law_open : Fn P w K mg base B 9 "_law_open" 1 m__law_open) (F__law_good_deeds : Fn P w K mg base B 9 "_law_good_deeds" 1 m__law_good_deeds) (F__law_of : Fn P w K mg base B 9 "_law_of" 2 m__law_of) (F__law_like : Fn P w K mg base B 9 "_law_like" 2 m__law_like) (F_is_deed : Fn P w K mg base B 9 "is_deed" 1 m_is_deed) (K_is_deed_0_value : FnK P w K mg base B 9 "is_deed" 0 ["value"] [0] 1 m_is_deed) (FL_deed_text : Fn P w K mg base B 5 "deed_text" 1 m_deed_text) : FnOk P w K mg base (L2.CX P w) 10 (He.ga K "law") fd ["_law_script"] (spF B 1 m_law) := by
  unfold m_law
  exact fn_okL F sc_law rfl rfl hcode fun _ _ _ _ _ _ D => b_law hK g D hxn (j := 5) (by decide) T_try (lamT_of (g := fun K => He.ga K "law") TB hT nd rfl (by simp [lsT])) F__law_open F__law_good_deeds F__law_of F__law_like F_is_deed K_is_deed_0_value FL_deed_text
def d_is_number : DefL := ⟨fun K => He.ga K "is_number", "is_number", "is_number", defArgs st_is_number, defBody st_is_number, defScope st_is_number, [], [], []⟩
def d_is_key : DefL := ⟨fun K => He.ga K "is_key", "is_key", "is_key", defArgs st_is_key, defBody st_is_key, defScope st_is_key, [], [], []⟩
def d_is_row : DefL := ⟨fun K => He.ga K "is_row", "is_row", "is_row", defArgs st_is_row, defBody st_is_row, defScope st_is_row, [], [], []⟩
def d_is_side : DefL := ⟨fun K => He.ga K "is_side", "is_side", "is_side", defArgs st_is_side, defBody st_is_side, defScope st_is_side, [], [], []⟩
def d_is_deed : DefL := ⟨fun K => He.ga K "is_deed", "is_deed", "is_deed", defArgs st_is_deed, defBody st_is_deed, defScope st_is_deed, [], [], []⟩
def d_key_text : DefL := ⟨fun K => He.ga K "key_text", "key_text", "key_text", defArgs st_key_text, defBody st_key_text, defScope st_key_text, [], [], []⟩
def d_side_text : DefL := ⟨fun K => He.ga K "side_text", "side_text", "side_text", defArgs st_side_text, defBody st_side_text, defScope st_side_text, [], [], []⟩
def d_deed_text : DefL := ⟨fun K => He.ga K "deed_text", "deed_text", "deed_text", defArgs st_deed_text, defBody st_deed_text, defScope st_deed_text, [], [], []⟩
def d__law_open : DefL := ⟨fun K => He.ga K "_law_open", "_law_open", "_law_open", defArgs st__law_open, defBody st__law_open, defScope st__law_open, [], [], []⟩
def d__law_draw : DefL := ⟨fun K => He.ga K "_law_draw", "_law_draw", "_law_draw", defArgs st__law_draw, defBody st__law_draw, defScope st__law_draw, [], [], []⟩
def d__law_of : DefL := ⟨fun K => He.ga K "_law_of", "_law_of", "_law_of", defArgs st__law_of, defBody st__law_of, defScope st__law_of, [], [], []⟩
def d__law_like : DefL := ⟨fun K => He.ga K "_law_like", "_law_like", "_law_like", defArgs st__law_like, defBody st__law_like, defScope st__law_like, [], [], []⟩
def d__law_field : DefL := ⟨fun K => He.ga K "_law_field", "_law_field", "_law_field", defArgs st__law_field, defBody st__law_field, defScope st__law_field, [], [], []⟩
def d__law_try : DefL := ⟨fun K => He.ga K "_law_try", "_law_try", "_law_try", defArgs st__law_try, defBody st__law_try, defScope st__law_try, [], [], []⟩
def d__law_good_deeds : DefL := ⟨fun K => He.ga K "_law_good_deeds", "_law_good_deeds", "_law_good_deeds", defArgs st__law_good_deeds, defBody st__law_good_deeds, defScope st__law_good_deeds, [], [], []⟩
def d_law : DefL := ⟨fun K => He.ga K "law", "law", "law", defArgs st_law, defBody st_law, defScope st_law, [], [], []⟩
abbrev si_InvalidDeed : Stmt := (clsB (top 4)).getD 0 (.Pass ⟨0, 0, 0, 0⟩)
def di_InvalidDeed : DefL := ⟨fun K => He.ma K (He.ga K "InvalidDeed") "__init__", "__init__", "InvalidDeed.__init__", defArgs si_InvalidDeed, defBody si_InvalidDeed, defScope si_InvalidDeed, ["__class__"], [], []⟩
def fnT : List DefL := [d_is_number, d_is_key, d_is_row, d_is_side, d_is_deed, d_key_text, d_side_text, d_deed_text, d__law_open, d__law_draw, d__law_of, d__law_like, d__law_field, d__law_try, d__law_good_deeds, d_law, di_InvalidDeed]
def faT : List FactL := [(fun K _ => (He.Fa.glo "is_number").ok K),
  (fun K _ => (He.Fa.glo "is_key").ok K),
  (fun K _ => (He.Fa.glo "is_row").ok K),
  (fun K _ => (He.Fa.glo "is_side").ok K),
  (fun K _ => (He.Fa.glo "is_deed").ok K),
  (fun K _ => (He.Fa.glo "key_text").ok K),
  (fun K _ => (He.Fa.glo "side_text").ok K),
  (fun K _ => (He.Fa.glo "deed_text").ok K),
  (fun K _ => (He.Fa.glo "_law_open").ok K),
  (fun K _ => (He.Fa.glo "_law_draw").ok K),
  (fun K _ => (He.Fa.glo "_law_of").ok K),
  (fun K _ => (He.Fa.glo "_law_like").ok K),
  (fun K _ => (He.Fa.glo "_law_field").ok K),
  (fun K _ => (He.Fa.glo "_law_try").ok K),
  (fun K _ => (He.Fa.glo "_law_good_deeds").ok K),
  (fun K _ => (He.Fa.glo "law").ok K),
  (fun K _ => (He.Fa.free "all").ok K),
  (fun K _ => (He.Fa.free "bool").ok K),
  (fun K _ => (He.Fa.free "int").ok K),
  (fun K _ => (He.Fa.free "isinstance").ok K),
  (fun K _ => (He.Fa.free "len").ok K),
  (fun K _ => (He.Fa.free "list").ok K),
  (fun K _ => (He.Fa.free "range").ok K),
  (fun K _ => (He.Fa.free "str").ok K),
  (fun K _ => (He.Fa.free "tuple").ok K),
  (fun K _ => (He.Fa.free "zip").ok K),
  (fun K _ => (He.Fa.int "GREATEST_ROW" 39).ok K),
  (fun K _ => (He.Fa.int "MOST_LISTED" 40).ok K),
  (fun K _ => (He.Fa.int "MOST_NUMBER" 1000000000000000000).ok K),
  (fun K _ => (He.Fa.int "MOST_NUMBERS" 40).ok K),
  (fun K _ => (He.Fa.glo "DropError").ok K),
  (fun K _ => (He.Fa.glo "Missing").ok K),
  (fun K _ => (He.Fa.glo "NothingLeft").ok K),
  (fun K _ => (He.Fa.glo "InvalidDeed").ok K),
  (fun K _ => vecB K "ValueError" "ValueError.__init__" "ValueError.__new__" [.type "ValueError", .type "Exception", .type "BaseException", .type "object"] (He.ga K "InvalidDeed")),
  (fun K _ => xfsB K (He.ga K "InvalidDeed") ["code"]),
  (fun K _ => initB K (He.ga K "InvalidDeed") (He.ma K (He.ga K "InvalidDeed") "__init__")),
  (fun K _ => supB Pg K (He.ma K (He.ga K "InvalidDeed") "__init__") (He.ga K "InvalidDeed")),
  (fun K _ => decide (PySem.W.exmAny K (.ref (He.ga K "InvalidDeed")) [.ref (He.ga K "DropError"), .ref (He.ga K "Missing"), .ref (He.ga K "NothingLeft")] = some true)),
  (fun K _ => (He.Fa.free "super").ok K),
  (fun K T => tabB K T (He.ga K "law")),
  (fun K _ => ndT K lsT)]
def names0 : List PySem.Str := ["DropError", "Missing", "NothingLeft", "InvalidDeed", "MOST_NUMBERS", "MOST_NUMBER", "is_number", "is_key", "GREATEST_ROW", "MOST_LISTED", "is_row", "is_side", "is_deed", "key_text", "side_text", "deed_text", "_law_open", "_law_draw", "_law_of", "_law_like", "_law_field", "_law_try", "_law_good_deeds"]
def namesT : List PySem.Str := names0
abbrev qv : Program := PySem.W.view Rw.prog [27]
abbrev hkT : PySem.W.Hook := hookL 4 faT fnT
def obT (s : PySem.W.SharedT) : AlL := obsLG 4 faT fnT (HandSHeadRun.getT s)
theorem ob_eqT (s : PySem.W.SharedT) : obT s = hkT.obs s.abs := obsLG_eq (HandSHeadRun.getT_eq s)
theorem runT0 (w : World) : HandSHeadRun.RunEq Rw qv hkT obT 2000 namesT (w.withFollow "special-get-raises" false) := by
  intro os
  kernel_rfl
theorem runT1 (w : World) : HandSHeadRun.RunEq Rw qv hkT obT 2000 namesT (w.withFollow "special-get-raises" true) := by
  intro os
  kernel_rfl
theorem runT (w : World) : HandSHeadRun.RunEq Rw qv hkT obT 2000 namesT w := PySem.W.byRow2 "special-get-raises" runT0 runT1 w
def cadT (K : PySem.W.Frag) : Nat → Addr := fun c => match c with
  | 0 => He.ga K "InvalidDeed"
  | _ => 0
abbrev BkT (K : PySem.W.Frag) : Bs := ⟨K, cadT K, xfl, tabT K lsT, none⟩
theorem it_InvalidDeed : IniT Pg "InvalidDeed.__init__" (defArgs si_InvalidDeed) (defBody si_InvalidDeed) (defScope si_InvalidDeed) ["self"] := ⟨nscope_by (by decide +kernel), ⟨_, rfl, rfl⟩, by decide +kernel, by decide +kernel, by decide +kernel, by decide +kernel, fun _ _ _ _ _ _ _ us hl => match us, hl with | [_], _ => rfl⟩
theorem ex_InvalidDeed {w : World} {K : PySem.W.Frag} {T : List Addr} {h : Heap} {mg : Str → Option Value} {base : Heap} (X : K.In h) (G : h.Ns mainGlobals mg) (c : SaysL faT fnT K T) : ExcC Pg w K mg base (BkT K) 1 "InvalidDeed" 0 0 fv_InvalidDeed :=
  exc_of0 (B := BkT K) (c := 0) (at_ := di_InvalidDeed.at_) blt_VE rfl (c.fact 34 (f := (fun K _ => vecB K "ValueError" "ValueError.__init__" "ValueError.__new__" [.type "ValueError", .type "Exception", .type "BaseException", .type "object"] (He.ga K "InvalidDeed"))) rfl) (c.fact 35 (f := (fun K _ => xfsB K (He.ga K "InvalidDeed") ["code"])) rfl) (c.fact 36 (f := (fun K _ => initB K (He.ga K "InvalidDeed") (He.ma K (He.ga K "InvalidDeed") "__init__"))) rfl) (c.fact 37 (f := (fun K _ => supB Pg K (He.ma K (He.ga K "InvalidDeed") "__init__") (He.ga K "InvalidDeed"))) rfl) (c.def_ 16 (d := di_InvalidDeed) rfl) it_InvalidDeed (fun _ _ _ _ => ⟨_, rfl⟩)  (He.free_ok X G (c.fact 39 (f := (fun K _ => (He.Fa.free "super").ok K)) rfl)) (He.glo_ok X G (c.fact 33 (f := (fun K _ => (He.Fa.glo "InvalidDeed").ok K)) rfl)) (sok_of (by decide +kernel))
theorem xcT {K : PySem.W.Frag} {T : List Addr} (c : SaysL faT fnT K T) : XClsF K (BkT K) xfl := ⟨fun _ _ => rfl, fun cc f hf => match cc, hf with
  | 0, hf => xfsB_ok (c.fact 35 (f := (fun K _ => xfsB K (He.ga K "InvalidDeed") ["code"])) rfl) hf
  | _ + 1, hf => nomatch hf⟩
theorem okT {K : PySem.W.Frag} {T : List Addr} (c : SaysL faT fnT K T) : ∀ cc, okc cc = true → PySem.W.exmAny K (.ref ((BkT K).cad cc)) [.ref (He.ga K "DropError"), .ref (He.ga K "Missing"), .ref (He.ga K "NothingLeft")] = some true := fun cc h => match cc, h with
  | 0, _ => of_decide_eq_true (c.fact 38 (f := (fun K _ => decide (PySem.W.exmAny K (.ref (He.ga K "InvalidDeed")) [.ref (He.ga K "DropError"), .ref (He.ga K "Missing"), .ref (He.ga K "NothingLeft")] = some true))) rfl)
  | n + 1, h => absurd (of_decide_eq_true h) (by omega)
theorem fo__law_try {P : Program} {w : World} {K : PySem.W.Frag} {mg : Str → Option Value} {base : Heap} {B : Bs} (hK : K = B.K) (g : Gm mg) (hxn : B.xn = none) (XC : XClsF K B xfl) {fa : Addr} {fd : FuncData} (F : FunD K "_law_try" "_law_try" (defArgs st__law_try) (defBody st__law_try) (defScope st__law_try) [] [] fa fd) (hm : mg "_law_try" = some (.ref fa)) (hb : L2.Binds K fd ["_law_ask"] []) (h_DropError : mg "DropError" = some (.ref (He.ga K "DropError"))) (h_Missing : mg "Missing" = some (.ref (He.ga K "Missing"))) (h_NothingLeft : mg "NothingLeft" = some (.ref (He.ga K "NothingLeft"))) (hok : ∀ c, okc c = true → PySem.W.exmAny K (.ref (B.cad c)) [.ref (He.ga K "DropError"), .ref (He.ga K "Missing"), .ref (He.ga K "NothingLeft")] = some true) (F__law_field : FnX P w K mg base B 1 "_law_field" 1 m__law_field) : TryF P w K mg base B 1 "_law_try" okc m_suite :=
  try_ok F hm hb sc__law_try (by first | exact .inl rfl | exact .inr (.inl rfl) | rfl) rfl hok (fun _ _ _ _ _ => test_three ⟨rfl, rfl, .inl h_DropError⟩ ⟨rfl, rfl, .inl h_Missing⟩ ⟨rfl, rfl, .inl h_NothingLeft⟩) fun _ _ _ _ _ _ _ _ _ _ _ hrx HX => simss_one (sims_ret (sim_tup (simA_cons (sim_xf HX XC.with (sim_var (i := 1) rfl (.inl rfl) rfl rfl) rfl) (simA_cons (sim_callX F__law_field HX takes0 hrx rfl (simA_cons (sim_var (i := 1) rfl (.inl rfl) rfl rfl) simA_nil rfl) rfl rfl rfl) simA_nil rfl) rfl)))
theorem factsT {w : World} {K : PySem.W.Frag} {T : List Addr} {h : Heap} {mg : Str → Option Value} {f : Addr} (X : K.In h) (G : h.Ns mainGlobals mg) (hfa : mg ("law" : Str) = some (.ref f)) (c : SaysL faT fnT K T) :
    ∃ fd : FuncData, (∀ (s : Shared) (u : Value), BindsTo s fd ⟨[u], []⟩ [("_law_script", u)]) ∧ ∀ base : Heap, K.In base → base.Ns mainGlobals mg → (∀ p ∈ lsT, TabB base mg (codeAd K (p.1 K)) (tabAd K (p.1 K))) → FnOk Pg w K mg base (L2.CX Pg w) 10 f fd ["_law_script"] (spF (BkT K) 1 m_law) := by
  obtain ⟨fd_is_number, F_is_number⟩ := DefL.funD (d := d_is_number) (c.def_ 0 (d := d_is_number) rfl).1 (c.def_ 0 (d := d_is_number) rfl).2 rfl
  obtain ⟨fd_is_key, F_is_key⟩ := DefL.funD (d := d_is_key) (c.def_ 1 (d := d_is_key) rfl).1 (c.def_ 1 (d := d_is_key) rfl).2 rfl
  obtain ⟨fd_is_row, F_is_row⟩ := DefL.funD (d := d_is_row) (c.def_ 2 (d := d_is_row) rfl).1 (c.def_ 2 (d := d_is_row) rfl).2 rfl
  obtain ⟨fd_is_side, F_is_side⟩ := DefL.funD (d := d_is_side) (c.def_ 3 (d := d_is_side) rfl).1 (c.def_ 3 (d := d_is_side) rfl).2 rfl
  obtain ⟨fd_is_deed, F_is_deed⟩ := DefL.funD (d := d_is_deed) (c.def_ 4 (d := d_is_deed) rfl).1 (c.def_ 4 (d := d_is_deed) rfl).2 rfl
  obtain ⟨fd_key_text, F_key_text⟩ := DefL.funD (d := d_key_text) (c.def_ 5 (d := d_key_text) rfl).1 (c.def_ 5 (d := d_key_text) rfl).2 rfl
  obtain ⟨fd_side_text, F_side_text⟩ := DefL.funD (d := d_side_text) (c.def_ 6 (d := d_side_text) rfl).1 (c.def_ 6 (d := d_side_text) rfl).2 rfl
  obtain ⟨fd_deed_text, F_deed_text⟩ := DefL.funD (d := d_deed_text) (c.def_ 7 (d := d_deed_text) rfl).1 (c.def_ 7 (d := d_deed_text) rfl).2 rfl
  obtain ⟨fd__law_open, F__law_open⟩ := DefL.funD (d := d__law_open) (c.def_ 8 (d := d__law_open) rfl).1 (c.def_ 8 (d := d__law_open) rfl).2 rfl
  obtain ⟨fd__law_draw, F__law_draw⟩ := DefL.funD (d := d__law_draw) (c.def_ 9 (d := d__law_draw) rfl).1 (c.def_ 9 (d := d__law_draw) rfl).2 rfl
  obtain ⟨fd__law_of, F__law_of⟩ := DefL.funD (d := d__law_of) (c.def_ 10 (d := d__law_of) rfl).1 (c.def_ 10 (d := d__law_of) rfl).2 rfl
  obtain ⟨fd__law_like, F__law_like⟩ := DefL.funD (d := d__law_like) (c.def_ 11 (d := d__law_like) rfl).1 (c.def_ 11 (d := d__law_like) rfl).2 rfl
  obtain ⟨fd__law_field, F__law_field⟩ := DefL.funD (d := d__law_field) (c.def_ 12 (d := d__law_field) rfl).1 (c.def_ 12 (d := d__law_field) rfl).2 rfl
  obtain ⟨fd__law_try, F__law_try⟩ := DefL.funD (d := d__law_try) (c.def_ 13 (d := d__law_try) rfl).1 (c.def_ 13 (d := d__law_try) rfl).2 rfl
  obtain ⟨fd__law_good_deeds, F__law_good_deeds⟩ := DefL.funD (d := d__law_good_deeds) (c.def_ 14 (d := d__law_good_deeds) rfl).1 (c.def_ 14 (d := d__law_good_deeds) rfl).2 rfl
  obtain ⟨fd_law, F_law⟩ := DefL.funD (d := d_law) (c.def_ 15 (d := d_law) rfl).1 (c.def_ 15 (d := d_law) rfl).2 rfl
  have h_is_number : mg "is_number" = some (.ref (He.ga K "is_number")) := He.glo_ok X G (c.fact 0 (f := (fun K _ => (He.Fa.glo "is_number").ok K)) rfl)
  have h_is_key : mg "is_key" = some (.ref (He.ga K "is_key")) := He.glo_ok X G (c.fact 1 (f := (fun K _ => (He.Fa.glo "is_key").ok K)) rfl)
  have h_is_row : mg "is_row" = some (.ref (He.ga K "is_row")) := He.glo_ok X G (c.fact 2 (f := (fun K _ => (He.Fa.glo "is_row").ok K)) rfl)
  have h_is_side : mg "is_side" = some (.ref (He.ga K "is_side")) := He.glo_ok X G (c.fact 3 (f := (fun K _ => (He.Fa.glo "is_side").ok K)) rfl)
  have h_is_deed : mg "is_deed" = some (.ref (He.ga K "is_deed")) := He.glo_ok X G (c.fact 4 (f := (fun K _ => (He.Fa.glo "is_deed").ok K)) rfl)
  have h_key_text : mg "key_text" = some (.ref (He.ga K "key_text")) := He.glo_ok X G (c.fact 5 (f := (fun K _ => (He.Fa.glo "key_text").ok K)) rfl)
  have h_side_text : mg "side_text" = some (.ref (He.ga K "side_text")) := He.glo_ok X G (c.fact 6 (f := (fun K _ => (He.Fa.glo "side_text").ok K)) rfl)
  have h_deed_text : mg "deed_text" = some (.ref (He.ga K "deed_text")) := He.glo_ok X G (c.fact 7 (f := (fun K _ => (He.Fa.glo "deed_text").ok K)) rfl)
  have h__law_open : mg "_law_open" = some (.ref (He.ga K "_law_open")) := He.glo_ok X G (c.fact 8 (f := (fun K _ => (He.Fa.glo "_law_open").ok K)) rfl)
  have h__law_draw : mg "_law_draw" = some (.ref (He.ga K "_law_draw")) := He.glo_ok X G (c.fact 9 (f := (fun K _ => (He.Fa.glo "_law_draw").ok K)) rfl)
  have h__law_of : mg "_law_of" = some (.ref (He.ga K "_law_of")) := He.glo_ok X G (c.fact 10 (f := (fun K _ => (He.Fa.glo "_law_of").ok K)) rfl)
  have h__law_like : mg "_law_like" = some (.ref (He.ga K "_law_like")) := He.glo_ok X G (c.fact 11 (f := (fun K _ => (He.Fa.glo "_law_like").ok K)) rfl)
  have h__law_field : mg "_law_field" = some (.ref (He.ga K "_law_field")) := He.glo_ok X G (c.fact 12 (f := (fun K _ => (He.Fa.glo "_law_field").ok K)) rfl)
  have h__law_try : mg "_law_try" = some (.ref (He.ga K "_law_try")) := He.glo_ok X G (c.fact 13 (f := (fun K _ => (He.Fa.glo "_law_try").ok K)) rfl)
  have h__law_good_deeds : mg "_law_good_deeds" = some (.ref (He.ga K "_law_good_deeds")) := He.glo_ok X G (c.fact 14 (f := (fun K _ => (He.Fa.glo "_law_good_deeds").ok K)) rfl)
  have h_law : mg "law" = some (.ref (He.ga K "law")) := He.glo_ok X G (c.fact 15 (f := (fun K _ => (He.Fa.glo "law").ok K)) rfl)
  have h_DropError : mg "DropError" = some (.ref (He.ga K "DropError")) := He.glo_ok X G (c.fact 30 (f := (fun K _ => (He.Fa.glo "DropError").ok K)) rfl)
  have h_Missing : mg "Missing" = some (.ref (He.ga K "Missing")) := He.glo_ok X G (c.fact 31 (f := (fun K _ => (He.Fa.glo "Missing").ok K)) rfl)
  have h_NothingLeft : mg "NothingLeft" = some (.ref (He.ga K "NothingLeft")) := He.glo_ok X G (c.fact 32 (f := (fun K _ => (He.Fa.glo "NothingLeft").ok K)) rfl)
  have g : Gm mg := ⟨He.free_ok X G (c.fact 16 (f := (fun K _ => (He.Fa.free "all").ok K)) rfl),
    He.free_ok X G (c.fact 17 (f := (fun K _ => (He.Fa.free "bool").ok K)) rfl),
    He.free_ok X G (c.fact 18 (f := (fun K _ => (He.Fa.free "int").ok K)) rfl),
    He.free_ok X G (c.fact 19 (f := (fun K _ => (He.Fa.free "isinstance").ok K)) rfl),
    He.free_ok X G (c.fact 20 (f := (fun K _ => (He.Fa.free "len").ok K)) rfl),
    He.free_ok X G (c.fact 21 (f := (fun K _ => (He.Fa.free "list").ok K)) rfl),
    He.free_ok X G (c.fact 22 (f := (fun K _ => (He.Fa.free "range").ok K)) rfl),
    He.free_ok X G (c.fact 23 (f := (fun K _ => (He.Fa.free "str").ok K)) rfl),
    He.free_ok X G (c.fact 24 (f := (fun K _ => (He.Fa.free "tuple").ok K)) rfl),
    He.free_ok X G (c.fact 25 (f := (fun K _ => (He.Fa.free "zip").ok K)) rfl),
    (let ⟨t, e⟩ := He.int_ok X G (c.fact 26 (f := (fun K _ => (He.Fa.int "GREATEST_ROW" 39).ok K)) rfl); ⟨_, e, t, rfl⟩),
    (let ⟨t, e⟩ := He.int_ok X G (c.fact 27 (f := (fun K _ => (He.Fa.int "MOST_LISTED" 40).ok K)) rfl); ⟨_, e, t, rfl⟩),
    (let ⟨t, e⟩ := He.int_ok X G (c.fact 28 (f := (fun K _ => (He.Fa.int "MOST_NUMBER" 1000000000000000000).ok K)) rfl); ⟨_, e, t, rfl⟩),
    (let ⟨t, e⟩ := He.int_ok X G (c.fact 29 (f := (fun K _ => (He.Fa.int "MOST_NUMBERS" 40).ok K)) rfl); ⟨_, e, t, rfl⟩)⟩
  have e := hfa.symm.trans h_law
  obtain rfl : f = He.ga K "law" := by injection e with e; injection e
  have b := FunD.bindsA (ps := ["_law_script"]) F_law fun _ _ _ _ _ _ us hl => match us, hl with | [_], _ => rfl
  have XC := xcT c
  refine ⟨fd_law, fun s v => b s [v] rfl, fun base _ _ TBs => ?_⟩
  have X_InvalidDeed : ExcC Pg w K mg base (BkT K) 1 "InvalidDeed" 0 0 fv_InvalidDeed := ex_InvalidDeed X G c
  have O_is_number := fo_is_number (P := Pg) (w := w) (base := base) (B := BkT K) rfl g F_is_number  
  have N_is_number : Fn Pg w K mg base (BkT K) 1 "is_number" 3 m_is_number := ⟨_, _, _, O_is_number, h_is_number, F_is_number.kp, (F_is_number.bindsN fun _ _ _ _ _ _ us hl => match us, hl with | [_, _, _], _ => rfl)⟩
  have O_is_key := fo_is_key (P := Pg) (w := w) (base := base) (B := BkT K) rfl g F_is_key  (N_is_number.mono (by decide))
  have N_is_key : Fn Pg w K mg base (BkT K) 2 "is_key" 1 m_is_key := ⟨_, _, _, O_is_key, h_is_key, F_is_key.kp, (F_is_key.bindsN fun _ _ _ _ _ _ us hl => match us, hl with | [_], _ => rfl)⟩
  have O_is_row := fo_is_row (P := Pg) (w := w) (base := base) (B := BkT K) rfl g F_is_row  (N_is_number.mono (by decide))
  have N_is_row : Fn Pg w K mg base (BkT K) 2 "is_row" 1 m_is_row := ⟨_, _, _, O_is_row, h_is_row, F_is_row.kp, (F_is_row.bindsN fun _ _ _ _ _ _ us hl => match us, hl with | [_], _ => rfl)⟩
  have O_is_side := fo_is_side (P := Pg) (w := w) (base := base) (B := BkT K) rfl g F_is_side  (N_is_row.mono (by decide))
  have N_is_side : Fn Pg w K mg base (BkT K) 3 "is_side" 1 m_is_side := ⟨_, _, _, O_is_side, h_is_side, F_is_side.kp, (F_is_side.bindsN fun _ _ _ _ _ _ us hl => match us, hl with | [_], _ => rfl)⟩
  have O_is_deed := fo_is_deed (P := Pg) (w := w) (base := base) (B := BkT K) rfl g F_is_deed  (N_is_row.mono (by decide)) (N_is_side.mono (by decide)) (N_is_key.mono (by decide))
  have N_is_deed : Fn Pg w K mg base (BkT K) 4 "is_deed" 1 m_is_deed := ⟨_, _, _, O_is_deed, h_is_deed, F_is_deed.kp, (F_is_deed.bindsN fun _ _ _ _ _ _ us hl => match us, hl with | [_], _ => rfl)⟩
  have NK_is_deed_0_value : FnK Pg w K mg base (BkT K) 4 "is_deed" 0 ["value"] [0] 1 m_is_deed := ⟨_, _, _, O_is_deed, h_is_deed, F_is_deed.kp, kbn_of F_is_deed fun _ _ _ _ _ _ us ws l1 l2 => match us, ws, l1, l2 with | [], [_], _, _ => rfl⟩
  have O_key_text := fo_key_text (P := Pg) (w := w) (base := base) (B := BkT K) rfl g F_key_text  
  have N_key_text : Fn Pg w K mg base (BkT K) 1 "key_text" 1 m_key_text := ⟨_, _, _, O_key_text, h_key_text, F_key_text.kp, (F_key_text.bindsN fun _ _ _ _ _ _ us hl => match us, hl with | [_], _ => rfl)⟩
  have O_side_text := fo_side_text (P := Pg) (w := w) (base := base) (B := BkT K) rfl g F_side_text  
  have N_side_text : Fn Pg w K mg base (BkT K) 1 "side_text" 1 m_side_text := ⟨_, _, _, O_side_text, h_side_text, F_side_text.kp, (F_side_text.bindsN fun _ _ _ _ _ _ us hl => match us, hl with | [_], _ => rfl)⟩
  have O_deed_text := fo_deed_text (P := Pg) (w := w) (base := base) (B := BkT K) rfl g F_deed_text  (N_is_deed.mono (by decide)) (N_key_text.mono (by decide)) (N_side_text.mono (by decide)) ⟨1, by decide, X_InvalidDeed⟩
  have N_deed_text : Fn Pg w K mg base (BkT K) 5 "deed_text" 1 m_deed_text := ⟨_, _, _, O_deed_text, h_deed_text, F_deed_text.kp, (F_deed_text.bindsN fun _ _ _ _ _ _ us hl => match us, hl with | [_], _ => rfl)⟩
  have O__law_open := fo__law_open (P := Pg) (w := w) (base := base) (B := BkT K) rfl g F__law_open  
  have N__law_open : Fn Pg w K mg base (BkT K) 1 "_law_open" 1 m__law_open := ⟨_, _, _, O__law_open, h__law_open, F__law_open.kp, (F__law_open.bindsN fun _ _ _ _ _ _ us hl => match us, hl with | [_], _ => rfl)⟩
  have O__law_draw := fo__law_draw (P := Pg) (w := w) (base := base) (B := BkT K) rfl g F__law_draw  
  have N__law_draw : Fn Pg w K mg base (BkT K) 1 "_law_draw" 2 m__law_draw := ⟨_, _, _, O__law_draw, h__law_draw, F__law_draw.kp, (F__law_draw.bindsN fun _ _ _ _ _ _ us hl => match us, hl with | [_, _], _ => rfl)⟩
  have O__law_of := fo__law_of (P := Pg) (w := w) (base := base) (B := BkT K) rfl g F__law_of  (N__law_draw.mono (by decide))
  have N__law_of : Fn Pg w K mg base (BkT K) 2 "_law_of" 2 m__law_of := ⟨_, _, _, O__law_of, h__law_of, F__law_of.kp, (F__law_of.bindsN fun _ _ _ _ _ _ us hl => match us, hl with | [_, _], _ => rfl)⟩
  have O__law_like := fo__law_like (P := Pg) (w := w) (base := base) (B := BkT K) rfl g F__law_like h__law_like 
  have N__law_like : Fn Pg w K mg base (BkT K) 9 "_law_like" 2 m__law_like := ⟨_, _, _, O__law_like, h__law_like, F__law_like.kp, (F__law_like.bindsN fun _ _ _ _ _ _ us hl => match us, hl with | [_, _], _ => rfl)⟩
  have O__law_field := fo__law_field (P := Pg) (w := w) (base := base) (B := BkT K) rfl g F__law_field XC h__law_field (F__law_field.bindsN fun _ _ _ _ _ _ us hl => match us, hl with | [_], _ => rfl) 
  have T_try := fo__law_try (P := Pg) (w := w) (base := base) (B := BkT K) rfl g rfl XC F__law_try h__law_try (F__law_try.bindsN fun _ _ _ _ _ _ us hl => match us, hl with | [_], _ => rfl) h_DropError h_Missing h_NothingLeft (okT c) O__law_field
  have O__law_good_deeds := fo__law_good_deeds (P := Pg) (w := w) (base := base) (B := BkT K) rfl g F__law_good_deeds  (N__law_draw.mono (by decide)) (N__law_of.mono (by decide))
  have N__law_good_deeds : Fn Pg w K mg base (BkT K) 3 "_law_good_deeds" 1 m__law_good_deeds := ⟨_, _, _, O__law_good_deeds, h__law_good_deeds, F__law_good_deeds.kp, (F__law_good_deeds.bindsN fun _ _ _ _ _ _ us hl => match us, hl with | [_], _ => rfl)⟩
  have O_law := fo_law (P := Pg) (w := w) (base := base) (B := BkT K) rfl g F_law rfl (TBs (fun K => He.ga K "law", ("law" : Str) ++ ".<locals>." ++ "<lambda>") (by simp [lsT])) rfl (c.fact 41 (f := (fun K _ => ndT K lsT)) rfl) (tabB_ok (c.fact 40 (f := (fun K T => tabB K T (He.ga K "law"))) rfl)).2.2.1 (T_try.mono (by decide)) (N__law_open.mono (by decide)) (N__law_good_deeds.mono (by decide)) (N__law_of.mono (by decide)) (N__law_like.mono (by decide)) (N_is_deed.mono (by decide)) (NK_is_deed_0_value.mono (by decide)) (N_deed_text.mono (by decide))
  exact O_law
theorem tabsT (K : PySem.W.Frag) (T : List Addr) (c : SaysL faT fnT K T) : ∀ p ∈ lsT, tabB K T (p.1 K) = true := fun p hp => by
  unfold lsT at hp
  rcases List.mem_cons.mp hp with rfl | hp
  · exact (c.fact 40 (f := (fun K T => tabB K T (He.ga K "law"))) rfl)
  cases hp
end LW

set_option Elab.async false
set_option linter.all false
set_option maxRecDepth 100000
set_option maxHeartbeats 4000000
namespace LW
open PySem PySem.Spec PyProof.Rows L2 Lp
section
theorem draw_eq : m__law_draw = drawM := by unfold m__law_draw drawM; rfl
theorem of_eq : m__law_of = ofM := by
  unfold m__law_of ofM mb__law_of
  rw [draw_eq]; rfl
/-- is_number -/
def numB (a b : Int) : PV → Bool
  | .int i => decide (a ≤ i) && decide (i ≤ b)
  | _ => false
theorem is_number_spec {v : PV} {a b : Int} {h : AH} (p : Pl v) : (m_is_number [v, .int a, .int b] h).post (fun r h' => r = .bl (numB a b v) ∧ h' = h) NE := by
  unfold m_is_number
  rw [xe_is_number]
  unfold xb_is_number
  refine p_mkF [some v, some (.int a), some (.int b)] rfl ?_
  (repeat (first | refine p_var rfl ?_ | refine p_c ?_ | refine p_bin ?_ | refine p_cons ?_ | refine p_nil ?_ | refine p_seq ?_ | refine p_asg ?_ | refine p_sif ?_ | refine p_ret ?_ | refine p_bM ?_ | refine p_tM ?_ | refine p_cb ?_ | refine p_andM ?_ | refine p_orM ?_ | refine p_notM ?_ | refine p_chain ?_ | refine p_andV ?_ | refine p_orV ?_ | refine p_notV ?_ | refine p_ifM ?_ | refine p_tup ?_ | refine p_lst ?_ | refine p_call ?_ | refine p_callK ?_ | refine ⟨⟨⟨rfl, rfl⟩, rfl, rfl⟩, ⟨rfl, rfl⟩, ?_⟩ | refine p_setB ?_ | refine p_sl ?_ | refine p_osome ?_ | refine p_onone ?_ | refine p_snil ?_ | refine p_sexpr ?_ | refine p_retN ?_ | refine p_par ?_ | refine p_sh ?_ | refine p_brt rfl ?_ | refine p_brf rfl ?_ | refine ⟨_, rfl, ?_⟩ | refine ⟨⟨rfl, rfl⟩, ?_⟩ | refine ⟨⟨rfl, Nat.le_of_ble_eq_true rfl⟩, ?_⟩ | refine ⟨_, _, _, _, rfl, hn, rfl, rfl, ?_⟩ | (refine ⟨_, _, rfl, ⟨rfl, rfl⟩, ?_⟩; try dsimp only [wipeE, List.set_cons_succ, List.set_cons_zero]) | (refine ⟨rfl, ?_⟩; try dsimp only [wipeE, List.set_cons_succ, List.set_cons_zero]) | refine ⟨_, isi_p p rfl, ?_⟩))
  cases v with
  | int i =>
    (repeat (first | refine p_var rfl ?_ | refine p_c ?_ | refine p_bin ?_ | refine p_cons ?_ | refine p_nil ?_ | refine p_seq ?_ | refine p_asg ?_ | refine p_sif ?_ | refine p_ret ?_ | refine p_bM ?_ | refine p_tM ?_ | refine p_cb ?_ | refine p_andM ?_ | refine p_orM ?_ | refine p_notM ?_ | refine p_chain ?_ | refine p_andV ?_ | refine p_orV ?_ | refine p_notV ?_ | refine p_ifM ?_ | refine p_tup ?_ | refine p_lst ?_ | refine p_call ?_ | refine p_callK ?_ | refine ⟨⟨⟨rfl, rfl⟩, rfl, rfl⟩, ⟨rfl, rfl⟩, ?_⟩ | refine p_setB ?_ | refine p_sl ?_ | refine p_osome ?_ | refine p_onone ?_ | refine p_snil ?_ | refine p_sexpr ?_ | refine p_retN ?_ | refine p_par ?_ | refine p_sh ?_ | refine p_brt rfl ?_ | refine p_brf rfl ?_ | refine ⟨_, rfl, ?_⟩ | refine ⟨⟨rfl, rfl⟩, ?_⟩ | refine ⟨⟨rfl, Nat.le_of_ble_eq_true rfl⟩, ?_⟩ | refine ⟨_, _, _, _, rfl, hn, rfl, rfl, ?_⟩ | (refine ⟨_, _, rfl, ⟨rfl, rfl⟩, ?_⟩; try dsimp only [wipeE, List.set_cons_succ, List.set_cons_zero]) | (refine ⟨rfl, ?_⟩; try dsimp only [wipeE, List.set_cons_succ, List.set_cons_zero])))
    refine p_br (fun h3 => ?_) fun h3 => ?_
    · (repeat (first | refine p_var rfl ?_ | refine p_c ?_ | refine p_bin ?_ | refine p_cons ?_ | refine p_nil ?_ | refine p_seq ?_ | refine p_asg ?_ | refine p_sif ?_ | refine p_ret ?_ | refine p_bM ?_ | refine p_tM ?_ | refine p_cb ?_ | refine p_andM ?_ | refine p_orM ?_ | refine p_notM ?_ | refine p_chain ?_ | refine p_andV ?_ | refine p_orV ?_ | refine p_notV ?_ | refine p_ifM ?_ | refine p_tup ?_ | refine p_lst ?_ | refine p_call ?_ | refine p_callK ?_ | refine ⟨⟨⟨rfl, rfl⟩, rfl, rfl⟩, ⟨rfl, rfl⟩, ?_⟩ | refine p_setB ?_ | refine p_sl ?_ | refine p_osome ?_ | refine p_onone ?_ | refine p_snil ?_ | refine p_sexpr ?_ | refine p_retN ?_ | refine p_par ?_ | refine p_sh ?_ | refine p_brt rfl ?_ | refine p_brf rfl ?_ | refine ⟨_, rfl, ?_⟩ | refine ⟨⟨rfl, rfl⟩, ?_⟩ | refine ⟨⟨rfl, Nat.le_of_ble_eq_true rfl⟩, ?_⟩ | refine ⟨_, _, _, _, rfl, hn, rfl, rfl, ?_⟩ | (refine ⟨_, _, rfl, ⟨rfl, rfl⟩, ?_⟩; try dsimp only [wipeE, List.set_cons_succ, List.set_cons_zero]) | (refine ⟨rfl, ?_⟩; try dsimp only [wipeE, List.set_cons_succ, List.set_cons_zero])))
      show PV.bl (decide (i ≤ b)) = .bl (decide (a ≤ i) && decide (i ≤ b)) ∧ h = h
      have h3 : decide (a ≤ i) = true := h3
      rw [h3]; exact ⟨rfl, rfl⟩
    · (repeat (first | refine p_var rfl ?_ | refine p_c ?_ | refine p_bin ?_ | refine p_cons ?_ | refine p_nil ?_ | refine p_seq ?_ | refine p_asg ?_ | refine p_sif ?_ | refine p_ret ?_ | refine p_bM ?_ | refine p_tM ?_ | refine p_cb ?_ | refine p_andM ?_ | refine p_orM ?_ | refine p_notM ?_ | refine p_chain ?_ | refine p_andV ?_ | refine p_orV ?_ | refine p_notV ?_ | refine p_ifM ?_ | refine p_tup ?_ | refine p_lst ?_ | refine p_call ?_ | refine p_callK ?_ | refine ⟨⟨⟨rfl, rfl⟩, rfl, rfl⟩, ⟨rfl, rfl⟩, ?_⟩ | refine p_setB ?_ | refine p_sl ?_ | refine p_osome ?_ | refine p_onone ?_ | refine p_snil ?_ | refine p_sexpr ?_ | refine p_retN ?_ | refine p_par ?_ | refine p_sh ?_ | refine p_brt rfl ?_ | refine p_brf rfl ?_ | refine ⟨_, rfl, ?_⟩ | refine ⟨⟨rfl, rfl⟩, ?_⟩ | refine ⟨⟨rfl, Nat.le_of_ble_eq_true rfl⟩, ?_⟩ | refine ⟨_, _, _, _, rfl, hn, rfl, rfl, ?_⟩ | (refine ⟨_, _, rfl, ⟨rfl, rfl⟩, ?_⟩; try dsimp only [wipeE, List.set_cons_succ, List.set_cons_zero]) | (refine ⟨rfl, ?_⟩; try dsimp only [wipeE, List.set_cons_succ, List.set_cons_zero])))
      show PV.bl false = .bl (decide (a ≤ i) && decide (i ≤ b)) ∧ h = h
      have h3 : decide (a ≤ i) = false := h3
      rw [h3]; exact ⟨rfl, rfl⟩
  | bl k =>
    (repeat (first | refine p_var rfl ?_ | refine p_c ?_ | refine p_bin ?_ | refine p_cons ?_ | refine p_nil ?_ | refine p_seq ?_ | refine p_asg ?_ | refine p_sif ?_ | refine p_ret ?_ | refine p_bM ?_ | refine p_tM ?_ | refine p_cb ?_ | refine p_andM ?_ | refine p_orM ?_ | refine p_notM ?_ | refine p_chain ?_ | refine p_andV ?_ | refine p_orV ?_ | refine p_notV ?_ | refine p_ifM ?_ | refine p_tup ?_ | refine p_lst ?_ | refine p_call ?_ | refine p_callK ?_ | refine ⟨⟨⟨rfl, rfl⟩, rfl, rfl⟩, ⟨rfl, rfl⟩, ?_⟩ | refine p_setB ?_ | refine p_sl ?_ | refine p_osome ?_ | refine p_onone ?_ | refine p_snil ?_ | refine p_sexpr ?_ | refine p_retN ?_ | refine p_par ?_ | refine p_sh ?_ | refine p_brt rfl ?_ | refine p_brf rfl ?_ | refine ⟨_, rfl, ?_⟩ | refine ⟨⟨rfl, rfl⟩, ?_⟩ | refine ⟨⟨rfl, Nat.le_of_ble_eq_true rfl⟩, ?_⟩ | refine ⟨_, _, _, _, rfl, hn, rfl, rfl, ?_⟩ | (refine ⟨_, _, rfl, ⟨rfl, rfl⟩, ?_⟩; try dsimp only [wipeE, List.set_cons_succ, List.set_cons_zero]) | (refine ⟨rfl, ?_⟩; try dsimp only [wipeE, List.set_cons_succ, List.set_cons_zero]) | refine ⟨_, isi_p p rfl, ?_⟩))
  | non => (repeat (first | refine p_var rfl ?_ | refine p_c ?_ | refine p_bin ?_ | refine p_cons ?_ | refine p_nil ?_ | refine p_seq ?_ | refine p_asg ?_ | refine p_sif ?_ | refine p_ret ?_ | refine p_bM ?_ | refine p_tM ?_ | refine p_cb ?_ | refine p_andM ?_ | refine p_orM ?_ | refine p_notM ?_ | refine p_chain ?_ | refine p_andV ?_ | refine p_orV ?_ | refine p_notV ?_ | refine p_ifM ?_ | refine p_tup ?_ | refine p_lst ?_ | refine p_call ?_ | refine p_callK ?_ | refine ⟨⟨⟨rfl, rfl⟩, rfl, rfl⟩, ⟨rfl, rfl⟩, ?_⟩ | refine p_setB ?_ | refine p_sl ?_ | refine p_osome ?_ | refine p_onone ?_ | refine p_snil ?_ | refine p_sexpr ?_ | refine p_retN ?_ | refine p_par ?_ | refine p_sh ?_ | refine p_brt rfl ?_ | refine p_brf rfl ?_ | refine ⟨_, rfl, ?_⟩ | refine ⟨⟨rfl, rfl⟩, ?_⟩ | refine ⟨⟨rfl, Nat.le_of_ble_eq_true rfl⟩, ?_⟩ | refine ⟨_, _, _, _, rfl, hn, rfl, rfl, ?_⟩ | (refine ⟨_, _, rfl, ⟨rfl, rfl⟩, ?_⟩; try dsimp only [wipeE, List.set_cons_succ, List.set_cons_zero]) | (refine ⟨rfl, ?_⟩; try dsimp only [wipeE, List.set_cons_succ, List.set_cons_zero])))
  | str x => (repeat (first | refine p_var rfl ?_ | refine p_c ?_ | refine p_bin ?_ | refine p_cons ?_ | refine p_nil ?_ | refine p_seq ?_ | refine p_asg ?_ | refine p_sif ?_ | refine p_ret ?_ | refine p_bM ?_ | refine p_tM ?_ | refine p_cb ?_ | refine p_andM ?_ | refine p_orM ?_ | refine p_notM ?_ | refine p_chain ?_ | refine p_andV ?_ | refine p_orV ?_ | refine p_notV ?_ | refine p_ifM ?_ | refine p_tup ?_ | refine p_lst ?_ | refine p_call ?_ | refine p_callK ?_ | refine ⟨⟨⟨rfl, rfl⟩, rfl, rfl⟩, ⟨rfl, rfl⟩, ?_⟩ | refine p_setB ?_ | refine p_sl ?_ | refine p_osome ?_ | refine p_onone ?_ | refine p_snil ?_ | refine p_sexpr ?_ | refine p_retN ?_ | refine p_par ?_ | refine p_sh ?_ | refine p_brt rfl ?_ | refine p_brf rfl ?_ | refine ⟨_, rfl, ?_⟩ | refine ⟨⟨rfl, rfl⟩, ?_⟩ | refine ⟨⟨rfl, Nat.le_of_ble_eq_true rfl⟩, ?_⟩ | refine ⟨_, _, _, _, rfl, hn, rfl, rfl, ?_⟩ | (refine ⟨_, _, rfl, ⟨rfl, rfl⟩, ?_⟩; try dsimp only [wipeE, List.set_cons_succ, List.set_cons_zero]) | (refine ⟨rfl, ?_⟩; try dsimp only [wipeE, List.set_cons_succ, List.set_cons_zero])))
  | tup xs => (repeat (first | refine p_var rfl ?_ | refine p_c ?_ | refine p_bin ?_ | refine p_cons ?_ | refine p_nil ?_ | refine p_seq ?_ | refine p_asg ?_ | refine p_sif ?_ | refine p_ret ?_ | refine p_bM ?_ | refine p_tM ?_ | refine p_cb ?_ | refine p_andM ?_ | refine p_orM ?_ | refine p_notM ?_ | refine p_chain ?_ | refine p_andV ?_ | refine p_orV ?_ | refine p_notV ?_ | refine p_ifM ?_ | refine p_tup ?_ | refine p_lst ?_ | refine p_call ?_ | refine p_callK ?_ | refine ⟨⟨⟨rfl, rfl⟩, rfl, rfl⟩, ⟨rfl, rfl⟩, ?_⟩ | refine p_setB ?_ | refine p_sl ?_ | refine p_osome ?_ | refine p_onone ?_ | refine p_snil ?_ | refine p_sexpr ?_ | refine p_retN ?_ | refine p_par ?_ | refine p_sh ?_ | refine p_brt rfl ?_ | refine p_brf rfl ?_ | refine ⟨_, rfl, ?_⟩ | refine ⟨⟨rfl, rfl⟩, ?_⟩ | refine ⟨⟨rfl, Nat.le_of_ble_eq_true rfl⟩, ?_⟩ | refine ⟨_, _, _, _, rfl, hn, rfl, rfl, ?_⟩ | (refine ⟨_, _, rfl, ⟨rfl, rfl⟩, ?_⟩; try dsimp only [wipeE, List.set_cons_succ, List.set_cons_zero]) | (refine ⟨rfl, ?_⟩; try dsimp only [wipeE, List.set_cons_succ, List.set_cons_zero])))
  | lst xs => (repeat (first | refine p_var rfl ?_ | refine p_c ?_ | refine p_bin ?_ | refine p_cons ?_ | refine p_nil ?_ | refine p_seq ?_ | refine p_asg ?_ | refine p_sif ?_ | refine p_ret ?_ | refine p_bM ?_ | refine p_tM ?_ | refine p_cb ?_ | refine p_andM ?_ | refine p_orM ?_ | refine p_notM ?_ | refine p_chain ?_ | refine p_andV ?_ | refine p_orV ?_ | refine p_notV ?_ | refine p_ifM ?_ | refine p_tup ?_ | refine p_lst ?_ | refine p_call ?_ | refine p_callK ?_ | refine ⟨⟨⟨rfl, rfl⟩, rfl, rfl⟩, ⟨rfl, rfl⟩, ?_⟩ | refine p_setB ?_ | refine p_sl ?_ | refine p_osome ?_ | refine p_onone ?_ | refine p_snil ?_ | refine p_sexpr ?_ | refine p_retN ?_ | refine p_par ?_ | refine p_sh ?_ | refine p_brt rfl ?_ | refine p_brf rfl ?_ | refine ⟨_, rfl, ?_⟩ | refine ⟨⟨rfl, rfl⟩, ?_⟩ | refine ⟨⟨rfl, Nat.le_of_ble_eq_true rfl⟩, ?_⟩ | refine ⟨_, _, _, _, rfl, hn, rfl, rfl, ?_⟩ | (refine ⟨_, _, rfl, ⟨rfl, rfl⟩, ?_⟩; try dsimp only [wipeE, List.set_cons_succ, List.set_cons_zero]) | (refine ⟨rfl, ?_⟩; try dsimp only [wipeE, List.set_cons_succ, List.set_cons_zero])))
  | _ => exact p.elim
def keyB : PV → Bool
  | .tup xs => (decide (1 ≤ (xs.length : Int)) && decide ((xs.length : Int) ≤ 40)) && (xs.map (numB (0 - 1000000000000000000) 1000000000000000000)).all fun b => b
  | _ => false
theorem is_key_spec {v : PV} {h : AH} (p : Pl v) (ps : ∀ xs, v = .tup xs → ∀ x ∈ xs, Pl x) : (m_is_key [v] h).post (fun r h' => r = .bl (keyB v) ∧ h' = h) NE := by
  unfold m_is_key
  rw [xe_is_key]
  unfold xb_is_key
  refine p_mkF [some v, none] rfl ?_
  (repeat (first | refine p_var rfl ?_ | refine p_c ?_ | refine p_bin ?_ | refine p_cons ?_ | refine p_nil ?_ | refine p_seq ?_ | refine p_asg ?_ | refine p_sif ?_ | refine p_ret ?_ | refine p_bM ?_ | refine p_tM ?_ | refine p_cb ?_ | refine p_andM ?_ | refine p_orM ?_ | refine p_notM ?_ | refine p_chain ?_ | refine p_andV ?_ | refine p_orV ?_ | refine p_notV ?_ | refine p_ifM ?_ | refine p_tup ?_ | refine p_lst ?_ | refine p_call ?_ | refine p_callK ?_ | refine ⟨⟨⟨rfl, rfl⟩, rfl, rfl⟩, ⟨rfl, rfl⟩, ?_⟩ | refine p_setB ?_ | refine p_sl ?_ | refine p_osome ?_ | refine p_onone ?_ | refine p_snil ?_ | refine p_sexpr ?_ | refine p_retN ?_ | refine p_par ?_ | refine p_sh ?_ | refine p_brt rfl ?_ | refine p_brf rfl ?_ | refine ⟨_, rfl, ?_⟩ | refine ⟨⟨rfl, rfl⟩, ?_⟩ | refine ⟨⟨rfl, Nat.le_of_ble_eq_true rfl⟩, ?_⟩ | refine ⟨_, _, _, _, rfl, hn, rfl, rfl, ?_⟩ | (refine ⟨_, _, rfl, ⟨rfl, rfl⟩, ?_⟩; try dsimp only [wipeE, List.set_cons_succ, List.set_cons_zero]) | (refine ⟨rfl, ?_⟩; try dsimp only [wipeE, List.set_cons_succ, List.set_cons_zero]) | refine ⟨_, isi_p p rfl, ?_⟩))
  cases v with
  | tup xs =>
    have px := ps xs rfl
    (repeat (first | refine p_var rfl ?_ | refine p_c ?_ | refine p_bin ?_ | refine p_cons ?_ | refine p_nil ?_ | refine p_seq ?_ | refine p_asg ?_ | refine p_sif ?_ | refine p_ret ?_ | refine p_bM ?_ | refine p_tM ?_ | refine p_cb ?_ | refine p_andM ?_ | refine p_orM ?_ | refine p_notM ?_ | refine p_chain ?_ | refine p_andV ?_ | refine p_orV ?_ | refine p_notV ?_ | refine p_ifM ?_ | refine p_tup ?_ | refine p_lst ?_ | refine p_call ?_ | refine p_callK ?_ | refine ⟨⟨⟨rfl, rfl⟩, rfl, rfl⟩, ⟨rfl, rfl⟩, ?_⟩ | refine p_setB ?_ | refine p_sl ?_ | refine p_osome ?_ | refine p_onone ?_ | refine p_snil ?_ | refine p_sexpr ?_ | refine p_retN ?_ | refine p_par ?_ | refine p_sh ?_ | refine p_brt rfl ?_ | refine p_brf rfl ?_ | refine ⟨_, rfl, ?_⟩ | refine ⟨⟨rfl, rfl⟩, ?_⟩ | refine ⟨⟨rfl, Nat.le_of_ble_eq_true rfl⟩, ?_⟩ | refine ⟨_, _, _, _, rfl, hn, rfl, rfl, ?_⟩ | (refine ⟨_, _, rfl, ⟨rfl, rfl⟩, ?_⟩; try dsimp only [wipeE, List.set_cons_succ, List.set_cons_zero]) | (refine ⟨rfl, ?_⟩; try dsimp only [wipeE, List.set_cons_succ, List.set_cons_zero])))
    refine p_br (fun h1 => ?_) fun h1 => ?_
    · (repeat (first | refine p_var rfl ?_ | refine p_c ?_ | refine p_bin ?_ | refine p_cons ?_ | refine p_nil ?_ | refine p_seq ?_ | refine p_asg ?_ | refine p_sif ?_ | refine p_ret ?_ | refine p_bM ?_ | refine p_tM ?_ | refine p_cb ?_ | refine p_andM ?_ | refine p_orM ?_ | refine p_notM ?_ | refine p_chain ?_ | refine p_andV ?_ | refine p_orV ?_ | refine p_notV ?_ | refine p_ifM ?_ | refine p_tup ?_ | refine p_lst ?_ | refine p_call ?_ | refine p_callK ?_ | refine ⟨⟨⟨rfl, rfl⟩, rfl, rfl⟩, ⟨rfl, rfl⟩, ?_⟩ | refine p_setB ?_ | refine p_sl ?_ | refine p_osome ?_ | refine p_onone ?_ | refine p_snil ?_ | refine p_sexpr ?_ | refine p_retN ?_ | refine p_par ?_ | refine p_sh ?_ | refine p_brt rfl ?_ | refine p_brf rfl ?_ | refine ⟨_, rfl, ?_⟩ | refine ⟨⟨rfl, rfl⟩, ?_⟩ | refine ⟨⟨rfl, Nat.le_of_ble_eq_true rfl⟩, ?_⟩ | refine ⟨_, _, _, _, rfl, hn, rfl, rfl, ?_⟩ | (refine ⟨_, _, rfl, ⟨rfl, rfl⟩, ?_⟩; try dsimp only [wipeE, List.set_cons_succ, List.set_cons_zero]) | (refine ⟨rfl, ?_⟩; try dsimp only [wipeE, List.set_cons_succ, List.set_cons_zero])))
      have h1 : decide (1 ≤ (xs.length : Int)) = true := h1
      refine p_br (fun h2 => ?_) fun h2 => ?_
      · have h2 : (!decide ((xs.length : Int) ≤ 40)) = true := h2
        (repeat (first | refine p_var rfl ?_ | refine p_c ?_ | refine p_bin ?_ | refine p_cons ?_ | refine p_nil ?_ | refine p_seq ?_ | refine p_asg ?_ | refine p_sif ?_ | refine p_ret ?_ | refine p_bM ?_ | refine p_tM ?_ | refine p_cb ?_ | refine p_andM ?_ | refine p_orM ?_ | refine p_notM ?_ | refine p_chain ?_ | refine p_andV ?_ | refine p_orV ?_ | refine p_notV ?_ | refine p_ifM ?_ | refine p_tup ?_ | refine p_lst ?_ | refine p_call ?_ | refine p_callK ?_ | refine ⟨⟨⟨rfl, rfl⟩, rfl, rfl⟩, ⟨rfl, rfl⟩, ?_⟩ | refine p_setB ?_ | refine p_sl ?_ | refine p_osome ?_ | refine p_onone ?_ | refine p_snil ?_ | refine p_sexpr ?_ | refine p_retN ?_ | refine p_par ?_ | refine p_sh ?_ | refine p_brt rfl ?_ | refine p_brf rfl ?_ | refine ⟨_, rfl, ?_⟩ | refine ⟨⟨rfl, rfl⟩, ?_⟩ | refine ⟨⟨rfl, Nat.le_of_ble_eq_true rfl⟩, ?_⟩ | refine ⟨_, _, _, _, rfl, hn, rfl, rfl, ?_⟩ | (refine ⟨_, _, rfl, ⟨rfl, rfl⟩, ?_⟩; try dsimp only [wipeE, List.set_cons_succ, List.set_cons_zero]) | (refine ⟨rfl, ?_⟩; try dsimp only [wipeE, List.set_cons_succ, List.set_cons_zero])))
        show PV.bl false = .bl (decide (1 ≤ (xs.length : Int)) && decide ((xs.length : Int) ≤ 40) && (xs.map (numB (0 - 1000000000000000000) 1000000000000000000)).all fun b => b) ∧ h = h
        rw [show decide ((xs.length : Int) ≤ 40) = false by simpa using h2, Bool.and_false, Bool.false_and]
        exact ⟨rfl, rfl⟩
      · have h2 : (!decide ((xs.length : Int) ≤ 40)) = false := h2
        (repeat (first | refine p_var rfl ?_ | refine p_c ?_ | refine p_bin ?_ | refine p_cons ?_ | refine p_nil ?_ | refine p_seq ?_ | refine p_asg ?_ | refine p_sif ?_ | refine p_ret ?_ | refine p_bM ?_ | refine p_tM ?_ | refine p_cb ?_ | refine p_andM ?_ | refine p_orM ?_ | refine p_notM ?_ | refine p_chain ?_ | refine p_andV ?_ | refine p_orV ?_ | refine p_notV ?_ | refine p_ifM ?_ | refine p_tup ?_ | refine p_lst ?_ | refine p_call ?_ | refine p_callK ?_ | refine ⟨⟨⟨rfl, rfl⟩, rfl, rfl⟩, ⟨rfl, rfl⟩, ?_⟩ | refine p_setB ?_ | refine p_sl ?_ | refine p_osome ?_ | refine p_onone ?_ | refine p_snil ?_ | refine p_sexpr ?_ | refine p_retN ?_ | refine p_par ?_ | refine p_sh ?_ | refine p_brt rfl ?_ | refine p_brf rfl ?_ | refine ⟨_, rfl, ?_⟩ | refine ⟨⟨rfl, rfl⟩, ?_⟩ | refine ⟨⟨rfl, Nat.le_of_ble_eq_true rfl⟩, ?_⟩ | refine ⟨_, _, _, _, rfl, hn, rfl, rfl, ?_⟩ | (refine ⟨_, _, rfl, ⟨rfl, rfl⟩, ?_⟩; try dsimp only [wipeE, List.set_cons_succ, List.set_cons_zero]) | (refine ⟨rfl, ?_⟩; try dsimp only [wipeE, List.set_cons_succ, List.set_cons_zero])))
        refine p_compMap (p_any (p_var rfl ⟨_, rfl, rfl, fun v => .bl (numB (0 - 1000000000000000000) 1000000000000000000 v), fun v hv => ⟨_, if_neg (by rw [pl_own (px v hv)]; decide), ?_⟩, ?_⟩))
        · (repeat (first | refine p_var rfl ?_ | refine p_c ?_ | refine p_bin ?_ | refine p_cons ?_ | refine p_nil ?_ | refine p_seq ?_ | refine p_asg ?_ | refine p_sif ?_ | refine p_ret ?_ | refine p_bM ?_ | refine p_tM ?_ | refine p_cb ?_ | refine p_andM ?_ | refine p_orM ?_ | refine p_notM ?_ | refine p_chain ?_ | refine p_andV ?_ | refine p_orV ?_ | refine p_notV ?_ | refine p_ifM ?_ | refine p_tup ?_ | refine p_lst ?_ | refine p_call ?_ | refine p_callK ?_ | refine ⟨⟨⟨rfl, rfl⟩, rfl, rfl⟩, ⟨rfl, rfl⟩, ?_⟩ | refine p_setB ?_ | refine p_sl ?_ | refine p_osome ?_ | refine p_onone ?_ | refine p_snil ?_ | refine p_sexpr ?_ | refine p_retN ?_ | refine p_par ?_ | refine p_sh ?_ | refine p_brt rfl ?_ | refine p_brf rfl ?_ | refine ⟨_, rfl, ?_⟩ | refine ⟨⟨rfl, rfl⟩, ?_⟩ | refine ⟨⟨rfl, Nat.le_of_ble_eq_true rfl⟩, ?_⟩ | refine ⟨_, _, _, _, rfl, hn, rfl, rfl, ?_⟩ | (refine ⟨_, _, rfl, ⟨rfl, rfl⟩, ?_⟩; try dsimp only [wipeE, List.set_cons_succ, List.set_cons_zero]) | (refine ⟨rfl, ?_⟩; try dsimp only [wipeE, List.set_cons_succ, List.set_cons_zero]) | refine ⟨⟨rfl, by show (!isOwn v && _) = true; rw [pl_own (px v hv)]; rfl⟩, p_spec (is_number_spec (px v hv)) fun r h' z => ?_⟩))
          obtain ⟨rfl, rfl⟩ := z
          exact ⟨rfl, rfl, rfl, rfl⟩
        · (repeat (first | refine p_var rfl ?_ | refine p_c ?_ | refine p_bin ?_ | refine p_cons ?_ | refine p_nil ?_ | refine p_seq ?_ | refine p_asg ?_ | refine p_sif ?_ | refine p_ret ?_ | refine p_bM ?_ | refine p_tM ?_ | refine p_cb ?_ | refine p_andM ?_ | refine p_orM ?_ | refine p_notM ?_ | refine p_chain ?_ | refine p_andV ?_ | refine p_orV ?_ | refine p_notV ?_ | refine p_ifM ?_ | refine p_tup ?_ | refine p_lst ?_ | refine p_call ?_ | refine p_callK ?_ | refine ⟨⟨⟨rfl, rfl⟩, rfl, rfl⟩, ⟨rfl, rfl⟩, ?_⟩ | refine p_setB ?_ | refine p_sl ?_ | refine p_osome ?_ | refine p_onone ?_ | refine p_snil ?_ | refine p_sexpr ?_ | refine p_retN ?_ | refine p_par ?_ | refine p_sh ?_ | refine p_brt rfl ?_ | refine p_brf rfl ?_ | refine ⟨_, rfl, ?_⟩ | refine ⟨⟨rfl, rfl⟩, ?_⟩ | refine ⟨⟨rfl, Nat.le_of_ble_eq_true rfl⟩, ?_⟩ | refine ⟨_, _, _, _, rfl, hn, rfl, rfl, ?_⟩ | (refine ⟨_, _, rfl, ⟨rfl, rfl⟩, ?_⟩; try dsimp only [wipeE, List.set_cons_succ, List.set_cons_zero]) | (refine ⟨rfl, ?_⟩; try dsimp only [wipeE, List.set_cons_succ, List.set_cons_zero]) | refine ⟨_, all_map (numB _ _), ?_⟩))
          show PV.bl _ = .bl (decide (1 ≤ (xs.length : Int)) && decide ((xs.length : Int) ≤ 40) && (xs.map (numB (0 - 1000000000000000000) 1000000000000000000)).all fun b => b) ∧ h = h
          rw [h1, show decide ((xs.length : Int) ≤ 40) = true by simpa using h2, Bool.true_and, Bool.true_and]
          exact ⟨rfl, rfl⟩
    · have h1 : decide (1 ≤ (xs.length : Int)) = false := h1
      (repeat (first | refine p_var rfl ?_ | refine p_c ?_ | refine p_bin ?_ | refine p_cons ?_ | refine p_nil ?_ | refine p_seq ?_ | refine p_asg ?_ | refine p_sif ?_ | refine p_ret ?_ | refine p_bM ?_ | refine p_tM ?_ | refine p_cb ?_ | refine p_andM ?_ | refine p_orM ?_ | refine p_notM ?_ | refine p_chain ?_ | refine p_andV ?_ | refine p_orV ?_ | refine p_notV ?_ | refine p_ifM ?_ | refine p_tup ?_ | refine p_lst ?_ | refine p_call ?_ | refine p_callK ?_ | refine ⟨⟨⟨rfl, rfl⟩, rfl, rfl⟩, ⟨rfl, rfl⟩, ?_⟩ | refine p_setB ?_ | refine p_sl ?_ | refine p_osome ?_ | refine p_onone ?_ | refine p_snil ?_ | refine p_sexpr ?_ | refine p_retN ?_ | refine p_par ?_ | refine p_sh ?_ | refine p_brt rfl ?_ | refine p_brf rfl ?_ | refine ⟨_, rfl, ?_⟩ | refine ⟨⟨rfl, rfl⟩, ?_⟩ | refine ⟨⟨rfl, Nat.le_of_ble_eq_true rfl⟩, ?_⟩ | refine ⟨_, _, _, _, rfl, hn, rfl, rfl, ?_⟩ | (refine ⟨_, _, rfl, ⟨rfl, rfl⟩, ?_⟩; try dsimp only [wipeE, List.set_cons_succ, List.set_cons_zero]) | (refine ⟨rfl, ?_⟩; try dsimp only [wipeE, List.set_cons_succ, List.set_cons_zero])))
      show PV.bl false = .bl (decide (1 ≤ (xs.length : Int)) && decide ((xs.length : Int) ≤ 40) && (xs.map (numB (0 - 1000000000000000000) 1000000000000000000)).all fun b => b) ∧ h = h
      rw [h1, Bool.false_and, Bool.false_and]
      exact ⟨rfl, rfl⟩
  | bl k => (repeat (first | refine p_var rfl ?_ | refine p_c ?_ | refine p_bin ?_ | refine p_cons ?_ | refine p_nil ?_ | refine p_seq ?_ | refine p_asg ?_ | refine p_sif ?_ | refine p_ret ?_ | refine p_bM ?_ | refine p_tM ?_ | refine p_cb ?_ | refine p_andM ?_ | refine p_orM ?_ | refine p_notM ?_ | refine p_chain ?_ | refine p_andV ?_ | refine p_orV ?_ | refine p_notV ?_ | refine p_ifM ?_ | refine p_tup ?_ | refine p_lst ?_ | refine p_call ?_ | refine p_callK ?_ | refine ⟨⟨⟨rfl, rfl⟩, rfl, rfl⟩, ⟨rfl, rfl⟩, ?_⟩ | refine p_setB ?_ | refine p_sl ?_ | refine p_osome ?_ | refine p_onone ?_ | refine p_snil ?_ | refine p_sexpr ?_ | refine p_retN ?_ | refine p_par ?_ | refine p_sh ?_ | refine p_brt rfl ?_ | refine p_brf rfl ?_ | refine ⟨_, rfl, ?_⟩ | refine ⟨⟨rfl, rfl⟩, ?_⟩ | refine ⟨⟨rfl, Nat.le_of_ble_eq_true rfl⟩, ?_⟩ | refine ⟨_, _, _, _, rfl, hn, rfl, rfl, ?_⟩ | (refine ⟨_, _, rfl, ⟨rfl, rfl⟩, ?_⟩; try dsimp only [wipeE, List.set_cons_succ, List.set_cons_zero]) | (refine ⟨rfl, ?_⟩; try dsimp only [wipeE, List.set_cons_succ, List.set_cons_zero])))
  | int k => (repeat (first | refine p_var rfl ?_ | refine p_c ?_ | refine p_bin ?_ | refine p_cons ?_ | refine p_nil ?_ | refine p_seq ?_ | refine p_asg ?_ | refine p_sif ?_ | refine p_ret ?_ | refine p_bM ?_ | refine p_tM ?_ | refine p_cb ?_ | refine p_andM ?_ | refine p_orM ?_ | refine p_notM ?_ | refine p_chain ?_ | refine p_andV ?_ | refine p_orV ?_ | refine p_notV ?_ | refine p_ifM ?_ | refine p_tup ?_ | refine p_lst ?_ | refine p_call ?_ | refine p_callK ?_ | refine ⟨⟨⟨rfl, rfl⟩, rfl, rfl⟩, ⟨rfl, rfl⟩, ?_⟩ | refine p_setB ?_ | refine p_sl ?_ | refine p_osome ?_ | refine p_onone ?_ | refine p_snil ?_ | refine p_sexpr ?_ | refine p_retN ?_ | refine p_par ?_ | refine p_sh ?_ | refine p_brt rfl ?_ | refine p_brf rfl ?_ | refine ⟨_, rfl, ?_⟩ | refine ⟨⟨rfl, rfl⟩, ?_⟩ | refine ⟨⟨rfl, Nat.le_of_ble_eq_true rfl⟩, ?_⟩ | refine ⟨_, _, _, _, rfl, hn, rfl, rfl, ?_⟩ | (refine ⟨_, _, rfl, ⟨rfl, rfl⟩, ?_⟩; try dsimp only [wipeE, List.set_cons_succ, List.set_cons_zero]) | (refine ⟨rfl, ?_⟩; try dsimp only [wipeE, List.set_cons_succ, List.set_cons_zero])))
  | non => (repeat (first | refine p_var rfl ?_ | refine p_c ?_ | refine p_bin ?_ | refine p_cons ?_ | refine p_nil ?_ | refine p_seq ?_ | refine p_asg ?_ | refine p_sif ?_ | refine p_ret ?_ | refine p_bM ?_ | refine p_tM ?_ | refine p_cb ?_ | refine p_andM ?_ | refine p_orM ?_ | refine p_notM ?_ | refine p_chain ?_ | refine p_andV ?_ | refine p_orV ?_ | refine p_notV ?_ | refine p_ifM ?_ | refine p_tup ?_ | refine p_lst ?_ | refine p_call ?_ | refine p_callK ?_ | refine ⟨⟨⟨rfl, rfl⟩, rfl, rfl⟩, ⟨rfl, rfl⟩, ?_⟩ | refine p_setB ?_ | refine p_sl ?_ | refine p_osome ?_ | refine p_onone ?_ | refine p_snil ?_ | refine p_sexpr ?_ | refine p_retN ?_ | refine p_par ?_ | refine p_sh ?_ | refine p_brt rfl ?_ | refine p_brf rfl ?_ | refine ⟨_, rfl, ?_⟩ | refine ⟨⟨rfl, rfl⟩, ?_⟩ | refine ⟨⟨rfl, Nat.le_of_ble_eq_true rfl⟩, ?_⟩ | refine ⟨_, _, _, _, rfl, hn, rfl, rfl, ?_⟩ | (refine ⟨_, _, rfl, ⟨rfl, rfl⟩, ?_⟩; try dsimp only [wipeE, List.set_cons_succ, List.set_cons_zero]) | (refine ⟨rfl, ?_⟩; try dsimp only [wipeE, List.set_cons_succ, List.set_cons_zero])))
  | str x => (repeat (first | refine p_var rfl ?_ | refine p_c ?_ | refine p_bin ?_ | refine p_cons ?_ | refine p_nil ?_ | refine p_seq ?_ | refine p_asg ?_ | refine p_sif ?_ | refine p_ret ?_ | refine p_bM ?_ | refine p_tM ?_ | refine p_cb ?_ | refine p_andM ?_ | refine p_orM ?_ | refine p_notM ?_ | refine p_chain ?_ | refine p_andV ?_ | refine p_orV ?_ | refine p_notV ?_ | refine p_ifM ?_ | refine p_tup ?_ | refine p_lst ?_ | refine p_call ?_ | refine p_callK ?_ | refine ⟨⟨⟨rfl, rfl⟩, rfl, rfl⟩, ⟨rfl, rfl⟩, ?_⟩ | refine p_setB ?_ | refine p_sl ?_ | refine p_osome ?_ | refine p_onone ?_ | refine p_snil ?_ | refine p_sexpr ?_ | refine p_retN ?_ | refine p_par ?_ | refine p_sh ?_ | refine p_brt rfl ?_ | refine p_brf rfl ?_ | refine ⟨_, rfl, ?_⟩ | refine ⟨⟨rfl, rfl⟩, ?_⟩ | refine ⟨⟨rfl, Nat.le_of_ble_eq_true rfl⟩, ?_⟩ | refine ⟨_, _, _, _, rfl, hn, rfl, rfl, ?_⟩ | (refine ⟨_, _, rfl, ⟨rfl, rfl⟩, ?_⟩; try dsimp only [wipeE, List.set_cons_succ, List.set_cons_zero]) | (refine ⟨rfl, ?_⟩; try dsimp only [wipeE, List.set_cons_succ, List.set_cons_zero])))
  | lst xs => (repeat (first | refine p_var rfl ?_ | refine p_c ?_ | refine p_bin ?_ | refine p_cons ?_ | refine p_nil ?_ | refine p_seq ?_ | refine p_asg ?_ | refine p_sif ?_ | refine p_ret ?_ | refine p_bM ?_ | refine p_tM ?_ | refine p_cb ?_ | refine p_andM ?_ | refine p_orM ?_ | refine p_notM ?_ | refine p_chain ?_ | refine p_andV ?_ | refine p_orV ?_ | refine p_notV ?_ | refine p_ifM ?_ | refine p_tup ?_ | refine p_lst ?_ | refine p_call ?_ | refine p_callK ?_ | refine ⟨⟨⟨rfl, rfl⟩, rfl, rfl⟩, ⟨rfl, rfl⟩, ?_⟩ | refine p_setB ?_ | refine p_sl ?_ | refine p_osome ?_ | refine p_onone ?_ | refine p_snil ?_ | refine p_sexpr ?_ | refine p_retN ?_ | refine p_par ?_ | refine p_sh ?_ | refine p_brt rfl ?_ | refine p_brf rfl ?_ | refine ⟨_, rfl, ?_⟩ | refine ⟨⟨rfl, rfl⟩, ?_⟩ | refine ⟨⟨rfl, Nat.le_of_ble_eq_true rfl⟩, ?_⟩ | refine ⟨_, _, _, _, rfl, hn, rfl, rfl, ?_⟩ | (refine ⟨_, _, rfl, ⟨rfl, rfl⟩, ?_⟩; try dsimp only [wipeE, List.set_cons_succ, List.set_cons_zero]) | (refine ⟨rfl, ?_⟩; try dsimp only [wipeE, List.set_cons_succ, List.set_cons_zero])))
  | _ => exact p.elim
theorem like_eq : m__law_like = likeM 8 := by
  unfold m__law_like likeM
  rfl
theorem open_spec {ns : List Int} (h63 : ns.length ≤ 63) : (m__law_open [.scr (ns.map .int)] []).post (fun v h' => v = .cel 0 ∧ BagAt [none] 0 h') NE := by
  unfold m__law_open
  rw [xe__law_open]
  unfold xb__law_open
  refine p_mkF [some (.scr (ns.map .int))] rfl (p_ret (p_cel (p_nlst ?_)))
  (repeat (first | refine p_var rfl ?_ | refine p_c ?_ | refine p_bin ?_ | refine p_cons ?_ | refine p_nil ?_ | refine p_seq ?_ | refine p_asg ?_ | refine p_sif ?_ | refine p_ret ?_ | refine p_bM ?_ | refine p_tM ?_ | refine p_cb ?_ | refine p_andM ?_ | refine p_orM ?_ | refine p_notM ?_ | refine p_chain ?_ | refine p_andV ?_ | refine p_orV ?_ | refine p_notV ?_ | refine p_ifM ?_ | refine p_tup ?_ | refine p_lst ?_ | refine p_call ?_ | refine p_callK ?_ | refine ⟨⟨⟨rfl, rfl⟩, rfl, rfl⟩, ⟨rfl, rfl⟩, ?_⟩ | refine p_setB ?_ | refine p_sl ?_ | refine p_osome ?_ | refine p_onone ?_ | refine p_snil ?_ | refine p_sexpr ?_ | refine p_retN ?_ | refine p_par ?_ | refine p_sh ?_ | refine p_brt rfl ?_ | refine p_brf rfl ?_ | refine ⟨_, rfl, ?_⟩ | refine ⟨⟨rfl, rfl⟩, ?_⟩ | refine ⟨⟨rfl, Nat.le_of_ble_eq_true rfl⟩, ?_⟩ | refine ⟨_, _, _, _, rfl, hn, rfl, rfl, ?_⟩ | (refine ⟨_, _, rfl, ⟨rfl, rfl⟩, ?_⟩; try dsimp only [wipeE, List.set_cons_succ, List.set_cons_zero]) | (refine ⟨rfl, ?_⟩; try dsimp only [wipeE, List.set_cons_succ, List.set_cons_zero])))
  have e : cutP (ns.map PV.int) none (some 63) = ns.map PV.int := by
    unfold cutP
    have e2 : HT.sIx (ns.map PV.int).length (ns.map PV.int).length (some 63) = (ns.map PV.int).length := by
      unfold HT.sIx
      simp only [List.length_map]
      split <;> omega
    rw [e2]
    have e1 : HT.sIx (ns.map PV.int).length 0 none = 0 := rfl
    rw [e1, List.drop_zero, Nat.sub_zero, List.take_length]
  exact ⟨_, ⟨ns, 0, 0, 100201, 0, by rw [e], by decide, by decide, by decide, by decide⟩, rfl⟩
/-- a key's numbers -/
def KN (x : PV) : Prop := ∃ i : Int, x = .int i ∧ 0 - 1000000000000000000 ≤ i ∧ i ≤ 1000000000000000000
theorem KN.num {x : PV} (h : KN x) : numB (0 - 1000000000000000000) 1000000000000000000 x = true := by
  obtain ⟨i, rfl, h1, h2⟩ := h
  show (decide _ && decide _) = true
  rw [decide_eq_true h1, decide_eq_true h2]; rfl
theorem KN.pl {x : PV} (h : KN x) : Pl x := by obtain ⟨i, rfl, _⟩ := h; trivial
theorem key_good {xs : List PV} (h : ∀ x ∈ xs, KN x) (h1 : 1 ≤ xs.length) (h2 : xs.length ≤ 40) : keyB (.tup xs) = true := by
  show (decide (1 ≤ (xs.length : Int)) && decide ((xs.length : Int) ≤ 40) && (xs.map (numB (0 - 1000000000000000000) 1000000000000000000)).all fun b => b) = true
  rw [decide_eq_true (by omega), decide_eq_true (by omega), Bool.true_and, Bool.true_and, List.all_eq_true]
  intro b hb
  obtain ⟨x, hx, rfl⟩ := List.mem_map.mp hb
  exact (h x hx).num
theorem key_far {a b : List PV} {v : PV} (h : numB (0 - 1000000000000000000) 1000000000000000000 v = false) : keyB (.tup (a ++ [v] ++ b)) = false := by
  show (_ && ((a ++ [v] ++ b).map (numB (0 - 1000000000000000000) 1000000000000000000)).all fun b => b) = false
  rw [List.map_append, List.map_append, List.all_append, List.all_append]
  show (_ && ((_ && (numB (0 - 1000000000000000000) 1000000000000000000 v && true)) && _)) = false
  rw [h]; simp
theorem key_long {xs : List PV} (h : 40 < xs.length) : keyB (.tup xs) = false := by
  show (decide (1 ≤ (xs.length : Int)) && decide ((xs.length : Int) ≤ 40) && (xs.map (numB (0 - 1000000000000000000) 1000000000000000000)).all fun b => b) = false
  rw [decide_eq_false (p := (xs.length : Int) ≤ 40) (by omega), Bool.and_false, Bool.false_and]
abbrev rowB : PV → Bool := numB 0 39
theorem is_row_spec {v : PV} {h : AH} (p : Pl v) : (m_is_row [v] h).post (fun r h' => r = .bl (rowB v) ∧ h' = h) NE := by
  unfold m_is_row
  rw [xe_is_row]
  unfold xb_is_row
  refine p_mkF [some v] rfl ?_
  (repeat (first | refine p_var rfl ?_ | refine p_c ?_ | refine p_bin ?_ | refine p_cons ?_ | refine p_nil ?_ | refine p_seq ?_ | refine p_asg ?_ | refine p_sif ?_ | refine p_ret ?_ | refine p_bM ?_ | refine p_tM ?_ | refine p_cb ?_ | refine p_andM ?_ | refine p_orM ?_ | refine p_notM ?_ | refine p_chain ?_ | refine p_andV ?_ | refine p_orV ?_ | refine p_notV ?_ | refine p_ifM ?_ | refine p_tup ?_ | refine p_lst ?_ | refine p_call ?_ | refine p_callK ?_ | refine ⟨⟨⟨rfl, rfl⟩, rfl, rfl⟩, ⟨rfl, rfl⟩, ?_⟩ | refine p_setB ?_ | refine p_sl ?_ | refine p_osome ?_ | refine p_onone ?_ | refine p_snil ?_ | refine p_sexpr ?_ | refine p_retN ?_ | refine p_par ?_ | refine p_sh ?_ | refine p_brt rfl ?_ | refine p_brf rfl ?_ | refine ⟨_, rfl, ?_⟩ | refine ⟨⟨rfl, rfl⟩, ?_⟩ | refine ⟨⟨rfl, Nat.le_of_ble_eq_true rfl⟩, ?_⟩ | refine ⟨_, _, _, _, rfl, hn, rfl, rfl, ?_⟩ | (refine ⟨_, _, rfl, ⟨rfl, rfl⟩, ?_⟩; try dsimp only [wipeE, List.set_cons_succ, List.set_cons_zero]) | (refine ⟨rfl, ?_⟩; try dsimp only [wipeE, List.set_cons_succ, List.set_cons_zero]) | refine ⟨⟨rfl, by show (!isOwn v && _) = true; rw [pl_own p]; rfl⟩, p_spec (is_number_spec p) fun r h' z => ?_⟩))
  obtain ⟨rfl, rfl⟩ := z
  exact ⟨rfl, rfl, rfl⟩
def sideB : PV → Bool
  | .non => true
  | v => rowB v
theorem is_side_spec {v : PV} {h : AH} (p : Pl v) : (m_is_side [v] h).post (fun r h' => r = .bl (sideB v) ∧ h' = h) NE := by
  unfold m_is_side
  rw [xe_is_side]
  unfold xb_is_side
  refine p_mkF [some v] rfl ?_
  have pp := p
  cases v with
  | non => (repeat (first | refine p_var rfl ?_ | refine p_c ?_ | refine p_bin ?_ | refine p_cons ?_ | refine p_nil ?_ | refine p_seq ?_ | refine p_asg ?_ | refine p_sif ?_ | refine p_ret ?_ | refine p_bM ?_ | refine p_tM ?_ | refine p_cb ?_ | refine p_andM ?_ | refine p_orM ?_ | refine p_notM ?_ | refine p_chain ?_ | refine p_andV ?_ | refine p_orV ?_ | refine p_notV ?_ | refine p_ifM ?_ | refine p_tup ?_ | refine p_lst ?_ | refine p_call ?_ | refine p_callK ?_ | refine ⟨⟨⟨rfl, rfl⟩, rfl, rfl⟩, ⟨rfl, rfl⟩, ?_⟩ | refine p_setB ?_ | refine p_sl ?_ | refine p_osome ?_ | refine p_onone ?_ | refine p_snil ?_ | refine p_sexpr ?_ | refine p_retN ?_ | refine p_par ?_ | refine p_sh ?_ | refine p_brt rfl ?_ | refine p_brf rfl ?_ | refine ⟨_, rfl, ?_⟩ | refine ⟨⟨rfl, rfl⟩, ?_⟩ | refine ⟨⟨rfl, Nat.le_of_ble_eq_true rfl⟩, ?_⟩ | refine ⟨_, _, _, _, rfl, hn, rfl, rfl, ?_⟩ | (refine ⟨_, _, rfl, ⟨rfl, rfl⟩, ?_⟩; try dsimp only [wipeE, List.set_cons_succ, List.set_cons_zero]) | (refine ⟨rfl, ?_⟩; try dsimp only [wipeE, List.set_cons_succ, List.set_cons_zero])))
  | bl k =>
    (repeat (first | refine p_var rfl ?_ | refine p_c ?_ | refine p_bin ?_ | refine p_cons ?_ | refine p_nil ?_ | refine p_seq ?_ | refine p_asg ?_ | refine p_sif ?_ | refine p_ret ?_ | refine p_bM ?_ | refine p_tM ?_ | refine p_cb ?_ | refine p_andM ?_ | refine p_orM ?_ | refine p_notM ?_ | refine p_chain ?_ | refine p_andV ?_ | refine p_orV ?_ | refine p_notV ?_ | refine p_ifM ?_ | refine p_tup ?_ | refine p_lst ?_ | refine p_call ?_ | refine p_callK ?_ | refine ⟨⟨⟨rfl, rfl⟩, rfl, rfl⟩, ⟨rfl, rfl⟩, ?_⟩ | refine p_setB ?_ | refine p_sl ?_ | refine p_osome ?_ | refine p_onone ?_ | refine p_snil ?_ | refine p_sexpr ?_ | refine p_retN ?_ | refine p_par ?_ | refine p_sh ?_ | refine p_brt rfl ?_ | refine p_brf rfl ?_ | refine ⟨_, rfl, ?_⟩ | refine ⟨⟨rfl, rfl⟩, ?_⟩ | refine ⟨⟨rfl, Nat.le_of_ble_eq_true rfl⟩, ?_⟩ | refine ⟨_, _, _, _, rfl, hn, rfl, rfl, ?_⟩ | (refine ⟨_, _, rfl, ⟨rfl, rfl⟩, ?_⟩; try dsimp only [wipeE, List.set_cons_succ, List.set_cons_zero]) | (refine ⟨rfl, ?_⟩; try dsimp only [wipeE, List.set_cons_succ, List.set_cons_zero])))
    refine p_spec (is_row_spec pp) fun r h' z => ?_
    obtain ⟨rfl, rfl⟩ := z
    exact ⟨rfl, rfl, rfl⟩
  | int k =>
    (repeat (first | refine p_var rfl ?_ | refine p_c ?_ | refine p_bin ?_ | refine p_cons ?_ | refine p_nil ?_ | refine p_seq ?_ | refine p_asg ?_ | refine p_sif ?_ | refine p_ret ?_ | refine p_bM ?_ | refine p_tM ?_ | refine p_cb ?_ | refine p_andM ?_ | refine p_orM ?_ | refine p_notM ?_ | refine p_chain ?_ | refine p_andV ?_ | refine p_orV ?_ | refine p_notV ?_ | refine p_ifM ?_ | refine p_tup ?_ | refine p_lst ?_ | refine p_call ?_ | refine p_callK ?_ | refine ⟨⟨⟨rfl, rfl⟩, rfl, rfl⟩, ⟨rfl, rfl⟩, ?_⟩ | refine p_setB ?_ | refine p_sl ?_ | refine p_osome ?_ | refine p_onone ?_ | refine p_snil ?_ | refine p_sexpr ?_ | refine p_retN ?_ | refine p_par ?_ | refine p_sh ?_ | refine p_brt rfl ?_ | refine p_brf rfl ?_ | refine ⟨_, rfl, ?_⟩ | refine ⟨⟨rfl, rfl⟩, ?_⟩ | refine ⟨⟨rfl, Nat.le_of_ble_eq_true rfl⟩, ?_⟩ | refine ⟨_, _, _, _, rfl, hn, rfl, rfl, ?_⟩ | (refine ⟨_, _, rfl, ⟨rfl, rfl⟩, ?_⟩; try dsimp only [wipeE, List.set_cons_succ, List.set_cons_zero]) | (refine ⟨rfl, ?_⟩; try dsimp only [wipeE, List.set_cons_succ, List.set_cons_zero])))
    refine p_spec (is_row_spec pp) fun r h' z => ?_
    obtain ⟨rfl, rfl⟩ := z
    exact ⟨rfl, rfl, rfl⟩
  | str x =>
    (repeat (first | refine p_var rfl ?_ | refine p_c ?_ | refine p_bin ?_ | refine p_cons ?_ | refine p_nil ?_ | refine p_seq ?_ | refine p_asg ?_ | refine p_sif ?_ | refine p_ret ?_ | refine p_bM ?_ | refine p_tM ?_ | refine p_cb ?_ | refine p_andM ?_ | refine p_orM ?_ | refine p_notM ?_ | refine p_chain ?_ | refine p_andV ?_ | refine p_orV ?_ | refine p_notV ?_ | refine p_ifM ?_ | refine p_tup ?_ | refine p_lst ?_ | refine p_call ?_ | refine p_callK ?_ | refine ⟨⟨⟨rfl, rfl⟩, rfl, rfl⟩, ⟨rfl, rfl⟩, ?_⟩ | refine p_setB ?_ | refine p_sl ?_ | refine p_osome ?_ | refine p_onone ?_ | refine p_snil ?_ | refine p_sexpr ?_ | refine p_retN ?_ | refine p_par ?_ | refine p_sh ?_ | refine p_brt rfl ?_ | refine p_brf rfl ?_ | refine ⟨_, rfl, ?_⟩ | refine ⟨⟨rfl, rfl⟩, ?_⟩ | refine ⟨⟨rfl, Nat.le_of_ble_eq_true rfl⟩, ?_⟩ | refine ⟨_, _, _, _, rfl, hn, rfl, rfl, ?_⟩ | (refine ⟨_, _, rfl, ⟨rfl, rfl⟩, ?_⟩; try dsimp only [wipeE, List.set_cons_succ, List.set_cons_zero]) | (refine ⟨rfl, ?_⟩; try dsimp only [wipeE, List.set_cons_succ, List.set_cons_zero])))
    refine p_spec (is_row_spec pp) fun r h' z => ?_
    obtain ⟨rfl, rfl⟩ := z
    exact ⟨rfl, rfl, rfl⟩
  | tup xs =>
    (repeat (first | refine p_var rfl ?_ | refine p_c ?_ | refine p_bin ?_ | refine p_cons ?_ | refine p_nil ?_ | refine p_seq ?_ | refine p_asg ?_ | refine p_sif ?_ | refine p_ret ?_ | refine p_bM ?_ | refine p_tM ?_ | refine p_cb ?_ | refine p_andM ?_ | refine p_orM ?_ | refine p_notM ?_ | refine p_chain ?_ | refine p_andV ?_ | refine p_orV ?_ | refine p_notV ?_ | refine p_ifM ?_ | refine p_tup ?_ | refine p_lst ?_ | refine p_call ?_ | refine p_callK ?_ | refine ⟨⟨⟨rfl, rfl⟩, rfl, rfl⟩, ⟨rfl, rfl⟩, ?_⟩ | refine p_setB ?_ | refine p_sl ?_ | refine p_osome ?_ | refine p_onone ?_ | refine p_snil ?_ | refine p_sexpr ?_ | refine p_retN ?_ | refine p_par ?_ | refine p_sh ?_ | refine p_brt rfl ?_ | refine p_brf rfl ?_ | refine ⟨_, rfl, ?_⟩ | refine ⟨⟨rfl, rfl⟩, ?_⟩ | refine ⟨⟨rfl, Nat.le_of_ble_eq_true rfl⟩, ?_⟩ | refine ⟨_, _, _, _, rfl, hn, rfl, rfl, ?_⟩ | (refine ⟨_, _, rfl, ⟨rfl, rfl⟩, ?_⟩; try dsimp only [wipeE, List.set_cons_succ, List.set_cons_zero]) | (refine ⟨rfl, ?_⟩; try dsimp only [wipeE, List.set_cons_succ, List.set_cons_zero])))
    refine p_spec (is_row_spec pp) fun r h' z => ?_
    obtain ⟨rfl, rfl⟩ := z
    exact ⟨rfl, rfl, rfl⟩
  | lst xs =>
    (repeat (first | refine p_var rfl ?_ | refine p_c ?_ | refine p_bin ?_ | refine p_cons ?_ | refine p_nil ?_ | refine p_seq ?_ | refine p_asg ?_ | refine p_sif ?_ | refine p_ret ?_ | refine p_bM ?_ | refine p_tM ?_ | refine p_cb ?_ | refine p_andM ?_ | refine p_orM ?_ | refine p_notM ?_ | refine p_chain ?_ | refine p_andV ?_ | refine p_orV ?_ | refine p_notV ?_ | refine p_ifM ?_ | refine p_tup ?_ | refine p_lst ?_ | refine p_call ?_ | refine p_callK ?_ | refine ⟨⟨⟨rfl, rfl⟩, rfl, rfl⟩, ⟨rfl, rfl⟩, ?_⟩ | refine p_setB ?_ | refine p_sl ?_ | refine p_osome ?_ | refine p_onone ?_ | refine p_snil ?_ | refine p_sexpr ?_ | refine p_retN ?_ | refine p_par ?_ | refine p_sh ?_ | refine p_brt rfl ?_ | refine p_brf rfl ?_ | refine ⟨_, rfl, ?_⟩ | refine ⟨⟨rfl, rfl⟩, ?_⟩ | refine ⟨⟨rfl, Nat.le_of_ble_eq_true rfl⟩, ?_⟩ | refine ⟨_, _, _, _, rfl, hn, rfl, rfl, ?_⟩ | (refine ⟨_, _, rfl, ⟨rfl, rfl⟩, ?_⟩; try dsimp only [wipeE, List.set_cons_succ, List.set_cons_zero]) | (refine ⟨rfl, ?_⟩; try dsimp only [wipeE, List.set_cons_succ, List.set_cons_zero])))
    refine p_spec (is_row_spec pp) fun r h' z => ?_
    obtain ⟨rfl, rfl⟩ := z
    exact ⟨rfl, rfl, rfl⟩
  | _ => exact p.elim
/-- some.. -/
def someB : PV → Bool
  | .tup ks => decide ((ks.length : Int) ≤ 40) && (ks.map keyB).all fun b => b
  | _ => false
def oneB : List PV → Bool
  | [a] => rowB a
  | _ => false
def fourB : List PV → Bool
  | [a, b, c, d] => rowB a && (sideB b && (sideB c && keyB d))
  | _ => false
def threeB : List PV → Bool
  | [a, b, c] => sideB a && (sideB b && someB c)
  | _ => false
def wIn (w : Str) : Bool := [PyData.str "strike", .str "back"].any fun z => PyData.eqv z (.str w)
def wDrop (w : Str) : Bool := PyData.eqv (.str w) (.str "drop")
def wNum (w : Str) : Bool := PyData.eqv (.str w) (.str "number")
def deedB : PV → Bool
  | .tup (.str w :: ps) => cond (wIn w) (oneB ps) (cond (wDrop w) (fourB ps) (wNum w && threeB ps))
  | _ => false
theorem dpl_subs {n : Nat} {v : PV} (d : DPl (n + 1) v) : ∀ xs, v = .tup xs → ∀ x ∈ xs, Pl x := fun xs e x hx => by
  subst e
  exact DPl.pl (d x hx)
theorem toDs_of {n : Nat} : ∀ {xs : List PV}, (∀ x ∈ xs, ∃ d, toD x = some d ∧ d.depth ≤ n) → ∃ ds, toDs xs = some ds ∧ PyData.depthAll ds ≤ n
  | [], _ => ⟨[], rfl, Nat.zero_le _⟩
  | x :: xs, h => by
    obtain ⟨d, e1, l1⟩ := h x (by simp)
    obtain ⟨ds, e2, l2⟩ := toDs_of (n := n) (xs := xs) fun y hy => h y (by simp [hy])
    refine ⟨d :: ds, by simp only [toDs, e1, e2], ?_⟩
    simp only [PyData.depthAll]
    omega
theorem dpl_toD : ∀ (n : Nat) {v : PV}, DPl n v → ∃ d, toD v = some d ∧ d.depth ≤ n
  | 0, v, h => by
    cases v <;> first | exact h.elim | exact ⟨_, rfl, by simp only [PyData.depth]; omega⟩
  | n + 1, v, h => by
    cases v with
    | tup xs =>
      obtain ⟨ds, e, l⟩ := toDs_of (n := n) (xs := xs) fun x hx => dpl_toD n (h x hx)
      exact ⟨.tuple ds, by simp only [toD, e]; rfl, by simp only [PyData.depth]; omega⟩
    | lst xs =>
      obtain ⟨ds, e, l⟩ := toDs_of (n := n) (xs := xs) fun x hx => dpl_toD n (h x hx)
      exact ⟨.list ds, by simp only [toD, e]; rfl, by simp only [PyData.depth]; omega⟩
    | _ => first | exact h.elim | exact ⟨_, rfl, by simp only [PyData.depth]; omega⟩
theorem eq_nil {n : Nat} {x : PV} {xs : List PV} {h : AH} (d : DPl n (.tup (x :: xs))) (hn : n ≤ 64) : fEq h (.tup (x :: xs)) (.tup []) = some (.bl false) := by
  obtain ⟨dd, e, l⟩ := dpl_toD n d
  have e2 : ∃ ds, toDs (x :: xs) = some ds ∧ dd = .tuple ds := by
    cases q : toDs (x :: xs) with
    | none => simp only [toD, q] at e; cases e
    | some ds => simp only [toD, q] at e; exact ⟨ds, rfl, (Option.some.inj e).symm⟩
  obtain ⟨ds, q, rfl⟩ := e2
  have e3 : ∃ y ys, ds = y :: ys := by
    unfold toDs at q
    split at q
    · exact ⟨_, _, (Option.some.inj q).symm⟩
    · cases q
  obtain ⟨y, ys, rfl⟩ := e3
  have o : dOk (.tuple (y :: ys)) = true := decide_eq_true (by omega)
  show (match toD (.tup (x :: xs)), toD (.tup []) with
    | some d, some e => if dOk d && dOk e then some (PV.bl (PyData.eqv d e)) else none
    | _, _ => none) = _
  rw [e, show toD (.tup []) = some (.tuple []) from rfl]
  show (if dOk (.tuple (y :: ys)) && dOk (.tuple []) then some (PV.bl (PyData.eqv (.tuple (y :: ys)) (.tuple []))) else none) = _
  rw [o, show dOk (.tuple []) = true from rfl]
  rfl
theorem atI_zero {α : Type} {x : α} {xs : List α} : atI (x :: xs) 0 = some x := by
  unfold atI ixN
  rw [if_pos (by decide), if_pos (by simp only [List.length_cons]; omega)]
  rfl
theorem is_deed_spec {v : PV} {h : AH} (d : DPl 3 v) (hl : ∀ xs, v = .tup xs → xs.length < 1000) : (m_is_deed [v] h).post (fun r h' => r = .bl (deedB v) ∧ h' = h) NE := by
  unfold m_is_deed
  rw [xe_is_deed]
  unfold xb_is_deed
  refine p_mkF [some v, none, none, none, none] rfl ?_
  have p := DPl.pl d
  (repeat (first | refine p_var rfl ?_ | refine p_c ?_ | refine p_bin ?_ | refine p_cons ?_ | refine p_nil ?_ | refine p_seq ?_ | refine p_asg ?_ | refine p_sif ?_ | refine p_ret ?_ | refine p_bM ?_ | refine p_tM ?_ | refine p_cb ?_ | refine p_andM ?_ | refine p_orM ?_ | refine p_notM ?_ | refine p_chain ?_ | refine p_andV ?_ | refine p_orV ?_ | refine p_notV ?_ | refine p_ifM ?_ | refine p_tup ?_ | refine p_lst ?_ | refine p_call ?_ | refine p_callK ?_ | refine ⟨⟨⟨rfl, rfl⟩, rfl, rfl⟩, ⟨rfl, rfl⟩, ?_⟩ | refine p_setB ?_ | refine p_sl ?_ | refine p_osome ?_ | refine p_onone ?_ | refine p_snil ?_ | refine p_sexpr ?_ | refine p_retN ?_ | refine p_par ?_ | refine p_sh ?_ | refine p_brt rfl ?_ | refine p_brf rfl ?_ | refine ⟨_, rfl, ?_⟩ | refine ⟨⟨rfl, rfl⟩, ?_⟩ | refine ⟨⟨rfl, Nat.le_of_ble_eq_true rfl⟩, ?_⟩ | refine ⟨_, _, _, _, rfl, hn, rfl, rfl, ?_⟩ | (refine ⟨_, _, rfl, ⟨rfl, rfl⟩, ?_⟩; try dsimp only [wipeE, List.set_cons_succ, List.set_cons_zero]) | (refine ⟨rfl, ?_⟩; try dsimp only [wipeE, List.set_cons_succ, List.set_cons_zero]) | refine ⟨_, isi_p p rfl, ?_⟩))
  cases v with
  | bl k => (repeat (first | refine p_var rfl ?_ | refine p_c ?_ | refine p_bin ?_ | refine p_cons ?_ | refine p_nil ?_ | refine p_seq ?_ | refine p_asg ?_ | refine p_sif ?_ | refine p_ret ?_ | refine p_bM ?_ | refine p_tM ?_ | refine p_cb ?_ | refine p_andM ?_ | refine p_orM ?_ | refine p_notM ?_ | refine p_chain ?_ | refine p_andV ?_ | refine p_orV ?_ | refine p_notV ?_ | refine p_ifM ?_ | refine p_tup ?_ | refine p_lst ?_ | refine p_call ?_ | refine p_callK ?_ | refine ⟨⟨⟨rfl, rfl⟩, rfl, rfl⟩, ⟨rfl, rfl⟩, ?_⟩ | refine p_setB ?_ | refine p_sl ?_ | refine p_osome ?_ | refine p_onone ?_ | refine p_snil ?_ | refine p_sexpr ?_ | refine p_retN ?_ | refine p_par ?_ | refine p_sh ?_ | refine p_brt rfl ?_ | refine p_brf rfl ?_ | refine ⟨_, rfl, ?_⟩ | refine ⟨⟨rfl, rfl⟩, ?_⟩ | refine ⟨⟨rfl, Nat.le_of_ble_eq_true rfl⟩, ?_⟩ | refine ⟨_, _, _, _, rfl, hn, rfl, rfl, ?_⟩ | (refine ⟨_, _, rfl, ⟨rfl, rfl⟩, ?_⟩; try dsimp only [wipeE, List.set_cons_succ, List.set_cons_zero]) | (refine ⟨rfl, ?_⟩; try dsimp only [wipeE, List.set_cons_succ, List.set_cons_zero])))
  | int k => (repeat (first | refine p_var rfl ?_ | refine p_c ?_ | refine p_bin ?_ | refine p_cons ?_ | refine p_nil ?_ | refine p_seq ?_ | refine p_asg ?_ | refine p_sif ?_ | refine p_ret ?_ | refine p_bM ?_ | refine p_tM ?_ | refine p_cb ?_ | refine p_andM ?_ | refine p_orM ?_ | refine p_notM ?_ | refine p_chain ?_ | refine p_andV ?_ | refine p_orV ?_ | refine p_notV ?_ | refine p_ifM ?_ | refine p_tup ?_ | refine p_lst ?_ | refine p_call ?_ | refine p_callK ?_ | refine ⟨⟨⟨rfl, rfl⟩, rfl, rfl⟩, ⟨rfl, rfl⟩, ?_⟩ | refine p_setB ?_ | refine p_sl ?_ | refine p_osome ?_ | refine p_onone ?_ | refine p_snil ?_ | refine p_sexpr ?_ | refine p_retN ?_ | refine p_par ?_ | refine p_sh ?_ | refine p_brt rfl ?_ | refine p_brf rfl ?_ | refine ⟨_, rfl, ?_⟩ | refine ⟨⟨rfl, rfl⟩, ?_⟩ | refine ⟨⟨rfl, Nat.le_of_ble_eq_true rfl⟩, ?_⟩ | refine ⟨_, _, _, _, rfl, hn, rfl, rfl, ?_⟩ | (refine ⟨_, _, rfl, ⟨rfl, rfl⟩, ?_⟩; try dsimp only [wipeE, List.set_cons_succ, List.set_cons_zero]) | (refine ⟨rfl, ?_⟩; try dsimp only [wipeE, List.set_cons_succ, List.set_cons_zero])))
  | non => (repeat (first | refine p_var rfl ?_ | refine p_c ?_ | refine p_bin ?_ | refine p_cons ?_ | refine p_nil ?_ | refine p_seq ?_ | refine p_asg ?_ | refine p_sif ?_ | refine p_ret ?_ | refine p_bM ?_ | refine p_tM ?_ | refine p_cb ?_ | refine p_andM ?_ | refine p_orM ?_ | refine p_notM ?_ | refine p_chain ?_ | refine p_andV ?_ | refine p_orV ?_ | refine p_notV ?_ | refine p_ifM ?_ | refine p_tup ?_ | refine p_lst ?_ | refine p_call ?_ | refine p_callK ?_ | refine ⟨⟨⟨rfl, rfl⟩, rfl, rfl⟩, ⟨rfl, rfl⟩, ?_⟩ | refine p_setB ?_ | refine p_sl ?_ | refine p_osome ?_ | refine p_onone ?_ | refine p_snil ?_ | refine p_sexpr ?_ | refine p_retN ?_ | refine p_par ?_ | refine p_sh ?_ | refine p_brt rfl ?_ | refine p_brf rfl ?_ | refine ⟨_, rfl, ?_⟩ | refine ⟨⟨rfl, rfl⟩, ?_⟩ | refine ⟨⟨rfl, Nat.le_of_ble_eq_true rfl⟩, ?_⟩ | refine ⟨_, _, _, _, rfl, hn, rfl, rfl, ?_⟩ | (refine ⟨_, _, rfl, ⟨rfl, rfl⟩, ?_⟩; try dsimp only [wipeE, List.set_cons_succ, List.set_cons_zero]) | (refine ⟨rfl, ?_⟩; try dsimp only [wipeE, List.set_cons_succ, List.set_cons_zero])))
  | str x => (repeat (first | refine p_var rfl ?_ | refine p_c ?_ | refine p_bin ?_ | refine p_cons ?_ | refine p_nil ?_ | refine p_seq ?_ | refine p_asg ?_ | refine p_sif ?_ | refine p_ret ?_ | refine p_bM ?_ | refine p_tM ?_ | refine p_cb ?_ | refine p_andM ?_ | refine p_orM ?_ | refine p_notM ?_ | refine p_chain ?_ | refine p_andV ?_ | refine p_orV ?_ | refine p_notV ?_ | refine p_ifM ?_ | refine p_tup ?_ | refine p_lst ?_ | refine p_call ?_ | refine p_callK ?_ | refine ⟨⟨⟨rfl, rfl⟩, rfl, rfl⟩, ⟨rfl, rfl⟩, ?_⟩ | refine p_setB ?_ | refine p_sl ?_ | refine p_osome ?_ | refine p_onone ?_ | refine p_snil ?_ | refine p_sexpr ?_ | refine p_retN ?_ | refine p_par ?_ | refine p_sh ?_ | refine p_brt rfl ?_ | refine p_brf rfl ?_ | refine ⟨_, rfl, ?_⟩ | refine ⟨⟨rfl, rfl⟩, ?_⟩ | refine ⟨⟨rfl, Nat.le_of_ble_eq_true rfl⟩, ?_⟩ | refine ⟨_, _, _, _, rfl, hn, rfl, rfl, ?_⟩ | (refine ⟨_, _, rfl, ⟨rfl, rfl⟩, ?_⟩; try dsimp only [wipeE, List.set_cons_succ, List.set_cons_zero]) | (refine ⟨rfl, ?_⟩; try dsimp only [wipeE, List.set_cons_succ, List.set_cons_zero])))
  | lst xs => (repeat (first | refine p_var rfl ?_ | refine p_c ?_ | refine p_bin ?_ | refine p_cons ?_ | refine p_nil ?_ | refine p_seq ?_ | refine p_asg ?_ | refine p_sif ?_ | refine p_ret ?_ | refine p_bM ?_ | refine p_tM ?_ | refine p_cb ?_ | refine p_andM ?_ | refine p_orM ?_ | refine p_notM ?_ | refine p_chain ?_ | refine p_andV ?_ | refine p_orV ?_ | refine p_notV ?_ | refine p_ifM ?_ | refine p_tup ?_ | refine p_lst ?_ | refine p_call ?_ | refine p_callK ?_ | refine ⟨⟨⟨rfl, rfl⟩, rfl, rfl⟩, ⟨rfl, rfl⟩, ?_⟩ | refine p_setB ?_ | refine p_sl ?_ | refine p_osome ?_ | refine p_onone ?_ | refine p_snil ?_ | refine p_sexpr ?_ | refine p_retN ?_ | refine p_par ?_ | refine p_sh ?_ | refine p_brt rfl ?_ | refine p_brf rfl ?_ | refine ⟨_, rfl, ?_⟩ | refine ⟨⟨rfl, rfl⟩, ?_⟩ | refine ⟨⟨rfl, Nat.le_of_ble_eq_true rfl⟩, ?_⟩ | refine ⟨_, _, _, _, rfl, hn, rfl, rfl, ?_⟩ | (refine ⟨_, _, rfl, ⟨rfl, rfl⟩, ?_⟩; try dsimp only [wipeE, List.set_cons_succ, List.set_cons_zero]) | (refine ⟨rfl, ?_⟩; try dsimp only [wipeE, List.set_cons_succ, List.set_cons_zero])))
  | tup xs =>
    have hl := hl xs rfl
    cases xs with
    | nil => (repeat (first | refine p_var rfl ?_ | refine p_c ?_ | refine p_bin ?_ | refine p_cons ?_ | refine p_nil ?_ | refine p_seq ?_ | refine p_asg ?_ | refine p_sif ?_ | refine p_ret ?_ | refine p_bM ?_ | refine p_tM ?_ | refine p_cb ?_ | refine p_andM ?_ | refine p_orM ?_ | refine p_notM ?_ | refine p_chain ?_ | refine p_andV ?_ | refine p_orV ?_ | refine p_notV ?_ | refine p_ifM ?_ | refine p_tup ?_ | refine p_lst ?_ | refine p_call ?_ | refine p_callK ?_ | refine ⟨⟨⟨rfl, rfl⟩, rfl, rfl⟩, ⟨rfl, rfl⟩, ?_⟩ | refine p_setB ?_ | refine p_sl ?_ | refine p_osome ?_ | refine p_onone ?_ | refine p_snil ?_ | refine p_sexpr ?_ | refine p_retN ?_ | refine p_par ?_ | refine p_sh ?_ | refine p_brt rfl ?_ | refine p_brf rfl ?_ | refine ⟨_, rfl, ?_⟩ | refine ⟨⟨rfl, rfl⟩, ?_⟩ | refine ⟨⟨rfl, Nat.le_of_ble_eq_true rfl⟩, ?_⟩ | refine ⟨_, _, _, _, rfl, hn, rfl, rfl, ?_⟩ | (refine ⟨_, _, rfl, ⟨rfl, rfl⟩, ?_⟩; try dsimp only [wipeE, List.set_cons_succ, List.set_cons_zero]) | (refine ⟨rfl, ?_⟩; try dsimp only [wipeE, List.set_cons_succ, List.set_cons_zero])))
    | cons x ps =>
      have dx : DPl 2 x := d x (by simp)
      have dp : ∀ y ∈ ps, DPl 2 y := fun y hy => d y (by simp [hy])
      (repeat (first | refine p_var rfl ?_ | refine p_c ?_ | refine p_bin ?_ | refine p_cons ?_ | refine p_nil ?_ | refine p_seq ?_ | refine p_asg ?_ | refine p_sif ?_ | refine p_ret ?_ | refine p_bM ?_ | refine p_tM ?_ | refine p_cb ?_ | refine p_andM ?_ | refine p_orM ?_ | refine p_notM ?_ | refine p_chain ?_ | refine p_andV ?_ | refine p_orV ?_ | refine p_notV ?_ | refine p_ifM ?_ | refine p_tup ?_ | refine p_lst ?_ | refine p_call ?_ | refine p_callK ?_ | refine ⟨⟨⟨rfl, rfl⟩, rfl, rfl⟩, ⟨rfl, rfl⟩, ?_⟩ | refine p_setB ?_ | refine p_sl ?_ | refine p_osome ?_ | refine p_onone ?_ | refine p_snil ?_ | refine p_sexpr ?_ | refine p_retN ?_ | refine p_par ?_ | refine p_sh ?_ | refine p_brt rfl ?_ | refine p_brf rfl ?_ | refine ⟨_, rfl, ?_⟩ | refine ⟨⟨rfl, rfl⟩, ?_⟩ | refine ⟨⟨rfl, Nat.le_of_ble_eq_true rfl⟩, ?_⟩ | refine ⟨_, _, _, _, rfl, hn, rfl, rfl, ?_⟩ | (refine ⟨_, _, rfl, ⟨rfl, rfl⟩, ?_⟩; try dsimp only [wipeE, List.set_cons_succ, List.set_cons_zero]) | (refine ⟨rfl, ?_⟩; try dsimp only [wipeE, List.set_cons_succ, List.set_cons_zero]) | refine ⟨_, eq_nil d (by decide), ?_⟩))
      (repeat (first | refine p_var rfl ?_ | refine p_c ?_ | refine p_bin ?_ | refine p_cons ?_ | refine p_nil ?_ | refine p_seq ?_ | refine p_asg ?_ | refine p_sif ?_ | refine p_ret ?_ | refine p_bM ?_ | refine p_tM ?_ | refine p_cb ?_ | refine p_andM ?_ | refine p_orM ?_ | refine p_notM ?_ | refine p_chain ?_ | refine p_andV ?_ | refine p_orV ?_ | refine p_notV ?_ | refine p_ifM ?_ | refine p_tup ?_ | refine p_lst ?_ | refine p_call ?_ | refine p_callK ?_ | refine ⟨⟨⟨rfl, rfl⟩, rfl, rfl⟩, ⟨rfl, rfl⟩, ?_⟩ | refine p_setB ?_ | refine p_sl ?_ | refine p_osome ?_ | refine p_onone ?_ | refine p_snil ?_ | refine p_sexpr ?_ | refine p_retN ?_ | refine p_par ?_ | refine p_sh ?_ | refine p_brt rfl ?_ | refine p_brf rfl ?_ | refine ⟨_, rfl, ?_⟩ | refine ⟨⟨rfl, rfl⟩, ?_⟩ | refine ⟨⟨rfl, Nat.le_of_ble_eq_true rfl⟩, ?_⟩ | refine ⟨_, _, _, _, rfl, hn, rfl, rfl, ?_⟩ | (refine ⟨_, _, rfl, ⟨rfl, rfl⟩, ?_⟩; try dsimp only [wipeE, List.set_cons_succ, List.set_cons_zero]) | (refine ⟨rfl, ?_⟩; try dsimp only [wipeE, List.set_cons_succ, List.set_cons_zero]) | refine ⟨_, (by rw [fIx_tup]; exact atI_zero), ?_⟩))
      refine ⟨_, isi_p (DPl.pl dx) rfl, ?_⟩
      have other : ∀ q : Bool, deedB (.tup (x :: ps)) = q → True := fun _ _ => trivial
      cases x with
      | bl k => (repeat (first | refine p_var rfl ?_ | refine p_c ?_ | refine p_bin ?_ | refine p_cons ?_ | refine p_nil ?_ | refine p_seq ?_ | refine p_asg ?_ | refine p_sif ?_ | refine p_ret ?_ | refine p_bM ?_ | refine p_tM ?_ | refine p_cb ?_ | refine p_andM ?_ | refine p_orM ?_ | refine p_notM ?_ | refine p_chain ?_ | refine p_andV ?_ | refine p_orV ?_ | refine p_notV ?_ | refine p_ifM ?_ | refine p_tup ?_ | refine p_lst ?_ | refine p_call ?_ | refine p_callK ?_ | refine ⟨⟨⟨rfl, rfl⟩, rfl, rfl⟩, ⟨rfl, rfl⟩, ?_⟩ | refine p_setB ?_ | refine p_sl ?_ | refine p_osome ?_ | refine p_onone ?_ | refine p_snil ?_ | refine p_sexpr ?_ | refine p_retN ?_ | refine p_par ?_ | refine p_sh ?_ | refine p_brt rfl ?_ | refine p_brf rfl ?_ | refine ⟨_, rfl, ?_⟩ | refine ⟨⟨rfl, rfl⟩, ?_⟩ | refine ⟨⟨rfl, Nat.le_of_ble_eq_true rfl⟩, ?_⟩ | refine ⟨_, _, _, _, rfl, hn, rfl, rfl, ?_⟩ | (refine ⟨_, _, rfl, ⟨rfl, rfl⟩, ?_⟩; try dsimp only [wipeE, List.set_cons_succ, List.set_cons_zero]) | (refine ⟨rfl, ?_⟩; try dsimp only [wipeE, List.set_cons_succ, List.set_cons_zero])))
      | int k => (repeat (first | refine p_var rfl ?_ | refine p_c ?_ | refine p_bin ?_ | refine p_cons ?_ | refine p_nil ?_ | refine p_seq ?_ | refine p_asg ?_ | refine p_sif ?_ | refine p_ret ?_ | refine p_bM ?_ | refine p_tM ?_ | refine p_cb ?_ | refine p_andM ?_ | refine p_orM ?_ | refine p_notM ?_ | refine p_chain ?_ | refine p_andV ?_ | refine p_orV ?_ | refine p_notV ?_ | refine p_ifM ?_ | refine p_tup ?_ | refine p_lst ?_ | refine p_call ?_ | refine p_callK ?_ | refine ⟨⟨⟨rfl, rfl⟩, rfl, rfl⟩, ⟨rfl, rfl⟩, ?_⟩ | refine p_setB ?_ | refine p_sl ?_ | refine p_osome ?_ | refine p_onone ?_ | refine p_snil ?_ | refine p_sexpr ?_ | refine p_retN ?_ | refine p_par ?_ | refine p_sh ?_ | refine p_brt rfl ?_ | refine p_brf rfl ?_ | refine ⟨_, rfl, ?_⟩ | refine ⟨⟨rfl, rfl⟩, ?_⟩ | refine ⟨⟨rfl, Nat.le_of_ble_eq_true rfl⟩, ?_⟩ | refine ⟨_, _, _, _, rfl, hn, rfl, rfl, ?_⟩ | (refine ⟨_, _, rfl, ⟨rfl, rfl⟩, ?_⟩; try dsimp only [wipeE, List.set_cons_succ, List.set_cons_zero]) | (refine ⟨rfl, ?_⟩; try dsimp only [wipeE, List.set_cons_succ, List.set_cons_zero])))
      | non => (repeat (first | refine p_var rfl ?_ | refine p_c ?_ | refine p_bin ?_ | refine p_cons ?_ | refine p_nil ?_ | refine p_seq ?_ | refine p_asg ?_ | refine p_sif ?_ | refine p_ret ?_ | refine p_bM ?_ | refine p_tM ?_ | refine p_cb ?_ | refine p_andM ?_ | refine p_orM ?_ | refine p_notM ?_ | refine p_chain ?_ | refine p_andV ?_ | refine p_orV ?_ | refine p_notV ?_ | refine p_ifM ?_ | refine p_tup ?_ | refine p_lst ?_ | refine p_call ?_ | refine p_callK ?_ | refine ⟨⟨⟨rfl, rfl⟩, rfl, rfl⟩, ⟨rfl, rfl⟩, ?_⟩ | refine p_setB ?_ | refine p_sl ?_ | refine p_osome ?_ | refine p_onone ?_ | refine p_snil ?_ | refine p_sexpr ?_ | refine p_retN ?_ | refine p_par ?_ | refine p_sh ?_ | refine p_brt rfl ?_ | refine p_brf rfl ?_ | refine ⟨_, rfl, ?_⟩ | refine ⟨⟨rfl, rfl⟩, ?_⟩ | refine ⟨⟨rfl, Nat.le_of_ble_eq_true rfl⟩, ?_⟩ | refine ⟨_, _, _, _, rfl, hn, rfl, rfl, ?_⟩ | (refine ⟨_, _, rfl, ⟨rfl, rfl⟩, ?_⟩; try dsimp only [wipeE, List.set_cons_succ, List.set_cons_zero]) | (refine ⟨rfl, ?_⟩; try dsimp only [wipeE, List.set_cons_succ, List.set_cons_zero])))
      | tup xs => (repeat (first | refine p_var rfl ?_ | refine p_c ?_ | refine p_bin ?_ | refine p_cons ?_ | refine p_nil ?_ | refine p_seq ?_ | refine p_asg ?_ | refine p_sif ?_ | refine p_ret ?_ | refine p_bM ?_ | refine p_tM ?_ | refine p_cb ?_ | refine p_andM ?_ | refine p_orM ?_ | refine p_notM ?_ | refine p_chain ?_ | refine p_andV ?_ | refine p_orV ?_ | refine p_notV ?_ | refine p_ifM ?_ | refine p_tup ?_ | refine p_lst ?_ | refine p_call ?_ | refine p_callK ?_ | refine ⟨⟨⟨rfl, rfl⟩, rfl, rfl⟩, ⟨rfl, rfl⟩, ?_⟩ | refine p_setB ?_ | refine p_sl ?_ | refine p_osome ?_ | refine p_onone ?_ | refine p_snil ?_ | refine p_sexpr ?_ | refine p_retN ?_ | refine p_par ?_ | refine p_sh ?_ | refine p_brt rfl ?_ | refine p_brf rfl ?_ | refine ⟨_, rfl, ?_⟩ | refine ⟨⟨rfl, rfl⟩, ?_⟩ | refine ⟨⟨rfl, Nat.le_of_ble_eq_true rfl⟩, ?_⟩ | refine ⟨_, _, _, _, rfl, hn, rfl, rfl, ?_⟩ | (refine ⟨_, _, rfl, ⟨rfl, rfl⟩, ?_⟩; try dsimp only [wipeE, List.set_cons_succ, List.set_cons_zero]) | (refine ⟨rfl, ?_⟩; try dsimp only [wipeE, List.set_cons_succ, List.set_cons_zero])))
      | lst xs => (repeat (first | refine p_var rfl ?_ | refine p_c ?_ | refine p_bin ?_ | refine p_cons ?_ | refine p_nil ?_ | refine p_seq ?_ | refine p_asg ?_ | refine p_sif ?_ | refine p_ret ?_ | refine p_bM ?_ | refine p_tM ?_ | refine p_cb ?_ | refine p_andM ?_ | refine p_orM ?_ | refine p_notM ?_ | refine p_chain ?_ | refine p_andV ?_ | refine p_orV ?_ | refine p_notV ?_ | refine p_ifM ?_ | refine p_tup ?_ | refine p_lst ?_ | refine p_call ?_ | refine p_callK ?_ | refine ⟨⟨⟨rfl, rfl⟩, rfl, rfl⟩, ⟨rfl, rfl⟩, ?_⟩ | refine p_setB ?_ | refine p_sl ?_ | refine p_osome ?_ | refine p_onone ?_ | refine p_snil ?_ | refine p_sexpr ?_ | refine p_retN ?_ | refine p_par ?_ | refine p_sh ?_ | refine p_brt rfl ?_ | refine p_brf rfl ?_ | refine ⟨_, rfl, ?_⟩ | refine ⟨⟨rfl, rfl⟩, ?_⟩ | refine ⟨⟨rfl, Nat.le_of_ble_eq_true rfl⟩, ?_⟩ | refine ⟨_, _, _, _, rfl, hn, rfl, rfl, ?_⟩ | (refine ⟨_, _, rfl, ⟨rfl, rfl⟩, ?_⟩; try dsimp only [wipeE, List.set_cons_succ, List.set_cons_zero]) | (refine ⟨rfl, ?_⟩; try dsimp only [wipeE, List.set_cons_succ, List.set_cons_zero])))
      | str w =>
        (repeat (first | refine p_var rfl ?_ | refine p_c ?_ | refine p_bin ?_ | refine p_cons ?_ | refine p_nil ?_ | refine p_seq ?_ | refine p_asg ?_ | refine p_sif ?_ | refine p_ret ?_ | refine p_bM ?_ | refine p_tM ?_ | refine p_cb ?_ | refine p_andM ?_ | refine p_orM ?_ | refine p_notM ?_ | refine p_chain ?_ | refine p_andV ?_ | refine p_orV ?_ | refine p_notV ?_ | refine p_ifM ?_ | refine p_tup ?_ | refine p_lst ?_ | refine p_call ?_ | refine p_callK ?_ | refine ⟨⟨⟨rfl, rfl⟩, rfl, rfl⟩, ⟨rfl, rfl⟩, ?_⟩ | refine p_setB ?_ | refine p_sl ?_ | refine p_osome ?_ | refine p_onone ?_ | refine p_snil ?_ | refine p_sexpr ?_ | refine p_retN ?_ | refine p_par ?_ | refine p_sh ?_ | refine p_brt rfl ?_ | refine p_brf rfl ?_ | refine ⟨_, rfl, ?_⟩ | refine ⟨⟨rfl, rfl⟩, ?_⟩ | refine ⟨⟨rfl, Nat.le_of_ble_eq_true rfl⟩, ?_⟩ | refine ⟨_, _, _, _, rfl, hn, rfl, rfl, ?_⟩ | (refine ⟨_, _, rfl, ⟨rfl, rfl⟩, ?_⟩; try dsimp only [wipeE, List.set_cons_succ, List.set_cons_zero]) | (refine ⟨rfl, ?_⟩; try dsimp only [wipeE, List.set_cons_succ, List.set_cons_zero])))
        refine p_starA ?_
        have hl : ps.length < 999 := by simp only [List.length_cons] at hl; omega
        (repeat (first | refine p_var rfl ?_ | refine p_c ?_ | refine p_bin ?_ | refine p_cons ?_ | refine p_nil ?_ | refine p_seq ?_ | refine p_asg ?_ | refine p_sif ?_ | refine p_ret ?_ | refine p_bM ?_ | refine p_tM ?_ | refine p_cb ?_ | refine p_andM ?_ | refine p_orM ?_ | refine p_notM ?_ | refine p_chain ?_ | refine p_andV ?_ | refine p_orV ?_ | refine p_notV ?_ | refine p_ifM ?_ | refine p_tup ?_ | refine p_lst ?_ | refine p_call ?_ | refine p_callK ?_ | refine ⟨⟨⟨rfl, rfl⟩, rfl, rfl⟩, ⟨rfl, rfl⟩, ?_⟩ | refine p_setB ?_ | refine p_sl ?_ | refine p_osome ?_ | refine p_onone ?_ | refine p_snil ?_ | refine p_sexpr ?_ | refine p_retN ?_ | refine p_par ?_ | refine p_sh ?_ | refine p_brt rfl ?_ | refine p_brf rfl ?_ | refine ⟨_, rfl, ?_⟩ | refine ⟨⟨rfl, rfl⟩, ?_⟩ | refine ⟨⟨rfl, Nat.le_of_ble_eq_true rfl⟩, ?_⟩ | refine ⟨_, _, _, _, rfl, hn, rfl, rfl, ?_⟩ | (refine ⟨_, _, rfl, ⟨rfl, rfl⟩, ?_⟩; try dsimp only [wipeE, List.set_cons_succ, List.set_cons_zero]) | (refine ⟨rfl, ?_⟩; try dsimp only [wipeE, List.set_cons_succ, List.set_cons_zero]) | refine ⟨_, _, rfl, by omega, ?_⟩))
        dsimp only [List.set_cons_succ, List.set_cons_zero]
        refine p_br (fun hw => ?_) fun hw => ?_
        · have hw : wIn w = true := by rw [Bool.false_xor] at hw; exact hw
          have e : deedB (.tup (.str w :: ps)) = oneB ps := by
            show cond (wIn w) _ _ = _
            rw [hw]; rfl
          rw [e]
          rcases ps with _ | ⟨a, _ | ⟨b, t⟩⟩
          · (repeat (first | refine p_var rfl ?_ | refine p_c ?_ | refine p_bin ?_ | refine p_cons ?_ | refine p_nil ?_ | refine p_seq ?_ | refine p_asg ?_ | refine p_sif ?_ | refine p_ret ?_ | refine p_bM ?_ | refine p_tM ?_ | refine p_cb ?_ | refine p_andM ?_ | refine p_orM ?_ | refine p_notM ?_ | refine p_chain ?_ | refine p_andV ?_ | refine p_orV ?_ | refine p_notV ?_ | refine p_ifM ?_ | refine p_tup ?_ | refine p_lst ?_ | refine p_call ?_ | refine p_callK ?_ | refine ⟨⟨⟨rfl, rfl⟩, rfl, rfl⟩, ⟨rfl, rfl⟩, ?_⟩ | refine p_setB ?_ | refine p_sl ?_ | refine p_osome ?_ | refine p_onone ?_ | refine p_snil ?_ | refine p_sexpr ?_ | refine p_retN ?_ | refine p_par ?_ | refine p_sh ?_ | refine p_brt rfl ?_ | refine p_brf rfl ?_ | refine ⟨_, rfl, ?_⟩ | refine ⟨⟨rfl, rfl⟩, ?_⟩ | refine ⟨⟨rfl, Nat.le_of_ble_eq_true rfl⟩, ?_⟩ | refine ⟨_, _, _, _, rfl, hn, rfl, rfl, ?_⟩ | (refine ⟨_, _, rfl, ⟨rfl, rfl⟩, ?_⟩; try dsimp only [wipeE, List.set_cons_succ, List.set_cons_zero]) | (refine ⟨rfl, ?_⟩; try dsimp only [wipeE, List.set_cons_succ, List.set_cons_zero])))
          · have pa := DPl.pl (dp a (by simp))
            (repeat (first | refine p_var rfl ?_ | refine p_c ?_ | refine p_bin ?_ | refine p_cons ?_ | refine p_nil ?_ | refine p_seq ?_ | refine p_asg ?_ | refine p_sif ?_ | refine p_ret ?_ | refine p_bM ?_ | refine p_tM ?_ | refine p_cb ?_ | refine p_andM ?_ | refine p_orM ?_ | refine p_notM ?_ | refine p_chain ?_ | refine p_andV ?_ | refine p_orV ?_ | refine p_notV ?_ | refine p_ifM ?_ | refine p_tup ?_ | refine p_lst ?_ | refine p_call ?_ | refine p_callK ?_ | refine ⟨⟨⟨rfl, rfl⟩, rfl, rfl⟩, ⟨rfl, rfl⟩, ?_⟩ | refine p_setB ?_ | refine p_sl ?_ | refine p_osome ?_ | refine p_onone ?_ | refine p_snil ?_ | refine p_sexpr ?_ | refine p_retN ?_ | refine p_par ?_ | refine p_sh ?_ | refine p_brt rfl ?_ | refine p_brf rfl ?_ | refine ⟨_, rfl, ?_⟩ | refine ⟨⟨rfl, rfl⟩, ?_⟩ | refine ⟨⟨rfl, Nat.le_of_ble_eq_true rfl⟩, ?_⟩ | refine ⟨_, _, _, _, rfl, hn, rfl, rfl, ?_⟩ | (refine ⟨_, _, rfl, ⟨rfl, rfl⟩, ?_⟩; try dsimp only [wipeE, List.set_cons_succ, List.set_cons_zero]) | (refine ⟨rfl, ?_⟩; try dsimp only [wipeE, List.set_cons_succ, List.set_cons_zero])))
            refine ⟨⟨rfl, by show (!isOwn _ && _) = true; rw [pl_own pa]; rfl⟩, ?_⟩
            refine p_spec (is_row_spec pa) fun r h' z => ?_
            obtain ⟨rfl, rfl⟩ := z
            exact ⟨rfl, rfl, rfl⟩
          · (repeat (first | refine p_var rfl ?_ | refine p_c ?_ | refine p_bin ?_ | refine p_cons ?_ | refine p_nil ?_ | refine p_seq ?_ | refine p_asg ?_ | refine p_sif ?_ | refine p_ret ?_ | refine p_bM ?_ | refine p_tM ?_ | refine p_cb ?_ | refine p_andM ?_ | refine p_orM ?_ | refine p_notM ?_ | refine p_chain ?_ | refine p_andV ?_ | refine p_orV ?_ | refine p_notV ?_ | refine p_ifM ?_ | refine p_tup ?_ | refine p_lst ?_ | refine p_call ?_ | refine p_callK ?_ | refine ⟨⟨⟨rfl, rfl⟩, rfl, rfl⟩, ⟨rfl, rfl⟩, ?_⟩ | refine p_setB ?_ | refine p_sl ?_ | refine p_osome ?_ | refine p_onone ?_ | refine p_snil ?_ | refine p_sexpr ?_ | refine p_retN ?_ | refine p_par ?_ | refine p_sh ?_ | refine p_brt rfl ?_ | refine p_brf rfl ?_ | refine ⟨_, rfl, ?_⟩ | refine ⟨⟨rfl, rfl⟩, ?_⟩ | refine ⟨⟨rfl, Nat.le_of_ble_eq_true rfl⟩, ?_⟩ | refine ⟨_, _, _, _, rfl, hn, rfl, rfl, ?_⟩ | (refine ⟨_, _, rfl, ⟨rfl, rfl⟩, ?_⟩; try dsimp only [wipeE, List.set_cons_succ, List.set_cons_zero]) | (refine ⟨rfl, ?_⟩; try dsimp only [wipeE, List.set_cons_succ, List.set_cons_zero])))
        have hw : wIn w = false := by rw [Bool.false_xor] at hw; exact hw
        (repeat (first | refine p_var rfl ?_ | refine p_c ?_ | refine p_bin ?_ | refine p_cons ?_ | refine p_nil ?_ | refine p_seq ?_ | refine p_asg ?_ | refine p_sif ?_ | refine p_ret ?_ | refine p_bM ?_ | refine p_tM ?_ | refine p_cb ?_ | refine p_andM ?_ | refine p_orM ?_ | refine p_notM ?_ | refine p_chain ?_ | refine p_andV ?_ | refine p_orV ?_ | refine p_notV ?_ | refine p_ifM ?_ | refine p_tup ?_ | refine p_lst ?_ | refine p_call ?_ | refine p_callK ?_ | refine ⟨⟨⟨rfl, rfl⟩, rfl, rfl⟩, ⟨rfl, rfl⟩, ?_⟩ | refine p_setB ?_ | refine p_sl ?_ | refine p_osome ?_ | refine p_onone ?_ | refine p_snil ?_ | refine p_sexpr ?_ | refine p_retN ?_ | refine p_par ?_ | refine p_sh ?_ | refine p_brt rfl ?_ | refine p_brf rfl ?_ | refine ⟨_, rfl, ?_⟩ | refine ⟨⟨rfl, rfl⟩, ?_⟩ | refine ⟨⟨rfl, Nat.le_of_ble_eq_true rfl⟩, ?_⟩ | refine ⟨_, _, _, _, rfl, hn, rfl, rfl, ?_⟩ | (refine ⟨_, _, rfl, ⟨rfl, rfl⟩, ?_⟩; try dsimp only [wipeE, List.set_cons_succ, List.set_cons_zero]) | (refine ⟨rfl, ?_⟩; try dsimp only [wipeE, List.set_cons_succ, List.set_cons_zero])))
        refine p_br (fun hd => ?_) fun hd => ?_
        · have hd : wDrop w = true := hd
          have e : deedB (.tup (.str w :: ps)) = fourB ps := by
            show cond (wIn w) _ (cond (wDrop w) _ _) = _
            rw [hw, hd]; rfl
          rw [e]
          rcases ps with _ | ⟨a, _ | ⟨b, _ | ⟨c, _ | ⟨k, _ | ⟨x, t⟩⟩⟩⟩⟩
          · (repeat (first | refine p_var rfl ?_ | refine p_c ?_ | refine p_bin ?_ | refine p_cons ?_ | refine p_nil ?_ | refine p_seq ?_ | refine p_asg ?_ | refine p_sif ?_ | refine p_ret ?_ | refine p_bM ?_ | refine p_tM ?_ | refine p_cb ?_ | refine p_andM ?_ | refine p_orM ?_ | refine p_notM ?_ | refine p_chain ?_ | refine p_andV ?_ | refine p_orV ?_ | refine p_notV ?_ | refine p_ifM ?_ | refine p_tup ?_ | refine p_lst ?_ | refine p_call ?_ | refine p_callK ?_ | refine ⟨⟨⟨rfl, rfl⟩, rfl, rfl⟩, ⟨rfl, rfl⟩, ?_⟩ | refine p_setB ?_ | refine p_sl ?_ | refine p_osome ?_ | refine p_onone ?_ | refine p_snil ?_ | refine p_sexpr ?_ | refine p_retN ?_ | refine p_par ?_ | refine p_sh ?_ | refine p_brt rfl ?_ | refine p_brf rfl ?_ | refine ⟨_, rfl, ?_⟩ | refine ⟨⟨rfl, rfl⟩, ?_⟩ | refine ⟨⟨rfl, Nat.le_of_ble_eq_true rfl⟩, ?_⟩ | refine ⟨_, _, _, _, rfl, hn, rfl, rfl, ?_⟩ | (refine ⟨_, _, rfl, ⟨rfl, rfl⟩, ?_⟩; try dsimp only [wipeE, List.set_cons_succ, List.set_cons_zero]) | (refine ⟨rfl, ?_⟩; try dsimp only [wipeE, List.set_cons_succ, List.set_cons_zero])))
          · (repeat (first | refine p_var rfl ?_ | refine p_c ?_ | refine p_bin ?_ | refine p_cons ?_ | refine p_nil ?_ | refine p_seq ?_ | refine p_asg ?_ | refine p_sif ?_ | refine p_ret ?_ | refine p_bM ?_ | refine p_tM ?_ | refine p_cb ?_ | refine p_andM ?_ | refine p_orM ?_ | refine p_notM ?_ | refine p_chain ?_ | refine p_andV ?_ | refine p_orV ?_ | refine p_notV ?_ | refine p_ifM ?_ | refine p_tup ?_ | refine p_lst ?_ | refine p_call ?_ | refine p_callK ?_ | refine ⟨⟨⟨rfl, rfl⟩, rfl, rfl⟩, ⟨rfl, rfl⟩, ?_⟩ | refine p_setB ?_ | refine p_sl ?_ | refine p_osome ?_ | refine p_onone ?_ | refine p_snil ?_ | refine p_sexpr ?_ | refine p_retN ?_ | refine p_par ?_ | refine p_sh ?_ | refine p_brt rfl ?_ | refine p_brf rfl ?_ | refine ⟨_, rfl, ?_⟩ | refine ⟨⟨rfl, rfl⟩, ?_⟩ | refine ⟨⟨rfl, Nat.le_of_ble_eq_true rfl⟩, ?_⟩ | refine ⟨_, _, _, _, rfl, hn, rfl, rfl, ?_⟩ | (refine ⟨_, _, rfl, ⟨rfl, rfl⟩, ?_⟩; try dsimp only [wipeE, List.set_cons_succ, List.set_cons_zero]) | (refine ⟨rfl, ?_⟩; try dsimp only [wipeE, List.set_cons_succ, List.set_cons_zero])))
          · (repeat (first | refine p_var rfl ?_ | refine p_c ?_ | refine p_bin ?_ | refine p_cons ?_ | refine p_nil ?_ | refine p_seq ?_ | refine p_asg ?_ | refine p_sif ?_ | refine p_ret ?_ | refine p_bM ?_ | refine p_tM ?_ | refine p_cb ?_ | refine p_andM ?_ | refine p_orM ?_ | refine p_notM ?_ | refine p_chain ?_ | refine p_andV ?_ | refine p_orV ?_ | refine p_notV ?_ | refine p_ifM ?_ | refine p_tup ?_ | refine p_lst ?_ | refine p_call ?_ | refine p_callK ?_ | refine ⟨⟨⟨rfl, rfl⟩, rfl, rfl⟩, ⟨rfl, rfl⟩, ?_⟩ | refine p_setB ?_ | refine p_sl ?_ | refine p_osome ?_ | refine p_onone ?_ | refine p_snil ?_ | refine p_sexpr ?_ | refine p_retN ?_ | refine p_par ?_ | refine p_sh ?_ | refine p_brt rfl ?_ | refine p_brf rfl ?_ | refine ⟨_, rfl, ?_⟩ | refine ⟨⟨rfl, rfl⟩, ?_⟩ | refine ⟨⟨rfl, Nat.le_of_ble_eq_true rfl⟩, ?_⟩ | refine ⟨_, _, _, _, rfl, hn, rfl, rfl, ?_⟩ | (refine ⟨_, _, rfl, ⟨rfl, rfl⟩, ?_⟩; try dsimp only [wipeE, List.set_cons_succ, List.set_cons_zero]) | (refine ⟨rfl, ?_⟩; try dsimp only [wipeE, List.set_cons_succ, List.set_cons_zero])))
          · (repeat (first | refine p_var rfl ?_ | refine p_c ?_ | refine p_bin ?_ | refine p_cons ?_ | refine p_nil ?_ | refine p_seq ?_ | refine p_asg ?_ | refine p_sif ?_ | refine p_ret ?_ | refine p_bM ?_ | refine p_tM ?_ | refine p_cb ?_ | refine p_andM ?_ | refine p_orM ?_ | refine p_notM ?_ | refine p_chain ?_ | refine p_andV ?_ | refine p_orV ?_ | refine p_notV ?_ | refine p_ifM ?_ | refine p_tup ?_ | refine p_lst ?_ | refine p_call ?_ | refine p_callK ?_ | refine ⟨⟨⟨rfl, rfl⟩, rfl, rfl⟩, ⟨rfl, rfl⟩, ?_⟩ | refine p_setB ?_ | refine p_sl ?_ | refine p_osome ?_ | refine p_onone ?_ | refine p_snil ?_ | refine p_sexpr ?_ | refine p_retN ?_ | refine p_par ?_ | refine p_sh ?_ | refine p_brt rfl ?_ | refine p_brf rfl ?_ | refine ⟨_, rfl, ?_⟩ | refine ⟨⟨rfl, rfl⟩, ?_⟩ | refine ⟨⟨rfl, Nat.le_of_ble_eq_true rfl⟩, ?_⟩ | refine ⟨_, _, _, _, rfl, hn, rfl, rfl, ?_⟩ | (refine ⟨_, _, rfl, ⟨rfl, rfl⟩, ?_⟩; try dsimp only [wipeE, List.set_cons_succ, List.set_cons_zero]) | (refine ⟨rfl, ?_⟩; try dsimp only [wipeE, List.set_cons_succ, List.set_cons_zero])))
          · have pa := DPl.pl (dp a (by simp))
            have pb := DPl.pl (dp b (by simp))
            have pc := DPl.pl (dp c (by simp))
            have dk := dp k (by simp)
            (repeat (first | refine p_var rfl ?_ | refine p_c ?_ | refine p_bin ?_ | refine p_cons ?_ | refine p_nil ?_ | refine p_seq ?_ | refine p_asg ?_ | refine p_sif ?_ | refine p_ret ?_ | refine p_bM ?_ | refine p_tM ?_ | refine p_cb ?_ | refine p_andM ?_ | refine p_orM ?_ | refine p_notM ?_ | refine p_chain ?_ | refine p_andV ?_ | refine p_orV ?_ | refine p_notV ?_ | refine p_ifM ?_ | refine p_tup ?_ | refine p_lst ?_ | refine p_call ?_ | refine p_callK ?_ | refine ⟨⟨⟨rfl, rfl⟩, rfl, rfl⟩, ⟨rfl, rfl⟩, ?_⟩ | refine p_setB ?_ | refine p_sl ?_ | refine p_osome ?_ | refine p_onone ?_ | refine p_snil ?_ | refine p_sexpr ?_ | refine p_retN ?_ | refine p_par ?_ | refine p_sh ?_ | refine p_brt rfl ?_ | refine p_brf rfl ?_ | refine ⟨_, rfl, ?_⟩ | refine ⟨⟨rfl, rfl⟩, ?_⟩ | refine ⟨⟨rfl, Nat.le_of_ble_eq_true rfl⟩, ?_⟩ | refine ⟨_, _, _, _, rfl, hn, rfl, rfl, ?_⟩ | (refine ⟨_, _, rfl, ⟨rfl, rfl⟩, ?_⟩; try dsimp only [wipeE, List.set_cons_succ, List.set_cons_zero]) | (refine ⟨rfl, ?_⟩; try dsimp only [wipeE, List.set_cons_succ, List.set_cons_zero])))
            refine ⟨⟨rfl, by show (!isOwn _ && _) = true; rw [pl_own pa]; rfl⟩, ?_⟩
            refine p_spec (is_row_spec pa) fun r h' z => ?_
            obtain ⟨rfl, rfl⟩ := z
            (repeat (first | refine p_var rfl ?_ | refine p_c ?_ | refine p_bin ?_ | refine p_cons ?_ | refine p_nil ?_ | refine p_seq ?_ | refine p_asg ?_ | refine p_sif ?_ | refine p_ret ?_ | refine p_bM ?_ | refine p_tM ?_ | refine p_cb ?_ | refine p_andM ?_ | refine p_orM ?_ | refine p_notM ?_ | refine p_chain ?_ | refine p_andV ?_ | refine p_orV ?_ | refine p_notV ?_ | refine p_ifM ?_ | refine p_tup ?_ | refine p_lst ?_ | refine p_call ?_ | refine p_callK ?_ | refine ⟨⟨⟨rfl, rfl⟩, rfl, rfl⟩, ⟨rfl, rfl⟩, ?_⟩ | refine p_setB ?_ | refine p_sl ?_ | refine p_osome ?_ | refine p_onone ?_ | refine p_snil ?_ | refine p_sexpr ?_ | refine p_retN ?_ | refine p_par ?_ | refine p_sh ?_ | refine p_brt rfl ?_ | refine p_brf rfl ?_ | refine ⟨_, rfl, ?_⟩ | refine ⟨⟨rfl, rfl⟩, ?_⟩ | refine ⟨⟨rfl, Nat.le_of_ble_eq_true rfl⟩, ?_⟩ | refine ⟨_, _, _, _, rfl, hn, rfl, rfl, ?_⟩ | (refine ⟨_, _, rfl, ⟨rfl, rfl⟩, ?_⟩; try dsimp only [wipeE, List.set_cons_succ, List.set_cons_zero]) | (refine ⟨rfl, ?_⟩; try dsimp only [wipeE, List.set_cons_succ, List.set_cons_zero])))
            refine p_br (fun h1 => ?_) fun h1 => ?_
            · (repeat (first | refine p_var rfl ?_ | refine p_c ?_ | refine p_bin ?_ | refine p_cons ?_ | refine p_nil ?_ | refine p_seq ?_ | refine p_asg ?_ | refine p_sif ?_ | refine p_ret ?_ | refine p_bM ?_ | refine p_tM ?_ | refine p_cb ?_ | refine p_andM ?_ | refine p_orM ?_ | refine p_notM ?_ | refine p_chain ?_ | refine p_andV ?_ | refine p_orV ?_ | refine p_notV ?_ | refine p_ifM ?_ | refine p_tup ?_ | refine p_lst ?_ | refine p_call ?_ | refine p_callK ?_ | refine ⟨⟨⟨rfl, rfl⟩, rfl, rfl⟩, ⟨rfl, rfl⟩, ?_⟩ | refine p_setB ?_ | refine p_sl ?_ | refine p_osome ?_ | refine p_onone ?_ | refine p_snil ?_ | refine p_sexpr ?_ | refine p_retN ?_ | refine p_par ?_ | refine p_sh ?_ | refine p_brt rfl ?_ | refine p_brf rfl ?_ | refine ⟨_, rfl, ?_⟩ | refine ⟨⟨rfl, rfl⟩, ?_⟩ | refine ⟨⟨rfl, Nat.le_of_ble_eq_true rfl⟩, ?_⟩ | refine ⟨_, _, _, _, rfl, hn, rfl, rfl, ?_⟩ | (refine ⟨_, _, rfl, ⟨rfl, rfl⟩, ?_⟩; try dsimp only [wipeE, List.set_cons_succ, List.set_cons_zero]) | (refine ⟨rfl, ?_⟩; try dsimp only [wipeE, List.set_cons_succ, List.set_cons_zero])))
              refine ⟨⟨rfl, by show (!isOwn _ && _) = true; rw [pl_own pb]; rfl⟩, ?_⟩
              refine p_spec (is_side_spec pb) fun r h' z => ?_
              obtain ⟨rfl, rfl⟩ := z
              (repeat (first | refine p_var rfl ?_ | refine p_c ?_ | refine p_bin ?_ | refine p_cons ?_ | refine p_nil ?_ | refine p_seq ?_ | refine p_asg ?_ | refine p_sif ?_ | refine p_ret ?_ | refine p_bM ?_ | refine p_tM ?_ | refine p_cb ?_ | refine p_andM ?_ | refine p_orM ?_ | refine p_notM ?_ | refine p_chain ?_ | refine p_andV ?_ | refine p_orV ?_ | refine p_notV ?_ | refine p_ifM ?_ | refine p_tup ?_ | refine p_lst ?_ | refine p_call ?_ | refine p_callK ?_ | refine ⟨⟨⟨rfl, rfl⟩, rfl, rfl⟩, ⟨rfl, rfl⟩, ?_⟩ | refine p_setB ?_ | refine p_sl ?_ | refine p_osome ?_ | refine p_onone ?_ | refine p_snil ?_ | refine p_sexpr ?_ | refine p_retN ?_ | refine p_par ?_ | refine p_sh ?_ | refine p_brt rfl ?_ | refine p_brf rfl ?_ | refine ⟨_, rfl, ?_⟩ | refine ⟨⟨rfl, rfl⟩, ?_⟩ | refine ⟨⟨rfl, Nat.le_of_ble_eq_true rfl⟩, ?_⟩ | refine ⟨_, _, _, _, rfl, hn, rfl, rfl, ?_⟩ | (refine ⟨_, _, rfl, ⟨rfl, rfl⟩, ?_⟩; try dsimp only [wipeE, List.set_cons_succ, List.set_cons_zero]) | (refine ⟨rfl, ?_⟩; try dsimp only [wipeE, List.set_cons_succ, List.set_cons_zero])))
              refine p_br (fun h2 => ?_) fun h2 => ?_
              · (repeat (first | refine p_var rfl ?_ | refine p_c ?_ | refine p_bin ?_ | refine p_cons ?_ | refine p_nil ?_ | refine p_seq ?_ | refine p_asg ?_ | refine p_sif ?_ | refine p_ret ?_ | refine p_bM ?_ | refine p_tM ?_ | refine p_cb ?_ | refine p_andM ?_ | refine p_orM ?_ | refine p_notM ?_ | refine p_chain ?_ | refine p_andV ?_ | refine p_orV ?_ | refine p_notV ?_ | refine p_ifM ?_ | refine p_tup ?_ | refine p_lst ?_ | refine p_call ?_ | refine p_callK ?_ | refine ⟨⟨⟨rfl, rfl⟩, rfl, rfl⟩, ⟨rfl, rfl⟩, ?_⟩ | refine p_setB ?_ | refine p_sl ?_ | refine p_osome ?_ | refine p_onone ?_ | refine p_snil ?_ | refine p_sexpr ?_ | refine p_retN ?_ | refine p_par ?_ | refine p_sh ?_ | refine p_brt rfl ?_ | refine p_brf rfl ?_ | refine ⟨_, rfl, ?_⟩ | refine ⟨⟨rfl, rfl⟩, ?_⟩ | refine ⟨⟨rfl, Nat.le_of_ble_eq_true rfl⟩, ?_⟩ | refine ⟨_, _, _, _, rfl, hn, rfl, rfl, ?_⟩ | (refine ⟨_, _, rfl, ⟨rfl, rfl⟩, ?_⟩; try dsimp only [wipeE, List.set_cons_succ, List.set_cons_zero]) | (refine ⟨rfl, ?_⟩; try dsimp only [wipeE, List.set_cons_succ, List.set_cons_zero])))
                refine ⟨⟨rfl, by show (!isOwn _ && _) = true; rw [pl_own pc]; rfl⟩, ?_⟩
                refine p_spec (is_side_spec pc) fun r h' z => ?_
                obtain ⟨rfl, rfl⟩ := z
                (repeat (first | refine p_var rfl ?_ | refine p_c ?_ | refine p_bin ?_ | refine p_cons ?_ | refine p_nil ?_ | refine p_seq ?_ | refine p_asg ?_ | refine p_sif ?_ | refine p_ret ?_ | refine p_bM ?_ | refine p_tM ?_ | refine p_cb ?_ | refine p_andM ?_ | refine p_orM ?_ | refine p_notM ?_ | refine p_chain ?_ | refine p_andV ?_ | refine p_orV ?_ | refine p_notV ?_ | refine p_ifM ?_ | refine p_tup ?_ | refine p_lst ?_ | refine p_call ?_ | refine p_callK ?_ | refine ⟨⟨⟨rfl, rfl⟩, rfl, rfl⟩, ⟨rfl, rfl⟩, ?_⟩ | refine p_setB ?_ | refine p_sl ?_ | refine p_osome ?_ | refine p_onone ?_ | refine p_snil ?_ | refine p_sexpr ?_ | refine p_retN ?_ | refine p_par ?_ | refine p_sh ?_ | refine p_brt rfl ?_ | refine p_brf rfl ?_ | refine ⟨_, rfl, ?_⟩ | refine ⟨⟨rfl, rfl⟩, ?_⟩ | refine ⟨⟨rfl, Nat.le_of_ble_eq_true rfl⟩, ?_⟩ | refine ⟨_, _, _, _, rfl, hn, rfl, rfl, ?_⟩ | (refine ⟨_, _, rfl, ⟨rfl, rfl⟩, ?_⟩; try dsimp only [wipeE, List.set_cons_succ, List.set_cons_zero]) | (refine ⟨rfl, ?_⟩; try dsimp only [wipeE, List.set_cons_succ, List.set_cons_zero])))
                refine p_br (fun h3 => ?_) fun h3 => ?_
                · (repeat (first | refine p_var rfl ?_ | refine p_c ?_ | refine p_bin ?_ | refine p_cons ?_ | refine p_nil ?_ | refine p_seq ?_ | refine p_asg ?_ | refine p_sif ?_ | refine p_ret ?_ | refine p_bM ?_ | refine p_tM ?_ | refine p_cb ?_ | refine p_andM ?_ | refine p_orM ?_ | refine p_notM ?_ | refine p_chain ?_ | refine p_andV ?_ | refine p_orV ?_ | refine p_notV ?_ | refine p_ifM ?_ | refine p_tup ?_ | refine p_lst ?_ | refine p_call ?_ | refine p_callK ?_ | refine ⟨⟨⟨rfl, rfl⟩, rfl, rfl⟩, ⟨rfl, rfl⟩, ?_⟩ | refine p_setB ?_ | refine p_sl ?_ | refine p_osome ?_ | refine p_onone ?_ | refine p_snil ?_ | refine p_sexpr ?_ | refine p_retN ?_ | refine p_par ?_ | refine p_sh ?_ | refine p_brt rfl ?_ | refine p_brf rfl ?_ | refine ⟨_, rfl, ?_⟩ | refine ⟨⟨rfl, rfl⟩, ?_⟩ | refine ⟨⟨rfl, Nat.le_of_ble_eq_true rfl⟩, ?_⟩ | refine ⟨_, _, _, _, rfl, hn, rfl, rfl, ?_⟩ | (refine ⟨_, _, rfl, ⟨rfl, rfl⟩, ?_⟩; try dsimp only [wipeE, List.set_cons_succ, List.set_cons_zero]) | (refine ⟨rfl, ?_⟩; try dsimp only [wipeE, List.set_cons_succ, List.set_cons_zero])))
                  refine ⟨⟨rfl, by show (!isOwn _ && _) = true; rw [pl_own (DPl.pl dk)]; rfl⟩, ?_⟩
                  refine p_spec (is_key_spec (DPl.pl dk) (dpl_subs dk)) fun r h' z => ?_
                  obtain ⟨rfl, rfl⟩ := z
                  refine ⟨rfl, ?_, rfl⟩
                  show PV.bl _ = .bl (rowB a && (sideB b && (sideB c && keyB k)))
                  rw [h1, h2, h3]; rfl
                · refine ⟨rfl, ?_, rfl⟩
                  show PV.bl _ = .bl (rowB a && (sideB b && (sideB c && keyB k)))
                  rw [h1, h2, h3]; rfl
              · refine ⟨rfl, ?_, rfl⟩
                show PV.bl _ = .bl (rowB a && (sideB b && (sideB c && keyB k)))
                rw [h1, h2]; rfl
            · refine ⟨rfl, ?_, rfl⟩
              show PV.bl _ = .bl (rowB a && (sideB b && (sideB c && keyB k)))
              rw [h1]; rfl
          · (repeat (first | refine p_var rfl ?_ | refine p_c ?_ | refine p_bin ?_ | refine p_cons ?_ | refine p_nil ?_ | refine p_seq ?_ | refine p_asg ?_ | refine p_sif ?_ | refine p_ret ?_ | refine p_bM ?_ | refine p_tM ?_ | refine p_cb ?_ | refine p_andM ?_ | refine p_orM ?_ | refine p_notM ?_ | refine p_chain ?_ | refine p_andV ?_ | refine p_orV ?_ | refine p_notV ?_ | refine p_ifM ?_ | refine p_tup ?_ | refine p_lst ?_ | refine p_call ?_ | refine p_callK ?_ | refine ⟨⟨⟨rfl, rfl⟩, rfl, rfl⟩, ⟨rfl, rfl⟩, ?_⟩ | refine p_setB ?_ | refine p_sl ?_ | refine p_osome ?_ | refine p_onone ?_ | refine p_snil ?_ | refine p_sexpr ?_ | refine p_retN ?_ | refine p_par ?_ | refine p_sh ?_ | refine p_brt rfl ?_ | refine p_brf rfl ?_ | refine ⟨_, rfl, ?_⟩ | refine ⟨⟨rfl, rfl⟩, ?_⟩ | refine ⟨⟨rfl, Nat.le_of_ble_eq_true rfl⟩, ?_⟩ | refine ⟨_, _, _, _, rfl, hn, rfl, rfl, ?_⟩ | (refine ⟨_, _, rfl, ⟨rfl, rfl⟩, ?_⟩; try dsimp only [wipeE, List.set_cons_succ, List.set_cons_zero]) | (refine ⟨rfl, ?_⟩; try dsimp only [wipeE, List.set_cons_succ, List.set_cons_zero])))
        have hd : wDrop w = false := hd
        (repeat (first | refine p_var rfl ?_ | refine p_c ?_ | refine p_bin ?_ | refine p_cons ?_ | refine p_nil ?_ | refine p_seq ?_ | refine p_asg ?_ | refine p_sif ?_ | refine p_ret ?_ | refine p_bM ?_ | refine p_tM ?_ | refine p_cb ?_ | refine p_andM ?_ | refine p_orM ?_ | refine p_notM ?_ | refine p_chain ?_ | refine p_andV ?_ | refine p_orV ?_ | refine p_notV ?_ | refine p_ifM ?_ | refine p_tup ?_ | refine p_lst ?_ | refine p_call ?_ | refine p_callK ?_ | refine ⟨⟨⟨rfl, rfl⟩, rfl, rfl⟩, ⟨rfl, rfl⟩, ?_⟩ | refine p_setB ?_ | refine p_sl ?_ | refine p_osome ?_ | refine p_onone ?_ | refine p_snil ?_ | refine p_sexpr ?_ | refine p_retN ?_ | refine p_par ?_ | refine p_sh ?_ | refine p_brt rfl ?_ | refine p_brf rfl ?_ | refine ⟨_, rfl, ?_⟩ | refine ⟨⟨rfl, rfl⟩, ?_⟩ | refine ⟨⟨rfl, Nat.le_of_ble_eq_true rfl⟩, ?_⟩ | refine ⟨_, _, _, _, rfl, hn, rfl, rfl, ?_⟩ | (refine ⟨_, _, rfl, ⟨rfl, rfl⟩, ?_⟩; try dsimp only [wipeE, List.set_cons_succ, List.set_cons_zero]) | (refine ⟨rfl, ?_⟩; try dsimp only [wipeE, List.set_cons_succ, List.set_cons_zero])))
        refine p_br (fun hn => ?_) fun hn => ?_
        · have hn : (!wNum w) = true := hn
          have hn : wNum w = false := by simpa using hn
          have e : deedB (.tup (.str w :: ps)) = false := by
            show cond (wIn w) _ (cond (wDrop w) _ (wNum w && _)) = _
            rw [hw, hd, hn]; rfl
          rw [e]
          (repeat (first | refine p_var rfl ?_ | refine p_c ?_ | refine p_bin ?_ | refine p_cons ?_ | refine p_nil ?_ | refine p_seq ?_ | refine p_asg ?_ | refine p_sif ?_ | refine p_ret ?_ | refine p_bM ?_ | refine p_tM ?_ | refine p_cb ?_ | refine p_andM ?_ | refine p_orM ?_ | refine p_notM ?_ | refine p_chain ?_ | refine p_andV ?_ | refine p_orV ?_ | refine p_notV ?_ | refine p_ifM ?_ | refine p_tup ?_ | refine p_lst ?_ | refine p_call ?_ | refine p_callK ?_ | refine ⟨⟨⟨rfl, rfl⟩, rfl, rfl⟩, ⟨rfl, rfl⟩, ?_⟩ | refine p_setB ?_ | refine p_sl ?_ | refine p_osome ?_ | refine p_onone ?_ | refine p_snil ?_ | refine p_sexpr ?_ | refine p_retN ?_ | refine p_par ?_ | refine p_sh ?_ | refine p_brt rfl ?_ | refine p_brf rfl ?_ | refine ⟨_, rfl, ?_⟩ | refine ⟨⟨rfl, rfl⟩, ?_⟩ | refine ⟨⟨rfl, Nat.le_of_ble_eq_true rfl⟩, ?_⟩ | refine ⟨_, _, _, _, rfl, hn, rfl, rfl, ?_⟩ | (refine ⟨_, _, rfl, ⟨rfl, rfl⟩, ?_⟩; try dsimp only [wipeE, List.set_cons_succ, List.set_cons_zero]) | (refine ⟨rfl, ?_⟩; try dsimp only [wipeE, List.set_cons_succ, List.set_cons_zero])))
        have hn : (!wNum w) = false := hn
        have hn : wNum w = true := by simpa using hn
        have e : deedB (.tup (.str w :: ps)) = threeB ps := by
          show cond (wIn w) _ (cond (wDrop w) _ (wNum w && _)) = _
          rw [hw, hd, hn]; rfl
        rw [e]
        rcases ps with _ | ⟨a, _ | ⟨b, _ | ⟨c, _ | ⟨k, t⟩⟩⟩⟩
        · (repeat (first | refine p_var rfl ?_ | refine p_c ?_ | refine p_bin ?_ | refine p_cons ?_ | refine p_nil ?_ | refine p_seq ?_ | refine p_asg ?_ | refine p_sif ?_ | refine p_ret ?_ | refine p_bM ?_ | refine p_tM ?_ | refine p_cb ?_ | refine p_andM ?_ | refine p_orM ?_ | refine p_notM ?_ | refine p_chain ?_ | refine p_andV ?_ | refine p_orV ?_ | refine p_notV ?_ | refine p_ifM ?_ | refine p_tup ?_ | refine p_lst ?_ | refine p_call ?_ | refine p_callK ?_ | refine ⟨⟨⟨rfl, rfl⟩, rfl, rfl⟩, ⟨rfl, rfl⟩, ?_⟩ | refine p_setB ?_ | refine p_sl ?_ | refine p_osome ?_ | refine p_onone ?_ | refine p_snil ?_ | refine p_sexpr ?_ | refine p_retN ?_ | refine p_par ?_ | refine p_sh ?_ | refine p_brt rfl ?_ | refine p_brf rfl ?_ | refine ⟨_, rfl, ?_⟩ | refine ⟨⟨rfl, rfl⟩, ?_⟩ | refine ⟨⟨rfl, Nat.le_of_ble_eq_true rfl⟩, ?_⟩ | refine ⟨_, _, _, _, rfl, hn, rfl, rfl, ?_⟩ | (refine ⟨_, _, rfl, ⟨rfl, rfl⟩, ?_⟩; try dsimp only [wipeE, List.set_cons_succ, List.set_cons_zero]) | (refine ⟨rfl, ?_⟩; try dsimp only [wipeE, List.set_cons_succ, List.set_cons_zero])))
        · (repeat (first | refine p_var rfl ?_ | refine p_c ?_ | refine p_bin ?_ | refine p_cons ?_ | refine p_nil ?_ | refine p_seq ?_ | refine p_asg ?_ | refine p_sif ?_ | refine p_ret ?_ | refine p_bM ?_ | refine p_tM ?_ | refine p_cb ?_ | refine p_andM ?_ | refine p_orM ?_ | refine p_notM ?_ | refine p_chain ?_ | refine p_andV ?_ | refine p_orV ?_ | refine p_notV ?_ | refine p_ifM ?_ | refine p_tup ?_ | refine p_lst ?_ | refine p_call ?_ | refine p_callK ?_ | refine ⟨⟨⟨rfl, rfl⟩, rfl, rfl⟩, ⟨rfl, rfl⟩, ?_⟩ | refine p_setB ?_ | refine p_sl ?_ | refine p_osome ?_ | refine p_onone ?_ | refine p_snil ?_ | refine p_sexpr ?_ | refine p_retN ?_ | refine p_par ?_ | refine p_sh ?_ | refine p_brt rfl ?_ | refine p_brf rfl ?_ | refine ⟨_, rfl, ?_⟩ | refine ⟨⟨rfl, rfl⟩, ?_⟩ | refine ⟨⟨rfl, Nat.le_of_ble_eq_true rfl⟩, ?_⟩ | refine ⟨_, _, _, _, rfl, hn, rfl, rfl, ?_⟩ | (refine ⟨_, _, rfl, ⟨rfl, rfl⟩, ?_⟩; try dsimp only [wipeE, List.set_cons_succ, List.set_cons_zero]) | (refine ⟨rfl, ?_⟩; try dsimp only [wipeE, List.set_cons_succ, List.set_cons_zero])))
        · (repeat (first | refine p_var rfl ?_ | refine p_c ?_ | refine p_bin ?_ | refine p_cons ?_ | refine p_nil ?_ | refine p_seq ?_ | refine p_asg ?_ | refine p_sif ?_ | refine p_ret ?_ | refine p_bM ?_ | refine p_tM ?_ | refine p_cb ?_ | refine p_andM ?_ | refine p_orM ?_ | refine p_notM ?_ | refine p_chain ?_ | refine p_andV ?_ | refine p_orV ?_ | refine p_notV ?_ | refine p_ifM ?_ | refine p_tup ?_ | refine p_lst ?_ | refine p_call ?_ | refine p_callK ?_ | refine ⟨⟨⟨rfl, rfl⟩, rfl, rfl⟩, ⟨rfl, rfl⟩, ?_⟩ | refine p_setB ?_ | refine p_sl ?_ | refine p_osome ?_ | refine p_onone ?_ | refine p_snil ?_ | refine p_sexpr ?_ | refine p_retN ?_ | refine p_par ?_ | refine p_sh ?_ | refine p_brt rfl ?_ | refine p_brf rfl ?_ | refine ⟨_, rfl, ?_⟩ | refine ⟨⟨rfl, rfl⟩, ?_⟩ | refine ⟨⟨rfl, Nat.le_of_ble_eq_true rfl⟩, ?_⟩ | refine ⟨_, _, _, _, rfl, hn, rfl, rfl, ?_⟩ | (refine ⟨_, _, rfl, ⟨rfl, rfl⟩, ?_⟩; try dsimp only [wipeE, List.set_cons_succ, List.set_cons_zero]) | (refine ⟨rfl, ?_⟩; try dsimp only [wipeE, List.set_cons_succ, List.set_cons_zero])))
        · have pa := DPl.pl (dp a (by simp))
          have pb := DPl.pl (dp b (by simp))
          have dc := dp c (by simp)
          have pc := DPl.pl dc
          (repeat (first | refine p_var rfl ?_ | refine p_c ?_ | refine p_bin ?_ | refine p_cons ?_ | refine p_nil ?_ | refine p_seq ?_ | refine p_asg ?_ | refine p_sif ?_ | refine p_ret ?_ | refine p_bM ?_ | refine p_tM ?_ | refine p_cb ?_ | refine p_andM ?_ | refine p_orM ?_ | refine p_notM ?_ | refine p_chain ?_ | refine p_andV ?_ | refine p_orV ?_ | refine p_notV ?_ | refine p_ifM ?_ | refine p_tup ?_ | refine p_lst ?_ | refine p_call ?_ | refine p_callK ?_ | refine ⟨⟨⟨rfl, rfl⟩, rfl, rfl⟩, ⟨rfl, rfl⟩, ?_⟩ | refine p_setB ?_ | refine p_sl ?_ | refine p_osome ?_ | refine p_onone ?_ | refine p_snil ?_ | refine p_sexpr ?_ | refine p_retN ?_ | refine p_par ?_ | refine p_sh ?_ | refine p_brt rfl ?_ | refine p_brf rfl ?_ | refine ⟨_, rfl, ?_⟩ | refine ⟨⟨rfl, rfl⟩, ?_⟩ | refine ⟨⟨rfl, Nat.le_of_ble_eq_true rfl⟩, ?_⟩ | refine ⟨_, _, _, _, rfl, hn, rfl, rfl, ?_⟩ | (refine ⟨_, _, rfl, ⟨rfl, rfl⟩, ?_⟩; try dsimp only [wipeE, List.set_cons_succ, List.set_cons_zero]) | (refine ⟨rfl, ?_⟩; try dsimp only [wipeE, List.set_cons_succ, List.set_cons_zero])))
          refine ⟨⟨rfl, by show (!isOwn _ && _) = true; rw [pl_own pa]; rfl⟩, ?_⟩
          refine p_spec (is_side_spec pa) fun r h' z => ?_
          obtain ⟨rfl, rfl⟩ := z
          (repeat (first | refine p_var rfl ?_ | refine p_c ?_ | refine p_bin ?_ | refine p_cons ?_ | refine p_nil ?_ | refine p_seq ?_ | refine p_asg ?_ | refine p_sif ?_ | refine p_ret ?_ | refine p_bM ?_ | refine p_tM ?_ | refine p_cb ?_ | refine p_andM ?_ | refine p_orM ?_ | refine p_notM ?_ | refine p_chain ?_ | refine p_andV ?_ | refine p_orV ?_ | refine p_notV ?_ | refine p_ifM ?_ | refine p_tup ?_ | refine p_lst ?_ | refine p_call ?_ | refine p_callK ?_ | refine ⟨⟨⟨rfl, rfl⟩, rfl, rfl⟩, ⟨rfl, rfl⟩, ?_⟩ | refine p_setB ?_ | refine p_sl ?_ | refine p_osome ?_ | refine p_onone ?_ | refine p_snil ?_ | refine p_sexpr ?_ | refine p_retN ?_ | refine p_par ?_ | refine p_sh ?_ | refine p_brt rfl ?_ | refine p_brf rfl ?_ | refine ⟨_, rfl, ?_⟩ | refine ⟨⟨rfl, rfl⟩, ?_⟩ | refine ⟨⟨rfl, Nat.le_of_ble_eq_true rfl⟩, ?_⟩ | refine ⟨_, _, _, _, rfl, hn, rfl, rfl, ?_⟩ | (refine ⟨_, _, rfl, ⟨rfl, rfl⟩, ?_⟩; try dsimp only [wipeE, List.set_cons_succ, List.set_cons_zero]) | (refine ⟨rfl, ?_⟩; try dsimp only [wipeE, List.set_cons_succ, List.set_cons_zero])))
          refine p_br (fun h1 => ?_) fun h1 => ?_
          · (repeat (first | refine p_var rfl ?_ | refine p_c ?_ | refine p_bin ?_ | refine p_cons ?_ | refine p_nil ?_ | refine p_seq ?_ | refine p_asg ?_ | refine p_sif ?_ | refine p_ret ?_ | refine p_bM ?_ | refine p_tM ?_ | refine p_cb ?_ | refine p_andM ?_ | refine p_orM ?_ | refine p_notM ?_ | refine p_chain ?_ | refine p_andV ?_ | refine p_orV ?_ | refine p_notV ?_ | refine p_ifM ?_ | refine p_tup ?_ | refine p_lst ?_ | refine p_call ?_ | refine p_callK ?_ | refine ⟨⟨⟨rfl, rfl⟩, rfl, rfl⟩, ⟨rfl, rfl⟩, ?_⟩ | refine p_setB ?_ | refine p_sl ?_ | refine p_osome ?_ | refine p_onone ?_ | refine p_snil ?_ | refine p_sexpr ?_ | refine p_retN ?_ | refine p_par ?_ | refine p_sh ?_ | refine p_brt rfl ?_ | refine p_brf rfl ?_ | refine ⟨_, rfl, ?_⟩ | refine ⟨⟨rfl, rfl⟩, ?_⟩ | refine ⟨⟨rfl, Nat.le_of_ble_eq_true rfl⟩, ?_⟩ | refine ⟨_, _, _, _, rfl, hn, rfl, rfl, ?_⟩ | (refine ⟨_, _, rfl, ⟨rfl, rfl⟩, ?_⟩; try dsimp only [wipeE, List.set_cons_succ, List.set_cons_zero]) | (refine ⟨rfl, ?_⟩; try dsimp only [wipeE, List.set_cons_succ, List.set_cons_zero])))
            have h1 : sideB a = false := by simpa using h1
            refine ⟨?_, rfl⟩
            show PV.bl _ = .bl (sideB a && (sideB b && someB c))
            rw [h1]; rfl
          have h1 : sideB a = true := by simpa using h1
          (repeat (first | refine p_var rfl ?_ | refine p_c ?_ | refine p_bin ?_ | refine p_cons ?_ | refine p_nil ?_ | refine p_seq ?_ | refine p_asg ?_ | refine p_sif ?_ | refine p_ret ?_ | refine p_bM ?_ | refine p_tM ?_ | refine p_cb ?_ | refine p_andM ?_ | refine p_orM ?_ | refine p_notM ?_ | refine p_chain ?_ | refine p_andV ?_ | refine p_orV ?_ | refine p_notV ?_ | refine p_ifM ?_ | refine p_tup ?_ | refine p_lst ?_ | refine p_call ?_ | refine p_callK ?_ | refine ⟨⟨⟨rfl, rfl⟩, rfl, rfl⟩, ⟨rfl, rfl⟩, ?_⟩ | refine p_setB ?_ | refine p_sl ?_ | refine p_osome ?_ | refine p_onone ?_ | refine p_snil ?_ | refine p_sexpr ?_ | refine p_retN ?_ | refine p_par ?_ | refine p_sh ?_ | refine p_brt rfl ?_ | refine p_brf rfl ?_ | refine ⟨_, rfl, ?_⟩ | refine ⟨⟨rfl, rfl⟩, ?_⟩ | refine ⟨⟨rfl, Nat.le_of_ble_eq_true rfl⟩, ?_⟩ | refine ⟨_, _, _, _, rfl, hn, rfl, rfl, ?_⟩ | (refine ⟨_, _, rfl, ⟨rfl, rfl⟩, ?_⟩; try dsimp only [wipeE, List.set_cons_succ, List.set_cons_zero]) | (refine ⟨rfl, ?_⟩; try dsimp only [wipeE, List.set_cons_succ, List.set_cons_zero])))
          refine ⟨⟨rfl, by show (!isOwn _ && _) = true; rw [pl_own pb]; rfl⟩, ?_⟩
          refine p_spec (is_side_spec pb) fun r h' z => ?_
          obtain ⟨rfl, rfl⟩ := z
          (repeat (first | refine p_var rfl ?_ | refine p_c ?_ | refine p_bin ?_ | refine p_cons ?_ | refine p_nil ?_ | refine p_seq ?_ | refine p_asg ?_ | refine p_sif ?_ | refine p_ret ?_ | refine p_bM ?_ | refine p_tM ?_ | refine p_cb ?_ | refine p_andM ?_ | refine p_orM ?_ | refine p_notM ?_ | refine p_chain ?_ | refine p_andV ?_ | refine p_orV ?_ | refine p_notV ?_ | refine p_ifM ?_ | refine p_tup ?_ | refine p_lst ?_ | refine p_call ?_ | refine p_callK ?_ | refine ⟨⟨⟨rfl, rfl⟩, rfl, rfl⟩, ⟨rfl, rfl⟩, ?_⟩ | refine p_setB ?_ | refine p_sl ?_ | refine p_osome ?_ | refine p_onone ?_ | refine p_snil ?_ | refine p_sexpr ?_ | refine p_retN ?_ | refine p_par ?_ | refine p_sh ?_ | refine p_brt rfl ?_ | refine p_brf rfl ?_ | refine ⟨_, rfl, ?_⟩ | refine ⟨⟨rfl, rfl⟩, ?_⟩ | refine ⟨⟨rfl, Nat.le_of_ble_eq_true rfl⟩, ?_⟩ | refine ⟨_, _, _, _, rfl, hn, rfl, rfl, ?_⟩ | (refine ⟨_, _, rfl, ⟨rfl, rfl⟩, ?_⟩; try dsimp only [wipeE, List.set_cons_succ, List.set_cons_zero]) | (refine ⟨rfl, ?_⟩; try dsimp only [wipeE, List.set_cons_succ, List.set_cons_zero])))
          refine p_br (fun h2 => ?_) fun h2 => ?_
          · (repeat (first | refine p_var rfl ?_ | refine p_c ?_ | refine p_bin ?_ | refine p_cons ?_ | refine p_nil ?_ | refine p_seq ?_ | refine p_asg ?_ | refine p_sif ?_ | refine p_ret ?_ | refine p_bM ?_ | refine p_tM ?_ | refine p_cb ?_ | refine p_andM ?_ | refine p_orM ?_ | refine p_notM ?_ | refine p_chain ?_ | refine p_andV ?_ | refine p_orV ?_ | refine p_notV ?_ | refine p_ifM ?_ | refine p_tup ?_ | refine p_lst ?_ | refine p_call ?_ | refine p_callK ?_ | refine ⟨⟨⟨rfl, rfl⟩, rfl, rfl⟩, ⟨rfl, rfl⟩, ?_⟩ | refine p_setB ?_ | refine p_sl ?_ | refine p_osome ?_ | refine p_onone ?_ | refine p_snil ?_ | refine p_sexpr ?_ | refine p_retN ?_ | refine p_par ?_ | refine p_sh ?_ | refine p_brt rfl ?_ | refine p_brf rfl ?_ | refine ⟨_, rfl, ?_⟩ | refine ⟨⟨rfl, rfl⟩, ?_⟩ | refine ⟨⟨rfl, Nat.le_of_ble_eq_true rfl⟩, ?_⟩ | refine ⟨_, _, _, _, rfl, hn, rfl, rfl, ?_⟩ | (refine ⟨_, _, rfl, ⟨rfl, rfl⟩, ?_⟩; try dsimp only [wipeE, List.set_cons_succ, List.set_cons_zero]) | (refine ⟨rfl, ?_⟩; try dsimp only [wipeE, List.set_cons_succ, List.set_cons_zero])))
            have h2 : sideB b = false := by simpa using h2
            refine ⟨?_, rfl⟩
            show PV.bl _ = .bl (sideB a && (sideB b && someB c))
            rw [h1, h2]; rfl
          have h2 : sideB b = true := by simpa using h2
          have e2 : threeB [a, b, c] = someB c := by
            show (sideB a && (sideB b && someB c)) = _
            rw [h1, h2]; rfl
          rw [e2]
          (repeat (first | refine p_var rfl ?_ | refine p_c ?_ | refine p_bin ?_ | refine p_cons ?_ | refine p_nil ?_ | refine p_seq ?_ | refine p_asg ?_ | refine p_sif ?_ | refine p_ret ?_ | refine p_bM ?_ | refine p_tM ?_ | refine p_cb ?_ | refine p_andM ?_ | refine p_orM ?_ | refine p_notM ?_ | refine p_chain ?_ | refine p_andV ?_ | refine p_orV ?_ | refine p_notV ?_ | refine p_ifM ?_ | refine p_tup ?_ | refine p_lst ?_ | refine p_call ?_ | refine p_callK ?_ | refine ⟨⟨⟨rfl, rfl⟩, rfl, rfl⟩, ⟨rfl, rfl⟩, ?_⟩ | refine p_setB ?_ | refine p_sl ?_ | refine p_osome ?_ | refine p_onone ?_ | refine p_snil ?_ | refine p_sexpr ?_ | refine p_retN ?_ | refine p_par ?_ | refine p_sh ?_ | refine p_brt rfl ?_ | refine p_brf rfl ?_ | refine ⟨_, rfl, ?_⟩ | refine ⟨⟨rfl, rfl⟩, ?_⟩ | refine ⟨⟨rfl, Nat.le_of_ble_eq_true rfl⟩, ?_⟩ | refine ⟨_, _, _, _, rfl, hn, rfl, rfl, ?_⟩ | (refine ⟨_, _, rfl, ⟨rfl, rfl⟩, ?_⟩; try dsimp only [wipeE, List.set_cons_succ, List.set_cons_zero]) | (refine ⟨rfl, ?_⟩; try dsimp only [wipeE, List.set_cons_succ, List.set_cons_zero]) | refine ⟨_, isi_p pc rfl, ?_⟩ | (refine ⟨pl_own pc, ?_⟩; try dsimp only [wipeE, List.set_cons_succ, List.set_cons_zero])))
          cases c with
          | tup ks =>
            have dk : ∀ k ∈ ks, DPl 1 k := fun k hk => dc k hk
            (repeat (first | refine p_var rfl ?_ | refine p_c ?_ | refine p_bin ?_ | refine p_cons ?_ | refine p_nil ?_ | refine p_seq ?_ | refine p_asg ?_ | refine p_sif ?_ | refine p_ret ?_ | refine p_bM ?_ | refine p_tM ?_ | refine p_cb ?_ | refine p_andM ?_ | refine p_orM ?_ | refine p_notM ?_ | refine p_chain ?_ | refine p_andV ?_ | refine p_orV ?_ | refine p_notV ?_ | refine p_ifM ?_ | refine p_tup ?_ | refine p_lst ?_ | refine p_call ?_ | refine p_callK ?_ | refine ⟨⟨⟨rfl, rfl⟩, rfl, rfl⟩, ⟨rfl, rfl⟩, ?_⟩ | refine p_setB ?_ | refine p_sl ?_ | refine p_osome ?_ | refine p_onone ?_ | refine p_snil ?_ | refine p_sexpr ?_ | refine p_retN ?_ | refine p_par ?_ | refine p_sh ?_ | refine p_brt rfl ?_ | refine p_brf rfl ?_ | refine ⟨_, rfl, ?_⟩ | refine ⟨⟨rfl, rfl⟩, ?_⟩ | refine ⟨⟨rfl, Nat.le_of_ble_eq_true rfl⟩, ?_⟩ | refine ⟨_, _, _, _, rfl, hn, rfl, rfl, ?_⟩ | (refine ⟨_, _, rfl, ⟨rfl, rfl⟩, ?_⟩; try dsimp only [wipeE, List.set_cons_succ, List.set_cons_zero]) | (refine ⟨rfl, ?_⟩; try dsimp only [wipeE, List.set_cons_succ, List.set_cons_zero])))
            refine p_br (fun h3 => ?_) fun h3 => ?_
            · (repeat (first | refine p_var rfl ?_ | refine p_c ?_ | refine p_bin ?_ | refine p_cons ?_ | refine p_nil ?_ | refine p_seq ?_ | refine p_asg ?_ | refine p_sif ?_ | refine p_ret ?_ | refine p_bM ?_ | refine p_tM ?_ | refine p_cb ?_ | refine p_andM ?_ | refine p_orM ?_ | refine p_notM ?_ | refine p_chain ?_ | refine p_andV ?_ | refine p_orV ?_ | refine p_notV ?_ | refine p_ifM ?_ | refine p_tup ?_ | refine p_lst ?_ | refine p_call ?_ | refine p_callK ?_ | refine ⟨⟨⟨rfl, rfl⟩, rfl, rfl⟩, ⟨rfl, rfl⟩, ?_⟩ | refine p_setB ?_ | refine p_sl ?_ | refine p_osome ?_ | refine p_onone ?_ | refine p_snil ?_ | refine p_sexpr ?_ | refine p_retN ?_ | refine p_par ?_ | refine p_sh ?_ | refine p_brt rfl ?_ | refine p_brf rfl ?_ | refine ⟨_, rfl, ?_⟩ | refine ⟨⟨rfl, rfl⟩, ?_⟩ | refine ⟨⟨rfl, Nat.le_of_ble_eq_true rfl⟩, ?_⟩ | refine ⟨_, _, _, _, rfl, hn, rfl, rfl, ?_⟩ | (refine ⟨_, _, rfl, ⟨rfl, rfl⟩, ?_⟩; try dsimp only [wipeE, List.set_cons_succ, List.set_cons_zero]) | (refine ⟨rfl, ?_⟩; try dsimp only [wipeE, List.set_cons_succ, List.set_cons_zero])))
              refine p_compMap (p_any (p_var rfl ⟨_, rfl, rfl, fun v => .bl (keyB v), fun v hv => ⟨_, if_neg (by rw [pl_own (DPl.pl (dk v hv))]; decide), ?_⟩, ?_⟩))
              · (repeat (first | refine p_var rfl ?_ | refine p_c ?_ | refine p_bin ?_ | refine p_cons ?_ | refine p_nil ?_ | refine p_seq ?_ | refine p_asg ?_ | refine p_sif ?_ | refine p_ret ?_ | refine p_bM ?_ | refine p_tM ?_ | refine p_cb ?_ | refine p_andM ?_ | refine p_orM ?_ | refine p_notM ?_ | refine p_chain ?_ | refine p_andV ?_ | refine p_orV ?_ | refine p_notV ?_ | refine p_ifM ?_ | refine p_tup ?_ | refine p_lst ?_ | refine p_call ?_ | refine p_callK ?_ | refine ⟨⟨⟨rfl, rfl⟩, rfl, rfl⟩, ⟨rfl, rfl⟩, ?_⟩ | refine p_setB ?_ | refine p_sl ?_ | refine p_osome ?_ | refine p_onone ?_ | refine p_snil ?_ | refine p_sexpr ?_ | refine p_retN ?_ | refine p_par ?_ | refine p_sh ?_ | refine p_brt rfl ?_ | refine p_brf rfl ?_ | refine ⟨_, rfl, ?_⟩ | refine ⟨⟨rfl, rfl⟩, ?_⟩ | refine ⟨⟨rfl, Nat.le_of_ble_eq_true rfl⟩, ?_⟩ | refine ⟨_, _, _, _, rfl, hn, rfl, rfl, ?_⟩ | (refine ⟨_, _, rfl, ⟨rfl, rfl⟩, ?_⟩; try dsimp only [wipeE, List.set_cons_succ, List.set_cons_zero]) | (refine ⟨rfl, ?_⟩; try dsimp only [wipeE, List.set_cons_succ, List.set_cons_zero])))
                refine ⟨⟨rfl, by show (!isOwn _ && _) = true; rw [pl_own (DPl.pl (dk v hv))]; rfl⟩, ?_⟩
                refine p_spec (is_key_spec (DPl.pl (dk v hv)) (dpl_subs (dk v hv))) fun r h' z => ?_
                obtain ⟨rfl, rfl⟩ := z
                exact ⟨rfl, rfl, rfl, rfl⟩
              · (repeat (first | refine p_var rfl ?_ | refine p_c ?_ | refine p_bin ?_ | refine p_cons ?_ | refine p_nil ?_ | refine p_seq ?_ | refine p_asg ?_ | refine p_sif ?_ | refine p_ret ?_ | refine p_bM ?_ | refine p_tM ?_ | refine p_cb ?_ | refine p_andM ?_ | refine p_orM ?_ | refine p_notM ?_ | refine p_chain ?_ | refine p_andV ?_ | refine p_orV ?_ | refine p_notV ?_ | refine p_ifM ?_ | refine p_tup ?_ | refine p_lst ?_ | refine p_call ?_ | refine p_callK ?_ | refine ⟨⟨⟨rfl, rfl⟩, rfl, rfl⟩, ⟨rfl, rfl⟩, ?_⟩ | refine p_setB ?_ | refine p_sl ?_ | refine p_osome ?_ | refine p_onone ?_ | refine p_snil ?_ | refine p_sexpr ?_ | refine p_retN ?_ | refine p_par ?_ | refine p_sh ?_ | refine p_brt rfl ?_ | refine p_brf rfl ?_ | refine ⟨_, rfl, ?_⟩ | refine ⟨⟨rfl, rfl⟩, ?_⟩ | refine ⟨⟨rfl, Nat.le_of_ble_eq_true rfl⟩, ?_⟩ | refine ⟨_, _, _, _, rfl, hn, rfl, rfl, ?_⟩ | (refine ⟨_, _, rfl, ⟨rfl, rfl⟩, ?_⟩; try dsimp only [wipeE, List.set_cons_succ, List.set_cons_zero]) | (refine ⟨rfl, ?_⟩; try dsimp only [wipeE, List.set_cons_succ, List.set_cons_zero]) | refine ⟨_, all_map keyB, ?_⟩))
                refine ⟨?_, rfl⟩
                show PV.bl _ = .bl (decide ((ks.length : Int) ≤ 40) && (ks.map keyB).all fun b => b)
                have h3 : decide ((ks.length : Int) ≤ 40) = true := h3
                rw [h3]; rfl
            · (repeat (first | refine p_var rfl ?_ | refine p_c ?_ | refine p_bin ?_ | refine p_cons ?_ | refine p_nil ?_ | refine p_seq ?_ | refine p_asg ?_ | refine p_sif ?_ | refine p_ret ?_ | refine p_bM ?_ | refine p_tM ?_ | refine p_cb ?_ | refine p_andM ?_ | refine p_orM ?_ | refine p_notM ?_ | refine p_chain ?_ | refine p_andV ?_ | refine p_orV ?_ | refine p_notV ?_ | refine p_ifM ?_ | refine p_tup ?_ | refine p_lst ?_ | refine p_call ?_ | refine p_callK ?_ | refine ⟨⟨⟨rfl, rfl⟩, rfl, rfl⟩, ⟨rfl, rfl⟩, ?_⟩ | refine p_setB ?_ | refine p_sl ?_ | refine p_osome ?_ | refine p_onone ?_ | refine p_snil ?_ | refine p_sexpr ?_ | refine p_retN ?_ | refine p_par ?_ | refine p_sh ?_ | refine p_brt rfl ?_ | refine p_brf rfl ?_ | refine ⟨_, rfl, ?_⟩ | refine ⟨⟨rfl, rfl⟩, ?_⟩ | refine ⟨⟨rfl, Nat.le_of_ble_eq_true rfl⟩, ?_⟩ | refine ⟨_, _, _, _, rfl, hn, rfl, rfl, ?_⟩ | (refine ⟨_, _, rfl, ⟨rfl, rfl⟩, ?_⟩; try dsimp only [wipeE, List.set_cons_succ, List.set_cons_zero]) | (refine ⟨rfl, ?_⟩; try dsimp only [wipeE, List.set_cons_succ, List.set_cons_zero])))
              refine ⟨?_, rfl⟩
              show PV.bl _ = .bl (decide ((ks.length : Int) ≤ 40) && (ks.map keyB).all fun b => b)
              have h3 : decide ((ks.length : Int) ≤ 40) = false := h3
              rw [h3]; rfl
          | bl k => (repeat (first | refine p_var rfl ?_ | refine p_c ?_ | refine p_bin ?_ | refine p_cons ?_ | refine p_nil ?_ | refine p_seq ?_ | refine p_asg ?_ | refine p_sif ?_ | refine p_ret ?_ | refine p_bM ?_ | refine p_tM ?_ | refine p_cb ?_ | refine p_andM ?_ | refine p_orM ?_ | refine p_notM ?_ | refine p_chain ?_ | refine p_andV ?_ | refine p_orV ?_ | refine p_notV ?_ | refine p_ifM ?_ | refine p_tup ?_ | refine p_lst ?_ | refine p_call ?_ | refine p_callK ?_ | refine ⟨⟨⟨rfl, rfl⟩, rfl, rfl⟩, ⟨rfl, rfl⟩, ?_⟩ | refine p_setB ?_ | refine p_sl ?_ | refine p_osome ?_ | refine p_onone ?_ | refine p_snil ?_ | refine p_sexpr ?_ | refine p_retN ?_ | refine p_par ?_ | refine p_sh ?_ | refine p_brt rfl ?_ | refine p_brf rfl ?_ | refine ⟨_, rfl, ?_⟩ | refine ⟨⟨rfl, rfl⟩, ?_⟩ | refine ⟨⟨rfl, Nat.le_of_ble_eq_true rfl⟩, ?_⟩ | refine ⟨_, _, _, _, rfl, hn, rfl, rfl, ?_⟩ | (refine ⟨_, _, rfl, ⟨rfl, rfl⟩, ?_⟩; try dsimp only [wipeE, List.set_cons_succ, List.set_cons_zero]) | (refine ⟨rfl, ?_⟩; try dsimp only [wipeE, List.set_cons_succ, List.set_cons_zero])))
          | int k => (repeat (first | refine p_var rfl ?_ | refine p_c ?_ | refine p_bin ?_ | refine p_cons ?_ | refine p_nil ?_ | refine p_seq ?_ | refine p_asg ?_ | refine p_sif ?_ | refine p_ret ?_ | refine p_bM ?_ | refine p_tM ?_ | refine p_cb ?_ | refine p_andM ?_ | refine p_orM ?_ | refine p_notM ?_ | refine p_chain ?_ | refine p_andV ?_ | refine p_orV ?_ | refine p_notV ?_ | refine p_ifM ?_ | refine p_tup ?_ | refine p_lst ?_ | refine p_call ?_ | refine p_callK ?_ | refine ⟨⟨⟨rfl, rfl⟩, rfl, rfl⟩, ⟨rfl, rfl⟩, ?_⟩ | refine p_setB ?_ | refine p_sl ?_ | refine p_osome ?_ | refine p_onone ?_ | refine p_snil ?_ | refine p_sexpr ?_ | refine p_retN ?_ | refine p_par ?_ | refine p_sh ?_ | refine p_brt rfl ?_ | refine p_brf rfl ?_ | refine ⟨_, rfl, ?_⟩ | refine ⟨⟨rfl, rfl⟩, ?_⟩ | refine ⟨⟨rfl, Nat.le_of_ble_eq_true rfl⟩, ?_⟩ | refine ⟨_, _, _, _, rfl, hn, rfl, rfl, ?_⟩ | (refine ⟨_, _, rfl, ⟨rfl, rfl⟩, ?_⟩; try dsimp only [wipeE, List.set_cons_succ, List.set_cons_zero]) | (refine ⟨rfl, ?_⟩; try dsimp only [wipeE, List.set_cons_succ, List.set_cons_zero])))
          | non => (repeat (first | refine p_var rfl ?_ | refine p_c ?_ | refine p_bin ?_ | refine p_cons ?_ | refine p_nil ?_ | refine p_seq ?_ | refine p_asg ?_ | refine p_sif ?_ | refine p_ret ?_ | refine p_bM ?_ | refine p_tM ?_ | refine p_cb ?_ | refine p_andM ?_ | refine p_orM ?_ | refine p_notM ?_ | refine p_chain ?_ | refine p_andV ?_ | refine p_orV ?_ | refine p_notV ?_ | refine p_ifM ?_ | refine p_tup ?_ | refine p_lst ?_ | refine p_call ?_ | refine p_callK ?_ | refine ⟨⟨⟨rfl, rfl⟩, rfl, rfl⟩, ⟨rfl, rfl⟩, ?_⟩ | refine p_setB ?_ | refine p_sl ?_ | refine p_osome ?_ | refine p_onone ?_ | refine p_snil ?_ | refine p_sexpr ?_ | refine p_retN ?_ | refine p_par ?_ | refine p_sh ?_ | refine p_brt rfl ?_ | refine p_brf rfl ?_ | refine ⟨_, rfl, ?_⟩ | refine ⟨⟨rfl, rfl⟩, ?_⟩ | refine ⟨⟨rfl, Nat.le_of_ble_eq_true rfl⟩, ?_⟩ | refine ⟨_, _, _, _, rfl, hn, rfl, rfl, ?_⟩ | (refine ⟨_, _, rfl, ⟨rfl, rfl⟩, ?_⟩; try dsimp only [wipeE, List.set_cons_succ, List.set_cons_zero]) | (refine ⟨rfl, ?_⟩; try dsimp only [wipeE, List.set_cons_succ, List.set_cons_zero])))
          | str x => (repeat (first | refine p_var rfl ?_ | refine p_c ?_ | refine p_bin ?_ | refine p_cons ?_ | refine p_nil ?_ | refine p_seq ?_ | refine p_asg ?_ | refine p_sif ?_ | refine p_ret ?_ | refine p_bM ?_ | refine p_tM ?_ | refine p_cb ?_ | refine p_andM ?_ | refine p_orM ?_ | refine p_notM ?_ | refine p_chain ?_ | refine p_andV ?_ | refine p_orV ?_ | refine p_notV ?_ | refine p_ifM ?_ | refine p_tup ?_ | refine p_lst ?_ | refine p_call ?_ | refine p_callK ?_ | refine ⟨⟨⟨rfl, rfl⟩, rfl, rfl⟩, ⟨rfl, rfl⟩, ?_⟩ | refine p_setB ?_ | refine p_sl ?_ | refine p_osome ?_ | refine p_onone ?_ | refine p_snil ?_ | refine p_sexpr ?_ | refine p_retN ?_ | refine p_par ?_ | refine p_sh ?_ | refine p_brt rfl ?_ | refine p_brf rfl ?_ | refine ⟨_, rfl, ?_⟩ | refine ⟨⟨rfl, rfl⟩, ?_⟩ | refine ⟨⟨rfl, Nat.le_of_ble_eq_true rfl⟩, ?_⟩ | refine ⟨_, _, _, _, rfl, hn, rfl, rfl, ?_⟩ | (refine ⟨_, _, rfl, ⟨rfl, rfl⟩, ?_⟩; try dsimp only [wipeE, List.set_cons_succ, List.set_cons_zero]) | (refine ⟨rfl, ?_⟩; try dsimp only [wipeE, List.set_cons_succ, List.set_cons_zero])))
          | lst xs => (repeat (first | refine p_var rfl ?_ | refine p_c ?_ | refine p_bin ?_ | refine p_cons ?_ | refine p_nil ?_ | refine p_seq ?_ | refine p_asg ?_ | refine p_sif ?_ | refine p_ret ?_ | refine p_bM ?_ | refine p_tM ?_ | refine p_cb ?_ | refine p_andM ?_ | refine p_orM ?_ | refine p_notM ?_ | refine p_chain ?_ | refine p_andV ?_ | refine p_orV ?_ | refine p_notV ?_ | refine p_ifM ?_ | refine p_tup ?_ | refine p_lst ?_ | refine p_call ?_ | refine p_callK ?_ | refine ⟨⟨⟨rfl, rfl⟩, rfl, rfl⟩, ⟨rfl, rfl⟩, ?_⟩ | refine p_setB ?_ | refine p_sl ?_ | refine p_osome ?_ | refine p_onone ?_ | refine p_snil ?_ | refine p_sexpr ?_ | refine p_retN ?_ | refine p_par ?_ | refine p_sh ?_ | refine p_brt rfl ?_ | refine p_brf rfl ?_ | refine ⟨_, rfl, ?_⟩ | refine ⟨⟨rfl, rfl⟩, ?_⟩ | refine ⟨⟨rfl, Nat.le_of_ble_eq_true rfl⟩, ?_⟩ | refine ⟨_, _, _, _, rfl, hn, rfl, rfl, ?_⟩ | (refine ⟨_, _, rfl, ⟨rfl, rfl⟩, ?_⟩; try dsimp only [wipeE, List.set_cons_succ, List.set_cons_zero]) | (refine ⟨rfl, ?_⟩; try dsimp only [wipeE, List.set_cons_succ, List.set_cons_zero])))
          | _ => exact pc.elim
        · (repeat (first | refine p_var rfl ?_ | refine p_c ?_ | refine p_bin ?_ | refine p_cons ?_ | refine p_nil ?_ | refine p_seq ?_ | refine p_asg ?_ | refine p_sif ?_ | refine p_ret ?_ | refine p_bM ?_ | refine p_tM ?_ | refine p_cb ?_ | refine p_andM ?_ | refine p_orM ?_ | refine p_notM ?_ | refine p_chain ?_ | refine p_andV ?_ | refine p_orV ?_ | refine p_notV ?_ | refine p_ifM ?_ | refine p_tup ?_ | refine p_lst ?_ | refine p_call ?_ | refine p_callK ?_ | refine ⟨⟨⟨rfl, rfl⟩, rfl, rfl⟩, ⟨rfl, rfl⟩, ?_⟩ | refine p_setB ?_ | refine p_sl ?_ | refine p_osome ?_ | refine p_onone ?_ | refine p_snil ?_ | refine p_sexpr ?_ | refine p_retN ?_ | refine p_par ?_ | refine p_sh ?_ | refine p_brt rfl ?_ | refine p_brf rfl ?_ | refine ⟨_, rfl, ?_⟩ | refine ⟨⟨rfl, rfl⟩, ?_⟩ | refine ⟨⟨rfl, Nat.le_of_ble_eq_true rfl⟩, ?_⟩ | refine ⟨_, _, _, _, rfl, hn, rfl, rfl, ?_⟩ | (refine ⟨_, _, rfl, ⟨rfl, rfl⟩, ?_⟩; try dsimp only [wipeE, List.set_cons_succ, List.set_cons_zero]) | (refine ⟨rfl, ?_⟩; try dsimp only [wipeE, List.set_cons_succ, List.set_cons_zero])))
      | _ => exact dx.elim
  | _ => exact p.elim
/-- what is raised, read by the tester -/
theorem suite_eq {h : AH} : m_suite ⟨[none, some (.exn 0 [.str "InvalidDeed"])], h⟩ = .ok (.rt (.tup [.str "InvalidDeed", .non])) ⟨[none, some (.exn 0 [.str "InvalidDeed"])], h⟩ := by
  unfold m_suite m__law_field
  kernel_rfl
theorem text_spec {v : PV} {h : AH} (d : DPl 3 v) (hl : ∀ xs, v = .tup xs → xs.length < 1000) (hb : deedB v = false) : (m_deed_text [v] h).post (fun _ _ => False) fun x h' => x = .ins 0 [.str "InvalidDeed"] ∧ h' = h := by
  unfold m_deed_text
  rw [xe_deed_text]
  unfold xb_deed_text
  refine p_mkF [some v, none, none, none] rfl ?_
  (repeat (first | refine p_var rfl ?_ | refine p_c ?_ | refine p_bin ?_ | refine p_cons ?_ | refine p_nil ?_ | refine p_seq ?_ | refine p_asg ?_ | refine p_sif ?_ | refine p_ret ?_ | refine p_bM ?_ | refine p_tM ?_ | refine p_cb ?_ | refine p_andM ?_ | refine p_orM ?_ | refine p_notM ?_ | refine p_chain ?_ | refine p_andV ?_ | refine p_orV ?_ | refine p_notV ?_ | refine p_ifM ?_ | refine p_tup ?_ | refine p_lst ?_ | refine p_call ?_ | refine p_callK ?_ | refine ⟨⟨⟨rfl, rfl⟩, rfl, rfl⟩, ⟨rfl, rfl⟩, ?_⟩ | refine p_setB ?_ | refine p_sl ?_ | refine p_osome ?_ | refine p_onone ?_ | refine p_snil ?_ | refine p_sexpr ?_ | refine p_retN ?_ | refine p_par ?_ | refine p_sh ?_ | refine p_brt rfl ?_ | refine p_brf rfl ?_ | refine ⟨_, rfl, ?_⟩ | refine ⟨⟨rfl, rfl⟩, ?_⟩ | refine ⟨⟨rfl, Nat.le_of_ble_eq_true rfl⟩, ?_⟩ | refine ⟨_, _, _, _, rfl, hn, rfl, rfl, ?_⟩ | (refine ⟨_, _, rfl, ⟨rfl, rfl⟩, ?_⟩; try dsimp only [wipeE, List.set_cons_succ, List.set_cons_zero]) | (refine ⟨rfl, ?_⟩; try dsimp only [wipeE, List.set_cons_succ, List.set_cons_zero])))
  refine ⟨⟨rfl, by show (!isOwn _ && _) = true; rw [pl_own (DPl.pl d)]; rfl⟩, ?_⟩
  refine p_spec (is_deed_spec d hl) fun r h' z => ?_
  obtain ⟨rfl, rfl⟩ := z
  rw [hb]
  (repeat (first | refine p_var rfl ?_ | refine p_c ?_ | refine p_bin ?_ | refine p_cons ?_ | refine p_nil ?_ | refine p_seq ?_ | refine p_asg ?_ | refine p_sif ?_ | refine p_ret ?_ | refine p_bM ?_ | refine p_tM ?_ | refine p_cb ?_ | refine p_andM ?_ | refine p_orM ?_ | refine p_notM ?_ | refine p_chain ?_ | refine p_andV ?_ | refine p_orV ?_ | refine p_notV ?_ | refine p_ifM ?_ | refine p_tup ?_ | refine p_lst ?_ | refine p_call ?_ | refine p_callK ?_ | refine ⟨⟨⟨rfl, rfl⟩, rfl, rfl⟩, ⟨rfl, rfl⟩, ?_⟩ | refine p_setB ?_ | refine p_sl ?_ | refine p_osome ?_ | refine p_onone ?_ | refine p_snil ?_ | refine p_sexpr ?_ | refine p_retN ?_ | refine p_par ?_ | refine p_sh ?_ | refine p_brt rfl ?_ | refine p_brf rfl ?_ | refine ⟨_, rfl, ?_⟩ | refine ⟨⟨rfl, rfl⟩, ?_⟩ | refine ⟨⟨rfl, Nat.le_of_ble_eq_true rfl⟩, ?_⟩ | refine ⟨_, _, _, _, rfl, hn, rfl, rfl, ?_⟩ | (refine ⟨_, _, rfl, ⟨rfl, rfl⟩, ?_⟩; try dsimp only [wipeE, List.set_cons_succ, List.set_cons_zero]) | (refine ⟨rfl, ?_⟩; try dsimp only [wipeE, List.set_cons_succ, List.set_cons_zero])))
  refine p_raise ?_
  (repeat (first | refine p_var rfl ?_ | refine p_c ?_ | refine p_bin ?_ | refine p_cons ?_ | refine p_nil ?_ | refine p_seq ?_ | refine p_asg ?_ | refine p_sif ?_ | refine p_ret ?_ | refine p_bM ?_ | refine p_tM ?_ | refine p_cb ?_ | refine p_andM ?_ | refine p_orM ?_ | refine p_notM ?_ | refine p_chain ?_ | refine p_andV ?_ | refine p_orV ?_ | refine p_notV ?_ | refine p_ifM ?_ | refine p_tup ?_ | refine p_lst ?_ | refine p_call ?_ | refine p_callK ?_ | refine ⟨⟨⟨rfl, rfl⟩, rfl, rfl⟩, ⟨rfl, rfl⟩, ?_⟩ | refine p_setB ?_ | refine p_sl ?_ | refine p_osome ?_ | refine p_onone ?_ | refine p_snil ?_ | refine p_sexpr ?_ | refine p_retN ?_ | refine p_par ?_ | refine p_sh ?_ | refine p_brt rfl ?_ | refine p_brf rfl ?_ | refine ⟨_, rfl, ?_⟩ | refine ⟨⟨rfl, rfl⟩, ?_⟩ | refine ⟨⟨rfl, Nat.le_of_ble_eq_true rfl⟩, ?_⟩ | refine ⟨_, _, _, _, rfl, hn, rfl, rfl, ?_⟩ | (refine ⟨_, _, rfl, ⟨rfl, rfl⟩, ?_⟩; try dsimp only [wipeE, List.set_cons_succ, List.set_cons_zero]) | (refine ⟨rfl, ?_⟩; try dsimp only [wipeE, List.set_cons_succ, List.set_cons_zero])))
end
end LW

set_option Elab.async false
set_option linter.all false
set_option maxRecDepth 100000
set_option maxHeartbeats 4000000
namespace LW
open PySem PySem.Spec PyProof.Rows L2 Lp
section
/-- a row's number, a side -/
def RowV (v : PV) : Prop := ∃ i : Int, v = .int i ∧ 0 ≤ i ∧ i < 40
def SideV (v : PV) : Prop := v = .non ∨ RowV v
theorem RowV.b {v : PV} (h : RowV v) : rowB v = true := by
  obtain ⟨i, rfl, h1, h2⟩ := h
  show (decide (0 ≤ i) && decide (i ≤ 39)) = true
  rw [decide_eq_true h1, decide_eq_true (by omega)]; rfl
theorem RowV.side {v : PV} (h : RowV v) : sideB v = true := by
  have b := h.b
  obtain ⟨i, rfl, h1, h2⟩ := h
  exact b
theorem SideV.b {v : PV} (h : SideV v) : sideB v = true := by
  rcases h with rfl | h
  · rfl
  · exact h.side
theorem RowV.pl {v : PV} (h : RowV v) (n : Nat) : DPl n v := by
  obtain ⟨i, rfl, _⟩ := h
  cases n <;> trivial
theorem SideV.pl {v : PV} (h : SideV v) (n : Nat) : DPl n v := by
  rcases h with rfl | h
  · cases n <;> trivial
  · exact h.pl n
def x40 (v : PV) : List PV := (List.replicate (Int.toNat 40) [v]).flatten
theorem x40_len (v : PV) : (x40 v).length = 40 := rfl
theorem x40_mem {v x : PV} (h : x ∈ x40 v) : x = v := by
  unfold x40 at h
  obtain ⟨l, h1, h2⟩ := List.mem_flatten.mp h
  rw [List.eq_of_mem_replicate h1] at h2
  simpa using h2
def goodL (key : List PV) (row side : PV) : PV := .lst [.tup [.str "drop", row, side, .non, .tup key], .tup [.str "drop", .int 39, row, row, .tup [.int (10 ^ Int.toNat 18)]], .tup [.str "strike", row], .tup [.str "back", .int 0],
  .tup [.str "number", .non, side, .tup []], .tup [.str "number", side, .non, .tup [.tup key, .tup key, .tup (x40 (.int 0))]], .tup [.str "number", .int 0, .int 0, .tup (x40 (.tup key))]]
theorem good_spec {h h1 : AH} {n : Nat} (hn : n < h.length) (b : BagAt h n h1) : (m__law_good_deeds [.cel n] h1).post (fun v h' => (∃ key row side, v = goodL key row side ∧ ((∀ x ∈ key, KN x) ∧ 1 ≤ key.length ∧ key.length ≤ 4) ∧ RowV row ∧ SideV side) ∧ BagAt h n h') NE := by
  unfold m__law_good_deeds
  rw [xe__law_good_deeds]
  unfold xb__law_good_deeds
  rw [draw_eq, of_eq]
  refine p_mkF [some (.cel n), none, none, none, none] rfl ?_
  (repeat (first | refine p_var rfl ?_ | refine p_c ?_ | refine p_bin ?_ | refine p_cons ?_ | refine p_nil ?_ | refine p_seq ?_ | refine p_asg ?_ | refine p_sif ?_ | refine p_ret ?_ | refine p_bM ?_ | refine p_tM ?_ | refine p_cb ?_ | refine p_andM ?_ | refine p_orM ?_ | refine p_notM ?_ | refine p_chain ?_ | refine p_andV ?_ | refine p_orV ?_ | refine p_notV ?_ | refine p_ifM ?_ | refine p_tup ?_ | refine p_lst ?_ | refine p_call ?_ | refine p_callK ?_ | refine ⟨⟨⟨rfl, rfl⟩, rfl, rfl⟩, ⟨rfl, rfl⟩, ?_⟩ | refine p_setB ?_ | refine p_sl ?_ | refine p_osome ?_ | refine p_onone ?_ | refine p_snil ?_ | refine p_sexpr ?_ | refine p_retN ?_ | refine p_par ?_ | refine p_sh ?_ | refine p_brt rfl ?_ | refine p_brf rfl ?_ | refine ⟨_, rfl, ?_⟩ | refine ⟨⟨rfl, rfl⟩, ?_⟩ | refine ⟨⟨rfl, Nat.le_of_ble_eq_true rfl⟩, ?_⟩ | refine ⟨_, _, _, _, rfl, hn, rfl, rfl, ?_⟩ | (refine ⟨_, _, rfl, ⟨rfl, rfl⟩, ?_⟩; try dsimp only [wipeE, List.set_cons_succ, List.set_cons_zero]) | (refine ⟨rfl, ?_⟩; try dsimp only [wipeE, List.set_cons_succ, List.set_cons_zero])))
  refine p_compN (p_rng1 ?_)
  (repeat (first | refine p_var rfl ?_ | refine p_c ?_ | refine p_bin ?_ | refine p_cons ?_ | refine p_nil ?_ | refine p_seq ?_ | refine p_asg ?_ | refine p_sif ?_ | refine p_ret ?_ | refine p_bM ?_ | refine p_tM ?_ | refine p_cb ?_ | refine p_andM ?_ | refine p_orM ?_ | refine p_notM ?_ | refine p_chain ?_ | refine p_andV ?_ | refine p_orV ?_ | refine p_notV ?_ | refine p_ifM ?_ | refine p_tup ?_ | refine p_lst ?_ | refine p_call ?_ | refine p_callK ?_ | refine ⟨⟨⟨rfl, rfl⟩, rfl, rfl⟩, ⟨rfl, rfl⟩, ?_⟩ | refine p_setB ?_ | refine p_sl ?_ | refine p_osome ?_ | refine p_onone ?_ | refine p_snil ?_ | refine p_sexpr ?_ | refine p_retN ?_ | refine p_par ?_ | refine p_sh ?_ | refine p_brt rfl ?_ | refine p_brf rfl ?_ | refine ⟨_, rfl, ?_⟩ | refine ⟨⟨rfl, rfl⟩, ?_⟩ | refine ⟨⟨rfl, Nat.le_of_ble_eq_true rfl⟩, ?_⟩ | refine ⟨_, _, _, _, rfl, hn, rfl, rfl, ?_⟩ | (refine ⟨_, _, rfl, ⟨rfl, rfl⟩, ?_⟩; try dsimp only [wipeE, List.set_cons_succ, List.set_cons_zero]) | (refine ⟨rfl, ?_⟩; try dsimp only [wipeE, List.set_cons_succ, List.set_cons_zero])))
  refine p_spec (draw_at hn b (by decide) (by decide)) fun v h' z => ?_
  obtain ⟨⟨d, rfl, d0, d4⟩, b'⟩ := z
  (repeat (first | refine p_var rfl ?_ | refine p_c ?_ | refine p_bin ?_ | refine p_cons ?_ | refine p_nil ?_ | refine p_seq ?_ | refine p_asg ?_ | refine p_sif ?_ | refine p_ret ?_ | refine p_bM ?_ | refine p_tM ?_ | refine p_cb ?_ | refine p_andM ?_ | refine p_orM ?_ | refine p_notM ?_ | refine p_chain ?_ | refine p_andV ?_ | refine p_orV ?_ | refine p_notV ?_ | refine p_ifM ?_ | refine p_tup ?_ | refine p_lst ?_ | refine p_call ?_ | refine p_callK ?_ | refine ⟨⟨⟨rfl, rfl⟩, rfl, rfl⟩, ⟨rfl, rfl⟩, ?_⟩ | refine p_setB ?_ | refine p_sl ?_ | refine p_osome ?_ | refine p_onone ?_ | refine p_snil ?_ | refine p_sexpr ?_ | refine p_retN ?_ | refine p_par ?_ | refine p_sh ?_ | refine p_brt rfl ?_ | refine p_brf rfl ?_ | refine ⟨_, rfl, ?_⟩ | refine ⟨⟨rfl, rfl⟩, ?_⟩ | refine ⟨⟨rfl, Nat.le_of_ble_eq_true rfl⟩, ?_⟩ | refine ⟨_, _, _, _, rfl, hn, rfl, rfl, ?_⟩ | (refine ⟨_, _, rfl, ⟨rfl, rfl⟩, ?_⟩; try dsimp only [wipeE, List.set_cons_succ, List.set_cons_zero]) | (refine ⟨rfl, ?_⟩; try dsimp only [wipeE, List.set_cons_succ, List.set_cons_zero])))
  refine ⟨by omega, rfl, fun j acc hh => (acc.length = j ∧ ∀ x ∈ acc, KN x) ∧ BagAt h n hh, ⟨⟨rfl, fun x hx => by cases hx⟩, b'⟩, fun j v acc hh e i => ?_, fun acc hh i => ?_⟩
  · obtain ⟨k, _, rfl⟩ := List.mem_map.mp (List.mem_of_getElem? e)
    obtain ⟨⟨hl, hk⟩, bb⟩ := i
    refine ⟨_, rfl, p_ok (p_brt rfl ?_)⟩
    (repeat (first | refine p_var rfl ?_ | refine p_c ?_ | refine p_bin ?_ | refine p_cons ?_ | refine p_nil ?_ | refine p_seq ?_ | refine p_asg ?_ | refine p_sif ?_ | refine p_ret ?_ | refine p_bM ?_ | refine p_tM ?_ | refine p_cb ?_ | refine p_andM ?_ | refine p_orM ?_ | refine p_notM ?_ | refine p_chain ?_ | refine p_andV ?_ | refine p_orV ?_ | refine p_notV ?_ | refine p_ifM ?_ | refine p_tup ?_ | refine p_lst ?_ | refine p_call ?_ | refine p_callK ?_ | refine ⟨⟨⟨rfl, rfl⟩, rfl, rfl⟩, ⟨rfl, rfl⟩, ?_⟩ | refine p_setB ?_ | refine p_sl ?_ | refine p_osome ?_ | refine p_onone ?_ | refine p_snil ?_ | refine p_sexpr ?_ | refine p_retN ?_ | refine p_par ?_ | refine p_sh ?_ | refine p_brt rfl ?_ | refine p_brf rfl ?_ | refine ⟨_, rfl, ?_⟩ | refine ⟨⟨rfl, rfl⟩, ?_⟩ | refine ⟨⟨rfl, Nat.le_of_ble_eq_true rfl⟩, ?_⟩ | refine ⟨_, _, _, _, rfl, hn, rfl, rfl, ?_⟩ | (refine ⟨_, _, rfl, ⟨rfl, rfl⟩, ?_⟩; try dsimp only [wipeE, List.set_cons_succ, List.set_cons_zero]) | (refine ⟨rfl, ?_⟩; try dsimp only [wipeE, List.set_cons_succ, List.set_cons_zero])))
    refine p_spec (draw_at hn bb (by decide) (by decide)) fun v h' z => ?_
    obtain ⟨⟨c, rfl, c0, c9⟩, b2⟩ := z
    (repeat (first | refine p_var rfl ?_ | refine p_c ?_ | refine p_bin ?_ | refine p_cons ?_ | refine p_nil ?_ | refine p_seq ?_ | refine p_asg ?_ | refine p_sif ?_ | refine p_ret ?_ | refine p_bM ?_ | refine p_tM ?_ | refine p_cb ?_ | refine p_andM ?_ | refine p_orM ?_ | refine p_notM ?_ | refine p_chain ?_ | refine p_andV ?_ | refine p_orV ?_ | refine p_notV ?_ | refine p_ifM ?_ | refine p_tup ?_ | refine p_lst ?_ | refine p_call ?_ | refine p_callK ?_ | refine ⟨⟨⟨rfl, rfl⟩, rfl, rfl⟩, ⟨rfl, rfl⟩, ?_⟩ | refine p_setB ?_ | refine p_sl ?_ | refine p_osome ?_ | refine p_onone ?_ | refine p_snil ?_ | refine p_sexpr ?_ | refine p_retN ?_ | refine p_par ?_ | refine p_sh ?_ | refine p_brt rfl ?_ | refine p_brf rfl ?_ | refine ⟨_, rfl, ?_⟩ | refine ⟨⟨rfl, rfl⟩, ?_⟩ | refine ⟨⟨rfl, Nat.le_of_ble_eq_true rfl⟩, ?_⟩ | refine ⟨_, _, _, _, rfl, hn, rfl, rfl, ?_⟩ | (refine ⟨_, _, rfl, ⟨rfl, rfl⟩, ?_⟩; try dsimp only [wipeE, List.set_cons_succ, List.set_cons_zero]) | (refine ⟨rfl, ?_⟩; try dsimp only [wipeE, List.set_cons_succ, List.set_cons_zero])))
    exact ⟨⟨by rw [List.length_append, hl]; rfl, fun x hx => by
      rcases List.mem_append.mp hx with hx | hx
      · exact hk x hx
      · simp only [List.mem_singleton] at hx
        rw [hx]; exact ⟨_, rfl, by omega, by omega⟩⟩, b2⟩
  obtain ⟨⟨hl, hk⟩, bg⟩ := i
  have hl : (acc.length : Int) = 1 + d := by
    rw [hl]; simp only [List.length_map, List.length_range]; omega
  (repeat (first | refine p_var rfl ?_ | refine p_c ?_ | refine p_bin ?_ | refine p_cons ?_ | refine p_nil ?_ | refine p_seq ?_ | refine p_asg ?_ | refine p_sif ?_ | refine p_ret ?_ | refine p_bM ?_ | refine p_tM ?_ | refine p_cb ?_ | refine p_andM ?_ | refine p_orM ?_ | refine p_notM ?_ | refine p_chain ?_ | refine p_andV ?_ | refine p_orV ?_ | refine p_notV ?_ | refine p_ifM ?_ | refine p_tup ?_ | refine p_lst ?_ | refine p_call ?_ | refine p_callK ?_ | refine ⟨⟨⟨rfl, rfl⟩, rfl, rfl⟩, ⟨rfl, rfl⟩, ?_⟩ | refine p_setB ?_ | refine p_sl ?_ | refine p_osome ?_ | refine p_onone ?_ | refine p_snil ?_ | refine p_sexpr ?_ | refine p_retN ?_ | refine p_par ?_ | refine p_sh ?_ | refine p_brt rfl ?_ | refine p_brf rfl ?_ | refine ⟨_, rfl, ?_⟩ | refine ⟨⟨rfl, rfl⟩, ?_⟩ | refine ⟨⟨rfl, Nat.le_of_ble_eq_true rfl⟩, ?_⟩ | refine ⟨_, _, _, _, rfl, hn, rfl, rfl, ?_⟩ | (refine ⟨_, _, rfl, ⟨rfl, rfl⟩, ?_⟩; try dsimp only [wipeE, List.set_cons_succ, List.set_cons_zero]) | (refine ⟨rfl, ?_⟩; try dsimp only [wipeE, List.set_cons_succ, List.set_cons_zero])))
  refine p_spec (draw_at hn bg (by decide) (by decide)) fun v h' z => ?_
  obtain ⟨⟨row, rfl, r0, r1⟩, bg⟩ := z
  (repeat (first | refine p_var rfl ?_ | refine p_c ?_ | refine p_bin ?_ | refine p_cons ?_ | refine p_nil ?_ | refine p_seq ?_ | refine p_asg ?_ | refine p_sif ?_ | refine p_ret ?_ | refine p_bM ?_ | refine p_tM ?_ | refine p_cb ?_ | refine p_andM ?_ | refine p_orM ?_ | refine p_notM ?_ | refine p_chain ?_ | refine p_andV ?_ | refine p_orV ?_ | refine p_notV ?_ | refine p_ifM ?_ | refine p_tup ?_ | refine p_lst ?_ | refine p_call ?_ | refine p_callK ?_ | refine ⟨⟨⟨rfl, rfl⟩, rfl, rfl⟩, ⟨rfl, rfl⟩, ?_⟩ | refine p_setB ?_ | refine p_sl ?_ | refine p_osome ?_ | refine p_onone ?_ | refine p_snil ?_ | refine p_sexpr ?_ | refine p_retN ?_ | refine p_par ?_ | refine p_sh ?_ | refine p_brt rfl ?_ | refine p_brf rfl ?_ | refine ⟨_, rfl, ?_⟩ | refine ⟨⟨rfl, rfl⟩, ?_⟩ | refine ⟨⟨rfl, Nat.le_of_ble_eq_true rfl⟩, ?_⟩ | refine ⟨_, _, _, _, rfl, hn, rfl, rfl, ?_⟩ | (refine ⟨_, _, rfl, ⟨rfl, rfl⟩, ?_⟩; try dsimp only [wipeE, List.set_cons_succ, List.set_cons_zero]) | (refine ⟨rfl, ?_⟩; try dsimp only [wipeE, List.set_cons_succ, List.set_cons_zero])))
  refine p_spec (draw_at hn bg (by decide) (by decide)) fun v h' z => ?_
  obtain ⟨⟨sd, rfl, s0, s1⟩, bg⟩ := z
  (repeat (first | refine p_var rfl ?_ | refine p_c ?_ | refine p_bin ?_ | refine p_cons ?_ | refine p_nil ?_ | refine p_seq ?_ | refine p_asg ?_ | refine p_sif ?_ | refine p_ret ?_ | refine p_bM ?_ | refine p_tM ?_ | refine p_cb ?_ | refine p_andM ?_ | refine p_orM ?_ | refine p_notM ?_ | refine p_chain ?_ | refine p_andV ?_ | refine p_orV ?_ | refine p_notV ?_ | refine p_ifM ?_ | refine p_tup ?_ | refine p_lst ?_ | refine p_call ?_ | refine p_callK ?_ | refine ⟨⟨⟨rfl, rfl⟩, rfl, rfl⟩, ⟨rfl, rfl⟩, ?_⟩ | refine p_setB ?_ | refine p_sl ?_ | refine p_osome ?_ | refine p_onone ?_ | refine p_snil ?_ | refine p_sexpr ?_ | refine p_retN ?_ | refine p_par ?_ | refine p_sh ?_ | refine p_brt rfl ?_ | refine p_brf rfl ?_ | refine ⟨_, rfl, ?_⟩ | refine ⟨⟨rfl, rfl⟩, ?_⟩ | refine ⟨⟨rfl, Nat.le_of_ble_eq_true rfl⟩, ?_⟩ | refine ⟨_, _, _, _, rfl, hn, rfl, rfl, ?_⟩ | (refine ⟨_, _, rfl, ⟨rfl, rfl⟩, ?_⟩; try dsimp only [wipeE, List.set_cons_succ, List.set_cons_zero]) | (refine ⟨rfl, ?_⟩; try dsimp only [wipeE, List.set_cons_succ, List.set_cons_zero])))
  refine p_spec (of_lst hn bg (by simp) (by simp) rfl) fun side h' z => ?_
  obtain ⟨hv, bg⟩ := z
  have hs : SideV side := by
    simp only [List.mem_cons, List.not_mem_nil, or_false] at hv
    rcases hv with rfl | rfl | rfl | rfl
    · exact .inl rfl
    · exact .inr ⟨_, rfl, by decide, by decide⟩
    · exact .inr ⟨_, rfl, by decide, by decide⟩
    · exact .inr ⟨_, rfl, s0, s1⟩
  have ps := DPl.pl (hs.pl 0)
  (repeat (first | refine p_var rfl ?_ | refine p_c ?_ | refine p_bin ?_ | refine p_cons ?_ | refine p_nil ?_ | refine p_seq ?_ | refine p_asg ?_ | refine p_sif ?_ | refine p_ret ?_ | refine p_bM ?_ | refine p_tM ?_ | refine p_cb ?_ | refine p_andM ?_ | refine p_orM ?_ | refine p_notM ?_ | refine p_chain ?_ | refine p_andV ?_ | refine p_orV ?_ | refine p_notV ?_ | refine p_ifM ?_ | refine p_tup ?_ | refine p_lst ?_ | refine p_call ?_ | refine p_callK ?_ | refine ⟨⟨⟨rfl, rfl⟩, rfl, rfl⟩, ⟨rfl, rfl⟩, ?_⟩ | refine p_setB ?_ | refine p_sl ?_ | refine p_osome ?_ | refine p_onone ?_ | refine p_snil ?_ | refine p_sexpr ?_ | refine p_retN ?_ | refine p_par ?_ | refine p_sh ?_ | refine p_brt rfl ?_ | refine p_brf rfl ?_ | refine ⟨_, rfl, ?_⟩ | refine ⟨⟨rfl, rfl⟩, ?_⟩ | refine ⟨⟨rfl, Nat.le_of_ble_eq_true rfl⟩, ?_⟩ | refine ⟨_, _, _, _, rfl, hn, rfl, rfl, ?_⟩ | (refine ⟨_, _, rfl, ⟨rfl, rfl⟩, ?_⟩; try dsimp only [wipeE, List.set_cons_succ, List.set_cons_zero]) | (refine ⟨rfl, ?_⟩; try dsimp only [wipeE, List.set_cons_succ, List.set_cons_zero])))
  refine ⟨_, _, rfl, ⟨rfl, pl_own ps⟩, ?_⟩
  dsimp only [List.set_cons_succ, List.set_cons_zero]
  (repeat (first | refine p_var rfl ?_ | refine p_c ?_ | refine p_bin ?_ | refine p_cons ?_ | refine p_nil ?_ | refine p_seq ?_ | refine p_asg ?_ | refine p_sif ?_ | refine p_ret ?_ | refine p_bM ?_ | refine p_tM ?_ | refine p_cb ?_ | refine p_andM ?_ | refine p_orM ?_ | refine p_notM ?_ | refine p_chain ?_ | refine p_andV ?_ | refine p_orV ?_ | refine p_notV ?_ | refine p_ifM ?_ | refine p_tup ?_ | refine p_lst ?_ | refine p_call ?_ | refine p_callK ?_ | refine ⟨⟨⟨rfl, rfl⟩, rfl, rfl⟩, ⟨rfl, rfl⟩, ?_⟩ | refine p_setB ?_ | refine p_sl ?_ | refine p_osome ?_ | refine p_onone ?_ | refine p_snil ?_ | refine p_sexpr ?_ | refine p_retN ?_ | refine p_par ?_ | refine p_sh ?_ | refine p_brt rfl ?_ | refine p_brf rfl ?_ | refine ⟨_, rfl, ?_⟩ | refine ⟨⟨rfl, rfl⟩, ?_⟩ | refine ⟨⟨rfl, Nat.le_of_ble_eq_true rfl⟩, ?_⟩ | refine ⟨_, _, _, _, rfl, hn, rfl, rfl, ?_⟩ | (refine ⟨_, _, rfl, ⟨rfl, rfl⟩, ?_⟩; try dsimp only [wipeE, List.set_cons_succ, List.set_cons_zero]) | (refine ⟨rfl, ?_⟩; try dsimp only [wipeE, List.set_cons_succ, List.set_cons_zero]) | refine ⟨⟨by simp only [allSh, List.all_cons, pl_own ps]; rfl, Nat.le_of_ble_eq_true rfl⟩, ?_⟩ | refine ⟨_, fMul_tup (by simp) (by decide) (by decide) (by decide), ?_⟩))
  exact ⟨⟨acc, .int row, side, rfl, ⟨hk, by omega, by omega⟩, ⟨row, rfl, r0, r1⟩, hs⟩, bg⟩
theorem keyD {key : List PV} (h : ∀ x ∈ key, KN x) : DPl 1 (.tup key) := fun x hx => by
  obtain ⟨i, rfl, _⟩ := h x hx
  trivial
def Dd (v : PV) (q : Bool) : Prop := deedB v = q ∧ DPl 3 v ∧ ∀ xs, v = .tup xs → xs.length < 1000
theorem dd_of {v : PV} {q : Bool} (e : deedB v = q) (d : DPl 3 v) (l : ∀ xs, v = .tup xs → xs.length < 1000) : Dd v q := ⟨e, d, l⟩
def badL (key : List PV) (row odd far bent : PV) : List PV := [.tup [.str "drop", odd, .non, .non, .tup key], .tup [.str "drop", row, far, .non, .tup key], .tup [.str "drop", row, .non, far, .tup key], .tup [.str "drop", row, .non, .non, bent], .tup [.str "drop", row, .non, .non], .tup [.str "drop", row, .non, .non, .tup key, .int 0],
  .tup [.str "strike", odd], .tup [.str "back", odd], .tup [.str "strike"], .tup [.str "back", .int 1, .int 2], .tup [.str "number", far, .non, .tup []], .tup [.str "number", .non, far, .tup []], .tup [.str "number", .non, .non, .lst [.tup key]], .tup [.str "number", .non, .non, .tup [.tup key, bent]],
  .tup [.str "number", .non, .non], .tup [.str "number", .non, .non, .tup (List.replicate (Int.toNat 41) [.tup key]).flatten], .tup [.str "Drop", row, .non, .non, .tup key], .tup [], .non, .int 3, .str "strike 1", .lst [.str "strike", row], .tup [.lst [.str "strike"], row], .tup [.str "strike", row, .non], .tup [.str "take", .int 1], .tup [.int 3, .int 1]]
theorem wd : wIn "drop" = false ∧ wDrop "drop" = true := by decide +kernel
theorem wn : wIn "number" = false ∧ wDrop "number" = false ∧ wNum "number" = true := by decide +kernel
theorem ws : wIn "strike" = true ∧ wIn "back" = true := by decide +kernel
theorem wD : wIn "Drop" = false ∧ wDrop "Drop" = false ∧ wNum "Drop" = false := by decide +kernel
theorem wt : wIn "take" = false ∧ wDrop "take" = false ∧ wNum "take" = false := by decide +kernel
theorem deedB_eq (w : Str) (ps : List PV) : deedB (.tup (.str w :: ps)) = cond (wIn w) (oneB ps) (cond (wDrop w) (fourB ps) (wNum w && threeB ps)) := rfl
theorem b_drop (ps : List PV) : deedB (.tup (.str "drop" :: ps)) = fourB ps := by
  rw [deedB_eq, wd.1, wd.2]; rfl
theorem b_num (ps : List PV) : deedB (.tup (.str "number" :: ps)) = threeB ps := by
  rw [deedB_eq, wn.1, wn.2.1, wn.2.2]; rfl
theorem b_strike (ps : List PV) : deedB (.tup (.str "strike" :: ps)) = oneB ps := by
  rw [deedB_eq, ws.1]; rfl
theorem b_back (ps : List PV) : deedB (.tup (.str "back" :: ps)) = oneB ps := by
  rw [deedB_eq, ws.2]; rfl
theorem b_Drop (ps : List PV) : deedB (.tup (.str "Drop" :: ps)) = false := by
  rw [deedB_eq, wD.1, wD.2.1, wD.2.2]; rfl
theorem b_take (ps : List PV) : deedB (.tup (.str "take" :: ps)) = false := by
  rw [deedB_eq, wt.1, wt.2.1, wt.2.2]; rfl
theorem four_eq (a b c d : PV) : fourB [a, b, c, d] = (rowB a && (sideB b && (sideB c && keyB d))) := rfl
theorem three_eq (a b c : PV) : threeB [a, b, c] = (sideB a && (sideB b && someB c)) := rfl
theorem dtup {n : Nat} {xs : List PV} (h : ∀ x ∈ xs, DPl n x) : DPl (n + 1) (.tup xs) := h
theorem dlst {n : Nat} {xs : List PV} (h : ∀ x ∈ xs, DPl n x) : DPl (n + 1) (.lst xs) := h
theorem dpl_up : ∀ (n : Nat) {v : PV}, DPl n v → DPl (n + 1) v
  | 0, v, h => by cases v <;> first | exact h.elim | trivial
  | n + 1, v, h => by
    cases v with
    | tup xs => exact fun x hx => dpl_up n (h x hx)
    | lst xs => exact fun x hx => dpl_up n (h x hx)
    | _ => first | exact h.elim | trivial
theorem dstr (n : Nat) (x : Str) : DPl n (.str x) := by cases n <;> trivial
theorem dint (n : Nat) (x : Int) : DPl n (.int x) := by cases n <;> trivial
theorem dnon (n : Nat) : DPl n .non := by cases n <;> trivial
theorem bad_all {key : List PV} {row odd far bent : PV} (hk : ∀ x ∈ key, KN x) (h1 : 1 ≤ key.length) (h4 : key.length ≤ 4) (hr : RowV row) (ho : rowB odd = false) (do_ : DPl 1 odd) (hf : sideB far = false) (df : DPl 1 far) (hb : keyB bent = false) (db : DPl 1 bent) :
    ∀ v ∈ badL key row odd far bent, Dd v false := by
  have kb : keyB (.tup key) = true := key_good hk h1 (by omega)
  have dk : DPl 2 (.tup key) := dpl_up 1 (keyD hk)
  have dr := hr.pl 2
  have do2 := dpl_up 1 do_
  have df2 := dpl_up 1 df
  have db2 := dpl_up 1 db
  have rb := hr.b
  have lc : ∀ (ys : List PV), ys.length < 1000 → ∀ xs, PV.tup ys = .tup xs → xs.length < 1000 := fun ys h xs e => by cases e; exact h
  intro v hv
  have mem : ∀ {ys : List PV}, (∀ y ∈ ys, DPl 2 y) → DPl 3 (.tup ys) := fun h => h
  simp only [badL, List.mem_cons, List.not_mem_nil, or_false] at hv
  rcases hv with rfl | rfl | rfl | rfl | rfl | rfl | rfl | rfl | rfl | rfl | rfl | rfl | rfl | rfl | rfl | rfl | rfl | rfl | rfl | rfl | rfl | rfl | rfl | rfl | rfl | rfl
  · exact dd_of (by rw [b_drop, four_eq, ho]; rfl) (mem (by simp [do2, dk, dstr, dnon])) (lc _ (by simp))
  · exact dd_of (by rw [b_drop, four_eq, rb, hf]; rfl) (mem (by simp [df2, dr, dk, dstr, dnon])) (lc _ (by simp))
  · exact dd_of (by rw [b_drop, four_eq, rb, hf]; rfl) (mem (by simp [df2, dr, dk, dstr, dnon])) (lc _ (by simp))
  · exact dd_of (by rw [b_drop, four_eq, rb, hb]; rfl) (mem (by simp [db2, dr, dk, dstr, dnon])) (lc _ (by simp))
  · exact dd_of (by rw [b_drop]; rfl) (mem (by simp [dr, dk, dstr, dnon])) (lc _ (by simp))
  · exact dd_of (by rw [b_drop]; rfl) (mem (by simp [dr, dk, dstr, dnon, dint])) (lc _ (by simp))
  · exact dd_of (by rw [b_strike]; exact ho) (mem (by simp [do2, dstr])) (lc _ (by simp))
  · exact dd_of (by rw [b_back]; exact ho) (mem (by simp [do2, dstr])) (lc _ (by simp))
  · exact dd_of (by rw [b_strike]; rfl) (mem (by simp [dstr])) (lc _ (by simp))
  · exact dd_of (by rw [b_back]; rfl) (mem (by simp [dstr, dint])) (lc _ (by simp))
  · exact dd_of (by rw [b_num, three_eq, hf]; rfl) (mem (by simp [df2, dstr, dnon, DPl])) (lc _ (by simp))
  · exact dd_of (by rw [b_num, three_eq, hf]; rfl) (mem (by simp [df2, dstr, dnon, DPl])) (lc _ (by simp))
  · exact dd_of (by rw [b_num, three_eq]; rfl) (mem (by simp [dstr, dnon]; exact dlst (by simp; exact keyD hk))) (lc _ (by simp))
  · exact dd_of (by rw [b_num, three_eq, show someB (.tup [.tup key, bent]) = false by simp [someB, hb]]; rfl) (mem (by simp [dstr, dnon]; exact dtup (by simp [db]; exact keyD hk))) (lc _ (by simp))
  · exact dd_of (by rw [b_num]; rfl) (mem (by simp [dstr, dnon])) (lc _ (by simp))
  · refine dd_of (by rw [b_num, three_eq]; rfl) (mem fun y hy => ?_) (lc _ (by simp))
    simp only [List.mem_cons, List.not_mem_nil, or_false] at hy
    rcases hy with rfl | rfl | rfl | rfl
    · exact dstr _ _
    · exact dnon _
    · exact dnon _
    · refine dtup fun x hx => ?_
      obtain ⟨l, h1, h2⟩ := List.mem_flatten.mp hx
      rw [List.eq_of_mem_replicate h1] at h2
      simp only [List.mem_singleton] at h2
      rw [h2]; exact keyD hk
  · exact dd_of (b_Drop _) (mem (by simp [dr, dk, dstr, dnon])) (lc _ (by simp))
  · exact dd_of rfl (mem (by simp)) (lc _ (by simp))
  · exact dd_of rfl trivial (fun _ e => by cases e)
  · exact dd_of rfl trivial (fun _ e => by cases e)
  · exact dd_of rfl trivial (fun _ e => by cases e)
  · exact dd_of rfl (dlst (by simp [dr, dstr])) (fun _ e => by cases e)
  · exact dd_of rfl (mem (by simp [dr]; exact dlst (by simp [dstr]))) (lc _ (by simp))
  · exact dd_of (by rw [b_strike]; rfl) (mem (by simp [dr, dstr, dnon])) (lc _ (by simp))
  · exact dd_of (b_take _) (mem (by simp [dstr, dint])) (lc _ (by simp))
  · exact dd_of rfl (mem (by simp [dint])) (lc _ (by simp))
theorem good_all {key : List PV} {row side : PV} (hk : ∀ x ∈ key, KN x) (h1 : 1 ≤ key.length) (h4 : key.length ≤ 4) (hr : RowV row) (hs : SideV side) : ∃ vs, goodL key row side = .lst vs ∧ vs.length = 7 ∧ ∀ v ∈ vs, Dd v true := by
  have kb : keyB (.tup key) = true := key_good hk h1 (by omega)
  have dk : DPl 2 (.tup key) := dpl_up 1 (keyD hk)
  have dr := hr.pl 2
  have ds := hs.pl 2
  have rb := hr.b
  have sb := hs.b
  have rs := hr.side
  have lc : ∀ (ys : List PV), ys.length < 1000 → ∀ xs, PV.tup ys = .tup xs → xs.length < 1000 := fun ys h xs e => by cases e; exact h
  have mem : ∀ {ys : List PV}, (∀ y ∈ ys, DPl 2 y) → DPl 3 (.tup ys) := fun h => h
  have k2 : ∀ (n : Int), (∀ x ∈ (x40 (.int 0)), KN x) := fun _ x hx => by rw [x40_mem hx]; exact ⟨0, rfl, by decide, by decide⟩
  have s1 : someB (.tup [.tup key, .tup key, .tup (x40 (.int 0))]) = true := by
    have e : keyB (.tup (x40 (.int 0))) = true := key_good (k2 0) (by decide) (by decide)
    simp [someB, kb, e]
  have s2 : someB (.tup (x40 (.tup key))) = true := by
    show (decide (((x40 (.tup key)).length : Int) ≤ 40) && ((x40 (.tup key)).map keyB).all fun b => b) = true
    rw [x40_len, List.all_eq_true.mpr]
    · rfl
    · intro b hb
      obtain ⟨x, hx, rfl⟩ := List.mem_map.mp hb
      rw [x40_mem hx]; exact kb
  have d2 : DPl 2 (.tup (x40 (.tup key))) := dtup fun x hx => by rw [x40_mem hx]; exact keyD hk
  have d3 : DPl 2 (.tup [.tup key, .tup key, .tup (x40 (.int 0))]) := dtup fun x hx => by
    simp only [List.mem_cons, List.not_mem_nil, or_false] at hx
    rcases hx with rfl | rfl | rfl
    · exact keyD hk
    · exact keyD hk
    · exact dtup fun y hy => by rw [x40_mem hy]; exact dint _ _
  refine ⟨_, rfl, rfl, fun v hv => ?_⟩
  simp only [List.mem_cons, List.not_mem_nil, or_false] at hv
  rcases hv with rfl | rfl | rfl | rfl | rfl | rfl | rfl
  · exact dd_of (by rw [b_drop, four_eq, rb, sb, kb]; rfl) (mem (by simp [dr, ds, dk, dstr, dnon])) (lc _ (by simp))
  · exact dd_of (by rw [b_drop, four_eq, rs]; decide +kernel) (mem (by simp [dr, dint, dstr, DPl])) (lc _ (by simp))
  · exact dd_of (by rw [b_strike]; exact rb) (mem (by simp [dr, dstr])) (lc _ (by simp))
  · exact dd_of (by rw [b_back]; decide +kernel) (mem (by simp [dint, dstr])) (lc _ (by simp))
  · exact dd_of (by rw [b_num, three_eq, sb]; rfl) (mem (by simp [ds, dnon, dstr, DPl])) (lc _ (by simp))
  · refine dd_of (by rw [b_num, three_eq, sb, s1]; rfl) (mem fun y hy => ?_) (lc _ (by simp))
    simp only [List.mem_cons, List.not_mem_nil, or_false] at hy
    rcases hy with rfl | rfl | rfl | rfl
    · exact dstr _ _
    · exact ds
    · exact dnon _
    · exact d3
  · refine dd_of (by rw [b_num, three_eq, s2]; decide +kernel) (mem fun y hy => ?_) (lc _ (by simp))
    simp only [List.mem_cons, List.not_mem_nil, or_false] at hy
    rcases hy with rfl | rfl | rfl | rfl
    · exact dstr _ _
    · exact dint _ _
    · exact dint _ _
    · exact d2
theorem map_dd {vs : List PV} {q : Bool} (h : ∀ v ∈ vs, Dd v q) : vs.map (fun v => PV.bl (deedB v)) = List.replicate vs.length (.bl q) := by
  rw [List.eq_replicate_iff]
  refine ⟨by simp, fun b hb => ?_⟩
  obtain ⟨v, hv, rfl⟩ := List.mem_map.mp hb
  rw [(h v hv).1]
theorem bls_D {n : Nat} (k : Nat) (q : Bool) : DPl (n + 1) (.lst (List.replicate k (.bl q))) := fun x hx => by
  rw [List.eq_of_mem_replicate hx]
  cases n <;> trivial
def InvL (ns : List Int) (s : S) : Prop := (∃ ys : List (Option PV), ys.length = 9 ∧ s.e = some (.scr (ns.map .int)) :: some (.cel 0) :: ys) ∧ BagAt [none] 0 s.h
theorem exp9 (ys : List (Option PV)) (h : ys.length = 9) : ∃ y2 y3 y4 y5 y6 y7 y8 y9 y10, ys = [y2, y3, y4, y5, y6, y7, y8, y9, y10] :=
  match ys, h with
  | [y2, y3, y4, y5, y6, y7, y8, y9, y10], _ => ⟨y2, y3, y4, y5, y6, y7, y8, y9, y10, rfl⟩
theorem law_true (ns : List Int) (h63 : ns.length ≤ 63) (hb : ∀ z ∈ ns, Builtin.Int.intBits z ≤ 1048576) : ∃ h', m_law [.scr (ns.map .int)] [] = .ok (.bl true) h' := by
  suffices H : (m_law [.scr (ns.map .int)] []).post (fun v h' => v = .bl true) NE by
    obtain ⟨v, h', e, rfl⟩ := p_ex H
    exact ⟨h', e⟩
  unfold m_law
  rw [xe_law]
  unfold xb_law
  rw [of_eq, like_eq]
  refine p_mkF (some (.scr (ns.map .int)) :: List.replicate 10 none) rfl ?_
  (repeat (first | refine p_var rfl ?_ | refine p_c ?_ | refine p_bin ?_ | refine p_cons ?_ | refine p_nil ?_ | refine p_seq ?_ | refine p_asg ?_ | refine p_sif ?_ | refine p_ret ?_ | refine p_bM ?_ | refine p_tM ?_ | refine p_cb ?_ | refine p_andM ?_ | refine p_orM ?_ | refine p_notM ?_ | refine p_chain ?_ | refine p_andV ?_ | refine p_orV ?_ | refine p_notV ?_ | refine p_ifM ?_ | refine p_tup ?_ | refine p_lst ?_ | refine p_call ?_ | refine p_callK ?_ | refine ⟨⟨⟨rfl, rfl⟩, rfl, rfl⟩, ⟨rfl, rfl⟩, ?_⟩ | refine p_setB ?_ | refine p_sl ?_ | refine p_osome ?_ | refine p_onone ?_ | refine p_snil ?_ | refine p_sexpr ?_ | refine p_retN ?_ | refine p_par ?_ | refine p_sh ?_ | refine p_brt rfl ?_ | refine p_brf rfl ?_ | refine ⟨_, rfl, ?_⟩ | refine ⟨⟨rfl, rfl⟩, ?_⟩ | refine ⟨⟨rfl, Nat.le_of_ble_eq_true rfl⟩, ?_⟩ | refine ⟨_, _, _, _, rfl, hn, rfl, rfl, ?_⟩ | (refine ⟨_, _, rfl, ⟨rfl, rfl⟩, ?_⟩; try dsimp only [wipeE, List.set_cons_succ, List.set_cons_zero]) | (refine ⟨rfl, ?_⟩; try dsimp only [wipeE, List.set_cons_succ, List.set_cons_zero])))
  refine p_spec (open_spec h63) fun v h' z => ?_
  obtain ⟨rfl, b⟩ := z
  (repeat (first | refine p_var rfl ?_ | refine p_c ?_ | refine p_bin ?_ | refine p_cons ?_ | refine p_nil ?_ | refine p_seq ?_ | refine p_asg ?_ | refine p_sif ?_ | refine p_ret ?_ | refine p_bM ?_ | refine p_tM ?_ | refine p_cb ?_ | refine p_andM ?_ | refine p_orM ?_ | refine p_notM ?_ | refine p_chain ?_ | refine p_andV ?_ | refine p_orV ?_ | refine p_notV ?_ | refine p_ifM ?_ | refine p_tup ?_ | refine p_lst ?_ | refine p_call ?_ | refine p_callK ?_ | refine ⟨⟨⟨rfl, rfl⟩, rfl, rfl⟩, ⟨rfl, rfl⟩, ?_⟩ | refine p_setB ?_ | refine p_sl ?_ | refine p_osome ?_ | refine p_onone ?_ | refine p_snil ?_ | refine p_sexpr ?_ | refine p_retN ?_ | refine p_par ?_ | refine p_sh ?_ | refine p_brt rfl ?_ | refine p_brf rfl ?_ | refine ⟨_, rfl, ?_⟩ | refine ⟨⟨rfl, rfl⟩, ?_⟩ | refine ⟨⟨rfl, Nat.le_of_ble_eq_true rfl⟩, ?_⟩ | refine ⟨_, _, _, _, rfl, hn, rfl, rfl, ?_⟩ | (refine ⟨_, _, rfl, ⟨rfl, rfl⟩, ?_⟩; try dsimp only [wipeE, List.set_cons_succ, List.set_cons_zero]) | (refine ⟨rfl, ?_⟩; try dsimp only [wipeE, List.set_cons_succ, List.set_cons_zero])))
  refine p_for (p_rng1 ?_)
  (repeat (first | refine p_var rfl ?_ | refine p_c ?_ | refine p_bin ?_ | refine p_cons ?_ | refine p_nil ?_ | refine p_seq ?_ | refine p_asg ?_ | refine p_sif ?_ | refine p_ret ?_ | refine p_bM ?_ | refine p_tM ?_ | refine p_cb ?_ | refine p_andM ?_ | refine p_orM ?_ | refine p_notM ?_ | refine p_chain ?_ | refine p_andV ?_ | refine p_orV ?_ | refine p_notV ?_ | refine p_ifM ?_ | refine p_tup ?_ | refine p_lst ?_ | refine p_call ?_ | refine p_callK ?_ | refine ⟨⟨⟨rfl, rfl⟩, rfl, rfl⟩, ⟨rfl, rfl⟩, ?_⟩ | refine p_setB ?_ | refine p_sl ?_ | refine p_osome ?_ | refine p_onone ?_ | refine p_snil ?_ | refine p_sexpr ?_ | refine p_retN ?_ | refine p_par ?_ | refine p_sh ?_ | refine p_brt rfl ?_ | refine p_brf rfl ?_ | refine ⟨_, rfl, ?_⟩ | refine ⟨⟨rfl, rfl⟩, ?_⟩ | refine ⟨⟨rfl, Nat.le_of_ble_eq_true rfl⟩, ?_⟩ | refine ⟨_, _, _, _, rfl, hn, rfl, rfl, ?_⟩ | (refine ⟨_, _, rfl, ⟨rfl, rfl⟩, ?_⟩; try dsimp only [wipeE, List.set_cons_succ, List.set_cons_zero]) | (refine ⟨rfl, ?_⟩; try dsimp only [wipeE, List.set_cons_succ, List.set_cons_zero])))
  refine ⟨by decide, rfl, rfl, by decide, p_loop (fun _ s => InvL ns s) ?_ (fun j v s e i => ?_) fun s i => ?_⟩
  · exact ⟨⟨_, by decide, rfl⟩, b⟩
  · obtain ⟨turn, _, rfl⟩ := List.mem_map.mp (List.mem_of_getElem? e)
    obtain ⟨⟨ys, hl, he⟩, bg⟩ := i
    obtain ⟨y2, y3, y4, y5, y6, y7, y8, y9, y10, rfl⟩ := exp9 ys hl
    obtain ⟨e0, h0⟩ := s
    simp only at he bg
    subst he
    refine ⟨_, rfl, ?_⟩
    dsimp only [List.set_cons_succ, List.set_cons_zero]
    (repeat (first | refine p_var rfl ?_ | refine p_c ?_ | refine p_bin ?_ | refine p_cons ?_ | refine p_nil ?_ | refine p_seq ?_ | refine p_asg ?_ | refine p_sif ?_ | refine p_ret ?_ | refine p_bM ?_ | refine p_tM ?_ | refine p_cb ?_ | refine p_andM ?_ | refine p_orM ?_ | refine p_notM ?_ | refine p_chain ?_ | refine p_andV ?_ | refine p_orV ?_ | refine p_notV ?_ | refine p_ifM ?_ | refine p_tup ?_ | refine p_lst ?_ | refine p_call ?_ | refine p_callK ?_ | refine ⟨⟨⟨rfl, rfl⟩, rfl, rfl⟩, ⟨rfl, rfl⟩, ?_⟩ | refine p_setB ?_ | refine p_sl ?_ | refine p_osome ?_ | refine p_onone ?_ | refine p_snil ?_ | refine p_sexpr ?_ | refine p_retN ?_ | refine p_par ?_ | refine p_sh ?_ | refine p_brt rfl ?_ | refine p_brf rfl ?_ | refine ⟨_, rfl, ?_⟩ | refine ⟨⟨rfl, rfl⟩, ?_⟩ | refine ⟨⟨rfl, Nat.le_of_ble_eq_true rfl⟩, ?_⟩ | refine ⟨_, _, _, _, rfl, hn, rfl, rfl, ?_⟩ | (refine ⟨_, _, rfl, ⟨rfl, rfl⟩, ?_⟩; try dsimp only [wipeE, List.set_cons_succ, List.set_cons_zero]) | (refine ⟨rfl, ?_⟩; try dsimp only [wipeE, List.set_cons_succ, List.set_cons_zero])))
    refine p_spec (good_spec (by decide) bg) fun v h' z => ?_
    obtain ⟨⟨key, row, side, rfl, ⟨hk, hk1, hk4⟩, hr, hs⟩, bg⟩ := z
    obtain ⟨goods, eg, gl, hg⟩ := good_all hk hk1 hk4 hr hs
    (repeat (first | refine p_var rfl ?_ | refine p_c ?_ | refine p_bin ?_ | refine p_cons ?_ | refine p_nil ?_ | refine p_seq ?_ | refine p_asg ?_ | refine p_sif ?_ | refine p_ret ?_ | refine p_bM ?_ | refine p_tM ?_ | refine p_cb ?_ | refine p_andM ?_ | refine p_orM ?_ | refine p_notM ?_ | refine p_chain ?_ | refine p_andV ?_ | refine p_orV ?_ | refine p_notV ?_ | refine p_ifM ?_ | refine p_tup ?_ | refine p_lst ?_ | refine p_call ?_ | refine p_callK ?_ | refine ⟨⟨⟨rfl, rfl⟩, rfl, rfl⟩, ⟨rfl, rfl⟩, ?_⟩ | refine p_setB ?_ | refine p_sl ?_ | refine p_osome ?_ | refine p_onone ?_ | refine p_snil ?_ | refine p_sexpr ?_ | refine p_retN ?_ | refine p_par ?_ | refine p_sh ?_ | refine p_brt rfl ?_ | refine p_brf rfl ?_ | refine ⟨_, rfl, ?_⟩ | refine ⟨⟨rfl, rfl⟩, ?_⟩ | refine ⟨⟨rfl, Nat.le_of_ble_eq_true rfl⟩, ?_⟩ | refine ⟨_, _, _, _, rfl, hn, rfl, rfl, ?_⟩ | (refine ⟨_, _, rfl, ⟨rfl, rfl⟩, ?_⟩; try dsimp only [wipeE, List.set_cons_succ, List.set_cons_zero]) | (refine ⟨rfl, ?_⟩; try dsimp only [wipeE, List.set_cons_succ, List.set_cons_zero])))
    refine ⟨_, _, rfl, ⟨rfl, pl_own (DPl.pl (hr.pl 0))⟩, ?_⟩
    dsimp only [List.set_cons_succ, List.set_cons_zero]
    (repeat (first | refine p_var rfl ?_ | refine p_c ?_ | refine p_bin ?_ | refine p_cons ?_ | refine p_nil ?_ | refine p_seq ?_ | refine p_asg ?_ | refine p_sif ?_ | refine p_ret ?_ | refine p_bM ?_ | refine p_tM ?_ | refine p_cb ?_ | refine p_andM ?_ | refine p_orM ?_ | refine p_notM ?_ | refine p_chain ?_ | refine p_andV ?_ | refine p_orV ?_ | refine p_notV ?_ | refine p_ifM ?_ | refine p_tup ?_ | refine p_lst ?_ | refine p_call ?_ | refine p_callK ?_ | refine ⟨⟨⟨rfl, rfl⟩, rfl, rfl⟩, ⟨rfl, rfl⟩, ?_⟩ | refine p_setB ?_ | refine p_sl ?_ | refine p_osome ?_ | refine p_onone ?_ | refine p_snil ?_ | refine p_sexpr ?_ | refine p_retN ?_ | refine p_par ?_ | refine p_sh ?_ | refine p_brt rfl ?_ | refine p_brf rfl ?_ | refine ⟨_, rfl, ?_⟩ | refine ⟨⟨rfl, rfl⟩, ?_⟩ | refine ⟨⟨rfl, Nat.le_of_ble_eq_true rfl⟩, ?_⟩ | refine ⟨_, _, _, _, rfl, hn, rfl, rfl, ?_⟩ | (refine ⟨_, _, rfl, ⟨rfl, rfl⟩, ?_⟩; try dsimp only [wipeE, List.set_cons_succ, List.set_cons_zero]) | (refine ⟨rfl, ?_⟩; try dsimp only [wipeE, List.set_cons_succ, List.set_cons_zero])))
    refine p_spec (of_lst (by decide) bg (by decide) (by decide) rfl) fun odd h' z => ?_
    obtain ⟨hv, bg⟩ := z
    have ho : rowB odd = false ∧ DPl 1 odd := by
      simp only [List.mem_cons, List.not_mem_nil, or_false] at hv
      rcases hv with rfl | rfl | rfl | rfl | rfl | rfl
      · exact ⟨by decide, trivial⟩
      · exact ⟨by decide, trivial⟩
      · exact ⟨rfl, trivial⟩
      · exact ⟨rfl, trivial⟩
      · exact ⟨rfl, trivial⟩
      · exact ⟨rfl, dpl_of rfl⟩
    clear hv
    have po := DPl.pl ho.2
    (repeat (first | refine p_var rfl ?_ | refine p_c ?_ | refine p_bin ?_ | refine p_cons ?_ | refine p_nil ?_ | refine p_seq ?_ | refine p_asg ?_ | refine p_sif ?_ | refine p_ret ?_ | refine p_bM ?_ | refine p_tM ?_ | refine p_cb ?_ | refine p_andM ?_ | refine p_orM ?_ | refine p_notM ?_ | refine p_chain ?_ | refine p_andV ?_ | refine p_orV ?_ | refine p_notV ?_ | refine p_ifM ?_ | refine p_tup ?_ | refine p_lst ?_ | refine p_call ?_ | refine p_callK ?_ | refine ⟨⟨⟨rfl, rfl⟩, rfl, rfl⟩, ⟨rfl, rfl⟩, ?_⟩ | refine p_setB ?_ | refine p_sl ?_ | refine p_osome ?_ | refine p_onone ?_ | refine p_snil ?_ | refine p_sexpr ?_ | refine p_retN ?_ | refine p_par ?_ | refine p_sh ?_ | refine p_brt rfl ?_ | refine p_brf rfl ?_ | refine ⟨_, rfl, ?_⟩ | refine ⟨⟨rfl, rfl⟩, ?_⟩ | refine ⟨⟨rfl, Nat.le_of_ble_eq_true rfl⟩, ?_⟩ | refine ⟨_, _, _, _, rfl, hn, rfl, rfl, ?_⟩ | (refine ⟨_, _, rfl, ⟨rfl, rfl⟩, ?_⟩; try dsimp only [wipeE, List.set_cons_succ, List.set_cons_zero]) | (refine ⟨rfl, ?_⟩; try dsimp only [wipeE, List.set_cons_succ, List.set_cons_zero]) | (refine ⟨pl_own po, ?_⟩; try dsimp only [wipeE, List.set_cons_succ, List.set_cons_zero])))
    refine p_spec (of_lst (by decide) bg (by decide) (by decide) rfl) fun far h' z => ?_
    obtain ⟨hv, bg⟩ := z
    have hf : sideB far = false ∧ DPl 1 far := by
      simp only [List.mem_cons, List.not_mem_nil, or_false] at hv
      rcases hv with rfl | rfl | rfl | rfl | rfl | rfl
      · exact ⟨by decide, trivial⟩
      · exact ⟨by decide, trivial⟩
      · exact ⟨rfl, trivial⟩
      · exact ⟨rfl, trivial⟩
      · exact ⟨rfl, dpl_of rfl⟩
      · exact ⟨rfl, dpl_of rfl⟩
    clear hv
    have pf := DPl.pl hf.2
    (repeat (first | refine p_var rfl ?_ | refine p_c ?_ | refine p_bin ?_ | refine p_cons ?_ | refine p_nil ?_ | refine p_seq ?_ | refine p_asg ?_ | refine p_sif ?_ | refine p_ret ?_ | refine p_bM ?_ | refine p_tM ?_ | refine p_cb ?_ | refine p_andM ?_ | refine p_orM ?_ | refine p_notM ?_ | refine p_chain ?_ | refine p_andV ?_ | refine p_orV ?_ | refine p_notV ?_ | refine p_ifM ?_ | refine p_tup ?_ | refine p_lst ?_ | refine p_call ?_ | refine p_callK ?_ | refine ⟨⟨⟨rfl, rfl⟩, rfl, rfl⟩, ⟨rfl, rfl⟩, ?_⟩ | refine p_setB ?_ | refine p_sl ?_ | refine p_osome ?_ | refine p_onone ?_ | refine p_snil ?_ | refine p_sexpr ?_ | refine p_retN ?_ | refine p_par ?_ | refine p_sh ?_ | refine p_brt rfl ?_ | refine p_brf rfl ?_ | refine ⟨_, rfl, ?_⟩ | refine ⟨⟨rfl, rfl⟩, ?_⟩ | refine ⟨⟨rfl, Nat.le_of_ble_eq_true rfl⟩, ?_⟩ | refine ⟨_, _, _, _, rfl, hn, rfl, rfl, ?_⟩ | (refine ⟨_, _, rfl, ⟨rfl, rfl⟩, ?_⟩; try dsimp only [wipeE, List.set_cons_succ, List.set_cons_zero]) | (refine ⟨rfl, ?_⟩; try dsimp only [wipeE, List.set_cons_succ, List.set_cons_zero]) | (refine ⟨pl_own pf, ?_⟩; try dsimp only [wipeE, List.set_cons_succ, List.set_cons_zero])))
    refine p_spec (of_lst (by decide) bg (by decide) (by decide) rfl) fun bent h' z => ?_
    obtain ⟨hv, bg⟩ := z
    have hb : keyB bent = false ∧ DPl 1 bent := by
      simp only [List.mem_cons, List.not_mem_nil, or_false] at hv
      rcases hv with rfl | rfl | rfl | rfl | rfl | rfl | rfl | rfl
      · exact ⟨rfl, dpl_of rfl⟩
      · exact ⟨rfl, dpl_of rfl⟩
      · exact ⟨rfl, trivial⟩
      · exact ⟨rfl, trivial⟩
      · exact ⟨rfl, dpl_of rfl⟩
      · exact ⟨by decide +kernel, dpl_of rfl⟩
      · exact ⟨rfl, trivial⟩
      · exact ⟨by decide +kernel, dpl_of rfl⟩
    clear hv
    have pb := DPl.pl hb.2
    have pr := DPl.pl (hr.pl 0)
    (repeat (first | refine p_var rfl ?_ | refine p_c ?_ | refine p_bin ?_ | refine p_cons ?_ | refine p_nil ?_ | refine p_seq ?_ | refine p_asg ?_ | refine p_sif ?_ | refine p_ret ?_ | refine p_bM ?_ | refine p_tM ?_ | refine p_cb ?_ | refine p_andM ?_ | refine p_orM ?_ | refine p_notM ?_ | refine p_chain ?_ | refine p_andV ?_ | refine p_orV ?_ | refine p_notV ?_ | refine p_ifM ?_ | refine p_tup ?_ | refine p_lst ?_ | refine p_call ?_ | refine p_callK ?_ | refine ⟨⟨⟨rfl, rfl⟩, rfl, rfl⟩, ⟨rfl, rfl⟩, ?_⟩ | refine p_setB ?_ | refine p_sl ?_ | refine p_osome ?_ | refine p_onone ?_ | refine p_snil ?_ | refine p_sexpr ?_ | refine p_retN ?_ | refine p_par ?_ | refine p_sh ?_ | refine p_brt rfl ?_ | refine p_brf rfl ?_ | refine ⟨_, rfl, ?_⟩ | refine ⟨⟨rfl, rfl⟩, ?_⟩ | refine ⟨⟨rfl, Nat.le_of_ble_eq_true rfl⟩, ?_⟩ | refine ⟨_, _, _, _, rfl, hn, rfl, rfl, ?_⟩ | (refine ⟨_, _, rfl, ⟨rfl, rfl⟩, ?_⟩; try dsimp only [wipeE, List.set_cons_succ, List.set_cons_zero]) | (refine ⟨rfl, ?_⟩; try dsimp only [wipeE, List.set_cons_succ, List.set_cons_zero]) | (refine ⟨pl_own pb, ?_⟩; try dsimp only [wipeE, List.set_cons_succ, List.set_cons_zero]) | refine ⟨⟨by simp only [allSh, List.all_cons, pl_own po, pl_own pf, pl_own pb, pl_own pr]; rfl, Nat.le_of_ble_eq_true rfl⟩, ?_⟩ | refine ⟨_, fMul_tup (by simp) (by decide) (by decide) (by decide), ?_⟩))
    have hB := bad_all hk hk1 hk4 hr ho.1 ho.2 hf.1 hf.2 hb.1 hb.2
    have lB : (badL key row odd far bent).length = 26 := rfl
    show (xECompN (xSAny (xEVar 3)) (Tg.n 10) testY (xECall 1 m_is_deed (xACons (xEVar 10) xANil)) [10] ⟨[_, _, _, some (goodL key row side), _, _, _, _, _, some (.lst (badL key row odd far bent)), _], _⟩).post _ _
    rw [eg]
    generalize badL key row odd far bent = bads at hB lB
    refine p_compMap (p_any (p_var rfl ⟨_, rfl, rfl, fun v => .bl (deedB v), fun v hv => ⟨_, if_neg (by rw [pl_own (DPl.pl (hg v hv).2.1)]; decide), ?_⟩, ?_⟩))
    · (repeat (first | refine p_var rfl ?_ | refine p_c ?_ | refine p_bin ?_ | refine p_cons ?_ | refine p_nil ?_ | refine p_seq ?_ | refine p_asg ?_ | refine p_sif ?_ | refine p_ret ?_ | refine p_bM ?_ | refine p_tM ?_ | refine p_cb ?_ | refine p_andM ?_ | refine p_orM ?_ | refine p_notM ?_ | refine p_chain ?_ | refine p_andV ?_ | refine p_orV ?_ | refine p_notV ?_ | refine p_ifM ?_ | refine p_tup ?_ | refine p_lst ?_ | refine p_call ?_ | refine p_callK ?_ | refine ⟨⟨⟨rfl, rfl⟩, rfl, rfl⟩, ⟨rfl, rfl⟩, ?_⟩ | refine p_setB ?_ | refine p_sl ?_ | refine p_osome ?_ | refine p_onone ?_ | refine p_snil ?_ | refine p_sexpr ?_ | refine p_retN ?_ | refine p_par ?_ | refine p_sh ?_ | refine p_brt rfl ?_ | refine p_brf rfl ?_ | refine ⟨_, rfl, ?_⟩ | refine ⟨⟨rfl, rfl⟩, ?_⟩ | refine ⟨⟨rfl, Nat.le_of_ble_eq_true rfl⟩, ?_⟩ | refine ⟨_, _, _, _, rfl, hn, rfl, rfl, ?_⟩ | (refine ⟨_, _, rfl, ⟨rfl, rfl⟩, ?_⟩; try dsimp only [wipeE, List.set_cons_succ, List.set_cons_zero]) | (refine ⟨rfl, ?_⟩; try dsimp only [wipeE, List.set_cons_succ, List.set_cons_zero])))
      refine ⟨⟨rfl, by show (!isOwn _ && _) = true; rw [pl_own (DPl.pl (hg v hv).2.1)]; rfl⟩, ?_⟩
      refine p_spec (is_deed_spec (hg v hv).2.1 (hg v hv).2.2) fun r h' z => ?_
      obtain ⟨rfl, rfl⟩ := z
      exact ⟨rfl, rfl, rfl, rfl⟩
    dsimp only
    rw [map_dd hg, gl]
    (repeat (first | refine p_var rfl ?_ | refine p_c ?_ | refine p_bin ?_ | refine p_cons ?_ | refine p_nil ?_ | refine p_seq ?_ | refine p_asg ?_ | refine p_sif ?_ | refine p_ret ?_ | refine p_bM ?_ | refine p_tM ?_ | refine p_cb ?_ | refine p_andM ?_ | refine p_orM ?_ | refine p_notM ?_ | refine p_chain ?_ | refine p_andV ?_ | refine p_orV ?_ | refine p_notV ?_ | refine p_ifM ?_ | refine p_tup ?_ | refine p_lst ?_ | refine p_call ?_ | refine p_callK ?_ | refine ⟨⟨⟨rfl, rfl⟩, rfl, rfl⟩, ⟨rfl, rfl⟩, ?_⟩ | refine p_setB ?_ | refine p_sl ?_ | refine p_osome ?_ | refine p_onone ?_ | refine p_snil ?_ | refine p_sexpr ?_ | refine p_retN ?_ | refine p_par ?_ | refine p_sh ?_ | refine p_brt rfl ?_ | refine p_brf rfl ?_ | refine ⟨_, rfl, ?_⟩ | refine ⟨⟨rfl, rfl⟩, ?_⟩ | refine ⟨⟨rfl, Nat.le_of_ble_eq_true rfl⟩, ?_⟩ | refine ⟨_, _, _, _, rfl, hn, rfl, rfl, ?_⟩ | (refine ⟨_, _, rfl, ⟨rfl, rfl⟩, ?_⟩; try dsimp only [wipeE, List.set_cons_succ, List.set_cons_zero]) | (refine ⟨rfl, ?_⟩; try dsimp only [wipeE, List.set_cons_succ, List.set_cons_zero])))
    refine p_spec (like_eqv (n := 7) (b := .lst (List.replicate 7 (.bl true))) rfl (bls_D _ _)) fun v h' z => ?_
    obtain ⟨rfl, rfl⟩ := z
    (repeat (first | refine p_var rfl ?_ | refine p_c ?_ | refine p_bin ?_ | refine p_cons ?_ | refine p_nil ?_ | refine p_seq ?_ | refine p_asg ?_ | refine p_sif ?_ | refine p_ret ?_ | refine p_bM ?_ | refine p_tM ?_ | refine p_cb ?_ | refine p_andM ?_ | refine p_orM ?_ | refine p_notM ?_ | refine p_chain ?_ | refine p_andV ?_ | refine p_orV ?_ | refine p_notV ?_ | refine p_ifM ?_ | refine p_tup ?_ | refine p_lst ?_ | refine p_call ?_ | refine p_callK ?_ | refine ⟨⟨⟨rfl, rfl⟩, rfl, rfl⟩, ⟨rfl, rfl⟩, ?_⟩ | refine p_setB ?_ | refine p_sl ?_ | refine p_osome ?_ | refine p_onone ?_ | refine p_snil ?_ | refine p_sexpr ?_ | refine p_retN ?_ | refine p_par ?_ | refine p_sh ?_ | refine p_brt rfl ?_ | refine p_brf rfl ?_ | refine ⟨_, rfl, ?_⟩ | refine ⟨⟨rfl, rfl⟩, ?_⟩ | refine ⟨⟨rfl, Nat.le_of_ble_eq_true rfl⟩, ?_⟩ | refine ⟨_, _, _, _, rfl, hn, rfl, rfl, ?_⟩ | (refine ⟨_, _, rfl, ⟨rfl, rfl⟩, ?_⟩; try dsimp only [wipeE, List.set_cons_succ, List.set_cons_zero]) | (refine ⟨rfl, ?_⟩; try dsimp only [wipeE, List.set_cons_succ, List.set_cons_zero])))
    refine p_compMap (p_any (p_var rfl ⟨_, rfl, rfl, fun v => .bl (deedB v), fun v hv => ⟨_, if_neg (by rw [pl_own (DPl.pl (hB v hv).2.1)]; decide), ?_⟩, ?_⟩))
    · (repeat (first | refine p_var rfl ?_ | refine p_c ?_ | refine p_bin ?_ | refine p_cons ?_ | refine p_nil ?_ | refine p_seq ?_ | refine p_asg ?_ | refine p_sif ?_ | refine p_ret ?_ | refine p_bM ?_ | refine p_tM ?_ | refine p_cb ?_ | refine p_andM ?_ | refine p_orM ?_ | refine p_notM ?_ | refine p_chain ?_ | refine p_andV ?_ | refine p_orV ?_ | refine p_notV ?_ | refine p_ifM ?_ | refine p_tup ?_ | refine p_lst ?_ | refine p_call ?_ | refine p_callK ?_ | refine ⟨⟨⟨rfl, rfl⟩, rfl, rfl⟩, ⟨rfl, rfl⟩, ?_⟩ | refine p_setB ?_ | refine p_sl ?_ | refine p_osome ?_ | refine p_onone ?_ | refine p_snil ?_ | refine p_sexpr ?_ | refine p_retN ?_ | refine p_par ?_ | refine p_sh ?_ | refine p_brt rfl ?_ | refine p_brf rfl ?_ | refine ⟨_, rfl, ?_⟩ | refine ⟨⟨rfl, rfl⟩, ?_⟩ | refine ⟨⟨rfl, Nat.le_of_ble_eq_true rfl⟩, ?_⟩ | refine ⟨_, _, _, _, rfl, hn, rfl, rfl, ?_⟩ | (refine ⟨_, _, rfl, ⟨rfl, rfl⟩, ?_⟩; try dsimp only [wipeE, List.set_cons_succ, List.set_cons_zero]) | (refine ⟨rfl, ?_⟩; try dsimp only [wipeE, List.set_cons_succ, List.set_cons_zero])))
      have ov : (!isOwn v && true) = true := by rw [pl_own (DPl.pl (hB v hv).2.1)]; rfl
      refine ⟨⟨⟨rfl, rfl⟩, rfl, ov⟩, ⟨rfl, ov⟩, p_spec (is_deed_spec (hB v hv).2.1 (hB v hv).2.2) fun r h' z => ?_⟩
      obtain ⟨rfl, rfl⟩ := z
      exact ⟨rfl, rfl, rfl, rfl⟩
    dsimp only
    rw [map_dd hB, lB]
    (repeat (first | refine p_var rfl ?_ | refine p_c ?_ | refine p_bin ?_ | refine p_cons ?_ | refine p_nil ?_ | refine p_seq ?_ | refine p_asg ?_ | refine p_sif ?_ | refine p_ret ?_ | refine p_bM ?_ | refine p_tM ?_ | refine p_cb ?_ | refine p_andM ?_ | refine p_orM ?_ | refine p_notM ?_ | refine p_chain ?_ | refine p_andV ?_ | refine p_orV ?_ | refine p_notV ?_ | refine p_ifM ?_ | refine p_tup ?_ | refine p_lst ?_ | refine p_call ?_ | refine p_callK ?_ | refine ⟨⟨⟨rfl, rfl⟩, rfl, rfl⟩, ⟨rfl, rfl⟩, ?_⟩ | refine p_setB ?_ | refine p_sl ?_ | refine p_osome ?_ | refine p_onone ?_ | refine p_snil ?_ | refine p_sexpr ?_ | refine p_retN ?_ | refine p_par ?_ | refine p_sh ?_ | refine p_brt rfl ?_ | refine p_brf rfl ?_ | refine ⟨_, rfl, ?_⟩ | refine ⟨⟨rfl, rfl⟩, ?_⟩ | refine ⟨⟨rfl, Nat.le_of_ble_eq_true rfl⟩, ?_⟩ | refine ⟨_, _, _, _, rfl, hn, rfl, rfl, ?_⟩ | (refine ⟨_, _, rfl, ⟨rfl, rfl⟩, ?_⟩; try dsimp only [wipeE, List.set_cons_succ, List.set_cons_zero]) | (refine ⟨rfl, ?_⟩; try dsimp only [wipeE, List.set_cons_succ, List.set_cons_zero])))
    show ∃ z, fMul _ (.lst [.bl false]) (.int (bads.length : Int)) = some z ∧ _
    rw [lB]
    (repeat (first | refine p_var rfl ?_ | refine p_c ?_ | refine p_bin ?_ | refine p_cons ?_ | refine p_nil ?_ | refine p_seq ?_ | refine p_asg ?_ | refine p_sif ?_ | refine p_ret ?_ | refine p_bM ?_ | refine p_tM ?_ | refine p_cb ?_ | refine p_andM ?_ | refine p_orM ?_ | refine p_notM ?_ | refine p_chain ?_ | refine p_andV ?_ | refine p_orV ?_ | refine p_notV ?_ | refine p_ifM ?_ | refine p_tup ?_ | refine p_lst ?_ | refine p_call ?_ | refine p_callK ?_ | refine ⟨⟨⟨rfl, rfl⟩, rfl, rfl⟩, ⟨rfl, rfl⟩, ?_⟩ | refine p_setB ?_ | refine p_sl ?_ | refine p_osome ?_ | refine p_onone ?_ | refine p_snil ?_ | refine p_sexpr ?_ | refine p_retN ?_ | refine p_par ?_ | refine p_sh ?_ | refine p_brt rfl ?_ | refine p_brf rfl ?_ | refine ⟨_, rfl, ?_⟩ | refine ⟨⟨rfl, rfl⟩, ?_⟩ | refine ⟨⟨rfl, Nat.le_of_ble_eq_true rfl⟩, ?_⟩ | refine ⟨_, _, _, _, rfl, hn, rfl, rfl, ?_⟩ | (refine ⟨_, _, rfl, ⟨rfl, rfl⟩, ?_⟩; try dsimp only [wipeE, List.set_cons_succ, List.set_cons_zero]) | (refine ⟨rfl, ?_⟩; try dsimp only [wipeE, List.set_cons_succ, List.set_cons_zero])))
    refine p_spec (like_eqv (n := 7) (b := .lst (List.replicate 26 (.bl false))) rfl (bls_D _ _)) fun v h' z => ?_
    obtain ⟨rfl, rfl⟩ := z
    (repeat (first | refine p_var rfl ?_ | refine p_c ?_ | refine p_bin ?_ | refine p_cons ?_ | refine p_nil ?_ | refine p_seq ?_ | refine p_asg ?_ | refine p_sif ?_ | refine p_ret ?_ | refine p_bM ?_ | refine p_tM ?_ | refine p_cb ?_ | refine p_andM ?_ | refine p_orM ?_ | refine p_notM ?_ | refine p_chain ?_ | refine p_andV ?_ | refine p_orV ?_ | refine p_notV ?_ | refine p_ifM ?_ | refine p_tup ?_ | refine p_lst ?_ | refine p_call ?_ | refine p_callK ?_ | refine ⟨⟨⟨rfl, rfl⟩, rfl, rfl⟩, ⟨rfl, rfl⟩, ?_⟩ | refine p_setB ?_ | refine p_sl ?_ | refine p_osome ?_ | refine p_onone ?_ | refine p_snil ?_ | refine p_sexpr ?_ | refine p_retN ?_ | refine p_par ?_ | refine p_sh ?_ | refine p_brt rfl ?_ | refine p_brf rfl ?_ | refine ⟨_, rfl, ?_⟩ | refine ⟨⟨rfl, rfl⟩, ?_⟩ | refine ⟨⟨rfl, Nat.le_of_ble_eq_true rfl⟩, ?_⟩ | refine ⟨_, _, _, _, rfl, hn, rfl, rfl, ?_⟩ | (refine ⟨_, _, rfl, ⟨rfl, rfl⟩, ?_⟩; try dsimp only [wipeE, List.set_cons_succ, List.set_cons_zero]) | (refine ⟨rfl, ?_⟩; try dsimp only [wipeE, List.set_cons_succ, List.set_cons_zero])))
    refine p_for (p_any (p_var rfl ⟨_, rfl, rfl, rfl, ?_, ?_⟩))
    · show bads.length ≤ sizeLine
      rw [lB]; decide
    refine p_loopS (Nat.le_of_ble_eq_true rfl) (fun v hv => ⟨pl_own (DPl.pl (hB v hv).2.1), ?_⟩) fun z => ?_
    · (repeat (first | refine p_var rfl ?_ | refine p_c ?_ | refine p_bin ?_ | refine p_cons ?_ | refine p_nil ?_ | refine p_seq ?_ | refine p_asg ?_ | refine p_sif ?_ | refine p_ret ?_ | refine p_bM ?_ | refine p_tM ?_ | refine p_cb ?_ | refine p_andM ?_ | refine p_orM ?_ | refine p_notM ?_ | refine p_chain ?_ | refine p_andV ?_ | refine p_orV ?_ | refine p_notV ?_ | refine p_ifM ?_ | refine p_tup ?_ | refine p_lst ?_ | refine p_call ?_ | refine p_callK ?_ | refine ⟨⟨⟨rfl, rfl⟩, rfl, rfl⟩, ⟨rfl, rfl⟩, ?_⟩ | refine p_setB ?_ | refine p_sl ?_ | refine p_osome ?_ | refine p_onone ?_ | refine p_snil ?_ | refine p_sexpr ?_ | refine p_retN ?_ | refine p_par ?_ | refine p_sh ?_ | refine p_brt rfl ?_ | refine p_brf rfl ?_ | refine ⟨_, rfl, ?_⟩ | refine ⟨⟨rfl, rfl⟩, ?_⟩ | refine ⟨⟨rfl, Nat.le_of_ble_eq_true rfl⟩, ?_⟩ | refine ⟨_, _, _, _, rfl, hn, rfl, rfl, ?_⟩ | (refine ⟨_, _, rfl, ⟨rfl, rfl⟩, ?_⟩; try dsimp only [wipeE, List.set_cons_succ, List.set_cons_zero]) | (refine ⟨rfl, ?_⟩; try dsimp only [wipeE, List.set_cons_succ, List.set_cons_zero])))
      refine p_try ?_
      (repeat (first | refine p_var rfl ?_ | refine p_c ?_ | refine p_bin ?_ | refine p_cons ?_ | refine p_nil ?_ | refine p_seq ?_ | refine p_asg ?_ | refine p_sif ?_ | refine p_ret ?_ | refine p_bM ?_ | refine p_tM ?_ | refine p_cb ?_ | refine p_andM ?_ | refine p_orM ?_ | refine p_notM ?_ | refine p_chain ?_ | refine p_andV ?_ | refine p_orV ?_ | refine p_notV ?_ | refine p_ifM ?_ | refine p_tup ?_ | refine p_lst ?_ | refine p_call ?_ | refine p_callK ?_ | refine ⟨⟨⟨rfl, rfl⟩, rfl, rfl⟩, ⟨rfl, rfl⟩, ?_⟩ | refine p_setB ?_ | refine p_sl ?_ | refine p_osome ?_ | refine p_onone ?_ | refine p_snil ?_ | refine p_sexpr ?_ | refine p_retN ?_ | refine p_par ?_ | refine p_sh ?_ | refine p_brt rfl ?_ | refine p_brf rfl ?_ | refine ⟨_, rfl, ?_⟩ | refine ⟨⟨rfl, rfl⟩, ?_⟩ | refine ⟨⟨rfl, Nat.le_of_ble_eq_true rfl⟩, ?_⟩ | refine ⟨_, _, _, _, rfl, hn, rfl, rfl, ?_⟩ | (refine ⟨_, _, rfl, ⟨rfl, rfl⟩, ?_⟩; try dsimp only [wipeE, List.set_cons_succ, List.set_cons_zero]) | (refine ⟨rfl, ?_⟩; try dsimp only [wipeE, List.set_cons_succ, List.set_cons_zero])))
      refine ⟨⟨rfl, by show (!isOwn _ && _) = true; rw [pl_own (DPl.pl (hB v hv).2.1)]; rfl⟩, ?_⟩
      refine p_mono (text_spec (hB v hv).2.1 (hB v hv).2.2 (hB v hv).1) (fun _ _ z => z.elim) fun x h' z => ?_
      obtain ⟨rfl, rfl⟩ := z
      refine ⟨0, _, _, _, rfl, rfl, suite_eq, rfl, rfl, ?_⟩
      (repeat (first | refine p_var rfl ?_ | refine p_c ?_ | refine p_bin ?_ | refine p_cons ?_ | refine p_nil ?_ | refine p_seq ?_ | refine p_asg ?_ | refine p_sif ?_ | refine p_ret ?_ | refine p_bM ?_ | refine p_tM ?_ | refine p_cb ?_ | refine p_andM ?_ | refine p_orM ?_ | refine p_notM ?_ | refine p_chain ?_ | refine p_andV ?_ | refine p_orV ?_ | refine p_notV ?_ | refine p_ifM ?_ | refine p_tup ?_ | refine p_lst ?_ | refine p_call ?_ | refine p_callK ?_ | refine ⟨⟨⟨rfl, rfl⟩, rfl, rfl⟩, ⟨rfl, rfl⟩, ?_⟩ | refine p_setB ?_ | refine p_sl ?_ | refine p_osome ?_ | refine p_onone ?_ | refine p_snil ?_ | refine p_sexpr ?_ | refine p_retN ?_ | refine p_par ?_ | refine p_sh ?_ | refine p_brt rfl ?_ | refine p_brf rfl ?_ | refine ⟨_, rfl, ?_⟩ | refine ⟨⟨rfl, rfl⟩, ?_⟩ | refine ⟨⟨rfl, Nat.le_of_ble_eq_true rfl⟩, ?_⟩ | refine ⟨_, _, _, _, rfl, hn, rfl, rfl, ?_⟩ | (refine ⟨_, _, rfl, ⟨rfl, rfl⟩, ?_⟩; try dsimp only [wipeE, List.set_cons_succ, List.set_cons_zero]) | (refine ⟨rfl, ?_⟩; try dsimp only [wipeE, List.set_cons_succ, List.set_cons_zero])))
      refine p_spec (like_eqv (n := 7) (b := .tup [.str "InvalidDeed", .non]) rfl (dpl_of rfl)) fun v h' z => ?_
      obtain ⟨rfl, rfl⟩ := z
      (repeat (first | refine p_var rfl ?_ | refine p_c ?_ | refine p_bin ?_ | refine p_cons ?_ | refine p_nil ?_ | refine p_seq ?_ | refine p_asg ?_ | refine p_sif ?_ | refine p_ret ?_ | refine p_bM ?_ | refine p_tM ?_ | refine p_cb ?_ | refine p_andM ?_ | refine p_orM ?_ | refine p_notM ?_ | refine p_chain ?_ | refine p_andV ?_ | refine p_orV ?_ | refine p_notV ?_ | refine p_ifM ?_ | refine p_tup ?_ | refine p_lst ?_ | refine p_call ?_ | refine p_callK ?_ | refine ⟨⟨⟨rfl, rfl⟩, rfl, rfl⟩, ⟨rfl, rfl⟩, ?_⟩ | refine p_setB ?_ | refine p_sl ?_ | refine p_osome ?_ | refine p_onone ?_ | refine p_snil ?_ | refine p_sexpr ?_ | refine p_retN ?_ | refine p_par ?_ | refine p_sh ?_ | refine p_brt rfl ?_ | refine p_brf rfl ?_ | refine ⟨_, rfl, ?_⟩ | refine ⟨⟨rfl, rfl⟩, ?_⟩ | refine ⟨⟨rfl, Nat.le_of_ble_eq_true rfl⟩, ?_⟩ | refine ⟨_, _, _, _, rfl, hn, rfl, rfl, ?_⟩ | (refine ⟨_, _, rfl, ⟨rfl, rfl⟩, ?_⟩; try dsimp only [wipeE, List.set_cons_succ, List.set_cons_zero]) | (refine ⟨rfl, ?_⟩; try dsimp only [wipeE, List.set_cons_succ, List.set_cons_zero])))
    · exact ⟨⟨_, rfl, rfl⟩, bg⟩
  · (repeat (first | refine p_var rfl ?_ | refine p_c ?_ | refine p_bin ?_ | refine p_cons ?_ | refine p_nil ?_ | refine p_seq ?_ | refine p_asg ?_ | refine p_sif ?_ | refine p_ret ?_ | refine p_bM ?_ | refine p_tM ?_ | refine p_cb ?_ | refine p_andM ?_ | refine p_orM ?_ | refine p_notM ?_ | refine p_chain ?_ | refine p_andV ?_ | refine p_orV ?_ | refine p_notV ?_ | refine p_ifM ?_ | refine p_tup ?_ | refine p_lst ?_ | refine p_call ?_ | refine p_callK ?_ | refine ⟨⟨⟨rfl, rfl⟩, rfl, rfl⟩, ⟨rfl, rfl⟩, ?_⟩ | refine p_setB ?_ | refine p_sl ?_ | refine p_osome ?_ | refine p_onone ?_ | refine p_snil ?_ | refine p_sexpr ?_ | refine p_retN ?_ | refine p_par ?_ | refine p_sh ?_ | refine p_brt rfl ?_ | refine p_brf rfl ?_ | refine ⟨_, rfl, ?_⟩ | refine ⟨⟨rfl, rfl⟩, ?_⟩ | refine ⟨⟨rfl, Nat.le_of_ble_eq_true rfl⟩, ?_⟩ | refine ⟨_, _, _, _, rfl, hn, rfl, rfl, ?_⟩ | (refine ⟨_, _, rfl, ⟨rfl, rfl⟩, ?_⟩; try dsimp only [wipeE, List.set_cons_succ, List.set_cons_zero]) | (refine ⟨rfl, ?_⟩; try dsimp only [wipeE, List.set_cons_succ, List.set_cons_zero])))
end
end LW

set_option Elab.async false
set_option linter.all false
set_option maxRecDepth 100000
set_option maxHeartbeats 0
open PySem PySem.W PySem.Calls PyProof.Rows
theorem PySem.Challenge.cw_latedrops_k07_deeds_judged_holds : PySem.Challenge.rw_latedrops_k07_deeds_judged.Holds := by
  w_on; o_law
  refine HandSHeadRun.head_any (r := OpenLaw.row PySem.Challenge.rw_latedrops_k07_deeds_judged) (q := view (OpenLaw.row PySem.Challenge.rw_latedrops_k07_deeds_judged).prog [27]) (H := LW.hkT) (ob := LW.obT) (M := 2000) (loose := LW.namesT) (d := HandSHeadRun.topDef (OpenLaw.row PySem.Challenge.rw_latedrops_k07_deeds_judged).prog 27) (kwd := []) LW.ob_eqT
    (by kernel_rfl) (fun s => by kernel_rfl) LW.runT (by kernel_rfl) (by kernel_rfl) (by kernel_rfl) (by rfl) (by first | assumption | decide +kernel) (by decide +kernel) ⟨rfl, rfl, rfl, rfl, rfl, by decide +kernel⟩ ?hw ?hc
  case hw => w_witness2
  case hc =>
    refine Lp.walkL (l := PySem.Challenge.rw_latedrops_k07_deeds_judged) (n := 63) (k := 10) (x := "_law_script") (B := LW.BkT) (m := LW.m_law) (fa := LW.faT) (fn := LW.fnT) (ls := LW.lsT) rfl (by decide) (by kernel_rfl) ⟨rfl, by decide, by decide⟩ (fun _ _ y => y) (fun _ => rfl) (fun _ => rfl) LW.tabsT ?F LW.law_true
    intro w mg fa h K T KX G hmg0 c
    have hmg : mg ("law" : PySem.Str) = some (.ref fa) := by
      have e : (HandSHeadRun.topDef (OpenLaw.row PySem.Challenge.rw_latedrops_k07_deeds_judged).prog 27).name = ("law" : PySem.Str) := by kernel_rfl
      rw [← e]
      exact hmg0
    exact LW.factsT (w := w) KX G hmg c
