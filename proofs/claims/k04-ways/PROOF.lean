import PyProof.Rows.All
import Wide.All
import OpenK.AllK
import Wide.FinOn
import HandS.ForMost
import HandS.Defaults
import HandS.MakeKw
import HandS.MakeKwOnly
import HandS.Exc
import HandS.IsInst
import HandS.Lambda
import HandS.TupAny
import HandS.TupMul
import HandS.TupLe
import HandS.Style
import HandS.Deep
import HandS.Star
import HandS.Text
import HandS.Zip
import HandS.ExcOwn
import HandS.EndBits
import HandS.Head0
import HandS.Head1
import HandS.Head2
import HandS.HeadEnd
import HandS.HeadHook1
import HandS.HeadHook2
import HandS.ExcInit
import HandS.ExcInitHot
import HandS.Nested
import KE.KExcSuper
import KE.KSuper
import KE.KExcInit
import HandS.ExcField
import HandS.HotCalls
import KE.KTryMore
import HandS.HeadWalk
import HandS.HeadHook3
import KE.KUnpackStar
import HandS.ClsMeth
import KE.SortData
import HandS.Replace
import HandS.FStr
import HandS.OwnEq
import KE.KStateDown
import PySem.Challenge.RW_latedrops_k04_ways_told

set_option Elab.async false
set_option linter.all false
set_option maxRecDepth 100000
set_option maxHeartbeats 4000000
/-! Lp0: values with their contents (PV), cells, states, and how the layer's heap bears them. -/
namespace Lp
open PySem PySem.Spec PyProof.Rows L2

inductive PV where
  | non | bl (b : Bool) | int (i : Int) | str (x : Str)
  | tup (xs : List PV) | lst (xs : List PV) | scr (xs : List PV) | own (xs : List PV)
  | dic (ks : List (PV × PV)) | don (ks : List (PV × PV))
  | ins (c : Nat) (fs : List PV) | cel (n : Nat) | exn (c : Nat) (fs : List PV)
  | ty (n : String) | cls (c : Nat)

inductive Cell where
  | lst (xs : List PV) | dic (ks : List (PV × PV)) | ins (c : Nat) (fs : List PV)

abbrev AH := List (Option Cell)
structure S where
  e : List (Option PV)
  h : AH

/-- a run's end -/
inductive R (τ : Type) (α : Type) where
  | ok (a : α) (s : τ) | exc (x : PV) (s : τ) | bad
def R.bind {τ α β : Type} (r : R τ α) (f : α → τ → R τ β) : R τ β := match r with
  | .ok a s => f a s
  | .exc x s => .exc x s
  | .bad => .bad
@[simp] theorem R.bind_ok {τ α β : Type} (a : α) (s : τ) (f : α → τ → R τ β) : (R.ok a s).bind f = f a s := rfl
@[simp] theorem R.bind_exc {τ α β : Type} (x : PV) (s : τ) (f : α → τ → R τ β) : (R.exc x s : R τ α).bind f = .exc x s := rfl
@[simp] theorem R.bind_bad {τ α β : Type} (f : α → τ → R τ β) : (R.bad : R τ α).bind f = .bad := rfl
def R.post {τ α : Type} (r : R τ α) (P : α → τ → Prop) (E : PV → τ → Prop) : Prop := match r with
  | .ok a s => P a s
  | .exc x s => E x s
  | .bad => False
theorem R.post_bind {τ α β : Type} {r : R τ α} {f : α → τ → R τ β} {P : β → τ → Prop} {E : PV → τ → Prop} (h : (r.bind f).post P E) : r.post (fun a s => (f a s).post P E) E := by
  cases r with
  | ok a s => exact h
  | exc x s => exact h
  | bad => exact h
theorem R.post_mono {τ α : Type} {r : R τ α} {P P' : α → τ → Prop} {E E' : PV → τ → Prop} (h : r.post P E) (hp : ∀ a s, P a s → P' a s) (he : ∀ x s, E x s → E' x s) : r.post P' E' := by
  cases r with
  | ok a s => exact hp _ _ h
  | exc x s => exact he _ _ h
  | bad => exact h

/-! ### what bears a value -/
/-- the classes by number: where each stands, its fields in order -/
structure Bs where
  K : PySem.W.Frag
  cad : Nat → Addr
  fld : Nat → List Str
  T : List (Addr × Str)
  xn : Option (Addr × Nat × Addr) := none
/-- what stands still, by content; where the cells stand -/
structure Wd where
  F : Hp
  m : List Addr
def TupAt (B : Bs) (W : Wd) (a : Addr) (vs : List V) : Prop := W.F a = some (.tup vs) ∨
  ∃ (o : Obj) (its : Array Value) (n : Nat), B.K.lookup a = some o ∧ o.cls = .type "tuple" ∧ o.data = .seq its n ∧ its.size ≤ sizeLine ∧ Vals vs its.toList
/-- the script's list: locked, or of the written part -/
def ScrAt (B : Bs) (W : Wd) (a : Addr) (vs : List V) : Prop := ((W.F a = some (.lst vs) ∨ ∃ o, W.F a = some (.frz o (.lst vs))) ∧ vs.length ≤ sizeLine) ∨
  ∃ (o : Obj) (its : Array Value) (n : Nat), B.K.lookup a = some o ∧ o.cls = .type "list" ∧ o.dict = none ∧ o.data = .seq its n ∧ its.size ≤ sizeLine ∧ Vals vs its.toList
/-- a text of signs that are signs, not over the line -/
def SOk (x : Str) : Prop := PyData.strOk x = true ∧ x.length ≤ sizeLine
mutual
inductive Rep (B : Bs) (W : Wd) : PV → V → Prop where
  | non : Rep B W .non .non
  | bl (b : Bool) : Rep B W (.bl b) (.bl b)
  | int (i : Int) : Rep B W (.int i) (.int i)
  | str (x : Str) (h : SOk x) : Rep B W (.str x) (.str x)
  | ty (n : String) : Rep B W (.ty n) (.ty n)
  | cls (c : Nat) : Rep B W (.cls c) (.ref (B.cad c))
  | cel {n : Nat} {a : Addr} (h : W.m[n]? = some a) : Rep B W (.cel n) (.ref a)
  | tup {xs : List PV} {a : Addr} {vs : List V} (h : TupAt B W a vs) (r : Reps B W xs vs) : Rep B W (.tup xs) (.ref a)
  | lst {xs : List PV} {a : Addr} {vs : List V} (h : W.F a = some (.lst vs)) (r : Reps B W xs vs) : Rep B W (.lst xs) (.ref a)
  | scr {xs : List PV} {a : Addr} {vs : List V} (h : ScrAt B W a vs) (r : Reps B W xs vs) : Rep B W (.scr xs) (.ref a)
  | ins {c : Nat} {fs : List PV} {a dx : Addr} {vs : List V} (h : W.F a = some (.ins (B.cad c) dx ((B.fld c).zip vs))) (hl : vs.length ≤ (B.fld c).length) (r : Reps B W fs vs) : Rep B W (.ins c fs) (.ref a)
  | exn {c : Nat} {fs : List PV} {a dd : Addr} {vs : List V} (hx : B.xn = some (a, c, dd)) (h : W.F dd = some (.xd ((B.fld c).zip vs))) (hl : vs.length = (B.fld c).length) (r : Reps B W fs vs) : Rep B W (.exn c fs) (.ref a)
inductive Reps (B : Bs) (W : Wd) : List PV → List V → Prop where
  | nil : Reps B W [] []
  | cons {x : PV} {v : V} {xs : List PV} {vs : List V} (h : Rep B W x v) (t : Reps B W xs vs) : Reps B W (x :: xs) (v :: vs)
end
/-- worlds grow -/
structure Wd.Le (W W' : Wd) : Prop where
  F : ∀ a o, W.F a = some o → W'.F a = some o
  m : W.m <+: W'.m
theorem Wd.Le.refl (W : Wd) : W.Le W := ⟨fun _ _ h => h, List.prefix_refl _⟩
theorem Wd.Le.trans {W W1 W2 : Wd} (a : W.Le W1) (b : W1.Le W2) : W.Le W2 := ⟨fun c o h => b.F c o (a.F c o h), a.m.trans b.m⟩
theorem Wd.Le.at {W W' : Wd} (l : W.Le W') {n : Nat} {a : Addr} (h : W.m[n]? = some a) : W'.m[n]? = some a := by
  obtain ⟨t, e⟩ := l.m
  rw [← e, List.getElem?_append_left (List.getElem?_eq_some_iff.mp h).1]
  exact h
mutual
theorem Rep.mono {B : Bs} {W W' : Wd} (l : W.Le W') : ∀ {x : PV} {v : V}, Rep B W x v → Rep B W' x v
  | _, _, .non => .non
  | _, _, .bl b => .bl b
  | _, _, .int i => .int i
  | _, _, .str x h => .str x h
  | _, _, .ty n => .ty n
  | _, _, .cls c => .cls c
  | _, _, .cel h => .cel (l.at h)
  | _, _, .tup h r => .tup (h.imp (l.F _ _) fun z => z) (Reps.mono l r)
  | _, _, .lst h r => .lst (l.F _ _ h) (Reps.mono l r)
  | _, _, .scr h r => .scr (h.imp (fun ⟨e, z⟩ => ⟨e.imp (l.F _ _) fun ⟨o, e⟩ => ⟨o, l.F _ _ e⟩, z⟩) fun z => z) (Reps.mono l r)
  | _, _, .ins h hl r => .ins (l.F _ _ h) hl (Reps.mono l r)
  | _, _, .exn hx h hl r => .exn hx (l.F _ _ h) hl (Reps.mono l r)
theorem Reps.mono {B : Bs} {W W' : Wd} (l : W.Le W') : ∀ {xs : List PV} {vs : List V}, Reps B W xs vs → Reps B W' xs vs
  | _, _, .nil => .nil
  | _, _, .cons h t => .cons (Rep.mono l h) (Reps.mono l t)
end
section
variable {B : Bs} {W : Wd}
theorem Reps.length : ∀ {xs : List PV} {vs : List V}, Reps B W xs vs → xs.length = vs.length
  | _, _, .nil => rfl
  | _, _, .cons _ t => congrArg Nat.succ (Reps.length t)
theorem Reps.append : ∀ {xs ys : List PV} {vs ws : List V}, Reps B W xs vs → Reps B W ys ws → Reps B W (xs ++ ys) (vs ++ ws)
  | _, _, _, _, .nil, s => s
  | _, _, _, _, .cons r t, s => .cons r (Reps.append t s)
theorem Reps.get : ∀ {xs : List PV} {vs : List V} {i : Nat} {x : PV}, Reps B W xs vs → xs[i]? = some x → ∃ v, vs[i]? = some v ∧ Rep B W x v
  | _, _, _, _, .nil, e => by simp at e
  | _, _, 0, _, .cons r _, e => by simp at e; subst e; exact ⟨_, rfl, r⟩
  | _, _, i + 1, x, .cons _ t, e => by
    obtain ⟨u, h1, h2⟩ := Reps.get (i := i) (x := x) t (by simpa using e)
    exact ⟨u, by simpa using h1, h2⟩
theorem Reps.get' {xs : List PV} {vs : List V} {i : Nat} {v : V} (r : Reps B W xs vs) (e : vs[i]? = some v) : ∃ x, xs[i]? = some x ∧ Rep B W x v := by
  have hi : i < xs.length := by rw [r.length]; exact (List.getElem?_eq_some_iff.mp e).1
  obtain ⟨v', e', h⟩ := r.get (List.getElem?_eq_getElem hi)
  rw [e] at e'; cases e'
  exact ⟨_, List.getElem?_eq_getElem hi, h⟩
theorem Reps.set {x : PV} {v : V} (r : Rep B W x v) : ∀ {xs : List PV} {vs : List V} (i : Nat), Reps B W xs vs → Reps B W (xs.set i x) (vs.set i v)
  | _, _, _, .nil => .nil
  | _, _, 0, .cons _ t => .cons r t
  | _, _, i + 1, .cons q t => .cons q (Reps.set r i t)
theorem Reps.take : ∀ {xs : List PV} {vs : List V} (n : Nat), Reps B W xs vs → Reps B W (xs.take n) (vs.take n)
  | _, _, 0, _ => .nil
  | _, _, _ + 1, .nil => .nil
  | _, _, n + 1, .cons r t => .cons r (Reps.take n t)
theorem Reps.drop : ∀ {xs : List PV} {vs : List V} (n : Nat), Reps B W xs vs → Reps B W (xs.drop n) (vs.drop n)
  | _, _, 0, r => r
  | _, _, _ + 1, .nil => .nil
  | _, _, n + 1, .cons _ t => Reps.drop n t
theorem Reps.one {x : PV} {v : V} (r : Rep B W x v) : Reps B W [x] [v] := .cons r .nil
theorem Reps.rep {xs : List PV} {vs : List V} (h : Reps B W xs vs) : ∀ k : Nat, Reps B W (List.replicate k xs).flatten (List.replicate k vs).flatten
  | 0 => .nil
  | k + 1 => by
    rw [List.replicate_succ, List.replicate_succ, List.flatten_cons, List.flatten_cons]
    exact h.append (Reps.rep h k)
theorem Reps.reverse : ∀ {xs : List PV} {vs : List V}, Reps B W xs vs → Reps B W xs.reverse vs.reverse
  | _, _, .nil => .nil
  | _, _, .cons r t => by rw [List.reverse_cons, List.reverse_cons]; exact (Reps.reverse t).append (.one r)
end

/-! ### the heap -/
def Live (W : Wd) (h : AH) (a : Addr) : Prop := ∃ (n : Nat) (c : Cell), h[n]? = some (some c) ∧ W.m[n]? = some a
def CellR (B : Bs) (W : Wd) (H : Hp) (a : Addr) : Cell → Prop
  | .lst xs => ∃ vs, H a = some (.lst vs) ∧ Reps B W xs vs
  | .dic _ => False
  | .ins c fs => ∃ dx vs, H a = some (.ins (B.cad c) dx ((B.fld c).zip vs)) ∧ vs.length ≤ (B.fld c).length ∧ Reps B W fs vs
/-- an object within the line -/
def SzO : HO → Prop
  | .lst vs => vs.length ≤ sizeLine
  | .tup vs => vs.length ≤ sizeLine
  | .tbl _ => False
  | _ => True
/-- no table of code objects: the tables grow -/
def NT (o : HO) : Prop := ∀ ps, o ≠ .tbl ps
theorem SzO.nt {o : HO} (h : SzO o) : NT o := fun ps e => by rw [e] at h; exact h
theorem nt_lst {vs : List V} : NT (.lst vs) := fun _ z => nomatch z
theorem nt_tup {vs : List V} : NT (.tup vs) := fun _ z => nomatch z
theorem nt_ins {a b : Addr} {fs : List (Str × V)} : NT (.ins a b fs) := fun _ z => nomatch z
theorem nt_own {a : Addr} : NT (.own a) := fun _ z => nomatch z
structure HRel (B : Bs) (W : Wd) (h : AH) (H : Hp) : Prop where
  agree : ∀ a o, W.F a = some o → H a = some o
  len : W.m.length = h.length
  nd : W.m.Nodup
  mt : ∀ a ∈ W.m, H a ≠ none
  hz : ∀ a o, H a = some o → NT o → SzO o
  fz : ∀ a o, W.F a = some o → NT o
  tb : LamX.Tabs B.T H
  cell : ∀ (n : Nat) (c : Cell) (a : Addr), h[n]? = some (some c) → W.m[n]? = some a → W.F a = none ∧ CellR B W H a c
structure Step (W : Wd) (h : AH) (H : Hp) (W' : Wd) (h' : AH) (H' : Hp) : Prop where
  le : W.Le W'
  hl : h.length ≤ h'.length
  dead : ∀ (n : Nat) (c : Cell), n < h.length → h'[n]? = some (some c) → ∃ c0, h[n]? = some (some c0)
  keep : ∀ a o, H a = some o → NT o → ¬ Live W h a → H' a = some o
  tr : ∀ a, H' a = none → H a = none
  fgrow : ∀ a, W.F a = none → H a ≠ none → ¬ Live W h a → W'.F a = none
  hm : W'.m.length = h'.length
  mnew : ∀ (n : Nat) (a : Addr), h.length ≤ n → W'.m[n]? = some a → H a = none
section
variable {B : Bs} {W W' W1 : Wd} {h h' h1 : AH} {H H' H1 : Hp}
theorem Step.refl (r : HRel B W h H) : Step W h H W h H := ⟨.refl W, Nat.le_refl _, fun n c _ e => ⟨c, e⟩, fun _ _ e _ _ => e, fun _ e => e, fun _ e _ _ => e, r.len, fun n a hn e => by
  have := (List.getElem?_eq_some_iff.mp e).1
  rw [r.len] at this; omega⟩
theorem Live.back (s : Step W h H W1 h1 H1) (r : W.m.length = h.length) {a : Addr} (l : Live W1 h1 a) (e : H a ≠ none) : Live W h a := by
  obtain ⟨n, c, e1, e2⟩ := l
  by_cases hn : n < h.length
  · obtain ⟨c0, e0⟩ := s.dead n c hn e1
    have hm : n < W.m.length := by omega
    have q := s.le.at (List.getElem?_eq_getElem hm)
    rw [e2] at q
    cases q
    exact ⟨n, c0, e0, List.getElem?_eq_getElem hm⟩
  · exact absurd (s.mnew n a (by omega) e2) e
theorem Step.trans (r : W.m.length = h.length) (a : Step W h H W1 h1 H1) (b : Step W1 h1 H1 W' h' H') : Step W h H W' h' H' where
  le := a.le.trans b.le
  hl := Nat.le_trans a.hl b.hl
  dead := fun n c hn e => by
    obtain ⟨c1, e1⟩ := b.dead n c (Nat.lt_of_lt_of_le hn a.hl) e
    exact a.dead n c1 hn e1
  keep := fun x o e nt nl => b.keep x o (a.keep x o e nt nl) nt fun l => nl (l.back a r (by rw [e]; exact fun z => nomatch z))
  tr := fun x e => a.tr x (b.tr x e)
  fgrow := fun x e ne nl => b.fgrow x (a.fgrow x e ne nl) (fun z => ne (a.tr x z)) fun l => nl (l.back a r ne)
  hm := b.hm
  mnew := fun n x hn e => by
    by_cases h1' : h1.length ≤ n
    · exact a.tr x (b.mnew n x h1' e)
    · have hm : n < W1.m.length := by rw [a.hm]; omega
      have q := b.le.at (List.getElem?_eq_getElem hm)
      rw [e] at q
      cases q
      exact a.mnew n _ hn (List.getElem?_eq_getElem hm)
end
end Lp

set_option Elab.async false
set_option linter.all false
set_option maxRecDepth 100000
set_option maxHeartbeats 4000000
/-! Lp1: the judgements, names, constants, operators, tests. -/
namespace Lp
open PySem PySem.Spec PyProof.Rows L2

/-! ### a def's state -/
def isOwn : PV → Bool
  | .own _ => true
  | .don _ => true
  | _ => false
/-- a tuple whose object is known: it stands in a slot (.don: its items are the firsts) -/
def DonR (B : Bs) (W : Wd) (ks : List (PV × PV)) (v : V) : Prop := ∃ (a : Addr) (vs : List V) (o : Obj), v = .ref a ∧ W.F a = some (.frz o (.tup vs)) ∧ o.dict = none ∧ vs.length ≤ sizeLine ∧ Reps B W (ks.map (·.1)) vs
theorem DonR.mono {B : Bs} {W W' : Wd} {ks : List (PV × PV)} {v : V} (l : W.Le W') (r : DonR B W ks v) : DonR B W' ks v :=
  let ⟨a, vs, o, e1, e2, e3, e4, e5⟩ := r
  ⟨a, vs, o, e1, l.F _ _ e2, e3, e4, e5.mono l⟩
def SlotR (B : Bs) (W : Wd) (H H0 : Hp) (x : PV) (v : V) : Prop := match x with
  | .own xs => ∃ a vs, v = .ref a ∧ H a = some (.lst vs) ∧ Reps B W xs vs ∧ W.F a = none ∧ a ∉ W.m ∧ H0 a = none
  | .don ks => DonR B W ks v
  | x => Rep B W x v
/-- a value in hand: a list of a slot's own may be read -/
def RepT (B : Bs) (W : Wd) (H : Hp) (x : PV) (v : V) : Prop := match x with
  | .own xs => ∃ a vs, v = .ref a ∧ H a = some (.lst vs) ∧ Reps B W xs vs ∧ a ∉ W.m
  | .don ks => DonR B W ks v
  | x => Rep B W x v
/-- several values in hand -/
def RepTs (B : Bs) (W : Wd) (H : Hp) : List PV → List V → Prop
  | [], [] => True
  | x :: xs, v :: vs => RepT B W H x v ∧ RepTs B W H xs vs
  | _, _ => False
structure Ent where
  W : Wd
  h : AH
  H : Hp
  len : W.m.length = h.length
  P : Wd
structure Rel (B : Bs) (N : Ent) (W : Wd) (s : S) (σ : L2.St) (H : Hp) : Prop where
  hr : HRel B W s.h H
  st : Step N.W N.h N.H W s.h H
  len : σ.length = s.e.length
  env : ∀ (i : Nat) (x : PV), s.e[i]? = some (some x) → ∃ v, σ[i]? = some (some v) ∧ SlotR B W H N.H x v
  dis : ∀ (i j : Nat) (x y : PV) (a : Addr), i ≠ j → s.e[i]? = some (some x) → s.e[j]? = some (some y) → isOwn x = true → isOwn y = true → σ[i]? = some (some (.ref a)) → σ[j]? = some (some (.ref a)) → False
  pin : N.P.Le W
theorem Rep.slot {B : Bs} {W : Wd} {H H0 : Hp} {x : PV} {v : V} (r : Rep B W x v) : SlotR B W H H0 x v := by
  cases r <;> (first | exact .non | exact .bl _ | exact .int _ | (rename_i h; exact .str _ h) | exact .ty _ | exact .cls _ | (rename_i h; exact .cel h) | skip)
  · rename_i h r; exact Rep.tup h r
  · rename_i h r; exact Rep.lst h r
  · rename_i h r; exact Rep.scr h r
  · rename_i h hl r; exact Rep.ins h hl r
  · rename_i hx h hl r; exact Rep.exn hx h hl r
theorem Rep.hand {B : Bs} {W : Wd} {H : Hp} {x : PV} {v : V} (r : Rep B W x v) : RepT B W H x v := by
  cases r <;> (first | exact .non | exact .bl _ | exact .int _ | (rename_i h; exact .str _ h) | exact .ty _ | exact .cls _ | (rename_i h; exact .cel h) | skip)
  · rename_i h r; exact Rep.tup h r
  · rename_i h r; exact Rep.lst h r
  · rename_i h r; exact Rep.scr h r
  · rename_i h hl r; exact Rep.ins h hl r
  · rename_i hx h hl r; exact Rep.exn hx h hl r
theorem SlotR.hand {B : Bs} {W : Wd} {H H0 : Hp} {x : PV} {v : V} (r : SlotR B W H H0 x v) : RepT B W H x v := by
  cases x with
  | own xs =>
    obtain ⟨a, vs, e, h, r, _, nm, _⟩ := r
    exact ⟨a, vs, e, h, r, nm⟩
  | don ks => exact r
  | _ => exact r
theorem RepT.rep {B : Bs} {W : Wd} {H : Hp} {x : PV} {v : V} (r : RepT B W H x v) (o : isOwn x = false) : Rep B W x v := by
  cases x with
  | own xs => cases o
  | don ks => cases o
  | _ => exact r

section
variable {B : Bs} {N : Ent} {W W' : Wd} {s s' : S} {σ : L2.St} {H H' : Hp}
theorem Rel.slen (r : Rel B N W s σ H) : W.m.length = s.h.length := r.hr.len
theorem Live.mem {W : Wd} {h : AH} {a : Addr} (l : Live W h a) : a ∈ W.m := let ⟨_, _, _, e⟩ := l; List.mem_of_getElem? e
theorem Step.notm {W W' : Wd} {h h' : AH} {H H' : Hp} {a : Addr} (st : Step W h H W' h' H') (hl : W.m.length = h.length) (n : a ∉ W.m) (e : H a ≠ none) : a ∉ W'.m := fun z => by
  obtain ⟨k, e1⟩ := List.mem_iff_getElem?.mp z
  by_cases hk : h.length ≤ k
  · exact e (st.mnew k a hk e1)
  · have hm : k < W.m.length := by omega
    have q := st.le.at (List.getElem?_eq_getElem hm)
    rw [e1] at q
    cases q
    exact n (List.getElem_mem hm)
theorem RepT.on {x : PV} {v : V} (hl : W.m.length = s.h.length) (st : Step W s.h H W' s'.h H') (r : RepT B W H x v) : RepT B W' H' x v := by
  cases x with
  | own xs =>
    obtain ⟨a, vs, e, h, r, n⟩ := r
    exact ⟨a, vs, e, st.keep _ _ h nt_lst fun l => n l.mem, r.mono st.le, st.notm hl n (by rw [h]; exact fun z => nomatch z)⟩
  | don ks => exact DonR.mono st.le r
  | _ => exact Rep.mono st.le r
theorem RepTs.on (hl : W.m.length = s.h.length) (st : Step W s.h H W' s'.h H') : ∀ {xs : List PV} {vs : List V}, RepTs B W H xs vs → RepTs B W' H' xs vs
  | [], [], _ => trivial
  | x :: xs, v :: vs, ⟨h, t⟩ => ⟨h.on hl st, RepTs.on hl st t⟩
  | [], _ :: _, h => h.elim
  | _ :: _, [], h => h.elim
end

/-! ### judgements -/
def ExcR (B : Bs) (H0 : Hp) (W : Wd) (H : Hp) (x : PV) (cls : Value) (d : Option Addr) : Prop :=
  ∃ (c : Nat) (fs : List PV) (dd : Addr) (vs : List V), x = .ins c fs ∧ cls = .ref (B.cad c) ∧ d = some dd ∧ H dd = some (.xd ((B.fld c).zip vs)) ∧ vs.length = (B.fld c).length ∧ Reps B W fs vs ∧ (H0 dd = none ∧ W.F dd = none ∧ dd ∉ W.m)
theorem ExcR.old {B : Bs} {H0 H1 : Hp} {W : Wd} {H : Hp} {x : PV} {cls : Value} {d : Option Addr} (e : ExcR B H0 W H x cls d) (h : ∀ a, H0 a = none → H1 a = none) : ExcR B H1 W H x cls d :=
  let ⟨c, fs, dd, vs, a1, a2, a3, a4, a5, a6, a7, a8⟩ := e
  ⟨c, fs, dd, vs, a1, a2, a3, a4, a5, a6, h _ a7, a8⟩
/-- its dict is younger than H -/
def Nw (H : Hp) (d : Option Addr) : Prop := ∀ dd, d = some dd → H dd = none
theorem ExcR.nw {B : Bs} {H0 : Hp} {W : Wd} {H : Hp} {x : PV} {cls : Value} {d : Option Addr} (e : ExcR B H0 W H x cls d) : Nw H0 d := fun dd ed => by
  obtain ⟨c, fs, dd', vs, a1, a2, a3, a4, a5, a6, a7, a8⟩ := e
  rw [a3] at ed
  cases ed
  exact a7
abbrev ME := S → R S PV
/-- a step of an expression: no slot gets a list of its own -/
structure StepE (W : Wd) (s : S) (H : Hp) (W' : Wd) (s' : S) (H' : Hp) : Prop where
  st : Step W s.h H W' s'.h H'
  eo : ∀ (i : Nat) (x : PV), s'.e[i]? = some (some x) → isOwn x = true → s.e[i]? = some (some x)
theorem StepE.refl {B : Bs} {W : Wd} {s : S} {H : Hp} (r : HRel B W s.h H) : StepE W s H W s H := ⟨Step.refl r, fun _ _ e _ => e⟩
theorem StepE.trans {W W1 W2 : Wd} {s s1 s2 : S} {H H1 H2 : Hp} (hl : W.m.length = s.h.length) (a : StepE W s H W1 s1 H1) (b : StepE W1 s1 H1 W2 s2 H2) : StepE W s H W2 s2 H2 := ⟨a.st.trans hl b.st, fun i x e o => a.eo i x (b.eo i x e o) o⟩
/-- what is wanted behind a run that began at W, s, H: of its value at each state that bears it; of an exception -/
def Post (B : Bs) (N : Ent) (WX : WX) {α : Type} (W : Wd) (s : S) (H : Hp) (σ : L2.St) (r : R S α) (P : α → Wd → S → Hp → Prop) : Prop := r.post
  (fun v s' => ∀ W' H', Rel B N W' s' σ H' → StepE W s H W' s' H' → P v W' s' H')
  (fun x s' => ∀ W' H' cls d, Rel B N W' s' σ H' → StepE W s H W' s' H' → ExcR B N.H W' H' x cls d → Nw H d → WX cls d σ H')
section
variable {B : Bs} {N : Ent} {WX : WX} {α β : Type} {W W1 : Wd} {s s1 : S} {H H1 : Hp} {σ : L2.St}
theorem Post.from {r : R S α} {P : α → Wd → S → Hp → Prop} (hl : W.m.length = s.h.length) (st : StepE W s H W1 s1 H1) (q : Post B N WX W s H σ r P) : Post B N WX W1 s1 H1 σ r P :=
  R.post_mono q (fun _ _ q W' H' r' st' => q W' H' r' (st.trans hl st')) fun _ _ q W' H' cls d r' st' e nw => q W' H' cls d r' (st.trans hl st') e fun dd ed => st.st.tr _ (nw dd ed)
theorem Post.mono {r : R S α} {P P' : α → Wd → S → Hp → Prop} (q : Post B N WX W s H σ r P) (k : ∀ v W' s' H', Rel B N W' s' σ H' → StepE W s H W' s' H' → P v W' s' H' → P' v W' s' H') : Post B N WX W s H σ r P' :=
  R.post_mono q (fun _ _ q W' H' r' st' => k _ _ _ _ r' st' (q W' H' r' st')) fun _ _ q => q
theorem Post.bind {r : R S α} {f : α → S → R S β} {P : β → Wd → S → Hp → Prop} (hl : W.m.length = s.h.length) (q : Post B N WX W s H σ (r.bind f) P) : Post B N WX W s H σ r fun v W' s' H' => Post B N WX W' s' H' σ (f v s') P :=
  R.post_mono (R.post_bind q) (fun _ _ q W' H' r' st' => Post.from hl st' q) fun _ _ q => q
theorem Post.ok {v : α} {P : α → Wd → S → Hp → Prop} (r : Rel B N W s σ H) (q : Post B N WX W s H σ (.ok v s) P) : P v W s H := q W H r (StepE.refl r.hr)
end
def tE (B : Bs) (N : Ent) (WX : WX) (m : ME) : TE := fun σ H Q => ∃ W s, Rel B N W s σ H ∧ Post B N WX W s H σ (m s) fun v W' _ H' => ∀ v', RepT B W' H' v v' → Q v' H'
def tT (B : Bs) (N : Ent) (WX : WX) (m : S → R S Bool) : TT := fun σ H Q => ∃ W s, Rel B N W s σ H ∧ Post B N WX W s H σ (m s) fun v _ _ H' => Q v H'
def tA (B : Bs) (N : Ent) (WX : WX) (m : S → R S (List PV)) : TA := fun σ H Q => ∃ W s, Rel B N W s σ H ∧ Post B N WX W s H σ (m s) fun v W' _ H' => ∀ v', RepTs B W' H' v v' → Q v' H'
abbrev SimE (X : Cx) (B : Bs) (N : Ent) (WX : WX) (e : Expr) (m : ME) : Prop := PE X e (tE B N WX m)
abbrev SimT (X : Cx) (B : Bs) (N : Ent) (WX : WX) (e : Expr) (m : S → R S Bool) : Prop := PT X e (tT B N WX m)
abbrev SimW (X : Cx) (B : Bs) (N : Ent) (WX : WX) (e : Expr) (m : S → R S Bool) : Prop := PW X e (tT B N WX m)
abbrev SimA (X : Cx) (B : Bs) (N : Ent) (WX : WX) (es : List Expr) (m : S → R S (List PV)) : Prop := PA X es (tA B N WX m)
theorem _root_.L2.PE.imp {X : Cx} {e : Expr} {t t' : TE} (h : PE X e t) (w : ∀ σ H Q, t' σ H Q → t σ H Q) : PE X e t' := ⟨fun pins s σ H Q I q => h.run pins s σ H Q I (w _ _ _ q)⟩
theorem _root_.L2.PT.imp {X : Cx} {e : Expr} {t t' : TT} (h : PT X e t) (w : ∀ σ H Q, t' σ H Q → t σ H Q) : PT X e t' := ⟨fun pins s σ H Q I q => h.run pins s σ H Q I (w _ _ _ q)⟩
theorem _root_.L2.PW.imp {X : Cx} {e : Expr} {t t' : TT} (h : PW X e t) (w : ∀ σ H Q, t' σ H Q → t σ H Q) : PW X e t' := ⟨fun wh pins s σ H Q I q => h.run wh pins s σ H Q I (w _ _ _ q)⟩
theorem _root_.L2.PA.imp {X : Cx} {e : List Expr} {t t' : TA} (h : PA X e t) (w : ∀ σ H Q, t' σ H Q → t σ H Q) : PA X e t' := ⟨fun p pins s σ H Q I q => h.run p pins s σ H Q I (w _ _ _ q)⟩
theorem _root_.L2.PS.imp {X : Cx} {e : Stmt} {t t' : TS} (h : PS X e t) (w : ∀ D σ H, t' D σ H → t D σ H) : PS X e t' := ⟨fun pins s σ H D I q => h.run pins s σ H D I (w _ _ _ q)⟩
theorem _root_.L2.PSs.imp {X : Cx} {e : List Stmt} {t t' : TS} (h : PSs X e t) (w : ∀ D σ H, t' D σ H → t D σ H) : PSs X e t' := ⟨fun pins s σ H D I q => h.run pins s σ H D I (w _ _ _ q)⟩

/-! ### names, constants -/
def eVar (i : Nat) : ME := fun s => match s.e[i]? with
  | some (some v) => .ok v s
  | _ => .bad
def eC (v : PV) : ME := fun s => .ok v s
section
variable {X : Cx} {B : Bs} {N : Ent} {WX : WX}
theorem sim_var {i : Nat} {x : Str} {pos : Pos} (hN : X.N[i]? = some x) (hv : Vis X.env.scope x) (hd : (x == ("__debug__" : Str)) = false) (hcd : (x == ("__classdict__" : Str)) = false) : SimE X B N WX (.Name x pos) (eVar i) :=
  (pe_var hN hv hd hcd).imp fun σ H Q ⟨W, s, r, h⟩ => by
    unfold eVar at h
    split at h
    · rename_i v e
      obtain ⟨v', e', sl⟩ := r.env i v e
      exact ⟨v', e', h.ok r v' sl.hand⟩
    · exact h.elim
theorem sim_c {e : Expr} {x : PV} {v : V} (h : PE X e (tC v)) (rx : ∀ W, Rep B W x v) : SimE X B N WX e (eC x) :=
  h.imp fun σ H Q ⟨W, s, r, h⟩ => h.ok r v (rx W).hand
theorem sim_int {i : Int} {j pos} : SimE X B N WX (.Constant (.int i) j pos) (eC (.int i)) := sim_c pe_int fun _ => .int i
theorem sim_bl {b : Bool} {j pos} : SimE X B N WX (.Constant (.bool b) j pos) (eC (.bl b)) := sim_c pe_bl fun _ => .bl b
theorem sim_non {j pos} : SimE X B N WX (.Constant .none j pos) (eC .non) := sim_c pe_non fun _ => .non
theorem sim_str {x : Str} {j pos} (h : SOk x) : SimE X B N WX (.Constant (.str x) j pos) (eC (.str x)) := sim_c pe_str fun _ => .str x h
end

/-! ### two-place operations by values -/
/-- a pure operation that a rule of the layer bears -/
def BinSem (X : Cx) (B : Bs) (f : AH → PV → PV → Option PV) (r : R2) : Prop := ∀ (W : Wd) (h : AH) (H : Hp) (x y z : PV) (x' y' : V) (Q : VK), HRel B W h H → RepT B W H x x' → RepT B W H y y' → f h x y = some z →
  (∀ z', RepT B W H z z' → Q z' H) → r x' y' H Q
def eBin (f : AH → PV → PV → Option PV) (a b : ME) : ME := fun s => (a s).bind fun x s1 => (b s1).bind fun y s2 => match f s2.h x y with
  | some z => .ok z s2
  | none => .bad
section
variable {X : Cx} {B : Bs} {N : Ent} {WX : WX} {a b : Expr} {ma mb : ME} {pos : Pos}
/-- two expressions in a row: what is known behind both -/
theorem two {f : PV → PV → S → R S PV} {σ : L2.St} {H : Hp} {Q : VK} (h : tE B N WX (fun s => (ma s).bind fun x s1 => (mb s1).bind fun y s2 => f x y s2) σ H Q) {k : V → V → Hp → Prop}
    (hk : ∀ W2 s2 H2 x y x' y', Rel B N W2 s2 σ H2 → RepT B W2 H2 x x' → RepT B W2 H2 y y' → Post B N WX W2 s2 H2 σ (f x y s2) (fun u W' _ H' => ∀ u', RepT B W' H' u u' → Q u' H') → k x' y' H2) :
    tE B N WX ma σ H fun x' H1 => tE B N WX mb σ H1 fun y' H2 => k x' y' H2 := by
  obtain ⟨W, s, r, h⟩ := h
  refine ⟨W, s, r, (h.bind r.slen).mono fun x W1 s1 H1 r1 _ q x' rx => ⟨W1, s1, r1, (q.bind r1.slen).mono fun y W2 s2 H2 r2 st2 q y' ry => ?_⟩⟩
  exact hk W2 s2 H2 x y x' y' r2 (rx.on r1.slen st2.st) ry q
theorem sim_bin {op : Operator} {r : R2} {f : AH → PV → PV → Option PV} (ho : OpR X (binaryOp op) r) (hf : BinSem X B f r) (ha : SimE X B N WX a ma) (hb : SimE X B N WX b mb) : SimE X B N WX (.BinOp a op b pos) (eBin f ma mb) :=
  (pe_op ho ha hb).imp fun σ H Q h => two h fun W2 s2 H2 x y x' y' r2 rx ry q => by
    split at q
    · rename_i z e
      exact hf W2 s2.h H2 x y z x' y' Q r2.hr rx ry e fun z' rz => q.ok r2 z' rz
    · exact q.elim
theorem sim_cmp {op : CmpOp} {r : R2} {f : AH → PV → PV → Option PV} (ho : OpR X (compareOp op) r) (hf : BinSem X B f r) (ha : SimE X B N WX a ma) (hb : SimE X B N WX b mb) (hm : behindInMarks op b = false) : SimE X B N WX (.Compare a [op] [b] pos) (eBin f ma mb) :=
  (pe_cmpR ho ha hb hm).imp fun σ H Q h => two h fun W2 s2 H2 x y x' y' r2 rx ry q => by
    split at q
    · rename_i z e
      exact hf W2 s2.h H2 x y z x' y' Q r2.hr rx ry e fun z' rz => q.ok r2 z' rz
    · exact q.elim
end

/-! ### tests -/
def asL (h : AH) : PV → Option (List PV)
  | .lst xs => some xs
  | .own xs => some xs
  | .scr xs => some xs
  | .cel n => match h[n]? with
    | some (some (.lst xs)) => some xs
    | _ => none
  | _ => none
def tru (h : AH) : PV → Option Bool
  | .non => some false
  | .bl b => some b
  | .int i => some (i != 0)
  | .str x => some ((x.length : Int) != 0)
  | .tup xs => some (!xs.isEmpty)
  | x => (asL h x).map fun xs => !xs.isEmpty
section
variable {X : Cx} {B : Bs} {N : Ent} {WX : WX} {W : Wd} {h : AH} {H : Hp}
theorem asL_ok (hr : HRel B W h H) {x : PV} {x' : V} {xs : List PV} (rx : RepT B W H x x') (e : asL h x = some xs) : ∃ a vs, x' = .ref a ∧ SqL B.K H a vs ∧ Reps B W xs vs := by
  cases x with
  | lst ys =>
    cases e
    cases (show Rep B W (.lst _) x' from rx) with
    | lst h r => exact ⟨_, _, rfl, .inl (.inl (hr.agree _ _ h)), r⟩
  | scr ys =>
    cases e
    cases (show Rep B W (.scr _) x' from rx) with
    | scr h r => exact ⟨_, _, rfl, h.imp (fun ⟨e, _⟩ => e.imp (hr.agree _ _) fun ⟨o, e⟩ => ⟨o, hr.agree _ _ e⟩) fun z => z, r⟩
  | own ys =>
    cases e
    obtain ⟨a, vs, rfl, h, r, _⟩ := rx
    exact ⟨a, vs, rfl, .inl (.inl h), r⟩
  | cel n =>
    cases (show Rep B W (.cel n) x' from rx) with
    | cel h1 =>
      unfold asL at e
      dsimp only at e
      split at e
      · rename_i ys q
        cases e
        obtain ⟨_, vs, h2, r⟩ := hr.cell n _ _ q h1
        exact ⟨_, vs, rfl, .inl (.inl h2), r⟩
      · cases e
  | _ => cases e
theorem asL_sz (hr : HRel B W h H) {x : PV} {x' : V} {xs : List PV} (rx : RepT B W H x x') (e : asL h x = some xs) : xs.length ≤ sizeLine := by
  cases x with
  | lst ys =>
    cases e
    cases (show Rep B W (.lst _) x' from rx) with
    | lst h r => rw [r.length]; exact hr.hz _ _ (hr.agree _ _ h) nt_lst
  | scr ys =>
    cases e
    cases (show Rep B W (.scr _) x' from rx) with
    | scr h r =>
      rw [r.length]
      rcases h with ⟨_, z⟩ | ⟨o, its, n, _, _, _, _, z, q⟩
      · exact z
      · rw [q.length, Array.length_toList]; exact z
  | own ys =>
    cases e
    obtain ⟨a, vs, rfl, h, r, _⟩ := rx
    rw [r.length]; exact hr.hz _ _ h nt_lst
  | cel n =>
    cases (show Rep B W (.cel n) x' from rx) with
    | cel h1 =>
      unfold asL at e
      dsimp only at e
      split at e
      · rename_i ys q
        cases e
        obtain ⟨_, vs, h2, r⟩ := hr.cell n _ _ q h1
        rw [r.length]; exact hr.hz _ _ h2 nt_lst
      · cases e
  | _ => cases e
theorem rd_sql (hK : X.K = B.K) {a : Addr} {vs : List V} (h : SqL B.K H a vs) : SqL X.K H a vs := hK ▸ h
theorem tup_ok (hK : X.K = B.K) (hr : HRel B W h H) {x' : V} {xs : List PV} (rx : Rep B W (.tup xs) x') : ∃ a vs, x' = .ref a ∧ SqT X.K H a vs ∧ Reps B W xs vs := by
  cases rx with
  | tup h r =>
    refine ⟨_, _, rfl, ?_, r⟩
    rcases h with h | ⟨o, its, n, h1, h2, h3, h4, h5⟩
    · exact .inl (.inl (hr.agree _ _ h))
    · exact .inr ⟨o, its, n, hK ▸ h1, h2, h3, h4, h5⟩
theorem reps_emp {xs : List PV} {vs : List V} (r : Reps B W xs vs) : (!xs.isEmpty) = !vs.isEmpty := by
  cases r <;> rfl
theorem tru_sem (hK : X.K = B.K) (hr : HRel B W h H) {x : PV} {x' : V} {b : Bool} (rx : RepT B W H x x') (e : tru h x = some b) : TruV X.K x' H b := by
  have fin : ∀ xs, asL h x = some xs → b = !xs.isEmpty → TruV X.K x' H b := fun xs e1 e2 => by
    obtain ⟨a, vs, rfl, h1, r⟩ := asL_ok hr rx e1
    exact .inl ⟨vs, rd_sql hK h1, by rw [e2, reps_emp r]⟩
  cases x with
  | non => cases (show Rep B W .non x' from rx); cases e; exact rfl
  | bl c => cases (show Rep B W (.bl c) x' from rx); cases e; exact rfl
  | int i => cases (show Rep B W (.int i) x' from rx); cases e; exact rfl
  | str y =>
    cases (show Rep B W (.str y) x' from rx) with
    | str _ hy =>
      cases e
      exact ⟨hy.2, rfl⟩
  | tup xs =>
    obtain ⟨a, vs, rfl, h1, r⟩ := tup_ok hK hr (show Rep B W (.tup xs) x' from rx)
    cases e
    exact .inr (.inl ⟨vs, h1, reps_emp r⟩)
  | lst ys => cases e; exact fin ys rfl rfl
  | scr ys => cases e; exact fin ys rfl rfl
  | own ys => cases e; exact fin ys rfl rfl
  | cel n =>
    have e' : (asL h (.cel n)).map (fun xs => !xs.isEmpty) = some b := e
    cases q : asL h (.cel n) with
    | none => rw [q] at e'; cases e'
    | some xs =>
      rw [q] at e'
      cases e'
      exact fin xs q rfl
  | _ => cases e
end
def tM (m : ME) : S → R S Bool := fun s => (m s).bind fun v s1 => match tru s1.h v with
  | some b => .ok b s1
  | none => .bad
def andM (a b : S → R S Bool) : S → R S Bool := fun s => (a s).bind fun c s1 => if c = true then b s1 else .ok false s1
def orM (a b : S → R S Bool) : S → R S Bool := fun s => (a s).bind fun c s1 => if c = true then .ok true s1 else b s1
def notM (a : S → R S Bool) : S → R S Bool := fun s => (a s).bind fun c s1 => .ok (!c) s1
def blM (a : S → R S Bool) : ME := fun s => (a s).bind fun c s1 => .ok (.bl c) s1
def ifM (c : S → R S Bool) (a b : ME) : ME := fun s => (c s).bind fun k s1 => if k = true then a s1 else b s1
/-- a value that is True or False -/
def bM (m : ME) : S → R S Bool := fun s => (m s).bind fun v s1 => match v with
  | .bl b => .ok b s1
  | _ => .bad
section
variable {X : Cx} {B : Bs} {N : Ent} {WX : WX} {a b c : Expr} {rest : List Expr} {ma mb : ME} {ta tb : S → R S Bool} {pos : Pos}
theorem sim_truth (hK : X.K = B.K) (ha : SimE X B N WX a ma) (he : ∀ whole, isTrue a X.env whole = (do let v ← whole; standAt a.pos; holding [v] (truthy v))) : SimT X B N WX a (tM ma) :=
  (pt_truth ha he).imp fun σ H Q ⟨W, s, r, h⟩ => ⟨W, s, r, (h.bind r.slen).mono fun v W1 s1 H1 r1 _ q v' rv => by
    split at q
    · rename_i k e
      exact ⟨k, tru_sem hK r1.hr rv e, q.ok r1⟩
    · exact q.elim⟩
theorem tB_of {ma : ME} {σ : L2.St} {H : Hp} {Q : Bool → Hp → Prop} (h : tT B N WX (bM ma) σ H Q) : tE B N WX ma σ H fun x H1 => ∃ c, x = .bl c ∧ Q c H1 := by
  obtain ⟨W, s, r, h⟩ := h
  refine ⟨W, s, r, (h.bind r.slen).mono fun v W1 s1 H1 r1 _ q v' rv => ?_⟩
  cases v with
  | bl c =>
    cases (show Rep B W1 (.bl c) v' from rv)
    exact ⟨c, rfl, q.ok r1⟩
  | _ => exact q.elim
/-- a comparison as a test -/
theorem sim_tcmp {op : CmpOp} {r : R2} {f : AH → PV → PV → Option PV} (ho : OpR X (compareOp op) r) (hf : BinSem X B f r) (ha : SimE X B N WX a ma) (hb : SimE X B N WX b mb) (hm : behindInMarks op b = false) : SimT X B N WX (.Compare a [op] [b] pos) (bM (eBin f ma mb)) :=
  (pt_cmpR ho ha hb hm).imp fun σ H Q h => two (tB_of h) fun W2 s2 H2 x y x' y' r2 rx ry q => by
    split at q
    · rename_i z e
      exact hf W2 s2.h H2 x y z x' y' _ r2.hr rx ry e fun z' rz => q.ok r2 z' rz
    · exact q.elim
theorem tAnd_of {σ : L2.St} {H : Hp} {Q : Bool → Hp → Prop} (h : tT B N WX (andM ta tb) σ H Q) : tAnd (tT B N WX ta) (tT B N WX tb) σ H Q := by
  obtain ⟨W, s, r, h⟩ := h
  refine ⟨W, s, r, (h.bind r.slen).mono fun c W1 s1 H1 r1 _ q => ?_⟩
  cases c with
  | true => exact iteT ⟨W1, s1, r1, q⟩
  | false => exact iteF (q.ok r1)
theorem tOr_of {σ : L2.St} {H : Hp} {Q : Bool → Hp → Prop} (h : tT B N WX (orM ta tb) σ H Q) : tOr (tT B N WX ta) (tT B N WX tb) σ H Q := by
  obtain ⟨W, s, r, h⟩ := h
  refine ⟨W, s, r, (h.bind r.slen).mono fun c W1 s1 H1 r1 _ q => ?_⟩
  cases c with
  | true => exact iteT (q.ok r1)
  | false => exact iteF ⟨W1, s1, r1, q⟩
theorem simw_and1 (ha : SimT X B N WX a ta) : SimW X B N WX (.BoolOp .And [a] pos) ta := pw_and1 ha
theorem simw_or1 (ha : SimT X B N WX a ta) : SimW X B N WX (.BoolOp .Or [a] pos) ta := pw_or1 ha
theorem simw_and (ha : SimT X B N WX a ta) (hb : SimW X B N WX (.BoolOp .And (b :: rest) pos) tb) : SimW X B N WX (.BoolOp .And (a :: b :: rest) pos) (andM ta tb) := (pw_and ha hb).imp fun _ _ _ h => tAnd_of h
theorem simw_or (ha : SimT X B N WX a ta) (hb : SimW X B N WX (.BoolOp .Or (b :: rest) pos) tb) : SimW X B N WX (.BoolOp .Or (a :: b :: rest) pos) (orM ta tb) := (pw_or ha hb).imp fun _ _ _ h => tOr_of h
theorem sim_tbool {op : BoolOp} {es : List Expr} (h : SimW X B N WX (.BoolOp op es pos) ta) : SimT X B N WX (.BoolOp op es pos) ta := h.pt
theorem sim_tnot (ha : SimT X B N WX a ta) : SimT X B N WX (.UnaryOp .Not a pos) (notM ta) := (pt_not ha).imp fun σ H Q ⟨W, s, r, h⟩ => ⟨W, s, r, (h.bind r.slen).mono fun c W1 s1 H1 r1 _ q => q.ok r1⟩
theorem sim_ifexp (hc : SimT X B N WX c ta) (ha : SimE X B N WX a ma) (hb : SimE X B N WX b mb) : SimE X B N WX (.IfExp c a b pos) (ifM ta ma mb) :=
  (pe_ifExp hc ha hb).imp fun σ H Q ⟨W, s, r, h⟩ => ⟨W, s, r, (h.bind r.slen).mono fun k W1 s1 H1 r1 _ q => by
    cases k with
    | true => exact iteT ⟨W1, s1, r1, q⟩
    | false => exact iteF ⟨W1, s1, r1, q⟩⟩
/-! as values -/
def andV (a b : ME) : ME := fun s => (a s).bind fun v s1 => match v with
  | .bl true => b s1
  | .bl false => .ok (.bl false) s1
  | _ => .bad
def orV (a b : ME) : ME := fun s => (a s).bind fun v s1 => match v with
  | .bl true => .ok (.bl true) s1
  | .bl false => b s1
  | _ => .bad
def notV (a : ME) : ME := fun s => (a s).bind fun v s1 => match v with
  | .bl k => .ok (.bl (!k)) s1
  | _ => .bad
theorem sim_one {op : BoolOp} (ha : SimE X B N WX a ma) : SimE X B N WX (.BoolOp op [a] pos) ma := pe_one ha
theorem sim_and (ha : SimE X B N WX a ma) (hb : SimE X B N WX (.BoolOp .And (b :: rest) pos) mb) : SimE X B N WX (.BoolOp .And (a :: b :: rest) pos) (andV ma mb) :=
  (pe_and ha hb).imp fun σ H Q ⟨W, s, r, h⟩ => ⟨W, s, r, (h.bind r.slen).mono fun v W1 s1 H1 r1 _ q v' rv => by
    cases v with
    | bl k =>
      cases (show Rep B W1 (.bl k) v' from rv)
      cases k with
      | true => exact ⟨true, rfl, iteT ⟨W1, s1, r1, q⟩⟩
      | false => exact ⟨false, rfl, iteF (q.ok r1 _ (Rep.bl false).hand)⟩
    | _ => exact q.elim⟩
theorem sim_or (ha : SimE X B N WX a ma) (hb : SimE X B N WX (.BoolOp .Or (b :: rest) pos) mb) : SimE X B N WX (.BoolOp .Or (a :: b :: rest) pos) (orV ma mb) :=
  (pe_or ha hb).imp fun σ H Q ⟨W, s, r, h⟩ => ⟨W, s, r, (h.bind r.slen).mono fun v W1 s1 H1 r1 _ q v' rv => by
    cases v with
    | bl k =>
      cases (show Rep B W1 (.bl k) v' from rv)
      cases k with
      | true => exact ⟨true, rfl, iteT (q.ok r1 _ (Rep.bl true).hand)⟩
      | false => exact ⟨false, rfl, iteF ⟨W1, s1, r1, q⟩⟩
    | _ => exact q.elim⟩
theorem sim_not (ha : SimE X B N WX a ma) : SimE X B N WX (.UnaryOp .Not a pos) (notV ma) :=
  (pe_not ha).imp fun σ H Q ⟨W, s, r, h⟩ => ⟨W, s, r, (h.bind r.slen).mono fun v W1 s1 H1 r1 _ q v' rv => by
    cases v with
    | bl k =>
      cases (show Rep B W1 (.bl k) v' from rv)
      exact ⟨k, rfl, q.ok r1 _ (Rep.bl (!k)).hand⟩
    | _ => exact q.elim⟩
end
end Lp

set_option Elab.async false
set_option linter.all false
set_option maxRecDepth 100000
set_option maxHeartbeats 4000000
/-! Lp2: operations on values, with new objects. -/
namespace Lp
open PySem PySem.Spec PyProof.Rows L2

/-! ### a new object that stands still -/
inductive Grow : Wd → Hp → Wd → Hp → Prop where
  | refl (W : Wd) (H : Hp) : Grow W H W H
  | new {W : Wd} {H : Hp} {p : Addr} {o : HO} (hp : H p = none) (ho : SzO o) : Grow W H ⟨upd W.F p o, W.m⟩ (upd H p o)
section
variable {B : Bs} {N : Ent} {W W' : Wd} {h : AH} {s : S} {σ : L2.St} {H H' : Hp} {p : Addr} {o : HO}
theorem HRel.fnone (r : HRel B W h H) (hp : H p = none) : W.F p = none := by
  cases e : W.F p with
  | none => rfl
  | some o => rw [r.agree _ _ e] at hp; cases hp
theorem le_new (hF : W.F p = none) : W.Le ⟨upd W.F p o, W.m⟩ := ⟨fun a u e => by
  show upd W.F p o a = some u
  rw [upd_ne (ne_of_none e hF)]; exact e, List.prefix_refl _⟩
theorem CellR.mono {c : Cell} {a : Addr} (l : W.Le W') (hH : ∀ u, H a = some u → H' a = some u) (r : CellR B W H a c) : CellR B W' H' a c := by
  cases c with
  | lst xs => obtain ⟨vs, h1, h2⟩ := r; exact ⟨vs, hH _ h1, h2.mono l⟩
  | dic ks => exact r
  | ins c fs => obtain ⟨dx, vs, h1, h2, h3⟩ := r; exact ⟨dx, vs, hH _ h1, h2, h3.mono l⟩
theorem tabs_new {T : List (Addr × Str)} (t : LamX.Tabs T H) (hp : H p = none) : LamX.Tabs T (upd H p o) := t.ext fun b u e => by rw [upd_ne (ne_of_none e hp)]; exact e
/-- an object that is no table and no code object is written -/
theorem tabs_wr {T : List (Addr × Str)} {a : Addr} {o0 : HO} (t : LamX.Tabs T H) (ha : H a = some o0) (nt : NT o0) (nc : ∀ c q, o0 ≠ LamX.CodeO c q) : LamX.Tabs T (upd H a o) := fun p hp => by
  obtain ⟨ps, h1, h2, h3⟩ := t p hp
  refine ⟨ps, by rw [upd_ne fun z => nt ps (by rw [z, ha] at h1; exact Option.some.inj h1)]; exact h1, h2, fun pos cv hc => ?_⟩
  obtain ⟨c, e1, e2⟩ := h3 pos cv hc
  exact ⟨c, e1, by rw [upd_ne fun z => nc c p.2 (by rw [z, ha] at e2; rw [z]; exact Option.some.inj e2)]; exact e2⟩
theorem nc_lst {vs : List V} : ∀ c q, HO.lst vs ≠ LamX.CodeO c q := fun c q z => by unfold LamX.CodeO at z; cases z
theorem nc_ins {a b : Addr} {fs : List (Str × V)} : ∀ c q, HO.ins a b fs ≠ LamX.CodeO c q := fun c q z => by unfold LamX.CodeO at z; cases z
theorem hrel_new (r : HRel B W h H) (hp : H p = none) (ho : SzO o) : HRel B ⟨upd W.F p o, W.m⟩ h (upd H p o) := by
  have hF := r.fnone hp
  refine ⟨fun a u e => ?_, r.len, r.nd, fun a hm => ?_, fun a u e nt => ?_, fun a u e => ?_, tabs_new r.tb hp, fun n c a e1 e2 => ?_⟩
  · by_cases ha : a = p
    · subst ha
      have e : upd W.F a o a = some u := e
      rw [upd_same] at e
      rw [upd_same]; exact e
    · have e : upd W.F p o a = some u := e
      rw [upd_ne ha] at e
      rw [upd_ne ha]; exact r.agree _ _ e
  · have ha : a ≠ p := fun z => r.mt a hm (by rw [z]; exact hp)
    rw [upd_ne ha]; exact r.mt a hm
  · by_cases ha : a = p
    · rw [ha, upd_same] at e
      cases e
      exact ho
    · rw [upd_ne ha] at e
      exact r.hz a u e nt
  · by_cases ha : a = p
    · have e : upd W.F p o a = some u := e
      rw [ha, upd_same] at e
      cases e
      exact ho.nt
    · have e : upd W.F p o a = some u := e
      rw [upd_ne ha] at e
      exact r.fz a u e
  · obtain ⟨h1, h2⟩ := r.cell n c a e1 e2
    have ha : a ≠ p := by
      cases c with
      | lst xs => obtain ⟨vs, h, _⟩ := h2; exact ne_of_none h hp
      | dic ks => exact h2.elim
      | ins c fs => obtain ⟨dx, vs, h, _⟩ := h2; exact ne_of_none h hp
    exact ⟨by show upd W.F p o a = none; rw [upd_ne ha]; exact h1, h2.mono (le_new hF) fun u e => by rw [upd_ne ha]; exact e⟩
theorem step_new (r : HRel B W h H) (hp : H p = none) : Step W h H ⟨upd W.F p o, W.m⟩ h (upd H p o) := by
  have hF := r.fnone hp
  refine ⟨le_new hF, Nat.le_refl _, fun n c _ e => ⟨c, e⟩, fun a u e _ _ => by rw [upd_ne (ne_of_none e hp)]; exact e, fun a e => ?_, fun a e ne _ => ?_, r.len, fun n a hn e => ?_⟩
  · by_cases ha : a = p
    · subst ha; exact hp
    · rw [upd_ne ha] at e; exact e
  · have ha : a ≠ p := fun z => ne (z ▸ hp)
    show upd W.F p o a = none
    rw [upd_ne ha]; exact e
  · have e : W.m[n]? = some a := e
    have := (List.getElem?_eq_some_iff.mp e).1
    rw [r.len] at this
    omega
theorem SlotR.mono {x : PV} {v : V} {H0 : Hp} (l : W.Le W') (hm : W'.m = W.m) (hH : ∀ a u, H a = some u → H' a = some u) (hF : ∀ a, W.F a = none → H a ≠ none → W'.F a = none) (r : SlotR B W H H0 x v) : SlotR B W' H' H0 x v := by
  cases x with
  | own xs =>
    obtain ⟨a, vs, e, h, r, f, nm, h0⟩ := r
    exact ⟨a, vs, e, hH _ _ h, r.mono l, hF a f (by rw [h]; exact fun z => nomatch z), by rw [hm]; exact nm, h0⟩
  | don ks => exact DonR.mono l r
  | _ => exact Rep.mono l r
theorem rel_new (r : Rel B N W s σ H) (hp : H p = none) (ho : SzO o) : Rel B N ⟨upd W.F p o, W.m⟩ s σ (upd H p o) :=
  ⟨hrel_new r.hr hp ho, r.st.trans N.len (step_new r.hr hp), r.len, fun i x e => by
    obtain ⟨v, e', sl⟩ := r.env i x e
    refine ⟨v, e', sl.mono (le_new (r.hr.fnone hp)) rfl (fun a u q => by rw [upd_ne (ne_of_none q hp)]; exact q) fun a q ne => ?_⟩
    show upd W.F p o a = none
    have ha : a ≠ p := fun z => ne (by rw [z]; exact hp)
    rw [upd_ne ha]; exact q, r.dis, r.pin.trans (le_new (r.hr.fnone hp))⟩
theorem Grow.rel (g : Grow W H W' H') (r : Rel B N W s σ H) : Rel B N W' s σ H' := by
  cases g with
  | refl => exact r
  | new hp ho => exact rel_new r hp ho
theorem Grow.step (g : Grow W H W' H') (r : HRel B W h H) : Step W h H W' h H' := by
  cases g with
  | refl => exact Step.refl r
  | new hp _ => exact step_new r hp
theorem Grow.stepE (g : Grow W H W' H') (r : HRel B W s.h H) : StepE W s H W' s H' := ⟨g.step r, fun _ _ e _ => e⟩
theorem rep_tup_new {xs : List PV} {vs : List V} (hF : W.F p = none) (r : Reps B W xs vs) : Rep B ⟨upd W.F p (.tup vs), W.m⟩ (.tup xs) (.ref p) := .tup (.inl upd_same) (r.mono (le_new hF))
theorem rep_lst_new {xs : List PV} {vs : List V} (hF : W.F p = none) (r : Reps B W xs vs) : Rep B ⟨upd W.F p (.lst vs), W.m⟩ (.lst xs) (.ref p) := .lst upd_same (r.mono (le_new hF))
end
/-- an operation that a rule of the layer bears -/
def OpSem (X : Cx) (B : Bs) (f : AH → PV → PV → Option PV) (r : R2) : Prop := ∀ (W : Wd) (h : AH) (H : Hp) (x y z : PV) (x' y' : V) (Q : VK), HRel B W h H → RepT B W H x x' → RepT B W H y y' → f h x y = some z →
  (∀ W' H' z', Grow W H W' H' → RepT B W' H' z z' → Q z' H') → r x' y' H Q
theorem OpSem.or {X : Cx} {B : Bs} {f g : AH → PV → PV → Option PV} {r r' : R2} (a : OpSem X B f r) (b : OpSem X B g r') : OpSem X B (fun h x y => (f h x y).or (g h x y)) (fun x y H Q => r x y H Q ∨ r' x y H Q) := by
  intro W h H x y z x' y' Q hr rx ry e q
  have e : (f h x y).or (g h x y) = some z := e
  cases ef : f h x y with
  | some z' =>
    rw [ef] at e
    cases e
    exact .inl (a W h H x y z x' y' Q hr rx ry ef q)
  | none =>
    rw [ef] at e
    exact .inr (b W h H x y z x' y' Q hr rx ry e q)
section
variable {X : Cx} {B : Bs} {N : Ent} {WX : WX} {a b : Expr} {ma mb : ME} {pos : Pos}
theorem op_fin {f : AH → PV → PV → Option PV} {r : R2} (hf : OpSem X B f r) {W2 : Wd} {s2 : S} {σ : L2.St} {H2 : Hp} {x y : PV} {x' y' : V} {Q : VK} (r2 : Rel B N W2 s2 σ H2) (rx : RepT B W2 H2 x x') (ry : RepT B W2 H2 y y')
    (q : Post B N WX W2 s2 H2 σ (match f s2.h x y with | some z => R.ok z s2 | none => .bad) fun u W' _ H' => ∀ u', RepT B W' H' u u' → Q u' H') : r x' y' H2 Q := by
  split at q
  · rename_i z e
    exact hf W2 s2.h H2 x y z x' y' Q r2.hr rx ry e fun W' H' z' g rz => q W' H' (g.rel r2) (g.stepE r2.hr) z' rz
  · exact q.elim
theorem sim_op {op : Operator} {r : R2} {f : AH → PV → PV → Option PV} (ho : OpR X (binaryOp op) r) (hf : OpSem X B f r) (ha : SimE X B N WX a ma) (hb : SimE X B N WX b mb) : SimE X B N WX (.BinOp a op b pos) (eBin f ma mb) :=
  (pe_op ho ha hb).imp fun σ H Q h => two h fun W2 s2 H2 x y x' y' r2 rx ry q => op_fin hf r2 rx ry q
theorem sim_cmpO {op : CmpOp} {r : R2} {f : AH → PV → PV → Option PV} (ho : OpR X (compareOp op) r) (hf : OpSem X B f r) (ha : SimE X B N WX a ma) (hb : SimE X B N WX b mb) (hm : behindInMarks op b = false) : SimE X B N WX (.Compare a [op] [b] pos) (eBin f ma mb) :=
  (pe_cmpR ho ha hb hm).imp fun σ H Q h => two h fun W2 s2 H2 x y x' y' r2 rx ry q => op_fin hf r2 rx ry q
theorem op_finT {f : AH → PV → PV → Option PV} {r : R2} (hf : OpSem X B f r) {W2 : Wd} {s2 : S} {σ : L2.St} {H2 : Hp} {x y : PV} {x' y' : V} {Q : VK} (r2 : Rel B N W2 s2 σ H2) (rx : RepT B W2 H2 x x') (ry : RepT B W2 H2 y y')
    (q : Post B N WX W2 s2 H2 σ (match f s2.h x y with | some z => R.ok z s2 | none => .bad) fun u W' _ H' => ∀ u', RepT B W' H' u u' → Q u' H') : r x' y' H2 Q := op_fin hf r2 rx ry q
theorem sim_tcmpO {op : CmpOp} {r : R2} {f : AH → PV → PV → Option PV} (ho : OpR X (compareOp op) r) (hf : OpSem X B f r) (ha : SimE X B N WX a ma) (hb : SimE X B N WX b mb) (hm : behindInMarks op b = false) : SimT X B N WX (.Compare a [op] [b] pos) (bM (eBin f ma mb)) :=
  (pt_cmpR ho ha hb hm).imp fun σ H Q h => two (tB_of h) fun W2 s2 H2 x y x' y' r2 rx ry q => op_fin hf r2 rx ry q
end

/-! ### arithmetic -/
def fI (g : Int → Int → Option Int) : AH → PV → PV → Option PV := fun _ x y => match x, y with
  | .int i, .int j => (g i j).map .int
  | _, _ => none
def fIB (g : Int → Int → Bool) : AH → PV → PV → Option PV := fun _ x y => match x, y with
  | .int i, .int j => some (.bl (g i j))
  | _, _ => none
section
variable {X : Cx} {B : Bs} {W : Wd} {H : Hp}
theorem rep_int {i : Int} {v : V} (r : RepT B W H (.int i) v) : v = .int i := by cases (show Rep B W (.int i) v from r); rfl
theorem rep_bl {b : Bool} {v : V} (r : RepT B W H (.bl b) v) : v = .bl b := by cases (show Rep B W (.bl b) v from r); rfl
theorem rep_non {v : V} (r : RepT B W H .non v) : v = .non := by cases (show Rep B W .non v from r); rfl
theorem rep_str {x : Str} {v : V} (r : RepT B W H (.str x) v) : v = .str x ∧ SOk x := by
  cases (show Rep B W (.str x) v from r) with
  | str _ h => exact ⟨rfl, h⟩
theorem sem_I {g : Int → Int → Option Int} {C : Int → Int → Prop} {f : Int → Int → Int} (hg : ∀ i j k, g i j = some k → C i j ∧ f i j = k) : OpSem X B (fI g) (rI C fun i j => .int (f i j)) := by
  intro W h H x y z x' y' Q hr rx ry e q
  unfold fI at e
  split at e
  · rename_i i j
    cases eg : g i j with
    | none => rw [eg] at e; cases e
    | some k =>
      rw [eg] at e
      cases e
      obtain ⟨c, ek⟩ := hg i j k eg
      exact ⟨i, j, rep_int rx, rep_int ry, c, q W H _ (.refl W H) (by show RepT B W H (.int k) (.int (f i j)); rw [ek]; exact (Rep.int k).hand)⟩
  · cases e
theorem sem_I0 {f : Int → Int → Int} : OpSem X B (fI fun i j => some (f i j)) (rI0 fun i j => .int (f i j)) := by
  intro W h H x y z x' y' Q hr rx ry e q
  unfold fI at e
  split at e
  · rename_i i j
    cases e
    exact ⟨i, j, rep_int rx, rep_int ry, q W H _ (.refl W H) (Rep.int _).hand⟩
  · cases e
theorem sem_IB {g : Int → Int → Bool} : OpSem X B (fIB g) (rI0 fun i j => .bl (g i j)) := by
  intro W h H x y z x' y' Q hr rx ry e q
  unfold fIB at e
  split at e
  · rename_i i j
    cases e
    exact ⟨i, j, rep_int rx, rep_int ry, q W H _ (.refl W H) (Rep.bl _).hand⟩
  · cases e
end
/-- a product with one factor below 2^64 -/
def mulG (i j : Int) : Option Int := if (i.natAbs < 18446744073709551616) ∨ (j.natAbs < 18446744073709551616) then some (i * j) else none
def fdivG (i j : Int) : Option Int := if j ≠ 0 ∧ j.natAbs < 1073741824 then some (i.fdiv j) else none
def modG (i j : Int) : Option Int := if j ≠ 0 then some (i.fmod j) else none
def powG (i j : Int) : Option Int := if 0 ≤ j ∧ j ≤ 1000 ∧ i.natAbs < 18446744073709551616 then some (i ^ j.toNat) else none
theorem mulG_ok : ∀ i j k, mulG i j = some k → CMul i j ∧ i * j = k := fun i j k e => by
  unfold mulG at e
  split at e
  · rename_i h
    refine ⟨?_, Option.some.inj e⟩
    unfold CMul
    rcases h with h | h
    · exact .inl (by omega)
    · exact .inr (by omega)
  · cases e
theorem fdivG_ok : ∀ i j k, fdivG i j = some k → CDivN i j ∧ i.fdiv j = k := fun i j k e => by
  unfold fdivG at e
  split at e
  · rename_i h
    exact ⟨h, Option.some.inj e⟩
  · cases e
theorem modG_ok : ∀ i j k, modG i j = some k → j ≠ 0 ∧ i.fmod j = k := fun i j k e => by
  unfold modG at e
  split at e
  · rename_i h
    exact ⟨h, Option.some.inj e⟩
  · cases e
theorem powG_ok : ∀ i j k, powG i j = some k → CPow i j ∧ i ^ j.toNat = k := fun i j k e => by
  unfold powG at e
  split at e
  · rename_i h
    exact ⟨⟨h.1, by omega, by have := h.2.2; omega⟩, Option.some.inj e⟩
  · cases e

/-! ### texts, lists, tuples joined -/
def strOkL (x : Str) : Bool := decide (x.length ≤ sizeLine)
def fAddS : AH → PV → PV → Option PV := fun _ x y => match x, y with
  | .str i, .str j => if i.length + j.length ≤ sizeLine then some (.str (i ++ j)) else none
  | _, _ => none
/-- a list that stands by itself -/
def asM (h : AH) : PV → Option (List PV)
  | .lst xs => some xs
  | .own xs => some xs
  | .cel n => match h[n]? with
    | some (some (.lst xs)) => some xs
    | _ => none
  | _ => none
def fAddL : AH → PV → PV → Option PV := fun h x y => match asM h x, asM h y with
  | some xs, some ys => if xs.length + ys.length ≤ sizeLine then some (.lst (xs ++ ys)) else none
  | _, _ => none
def fAddT : AH → PV → PV → Option PV := fun _ x y => match x, y with
  | .tup xs, .tup ys => if xs.length + ys.length ≤ sizeLine then some (.tup (xs ++ ys)) else none
  | _, _ => none
def fRepL : AH → PV → PV → Option PV := fun h x y => match asM h x, y with
  | some xs, .int k => if k.natAbs < 1000000 ∧ xs.length * k.toNat ≤ sizeLine then some (.lst (List.replicate k.toNat xs).flatten) else none
  | _, _ => none
section
variable {X : Cx} {B : Bs} {W : Wd} {h : AH} {H : Hp}
theorem asM_ok (hr : HRel B W h H) {x : PV} {x' : V} {xs : List PV} (rx : RepT B W H x x') (e : asM h x = some xs) : ∃ a vs, x' = .ref a ∧ H a = some (.lst vs) ∧ Reps B W xs vs := by
  cases x with
  | lst ys =>
    cases e
    cases (show Rep B W (.lst _) x' from rx) with
    | lst h r => exact ⟨_, _, rfl, hr.agree _ _ h, r⟩
  | own ys =>
    cases e
    obtain ⟨a, vs, rfl, h, r, _⟩ := rx
    exact ⟨a, vs, rfl, h, r⟩
  | cel n =>
    cases (show Rep B W (.cel n) x' from rx) with
    | cel h1 =>
      unfold asM at e
      dsimp only at e
      split at e
      · rename_i ys q
        cases e
        obtain ⟨_, vs, h2, r⟩ := hr.cell n _ _ q h1
        exact ⟨_, vs, rfl, h2, r⟩
      · cases e
  | _ => cases e
theorem sok_append {i j : Str} (a : SOk i) (b : SOk j) (h : i.length + j.length ≤ sizeLine) : SOk (i ++ j) := by
  have e : (i ++ j).cps = i.cps ++ j.cps := rfl
  refine ⟨?_, ?_⟩
  · show (i ++ j).cps.all (· < 0x110000) = true
    rw [e, Array.all_append]
    rw [show i.cps.all (· < 0x110000) = true from a.1, show j.cps.all (· < 0x110000) = true from b.1]
    rfl
  · show (i ++ j).cps.size ≤ sizeLine
    rw [e, Array.size_append]
    exact h
theorem sem_addS : OpSem X B fAddS (fun x y H Q => ∃ i j, x = .str i ∧ y = .str j ∧ i.length + j.length ≤ sizeLine ∧ Q (.str (i ++ j)) H) := by
  intro W h H x y z x' y' Q hr rx ry e q
  unfold fAddS at e
  split at e
  · rename_i i j
    split at e
    · rename_i hz
      cases e
      obtain ⟨e1, k1⟩ := rep_str rx
      obtain ⟨e2, k2⟩ := rep_str ry
      exact ⟨i, j, e1, e2, hz, q W H _ (.refl W H) (Rep.str _ (sok_append k1 k2 hz)).hand⟩
    · cases e
  · cases e
theorem sem_addL : OpSem X B fAddL rCat := by
  intro W h H x y z x' y' Q hr rx ry e q
  unfold fAddL at e
  split at e
  · rename_i xs ys ex ey
    split at e
    · rename_i hz
      cases e
      obtain ⟨a, vs, rfl, ha, ra⟩ := asM_ok hr rx ex
      obtain ⟨b, ws, rfl, hb, rb⟩ := asM_ok hr ry ey
      refine ⟨a, b, vs, ws, rfl, rfl, ha, hb, by rw [← ra.length, ← rb.length]; exact hz, fun p hp => q _ _ _ (.new hp (by show (vs ++ ws).length ≤ sizeLine; rw [List.length_append, ← ra.length, ← rb.length]; exact hz)) ?_⟩
      exact (rep_lst_new (hr.fnone hp) (ra.append rb)).hand
    · cases e
  · cases e
theorem sem_addT (hK : X.K = B.K) : OpSem X B fAddT (rCatA X.K) := by
  intro W h H x y z x' y' Q hr rx ry e q
  unfold fAddT at e
  split at e
  · rename_i xs ys
    split at e
    · rename_i hz
      cases e
      obtain ⟨a, vs, rfl, ha, ra⟩ := tup_ok hK hr (show Rep B W (.tup xs) x' from rx)
      obtain ⟨b, ws, rfl, hb, rb⟩ := tup_ok hK hr (show Rep B W (.tup ys) y' from ry)
      refine ⟨a, b, vs, ws, rfl, rfl, ha, hb, by rw [← ra.length, ← rb.length]; exact hz, fun z => ?_, fun _ z => ?_, fun _ _ p hp => q _ _ _ (.new hp (by show (vs ++ ws).length ≤ sizeLine; rw [List.length_append, ← ra.length, ← rb.length]; exact hz)) ?_⟩
      · subst z
        have e0 : xs = [] := List.length_eq_zero_iff.mp ra.length
        subst e0
        exact q W H _ (.refl W H) ry
      · subst z
        have e0 : ys = [] := List.length_eq_zero_iff.mp rb.length
        subst e0
        rw [List.append_nil] at q
        exact q W H _ (.refl W H) rx
      · exact (rep_tup_new (hr.fnone hp) (ra.append rb)).hand
    · cases e
  · cases e
theorem flat_len {α : Type} (xs : List α) (k : Nat) : (List.replicate k xs).flatten.length = xs.length * k := by
  rw [List.length_flatten, List.map_replicate, List.sum_replicate_nat, Nat.mul_comm]
theorem sem_repL : OpSem X B fRepL rRep := by
  intro W h H x y z x' y' Q hr rx ry e q
  unfold fRepL at e
  split at e
  · rename_i xs k ex
    split at e
    · rename_i hz
      cases e
      obtain ⟨a, vs, rfl, ha, ra⟩ := asM_ok hr rx ex
      refine ⟨a, k, vs, rfl, rep_int ry, ha, by omega, by omega, by rw [← ra.length]; exact hz.2, fun p hp => q _ _ _ (.new hp (by show (List.replicate k.toNat vs).flatten.length ≤ sizeLine; rw [flat_len, ← ra.length]; exact hz.2)) ?_⟩
      exact (rep_lst_new (hr.fnone hp) (ra.rep _)).hand
    · cases e
  · cases e
end

/-! ### == and != of data -/
mutual
def toD : PV → Option PyData
  | .non => some .none
  | .bl b => some (.bool b)
  | .int i => some (.int i)
  | .str x => some (.str x)
  | .tup xs => (toDs xs).map .tuple
  | .lst xs => (toDs xs).map .list
  | _ => none
def toDs : List PV → Option (List PyData)
  | [] => some []
  | x :: xs => match toD x, toDs xs with
    | some d, some ds => some (d :: ds)
    | _, _ => none
end
def toDh (h : AH) (x : PV) : Option PyData := match x with
  | .own xs => (toDs xs).map .list
  | .cel n => match h[n]? with
    | some (some (.lst xs)) => (toDs xs).map .list
    | _ => none
  | x => toD x
/-- data that are not nested too deep -/
def dOk (d : PyData) : Bool := decide (d.depth ≤ 64)
def fEq : AH → PV → PV → Option PV := fun h x y => match toDh h x, toDh h y with
  | some d, some e => if dOk d && dOk e then some (.bl (PyData.eqv d e)) else none
  | _, _ => none
def fNe : AH → PV → PV → Option PV := fun h x y => match toDh h x, toDh h y with
  | some d, some e => if dOk d && dOk e then some (.bl (!PyData.eqv d e)) else none
  | _, _ => none
section
variable {X : Cx} {B : Bs} {W : Wd} {h : AH} {H : Hp}
mutual
theorem toD_dp (hK : X.K = B.K) (hr : HRel B W h H) : ∀ {x : PV} {v : V} {d : PyData}, Rep B W x v → toD x = some d → Dp X.K H v d ∧ d.canLay0 = true
  | _, _, _, .non, e => by cases e; exact ⟨.non, rfl⟩
  | _, _, _, .bl b, e => by cases e; exact ⟨.bl b, rfl⟩
  | _, _, _, .int i, e => by cases e; exact ⟨.int i, rfl⟩
  | _, _, _, .str x k, e => by cases e; exact ⟨.str x, by simpa [PyData.canLay0] using k.1⟩
  | _, _, _, .ty n, e => by simp [toD] at e
  | _, _, _, .cls c, e => by simp [toD] at e
  | _, _, _, .cel h, e => by simp [toD] at e
  | _, _, _, .ins h1 h2 h3, e => by simp [toD] at e
  | .tup xs, _, _, .tup h1 r, e => by
    rw [toD] at e
    cases q : toDs xs with
    | none => rw [q] at e; cases e
    | some ds =>
      rw [q] at e
      cases e
      obtain ⟨h2, h3⟩ := toDs_dp hK hr r q
      refine ⟨.tup ?_ h2, by simpa [PyData.canLay0] using h3⟩
      rcases h1 with h1 | ⟨o, its, n, k1, k2, k3, k4, k5⟩
      · exact .inl (.inl (hr.agree _ _ h1))
      · exact .inr ⟨o, its, n, hK ▸ k1, k2, k3, k4, k5⟩
  | .lst xs, _, _, .lst h1 r, e => by
    rw [toD] at e
    cases q : toDs xs with
    | none => rw [q] at e; cases e
    | some ds =>
      rw [q] at e
      cases e
      obtain ⟨h2, h3⟩ := toDs_dp hK hr r q
      exact ⟨.lst (.inl (.inl (hr.agree _ _ h1))) h2, by simpa [PyData.canLay0] using h3⟩
  | .scr xs, _, _, .scr h1 r, e => by simp [toD] at e
theorem toDs_dp (hK : X.K = B.K) (hr : HRel B W h H) : ∀ {xs : List PV} {vs : List V} {ds : List PyData}, Reps B W xs vs → toDs xs = some ds → DpAll X.K H vs ds ∧ PyData.canLayAll0 ds = true
  | _, _, _, .nil, e => by cases e; exact ⟨.nil, rfl⟩
  | x :: xs, _, _, .cons r t, e => by
    rw [toDs] at e
    cases q1 : toD x with
    | none => rw [q1] at e; cases e
    | some d =>
      cases q2 : toDs xs with
      | none => rw [q1, q2] at e; cases e
      | some ds =>
        rw [q1, q2] at e
        cases e
        obtain ⟨a1, a2⟩ := toD_dp hK hr r q1
        obtain ⟨b1, b2⟩ := toDs_dp hK hr t q2
        exact ⟨.cons a1 b1, by simp [PyData.canLayAll0, a2, b2]⟩
end
theorem toDh_dp (hK : X.K = B.K) (hr : HRel B W h H) {x : PV} {v : V} {d : PyData} (r : RepT B W H x v) (e : toDh h x = some d) : Dp X.K H v d ∧ d.canLay0 = true := by
  have fin : ∀ (xs : List PV) (a : Addr) (vs : List V), v = .ref a → H a = some (.lst vs) → Reps B W xs vs → (toDs xs).map PyData.list = some d → Dp X.K H v d ∧ d.canLay0 = true := fun xs a vs ev ha ra e => by
    cases q : toDs xs with
    | none => rw [q] at e; cases e
    | some ds =>
      rw [q] at e
      cases e
      obtain ⟨h2, h3⟩ := toDs_dp hK hr ra q
      rw [ev]
      exact ⟨.lst (.inl (.inl ha)) h2, by simpa [PyData.canLay0] using h3⟩
  cases x with
  | own xs =>
    obtain ⟨a, vs, ev, ha, ra, _⟩ := r
    exact fin xs a vs ev ha ra e
  | cel n =>
    unfold toDh at e
    dsimp only at e
    split at e
    · rename_i xs q
      obtain ⟨a, vs, ev, ha, ra⟩ := asM_ok (x := .cel n) (xs := xs) hr r (by unfold asM; dsimp only; rw [q])
      exact fin xs a vs ev ha ra e
    · cases e
  | don ks => simp [toDh, toD] at e
  | _ => exact toD_dp hK hr r e
theorem shaped_of {d : PyData} (a : d.canLay0 = true) (b : dOk d = true) : SeqAt.shaped d = true := by
  unfold SeqAt.shaped
  rw [a]
  exact b
theorem sem_eq (hK : X.K = B.K) : OpSem X B fEq (rEqD X.K) := by
  intro W h H x y z x' y' Q hr rx ry e q
  unfold fEq at e
  split at e
  · rename_i d f ed ef
    split at e
    · rename_i hz
      cases e
      obtain ⟨z1, z2⟩ := Bool.and_eq_true_iff.mp hz
      obtain ⟨a1, a2⟩ := toDh_dp hK hr rx ed
      obtain ⟨b1, b2⟩ := toDh_dp hK hr ry ef
      exact ⟨d, f, a1, b1, shaped_of a2 z1, shaped_of b2 z2, q W H _ (.refl W H) (Rep.bl _).hand⟩
    · cases e
  · cases e
theorem sem_ne (hK : X.K = B.K) : OpSem X B fNe (rNeD X.K) := by
  intro W h H x y z x' y' Q hr rx ry e q
  unfold fNe at e
  split at e
  · rename_i d f ed ef
    split at e
    · rename_i hz
      cases e
      obtain ⟨z1, z2⟩ := Bool.and_eq_true_iff.mp hz
      obtain ⟨a1, a2⟩ := toDh_dp hK hr rx ed
      obtain ⟨b1, b2⟩ := toDh_dp hK hr ry ef
      exact ⟨d, f, a1, b1, shaped_of a2 z1, shaped_of b2 z2, q W H _ (.refl W H) (Rep.bl _).hand⟩
    · cases e
  · cases e
end
/-! is None -/
def isNon : PV → Bool
  | .non => true
  | _ => false
def fIsN : AH → PV → PV → Option PV := fun _ x y => match y with
  | .non => some (.bl (isNon x))
  | _ => none
def fNotN : AH → PV → PV → Option PV := fun _ x y => match y with
  | .non => some (.bl (!isNon x))
  | _ => none
section
variable {X : Cx} {B : Bs} {W : Wd} {h : AH} {H : Hp}
theorem rep_isnon {x : PV} {v : V} (r : RepT B W H x v) : decide (v = .non) = isNon x := by
  cases x with
  | own xs => obtain ⟨a, vs, rfl, _⟩ := r; rfl
  | don ks => obtain ⟨a, vs, o, rfl, _⟩ := r; rfl
  | _ => cases r <;> rfl
theorem sem_isN : OpSem X B fIsN (fun x y H Q => y = .non ∧ Q (.bl (decide (x = .non))) H) := by
  intro W h H x y z x' y' Q hr rx ry e q
  unfold fIsN at e
  split at e
  · cases e
    refine ⟨rep_non ry, ?_⟩
    rw [rep_isnon rx]
    exact q W H _ (.refl W H) (Rep.bl _).hand
  · cases e
theorem sem_notN : OpSem X B fNotN (fun x y H Q => y = .non ∧ Q (.bl (!decide (x = .non))) H) := by
  intro W h H x y z x' y' Q hr rx ry e q
  unfold fNotN at e
  split at e
  · cases e
    refine ⟨rep_non ry, ?_⟩
    rw [rep_isnon rx]
    exact q W H _ (.refl W H) (Rep.bl _).hand
  · cases e
end
end Lp

set_option Elab.async false
set_option linter.all false
set_option maxRecDepth 100000
set_option maxHeartbeats 4000000
/-! Lp3: arguments, displays, subscripts, chains, in, calls of built-ins. -/
namespace Lp
open PySem PySem.Spec PyProof.Rows L2

abbrev MA := S → R S (List PV)
def aNil : MA := fun s => .ok [] s
def aCons (m : ME) (r : MA) : MA := fun s => (m s).bind fun v s1 => (r s1).bind fun vs s2 => .ok (v :: vs) s2
def sOk : PV → Option (List PV)
  | .tup xs => some xs
  | _ => none
/-- what a star or a walk takes from -/
def asS (h : AH) (x : PV) : Option (List PV) := match x with
  | .tup xs => some xs
  | x => asL h x
def aStar (m : ME) (r : MA) : MA := fun s => (m s).bind fun v s1 => match asS s1.h v with
  | some xs => (r s1).bind fun vs s2 => .ok (xs ++ vs) s2
  | none => .bad
section
variable {X : Cx} {B : Bs} {N : Ent} {WX : WX} {W : Wd} {h : AH} {H : Hp} {e : Expr} {es : List Expr} {m : ME} {ma : MA}
theorem RepTs.append : ∀ {xs ys : List PV} {vs ws : List V}, RepTs B W H xs vs → RepTs B W H ys ws → RepTs B W H (xs ++ ys) (vs ++ ws)
  | [], _, [], _, _, s => s
  | _ :: _, _, _ :: _, _, ⟨r, t⟩, s => ⟨r, RepTs.append t s⟩
  | [], _, _ :: _, _, h, _ => h.elim
  | _ :: _, _, [], _, h, _ => h.elim
theorem Reps.hand : ∀ {xs : List PV} {vs : List V}, Reps B W xs vs → RepTs B W H xs vs
  | _, _, .nil => trivial
  | _, _, .cons r t => ⟨r.hand, Reps.hand t⟩
theorem RepTs.length : ∀ {xs : List PV} {vs : List V}, RepTs B W H xs vs → xs.length = vs.length
  | [], [], _ => rfl
  | _ :: _, _ :: _, ⟨_, t⟩ => congrArg Nat.succ (RepTs.length t)
  | [], _ :: _, h => h.elim
  | _ :: _, [], h => h.elim
/-- none of them is a list of a slot's own -/
def allSh (xs : List PV) : Bool := xs.all fun x => !isOwn x
theorem RepTs.reps : ∀ {xs : List PV} {vs : List V}, RepTs B W H xs vs → allSh xs = true → Reps B W xs vs
  | [], [], _, _ => .nil
  | x :: xs, _ :: _, ⟨r, t⟩, o => by
    unfold allSh at o
    rw [List.all_cons] at o
    obtain ⟨o1, o2⟩ := Bool.and_eq_true_iff.mp o
    exact .cons (r.rep (by simpa using o1)) (RepTs.reps t o2)
  | [], _ :: _, h, _ => h.elim
  | _ :: _, [], h, _ => h.elim
theorem simA_nil : SimA X B N WX [] aNil := pa_nil.imp fun σ H Q ⟨W, s, r, h⟩ => h.ok r [] trivial
theorem simA_cons (he : SimE X B N WX e m) (hr : SimA X B N WX es ma) (hs : starEach (e :: es) X.env = (false, eval e X.env) :: starEach es X.env) : SimA X B N WX (e :: es) (aCons m ma) :=
  (pa_cons he hr hs).imp fun σ H Q ⟨W, s, r, h⟩ => ⟨W, s, r, (h.bind r.slen).mono fun v W1 s1 H1 r1 _ q v' rv => ⟨W1, s1, r1, (q.bind r1.slen).mono fun vs W2 s2 H2 r2 st2 q vs' rvs =>
    q.ok r2 (v' :: vs') ⟨rv.on r1.slen st2.st, rvs⟩⟩⟩
theorem asS_ok (hK : X.K = B.K) (hr : HRel B W h H) {x : PV} {x' : V} {xs : List PV} (rx : RepT B W H x x') (e : asS h x = some xs) : ∃ a vs, x' = .ref a ∧ (SqT X.K H a vs ∨ SqL X.K H a vs) ∧ Reps B W xs vs := by
  have fin : asL h x = some xs → ∃ a vs, x' = .ref a ∧ (SqT X.K H a vs ∨ SqL X.K H a vs) ∧ Reps B W xs vs := fun e => by
    obtain ⟨a, vs, e1, h1, r1⟩ := asL_ok hr rx e
    exact ⟨a, vs, e1, .inr (rd_sql hK h1), r1⟩
  cases x with
  | tup ys =>
    cases e
    obtain ⟨a, vs, e1, h1, r1⟩ := tup_ok hK hr (show Rep B W (.tup _) x' from rx)
    exact ⟨a, vs, e1, .inl h1, r1⟩
  | _ => exact fin e
theorem simA_star {p : Pos} (hK : X.K = B.K) (he : SimE X B N WX e m) (hr : SimA X B N WX es ma) (hs : starEach (.Starred e p :: es) X.env = (true, eval e X.env) :: starEach es X.env) : SimA X B N WX (.Starred e p :: es) (aStar m ma) :=
  (StX.pa_star he hr hs).imp fun σ H Q ⟨W, s, r, h⟩ => ⟨W, s, r, (h.bind r.slen).mono fun v W1 s1 H1 r1 _ q v' rv => by
    split at q
    · rename_i xs ex
      obtain ⟨a, vs, rfl, h1, r2⟩ := asS_ok hK r1.hr rv ex
      exact ⟨a, vs, rfl, h1, W1, s1, r1, (q.bind r1.slen).mono fun us W2 s2 H2 r3 st2 q us' rus => q.ok r3 (vs ++ us') ((r2.mono st2.st.le).hand.append rus)⟩
    · exact q.elim⟩

/-! ### displays -/
def eTup (ma : MA) : ME := fun s => (ma s).bind fun vs s1 => if allSh vs && decide (vs.length ≤ 16777216) then .ok (.tup vs) s1 else .bad
def eLst (ma : MA) : ME := fun s => (ma s).bind fun vs s1 => if allSh vs && decide (vs.length ≤ 16777216) then .ok (.lst vs) s1 else .bad
theorem sim_tup {x1 pos} (ha : SimA X B N WX es ma) : SimE X B N WX (.Tuple es x1 pos) (eTup ma) :=
  (pe_tup ha).imp fun σ H Q ⟨W, s, r, h⟩ => ⟨W, s, r, (h.bind r.slen).mono fun vs W1 s1 H1 r1 _ q vs' rvs => by
    split at q
    · rename_i c
      obtain ⟨c1, c2⟩ := Bool.and_eq_true_iff.mp c
      have rr := rvs.reps c1
      refine ⟨by rw [← rr.length, sizeLine_eq]; exact of_decide_eq_true c2, fun p hp => ?_⟩
      have hsz : vs'.length ≤ sizeLine := by rw [← rr.length, sizeLine_eq]; exact of_decide_eq_true c2
      exact q _ _ (rel_new (o := .tup vs') r1 hp hsz) ⟨step_new r1.hr hp, fun _ _ e _ => e⟩ _ (rep_tup_new (r1.hr.fnone hp) rr).hand
    · exact q.elim⟩
theorem sim_lst {pos} (ha : SimA X B N WX es ma) : SimE X B N WX (.List es pos) (eLst ma) :=
  (pe_lst ha).imp fun σ H Q ⟨W, s, r, h⟩ => ⟨W, s, r, (h.bind r.slen).mono fun vs W1 s1 H1 r1 _ q vs' rvs => by
    split at q
    · rename_i c
      obtain ⟨c1, c2⟩ := Bool.and_eq_true_iff.mp c
      have rr := rvs.reps c1
      refine ⟨by rw [← rr.length, sizeLine_eq]; exact of_decide_eq_true c2, fun p hp => ?_⟩
      have hsz : vs'.length ≤ sizeLine := by rw [← rr.length, sizeLine_eq]; exact of_decide_eq_true c2
      exact q _ _ (rel_new (o := .lst vs') r1 hp hsz) ⟨step_new r1.hr hp, fun _ _ e _ => e⟩ _ (rep_lst_new (r1.hr.fnone hp) rr).hand
    · exact q.elim⟩
end

/-! ### subscripts -/
def fIx : AH → PV → PV → Option PV := fun h x y => match x, y with
  | .str z, .int i => (atI z.cps.toList i).map fun c => .str ⟨#[c]⟩
  | x, .int i => match asS h x with
    | some xs => atI xs i
    | none => none
  | _, _ => none
section
variable {X : Cx} {B : Bs} {N : Ent} {WX : WX} {W : Wd} {h : AH} {H : Hp} {a b c : Expr} {ma mb mc : ME} {pos : Pos}
theorem atI_rep {xs : List PV} {vs : List V} {i : Int} {x : PV} (r : Reps B W xs vs) (e : atI xs i = some x) : ∃ v, atI vs i = some v ∧ Rep B W x v := by
  unfold atI at e ⊢
  rw [← r.length]
  cases q : ixN xs.length i with
  | none => rw [q] at e; cases e
  | some j =>
    rw [q] at e
    obtain ⟨v, e1, r1⟩ := r.get (show xs[j]? = some x from e)
    exact ⟨v, e1, r1⟩
theorem sok_sub {z w : Str} (k : SOk z) (hl : w.length ≤ z.length) (hm : ∀ c ∈ w.cps.toList, c ∈ z.cps.toList) : SOk w := by
  refine ⟨?_, Nat.le_trans hl k.2⟩
  have k1 : z.cps.all (· < 0x110000) = true := k.1
  show w.cps.all (· < 0x110000) = true
  rw [← Array.all_toList, List.all_eq_true] at k1 ⊢
  exact fun c hc => k1 c (hm c hc)
theorem atI_mem {α : Type} {xs : List α} {i : Int} {x : α} (e : atI xs i = some x) : x ∈ xs := by
  unfold atI at e
  cases q : ixN xs.length i with
  | none => rw [q] at e; cases e
  | some j =>
    rw [q] at e
    exact List.mem_of_getElem? (show xs[j]? = some x from e)
theorem sem_ix (hK : X.K = B.K) : OpSem X B fIx (rIx X.K) := by
  intro W h H x y z x' y' Q hr rx ry e q
  have go : ∀ (i : Int) (xs : List PV), asS h x = some xs → y = .int i → atI xs i = some z → rIx X.K x' y' H Q := fun i xs ex ey ea => by
    obtain ⟨a, vs, rfl, h1, r1⟩ := asS_ok hK hr rx ex
    obtain ⟨v, e1, rv⟩ := atI_rep r1 ea
    subst ey
    rcases h1 with h1 | h1
    · exact .inr (.inl ⟨a, vs, i, v, rfl, rep_int ry, h1, e1, q W H v (.refl W H) rv.hand⟩)
    · exact .inl ⟨a, vs, i, v, rfl, rep_int ry, h1, e1, q W H v (.refl W H) rv.hand⟩
  unfold fIx at e
  split at e
  · rename_i z0 i
    cases ea : atI z0.cps.toList i with
    | none => rw [ea] at e; cases e
    | some c =>
      rw [ea] at e
      cases e
      obtain ⟨e1, k⟩ := rep_str rx
      refine .inr (.inr ⟨z0, i, c, e1, rep_int ry, k.2, ea, q W H _ (.refl W H) (Rep.str _ ?_).hand⟩)
      have hm := atI_mem ea
      refine sok_sub k ?_ fun d hd => by
        have : d = c := by simpa using hd
        rw [this]; exact hm
      show (#[c] : Array Nat).size ≤ z0.cps.size
      have := List.length_pos_of_mem hm
      simp only [Array.length_toList] at this
      show 1 ≤ z0.cps.size
      omega
  · rename_i i _
    split at e
    · rename_i xs ex
      exact go i xs ex rfl e
    · cases e
  · cases e
theorem sim_ix (hK : X.K = B.K) (ha : SimE X B N WX a ma) (hb : SimE X B N WX b mb) (hs : PlainIx b) : SimE X B N WX (.Subscript a b pos) (eBin fIx ma mb) :=
  (pe_ix ix_seq ha hb hs).imp fun σ H Q h => two h fun W2 s2 H2 x y x' y' r2 rx ry q => op_fin (sem_ix hK) r2 rx ry q
/-! slices -/
def cutP {α : Type} (xs : List α) (lo hi : Option Int) : List α := (xs.drop (HT.sIx xs.length 0 lo)).take (HT.sIx xs.length xs.length hi - HT.sIx xs.length 0 lo)
def cutStr (z : Str) (lo hi : Option Int) : Str := ⟨(cutP z.cps.toList lo hi).toArray⟩
def fSl (h : AH) (x : PV) (lo hi : Option Int) : Option PV := match x with
  | .str z => some (.str (cutStr z lo hi))
  | .tup xs => some (.tup (cutP xs lo hi))
  | x => (asL h x).map fun xs => .lst (cutP xs lo hi)
def oNone : S → R S (Option Int) := fun s => .ok none s
def oSome (m : ME) : S → R S (Option Int) := fun s => (m s).bind fun v s1 => match v with
  | .int i => .ok (some i) s1
  | _ => .bad
def eSl (m : ME) (lo hi : S → R S (Option Int)) : ME := fun s => (m s).bind fun v s1 => (lo s1).bind fun l s2 => (hi s2).bind fun u s3 => match fSl s3.h v l u with
  | some z => .ok z s3
  | none => .bad
def tO (B : Bs) (N : Ent) (WX : L2.WX) (m : S → R S (Option Int)) : TO := fun σ H Q => ∃ W s, Rel B N W s σ H ∧ Post B N WX W s H σ (m s) fun v _ _ H' => Q v H'
abbrev SimO (X : Cx) (B : Bs) (N : Ent) (WX : L2.WX) (e : Option Expr) (m : S → R S (Option Int)) : Prop := PO X e (tO B N WX m)
theorem PO_imp {e : Option Expr} {t t' : TO} (h : PO X e t) (w : ∀ σ H Q, t' σ H Q → t σ H Q) : PO X e t' := by
  constructor
  intro pins s σ H Q I q
  exact h.run pins s σ H Q I (w _ _ _ q)
theorem simO_none : SimO X B N WX none oNone := PO_imp po_none fun σ H Q ⟨W, s, r, h⟩ => h.ok r
theorem simO_some (ha : SimE X B N WX a ma) : SimO X B N WX (some a) (oSome ma) := PO_imp (po_some ha) fun σ H Q ⟨W, s, r, h⟩ => ⟨W, s, r, (h.bind r.slen).mono fun v W1 s1 H1 r1 _ q v' rv => by
  cases v with
  | int i => exact ⟨i, rep_int rv, q.ok r1⟩
  | _ => exact q.elim⟩
theorem tup_sz (hr : HRel B W h H) {x' : V} {xs : List PV} (rx : Rep B W (.tup xs) x') : xs.length ≤ sizeLine := by
  cases rx with
  | tup h r =>
    rw [r.length]
    rcases h with h | ⟨o, its, n, _, _, _, z, q⟩
    · exact hr.hz _ _ (hr.agree _ _ h) nt_tup
    · rw [q.length, Array.length_toList]; exact z
theorem asS_sz (hr : HRel B W h H) {x : PV} {x' : V} {xs : List PV} (rx : RepT B W H x x') (e : asS h x = some xs) : xs.length ≤ sizeLine := by
  cases x with
  | tup ys => cases e; exact tup_sz hr (show Rep B W (.tup _) x' from rx)
  | _ => exact asL_sz hr rx e
theorem cutP_reps {xs : List PV} {vs : List V} (r : Reps B W xs vs) (lo hi : Option Int) : Reps B W (cutP xs lo hi) (cutV vs lo hi) := by
  unfold cutP cutV
  rw [r.length]
  exact (r.drop _).take _
theorem cutP_all {α : Type} {xs : List α} {lo hi : Option Int} (h : HT.sIx xs.length 0 lo = 0 ∧ HT.sIx xs.length xs.length hi = xs.length) : cutP xs lo hi = xs := by
  unfold cutP
  rw [h.1, h.2]
  simp
theorem cutS_eq (z : Str) (lo hi : Option Int) : cutS z lo hi = cutStr z lo hi := by
  unfold cutS cutStr cutP
  first | rfl | simp
theorem sl_fin (hK : X.K = B.K) {x z : PV} {x' : V} {lo hi : Option Int} {Q : VK} (hr : HRel B W h H) (rx : RepT B W H x x') (e : fSl h x lo hi = some z) (q : ∀ W' H' z', Grow W H W' H' → RepT B W' H' z z' → Q z' H') :
    rSlL X.K x' lo hi H Q ∨ rSlA X.K x' lo hi H Q ∨ rSlS x' lo hi H Q := by
  have go : ∀ xs, asL h x = some xs → z = .lst (cutP xs lo hi) → rSlL X.K x' lo hi H Q := fun xs ex ez => by
    obtain ⟨a, vs, rfl, h1, r1⟩ := asL_ok hr rx ex
    subst ez
    exact ⟨a, vs, rfl, rd_sql hK h1, fun p hp => q _ _ _ (.new hp (Nat.le_trans (cutV_length _ _ _) (by rw [← r1.length]; exact asL_sz hr rx ex))) (rep_lst_new (hr.fnone hp) (cutP_reps r1 lo hi)).hand⟩
  unfold fSl at e
  split at e
  · rename_i y
    cases e
    obtain ⟨e1, k⟩ := rep_str rx
    refine .inr (.inr ⟨y, e1, k.2, ?_⟩)
    rw [cutS_eq]
    refine q W H _ (.refl W H) (Rep.str _ (sok_sub k ?_ fun c hc => ?_)).hand
    · show (cutP y.cps.toList lo hi).toArray.size ≤ y.cps.size
      unfold cutP
      simp only [List.size_toArray, List.length_take, List.length_drop, Array.length_toList]
      omega
    · have hc : c ∈ cutP y.cps.toList lo hi := by simpa [cutStr] using hc
      unfold cutP at hc
      exact List.mem_of_mem_drop (List.mem_of_mem_take hc)
  · rename_i xs
    cases e
    obtain ⟨a, vs, rfl, h1, r1⟩ := tup_ok hK hr (show Rep B W (.tup xs) x' from rx)
    refine .inr (.inl ⟨a, vs, rfl, h1, fun z => ?_, fun _ p hp => q _ _ _ (.new hp (Nat.le_trans (cutV_length _ _ _) (by rw [← r1.length]; exact tup_sz hr (show Rep B W (.tup xs) _ from rx)))) (rep_tup_new (hr.fnone hp) (cutP_reps r1 lo hi)).hand⟩)
    rw [cutP_all (by rw [r1.length]; exact z)] at q
    exact q W H _ (.refl W H) rx
  · cases ex : asL h x with
    | none => rw [ex] at e; cases e
    | some xs =>
      rw [ex] at e
      exact .inl (go xs ex (Option.some.inj e).symm)
theorem sim_sl {lo hi : Option Expr} {ml mh : S → R S (Option Int)} {p2 : Pos} (hK : X.K = B.K) (ha : SimE X B N WX a ma) (hl : SimO X B N WX lo ml) (hh : SimO X B N WX hi mh) : SimE X B N WX (.Subscript a (.Slice lo hi none p2) pos) (eSl ma ml mh) :=
  (pe_slice (sl_list.or (sl_tupA.or sl_str)) ha hl hh).imp fun σ H Q ⟨W, s, r, h⟩ => ⟨W, s, r, (h.bind r.slen).mono fun v W1 s1 H1 r1 _ q v' rv => ⟨W1, s1, r1, (q.bind r1.slen).mono fun l W2 s2 H2 r2 st2 q =>
    ⟨W2, s2, r2, (q.bind r2.slen).mono fun u W3 s3 H3 r3 st3 q => by
      split at q
      · rename_i z ez
        exact sl_fin hK r3.hr ((rv.on r1.slen st2.st).on r2.slen st3.st) ez fun W' H' z' g rz => q W' H' (g.rel r3) (g.stepE r3.hr) z' rz
      · exact q.elim⟩⟩⟩

/-! ### a < b < c -/
def eChain (f g : AH → PV → PV → Option PV) (a b c : ME) : ME := fun s => (a s).bind fun x s1 => (b s1).bind fun y s2 => match f s2.h x y with
  | some (.bl true) => (c s2).bind fun w s3 => match g s3.h y w with
    | some z => .ok z s3
    | none => .bad
  | some (.bl false) => .ok (.bl false) s2
  | _ => .bad
theorem chain_of {f g : AH → PV → PV → Option PV} {r r' : R2} (hf : OpSem X B f r) (hg : OpSem X B g r') {σ : L2.St} {H : Hp} {Q : VK} (h : tE B N WX (eChain f g ma mb mc) σ H Q) :
    tChain r r' (tE B N WX ma) (tE B N WX mb) (tE B N WX mc) σ H Q := by
  obtain ⟨W, s, r, h⟩ := h
  refine ⟨W, s, r, (h.bind r.slen).mono fun x W1 s1 H1 r1 _ q x' rx => ⟨W1, s1, r1, (q.bind r1.slen).mono fun y W2 s2 H2 r2 st2 q y' ry => ?_⟩⟩
  have rx2 := rx.on r1.slen st2.st
  have h0 : ∃ b, f s2.h x y = some (.bl b) := by
    split at q
    · rename_i e; exact ⟨true, e⟩
    · rename_i e; exact ⟨false, e⟩
    · exact q.elim
  obtain ⟨b, eb⟩ := h0
  refine hf W2 s2.h H2 x y _ x' y' _ r2.hr rx2 ry eb fun W3 H3 z' g3 rz => ?_
  refine ⟨b, rep_bl rz, ?_⟩
  have r3 := g3.rel r2
  have st3 := g3.stepE (s := s2) r2.hr
  cases b with
  | false =>
    rw [eb] at q
    exact iteF ((Post.from r2.slen st3 q).ok r3 _ (Rep.bl false).hand)
  | true =>
    rw [eb] at q
    refine iteT ⟨W3, s2, r3, ((Post.from r2.slen st3 q).bind r3.slen).mono fun w W4 s4 H4 r4 st4 q w' rw' => ?_⟩
    exact op_fin hg r4 ((ry.on r2.slen st3.st).on r3.slen st4.st) rw' q
theorem sim_chain {op op' : CmpOp} {r r' : R2} {f g : AH → PV → PV → Option PV} (ho : OpR X (compareOp op) r) (ho' : OpR X (compareOp op') r') (hf : OpSem X B f r) (hg : OpSem X B g r') (ha : SimE X B N WX a ma) (hb : SimE X B N WX b mb) (hc : SimE X B N WX c mc)
    (hm : lastMarks [op, op'] [b, c] = false) : SimE X B N WX (.Compare a [op, op'] [b, c] pos) (eChain f g ma mb mc) :=
  (pe_chain ho ho' ha hb hc hm).imp fun σ H Q h => chain_of hf hg h
theorem sim_tchain {op op' : CmpOp} {r r' : R2} {f g : AH → PV → PV → Option PV} (ho : OpR X (compareOp op) r) (ho' : OpR X (compareOp op') r') (hf : OpSem X B f r) (hg : OpSem X B g r') (ha : SimE X B N WX a ma) (hb : SimE X B N WX b mb) (hc : SimE X B N WX c mc)
    (hm : lastMarks [op, op'] [b, c] = false) : SimT X B N WX (.Compare a [op, op'] [b, c] pos) (bM (eChain f g ma mb mc)) :=
  (pt_chain ho ho' ha hb hc hm).imp fun σ H Q h => chain_of hf hg (tB_of h)
end
end Lp

set_option Elab.async false
set_option linter.all false
set_option maxRecDepth 100000
set_option maxHeartbeats 4000000
/-! Lp4: in, built-ins, targets, walks, comprehensions. -/
namespace Lp
open PySem PySem.Spec PyProof.Rows L2

/-! ### in -/
def fInL (neg : Bool) : AH → PV → PV → Option PV := fun h x y => match toDh h x, toDh h y with
  | some d, some (.list ds) => if dOk d && dOk (.list ds) then some (.bl (neg ^^ ds.any fun z => PyData.eqv z d)) else none
  | some d, some (.tuple ds) => if dOk d && dOk (.tuple ds) then some (.bl (neg ^^ ds.any fun z => PyData.eqv z d)) else none
  | _, _ => none
def rInT (K : PySem.W.Frag) (neg : Bool) : R2 := fun x y H Q => ∃ d ds, Dp K H x d ∧ Dp K H y (.tuple ds) ∧ SeqAt.shaped d = true ∧ SeqAt.shaped (.tuple ds) = true ∧ Q (.bl (neg ^^ ds.any fun z => PyData.eqv z d)) H
section
variable {X : Cx} {B : Bs}
theorem room_tup {A : Around} {ds : List PyData} {d : PyData} (h : SeqAt.shaped (.tuple ds) = true) (hu : A.units + 66 < cLine) : A.units + 1 + min (PyData.depthAll ds) d.depth < cLine := by
  have h1 := SeqAt.depth_of_shaped h
  simp only [PyData.depth] at h1
  have h2 : min (PyData.depthAll ds) d.depth ≤ PyData.depthAll ds := Nat.min_le_left _ _
  omega
theorem op_inT (hu : X.A.units + 66 < cLine) : OpR X (compareOp .In) (rInT X.K false) := by
  intro pins s σ H x y v u Q I rx ry h
  obtain ⟨d, ds, hd, he, sd, se, q⟩ := h
  obtain ⟨as, r1⟩ := Dp.reads I d x v hd rx
  obtain ⟨bs, r2⟩ := Dp.reads I (.tuple ds) y u he ry
  exact SeqAt.in_tuple_reads r2 r1 (SeqAt.canLay_of_shaped se) (SeqAt.canLay_of_shaped sd) (room_tup se hu) ⟨.bl _, H, I, by simp; rfl, q⟩
theorem op_ninT (hu : X.A.units + 66 < cLine) : OpR X (compareOp .NotIn) (rInT X.K true) := by
  intro pins s σ H x y v u Q I rx ry h
  obtain ⟨d, ds, hd, he, sd, se, q⟩ := h
  obtain ⟨as, r1⟩ := Dp.reads I d x v hd rx
  obtain ⟨bs, r2⟩ := Dp.reads I (.tuple ds) y u he ry
  exact SeqAt.notIn_tuple_reads r2 r1 (SeqAt.canLay_of_shaped se) (SeqAt.canLay_of_shaped sd) (room_tup se hu) ⟨.bl _, H, I, by simp; rfl, q⟩
/-- a text in a text -/
def fInS (neg : Bool) : AH → PV → PV → Option PV := fun _ x y => match x, y with
  | .str i, .str j => match i.cps.toList with
    | [c] => some (.bl (neg ^^ decide (c ∈ j.cps.toList)))
    | _ => some (.bl (neg ^^ !(Builtin.Str.occurrences j i 0 j.length 1).isEmpty))
  | _, _ => none
theorem sem_inL (hK : X.K = B.K) : OpSem X B (fInL false) (fun x y H Q => rInD X.K x y H Q ∨ rInT X.K false x y H Q) := by
  intro W h H x y z x' y' Q hr rx ry e q
  unfold fInL at e
  split at e
  · rename_i d ds ed ef
    split at e
    · rename_i hz
      cases e
      obtain ⟨z1, z2⟩ := Bool.and_eq_true_iff.mp hz
      obtain ⟨a1, a2⟩ := toDh_dp hK hr rx ed
      obtain ⟨b1, b2⟩ := toDh_dp hK hr ry ef
      exact .inl ⟨d, ds, a1, b1, shaped_of a2 z1, shaped_of b2 z2, q W H _ (.refl W H) (by simp only [Bool.false_xor]; exact (Rep.bl _).hand)⟩
    · cases e
  · rename_i d ds ed ef
    split at e
    · rename_i hz
      cases e
      obtain ⟨z1, z2⟩ := Bool.and_eq_true_iff.mp hz
      obtain ⟨a1, a2⟩ := toDh_dp hK hr rx ed
      obtain ⟨b1, b2⟩ := toDh_dp hK hr ry ef
      exact .inr ⟨d, ds, a1, b1, shaped_of a2 z1, shaped_of b2 z2, q W H _ (.refl W H) (Rep.bl _).hand⟩
    · cases e
  · cases e
theorem sem_ninL (hK : X.K = B.K) : OpSem X B (fInL true) (fun x y H Q => rNotInD X.K x y H Q ∨ rInT X.K true x y H Q) := by
  intro W h H x y z x' y' Q hr rx ry e q
  unfold fInL at e
  split at e
  · rename_i d ds ed ef
    split at e
    · rename_i hz
      cases e
      obtain ⟨z1, z2⟩ := Bool.and_eq_true_iff.mp hz
      obtain ⟨a1, a2⟩ := toDh_dp hK hr rx ed
      obtain ⟨b1, b2⟩ := toDh_dp hK hr ry ef
      exact .inl ⟨d, ds, a1, b1, shaped_of a2 z1, shaped_of b2 z2, q W H _ (.refl W H) (by simp only [Bool.true_xor]; exact (Rep.bl _).hand)⟩
    · cases e
  · rename_i d ds ed ef
    split at e
    · rename_i hz
      cases e
      obtain ⟨z1, z2⟩ := Bool.and_eq_true_iff.mp hz
      obtain ⟨a1, a2⟩ := toDh_dp hK hr rx ed
      obtain ⟨b1, b2⟩ := toDh_dp hK hr ry ef
      exact .inr ⟨d, ds, a1, b1, shaped_of a2 z1, shaped_of b2 z2, q W H _ (.refl W H) (Rep.bl _).hand⟩
    · cases e
  · cases e
def rInS (neg : Bool) : R2 := fun x y H Q => ∃ i j : Str, x = .str i ∧ y = .str j ∧ Q (.bl (neg ^^ !(Builtin.Str.occurrences j i 0 j.length 1).isEmpty)) H
theorem op_inS : OpR X (compareOp .In) (rInS false) := by
  intro pins s σ H x y v u Q I rx ry h
  obtain ⟨i, j, e1, e2, q⟩ := h
  exact op_in_str pins s σ H x y v u Q I rx ry ⟨i, j, e1, e2, by simpa using q⟩
theorem op_ninS : OpR X (compareOp .NotIn) (rInS true) := by
  intro pins s σ H x y v u Q I rx ry h
  obtain ⟨i, j, e1, e2, q⟩ := h
  exact L2.op_notin_str pins s σ H x y v u Q I rx ry ⟨i, j, e1, e2, by simpa using q⟩
theorem sem_inS {neg : Bool} : OpSem X B (fInS neg) (rInS neg) := by
  intro W h H x y z x' y' Q hr rx ry e q
  unfold fInS at e
  split at e
  · rename_i i j
    refine ⟨i, j, (rep_str rx).1, (rep_str ry).1, ?_⟩
    split at e
    · rename_i c ec
      cases e
      have ei : i = ⟨#[c]⟩ := by
        obtain ⟨a⟩ := i
        congr 1
        exact Array.toList_inj.mp ec
      subst ei
      have := PySem.StrLaws.found_one j c
      rw [this]
      exact q W H _ (.refl W H) (Rep.bl _).hand
    · cases e
      exact q W H _ (.refl W H) (Rep.bl _).hand
  · cases e
end
def fIn : AH → PV → PV → Option PV := fun h x y => (fInS false h x y).or (fInL false h x y)
def fNin : AH → PV → PV → Option PV := fun h x y => (fInS true h x y).or (fInL true h x y)
section
variable {X : Cx} {B : Bs}
theorem op_in (hu : X.A.units + 66 < cLine) : OpR X (compareOp .In) (fun x y H Q => rInS false x y H Q ∨ (rInD X.K x y H Q ∨ rInT X.K false x y H Q)) := op_inS.or ((op_inD (by omega)).or (op_inT hu))
theorem op_nin (hu : X.A.units + 66 < cLine) : OpR X (compareOp .NotIn) (fun x y H Q => rInS true x y H Q ∨ (rNotInD X.K x y H Q ∨ rInT X.K true x y H Q)) := op_ninS.or ((op_notInD (by omega)).or (op_ninT hu))
theorem sem_in (hK : X.K = B.K) : OpSem X B fIn (fun x y H Q => rInS false x y H Q ∨ (rInD X.K x y H Q ∨ rInT X.K false x y H Q)) := sem_inS.or (sem_inL hK)
theorem sem_nin (hK : X.K = B.K) : OpSem X B fNin (fun x y H Q => rInS true x y H Q ∨ (rNotInD X.K x y H Q ∨ rInT X.K true x y H Q)) := sem_inS.or (sem_ninL hK)
end

/-! ### built-ins by values -/
def CallSem (X : Cx) (B : Bs) (f : AH → List PV → Option PV) (r : List V → Hp → VK → Prop) : Prop := ∀ (W : Wd) (h : AH) (H : Hp) (xs : List PV) (z : PV) (xs' : List V) (Q : VK), HRel B W h H → RepTs B W H xs xs' → f h xs = some z →
  (∀ W' H' z', Grow W H W' H' → RepT B W' H' z z' → Q z' H') → r xs' H Q
def eCB (f : AH → List PV → Option PV) (ma : MA) : ME := fun s => (ma s).bind fun vs s1 => match f s1.h vs with
  | some z => .ok z s1
  | none => .bad
section
variable {X : Cx} {B : Bs} {N : Ent} {WX : L2.WX} {x : Str} {p pos : Pos} {e : Expr} {es : List Expr} {ma : MA} {id T : String} {f : AH → List PV → Option PV} {r : List V → Hp → VK → Prop}
theorem cb_fin (hf : CallSem X B f r) {σ : L2.St} {H : Hp} {Q : VK} (h : tE B N WX (eCB f ma) σ H Q) : tCB r (tA B N WX ma) σ H Q := by
  obtain ⟨W, s, r0, h⟩ := h
  refine ⟨W, s, r0, (h.bind r0.slen).mono fun vs W1 s1 H1 r1 _ q vs' rvs => ?_⟩
  split at q
  · rename_i z ez
    exact hf W1 s1.h H1 vs z vs' Q r1.hr rvs ez fun W' H' z' g rz => q W' H' (g.rel r1) (g.stepE r1.hr) z' rz
  · exact q.elim
theorem sim_callB (hc : CallR X (.builtin id) r) (hf : CallSem X B f r) (hg : Gl X x) (hm : X.mg x = none) (hv : bootBuiltins x = some (.builtin id)) (ha : SimA X B N WX (e :: es) ma) (hn : x ≠ "__name__") (hdb : (x == ("__debug__" : Str)) = false)
    (he : starEach (e :: es) X.env = (false, eval e X.env) :: starEach es X.env) (hpl : (backTo pos (starEach es X.env)).any (·.1) = false) : SimE X B N WX (.Call (.Name x p) (e :: es) [] pos) (eCB f ma) :=
  (pe_callB hc hg hm hv ha hn hdb he hpl).imp fun σ H Q h => cb_fin hf h
theorem sim_callTy (hc : CallR X (.type T) r) (hf : CallSem X B f r) (hg : Gl X x) (hm : X.mg x = none) (hv : bootBuiltins x = some (.type T)) (ha : SimA X B N WX (e :: es) ma) (hn : x ≠ "__name__") (hdb : (x == ("__debug__" : Str)) = false)
    (he : starEach (e :: es) X.env = (false, eval e X.env) :: starEach es X.env) (hpl : (backTo pos (starEach es X.env)).any (·.1) = false) : SimE X B N WX (.Call (.Name x p) (e :: es) [] pos) (eCB f ma) :=
  (pe_callTy hc hg hm hv ha hn hdb he hpl).imp fun σ H Q h => cb_fin hf h
end
def bLen : AH → List PV → Option PV := fun h xs => match xs with
  | [.str x] => some (.int x.length)
  | [x] => (asS h x).map fun ys => .int ys.length
  | _ => none
def bInt : AH → List PV → Option PV := fun _ xs => match xs with
  | [.int i] => some (.int i)
  | [.bl k] => some (.int (if k then 1 else 0))
  | _ => none
def blOf : PV → Option Bool
  | .bl b => some b
  | _ => none
def bAll : AH → List PV → Option PV := fun h xs => match xs with
  | [x] => match asL h x with
    | some ys => (ys.mapM blOf).map fun bs => .bl (bs.all fun b => b)
    | none => none
  | _ => none
def bAny : AH → List PV → Option PV := fun h xs => match xs with
  | [x] => match asL h x with
    | some ys => (ys.mapM blOf).map fun bs => .bl (bs.any fun b => b)
    | none => none
  | _ => none
def bList : AH → List PV → Option PV := fun h xs => match xs with
  | [x] => (asS h x).map .lst
  | _ => none
def bTuple : AH → List PV → Option PV := fun h xs => match xs with
  | [x] => (asS h x).map .tup
  | _ => none
section
variable {X : Cx} {B : Bs} {W : Wd} {h : AH} {H : Hp}
theorem repts1 {x : PV} {vs : List V} (r : RepTs B W H [x] vs) : ∃ v, vs = [v] ∧ RepT B W H x v := by
  cases vs with
  | nil => exact r.elim
  | cons v t =>
    obtain ⟨r1, r2⟩ := r
    cases t with
    | nil => exact ⟨v, rfl, r1⟩
    | cons _ _ => exact r2.elim
theorem repts2 {x y : PV} {vs : List V} (r : RepTs B W H [x, y] vs) : ∃ v w, vs = [v, w] ∧ RepT B W H x v ∧ RepT B W H y w := by
  cases vs with
  | nil => exact r.elim
  | cons v t =>
    obtain ⟨r1, r2⟩ := r
    obtain ⟨w, rfl, r3⟩ := repts1 r2
    exact ⟨v, w, rfl, r1, r3⟩
theorem sem_len (hK : X.K = B.K) : CallSem X B bLen (fun xs H Q => ∃ x n, xs = [x] ∧ LenV X.K x H n ∧ Q (.int n) H) := by
  intro W h H xs z xs' Q hr rx e q
  unfold bLen at e
  split at e
  · rename_i x
    cases e
    obtain ⟨v, rfl, r1⟩ := repts1 rx
    obtain ⟨rfl, k⟩ := rep_str r1
    exact ⟨_, x.length, rfl, ⟨k.2, rfl⟩, q W H _ (.refl W H) (Rep.int _).hand⟩
  · rename_i x _
    obtain ⟨v, rfl, r1⟩ := repts1 rx
    cases ex : asS h x with
    | none => rw [ex] at e; cases e
    | some ys =>
      rw [ex] at e
      cases e
      obtain ⟨a, vs, rfl, h1, r2⟩ := asS_ok hK hr r1 ex
      refine ⟨_, ys.length, rfl, ?_, q W H _ (.refl W H) (Rep.int _).hand⟩
      rcases h1 with h1 | h1
      · exact .inr ⟨vs, h1, r2.length⟩
      · exact .inl ⟨vs, h1, r2.length⟩
  · cases e
theorem sem_int1 : CallSem X B bInt (fun xs H Q => (∃ i, xs = [.int i] ∧ Q (.int i) H) ∨ ∃ k, xs = [.bl k] ∧ Q (.int (if k then 1 else 0)) H) := by
  intro W h H xs z xs' Q hr rx e q
  unfold bInt at e
  split at e
  · rename_i i
    cases e
    obtain ⟨v, rfl, r1⟩ := repts1 rx
    exact .inl ⟨i, by rw [rep_int r1], q W H _ (.refl W H) (Rep.int _).hand⟩
  · rename_i k
    cases e
    obtain ⟨v, rfl, r1⟩ := repts1 rx
    exact .inr ⟨k, by rw [rep_bl r1], q W H _ (.refl W H) (Rep.int _).hand⟩
  · cases e
theorem reps_bls : ∀ {ys : List PV} {vs : List V} {bs : List Bool}, Reps B W ys vs → ys.mapM blOf = some bs → vs = bs.map V.bl
  | [], _, _, .nil, e => by cases e; rfl
  | y :: ys, _, bs, .cons r t, e => by
    rw [List.mapM_cons] at e
    cases y with
    | bl b =>
      cases eq : ys.mapM blOf with
      | none => rw [eq] at e; cases e
      | some cs =>
        rw [eq] at e
        cases e
        cases r
        rw [reps_bls t eq]
        rfl
    | _ => cases e
theorem sem_all (hK : X.K = B.K) : CallSem X B bAll (rAll X.K) := by
  intro W h H xs z xs' Q hr rx e q
  unfold bAll at e
  split at e
  · rename_i x
    obtain ⟨v, rfl, r1⟩ := repts1 rx
    split at e
    · rename_i ys ex
      obtain ⟨a, vs, rfl, h1, r2⟩ := asL_ok hr r1 ex
      cases eb : ys.mapM blOf with
      | none => rw [eb] at e; cases e
      | some bs =>
        rw [eb] at e
        cases e
        refine ⟨a, bs, rfl, by rw [← reps_bls r2 eb]; exact rd_sql hK h1, ?_⟩
        have : (bs.all id) = (bs.all fun b => b) := rfl
        rw [this]
        exact q W H _ (.refl W H) (Rep.bl _).hand
    · cases e
  · cases e
theorem sem_any (hK : X.K = B.K) : CallSem X B bAny (rAny X.K) := by
  intro W h H xs z xs' Q hr rx e q
  unfold bAny at e
  split at e
  · rename_i x
    obtain ⟨v, rfl, r1⟩ := repts1 rx
    split at e
    · rename_i ys ex
      obtain ⟨a, vs, rfl, h1, r2⟩ := asL_ok hr r1 ex
      cases eb : ys.mapM blOf with
      | none => rw [eb] at e; cases e
      | some bs =>
        rw [eb] at e
        cases e
        refine ⟨a, bs, rfl, by rw [← reps_bls r2 eb]; exact rd_sql hK h1, ?_⟩
        have : (bs.any id) = (bs.any fun b => b) := rfl
        rw [this]
        exact q W H _ (.refl W H) (Rep.bl _).hand
    · cases e
  · cases e
theorem sem_list (hK : X.K = B.K) : CallSem X B bList (fun xs H Q => ∃ p ys, xs = [.ref p] ∧ (SqL X.K H p ys ∨ SqT X.K H p ys) ∧ ∀ l, H l = none → Q (.ref l) (upd H l (.lst ys))) := by
  intro W h H xs z xs' Q hr rx e q
  unfold bList at e
  split at e
  · rename_i x
    obtain ⟨v, rfl, r1⟩ := repts1 rx
    cases ex : asS h x with
    | none => rw [ex] at e; cases e
    | some ys =>
      rw [ex] at e
      cases e
      obtain ⟨a, vs, rfl, h1, r2⟩ := asS_ok hK hr r1 ex
      exact ⟨a, vs, rfl, h1.symm, fun p hp => q _ _ _ (.new hp (show vs.length ≤ sizeLine from by rw [← r2.length]; exact asS_sz hr r1 ex)) (rep_lst_new (hr.fnone hp) r2).hand⟩
  · cases e
theorem sem_tuple (hK : X.K = B.K) : CallSem X B bTuple (fun xs H Q => ∃ p ys, xs = [.ref p] ∧ ((SqL X.K H p ys ∧ ∀ l, H l = none → Q (.ref l) (upd H l (.tup ys))) ∨ (SqT X.K H p ys ∧ Q (.ref p) H))) := by
  intro W h H xs z xs' Q hr rx e q
  unfold bTuple at e
  split at e
  · rename_i x
    obtain ⟨v, rfl, r1⟩ := repts1 rx
    cases ex : asS h x with
    | none => rw [ex] at e; cases e
    | some ys =>
      rw [ex] at e
      cases e
      have go : asL h x = some ys → ∃ p zs, [v] = [.ref p] ∧ ((SqL X.K H p zs ∧ ∀ l, H l = none → Q (.ref l) (upd H l (.tup zs))) ∨ (SqT X.K H p zs ∧ Q (.ref p) H)) := fun ex => by
        obtain ⟨a, vs, rfl, h1, r2⟩ := asL_ok hr r1 ex
        exact ⟨a, vs, rfl, .inl ⟨rd_sql hK h1, fun p hp => q _ _ _ (.new hp (show SzO (.tup vs) from by show vs.length ≤ sizeLine; rw [← r2.length]; exact asL_sz hr r1 ex)) (rep_tup_new (hr.fnone hp) r2).hand⟩⟩
      cases x with
      | tup xs =>
        cases ex
        obtain ⟨a, vs, rfl, h1, r2⟩ := tup_ok hK hr (show Rep B W (.tup _) v from r1)
        exact ⟨a, vs, rfl, .inr ⟨h1, q W H _ (.refl W H) r1⟩⟩
      | _ => exact go ex
  · cases e
end
end Lp

set_option Elab.async false
set_option linter.all false
set_option maxRecDepth 100000
set_option maxHeartbeats 4000000
/-! Lp5: targets, walks, comprehensions. -/
namespace Lp
open PySem PySem.Spec PyProof.Rows L2

/-! ### what a state bears of an object that nothing names -/
/-- nothing that the state tells stands at p; it is younger than the entry -/
structure Loose (N : Ent) (W : Wd) (s : S) (σ : L2.St) (p : Addr) : Prop where
  F : W.F p = none
  m : p ∉ W.m
  o : ∀ (i : Nat) (x : PV), s.e[i]? = some (some x) → isOwn x = true → σ[i]? ≠ some (some (.ref p))
  e : N.H p = none
section
variable {B : Bs} {N : Ent} {W W' : Wd} {s s' : S} {σ : L2.St} {H H' : Hp} {p : Addr} {o : HO}
theorem CellR.off {c : Cell} {a : Addr} (r : CellR B W H a c) (ne : a ≠ p) : CellR B W (upd H p o) a c := r.mono (.refl W) (fun u e => by rw [upd_ne ne]; exact e) 
/-- an address that holds nothing, or a list or an instance -/
def Wr (H : Hp) (p : Addr) : Prop := H p = none ∨ ∃ o0, H p = some o0 ∧ NT o0 ∧ ∀ c q, o0 ≠ LamX.CodeO c q
theorem wr_lst {vs : List V} (h : H p = some (.lst vs)) : Wr H p := .inr ⟨_, h, nt_lst, nc_lst⟩
theorem tabs_put {T : List (Addr × Str)} (t : LamX.Tabs T H) (h : Wr H p) : LamX.Tabs T (upd H p o) := by
  rcases h with h | ⟨o0, h, nt, nc⟩
  · exact tabs_new t h
  · exact tabs_wr t h nt nc
theorem rel_put (r : Rel B N W s σ H) (l : Loose N W s σ p) (ho : SzO o) (wr : Wr H p) : Rel B N W s σ (upd H p o) := by
  refine ⟨⟨fun a u e => ?_, r.hr.len, r.hr.nd, fun a hm => ?_, fun a u e nt => ?_, r.hr.fz, tabs_put r.hr.tb wr, fun n c a e1 e2 => ?_⟩, ?_, r.len, fun i x e => ?_, r.dis, r.pin⟩
  · have ne : a ≠ p := fun z => by rw [z, l.F] at e; cases e
    rw [upd_ne ne]; exact r.hr.agree _ _ e
  · have ne : a ≠ p := fun z => l.m (z ▸ hm)
    rw [upd_ne ne]; exact r.hr.mt a hm
  · by_cases ha : a = p
    · rw [ha, upd_same] at e
      cases e
      exact ho
    · rw [upd_ne ha] at e
      exact r.hr.hz a u e nt
  · obtain ⟨h1, h2⟩ := r.hr.cell n c a e1 e2
    exact ⟨h1, h2.off fun z => l.m (z ▸ List.mem_of_getElem? e2)⟩
  · have st := r.st
    refine ⟨st.le, st.hl, st.dead, fun a u e nt nl => ?_, fun a e => ?_, fun a e ne nl => ?_, st.hm, st.mnew⟩
    · have ne : a ≠ p := fun z => by rw [z, l.e] at e; cases e
      rw [upd_ne ne]; exact st.keep a u e nt nl
    · by_cases ha : a = p
      · rw [ha, upd_same] at e; cases e
      · rw [upd_ne ha] at e; exact st.tr a e
    · exact st.fgrow a e ne nl
  · obtain ⟨v, e1, sl⟩ := r.env i x e
    refine ⟨v, e1, ?_⟩
    cases x with
    | own xs =>
      obtain ⟨a, vs, rfl, h1, h2, h3, h4, h5⟩ := sl
      have ne : a ≠ p := fun z => l.o i _ e rfl (by rw [e1, z])
      exact ⟨a, vs, rfl, by rw [upd_ne ne]; exact h1, h2, h3, h4, h5⟩
    | don ks => exact sl
    | _ => exact sl
/-- it is put up for good -/
theorem rel_keep (r : Rel B N W s σ H) (l : Loose N W s σ p) (hp : H p = some o) (nt : NT o) : Rel B N ⟨upd W.F p o, W.m⟩ s σ H := by
  have le : W.Le ⟨upd W.F p o, W.m⟩ := le_new l.F
  refine ⟨⟨fun a u e => ?_, r.hr.len, r.hr.nd, r.hr.mt, r.hr.hz, fun a u e => ?_, r.hr.tb, fun n c a e1 e2 => ?_⟩, ?_, r.len, fun i x e => ?_, r.dis, r.pin.trans le⟩
  · by_cases ha : a = p
    · have e : upd W.F p o a = some u := e
      rw [ha, upd_same] at e
      rw [ha, hp]; exact e
    · have e : upd W.F p o a = some u := e
      rw [upd_ne ha] at e
      exact r.hr.agree _ _ e
  · by_cases ha : a = p
    · have e : upd W.F p o a = some u := e
      rw [ha, upd_same] at e
      cases e
      exact nt
    · have e : upd W.F p o a = some u := e
      rw [upd_ne ha] at e
      exact r.hr.fz a u e
  · obtain ⟨h1, h2⟩ := r.hr.cell n c a e1 e2
    have ne : a ≠ p := fun z => l.m (z ▸ List.mem_of_getElem? e2)
    exact ⟨by show upd W.F p o a = none; rw [upd_ne ne]; exact h1, h2.mono le fun _ z => z⟩
  · have st := r.st
    refine ⟨st.le.trans le, st.hl, st.dead, st.keep, st.tr, fun a e ne nl => ?_, st.hm, st.mnew⟩
    have ha : a ≠ p := fun z => ne (z ▸ l.e)
    show upd W.F p o a = none
    rw [upd_ne ha]; exact st.fgrow a e ne nl
  · obtain ⟨v, e1, sl⟩ := r.env i x e
    refine ⟨v, e1, ?_⟩
    cases x with
    | own xs =>
      obtain ⟨a, vs, rfl, h1, h2, h3, h4, h5⟩ := sl
      have ne : a ≠ p := fun z => l.o i _ e rfl (by rw [e1, z])
      exact ⟨a, vs, rfl, h1, h2.mono le, by show upd W.F p o a = none; rw [upd_ne ne]; exact h3, h4, h5⟩
    | don ks => exact DonR.mono le sl
    | _ => exact Rep.mono le sl
/-- from a state ahead of the object: it is loose, and stays so -/
theorem Rel.loose (r : Rel B N W s σ H) (hp : H p = none) : Loose N W s σ p := by
  refine ⟨r.hr.fnone hp, fun z => r.hr.mt p z hp, fun i x e o q => ?_, r.st.tr _ hp⟩
  · obtain ⟨v, e1, sl⟩ := r.env i x e
    rw [q] at e1
    cases e1
    cases x with
    | own xs =>
      obtain ⟨a, vs, e2, h1, _⟩ := sl
      cases e2
      rw [hp] at h1
      cases h1
    | don ks =>
      obtain ⟨a, vs, o', e2, h1, _⟩ := sl
      cases e2
      rw [r.hr.fnone hp] at h1
      cases h1
    | _ => cases o
theorem Loose.on (l : Loose N W s σ p) (hl : W.m.length = s.h.length) (st : StepE W s H W' s' H') (hp : H p ≠ none) : Loose N W' s' σ p :=
  ⟨st.st.fgrow p l.F hp fun z => l.m z.mem, st.st.notm hl l.m hp, fun i x e o => l.o i x (st.eo i x e o) o, l.e⟩
theorem Loose.held (l : Loose N W s σ p) (st : StepE W s H W' s' H') (hp : H p = some o) (nt : NT o) : H' p = some o := st.st.keep p o hp nt fun z => l.m z.mem
/-- a step told of the heap without the loose object -/
theorem StepE.put (st : StepE W s H W' s' H') (hp : H p = none) (hm : p ∉ W'.m) : StepE W s H W' s' (upd H' p o) := by
  refine ⟨⟨st.st.le, st.st.hl, st.st.dead, fun a u e nt nl => ?_, fun a e => ?_, st.st.fgrow, st.st.hm, st.st.mnew⟩, st.eo⟩
  · rw [upd_ne (ne_of_none e hp)]; exact st.st.keep a u e nt nl
  · by_cases ha : a = p
    · rw [ha, upd_same] at e; cases e
    · rw [upd_ne ha] at e; exact st.st.tr a e
theorem StepE.keepNew (st : StepE W s H W' s' H') (hp : H p = none) (hF : W'.F p = none) : StepE W s H ⟨upd W'.F p o, W'.m⟩ s' H' := by
  refine ⟨⟨st.st.le.trans (le_new hF), st.st.hl, st.st.dead, st.st.keep, st.st.tr, fun a e ne nl => ?_, st.st.hm, st.st.mnew⟩, st.eo⟩
  have ha : a ≠ p := fun z => ne (z ▸ hp)
  show upd W'.F p o a = none
  rw [upd_ne ha]; exact st.st.fgrow a e ne nl
end

/-! ### slots written, slots wiped -/
def wipeE (e : List (Option PV)) : List Nat → List (Option PV)
  | [] => e
  | v :: vs => (wipeE e vs).set v none
section
variable {B : Bs} {N : Ent} {W W' : Wd} {s s' : S} {σ : L2.St} {H H' : Hp} {p : Addr} {o : HO}
theorem wipeE_length (e : List (Option PV)) : ∀ vs : List Nat, (wipeE e vs).length = e.length
  | [] => rfl
  | v :: vs => by unfold wipeE; rw [List.length_set, wipeE_length e vs]
theorem wipeE_get {e : List (Option PV)} {i : Nat} {x : PV} : ∀ {vs : List Nat}, (wipeE e vs)[i]? = some (some x) → e[i]? = some (some x) ∧ i ∉ vs
  | [], h => ⟨h, by simp⟩
  | v :: vs, h => by
    unfold wipeE at h
    by_cases hi : v = i
    · subst hi
      by_cases hv : v < (wipeE e vs).length
      · rw [List.getElem?_set_self hv] at h; cases h
      · rw [List.getElem?_eq_none (by simpa using hv)] at h; cases h
    · rw [List.getElem?_set_ne hi] at h
      obtain ⟨h1, h2⟩ := wipeE_get h
      exact ⟨h1, by simp only [List.mem_cons, not_or]; exact ⟨fun e => hi e.symm, h2⟩⟩
theorem wipe_at {σ : L2.St} {i : Nat} : ∀ {vs : List Nat}, i ∉ vs → (wipe σ vs)[i]? = σ[i]?
  | [], _ => rfl
  | v :: vs, h => by
    simp only [List.mem_cons, not_or] at h
    unfold wipe
    rw [List.getElem?_set_ne (fun e => h.1 e.symm)]
    exact wipe_at h.2
theorem wipe_set {σ : L2.St} {i : Nat} {x : Option V} : ∀ {vs : List Nat}, i ∈ vs → wipe (σ.set i x) vs = wipe σ vs
  | [], h => by cases h
  | v :: vs, h => by
    unfold wipe
    by_cases hm : i ∈ vs
    · rw [wipe_set hm]
    · have hv : i = v := by
        rcases List.mem_cons.mp h with z | z
        · exact z
        · exact absurd z hm
      subst hv
      have go : ∀ ws : List Nat, i ∉ ws → wipe (σ.set i x) ws = (wipe σ ws).set i x := by
        intro ws
        induction ws with
        | nil => intro _; rfl
        | cons w ws ih =>
          intro hw
          simp only [List.mem_cons, not_or] at hw
          unfold wipe
          rw [ih hw.2, List.set_comm _ _ hw.1]
      rw [go vs hm, List.set_set]
theorem rel_set {i : Nat} {x : PV} {v : V} (r : Rel B N W s σ H) (rx : Rep B W x v) : Rel B N W ⟨s.e.set i (some x), s.h⟩ (σ.set i (some v)) H := by
  have nx : isOwn x = false := by cases rx <;> rfl
  refine ⟨r.hr, r.st, by simp only [List.length_set]; exact r.len, fun j y e => ?_, fun j k y z a hjk e1 e2 o1 o2 s1 s2 => ?_, r.pin⟩
  · by_cases hj : i = j
    · subst hj
      by_cases hi : i < s.e.length
      · have e : (s.e.set i (some x))[i]? = some (some y) := e
        rw [List.getElem?_set_self hi] at e
        cases e
        exact ⟨v, List.getElem?_set_self (by rw [r.len]; exact hi), rx.slot⟩
      · have e : (s.e.set i (some x))[i]? = some (some y) := e
        rw [List.getElem?_eq_none (by rw [List.length_set]; omega)] at e
        cases e
    · have e : (s.e.set i (some x))[j]? = some (some y) := e
      rw [List.getElem?_set_ne hj] at e
      rw [List.getElem?_set_ne hj]
      exact r.env j y e
  · have g : ∀ (j : Nat) (y : PV), (s.e.set i (some x))[j]? = some (some y) → isOwn y = true → j ≠ i := fun j y e o z => by
      subst z
      by_cases hi : j < s.e.length
      · rw [List.getElem?_set_self hi] at e
        cases e
        rw [nx] at o
        cases o
      · rw [List.getElem?_eq_none (by rw [List.length_set]; omega)] at e
        cases e
    have hj := g j y e1 o1
    have hk := g k z e2 o2
    have e1 : (s.e.set i (some x))[j]? = some (some y) := e1
    have e2 : (s.e.set i (some x))[k]? = some (some z) := e2
    rw [List.getElem?_set_ne (Ne.symm hj)] at e1 s1
    rw [List.getElem?_set_ne (Ne.symm hk)] at e2 s2
    exact r.dis j k y z a hjk e1 e2 o1 o2 s1 s2
theorem rel_wipe {vs : List Nat} (r : Rel B N W s σ H) : Rel B N W ⟨wipeE s.e vs, s.h⟩ (wipe σ vs) H := by
  refine ⟨r.hr, r.st, by simp only [wipeE_length, wipe_length]; exact r.len, fun j y e => ?_, fun j k y z a hjk e1 e2 o1 o2 s1 s2 => ?_, r.pin⟩
  · obtain ⟨e1, hj⟩ := wipeE_get e
    rw [wipe_at hj]
    exact r.env j y e1
  · obtain ⟨f1, hj⟩ := wipeE_get e1
    obtain ⟨f2, hk⟩ := wipeE_get e2
    rw [wipe_at hj] at s1
    rw [wipe_at hk] at s2
    exact r.dis j k y z a hjk f1 f2 o1 o2 s1 s2
/-- back from a state whose slots agree but for the wiped ones -/
theorem rel_back {σ2 : L2.St} {vs : List Nat} (r : Rel B N W s σ2 H) (e : wipe σ2 vs = wipe σ vs) : Rel B N W ⟨wipeE s.e vs, s.h⟩ σ H := by
  have hlen : σ2.length = σ.length := by
    have := congrArg List.length e
    rw [wipe_length, wipe_length] at this
    exact this
  have g : ∀ j, j ∉ vs → σ2[j]? = σ[j]? := fun j hj => by rw [← wipe_at (σ := σ2) hj, e, wipe_at hj]
  refine ⟨r.hr, r.st, by simp only [wipeE_length]; rw [← hlen]; exact r.len, fun j y e => ?_, fun j k y z a hjk e1 e2 o1 o2 s1 s2 => ?_, r.pin⟩
  · obtain ⟨e1, hj⟩ := wipeE_get e
    rw [← g j hj]
    exact r.env j y e1
  · obtain ⟨f1, hj⟩ := wipeE_get e1
    obtain ⟨f2, hk⟩ := wipeE_get e2
    rw [← g j hj] at s1
    rw [← g k hk] at s2
    exact r.dis j k y z a hjk f1 f2 o1 o2 s1 s2
end

/-! ### targets: names, and tuples of them -/
inductive Tg where
  | n (i : Nat) | t (ts : List Tg)
mutual
def gT (K : PySem.W.Frag) : Tg → TG
  | .n i => gName i
  | .t ts => gTup K ts.length (gTs K ts)
def gTs (K : PySem.W.Frag) : List Tg → TGs
  | [] => gNil
  | t :: ts => gCons (gT K t) (gTs K ts)
end
mutual
def bindT : Tg → PV → List (Option PV) → Option (List (Option PV))
  | .n i, v, e => if isOwn v then none else some (e.set i (some v))
  | .t ts, .tup xs, e => bindTs ts xs e
  | .t _, _, _ => none
def bindTs : List Tg → List PV → List (Option PV) → Option (List (Option PV))
  | [], [], e => some e
  | t :: ts, x :: xs, e => match bindT t x e with
    | some e1 => bindTs ts xs e1
    | none => none
  | _, _, _ => none
end
mutual
def Tg.sl : Tg → List Nat
  | .n i => [i]
  | .t ts => Tg.sls ts
def Tg.sls : List Tg → List Nat
  | [] => []
  | g :: gs => g.sl ++ Tg.sls gs
end
section
variable {X : Cx} {B : Bs} {N : Ent} {W W' : Wd} {s s' : S} {σ : L2.St} {H H' : Hp} {vs : List Nat}
theorem Reps.len_of {xs : List PV} {us : List V} (r : Reps B W xs us) {n : Nat} (h : xs.length = n) : us.length = n := by rw [← r.length]; exact h
mutual
theorem bindTs_len : ∀ {ts : List Tg} {xs : List PV} {e e' : List (Option PV)}, bindTs ts xs e = some e' → xs.length = ts.length
  | [], [], _, _, _ => rfl
  | [], _ :: _, _, _, h => by simp [bindTs] at h
  | _ :: _, [], _, _, h => by simp [bindTs] at h
  | t :: ts, x :: xs, e, e', h => by
    rw [bindTs] at h
    cases q : bindT t x e with
    | none => rw [q] at h; cases h
    | some e1 =>
      rw [q] at h
      exact congrArg Nat.succ (bindTs_len h)
end
mutual
theorem gT_ok (hK : X.K = B.K) : ∀ {t : Tg} {x : PV} {v : V} {s : S} {σ : L2.St} {e' : List (Option PV)} {Q : L2.St → Hp → Prop}, (∀ i ∈ t.sl, i ∈ vs) → Rel B N W s σ H → Rep B W x v → bindT t x s.e = some e' →
    (∀ σ', Rel B N W ⟨e', s.h⟩ σ' H → wipe σ' vs = wipe σ vs → Q σ' H) → gT X.K t v σ H Q
  | .n i, x, v, s, σ, e', Q, hv, r, rx, hb, k => by
    rw [bindT] at hb
    split at hb
    · cases hb
    · cases hb
      exact k _ (rel_set r rx) (wipe_set (hv i (by simp [Tg.sl])))
  | .t ts, x, v, s, σ, e', Q, hv, r, rx, hb, k => by
    cases x with
    | tup xs =>
      rw [bindT] at hb
      obtain ⟨a, us, rfl, h1, ru⟩ := tup_ok hK r.hr rx
      exact ⟨a, us, rfl, h1, ru.len_of (bindTs_len hb), gTs_ok hK (by rw [Tg.sl] at hv; exact hv) r ru hb k⟩
    | _ => simp [bindT] at hb
theorem gTs_ok (hK : X.K = B.K) : ∀ {ts : List Tg} {xs : List PV} {us : List V} {s : S} {σ : L2.St} {e' : List (Option PV)} {Q : L2.St → Hp → Prop}, (∀ i ∈ Tg.sls ts, i ∈ vs) → Rel B N W s σ H → Reps B W xs us → bindTs ts xs s.e = some e' →
    (∀ σ', Rel B N W ⟨e', s.h⟩ σ' H → wipe σ' vs = wipe σ vs → Q σ' H) → gTs X.K ts us σ H Q
  | [], [], _, s, σ, e', Q, _, r, .nil, hb, k => by
    rw [bindTs] at hb
    cases hb
    exact ⟨rfl, k σ r rfl⟩
  | [], _ :: _, _, _, _, _, _, _, _, _, hb, _ => by simp [bindTs] at hb
  | _ :: _, [], _, _, _, _, _, _, _, _, hb, _ => by simp [bindTs] at hb
  | t :: ts, x :: xs, _, s, σ, e', Q, hv, r, .cons rx rt, hb, k => by
    rw [bindTs] at hb
    cases q : bindT t x s.e with
    | none => rw [q] at hb; cases hb
    | some e1 =>
      rw [q] at hb
      refine ⟨_, _, rfl, gT_ok hK (fun i hi => hv i (by rw [Tg.sls]; exact List.mem_append_left _ hi)) r rx q fun σ1 r1 w1 => ?_⟩
      exact gTs_ok hK (s := ⟨e1, s.h⟩) (fun i hi => hv i (by rw [Tg.sls]; exact List.mem_append_right _ hi)) r1 rt hb fun σ2 r2 w2 => k σ2 r2 (w2.trans w1)
end
end
end Lp

set_option Elab.async false
set_option linter.all false
set_option maxRecDepth 100000
set_option maxHeartbeats 4000000
/-! Lp6: walks, comprehensions. -/
namespace Lp
open PySem PySem.Spec PyProof.Rows L2

/-- what is walked: the items; the cells whose lists are walked; whether it is a slot's own list -/
structure Sr where
  xs : List PV
  w : List (Nat × List PV)
  o : Bool
def stillS (h : AH) (r : Sr) : Prop := ∀ p ∈ r.w, h[p.1]? = some (some (.lst p.2))
structure Walks (B : Bs) (J : It) (r : Sr) (W : Wd) (s : S) (H : Hp) : Prop where
  go : ∀ (W' : Wd) (s' : S) (H' : Hp), HRel B W' s'.h H' → W.Le W' → stillS s'.h r → (r.o = true → Step W s.h H W' s'.h H') → ∀ (i : Nat) (x : PV), r.xs[i]? = some x → J.go i H' ∧ ∀ v H'', J.yld i H' v H'' → ∃ W'', Grow W' H' W'' H'' ∧ Rep B W'' x v
  stop : ∀ (W' : Wd) (s' : S) (H' : Hp), HRel B W' s'.h H' → W.Le W' → stillS s'.h r → (r.o = true → Step W s.h H W' s'.h H') → ∀ i : Nat, r.xs.length ≤ i → J.stop i H'
def tI (B : Bs) (N : Ent) (WX : L2.WX) (m : S → R S Sr) : TI := fun σ H R => ∃ W s, Rel B N W s σ H ∧ Post B N WX W s H σ (m s) fun r W' s' H' => stillS s'.h r → r.xs.length ≤ sizeLine → ∀ J, Walks B J r W' s' H' → R J H'
abbrev SimI (X : Cx) (B : Bs) (N : Ent) (WX : L2.WX) (tg : Expr) (e : Expr) (m : S → R S Sr) : Prop := PI X tg e (tI B N WX m)
theorem PI_imp {X : Cx} {tg e : Expr} {t t' : TI} (h : PI X tg e t) (w : ∀ σ H Q, t' σ H Q → t σ H Q) : PI X tg e t' := ⟨fun pins s σ H Q I q => h.run pins s σ H Q I (w _ _ _ q)⟩
def srcOf (h : AH) : PV → Option Sr
  | .str x => some ⟨x.cps.toList.map fun c => .str ⟨#[c]⟩, [], false⟩
  | .tup xs => some ⟨xs, [], false⟩
  | .lst xs => some ⟨xs, [], false⟩
  | .own xs => some ⟨xs, [], true⟩
  | .cel n => match h[n]? with
    | some (some (.lst xs)) => some ⟨xs, [(n, xs)], false⟩
    | _ => none
  | _ => none
def sAny (m : ME) : S → R S Sr := fun s => (m s).bind fun v s1 => match srcOf s1.h v with
  | some r => .ok r s1
  | none => .bad
def sRng1 (m : MA) : S → R S Sr := fun s => (m s).bind fun v s1 => match v with
  | [.int j] => if j.natAbs ≤ 16777216 then .ok ⟨(List.range j.toNat).map fun (k : Nat) => .int k, [], false⟩ s1 else .bad
  | _ => .bad
def sRng2 (m : MA) : S → R S Sr := fun s => (m s).bind fun v s1 => match v with
  | [.int i, .int j] => if i.natAbs < 4611686018427387904 ∧ j.natAbs < 4611686018427387904 ∧ j - i ≤ 16777216 then .ok ⟨(List.range (j - i).toNat).map fun (k : Nat) => .int (i + k), [], false⟩ s1 else .bad
  | _ => .bad
def zipP (xs ys : List PV) : List PV := List.zipWith (fun x y => .tup [x, y]) xs ys
def enumP : Nat → List PV → List PV
  | _, [] => []
  | n, x :: xs => .tup [.int (n : Int), x] :: enumP (n + 1) xs
/-- .. of lists alone -/
def lsrc (h : AH) : PV → Option Sr
  | .tup _ => none
  | .str _ => none
  | x => srcOf h x
def tupOf : PV → Option (List PV)
  | .tup xs => some xs
  | _ => none
def sZip (m : MA) : S → R S Sr := fun s => (m s).bind fun v s1 => match v with
  | [x, y] => match tupOf x, tupOf y with
    | some xs, some ys => .ok ⟨zipP xs ys, [], false⟩ s1
    | _, _ => match lsrc s1.h x, lsrc s1.h y with
      | some a, some b => .ok ⟨zipP a.xs b.xs, a.w ++ b.w, a.o || b.o⟩ s1
      | _, _ => .bad
  | _ => .bad
def sEnum (m : MA) : S → R S Sr := fun s => (m s).bind fun v s1 => match v with
  | [x] => match lsrc s1.h x with
    | some a => .ok ⟨enumP 0 a.xs, a.w, a.o⟩ s1
    | none => .bad
  | _ => .bad
theorem lsrc_ok {h : AH} {x : PV} {r : Sr} (e : lsrc h x = some r) : srcOf h x = some r ∧ (∀ xs, x ≠ .tup xs) ∧ ∀ y, x ≠ .str y := by
  cases x with
  | tup xs => cases e
  | str x => cases e
  | _ => exact ⟨e, (fun _ z => nomatch z), (fun _ z => nomatch z)⟩
theorem tupOf_ok {x : PV} {xs : List PV} (e : tupOf x = some xs) : x = .tup xs := by
  cases x with
  | tup ys => cases e; rfl
  | _ => cases e
section
variable {X : Cx} {B : Bs} {N : Ent} {WX : L2.WX} {W W' : Wd} {s s' : S} {σ : L2.St} {H H' : Hp} {tg e : Expr} {m : ME} {ma : MA}
theorem srcOf_still {h : AH} {v : PV} {r : Sr} (e : srcOf h v = some r) : stillS h r := by
  intro p hp
  cases v with
  | cel n =>
    unfold srcOf at e
    dsimp only at e
    split at e
    · rename_i xs q
      cases e
      simp only [List.mem_singleton] at hp
      rw [hp]; exact q
    · cases e
  | str x => cases e; cases hp
  | tup x => cases e; cases hp
  | lst x => cases e; cases hp
  | own x => cases e; cases hp
  | _ => cases e
theorem src_sz {x : PV} {x' : V} {r : Sr} {Wq : Wd} {hq : AH} {Hq : Hp} (hr : HRel B Wq hq Hq) (rx : RepT B Wq Hq x x') (e : srcOf hq x = some r) (nt : ∀ xs, x ≠ .tup xs) (ns : ∀ y, x ≠ .str y) : r.xs.length ≤ sizeLine := by
  refine asL_sz hr rx (xs := r.xs) ?_
  cases x with
  | tup xs => exact absurd rfl (nt xs)
  | str y => exact absurd rfl (ns y)
  | lst xs => cases e; rfl
  | own xs => cases e; rfl
  | cel n =>
    unfold srcOf at e
    unfold asL
    dsimp only at e ⊢
    split at e
    · cases e; rename_i q; first | rw [q] | rfl
    · cases e
  | _ => cases e
/-- a list's items, wherever it stands, at every later state -/
theorem srcL {v : PV} {v' : V} {r : Sr} (rx : RepT B W H v v') (e : srcOf s.h v = some r) (nt : ∀ xs, v ≠ .tup xs) (ns : ∀ x, v ≠ .str x) (hr0 : HRel B W s.h H) :
    ∃ a, v' = .ref a ∧ ∀ (W' : Wd) (s' : S) (H' : Hp), HRel B W' s'.h H' → W.Le W' → stillS s'.h r → (r.o = true → Step W s.h H W' s'.h H') → ∃ vs, SqL X.K H' a vs ∧ Reps B W' r.xs vs := by
  cases v with
  | tup xs => exact absurd rfl (nt xs)
  | str x => exact absurd rfl (ns x)
  | lst xs =>
    cases e
    cases (show Rep B W (.lst xs) v' from rx) with
    | lst h r => exact ⟨_, rfl, fun W' s' H' hr le _ _ => ⟨_, .inl (.inl (hr.agree _ _ (le.F _ _ h))), r.mono le⟩⟩
  | own xs =>
    cases e
    obtain ⟨a, vs, rfl, h, r, nm⟩ := rx
    exact ⟨a, rfl, fun W' s' H' hr le _ st => ⟨vs, .inl (.inl ((st rfl).keep _ _ h nt_lst fun z => nm z.mem)), r.mono le⟩⟩
  | cel n =>
    cases (show Rep B W (.cel n) v' from rx) with
    | @cel _ a h =>
      unfold srcOf at e
      dsimp only at e
      split at e
      · rename_i xs q
        cases e
        refine ⟨a, rfl, fun W' s' H' hr le st _ => ?_⟩
        obtain ⟨_, vs, h2, r2⟩ := hr.cell n _ a (st (n, xs) (by simp)) (le.at h)
        exact ⟨vs, .inl (.inl h2), r2⟩
      · cases e
  | _ => cases e
theorem reps_stop {xs : List PV} {vs : List V} (r : Reps B W xs vs) {i : Nat} (h : xs.length ≤ i) : vs.length ≤ i := by rw [← r.length]; exact h
theorem sim_any (hK : X.K = B.K) (he : SimE X B N WX e m) : SimI X B N WX tg e (sAny m) := by
  refine ⟨fun pins sp σ H RR I h => ?_⟩
  obtain ⟨W, s, r, h⟩ := h
  have q := h.bind r.slen
  cases em : m s with
  | bad => rw [em] at q; exact q.elim
  | exc x s' =>
    refine (pi_list he).run pins sp σ H RR I ⟨W, s, r, ?_⟩
    rw [em] at q ⊢
    exact q
  | ok v s1 =>
    rw [em] at q
    have done : ∀ (P : V → Hp → Prop), (∀ W1 H1, Rel B N W1 s1 σ H1 → StepE W s H W1 s1 H1 → Post B N WX W1 s1 H1 σ (match srcOf s1.h v with | some r => R.ok r s1 | none => .bad) (fun r W' s' H' => stillS s'.h r → r.xs.length ≤ sizeLine → ∀ J, Walks B J r W' s' H' → RR J H') → ∀ v', RepT B W1 H1 v v' → P v' H1) → tE B N WX m σ H P := fun P k => by
      refine ⟨W, s, r, ?_⟩
      rw [em]
      exact fun W1 H1 r1 st v' rv => k W1 H1 r1 st (q W1 H1 r1 st) v' rv
    have lst : (∀ xs, v ≠ .tup xs) → (∀ x, v ≠ .str x) → iList X.K (tE B N WX m) σ H RR := fun nt ns => done _ fun W1 H1 r1 st q v' rv => by
      split at q
      · rename_i rr er
        obtain ⟨a, rfl, hl⟩ := srcL (X := X) rv er nt ns r1.hr
        obtain ⟨vs, h1, hrv⟩ := hl W1 s1 H1 r1.hr (.refl _) (srcOf_still er) fun _ => Step.refl r1.hr
        have k := q.ok r1 (srcOf_still er) (src_sz r1.hr rv er nt ns)
        refine ⟨a, rfl, ⟨vs, h1⟩, k _ ⟨fun W' s' H' hr le st2 so i x ex => ?_, fun W' s' H' hr le st2 so i hi => ?_⟩⟩
        · obtain ⟨vs, h1, h2⟩ := hl W' s' H' hr le st2 so
          obtain ⟨u, e1, ru⟩ := h2.get ex
          refine ⟨⟨vs, u, h1, e1⟩, fun w H'' y => ?_⟩
          obtain ⟨rfl, y⟩ := y
          have := y vs h1
          rw [e1] at this
          cases this
          exact ⟨W', .refl _ _, ru⟩
        · obtain ⟨vs, h1, h2⟩ := hl W' s' H' hr le st2 so
          exact ⟨vs, h1, reps_stop h2 hi⟩
      · exact q.elim
    cases v with
    | tup xs =>
      refine (pi_tup he).run pins sp σ H RR I (done _ fun W1 H1 r1 st q v' rv => ?_)
      have k0 := (show Post B N WX W1 s1 H1 σ (R.ok (Sr.mk xs [] false) s1) (fun r W' s' H' => stillS s'.h r → r.xs.length ≤ sizeLine → ∀ J, Walks B J r W' s' H' → RR J H') from q).ok r1 (fun _ hp => nomatch hp)
      cases (show Rep B W1 (.tup xs) v' from rv) with
      | @tup _ a vs h1 h2 =>
        have hl : ∀ W' s' H', HRel B W' s' H' → W1.Le W' → SqT X.K H' a vs := fun W' s' H' hr le => by
          rcases h1 with h1 | ⟨o, its, n, k1, k2, k3, k4, k5⟩
          · exact .inl (.inl (hr.agree _ _ (le.F _ _ h1)))
          · exact .inr ⟨o, its, n, hK ▸ k1, k2, k3, k4, k5⟩
        have k := k0 (by show xs.length ≤ sizeLine; exact tup_sz r1.hr (.tup h1 h2))
        refine ⟨a, rfl, ⟨vs, hl W1 s1.h H1 r1.hr (.refl _)⟩, k _ ⟨fun W' s' H' hr le st2 so i x ex => ?_, fun W' s' H' hr le st2 so i hi => ?_⟩⟩
        · obtain ⟨u, e1, ru⟩ := (h2.mono le).get ex
          refine ⟨⟨vs, u, hl W' s'.h H' hr le, e1⟩, fun w H'' y => ?_⟩
          obtain ⟨rfl, y⟩ := y
          have := y vs (hl W' s'.h _ hr le)
          rw [e1] at this
          cases this
          exact ⟨W', .refl _ _, ru⟩
        · exact ⟨vs, hl W' s'.h H' hr le, reps_stop h2 hi⟩
    | str x =>
      refine (pi_str he).run pins sp σ H RR I (done _ fun W1 H1 r1 st q v' rv => ?_)
      have k0 := (show Post B N WX W1 s1 H1 σ (R.ok (Sr.mk (x.cps.toList.map fun c => .str ⟨#[c]⟩) [] false) s1) (fun r W' s' H' => stillS s'.h r → r.xs.length ≤ sizeLine → ∀ J, Walks B J r W' s' H' → RR J H') from q).ok r1 (fun _ hp => nomatch hp)
      obtain ⟨e1, kx⟩ := rep_str rv
      have k := k0 (by show (x.cps.toList.map fun c => PV.str ⟨#[c]⟩).length ≤ sizeLine; rw [List.length_map, Array.length_toList]; exact kx.2)
      refine ⟨x, e1, k _ ⟨fun W' s' H' hr le st2 so i y ey => ?_, fun W' s' H' hr le st2 so i hi => ?_⟩⟩
      · have ey : (x.cps.toList.map fun c => PV.str ⟨#[c]⟩)[i]? = some y := ey
        rw [List.getElem?_map] at ey
        cases ec : x.cps.toList[i]? with
        | none => rw [ec] at ey; cases ey
        | some c =>
          rw [ec] at ey
          cases ey
          have hi : i < x.cps.size := by simpa using (List.getElem?_eq_some_iff.mp ec).1
          refine ⟨hi, fun w H'' y => ?_⟩
          obtain ⟨rfl, d, e2, rfl⟩ := y
          have ed : d = c := by
            have e3 : x.cps.toList[i]? = x.cps[i]? := by simp
            rw [e3, e2] at ec
            exact Option.some.inj ec
          subst ed
          refine ⟨W', .refl _ _, .str _ (sok_sub kx ?_ fun z hz => ?_)⟩
          · show 1 ≤ x.cps.size
            omega
          · have : z = d := by simpa using hz
            rw [this]; exact List.mem_of_getElem? ec
      · have hi : (x.cps.toList.map fun c => PV.str ⟨#[c]⟩).length ≤ i := hi
        rw [List.length_map, Array.length_toList] at hi
        exact hi
    | lst xs => exact (pi_list he).run pins sp σ H RR I (lst (by intro _ z; cases z) (by intro _ z; cases z))
    | scr xs => exact (pi_list he).run pins sp σ H RR I (lst (by intro _ z; cases z) (by intro _ z; cases z))
    | own xs => exact (pi_list he).run pins sp σ H RR I (lst (by intro _ z; cases z) (by intro _ z; cases z))
    | cel xs => exact (pi_list he).run pins sp σ H RR I (lst (by intro _ z; cases z) (by intro _ z; cases z))
    | _ => exact (pi_list he).run pins sp σ H RR I (lst (by intro _ z; cases z) (by intro _ z; cases z))
theorem sim_rng1 {a : Expr} {p pos : Pos} (hg : Gl X "range") (hm : X.mg "range" = none) (ha : SimA X B N WX [a] ma) (hs : starEach [a] X.env = [(false, eval a X.env)]) : SimI X B N WX tg (.Call (.Name "range" p) [a] [] pos) (sRng1 ma) :=
  PI_imp (pi_range1 hg hm ha hs) fun σ H Q ⟨W, s, r, h⟩ => ⟨W, s, r, (h.bind r.slen).mono fun v W1 s1 H1 r1 _ q v' rv => by
    split at q
    · rename_i j
      split at q
      · rename_i hj
        obtain ⟨u, rfl, ru⟩ := repts1 rv
        have k := q.ok r1 (fun _ hp => nomatch hp) (by show ((List.range j.toNat).map fun (k : Nat) => PV.int k).length ≤ sizeLine; rw [List.length_map, List.length_range, sizeLine_eq]; omega)
        refine ⟨j, by rw [rep_int ru], by omega, by omega, k _ ⟨fun W' s' H' hr le st2 so i x ex => ?_, fun W' s' H' hr le st2 so i hi => ?_⟩⟩
        · have ex : ((List.range j.toNat).map fun (k : Nat) => PV.int k)[i]? = some x := ex
          rw [List.getElem?_map] at ex
          cases ei : (List.range j.toNat)[i]? with
          | none => rw [ei] at ex; cases ex
          | some k =>
            rw [ei] at ex
            cases ex
            obtain ⟨h1, h2⟩ := List.getElem?_eq_some_iff.mp ei
            simp only [List.getElem_range] at h2
            simp only [List.length_range] at h1
            refine ⟨h1, fun w H'' y => ?_⟩
            obtain ⟨rfl, rfl⟩ := y
            exact ⟨W', .refl _ _, by rw [← h2]; simpa using Rep.int (i : Int)⟩
        · have hi : ((List.range j.toNat).map fun (k : Nat) => PV.int k).length ≤ i := hi
          rw [List.length_map, List.length_range] at hi
          exact hi
      · exact q.elim
    · exact q.elim⟩
theorem sim_rng2 {a b : Expr} {p pos : Pos} (hg : Gl X "range") (hm : X.mg "range" = none) (ha : SimA X B N WX [a, b] ma) (hs : starEach [a, b] X.env = [(false, eval a X.env), (false, eval b X.env)]) (hs2 : starEach [b] X.env = [(false, eval b X.env)]) : SimI X B N WX tg (.Call (.Name "range" p) [a, b] [] pos) (sRng2 ma) :=
  PI_imp (pi_range2 hg hm ha hs hs2) fun σ H Q ⟨W, s, r, h⟩ => ⟨W, s, r, (h.bind r.slen).mono fun v W1 s1 H1 r1 _ q v' rv => by
    split at q
    · rename_i i0 j
      split at q
      · rename_i hj
        obtain ⟨u, u2, rfl, ru, ru2⟩ := repts2 rv
        have k := q.ok r1 (fun _ hp => nomatch hp) (by show ((List.range (j - i0).toNat).map fun (k : Nat) => PV.int (i0 + k)).length ≤ sizeLine; rw [List.length_map, List.length_range, sizeLine_eq]; omega)
        refine ⟨i0, j, by rw [rep_int ru, rep_int ru2], by omega, k _ ⟨fun W' s' H' hr le st2 so i x ex => ?_, fun W' s' H' hr le st2 so i hi => ?_⟩⟩
        · have ex : ((List.range (j - i0).toNat).map fun (k : Nat) => PV.int (i0 + k))[i]? = some x := ex
          rw [List.getElem?_map] at ex
          cases ei : (List.range (j - i0).toNat)[i]? with
          | none => rw [ei] at ex; cases ex
          | some k =>
            rw [ei] at ex
            cases ex
            obtain ⟨h1, h2⟩ := List.getElem?_eq_some_iff.mp ei
            simp only [List.getElem_range] at h2
            simp only [List.length_range] at h1
            refine ⟨h1, fun w H'' y => ?_⟩
            obtain ⟨rfl, rfl⟩ := y
            exact ⟨W', .refl _ _, by rw [← h2]; exact Rep.int _⟩
        · have hi : ((List.range (j - i0).toNat).map fun (k : Nat) => PV.int (i0 + k)).length ≤ i := hi
          rw [List.length_map, List.length_range] at hi
          exact hi
      · exact q.elim
    · exact q.elim⟩
theorem enumP_get : ∀ {xs : List PV} {n i : Nat} {z : PV}, (enumP n xs)[i]? = some z → ∃ x, xs[i]? = some x ∧ z = .tup [.int ((n + i : Nat) : Int), x]
  | [], _, _, _, h => by simp [enumP] at h
  | x :: xs, n, 0, z, h => by
    simp only [enumP, List.getElem?_cons_zero, Option.some.injEq] at h
    exact ⟨x, rfl, by rw [← h]; rfl⟩
  | x :: xs, n, i + 1, z, h => by
    simp only [enumP, List.getElem?_cons_succ] at h
    obtain ⟨y, e1, e2⟩ := enumP_get h
    exact ⟨y, by simpa using e1, by rw [e2]; congr 3; congr 1; omega⟩
theorem enumP_len : ∀ {xs : List PV} {n : Nat}, (enumP n xs).length = xs.length
  | [], _ => rfl
  | _ :: xs, n => by simp only [enumP, List.length_cons, enumP_len]
theorem grow_pair {T : Addr} {x y : PV} {u v : V} {Wq : Wd} {Hq : Hp} {hq : AH} (hr : HRel B Wq hq Hq) (hT : Hq T = none) (rx : Rep B Wq x u) (ry : Rep B Wq y v) : ∃ W'', Grow Wq Hq W'' (upd Hq T (.tup [u, v])) ∧ Rep B W'' (.tup [x, y]) (.ref T) :=
  ⟨_, .new hT (by show 2 ≤ sizeLine; decide), rep_tup_new (hr.fnone hT) (.cons rx (.cons ry .nil))⟩
theorem sim_enum {a : Expr} {p pos tpos : Pos} {elts : List Expr} {kk : Nat} (hg : Gl X "enumerate") (hm : X.mg "enumerate" = none) (ha : SimA X B N WX [a] ma) (hs : starEach [a] X.env = [(false, eval a X.env)]) : SimI X B N WX (.Tuple elts kk tpos) (.Call (.Name "enumerate" p) [a] [] pos) (sEnum ma) :=
  PI_imp (pi_enum hg hm ha hs) fun σ H Q ⟨W, s, r, h⟩ => ⟨W, s, r, (h.bind r.slen).mono fun v W1 s1 H1 r1 _ q v' rv => by
    split at q
    · rename_i x
      obtain ⟨u, rfl, ru⟩ := repts1 rv
      split at q
      · rename_i rr er0
        obtain ⟨er, nt, ns⟩ := lsrc_ok er0
        obtain ⟨a, rfl, hl⟩ := srcL (X := X) ru er nt ns r1.hr
        obtain ⟨vs, h1, hrv⟩ := hl W1 s1 H1 r1.hr (.refl _) (srcOf_still er) fun _ => Step.refl r1.hr
        have k := q.ok r1 (fun p hp => srcOf_still er p hp) (by show (enumP 0 rr.xs).length ≤ sizeLine; rw [enumP_len]; exact src_sz r1.hr ru er nt ns)
        refine ⟨a, vs, rfl, h1, k _ ⟨fun W' s' H' hr le st2 so i z ez => ?_, fun W' s' H' hr le st2 so i hi => ?_⟩⟩
        · obtain ⟨vs, h1, h2⟩ := hl W' s' H' hr le st2 so
          obtain ⟨y, ey, rfl⟩ := enumP_get ez
          obtain ⟨u, e1, ru⟩ := h2.get ey
          refine ⟨⟨vs, u, h1, e1⟩, fun w H'' yl => ?_⟩
          obtain ⟨T, w1, rfl, hT, rfl, y3⟩ := yl
          have := y3 vs h1
          rw [e1] at this
          cases this
          rw [Nat.zero_add]
          exact grow_pair hr hT (.int _) ru
        · obtain ⟨vs, h1, h2⟩ := hl W' s' H' hr le st2 so
          have hi : (enumP 0 rr.xs).length ≤ i := hi
          rw [enumP_len] at hi
          exact ⟨vs, h1, reps_stop h2 hi⟩
      · exact q.elim
    · exact q.elim⟩
theorem still_l {h : AH} {a b : Sr} {zs : List PV} {o : Bool} (st : stillS h ⟨zs, a.w ++ b.w, o⟩) : stillS h a := fun p hp => st p (List.mem_append_left _ hp)
theorem still_r {h : AH} {a b : Sr} {zs : List PV} {o : Bool} (st : stillS h ⟨zs, a.w ++ b.w, o⟩) : stillS h b := fun p hp => st p (List.mem_append_right _ hp)
theorem zip_go {xs ys : List PV} {vs ws : List V} {Wq : Wd} {Hq : Hp} {hq : AH} {i : Nat} {z : PV} (hr : HRel B Wq hq Hq) (h2 : Reps B Wq xs vs) (h4 : Reps B Wq ys ws) (ez : (zipP xs ys)[i]? = some z) :
    ∃ x y u v, xs[i]? = some x ∧ ys[i]? = some y ∧ vs[i]? = some u ∧ ws[i]? = some v ∧ Rep B Wq x u ∧ Rep B Wq y v ∧ z = .tup [x, y] := by
  unfold zipP at ez
  rw [List.getElem?_zipWith] at ez
  cases ex : xs[i]? with
  | none => rw [ex] at ez; cases ez
  | some x =>
    cases ey : ys[i]? with
    | none => rw [ex, ey] at ez; cases ez
    | some y =>
      rw [ex, ey] at ez
      cases ez
      obtain ⟨u, e1, ru⟩ := h2.get ex
      obtain ⟨v, e2, rv⟩ := h4.get ey
      exact ⟨x, y, u, v, rfl, rfl, e1, e2, ru, rv, rfl⟩
theorem sim_zip {a b : Expr} {p pos tpos : Pos} {elts : List Expr} {kk : Nat} (hK : X.K = B.K) (hg : Gl X "zip") (hm : X.mg "zip" = none) (ha : SimA X B N WX [a, b] ma) (hs : starEach [a, b] X.env = [(false, eval a X.env), (false, eval b X.env)]) (hs2 : starEach [b] X.env = [(false, eval b X.env)]) (hpl : (backTo pos (starEach [b] X.env)).any (·.1) = false) : SimI X B N WX (.Tuple elts kk tpos) (.Call (.Name "zip" p) [a, b] [] pos) (sZip ma) :=
  PI_imp (RZ.pi_zipA hg hm ha (by rw [hs, hs2]) hpl) fun σ H Q ⟨W, s, r, h⟩ => ⟨W, s, r, (h.bind r.slen).mono fun v W1 s1 H1 r1 _ q v' rv => by
    split at q
    · rename_i x y
      obtain ⟨u, u2, rfl, ru, ru2⟩ := repts2 rv
      split at q
      · rename_i xs ys ex ey
        have ex := tupOf_ok ex
        have ey := tupOf_ok ey
        subst ex ey
        have k0 := q.ok r1 (fun _ hp => nomatch hp)
        cases (show Rep B W1 (.tup xs) u from ru) with
        | @tup _ a vs h1 h2 =>
          cases (show Rep B W1 (.tup ys) u2 from ru2) with
          | @tup _ b ws h3 h4 =>
            have hl : ∀ {a : Addr} {vs : List V}, TupAt B W1 a vs → ∀ W' s' H', HRel B W' s' H' → W1.Le W' → SqT X.K H' a vs := fun h1 W' s' H' hr le => by
              rcases h1 with h1 | ⟨o, its, n, k1, k2, k3, k4, k5⟩
              · exact .inl (.inl (hr.agree _ _ (le.F _ _ h1)))
              · exact .inr ⟨o, its, n, hK ▸ k1, k2, k3, k4, k5⟩
            have k := k0 (by
              have := tup_sz r1.hr (.tup h1 h2)
              show (zipP xs ys).length ≤ sizeLine
              unfold zipP
              rw [List.length_zipWith]
              omega)
            refine ⟨a, b, vs, ws, rfl, .inr ⟨hl h1 _ _ _ r1.hr (.refl _), hl h3 _ _ _ r1.hr (.refl _), k _ ⟨fun W' s' H' hr le st2 so i z ez => ?_, fun W' s' H' hr le st2 so i hi => ?_⟩⟩⟩
            · obtain ⟨x, y, u, v, e1, e2, e3, e4, rx, ry, rfl⟩ := zip_go hr (h2.mono le) (h4.mono le) ez
              refine ⟨⟨vs, ws, u, v, hl h1 _ _ _ hr le, hl h3 _ _ _ hr le, e3, e4⟩, fun w H'' yl => ?_⟩
              obtain ⟨T, w1, w2, rfl, hT, rfl, y3, y4⟩ := yl
              have t1 := y3 vs (hl h1 _ _ _ hr le)
              have t2 := y4 ws (hl h3 _ _ _ hr le)
              rw [e3] at t1
              rw [e4] at t2
              cases t1
              cases t2
              exact grow_pair hr hT rx ry
            · refine ⟨vs, ws, hl h1 _ _ _ hr le, hl h3 _ _ _ hr le, ?_⟩
              have hi : (zipP xs ys).length ≤ i := hi
              unfold zipP at hi
              rw [List.length_zipWith, h2.length, h4.length] at hi
              omega
      · split at q
        · rename_i ra rb ea eb
          obtain ⟨ea, nt, ns⟩ := lsrc_ok ea
          obtain ⟨eb, nt2, ns2⟩ := lsrc_ok eb
          obtain ⟨a, rfl, hl⟩ := srcL (X := X) ru ea nt ns r1.hr
          obtain ⟨b, rfl, hl2⟩ := srcL (X := X) ru2 eb nt2 ns2 r1.hr
          have oa : ∀ {Z : Prop}, ((ra.o || rb.o) = true → Z) → ra.o = true → Z := fun f e => f (by rw [e]; rfl)
          have ob : ∀ {Z : Prop}, ((ra.o || rb.o) = true → Z) → rb.o = true → Z := fun f e => f (by rw [e, Bool.or_true])
          obtain ⟨vs0, h10, hr10⟩ := hl W1 s1 H1 r1.hr (.refl _) (srcOf_still ea) fun _ => Step.refl r1.hr
          obtain ⟨ws0, h30, _⟩ := hl2 W1 s1 H1 r1.hr (.refl _) (srcOf_still eb) fun _ => Step.refl r1.hr
          have k := q.ok r1 (fun p hp => (List.mem_append.mp hp).elim (srcOf_still ea p) (srcOf_still eb p)) (by
            have := src_sz r1.hr ru ea nt ns
            show (zipP ra.xs rb.xs).length ≤ sizeLine
            unfold zipP
            rw [List.length_zipWith]
            omega)
          refine ⟨a, b, vs0, ws0, rfl, .inl ⟨h10, h30, k _ ⟨fun W' s' H' hr le st2 so i z ez => ?_, fun W' s' H' hr le st2 so i hi => ?_⟩⟩⟩
          · obtain ⟨vs, h1, h2⟩ := hl W' s' H' hr le (still_l st2) (oa so)
            obtain ⟨ws, h3, h4⟩ := hl2 W' s' H' hr le (still_r st2) (ob so)
            obtain ⟨x, y, u, v, e1, e2, e3, e4, rx, ry, rfl⟩ := zip_go hr h2 h4 ez
            refine ⟨⟨vs, ws, u, v, h1, h3, e3, e4⟩, fun w H'' yl => ?_⟩
            obtain ⟨T, w1, w2, rfl, hT, rfl, y3, y4⟩ := yl
            have t1 := y3 vs h1
            have t2 := y4 ws h3
            rw [e3] at t1
            rw [e4] at t2
            cases t1
            cases t2
            exact grow_pair hr hT rx ry
          · obtain ⟨vs, h1, h2⟩ := hl W' s' H' hr le (still_l st2) (oa so)
            obtain ⟨ws, h3, h4⟩ := hl2 W' s' H' hr le (still_r st2) (ob so)
            refine ⟨vs, ws, h1, h3, ?_⟩
            have hi : (zipP ra.xs rb.xs).length ≤ i := hi
            unfold zipP at hi
            rw [List.length_zipWith, h2.length, h4.length] at hi
            omega
        · exact q.elim
    · exact q.elim⟩
end

/-! ### comprehensions -/
def testY : S → R S Bool := fun s => .ok true s
section
variable {X : Cx} {B : Bs} {N : Ent} {WX : L2.WX}
def SimTs (X : Cx) (B : Bs) (N : Ent) (WX : L2.WX) (ifs : List Expr) (m : S → R S Bool) : Prop := PTs X ifs (tT B N WX m)
theorem PTs_imp {ifs : List Expr} {t t' : TT} (h : PTs X ifs t) (w : ∀ σ H Q, t' σ H Q → t σ H Q) : PTs X ifs t' := ⟨fun pins s σ H Q I q => h.run pins s σ H Q I (w _ _ _ q)⟩
theorem simTs_nil : SimTs X B N WX [] testY := PTs_imp pts_nil fun σ H Q ⟨W, s, r, h⟩ => h.ok r
theorem simTs_one {c : Expr} {m : S → R S Bool} (h : SimT X B N WX c m) : SimTs X B N WX [c] m := pts_one h
end
/-- nothing is raised within a comprehension -/
def R.nx {τ α : Type} (r : R τ α) : R τ α := match r with
  | .ok a s => .ok a s
  | _ => .bad
@[simp] theorem R.nx_ok {τ α : Type} (a : α) (s : τ) : (R.ok a s).nx = .ok a s := rfl
@[simp] theorem R.nx_bad {τ α : Type} : (R.bad : R τ α).nx = .bad := rfl
theorem R.post_nx {τ α : Type} {r : R τ α} {P : α → τ → Prop} {E E' : PV → τ → Prop} (h : r.nx.post P E) : r.post P E' := by
  cases r with
  | ok a s => exact h
  | exc x s => exact h.elim
  | bad => exact h
/-- one turn: the item x, what is made so far acc -/
def stepC (t : Tg) (tt : S → R S Bool) (te : ME) (vs : List Nat) (x : PV) (acc : List PV) : S → R S (List PV) := fun s => match bindT t x (wipeE s.e vs) with
  | some e1 => (tt ⟨e1, s.h⟩).nx.bind fun b s2 => if b = true then (te s2).nx.bind fun y s3 => if isOwn y = true then .bad else .ok (acc ++ [y]) ⟨wipeE s3.e vs, s3.h⟩ else .ok acc ⟨wipeE s2.e vs, s2.h⟩
  | none => .bad
open Classical in
noncomputable def loopC (r : Sr) (t : Tg) (tt : S → R S Bool) (te : ME) (vs : List Nat) : List PV → List PV → S → R S (List PV)
  | [], acc, s => .ok acc s
  | x :: xs, acc, s => (stepC t tt te vs x acc s).bind fun acc' s' => if stillS s'.h r then loopC r t tt te vs xs acc' s' else .bad
noncomputable def eCompN (src : S → R S Sr) (t : Tg) (tt : S → R S Bool) (te : ME) (vs : List Nat) : S → R S (List PV) := fun s => (src s).bind fun r s1 => loopC r t tt te vs r.xs [] ⟨wipeE s1.e vs, s1.h⟩
noncomputable def eComp (src : S → R S Sr) (t : Tg) (tt : S → R S Bool) (te : ME) (vs : List Nat) : ME := fun s => (eCompN src t tt te vs s).bind fun acc s1 => .ok (.lst acc) s1
/-- it raises nothing -/
def R.Nx {τ α : Type} : R τ α → Prop
  | .exc _ _ => False
  | _ => True
theorem R.Nx.bind {τ α β : Type} {r : R τ α} {f : α → τ → R τ β} (h : r.Nx) (k : ∀ a s, (f a s).Nx) : (r.bind f).Nx := by
  cases r with
  | ok a s => exact k a s
  | exc x s => exact h
  | bad => exact trivial
theorem R.nx_Nx {τ α : Type} (r : R τ α) : r.nx.Nx := by cases r <;> exact trivial
theorem R.post_of_nx {τ α : Type} {r : R τ α} {P : α → τ → Prop} {E E' : PV → τ → Prop} (n : r.Nx) (h : r.post P E) : r.post P E' := by
  cases r with
  | ok a s => exact h
  | exc x s => exact n.elim
  | bad => exact h
theorem stepC_nx (t : Tg) (tt : S → R S Bool) (te : ME) (vs : List Nat) (x : PV) (acc : List PV) (s : S) : (stepC t tt te vs x acc s).Nx := by
  unfold stepC
  split
  · refine (R.nx_Nx _).bind fun b s2 => ?_
    split
    · refine (R.nx_Nx _).bind fun y s3 => ?_
      split <;> exact trivial
    · exact trivial
  · exact trivial
theorem loopC_nx (r : Sr) (t : Tg) (tt : S → R S Bool) (te : ME) (vs : List Nat) : ∀ (xs acc : List PV) (s : S), (loopC r t tt te vs xs acc s).Nx
  | [], _, _ => trivial
  | x :: xs, acc, s => by
    unfold loopC
    refine (stepC_nx t tt te vs x acc s).bind fun acc' s' => ?_
    split
    · exact loopC_nx r t tt te vs xs acc' s'
    · exact trivial
section
variable {X : Cx} {B : Bs} {N : Ent} {WX : L2.WX} {W W' : Wd} {s s' : S} {σ : L2.St} {H H' : Hp}
/-- a new list, not yet put anywhere: what is wanted of it -/
def tN (B : Bs) (N : Ent) (WX : L2.WX) (m : S → R S (List PV)) : TE := fun σ H Q => ∃ W s, Rel B N W s σ H ∧ Post B N WX W s H σ (m s) fun xs W' s' H' => ∀ p vs, H p = none → Loose N W' s' σ p → H' p = some (.lst vs) → Reps B W' xs vs → Q (.ref p) H'
abbrev SimN (X : Cx) (B : Bs) (N : Ent) (WX : L2.WX) (e : Expr) (m : S → R S (List PV)) : Prop := PE X e (tN B N WX m)
def shN (m : S → R S (List PV)) : ME := fun s => (m s).bind fun xs s1 => .ok (.lst xs) s1
/-- it is put up for good: a list as a value -/
theorem tE_sh {m : S → R S (List PV)} {Q : VK} (h : tE B N WX (shN m) σ H Q) : tN B N WX m σ H Q := by
  obtain ⟨W, s, r, h⟩ := h
  refine ⟨W, s, r, R.post_mono (R.post_bind h) (fun xs s1 q W1 H1 r1 st p vs hp l hH rv => ?_) fun x s1 q => q⟩
  exact q _ H1 (rel_keep r1 l hH nt_lst) (st.keepNew hp l.F) _ (Rep.lst upd_same (rv.mono (le_new l.F))).hand
theorem SimN.sh {e : Expr} {m : S → R S (List PV)} (h : SimN X B N WX e m) : SimE X B N WX e (shN m) := h.imp fun _ _ _ h => tE_sh h
theorem cmp_wipe {σ : L2.St} : ∀ vs : List Nat, wipe (wipe σ vs) vs = wipe σ vs := fun vs => by
  have key : ∀ (us : List Nat), (∀ u ∈ us, u ∈ vs) → wipe (wipe σ us) vs = wipe σ vs := by
    intro us
    induction us with
    | nil => intro _; rfl
    | cons u us ih =>
      intro h
      show wipe ((wipe σ us).set u none) vs = wipe σ vs
      rw [wipe_set (h u (by simp))]
      exact ih fun w hw => h w (List.mem_cons_of_mem _ hw)
  exact key vs fun _ h => h
mutual
theorem bindT_own : ∀ {t : Tg} {x : PV} {e e' : List (Option PV)}, bindT t x e = some e' → ∀ (i : Nat) (y : PV), e'[i]? = some (some y) → isOwn y = true → e[i]? = some (some y)
  | .n j, x, e, e', h, i, y, e1, o => by
    rw [bindT] at h
    split at h
    · cases h
    · rename_i hx
      cases h
      by_cases hj : j = i
      · subst hj
        by_cases hl : j < e.length
        · rw [List.getElem?_set_self hl] at e1
          cases e1
          exact absurd o hx
        · rw [List.getElem?_eq_none (by rw [List.length_set]; omega)] at e1
          cases e1
      · rw [List.getElem?_set_ne hj] at e1
        exact e1
  | .t ts, x, e, e', h, i, y, e1, o => by
    cases x with
    | tup xs => rw [bindT] at h; exact bindTs_own h i y e1 o
    | _ => simp [bindT] at h
theorem bindTs_own : ∀ {ts : List Tg} {xs : List PV} {e e' : List (Option PV)}, bindTs ts xs e = some e' → ∀ (i : Nat) (y : PV), e'[i]? = some (some y) → isOwn y = true → e[i]? = some (some y)
  | [], [], e, e', h, i, y, e1, o => by rw [bindTs] at h; cases h; exact e1
  | [], _ :: _, _, _, h, _, _, _, _ => by simp [bindTs] at h
  | _ :: _, [], _, _, h, _, _, _, _ => by simp [bindTs] at h
  | t :: ts, x :: xs, e, e', h, i, y, e1, o => by
    rw [bindTs] at h
    cases q : bindT t x e with
    | none => rw [q] at h; cases h
    | some e2 =>
      rw [q] at h
      exact bindT_own q i y (bindTs_own h i y e1 o) o
end
theorem stepE_wipe {vs : List Nat} (st : StepE W s H W' s' H') : StepE W s H W' ⟨wipeE s'.e vs, s'.h⟩ H' := ⟨st.st, fun i x e o => st.eo i x (wipeE_get e).1 o⟩
theorem stepE_bind {t : Tg} {x : PV} {vs : List Nat} {e1 : List (Option PV)} (st : StepE W s H W' s' H') (hb : bindT t x (wipeE s'.e vs) = some e1) : StepE W s H W' ⟨e1, s'.h⟩ H' := ⟨st.st, fun i x e o => st.eo i x (wipeE_get (bindT_own hb i x e o)).1 o⟩
theorem loose_bind {t : Tg} {x : PV} {vs : List Nat} {e1 : List (Option PV)} {p : Addr} {σ2 : L2.St} (l : Loose N W s σ p) (hb : bindT t x (wipeE s.e vs) = some e1) (hw : wipe σ2 vs = wipe σ vs) : Loose N W ⟨e1, s.h⟩ σ2 p :=
  ⟨l.F, l.m, fun i x e o z => by
    obtain ⟨e2, hi⟩ := wipeE_get (bindT_own hb i x e o)
    have : σ2[i]? = σ[i]? := by rw [← wipe_at (σ := σ2) hi, hw, wipe_at hi]
    rw [this] at z
    exact l.o i x e2 o z, l.e⟩
theorem loose_back {vs : List Nat} {p : Addr} {σ2 : L2.St} (l : Loose N W s σ2 p) (hw : wipe σ2 vs = wipe σ vs) : Loose N W ⟨wipeE s.e vs, s.h⟩ σ p :=
  ⟨l.F, l.m, fun i x e o z => by
    obtain ⟨e2, hi⟩ := wipeE_get e
    have : σ2[i]? = σ[i]? := by rw [← wipe_at (σ := σ2) hi, hw, wipe_at hi]
    rw [← this] at z
    exact l.o i x e2 o z, l.e⟩
theorem loose_put {p : Addr} (l : Loose N W s σ p) : Loose N W s σ p := l
abbrev WF : L2.WX := fun _ _ _ _ => False
theorem comp_core {r : Sr} {t : Tg} {tt : S → R S Bool} {te : ME} {vs : List Nat} {J : It} {W1 : Wd} {s0 s1 : S} {H1 : Hp} {D : Addr} {Q : VK} {Pf : List PV → Wd → S → Hp → Prop} (hK : X.K = B.K) (hv : ∀ i ∈ t.sl, i ∈ vs)
    (r1 : Rel B N W1 s1 σ H1) (wk : Walks B J r W1 s0 H1) (e0 : s0.h = s1.h) (st0 : stillS s1.h r) (hD : H1 D = none) (hline : r.xs.length ≤ sizeLine)
    (q : Post B N WF W1 s1 H1 σ (loopC r t tt te vs r.xs [] s1) Pf) (fin : ∀ xs av W' s' H', Rel B N W' s' σ H' → StepE W1 s1 H1 W' s' H' → Pf xs W' s' H' → Loose N W' s' σ D → H' D = some (.lst av) → Reps B W' xs av → Q (.ref D) H') :
    ∃ Wm : Nat → Nat → Hp → Prop, (∃ m, Wm 0 m (upd H1 D (.lst []))) ∧ ∀ i m H, Wm i m H →
      (J.stop i H ∧ Q (.ref D) H) ∨ (J.go i H ∧ ∃ Nx : Hp → Prop, (∀ H', Nx H' → ∃ m', m' < m ∧ Wm (i + 1) m' H') ∧ ∀ x H', J.yld i H x H' → gT X.K t x (wipe σ vs) H' fun σ2 H2 => wipe σ2 vs = wipe σ vs ∧ tT B N WF tt σ2 H2 fun b H3 =>
        if b = true then tE B N WF te σ2 H3 fun y H4 => ∃ acc, H4 D = some (.lst acc) ∧ acc.length < sizeLine ∧ Nx (upd H4 D (.lst (acc ++ [y]))) else Nx H3) := by
  -- what holds ahead of turn i
  let Iv : Nat → Hp → Prop := fun i H => ∃ W' s' acc av, Rel B N W' s' σ H ∧ StepE W1 s1 H1 W' s' H ∧ Loose N W' s' σ D ∧ H D = some (.lst av) ∧ Reps B W' acc av ∧ acc.length ≤ i ∧ i ≤ r.xs.length ∧ stillS s'.h r ∧
    Post B N WF W1 s1 H1 σ (loopC r t tt te vs (r.xs.drop i) acc s') Pf
  refine ⟨fun i m H => m = r.xs.length - i ∧ Iv i H, ⟨r.xs.length, rfl, W1, s1, [], [], rel_put r1 (r1.loose hD) (Nat.zero_le _) (.inl hD), (StepE.refl r1.hr).put hD (r1.loose hD).m, r1.loose hD, upd_same, .nil, Nat.le_refl _, Nat.zero_le _, st0, by simpa using q⟩, ?_⟩
  rintro i m H ⟨rfl, W', s', acc, av, r', st', l', hDv, ra, hacc, hi, sl', q'⟩
  have own_st : r.o = true → Step W1 s0.h H1 W' s'.h H := fun _ => by rw [e0]; exact st'.st
  by_cases hlt : i < r.xs.length
  · refine .inr ?_
    have ex := List.getElem?_eq_getElem hlt
    obtain ⟨g1, g2⟩ := wk.go W' s' H r'.hr st'.st.le sl' own_st i _ ex
    refine ⟨g1, fun H' => Iv (i + 1) H', fun H' hv' => ⟨r.xs.length - (i + 1), by omega, rfl, hv'⟩, fun v H2 y => ?_⟩
    obtain ⟨W2, gr, rx⟩ := g2 v H2 y
    rw [List.drop_eq_getElem_cons hlt] at q'
    have q2 := R.post_bind (show ((stepC t tt te vs r.xs[i] acc s').bind fun acc' s' => @ite _ (stillS s'.h r) (Classical.propDecidable _) (loopC r t tt te vs (r.xs.drop (i + 1)) acc' s') .bad).post _ _ from q')
    have r2 := gr.rel r'
    have st2 := st'.trans r1.slen (gr.stepE r'.hr)
    have l2 := l'.on r'.slen (gr.stepE r'.hr) (by rw [hDv]; exact fun z => nomatch z)
    have d2 := l'.held (gr.stepE r'.hr) hDv nt_lst
    unfold stepC at q2
    cases eb : bindT t r.xs[i] (wipeE s'.e vs) with
    | none => rw [eb] at q2; exact q2.elim
    | some e1 =>
      rw [eb] at q2
      refine gT_ok hK (vs := vs) (s := ⟨wipeE s'.e vs, s'.h⟩) hv (rel_wipe r2) rx eb fun σ2 r3 w3 => ?_
      have w3 : wipe σ2 vs = wipe σ vs := w3.trans (cmp_wipe vs)
      have st3 : StepE W1 s1 H1 W2 ⟨e1, s'.h⟩ H2 := stepE_bind st2 eb
      have l3 : Loose N W2 ⟨e1, s'.h⟩ σ2 D := loose_bind l2 eb w3
      refine ⟨w3, W2, ⟨e1, s'.h⟩, r3, R.post_mono (R.post_nx (E' := fun _ _ => False) (R.post_bind q2)) (fun b s4 q4 W4 H4 r4 st4 => ?_) fun x s4 q4 => q4.elim⟩
      have l4 := l3.on r3.slen st4 (by rw [d2]; exact fun z => nomatch z)
      have d4 := l3.held st4 d2 nt_lst
      have st14 := st3.trans r1.slen st4
      have go : ∀ {acc' : List PV} {av' : List V} {W5 : Wd} {s5 : S} {H5 : Hp}, Rel B N W5 s5 σ2 H5 → StepE W1 s1 H1 W5 s5 H5 → Loose N W5 s5 σ2 D → H5 D = some (.lst av') → Reps B W5 acc' av' → acc'.length ≤ i + 1 →
          (@ite _ (stillS s5.h r) (Classical.propDecidable _) (loopC r t tt te vs (r.xs.drop (i + 1)) acc' ⟨wipeE s5.e vs, s5.h⟩) .bad).post (fun v s' => ∀ W' H', Rel B N W' s' σ H' → StepE W1 s1 H1 W' s' H' → Pf v W' s' H') (fun x s' => ∀ W' H' cls d, Rel B N W' s' σ H' → StepE W1 s1 H1 W' s' H' → ExcR B N.H W' H' x cls d → Nw H1 d → WF cls d σ H') →
          Iv (i + 1) H5 := fun {acc' av' W5 s5 H5} r5 st5 l5 d5 ra5 h5 q5 => by
        split at q5
        · rename_i hst
          exact ⟨W5, ⟨wipeE s5.e vs, s5.h⟩, acc', av', rel_back r5 w3, stepE_wipe st5, loose_back l5 w3, d5, ra5, h5, hlt, hst, q5⟩
        · exact q5.elim
      cases b with
      | false =>
        refine iteF (go r4 st14 l4 d4 (ra.mono (gr.stepE r'.hr).st.le |>.mono st4.st.le) (by omega) ?_)
        exact q4
      | true =>
        refine iteT ⟨W4, s4, r4, R.post_mono (R.post_nx (E' := fun _ _ => False) (R.post_bind (show ((te s4).nx.bind fun y s3 => if isOwn y = true then R.bad else R.ok (acc ++ [y]) ⟨wipeE s3.e vs, s3.h⟩).post _ _ from q4))) (fun y s5 q5 W5 H5 r5 st5 y' ry => ?_) fun x s5 q5 => q5.elim⟩
        · split at q5
          · exact q5.elim
          · rename_i oy
            have l5 := l4.on r4.slen st5 (by rw [d4]; exact fun z => nomatch z)
            have d5 := l4.held st5 d4 nt_lst
            have ra5 : Reps B W5 acc av := ((ra.mono (gr.stepE r'.hr).st.le).mono st4.st.le).mono st5.st.le
            refine ⟨av, d5, by rw [← ra5.length]; omega, ?_⟩
            have st15 := st14.trans r1.slen st5
            exact go (rel_put r5 l5 (by show (av ++ [y']).length ≤ sizeLine; rw [List.length_append, List.length_singleton, ← ra5.length]; omega) (wr_lst d5)) (st15.put hD l5.m) l5 upd_same (ra5.append (.one (ry.rep (by simpa using oy)))) (by rw [List.length_append, List.length_singleton]; omega) q5
  · refine .inl ⟨wk.stop W' s' H r'.hr st'.st.le sl' own_st i (by omega), ?_⟩
    have hn : r.xs.drop i = [] := List.drop_eq_nil_of_le (by omega)
    rw [hn] at q'
    exact fin acc av W' s' H r' st' (q' W' H r' st') l' hDv ra
theorem lc_read {src : S → R S Sr} {t : Tg} {tt : S → R S Bool} {te : ME} {vs : List Nat} {Q : VK} (hK : X.K = B.K) (hv : ∀ i ∈ t.sl, i ∈ vs) (h : tN B N WX (eCompN src t tt te vs) σ H Q) :
    tLc (tI B N WX src) (gT X.K t) (tT B N WF tt) (tE B N WF te) vs σ H Q := by
  obtain ⟨W, s, r0, h⟩ := h
  refine ⟨W, s, r0, R.post_mono (R.post_bind h) (fun r s1 q W1 H1 r1 st1 still hline J wk D hD => ?_) fun x s1 q => q⟩
  have rw1 : Rel B N W1 ⟨wipeE s1.e vs, s1.h⟩ σ H1 := rel_back r1 rfl
  have q' : Post B N WF W1 ⟨wipeE s1.e vs, s1.h⟩ H1 σ (loopC r t tt te vs r.xs [] ⟨wipeE s1.e vs, s1.h⟩) fun xs W' s' H' => ∀ p us, H p = none → Loose N W' s' σ p → H' p = some (.lst us) → Reps B W' xs us → Q (.ref p) H' := by
    have nx := loopC_nx r t tt te vs r.xs [] ⟨wipeE s1.e vs, s1.h⟩
    refine R.post_of_nx nx (R.post_mono q (fun xs s2 q W2 H2 r2 st2 => q W2 H2 r2 ((stepE_wipe st1).trans r0.slen st2)) fun x s2 q => trivial)
  exact comp_core hK hv rw1 wk rfl still hD hline q' fun xs av W' s' H' r' st' k l hH rv => k D av (st1.st.tr _ hD) l hH rv
theorem sim_lc {elt tg iter : Expr} {ifs : List Expr} {scope : Scope} {own : List (Str × Nat)} {pos : Pos} {src : S → R S Sr} {t : Tg} {tt : S → R S Bool} {te : ME} (hK : X.K = B.K) (hc : X.calm = true) (hN : X.N.Nodup) (hi : SimI X B N WX tg iter src) (ok : BlkOk X.N X.env.scope scope own)
    (hv : ∀ i ∈ t.sl, i ∈ own.map (·.2))
    (hg : ∀ (s : Shared) (H : Hp) (C : Addr) (cl : List (Str × Addr)) (fp : List Addr), PG (X.blk s H scope (compEnvC scope cl C X.env) fp) tg (gT X.K t)) (ht : ∀ (s : Shared) (H : Hp) (C : Addr) (cl : List (Str × Addr)) (fp : List Addr), SimTs (X.blk s H scope (compEnvC scope cl C X.env) fp) B N WF ifs tt)
    (he : ∀ (s : Shared) (H : Hp) (C : Addr) (cl : List (Str × Addr)) (fp : List Addr), SimE (X.blk s H scope (compEnvC scope cl C X.env) fp) B N WF elt te) (hs : ∀ x, foldedSetIterable iter X.env x = pure x) :
    SimN X B N WX (.ListComp elt [⟨tg, iter, ifs, 0⟩] scope pos) (eCompN src t tt te (own.map (·.2))) :=
  (pe_lc hc hN hi ok hg ht he hs).imp fun σ H Q h => lc_read hK hv h
theorem pgT_n {K : PySem.W.Frag} {e : Expr} {i : Nat} (h : PG X e (gName i)) : PG X e (gT K (.n i)) := by
  rw [gT]; exact h
theorem pgT_t {es : List Expr} {k : Nat} {ts : List Tg} {pos : Pos} (hc : X.calm = true) (h : PGs X es (gTs X.K ts)) (hn : (assignEach es X.env).length = ts.length) (hst : (assignEach es X.env).findIdx? (·.1) = none) : PG X (.Tuple es k pos) (gT X.K (.t ts)) := by
  rw [gT]; exact pg_tup hc h hn hst
theorem pgTs_nil {K : PySem.W.Frag} : PGs X [] (gTs K []) := by
  rw [gTs]; exact pgs_nil
theorem pgTs_cons {K : PySem.W.Frag} {e : Expr} {es : List Expr} {t : Tg} {ts : List Tg} (h1 : PG X e (gT K t)) (h2 : PGs X es (gTs K ts)) (hs : (assignEach (e :: es) X.env).map (·.2) = assign e X.env :: (assignEach es X.env).map (·.2)) : PGs X (e :: es) (gTs K (t :: ts)) := by
  rw [gTs]; exact pgs_cons h1 h2 hs
end
end Lp

set_option Elab.async false
set_option linter.all false
set_option maxRecDepth 100000
set_option maxHeartbeats 4000000
/-! Lp7: statements. -/
namespace Lp
open PySem PySem.Spec PyProof.Rows L2

inductive Fl where
  | nx | rt (v : PV) | bk | ct
abbrev MS := S → R S Fl
/-- what is wanted behind a statement -/
def PostS (B : Bs) (N : Ent) (WX : L2.WX) (D : Ends) (r : R S Fl) : Prop := r.post
  (fun f s' => match f with
    | .nx => ∀ W' σ' H', Rel B N W' s' σ' H' → D.nx σ' H'
    | .rt v => ∀ W' σ' H' v', Rel B N W' s' σ' H' → Rep B W' v v' → D.rt v' H'
    | .bk => ∀ W' σ' H', Rel B N W' s' σ' H' → D.bk σ' H'
    | .ct => ∀ W' σ' H', Rel B N W' s' σ' H' → D.ct σ' H')
  (fun x s' => ∀ W' σ' H' cls d, Rel B N W' s' σ' H' → ExcR B N.H W' H' x cls d → WX cls d σ' H')
def tS (B : Bs) (N : Ent) (WX : L2.WX) (m : MS) : TS := fun D σ H => ∃ W s, Rel B N W s σ H ∧ PostS B N WX D (m s)
abbrev SimS (X : Cx) (B : Bs) (N : Ent) (WX : L2.WX) (st : Stmt) (m : MS) : Prop := PS X st (tS B N WX m)
abbrev SimSs (X : Cx) (B : Bs) (N : Ent) (WX : L2.WX) (st : List Stmt) (m : MS) : Prop := PSs X st (tS B N WX m)
section
variable {X : Cx} {B : Bs} {N : Ent} {WX : L2.WX} {W W' : Wd} {s s' : S} {σ : L2.St} {H H' : Hp} {D : Ends} {α : Type}
/-- an expression first -/
theorem PostS.bindE {r : R S α} {f : α → S → R S Fl} (h : PostS B N WX D (r.bind f)) : Post B N WX W s H σ r fun v W' s' H' => PostS B N WX D (f v s') :=
  R.post_mono (R.post_bind h) (fun _ _ q W' H' _ _ => q) fun _ _ q W' H' cls d r' _ e _ => q W' σ H' cls d r' e
end
def sNil : MS := fun s => .ok .nx s
def sSeq (a b : MS) : MS := fun s => (a s).bind fun f s1 => match f with
  | .nx => b s1
  | f => .ok f s1
def sExpr (m : ME) : MS := fun s => (m s).bind fun _ s1 => .ok .nx s1
def sRet (m : ME) : MS := fun s => (m s).bind fun v s1 => if isOwn v = true then .bad else .ok (.rt v) s1
def sRetN : MS := fun s => .ok (.rt .non) s
def sIf (c : S → R S Bool) (a b : MS) : MS := fun s => (c s).bind fun k s1 => if k = true then a s1 else b s1
def sAsg (i : Nat) (m : ME) : MS := fun s => (m s).bind fun v s1 => if isOwn v = true then .bad else .ok .nx ⟨s1.e.set i (some v), s1.h⟩
def sAsgN (i : Nat) (m : S → R S (List PV)) : MS := fun s => (m s).bind fun xs s1 => .ok .nx ⟨s1.e.set i (some (.own xs)), s1.h⟩
def sAsgT (t : Tg) (m : ME) : MS := fun s => (m s).bind fun v s1 => match bindT t v s1.e with
  | some e1 => if isOwn v = true then .bad else .ok .nx ⟨e1, s1.h⟩
  | none => .bad
def sBk : MS := fun s => .ok .bk s
def sCt : MS := fun s => .ok .ct s
section
variable {X : Cx} {B : Bs} {N : Ent} {WX : L2.WX} {W W' : Wd} {s s' : S} {σ : L2.St} {H H' : Hp} {st : Stmt} {rest : List Stmt} {ma mb : MS} {e c : Expr} {m : ME} {mc : S → R S Bool} {pos : Pos}
theorem simss_nil : SimSs X B N WX [] sNil := pss_nil.imp fun D σ H ⟨W, s, r, h⟩ => h W σ H r
theorem simss_one (h : SimS X B N WX st ma) : SimSs X B N WX [st] ma := pss_one h
theorem simss_cons (h1 : SimS X B N WX st ma) (h2 : SimSs X B N WX rest mb) : SimSs X B N WX (st :: rest) (sSeq ma mb) :=
  (pss_cons h1 h2).imp fun D σ H ⟨W, s, r, h⟩ => ⟨W, s, r, R.post_mono (R.post_bind h) (fun f s1 q => by
    cases f with
    | nx => exact fun W' σ' H' r' => ⟨W', s1, r', q⟩
    | rt v => exact q
    | bk => exact q
    | ct => exact q) fun x s1 q => q⟩
theorem sims_pass : SimS X B N WX (.Pass pos) sNil := ps_pass.imp fun D σ H ⟨W, s, r, h⟩ => h W σ H r
theorem sims_break : SimS X B N WX (.Break pos) sBk := ps_break.imp fun D σ H ⟨W, s, r, h⟩ => h W σ H r
theorem sims_cont : SimS X B N WX (.Continue pos) sCt := ps_continue.imp fun D σ H ⟨W, s, r, h⟩ => h W σ H r
theorem sims_expr (he : SimE X B N WX e m) (hs : swapsWith e none pos.line X.env = pure false) : SimS X B N WX (.Expr e pos) (sExpr m) :=
  (ps_expr he hs).imp fun D σ H ⟨W, s, r, h⟩ => ⟨W, s, r, h.bindE.mono fun v W1 s1 H1 r1 _ q v' rv => q W1 σ H1 r1⟩
theorem sims_ret (he : SimE X B N WX e m) : SimS X B N WX (.Return (some e) pos) (sRet m) :=
  (ps_ret he).imp fun D σ H ⟨W, s, r, h⟩ => ⟨W, s, r, h.bindE.mono fun v W1 s1 H1 r1 _ q v' rv => by
    split at q
    · exact q.elim
    · rename_i o
      exact q W1 σ H1 v' r1 (rv.rep (by simpa using o))⟩
theorem sims_retN : SimS X B N WX (.Return none pos) sRetN := ps_retN.imp fun D σ H ⟨W, s, r, h⟩ => h W σ H .non r .non
theorem sims_if {a b : List Stmt} (hc : SimT X B N WX c mc) (ha : SimSs X B N WX a ma) (hb : SimSs X B N WX b mb) : SimS X B N WX (.If c a b pos) (sIf mc ma mb) :=
  (ps_if hc ha hb).imp fun D σ H ⟨W, s, r, h⟩ => ⟨W, s, r, h.bindE.mono fun k W1 s1 H1 r1 _ q => by
    cases k with
    | true => exact iteT ⟨W1, s1, r1, q⟩
    | false => exact iteF ⟨W1, s1, r1, q⟩⟩
theorem asg_fin {i : Nat} {D : Ends} {v : PV} {v' : V} {W1 : Wd} {s1 : S} {H1 : Hp} (r1 : Rel B N W1 s1 σ H1) (rv : RepT B W1 H1 v v') (q : PostS B N WX D (if isOwn v = true then R.bad else R.ok Fl.nx ⟨s1.e.set i (some v), s1.h⟩)) : D.nx (σ.set i (some v')) H1 := by
  split at q
  · exact q.elim
  · rename_i o
    exact q W1 _ H1 (rel_set r1 (rv.rep (by simpa using o)))
theorem sims_asg {i : Nat} {x : Str} {pos' : Pos} (hN : X.N.Nodup) (hi : X.N[i]? = some x) (hx : Loc X.env.scope x) (he : SimE X B N WX e m) (hs : swapsWith e (some (.Name x pos')) pos.line X.env = pure false) (hf : X.fn x = true ∨ X.env.scope.names.lookup x = some .local) :
    SimS X B N WX (.Assign [.Name x pos'] e pos) (sAsg i m) :=
  (ps_set hN hi hx he hs hf).imp fun D σ H ⟨W, s, r, h⟩ => ⟨W, s, r, h.bindE.mono fun v W1 s1 H1 r1 _ q v' rv => asg_fin r1 rv q⟩
/-- a slot takes a list of its own -/
theorem rel_own {i : Nat} {p : Addr} {xs : List PV} {vs : List V} {σ' : L2.St} (r : Rel B N W s σ H) (hl : σ'.length = σ.length) (hj : ∀ j, j ≠ i → σ'[j]? = σ[j]?) (hi : σ'[i]? = some (some (.ref p)) ∨ s.e.length ≤ i)
    (l : W.F p = none ∧ p ∉ W.m ∧ (∀ (j : Nat) (x : PV), j ≠ i → s.e[j]? = some (some x) → isOwn x = true → σ[j]? ≠ some (some (.ref p))) ∧ N.H p = none) (hp : H p = some (.lst vs)) (rv : Reps B W xs vs) : Rel B N W ⟨s.e.set i (some (.own xs)), s.h⟩ σ' H := by
  obtain ⟨l1, l2, l3, l4⟩ := l
  have at_ : ∀ (j : Nat) (y : PV), (s.e.set i (some (.own xs)))[j]? = some (some y) → (j = i ∧ y = .own xs ∧ i < s.e.length) ∨ (j ≠ i ∧ s.e[j]? = some (some y)) := fun j y e => by
    by_cases hji : i = j
    · subst hji
      by_cases hb : i < s.e.length
      · rw [List.getElem?_set_self hb] at e
        cases e
        exact .inl ⟨rfl, rfl, hb⟩
      · rw [List.getElem?_eq_none (by rw [List.length_set]; omega)] at e
        cases e
    · rw [List.getElem?_set_ne hji] at e
      exact .inr ⟨fun z => hji z.symm, e⟩
  refine ⟨r.hr, r.st, by rw [hl, r.len]; simp, fun j y e => ?_, fun j k y z a hjk e1 e2 o1 o2 s1 s2 => ?_, r.pin⟩
  · rcases at_ j y e with ⟨rfl, rfl, hb⟩ | ⟨ne, e⟩
    · rcases hi with hi | hi
      · exact ⟨_, hi, p, vs, rfl, hp, rv, l1, l2, l4⟩
      · omega
    · rw [hj j ne]
      exact r.env j y e
  · rcases at_ j y e1 with ⟨rfl, rfl, hb⟩ | ⟨ne, f1⟩
    · rcases at_ k z e2 with ⟨rfl, _, _⟩ | ⟨ne2, f2⟩
      · exact hjk rfl
      · rcases hi with hi | hi
        · rw [hi] at s1
          cases s1
          rw [hj k ne2] at s2
          exact l3 k z ne2 f2 o2 s2
        · omega
    · rcases at_ k z e2 with ⟨rfl, rfl, hb⟩ | ⟨ne2, f2⟩
      · rcases hi with hi | hi
        · rw [hi] at s2
          cases s2
          rw [hj j ne] at s1
          exact l3 j y ne f1 o1 s1
        · omega
      · rw [hj j ne] at s1
        rw [hj k ne2] at s2
        exact r.dis j k y z a hjk f1 f2 o1 o2 s1 s2
theorem asgN_read {i : Nat} {mn : S → R S (List PV)} {D : Ends} (h : tS B N WX (sAsgN i mn) D σ H) : tN B N WX mn σ H fun x H1 => D.nx (σ.set i (some x)) H1 := by
  obtain ⟨W, s, r, h⟩ := h
  refine ⟨W, s, r, h.bindE.mono fun xs W1 s1 H1 r1 _ q p vs hp l hH rv => q W1 _ H1 (rel_own r1 (by simp) (fun j hj => by rw [List.getElem?_set_ne (Ne.symm hj)]) ?_ ⟨l.F, l.m, fun j x _ e o => l.o j x e o, l.e⟩ hH rv)⟩
  by_cases hb : i < s1.e.length
  · exact .inl (List.getElem?_set_self (by rw [r1.len]; exact hb))
  · exact .inr (by omega)
theorem sims_asgN {i : Nat} {x : Str} {pos' : Pos} {mn : S → R S (List PV)} (hN : X.N.Nodup) (hi : X.N[i]? = some x) (hx : Loc X.env.scope x) (he : SimN X B N WX e mn) (hs : swapsWith e (some (.Name x pos')) pos.line X.env = pure false) (hf : X.fn x = true ∨ X.env.scope.names.lookup x = some .local) :
    SimS X B N WX (.Assign [.Name x pos'] e pos) (sAsgN i mn) :=
  (ps_set hN hi hx he hs hf).imp fun D σ H h => asgN_read h
/-- y = [.. for ..] -/
theorem sims_asgLcN {i : Nat} {y : Str} {py : Pos} {elt tg iter : Expr} {ifs : List Expr} {scope : Scope} {own : List (Str × Nat)} {spos : Pos} {src : S → R S Sr} {t : Tg} {tt : S → R S Bool} {te : ME} (hK : X.K = B.K) (hc : X.calm = true) (hN : X.N.Nodup) (hy : X.N[i]? = some y) (hyl : X.env.scope.names.lookup y = some .local)
    (hsw : swapsWith (.ListComp elt [⟨tg, iter, ifs, 0⟩] scope pos) (some (.Name y py)) spos.line X.env = pure true) (hi : SimI X B N WX tg iter src) (ok : BlkOk X.N X.env.scope scope own) (hv : ∀ i ∈ t.sl, i ∈ own.map (·.2))
    (hg : ∀ (s : Shared) (H : Hp) (C : Addr) (cl : List (Str × Addr)) (fp : List Addr), PG (X.blk s H scope (compEnvC scope cl C X.env) fp) tg (gT X.K t)) (ht : ∀ (s : Shared) (H : Hp) (C : Addr) (cl : List (Str × Addr)) (fp : List Addr), SimTs (X.blk s H scope (compEnvC scope cl C X.env) fp) B N WF ifs tt)
    (he : ∀ (s : Shared) (H : Hp) (C : Addr) (cl : List (Str × Addr)) (fp : List Addr), SimE (X.blk s H scope (compEnvC scope cl C X.env) fp) B N WF elt te) (hs : ∀ x, foldedSetIterable iter X.env x = pure x) :
    SimS X B N WX (.Assign [.Name y py] (.ListComp elt [⟨tg, iter, ifs, 0⟩] scope pos) spos) (sAsgN i (eCompN src t tt te (own.map (·.2)))) :=
  (ps_setLc hc hN hy hyl hsw hi ok hg ht he hs).imp fun D σ H h => lc_read hK hv (asgN_read h)
theorem asg_sh {i : Nat} {mn : S → R S (List PV)} {D : Ends} (h : tS B N WX (sAsg i (shN mn)) D σ H) : tE B N WX (shN mn) σ H fun x H1 => D.nx (σ.set i (some x)) H1 := by
  obtain ⟨W, s, r, h⟩ := h
  exact ⟨W, s, r, h.bindE.mono fun v W1 s1 H1 r1 _ q v' rv => asg_fin r1 rv q⟩
theorem sims_asgLc {i : Nat} {y : Str} {py : Pos} {elt tg iter : Expr} {ifs : List Expr} {scope : Scope} {own : List (Str × Nat)} {spos : Pos} {src : S → R S Sr} {t : Tg} {tt : S → R S Bool} {te : ME} (hK : X.K = B.K) (hc : X.calm = true) (hN : X.N.Nodup) (hy : X.N[i]? = some y) (hyl : X.env.scope.names.lookup y = some .local)
    (hsw : swapsWith (.ListComp elt [⟨tg, iter, ifs, 0⟩] scope pos) (some (.Name y py)) spos.line X.env = pure true) (hi : SimI X B N WX tg iter src) (ok : BlkOk X.N X.env.scope scope own) (hv : ∀ i ∈ t.sl, i ∈ own.map (·.2))
    (hg : ∀ (s : Shared) (H : Hp) (C : Addr) (cl : List (Str × Addr)) (fp : List Addr), PG (X.blk s H scope (compEnvC scope cl C X.env) fp) tg (gT X.K t)) (ht : ∀ (s : Shared) (H : Hp) (C : Addr) (cl : List (Str × Addr)) (fp : List Addr), SimTs (X.blk s H scope (compEnvC scope cl C X.env) fp) B N WF ifs tt)
    (he : ∀ (s : Shared) (H : Hp) (C : Addr) (cl : List (Str × Addr)) (fp : List Addr), SimE (X.blk s H scope (compEnvC scope cl C X.env) fp) B N WF elt te) (hs : ∀ x, foldedSetIterable iter X.env x = pure x) :
    SimS X B N WX (.Assign [.Name y py] (.ListComp elt [⟨tg, iter, ifs, 0⟩] scope pos) spos) (sAsg i (shN (eCompN src t tt te (own.map (·.2))))) :=
  (ps_setLc hc hN hy hyl hsw hi ok hg ht he hs).imp fun D σ H h => lc_read hK hv (tE_sh (asg_sh h))
/-- a, b = e; targets of names -/
theorem sims_asgT {tg : Expr} {t : Tg} (hK : X.K = B.K) (he : SimE X B N WX e m) (hg : PG X tg (gT X.K t)) (hs : swapsWithSole [tg] e pos.line X.env = pure false) (hw : swappedStores [tg] e X.env = pure none) (h1 : (assignEach [tg] X.env).map (·.2) = [assign tg X.env]) :
    SimS X B N WX (.Assign [tg] e pos) (sAsgT t m) :=
  (ps_asg he hg hs hw h1).imp fun D σ H ⟨W, s, r, h⟩ => ⟨W, s, r, h.bindE.mono fun v W1 s1 H1 r1 _ q v' rv => by
    split at q
    · rename_i e1 eb
      split at q
      · exact q.elim
      · rename_i o
        exact gT_ok hK (vs := t.sl) (fun i hi => hi) r1 (rv.rep (by simpa using o)) eb fun σ' r' _ => q W1 σ' H1 r'
    · exact q.elim⟩
/-- a, b = e1, e2 -/
def sPar (i j : Nat) (ma : MA) : MS := fun s => (ma s).bind fun vs s1 => match vs with
  | [v, w] => if isOwn v = true ∨ isOwn w = true then .bad else .ok .nx ⟨(s1.e.set i (some v)).set j (some w), s1.h⟩
  | _ => .bad
theorem sims_par {i j : Nat} {x y : Str} {a b : Expr} {mz : MA} {px py pt : Pos} {kt k2 pt2} (hc : X.calm = true) (hN : X.N.Nodup) (hi : X.N[i]? = some x) (hj : X.N[j]? = some y) (hij : i ≠ j)
    (hx : X.env.scope.names.lookup x = some .local) (hy : X.env.scope.names.lookup y = some .local) (ha : SimA X B N WX [a, b] mz)
    (hw : swappedStores [.Tuple [.Name x px, .Name y py] kt pt] (.Tuple [a, b] k2 pt2) X.env = pure (some [x, y]))
    (hs : swapsWithSole [.Tuple [.Name x px, .Name y py] kt pt] (.Tuple [a, b] k2 pt2) pos.line X.env = pure false) :
    SimS X B N WX (.Assign [.Tuple [.Name x px, .Name y py] kt pt] (.Tuple [a, b] k2 pt2) pos) (sPar i j mz) :=
  (ps_par hc hN hi hj hij hx hy ha hw hs).imp fun D σ H ⟨W, s, r, h⟩ => ⟨W, s, r, h.bindE.mono fun vs W1 s1 H1 r1 _ q vs' rv => by
    split at q
    · rename_i v w
      obtain ⟨v', w', rfl, rv1, rv2⟩ := repts2 rv
      split at q
      · exact q.elim
      · rename_i o
        simp only [not_or] at o
        refine ⟨v', w', rfl, q W1 _ H1 (rel_set (rel_set r1 (rv1.rep (by simpa using o.1))) (rv2.rep (by simpa using o.2)))⟩
    · exact q.elim⟩
/-- the slot's list is given out for good -/
def eFrz (i : Nat) : ME := fun s => match s.e[i]? with
  | some (some (.own xs)) => .ok (.lst xs) ⟨s.e.set i (some (.lst xs)), s.h⟩
  | some (some v) => .ok v s
  | _ => .bad
theorem rel_frz {i : Nat} {xs : List PV} (r : Rel B N W s σ H) (e : s.e[i]? = some (some (.own xs))) : ∃ p vs, σ[i]? = some (some (.ref p)) ∧ H p = some (.lst vs) ∧ Reps B W xs vs ∧ W.F p = none ∧ p ∉ W.m ∧ N.H p = none ∧
    Rel B N ⟨upd W.F p (.lst vs), W.m⟩ ⟨s.e.set i (some (.lst xs)), s.h⟩ σ H := by
  obtain ⟨v, e1, p, vs, rfl, hH, rv, hF, hm, h0⟩ := r.env i _ e
  have hi : i < s.e.length := (List.getElem?_eq_some_iff.mp e).1
  refine ⟨p, vs, e1, hH, rv, hF, hm, h0, ?_⟩
  -- first the slot is cleared
  have rc : Rel B N W ⟨s.e.set i none, s.h⟩ σ H := by
    refine ⟨r.hr, r.st, by rw [r.len]; simp, fun j y ej => ?_, fun j k y z a hjk f1 f2 o1 o2 s1 s2 => ?_, r.pin⟩
    · by_cases hj : i = j
      · subst hj
        rw [List.getElem?_set_self hi] at ej
        cases ej
      · rw [List.getElem?_set_ne hj] at ej
        exact r.env j y ej
    · have g : ∀ (j : Nat) (y : PV), (s.e.set i none)[j]? = some (some y) → s.e[j]? = some (some y) := fun j y f => by
        by_cases hj : i = j
        · subst hj
          rw [List.getElem?_set_self hi] at f
          cases f
        · rw [List.getElem?_set_ne hj] at f
          exact f
      exact r.dis j k y z a hjk (g j y f1) (g k z f2) o1 o2 s1 s2
  have lc : Loose N W ⟨s.e.set i none, s.h⟩ σ p := ⟨hF, hm, fun j y f o z => by
    by_cases hj : i = j
    · subst hj
      have f : (s.e.set i none)[i]? = some (some y) := f
      rw [List.getElem?_set_self hi] at f
      cases f
    · have f : (s.e.set i none)[j]? = some (some y) := f
      rw [List.getElem?_set_ne hj] at f
      exact r.dis i j _ y p hj e f rfl o e1 z, h0⟩
  have rk := rel_keep rc lc hH nt_lst
  have rs := rel_set (i := i) rk (Rep.lst (xs := xs) (vs := vs) upd_same (rv.mono (le_new hF)))
  have es : σ.set i (some (.ref p)) = σ := by
    apply List.ext_getElem?
    intro j
    by_cases hj : i = j
    · subst hj
      rw [List.getElem?_set_self (by rw [r.len]; exact hi), e1]
    · rw [List.getElem?_set_ne hj]
  rw [es] at rs
  simpa using rs
end
end Lp

set_option Elab.async false
set_option linter.all false
set_option maxRecDepth 100000
set_option maxHeartbeats 4000000
/-! Lp8: defs, calls, walks as statements, cells. -/
namespace Lp
open PySem PySem.Spec PyProof.Rows L2

section
variable {B : Bs} {N : Ent} {W W' : Wd} {s s' : S} {σ : L2.St} {H H' : Hp} {h' : AH}
theorem rel_step (r : Rel B N W s σ H) (hr' : HRel B W' h' H') (st : Step W s.h H W' h' H') : Rel B N W' ⟨s.e, h'⟩ σ H' := by
  refine ⟨hr', r.st.trans N.len st, r.len, fun i x e => ?_, r.dis, r.pin.trans st.le⟩
  obtain ⟨v, e1, sl⟩ := r.env i x e
  refine ⟨v, e1, ?_⟩
  cases x with
  | own xs =>
    obtain ⟨a, vs, rfl, hH, rv, hF, hm, h0⟩ := sl
    have nl : ¬ Live W s.h a := fun l => hm l.mem
    have ne : H a ≠ none := by rw [hH]; exact fun z => nomatch z
    exact ⟨a, vs, rfl, st.keep _ _ hH nt_lst nl, rv.mono st.le, st.fgrow a hF ne nl, st.notm r.slen hm ne, h0⟩
  | don ks => exact DonR.mono st.le sl
  | _ => exact Rep.mono st.le sl
theorem stepE_of {s : S} (st : Step W s.h H W' h' H') : StepE W s H W' ⟨s.e, h'⟩ H' := ⟨st, fun _ _ e _ => e⟩
end

/-! ### defs -/
abbrev MF := List PV → AH → R AH PV
def spF (B : Bs) (n : Nat) (m : MF) : Sp := fun vs H Q E => ∃ W h xs, HRel B W h H ∧ Reps B W xs vs ∧ xs.length = n ∧ (m xs h).post
  (fun v h' => ∀ W' H' v', HRel B W' h' H' → Step W h H W' h' H' → Rep B W' v v' → Q v' H')
  (fun x h' => ∀ W' H' cls d, HRel B W' h' H' → Step W h H W' h' H' → ExcR B H W' H' x cls d → E cls d H')
/-- a def's reading from its body's: k names behind the parameters -/
def mkF (k : Nat) (mb : MS) : MF := fun xs h => match mb ⟨xs.map some ++ List.replicate k none, h⟩ with
  | .ok (.rt v) s => .ok v s.h
  | .ok .nx s => .ok .non s.h
  | .ok _ _ => .bad
  | .exc x s => .exc x s.h
  | .bad => .bad
theorem Rep.no {B : Bs} {W : Wd} {x : PV} {v : V} (r : Rep B W x v) : isOwn x = false := by cases r <;> rfl
theorem Reps.no {B : Bs} {W : Wd} : ∀ {xs : List PV} {vs : List V}, Reps B W xs vs → ∀ x ∈ xs, isOwn x = false
  | _, _, .nil, _, h => by cases h
  | _, _, .cons r t, x, h => by
    rcases List.mem_cons.mp h with rfl | h
    · exact r.no
    · exact Reps.no t x h
theorem rel_start {B : Bs} {W : Wd} {h : AH} {H : Hp} {xs : List PV} {vs : List V} {k : Nat} (hr : HRel B W h H) (r : Reps B W xs vs) :
    Rel B ⟨W, h, H, hr.len, W⟩ W ⟨xs.map some ++ List.replicate k none, h⟩ (vs.map some ++ List.replicate k none) H := by
  have at_ : ∀ (i : Nat) (x : PV), (xs.map some ++ List.replicate k none)[i]? = some (some x) → xs[i]? = some x := fun i x e => by
    by_cases hi : i < (xs.map some).length
    · rw [List.getElem?_append_left hi, List.getElem?_map] at e
      cases q : xs[i]? with
      | none => rw [q] at e; cases e
      | some y => rw [q] at e; cases e; rfl
    · rw [List.getElem?_append_right (by omega)] at e
      rw [List.getElem?_replicate] at e
      split at e <;> cases e
  refine ⟨hr, Step.refl hr, by simp [r.length], fun i x e => ?_, fun i j x y a hij e1 e2 o1 o2 s1 s2 => ?_, .refl W⟩
  · obtain ⟨v, ev, rv⟩ := r.get (at_ i x e)
    refine ⟨v, ?_, rv.slot⟩
    rw [List.getElem?_append_left (by rw [List.length_map]; exact (List.getElem?_eq_some_iff.mp ev).1), List.getElem?_map, ev]
    rfl
  · rw [r.no x (List.mem_of_getElem? (at_ i x e1))] at o1
    cases o1
/-- what a body's proof may lean on -/
structure Bdy (X : Cx) (E : XK) (k : Nat) : Prop where
  tk : Takes X fun c d _ H => E c d H
  pa : PassesOwn (model X.prog X.w) X.A X.env X.xe
  rm : Room k X.A
theorem fn_ok {P : Program} {w : World} {K : PySem.W.Frag} {mg : Str → Option Value} {base : Heap} {x qual : Str} {params : Arguments} {body : List Stmt} {scope : Scope} {dvs : List V} {kws : List (Str × V)} {f : Addr} {fd : FuncData} {names ps : List Str} {k n kk : Nat} {B : Bs} {mb : MS}
    (F : FunD K x qual params body scope dvs kws f fd) (S : FnScope names ps scope) (hn : ps.length = n) (hk : names.length - n = kk)
    (hb : ∀ (cdv : Value) (A : Around) (outer : List Env) (s : Shared) (H : Hp) (E : XK) (N : Ent), Bdy (cxOf (L2.CX P w) P w K mg base names qual scope f cdv A outer s H E) E k →
      SimSs (cxOf (L2.CX P w) P w K mg base names qual scope f cdv A outer s H E) B N (fun c d _ H => E c d H) body mb) : FnOk P w K mg base (L2.CX P w) (k + 1) f fd ps (spF B n (mkF kk mb)) := by
  refine F.ok S (fun vs H Q E ⟨W, h, xs, hr, r, e, _⟩ => by rw [hn, ← e, r.length]) fun cdv A outer s H vs Q E hr ⟨W, h, xs, hrel, r, e, q⟩ => ?_
  have bd : Bdy (cxOf (L2.CX P w) P w K mg base names qual scope f cdv A outer s H E) E k := ⟨takes_of rfl rfl rfl rfl, passes_of rfl, hr⟩
  refine ⟨_, hb cdv A outer s H E ⟨W, h, H, hrel.len, W⟩ bd, W, ⟨xs.map some ++ List.replicate kk none, h⟩, ?_, ?_⟩
  · have := rel_start (k := kk) hrel r
    unfold L2.start
    rw [show names.length - vs.length = kk by rw [← r.length, e, hk]]
    exact this
  · unfold PostS
    unfold mkF at q
    split at q
    · rename_i v s1 e1
      rw [e1]
      exact fun W' σ' H' v' r' rv => q W' H' v' r'.hr r'.st rv
    · rename_i s1 e1
      rw [e1]
      exact fun W' σ' H' r' => q W' H' .non r'.hr r'.st .non
    · exact q.elim
    · rename_i x1 s1 e1
      rw [e1]
      exact fun W' σ' H' cls d r' ex => q W' H' cls d r'.hr r'.st ex
    · exact q.elim

/-! ### calls -/
def lift (r : R AH PV) (e : List (Option PV)) : R S PV := match r with
  | .ok v h => .ok v ⟨e, h⟩
  | .exc x h => .exc x ⟨e, h⟩
  | .bad => .bad
def callH (n : Nat) (m : MF) (vs : List PV) : ME := fun s => if vs.length = n ∧ allSh vs = true then lift (m vs s.h) s.e else .bad
def eCall (n : Nat) (m : MF) (ma : MA) : ME := fun s => (ma s).bind fun vs s1 => callH n m vs s1
def pick {α : Type} (ix : List Nat) (l : List α) : List α := ix.filterMap (l[·]?)
/-- a def of the text by its name: its reading -/
structure Fn (P : Program) (w : World) (K : PySem.W.Frag) (mg : Str → Option Value) (base : Heap) (B : Bs) (k : Nat) (x : Str) (n : Nat) (m : MF) : Prop where
  ex : ∃ f fd ps, FnOk P w K mg base (L2.CX P w) k f fd ps (spF B n m) ∧ mg x = some (.ref f) ∧ PySem.W.keepIn K (.ref f) = true ∧ Binds K fd ps []
/-- .. called with keywords: n0 values by place, then those of ks, picked into the parameters' order -/
structure FnK (P : Program) (w : World) (K : PySem.W.Frag) (mg : Str → Option Value) (base : Heap) (B : Bs) (k : Nat) (x : Str) (n0 : Nat) (ks : List Str) (ix : List Nat) (n : Nat) (m : MF) : Prop where
  ex : ∃ f fd ps, FnOk P w K mg base (L2.CX P w) k f fd ps (spF B n m) ∧ mg x = some (.ref f) ∧ PySem.W.keepIn K (.ref f) = true ∧ KBn K fd ps n0 ks (fun us ws => pick ix (us ++ ws)) fun vs zs => pick ix (vs ++ zs)
section
variable {P : Program} {w : World} {K : PySem.W.Frag} {mg : Str → Option Value} {base : Heap} {B : Bs} {j k n n0 : Nat} {x : Str} {m : MF} {ks : List Str} {ix : List Nat}
theorem Fn.mono (F : Fn P w K mg base B j x n m) (h : j ≤ k) : Fn P w K mg base B k x n m :=
  let ⟨f, fd, ps, a, b⟩ := F.ex
  ⟨f, fd, ps, a.mono h, b⟩
theorem FnK.mono (F : FnK P w K mg base B j x n0 ks ix n m) (h : j ≤ k) : FnK P w K mg base B k x n0 ks ix n m :=
  let ⟨f, fd, ps, a, b⟩ := F.ex
  ⟨f, fd, ps, a.mono h, b⟩
theorem vals_get : ∀ {vs : List V} {us : List Value} {i : Nat}, Vals vs us → (∃ v u, vs[i]? = some v ∧ us[i]? = some u ∧ RelV v u) ∨ (vs[i]? = none ∧ us[i]? = none)
  | _, _, _, .nil => .inr ⟨rfl, rfl⟩
  | _, _, 0, .cons r _ => .inl ⟨_, _, rfl, rfl, r⟩
  | _, _, i + 1, .cons _ t => by simpa using vals_get (i := i) t
theorem vals_pick {vs : List V} {us : List Value} (r : Vals vs us) : ∀ ix : List Nat, Vals (pick ix vs) (pick ix us)
  | [] => .nil
  | i :: ix => by
    unfold pick
    rcases vals_get (i := i) r with ⟨v, u, e1, e2, q⟩ | ⟨e1, e2⟩
    · rw [List.filterMap_cons_some e1, List.filterMap_cons_some e2]
      exact .cons q (vals_pick r ix)
    · rw [List.filterMap_cons_none e1, List.filterMap_cons_none e2]
      exact vals_pick r ix
theorem reps_pick {W : Wd} {xs : List PV} {vs : List V} (r : Reps B W xs vs) : ∀ ix : List Nat, Reps B W (pick ix xs) (pick ix vs)
  | [] => .nil
  | i :: ix => by
    unfold pick
    cases e1 : xs[i]? with
    | some x =>
      obtain ⟨v, e2, q⟩ := r.get e1
      rw [List.filterMap_cons_some e1, List.filterMap_cons_some e2]
      exact .cons q (reps_pick r ix)
    | none =>
      have e2 : vs[i]? = none := by
        rw [List.getElem?_eq_none_iff] at e1 ⊢
        rw [← r.length]; exact e1
      rw [List.filterMap_cons_none e1, List.filterMap_cons_none e2]
      exact reps_pick r ix
/-- keywords of a def without defaults -/
theorem kbn_of {qual : Str} {params : Arguments} {body : List Stmt} {scope : Scope} {kws : List (Str × V)} {f : Addr} {fd : FuncData} {ps : List Str} (F : FunD K x qual params body scope [] kws f fd)
    (h : ∀ (kV doc pm : Value) (an : Option Addr) (cdv ct : Value) (us ws : List Value), us.length = n0 → ws.length = ks.length → bindArgs (PySem.W.fnOf x qual params body scope .none kV doc pm an cdv ct) ⟨us, ks.zip ws⟩ = pure (ps.zip (pick ix (us ++ ws)))) :
    KBn K fd ps n0 ks (fun us ws => pick ix (us ++ ws)) fun vs zs => pick ix (vs ++ zs) := by
  obtain ⟨oc, od, dV, kV, doc, pm, an, cdv, ct, osl, rfl, lk, hcd, hD, hK⟩ := F.ex
  rcases hD with ⟨_, rfl⟩ | ⟨e, _⟩
  · exact ⟨fun s us ws _ l1 l2 => .of_eq (h kV doc pm an cdv ct us ws l1 l2), fun r1 r2 => vals_pick (r1.append r2) ix⟩
  · exact absurd rfl e
end
section
variable {X : Cx} {B : Bs} {N : Ent} {WX : L2.WX} {W W' : Wd} {s s' : S} {σ : L2.St} {H H' : Hp} {e : Expr} {es : List Expr} {ma mk : MA} {me : ME} {p pos kpos : Pos} {x : Str} {k n n0 : Nat} {m : MF} {kws : List Keyword} {nm : Option Str} {ks : List Str} {ix : List Nat} {E : XK}
theorem call_fin {vs : List PV} {vs' : List V} {Q : VK} (r : Rel B N W s σ H) (rv : Reps B W vs vs') (q : Post B N WX W s H σ (callH n m vs s) fun u W' _ H' => ∀ u', RepT B W' H' u u' → Q u' H') :
    spF B n m vs' H Q fun c d H => WX c d σ H := by
  unfold callH at q
  split at q
  · rename_i hc
    refine ⟨W, s.h, vs, r.hr, rv, hc.1, ?_⟩
    unfold lift at q
    split at q
    · rename_i v h e
      rw [e]
      exact fun W' H' v' hr' st ru => q W' H' (rel_step r hr' st) (stepE_of st) v' ru.hand
    · rename_i y h e
      rw [e]
      exact fun W' H' cls d hr' st ex => q W' H' cls d (rel_step r hr' st) (stepE_of st) (ex.old r.st.tr) ex.nw
    · exact q.elim
  · exact q.elim
theorem callH_sh {vs : List PV} {P : PV → Wd → S → Hp → Prop} (q : Post B N WX W s H σ (callH n m vs s) P) : allSh vs = true := by
  unfold callH at q
  split at q
  · rename_i hc; exact hc.2
  · exact q.elim
theorem sim_call (F : Fn X.prog X.w X.K X.mg X.base B k x n m) (tk : Takes X WX) (hr : Room k X.A) (hg : Gl X x) (ha : SimA X B N WX (e :: es) ma) (hdb : (x == ("__debug__" : Str)) = false)
    (he : starEach (e :: es) X.env = (false, eval e X.env) :: starEach es X.env) (hpl : (backTo pos (starEach es X.env)).any (·.1) = false) : SimE X B N WX (.Call (.Name x p) (e :: es) [] pos) (eCall n m ma) := by
  obtain ⟨f, fd, ps, F1, hm, hk, hb⟩ := F.ex
  exact (pe_callS (E := WE WX) F1 hr hg hm hk hb (fun σ => passAt tk σ) ha hdb he hpl).imp fun σ H Q ⟨W, s, r, h⟩ => ⟨W, s, r, (h.bind r.slen).mono fun vs W1 s1 H1 r1 _ q vs' rv => call_fin r1 (rv.reps (callH_sh q)) q⟩
/-- f() -/
theorem sim_call0 (F : Fn X.prog X.w X.K X.mg X.base B k x n m) (tk : Takes X fun c d _ H => E c d H) (hr : Room k X.A) (hg : Gl X x) (hdb : (x == ("__debug__" : Str)) = false) : SimE X B N (fun c d _ H => E c d H) (.Call (.Name x p) [] [] pos) (callH n m []) := by
  obtain ⟨f, fd, ps, F1, hm, hk, hb⟩ := F.ex
  exact (pe_call0 (E := E) F1 hr hg hm hk hb .nil (passes_call tk fun _ _ _ _ h => h) hdb).imp fun σ H Q ⟨W, s, r, h⟩ => call_fin (vs := []) r .nil h
/-- keywords' values -/
abbrev SimK (X : Cx) (B : Bs) (N : Ent) (WX : L2.WX) (kws : List Keyword) (m : MA) : Prop := PK X kws (tA B N WX m)
theorem _root_.L2.PK.imp {X : Cx} {e : List Keyword} {t t' : TA} (h : PK X e t) (w : ∀ σ H Q, t' σ H Q → t σ H Q) : PK X e t' := ⟨fun p pins s σ H Q I q => h.run p pins s σ H Q I (w _ _ _ q)⟩
theorem simK_nil : SimK X B N WX [] aNil := pk_nil.imp fun σ H Q ⟨W, s, r, h⟩ => h.ok r [] trivial
theorem simK_cons (he : SimE X B N WX e me) (hr : SimK X B N WX kws mk) : SimK X B N WX (⟨nm, e, kpos⟩ :: kws) (aCons me mk) :=
  (pk_cons he hr).imp fun σ H Q ⟨W, s, r, h⟩ => ⟨W, s, r, (h.bind r.slen).mono fun v W1 s1 H1 r1 _ q v' rv => ⟨W1, s1, r1, (q.bind r1.slen).mono fun vs W2 s2 H2 r2 st2 q2 vs' rvs => q2.ok r2 (v' :: vs') ⟨rv.on r1.slen st2.st, rvs⟩⟩⟩
def eCallK (n0 nk : Nat) (ix : List Nat) (n : Nat) (m : MF) (ma mk : MA) : ME := fun s => (ma s).bind fun vs s1 => (mk s1).bind fun zs s2 => if (vs.length = n0 ∧ zs.length = nk) ∧ allSh vs = true ∧ allSh zs = true then callH n m (pick ix (vs ++ zs)) s2 else .bad
theorem callK_fin {nk : Nat} (hl : ks.length = nk) {σ : L2.St} {H : Hp} {Q : VK} (h : tE B N (fun c d _ H => E c d H) (eCallK n0 nk ix n m ma mk) σ H Q) : tCallN n0 ks.length (spF B n m) (fun vs zs => pick ix (vs ++ zs)) E (tA B N (fun c d _ H => E c d H) ma) (tA B N (fun c d _ H => E c d H) mk) σ H Q := by
  obtain ⟨W, s, r, h⟩ := h
  refine ⟨W, s, r, (h.bind r.slen).mono fun vs W1 s1 H1 r1 _ q vs' rv => ⟨W1, s1, r1, (q.bind r1.slen).mono fun zs W2 s2 H2 r2 st2 q2 zs' rz => ?_⟩⟩
  split at q2
  · rename_i hc
    have r1' := (rv.reps hc.2.1).mono st2.st.le
    have r2' := rz.reps hc.2.2
    exact ⟨by rw [← r1'.length]; exact hc.1.1, by rw [← r2'.length, hl]; exact hc.1.2, call_fin r2 (reps_pick (r1'.append r2') ix) q2⟩
  · exact q2.elim
theorem sim_callK {nk : Nat} (F : FnK X.prog X.w X.K X.mg X.base B k x n0 ks ix n m) (tk : Takes X fun c d _ H => E c d H) (hr : Room k X.A) (hg : Gl X x) (ha : SimA X B N (fun c d _ H => E c d H) (e :: es) ma) (hkw : SimK X B N (fun c d _ H => E c d H) kws mk)
    (hl : ks.length = nk) (hall : (backToKw pos (keywordEach kws X.env)).all (·.1.isSome) = true) (hks : (backToKw pos (keywordEach kws X.env)).filterMap (·.1) = ks) (hdb : (x == ("__debug__" : Str)) = false)
    (he : starEach (e :: es) X.env = (false, eval e X.env) :: starEach es X.env) (hpl : ((backTo pos (starEach (e :: es) X.env)).any (·.1) || (backToKw pos (keywordEach kws X.env)).any (·.1.isNone)) = false) :
    SimE X B N (fun c d _ H => E c d H) (.Call (.Name x p) (e :: es) kws pos) (eCallK n0 nk ix n m ma mk) := by
  obtain ⟨f, fd, ps, F1, hm, hk, hb⟩ := F.ex
  exact (pe_callN (E := E) F1 hr hg hm hk hb (passes_call tk fun _ _ _ _ h => h) ha hkw hall hks hdb he hpl).imp fun σ H Q h => callK_fin hl h
theorem sim_callK0 {nk : Nat} (F : FnK X.prog X.w X.K X.mg X.base B k x 0 ks ix n m) (tk : Takes X fun c d _ H => E c d H) (hr : Room k X.A) (hg : Gl X x) (hkw : SimK X B N (fun c d _ H => E c d H) kws mk)
    (hl : ks.length = nk) (hall : (backToKw pos (keywordEach kws X.env)).all (·.1.isSome) = true) (hks : (backToKw pos (keywordEach kws X.env)).filterMap (·.1) = ks) (hdb : (x == ("__debug__" : Str)) = false)
    (hpl : ((backTo pos (starEach [] X.env)).any (·.1) || (backToKw pos (keywordEach kws X.env)).any (·.1.isNone)) = false) :
    SimE X B N (fun c d _ H => E c d H) (.Call (.Name x p) [] kws pos) (eCallK 0 nk ix n m aNil mk) := by
  obtain ⟨f, fd, ps, F1, hm, hk, hb⟩ := F.ex
  refine ⟨fun pins s σ H Q I h => ?_⟩
  refine wpAny_Call_Name_kw (ld_glob I hg hm ?_ hdb)
  obtain ⟨W, s1, r, h⟩ := callK_fin hl h
  have h := h.ok r [] trivial
  refine PySem.W.callWith_KW0 (h₀ := X.base) I.ok.mod.kin hk hall ?_ hpl
  refine thn (hkw.run pos pins s σ H _ I h) fun ws s2 ⟨zs, H2, I2, rz, l1, l2, q2⟩ => ⟨I2.kIn, ?_⟩
  rw [hks]
  exact run_fnN (us := []) (vs := []) F1 hr hb (passes_call tk fun _ _ _ _ h => h) I2 .nil rz rfl l2 q2
end
end Lp

set_option Elab.async false
set_option linter.all false
set_option maxRecDepth 100000
set_option maxHeartbeats 4000000
/-! Lp9: walks as statements, cells, lists of a slot's own. -/
namespace Lp
open PySem PySem.Spec PyProof.Rows L2

/-! ### for -/
def Ent.at (N : Ent) (W : Wd) : Ent := ⟨N.W, N.h, N.H, N.len, W⟩
section
variable {B : Bs} {N : Ent} {W W' : Wd} {s s' : S} {σ : L2.St} {H H' : Hp}
theorem Rel.pinAt (r : Rel B N W s σ H) : Rel B (N.at W) W s σ H := ⟨r.hr, r.st, r.len, r.env, r.dis, .refl W⟩
theorem Rel.unpin (r : Rel B (N.at W) W' s σ H) (l : N.P.Le W) : Rel B N W' s σ H := ⟨r.hr, r.st, r.len, r.env, r.dis, l.trans r.pin⟩
end
open Classical in
noncomputable def loopF (r : Sr) (t : Tg) (body : MS) : List PV → MS
  | [], s => if stillS s.h r then .ok .nx s else .bad
  | x :: xs, s => if stillS s.h r then match bindT t x s.e with
      | some e1 => (body ⟨e1, s.h⟩).bind fun f s' => match f with
        | .nx => loopF r t body xs s'
        | .ct => loopF r t body xs s'
        | .bk => .ok .nx s'
        | .rt v => .ok (.rt v) s'
      | none => .bad
    else .bad
noncomputable def sFor (src : S → R S Sr) (t : Tg) (body : MS) : MS := fun s => (src s).bind fun r s1 => if r.o = true ∨ sizeLine < r.xs.length then .bad else loopF r t body r.xs s1
section
variable {X : Cx} {B : Bs} {N : Ent} {WX : L2.WX} {W W' : Wd} {s s' : S} {σ : L2.St} {H H' : Hp} {tg iter : Expr} {body : List Stmt} {mb : MS} {src : S → R S Sr} {t : Tg} {pos : Pos}
/-- statements whose entry is told later -/
theorem pss_any {st : List Stmt} (h : ∀ N, SimSs X B N WX st mb) : PSs X st (fun D σ H => ∃ N, tS B N WX mb D σ H) := ⟨fun pins s σ H D I ⟨N, q⟩ => (h N).run pins s σ H D I q⟩
theorem PostS.unpin {D : Ends} {r : R S Fl} (l : N.P.Le W) (q : PostS B N WX D r) : PostS B (N.at W) WX D r := R.post_mono q (fun f s' q => by
    cases f with
    | nx => exact fun W' σ' H' r' => q W' σ' H' (r'.unpin l)
    | rt v => exact fun W' σ' H' v' r' => q W' σ' H' v' (r'.unpin l)
    | bk => exact fun W' σ' H' r' => q W' σ' H' (r'.unpin l)
    | ct => exact fun W' σ' H' r' => q W' σ' H' (r'.unpin l)) fun x s' q W' σ' H' cls d r' => q W' σ' H' cls d (r'.unpin l)
theorem sims_for (hp : PassesOwn (model X.prog X.w) X.A X.env X.xe) (hK : X.K = B.K) (hc : X.calm = true) (hi : SimI X B N WX tg iter src) (hg : PG X tg (gT X.K t)) (hb : ∀ N, SimSs X B N WX body mb) (hs : ∀ x, foldedSetIterable iter X.env x = pure x) :
    SimS X B N WX (.For tg iter body [] pos) (sFor src t mb) :=
  (ps_for hp hc hi hg (pss_any hb) hs).imp fun D σ H ⟨W, s, r, h⟩ => by
    refine ⟨W, s, r, h.bindE.mono fun rr W1 s1 H1 r1 _ q st hz J wk => ?_⟩
    split at q
    · exact q.elim
    · rename_i ho
      simp only [not_or] at ho
      have no : rr.o = true → ∀ {P : Prop}, P := fun z => absurd z ho.1
      refine ⟨fun i m σ' H' => m = rr.xs.length - i ∧ i ≤ rr.xs.length ∧ ∃ W' s', Rel B (N.at W1) W' s' σ' H' ∧ PostS B (N.at W1) WX D (loopF rr t mb (rr.xs.drop i) s'), ⟨_, rfl, Nat.zero_le _, W1, s1, r1.pinAt, q.unpin r1.pin⟩, ?_⟩
      rintro i m σ' H' ⟨rfl, hi, W', s', r', q'⟩
      by_cases hl : i < rr.xs.length
      · right
        rw [List.drop_eq_getElem_cons hl] at q'
        unfold loopF at q'
        split at q'
        · rename_i st'
          obtain ⟨g1, g2⟩ := wk.go W' s' H' r'.hr r'.pin st' (fun z => no z) i rr.xs[i] (List.getElem?_eq_getElem hl)
          refine ⟨g1, fun σ2 H2 => (rr.xs.length - (i + 1) = rr.xs.length - (i + 1)) ∧ i + 1 ≤ rr.xs.length ∧ ∃ W' s', Rel B (N.at W1) W' s' σ2 H2 ∧ PostS B (N.at W1) WX D (loopF rr t mb (rr.xs.drop (i + 1)) s'), fun σ2 H2 z => ⟨_, by omega, z⟩, fun x H2 y => ?_⟩
          obtain ⟨W2, gr, rx⟩ := g2 x H2 y
          split at q'
          · rename_i e1 eb
            refine gT_ok hK (vs := t.sl) (fun i hi => hi) (gr.rel r') rx eb fun σ3 r3 _ => ⟨N.at W1, W2, ⟨e1, s'.h⟩, r3, R.post_mono (R.post_bind q') (fun f s4 q4 => ?_) fun x s4 q4 => q4⟩
            cases f with
            | nx => exact fun W5 σ5 H5 r5 => ⟨rfl, hl, W5, s4, r5, q4⟩
            | ct => exact fun W5 σ5 H5 r5 => ⟨rfl, hl, W5, s4, r5, q4⟩
            | bk => exact q4
            | rt v => exact q4
          · exact q'.elim
        · exact q'.elim
      · left
        rw [List.drop_eq_nil_of_le (by omega)] at q'
        unfold loopF at q'
        split at q'
        · rename_i st'
          exact ⟨wk.stop W' s' H' r'.hr r'.pin st' (fun z => no z) i (by omega), q' W' σ' H' r'⟩
        · exact q'.elim
end

/-! ### cells -/
section
variable {B : Bs} {N : Ent} {W W' : Wd} {s s' : S} {σ : L2.St} {h h' : AH} {H H' : Hp} {n : Nat} {c c' : Cell} {a p : Addr} {o : HO}
theorem set_at {α : Type} {l : List (Option α)} {n m : Nat} {c : α} {x : α} (e : (l.set n (some c))[m]? = some (some x)) : (m = n ∧ x = c) ∨ (m ≠ n ∧ l[m]? = some (some x)) := by
  by_cases hm : n = m
  · subst hm
    by_cases hl : n < l.length
    · rw [List.getElem?_set_self hl] at e
      cases e
      exact .inl ⟨rfl, rfl⟩
    · rw [List.getElem?_eq_none (by rw [List.length_set]; omega)] at e
      cases e
  · rw [List.getElem?_set_ne hm] at e
    exact .inr ⟨fun z => hm z.symm, e⟩
theorem hrel_cell (hr : HRel B W h H) (e : h[n]? = some (some c)) (em : W.m[n]? = some a) (ho : SzO o) (hc : CellR B W (upd H a o) a c') : HRel B W (h.set n (some c')) (upd H a o) := by
  have hF := (hr.cell n c a e em).1
  refine ⟨fun b u e1 => ?_, by rw [List.length_set]; exact hr.len, hr.nd, fun b hb => ?_, fun b u e1 nt => ?_, hr.fz, ?_, fun m c1 b e1 e2 => ?_⟩
  · have ne : b ≠ a := fun z => by rw [z, hF] at e1; cases e1
    rw [upd_ne ne]; exact hr.agree _ _ e1
  · by_cases hba : b = a
    · rw [hba, upd_same]; exact fun z => nomatch z
    · rw [upd_ne hba]; exact hr.mt b hb
  · by_cases hba : b = a
    · rw [hba, upd_same] at e1; cases e1; exact ho
    · rw [upd_ne hba] at e1; exact hr.hz b u e1 nt
  · have q := (hr.cell n c a e em).2
    cases c with
    | lst xs => obtain ⟨vs, q, _⟩ := q; exact tabs_wr hr.tb q nt_lst nc_lst
    | dic ks => exact q.elim
    | ins c fs => obtain ⟨dx, vs, q, _⟩ := q; exact tabs_wr hr.tb q nt_ins nc_ins
  · rcases set_at e1 with ⟨rfl, rfl⟩ | ⟨hm, e3⟩
    · rw [em] at e2; cases e2
      exact ⟨hF, hc⟩
    · have ne : b ≠ a := fun z => by
        subst z
        have i1 := (List.getElem?_eq_some_iff.mp e2).1
        have i2 := (List.getElem?_eq_some_iff.mp em).1
        exact hm ((List.getElem?_inj i1 hr.nd).mp (e2.trans em.symm))
      obtain ⟨h1, h2⟩ := hr.cell m c1 b e3 e2
      exact ⟨h1, h2.off ne⟩
theorem step_cell (hr : HRel B W h H) (e : h[n]? = some (some c)) (em : W.m[n]? = some a) : Step W h H W (h.set n (some c')) (upd H a o) := by
  refine ⟨.refl W, by rw [List.length_set]; exact Nat.le_refl _, fun m c1 hm e1 => ?_, fun b u e1 _ nl => ?_, fun b e1 => ?_, fun b e1 _ _ => e1, by rw [List.length_set]; exact hr.len, fun m b hm e1 => ?_⟩
  · rcases set_at e1 with ⟨rfl, rfl⟩ | ⟨_, e3⟩
    · exact ⟨_, e⟩
    · exact ⟨_, e3⟩
  · have ne : b ≠ a := fun z => nl (z ▸ ⟨n, c, e, em⟩)
    rw [upd_ne ne]; exact e1
  · by_cases hba : b = a
    · rw [hba, upd_same] at e1; cases e1
    · rw [upd_ne hba] at e1; exact e1
  · have := (List.getElem?_eq_some_iff.mp e1).1
    rw [hr.len] at this; omega
/-- a new cell at p -/
theorem le_cell : W.Le ⟨W.F, W.m ++ [p]⟩ := ⟨fun _ _ e => e, List.prefix_append _ _⟩
theorem snoc_at {α : Type} {l : List α} {x y : α} {n : Nat} (e : (l ++ [x])[n]? = some y) : (n < l.length ∧ l[n]? = some y) ∨ (n = l.length ∧ y = x) := by
  by_cases hn : n < l.length
  · rw [List.getElem?_append_left hn] at e
    exact .inl ⟨hn, e⟩
  · rw [List.getElem?_append_right (by omega)] at e
    by_cases h0 : n - l.length = 0
    · rw [h0] at e
      cases e
      exact .inr ⟨by omega, rfl⟩
    · obtain ⟨m, hm⟩ := Nat.exists_eq_succ_of_ne_zero h0
      rw [hm] at e
      simp at e
theorem hrel_snoc (hr : HRel B W h H) (hF : W.F p = none) (hm : p ∉ W.m) (hp : H p ≠ none) (hc : CellR B W H p c) : HRel B ⟨W.F, W.m ++ [p]⟩ (h ++ [some c]) H := by
  refine ⟨hr.agree, by simp [hr.len], ?_, fun b hb => ?_, hr.hz, hr.fz, hr.tb, fun m c1 b e1 e2 => ?_⟩
  · rw [List.nodup_append]
    exact ⟨hr.nd, by simp, fun x hx y hy e => hm (by simp at hy; rw [← hy, ← e]; exact hx)⟩
  · rcases List.mem_append.mp hb with hb | hb
    · exact hr.mt b hb
    · simp at hb; rw [hb]; exact hp
  · have e2 : (W.m ++ [p])[m]? = some b := e2
    rcases snoc_at e1 with ⟨hn, e3⟩ | ⟨rfl, e3⟩
    · rcases snoc_at e2 with ⟨_, e4⟩ | ⟨e4, _⟩
      · obtain ⟨h1, h2⟩ := hr.cell m c1 b e3 e4
        exact ⟨h1, h2.mono le_cell fun _ z => z⟩
      · rw [hr.len] at e4; omega
    · cases e3
      rcases snoc_at e2 with ⟨hn, _⟩ | ⟨_, rfl⟩
      · rw [hr.len] at hn; omega
      · exact ⟨hF, hc.mono le_cell fun _ z => z⟩
theorem Step.snoc {H0 : Hp} {W0 : Wd} {h0 : AH} (st : Step W0 h0 H0 W h H) (hp : H0 p = none) : Step W0 h0 H0 ⟨W.F, W.m ++ [p]⟩ (h ++ [some c]) H := by
  refine ⟨st.le.trans le_cell, by rw [List.length_append]; exact Nat.le_trans st.hl (Nat.le_add_right _ _), fun m c1 hm e => ?_, st.keep, st.tr, st.fgrow, by simp [st.hm], fun m b hm e => ?_⟩
  · rw [List.getElem?_append_left (Nat.lt_of_lt_of_le hm st.hl)] at e
    exact st.dead m c1 hm e
  · rcases snoc_at e with ⟨_, e4⟩ | ⟨_, rfl⟩
    · exact st.mnew m b hm e4
    · exact hp
theorem rel_snoc (r : Rel B N W s σ H) (l : Loose N W s σ p) (hp : H p ≠ none) (hc : CellR B W H p c) : Rel B N ⟨W.F, W.m ++ [p]⟩ ⟨s.e, s.h ++ [some c]⟩ σ H := by
  refine ⟨hrel_snoc r.hr l.F l.m hp hc, r.st.snoc l.e, r.len, fun i x e => ?_, r.dis, r.pin.trans le_cell⟩
  obtain ⟨v, e1, sl⟩ := r.env i x e
  refine ⟨v, e1, ?_⟩
  cases x with
  | own xs =>
    obtain ⟨b, vs, rfl, h1, h2, h3, h4, h5⟩ := sl
    refine ⟨b, vs, rfl, h1, h2.mono le_cell, h3, fun z => ?_, h5⟩
    rcases List.mem_append.mp z with z | z
    · exact h4 z
    · simp at z
      subst z
      exact l.o i _ e rfl e1
  | don ks => exact DonR.mono le_cell sl
  | _ => exact Rep.mono le_cell sl
end
def eCel (mn : S → R S (List PV)) : ME := fun s => (mn s).bind fun xs s1 => .ok (.cel s1.h.length) ⟨s1.e, s1.h ++ [some (.lst xs)]⟩
section
variable {X : Cx} {B : Bs} {N : Ent} {WX : L2.WX} {W W' : Wd} {s s' : S} {σ : L2.St} {H H' : Hp} {e o i : Expr} {es : List Expr} {mn : S → R S (List PV)} {ma : MA} {m mo mi : ME} {pos : Pos}
theorem sim_cel (h : SimN X B N WX e mn) : SimE X B N WX e (eCel mn) := h.imp fun σ H Q ⟨W, s, r, h⟩ => ⟨W, s, r, R.post_mono (R.post_bind h) (fun xs s1 q W1 H1 r1 st p vs hp l hH rv => by
  have ne : H1 p ≠ none := by rw [hH]; exact fun z => nomatch z
  have r2 := rel_snoc (c := .lst xs) r1 l ne ⟨vs, hH, rv⟩
  exact q _ H1 r2 ⟨st.st.snoc hp, st.eo⟩ _ (Rep.cel (by show (W1.m ++ [p])[s1.h.length]? = some p; rw [← r1.hr.len]; simp)).hand) fun x s1 q => q⟩
/-- a list display, not yet put anywhere -/
def nLst (ma : MA) : S → R S (List PV) := fun s => (ma s).bind fun vs s1 => if allSh vs = true ∧ vs.length ≤ sizeLine then .ok vs s1 else .bad
theorem sim_lstN (ha : SimA X B N WX es ma) : SimN X B N WX (.List es pos) (nLst ma) :=
  (pe_lst ha).imp fun σ H Q ⟨W, s, r, h⟩ => ⟨W, s, r, R.post_mono (R.post_bind h) (fun vs s1 q W1 H1 r1 st vs' rv => by
    split at q
    · rename_i hc
      have rv' := rv.reps hc.1
      have hz : vs'.length ≤ sizeLine := by rw [← rv'.length]; exact hc.2
      refine ⟨hz, fun p hp => ?_⟩
      have l := r1.loose hp
      have hp0 : H p = none := st.st.tr _ hp
      exact q W1 _ (rel_put r1 l (o := .lst vs') hz (.inl hp)) (st.put hp0 l.m) p vs' hp0 l upd_same rv'
    · exact q.elim) fun x s1 q => q⟩
end
end Lp

set_option Elab.async false
set_option linter.all false
set_option maxRecDepth 100000
set_option maxHeartbeats 4000000
/-! Lp10: stores into lists, append, methods of texts, isinstance. -/
namespace Lp
open PySem PySem.Spec PyProof.Rows L2

section
variable {B : Bs} {N : Ent} {W W' : Wd} {s s' : S} {σ : L2.St} {H H' : Hp} {i : Nat} {xs : List PV}
/-- a slot's own list: the state without it -/
theorem rel_clear (r : Rel B N W s σ H) (e : s.e[i]? = some (some (.own xs))) : ∃ p vs, σ[i]? = some (some (.ref p)) ∧ H p = some (.lst vs) ∧ Reps B W xs vs ∧ Rel B N W ⟨s.e.set i none, s.h⟩ σ H ∧ Loose N W ⟨s.e.set i none, s.h⟩ σ p := by
  obtain ⟨v, e1, p, vs, rfl, hH, rv, hF, hm, h0⟩ := r.env i _ e
  have g : ∀ (j : Nat) (y : PV), (s.e.set i none)[j]? = some (some y) → j ≠ i ∧ s.e[j]? = some (some y) := fun j y f => by
    by_cases hj : i = j
    · subst hj
      by_cases hl : i < s.e.length
      · rw [List.getElem?_set_self hl] at f; cases f
      · rw [List.getElem?_eq_none (by rw [List.length_set]; omega)] at f; cases f
    · rw [List.getElem?_set_ne hj] at f
      exact ⟨fun z => hj z.symm, f⟩
  refine ⟨p, vs, e1, hH, rv, ⟨r.hr, r.st, by rw [r.len]; simp, fun j y ej => r.env j y (g j y ej).2, fun j k y z a hjk f1 f2 o1 o2 s1 s2 => r.dis j k y z a hjk (g j y f1).2 (g k z f2).2 o1 o2 s1 s2, r.pin⟩, hF, hm, fun j y f o z => ?_, h0⟩
  obtain ⟨ne, f'⟩ := g j y f
  exact r.dis i j _ y p (Ne.symm ne) e f' rfl o e1 z
/-- .. gets another content -/
theorem rel_ownset (r : Rel B N W s σ H) (e : s.e[i]? = some (some (.own xs))) : ∃ p vs, σ[i]? = some (some (.ref p)) ∧ H p = some (.lst vs) ∧ Reps B W xs vs ∧
    ∀ ys us, Reps B W ys us → us.length ≤ sizeLine → Rel B N W ⟨s.e.set i (some (.own ys)), s.h⟩ σ (upd H p (.lst us)) := by
  obtain ⟨p, vs, e1, hH, rv, rc, lc⟩ := rel_clear r e
  refine ⟨p, vs, e1, hH, rv, fun ys us ru hz => ?_⟩
  have r2 := rel_put rc lc (o := .lst us) hz (wr_lst hH)
  have := rel_own (i := i) (p := p) (xs := ys) (vs := us) (σ' := σ) r2 rfl (fun _ _ => rfl) (.inl e1) ⟨lc.F, lc.m, fun j x _ f o => lc.o j x f o, lc.e⟩ upd_same ru
  simpa using this
end
/-- xs[k] = v -/
def setL (xs : List PV) (k : PV) (v : PV) : Option (List PV) := match k with
  | .int j => if isOwn v = true then none else (ixN xs.length j).map fun q => xs.set q v
  | _ => none
def cellL (h : AH) (n : Nat) : Option (List PV) := match h[n]? with
  | some (some (.lst xs)) => some xs
  | _ => none
def celN : PV → Option Nat
  | .cel n => some n
  | _ => none
def sSetC (mv mo mi : ME) : MS := fun s => (mv s).bind fun v s1 => (mo s1).bind fun o s2 => (mi s2).bind fun k s3 => match celN o with
  | some n => match cellL s3.h n with
    | some xs => match setL xs k v with
      | some ys => .ok .nx ⟨s3.e, s3.h.set n (some (.lst ys))⟩
      | none => .bad
    | none => .bad
  | none => .bad
def ownAt (e : List (Option PV)) (i : Nat) : Option (List PV) := match e[i]? with
  | some (some (.own xs)) => some xs
  | _ => none
def sSetN (i : Nat) (mv mi : ME) : MS := fun s => (mv s).bind fun v s1 => match ownAt s1.e i with
  | some _ => (mi s1).bind fun k s2 => match ownAt s2.e i with
    | some xs => match setL xs k v with
      | some ys => .ok .nx ⟨s2.e.set i (some (.own ys)), s2.h⟩
      | none => .bad
    | none => .bad
  | none => .bad
def addL (xs : List PV) (v : PV) : Option (List PV) := if isOwn v = true ∨ sizeLine ≤ xs.length then none else some (xs ++ [v])
def eAppC (mo me : ME) : ME := fun s => (mo s).bind fun o s1 => match celN o with
  | some n => match cellL s1.h n with
    | some _ => (me s1).bind fun v s2 => match cellL s2.h n with
      | some xs => match addL xs v with
        | some ys => .ok .non ⟨s2.e, s2.h.set n (some (.lst ys))⟩
        | none => .bad
      | none => .bad
    | none => .bad
  | none => .bad
def sAppN (i : Nat) (me : ME) : MS := fun s => match ownAt s.e i with
  | some _ => (me s).bind fun v s1 => match ownAt s1.e i with
    | some xs => match addL xs v with
      | some ys => .ok .nx ⟨s1.e.set i (some (.own ys)), s1.h⟩
      | none => .bad
    | none => .bad
  | none => .bad
theorem cellL_ok {h : AH} {n : Nat} {xs : List PV} (e : cellL h n = some xs) : h[n]? = some (some (.lst xs)) := by
  unfold cellL at e
  split at e
  · rename_i ys q; cases e; exact q
  · cases e
theorem celN_ok {x : PV} {n : Nat} (e : celN x = some n) : x = .cel n := by
  unfold celN at e
  split at e
  · cases e; rfl
  · cases e
theorem ownAt_ok {e : List (Option PV)} {i : Nat} {xs : List PV} (h : ownAt e i = some xs) : e[i]? = some (some (.own xs)) := by
  unfold ownAt at h
  split at h
  · rename_i ys q; cases h; exact q
  · cases h
theorem setL_ok {xs ys : List PV} {k v : PV} (e : setL xs k v = some ys) : ∃ j q, k = .int j ∧ isOwn v = false ∧ ixN xs.length j = some q ∧ ys = xs.set q v := by
  unfold setL at e
  split at e
  · rename_i j
    split at e
    · cases e
    · rename_i o
      cases q : ixN xs.length j with
      | none => rw [q] at e; cases e
      | some m => rw [q] at e; cases e; exact ⟨j, m, rfl, by simpa using o, q, rfl⟩
  · cases e
theorem addL_ok {xs ys : List PV} {v : PV} (e : addL xs v = some ys) : isOwn v = false ∧ xs.length < sizeLine ∧ ys = xs ++ [v] := by
  unfold addL at e
  split at e
  · cases e
  · rename_i o
    cases e
    simp only [not_or] at o
    exact ⟨by simpa using o.1, by omega, rfl⟩
section
variable {X : Cx} {B : Bs} {N : Ent} {WX : L2.WX} {W W' : Wd} {s s' : S} {σ : L2.St} {H H' : Hp} {e o ie : Expr} {mv mo mi me : ME} {pos tpos apos cpos npos : Pos} {x : Str} {i : Nat}
theorem rep_cel {n : Nat} {v : V} (r : RepT B W H (.cel n) v) : ∃ a, v = .ref a ∧ W.m[n]? = some a := by
  cases (show Rep B W (.cel n) v from r) with
  | cel h => exact ⟨_, rfl, h⟩
theorem cell_put {n : Nat} {a : Addr} {xs ys : List PV} {us : List V} (r : Rel B N W s σ H) (e : cellL s.h n = some xs) (em : W.m[n]? = some a) (ru : Reps B W ys us) (hz : us.length ≤ sizeLine) : Rel B N W ⟨s.e, s.h.set n (some (.lst ys))⟩ σ (upd H a (.lst us)) ∧ StepE W s H W ⟨s.e, s.h.set n (some (.lst ys))⟩ (upd H a (.lst us)) := by
  have hr2 := hrel_cell (c' := .lst ys) r.hr (cellL_ok e) em (o := .lst us) hz ⟨us, upd_same, ru⟩
  have st := step_cell (c' := .lst ys) (o := .lst us) r.hr (cellL_ok e) em
  exact ⟨rel_step r hr2 st, stepE_of st⟩
theorem sims_setC (hv : SimE X B N WX e mv) (ho : SimE X B N WX o mo) (hi : SimE X B N WX ie mi)
    (ha : ∀ v, assign (.Subscript o ie tpos) X.env v = (do
      let ov ← holding [v] (eval o X.env)
      let iv ← holding [v, ov] (eval ie X.env)
      standAt tpos
      holding [v, ov, iv] (setItem ov iv v)
      release [v, ov, iv] []))
    (hs : swapsWithSole [.Subscript o ie tpos] e pos.line X.env = pure false) (hw : swappedStores [.Subscript o ie tpos] e X.env = pure none) (h1 : (assignEach [.Subscript o ie tpos] X.env).map (·.2) = [assign (.Subscript o ie tpos) X.env]) :
    SimS X B N WX (.Assign [.Subscript o ie tpos] e pos) (sSetC mv mo mi) :=
  (ps_asg hv (pg_sub ho hi set_list ha) hs hw h1).imp fun D σ H ⟨W, s, r, h⟩ => ⟨W, s, r, h.bindE.mono fun v W1 s1 H1 r1 _ q v' rv => ⟨W1, s1, r1, q.bindE.mono fun ov W2 s2 H2 r2 st2 q o' ro => ⟨W2, s2, r2, q.bindE.mono fun k W3 s3 H3 r3 st3 q3 k' rk => by
    split at q3
    · rename_i n en
      split at q3
      · rename_i xs ex
        split at q3
        · rename_i ys ey
          obtain ⟨j, m, rfl, ov1, e3, rfl⟩ := setL_ok ey
          obtain rfl := celN_ok en
          obtain ⟨a, rfl, em⟩ := rep_cel (ro.on r2.slen st3.st)
          obtain ⟨_, vs, hH, rvs⟩ := r3.hr.cell n _ a (cellL_ok ex) em
          have rv3 := ((rv.on r1.slen st2.st).on r2.slen st3.st).rep ov1
          have hz : (vs.set m v').length ≤ sizeLine := by rw [List.length_set]; exact r3.hr.hz a _ hH nt_lst
          refine ⟨a, vs, j, m, rfl, rep_int rk, hH, by rw [← rvs.length]; exact e3, ?_⟩
          exact q3 W3 σ _ (cell_put r3 ex em (rvs.set rv3 m) hz).1
        · exact q3.elim
      · exact q3.elim
    · exact q3.elim⟩⟩⟩
theorem own_back {W' : Wd} {s' : S} {xs : List PV} (r : Rel B N W s σ H) (st : StepE W s H W' s' H') (e : ownAt s'.e i = some xs) : s.e[i]? = some (some (.own xs)) := st.eo i _ (ownAt_ok e) rfl
theorem sims_setN (hN : X.N[i]? = some x) (hx : Vis X.env.scope x) (hd : (x == ("__debug__" : Str)) = false) (hcd : (x == ("__classdict__" : Str)) = false) (hv : SimE X B N WX e mv) (hi : SimE X B N WX ie mi)
    (ha : ∀ v, assign (.Subscript (.Name x npos) ie tpos) X.env v = (do
      let ov ← holding [v] (eval (.Name x npos) X.env)
      let iv ← holding [v, ov] (eval ie X.env)
      standAt tpos
      holding [v, ov, iv] (setItem ov iv v)
      release [v, ov, iv] []))
    (hs : swapsWithSole [.Subscript (.Name x npos) ie tpos] e pos.line X.env = pure false) (hw : swappedStores [.Subscript (.Name x npos) ie tpos] e X.env = pure none) (h1 : (assignEach [.Subscript (.Name x npos) ie tpos] X.env).map (·.2) = [assign (.Subscript (.Name x npos) ie tpos) X.env]) :
    SimS X B N WX (.Assign [.Subscript (.Name x npos) ie tpos] e pos) (sSetN i mv mi) :=
  (ps_asg hv (pg_sub (pe_var hN hx hd hcd) hi set_list ha) hs hw h1).imp fun D σ H ⟨W, s, r, h⟩ => ⟨W, s, r, h.bindE.mono fun v W1 s1 H1 r1 _ q v' rv => by
    split at q
    · rename_i xs0 e0
      obtain ⟨ov, eo, _⟩ := r1.env i _ (ownAt_ok e0)
      refine ⟨ov, eo, W1, s1, r1, q.bindE.mono fun k W2 s2 H2 r2 st2 q k' rk => ?_⟩
      split at q
      · rename_i xs ex
        split at q
        · rename_i ys ey
          obtain ⟨j, m, rfl, ov1, e3, rfl⟩ := setL_ok ey
          obtain ⟨p, vs, e1, hH, rvs, fin⟩ := rel_ownset r2 (ownAt_ok ex)
          rw [e1] at eo
          cases eo
          have rv2 := (rv.on r1.slen st2.st).rep ov1
          have hz : (vs.set m v').length ≤ sizeLine := by rw [List.length_set]; exact r2.hr.hz p _ hH nt_lst
          refine ⟨p, vs, j, m, rfl, rep_int rk, hH, by rw [← rvs.length]; exact e3, ?_⟩
          exact q W2 σ _ (fin _ _ (rvs.set rv2 m) hz)
        · exact q.elim
      · exact q.elim
    · exact q.elim⟩
theorem sim_appC (ho : SimE X B N WX o mo) (he : SimE X B N WX e me) (hbase : attributeBase o "append" X.env (eval o X.env) = eval o X.env)
    (hfew : ((backTo cpos (starEach [e] X.env)).all (fun x => !x.1) && (backToKw cpos (keywordEach [] X.env)).all (fun x => x.1.isSome) && decide (([e] : List Expr).length + ([] : List Keyword).length + (if ([] : List Keyword).isEmpty then 0 else 1) < 30)) = true)
    (hline : (apos.endLine == cpos.line) = true) (hs : starEach [e] X.env = (false, eval e X.env) :: starEach [] X.env) (hplain : (backTo cpos (starEach [] X.env)).any (·.1) = false) :
    SimE X B N WX (.Call (.Attribute o "append" apos) [e] [] cpos) (eAppC mo me) :=
  (pe_bm PySem.F.plainAttrs_list PySem.F.slot_list_append PySem.F.type_list_append mt_append ho (pa_cons he pa_nil hs) hbase hfew hline hs hplain).imp fun σ H Q ⟨W, s, r, h⟩ => ⟨W, s, r, (h.bind r.slen).mono fun o1 W1 s1 H1 r1 _ q o' ro => by
    split at q
    · rename_i n en
      obtain rfl := celN_ok en
      obtain ⟨a, rfl, em⟩ := rep_cel ro
      split at q
      · rename_i xs0 e0
        obtain ⟨_, vs0, hH0, _⟩ := r1.hr.cell n _ a (cellL_ok e0) em
        refine ⟨.inl ⟨rfl, vs0, .inl (.inl hH0)⟩, W1, s1, r1, (q.bind r1.slen).mono fun v W2 s2 H2 r2 st2 q v' rv => ?_⟩
        split at q
        · rename_i xs ex
          split at q
          · rename_i ys ey
            obtain ⟨ov1, hz, rfl⟩ := addL_ok ey
            have em2 := st2.st.le.at em
            obtain ⟨_, vs, hH, rvs⟩ := r2.hr.cell n _ a (cellL_ok ex) em2
            have hz' : vs.length < sizeLine := by rw [← rvs.length]; exact hz
            refine ⟨a, vs, v', rfl, rfl, hH, hz', ?_⟩
            obtain ⟨r3, st3⟩ := cell_put r2 ex em2 (rvs.append (.one (rv.rep ov1))) (by rw [List.length_append]; exact hz')
            exact q W2 _ r3 st3 .non Rep.non.hand
          · exact q.elim
        · exact q.elim
      · exact q.elim
    · exact q.elim⟩
theorem sims_appN (hN : X.N[i]? = some x) (hx : Vis X.env.scope x) (hd : (x == ("__debug__" : Str)) = false) (hcd : (x == ("__classdict__" : Str)) = false) (he : SimE X B N WX e me) (hbase : attributeBase (.Name x npos) "append" X.env (eval (.Name x npos) X.env) = eval (.Name x npos) X.env)
    (hfew : ((backTo cpos (starEach [e] X.env)).all (fun x => !x.1) && (backToKw cpos (keywordEach [] X.env)).all (fun x => x.1.isSome) && decide (([e] : List Expr).length + ([] : List Keyword).length + (if ([] : List Keyword).isEmpty then 0 else 1) < 30)) = true)
    (hline : (apos.endLine == cpos.line) = true) (hs : starEach [e] X.env = (false, eval e X.env) :: starEach [] X.env) (hplain : (backTo cpos (starEach [] X.env)).any (·.1) = false)
    (hsw : swapsWith (.Call (.Attribute (.Name x npos) "append" apos) [e] [] cpos) none pos.line X.env = pure false) :
    SimS X B N WX (.Expr (.Call (.Attribute (.Name x npos) "append" apos) [e] [] cpos) pos) (sAppN i me) :=
  (ps_expr (pe_bm PySem.F.plainAttrs_list PySem.F.slot_list_append PySem.F.type_list_append mt_append (pe_var hN hx hd hcd) (pa_cons he pa_nil hs) hbase hfew hline hs hplain) hsw).imp fun D σ H ⟨W, s, r, h⟩ => by
    unfold sAppN at h
    split at h
    · rename_i xs0 e0
      obtain ⟨ov, eo, p0, vs0, rfl, hH0, _⟩ := r.env i _ (ownAt_ok e0)
      refine ⟨_, eo, .inl ⟨rfl, vs0, .inl (.inl hH0)⟩, W, s, r, h.bindE.mono fun v W2 s2 H2 r2 st2 q v' rv => ?_⟩
      split at q
      · rename_i xs ex
        split at q
        · rename_i ys ey
          obtain ⟨ov1, hz, rfl⟩ := addL_ok ey
          obtain ⟨p, vs, e1, hH, rvs, fin⟩ := rel_ownset r2 (ownAt_ok ex)
          rw [e1] at eo
          cases eo
          have hz' : vs.length < sizeLine := by rw [← rvs.length]; exact hz
          exact ⟨_, vs, v', rfl, rfl, hH, hz', q W2 σ _ (fin _ _ (rvs.append (.one (rv.rep ov1))) (by rw [List.length_append]; exact hz'))⟩
        · exact q.elim
      · exact q.elim
    · exact h.elim
end

/-! ### the slot's list is given out, ahead of a statement -/
def sFrz (i : Nat) (m : MS) : MS := fun s => match ownAt s.e i with
  | some xs => m ⟨s.e.set i (some (.lst xs)), s.h⟩
  | none => m s
section
variable {X : Cx} {B : Bs} {N : Ent} {WX : L2.WX} {st : Stmt} {m : MS} {i : Nat}
theorem sims_frz (i : Nat) (h : SimS X B N WX st m) : SimS X B N WX st (sFrz i m) := h.imp fun D σ H ⟨W, s, r, q⟩ => by
  unfold sFrz at q
  split at q
  · rename_i xs e
    obtain ⟨p, vs, _, _, _, _, _, _, r2⟩ := rel_frz r (ownAt_ok e)
    exact ⟨_, _, r2, q⟩
  · exact ⟨W, s, r, q⟩
end

/-! ### methods of texts -/
def MethS (X : Cx) (B : Bs) (f : AH → Str → List PV → Option PV) (r : V → List V → Hp → VK → Prop) : Prop := ∀ (W : Wd) (h : AH) (H : Hp) (x : Str) (xs : List PV) (z : PV) (xs' : List V) (Q : VK), HRel B W h H → SOk x → RepTs B W H xs xs' → f h x xs = some z →
  (∀ W' H' z', Grow W H W' H' → RepT B W' H' z z' → Q z' H') → r (.str x) xs' H Q
def strN : PV → Option Str
  | .str x => some x
  | _ => none
def eMS (f : AH → Str → List PV → Option PV) (mo : ME) (ma : MA) : ME := fun s => (mo s).bind fun o s1 => match strN o with
  | some x => (ma s1).bind fun vs s2 => match f s2.h x vs with
    | some z => .ok z s2
    | none => .bad
  | none => .bad
section
variable {X : Cx} {B : Bs} {N : Ent} {WX : L2.WX} {W W' : Wd} {s s' : S} {σ : L2.St} {H H' : Hp} {o e : Expr} {es : List Expr} {mo : ME} {ma : MA} {name : Str} {apos cpos : Pos} {id : String} {r : V → List V → Hp → VK → Prop} {f : AH → Str → List PV → Option PV}
theorem strN_ok {x : PV} {y : Str} (e : strN x = some y) : x = .str y := by
  unfold strN at e
  split at e
  · cases e; rfl
  · cases e
theorem sim_ms (slot : Slot "str" name id) (hty : typeOf (.builtin id) = pure (.type "method_descriptor")) (hm : MtR X id r) (hf : MethS X B f r) (ho : SimE X B N WX o mo) (ha : SimA X B N WX (e :: es) ma) (hbase : attributeBase o name X.env (eval o X.env) = eval o X.env)
    (hfew : ((backTo cpos (starEach (e :: es) X.env)).all (fun x => !x.1) && (backToKw cpos (keywordEach [] X.env)).all (fun x => x.1.isSome)
      && decide ((e :: es).length + ([] : List Keyword).length + (if ([] : List Keyword).isEmpty then 0 else 1) < 30)) = true)
    (hline : (apos.endLine == cpos.line) = true) (hs : starEach (e :: es) X.env = (false, eval e X.env) :: starEach es X.env) (hplain : (backTo cpos (starEach es X.env)).any (·.1) = false) :
    SimE X B N WX (.Call (.Attribute o name apos) (e :: es) [] cpos) (eMS f mo ma) :=
  (pe_bm PySem.F.plainAttrs_str slot hty hm ho ha hbase hfew hline hs hplain).imp fun σ H Q ⟨W, s, r0, h⟩ => ⟨W, s, r0, (h.bind r0.slen).mono fun o1 W1 s1 H1 r1 _ q o' ro => by
    split at q
    · rename_i x ex
      obtain rfl := strN_ok ex
      obtain ⟨rfl, hx⟩ := rep_str ro
      refine ⟨rfl, W1, s1, r1, (q.bind r1.slen).mono fun vs W2 s2 H2 r2 st2 q vs' rvs => ?_⟩
      split at q
      · rename_i z ez
        exact hf W2 s2.h H2 x vs z vs' Q r2.hr hx rvs ez fun W' H' z' g rz => q W' H' (g.rel r2) (g.stepE r2.hr) z' rz
      · exact q.elim
    · exact q.elim⟩
theorem sim_ms0 (slot : Slot "str" name id) (hty : typeOf (.builtin id) = pure (.type "method_descriptor")) (hm : MtR X id r) (hf : MethS X B f r) (ho : SimE X B N WX o mo) (hbase : attributeBase o name X.env (eval o X.env) = eval o X.env) (hline : (apos.endLine == cpos.line) = true) :
    SimE X B N WX (.Call (.Attribute o name apos) [] [] cpos) (eMS f mo aNil) :=
  (pe_bm0 PySem.F.plainAttrs_str slot hty hm ho hbase hline).imp fun σ H Q ⟨W, s, r0, h⟩ => ⟨W, s, r0, (h.bind r0.slen).mono fun o1 W1 s1 H1 r1 _ q o' ro => by
    split at q
    · rename_i x ex
      obtain rfl := strN_ok ex
      obtain ⟨rfl, hx⟩ := rep_str ro
      refine ⟨rfl, ?_⟩
      have q := (q.bind r1.slen).ok r1
      split at q
      · rename_i z ez
        exact hf W1 s1.h H1 x [] z [] Q r1.hr hx trivial ez fun W' H' z' g rz => q W' H' (g.rel r1) (g.stepE r1.hr) z' rz
      · exact q.elim
    · exact q.elim⟩
end
/-- sep.join(..) -/
def strsOf (xs : List PV) : Option (List Str) := xs.mapM strN
def mJoin : AH → Str → List PV → Option PV := fun h x xs => match xs with
  | [y] => (asS h y).bind fun zs => (strsOf zs).bind fun ys => if (ys.map (·.length)).sum + ys.length * x.length ≤ 16777216 ∧ PyData.strOk (Txt.join x ys) = true ∧ (Txt.join x ys).length ≤ sizeLine then some (.str (Txt.join x ys)) else none
  | _ => none
theorem strs_reps {B : Bs} {W : Wd} : ∀ {ys : List PV} {vs : List V} {bs : List Str}, Reps B W ys vs → strsOf ys = some bs → vs = bs.map V.str
  | _, _, bs, .nil, e => by
    simp [strsOf] at e; subst e; rfl
  | x :: xs, _, bs, .cons (v := v) r t, e => by
    unfold strsOf at e
    rw [List.mapM_cons] at e
    cases q : strN x with
    | none => rw [q] at e; cases e
    | some y =>
      rw [q] at e
      cases q2 : xs.mapM strN with
      | none => rw [q2] at e; cases e
      | some zs =>
        rw [q2] at e
        cases e
        obtain rfl := strN_ok q
        rw [strs_reps t (show strsOf xs = some zs from q2)]
        cases r
        rfl
theorem sem_join {X : Cx} {B : Bs} (hK : X.K = B.K) : MethS X B mJoin (fun x xs H Q => ∃ a p, ∃ ys : List Str, x = .str a ∧ xs = [.ref p] ∧ (SqL X.K H p (ys.map V.str) ∨ SqT X.K H p (ys.map V.str)) ∧ (ys.map (·.length)).sum + ys.length * a.length ≤ 16777216 ∧ Q (.str (Txt.join a ys)) H) := by
  intro W h H x xs z xs' Q hr hx rxs e q
  unfold mJoin at e
  split at e
  · rename_i y
    obtain ⟨v, rfl, rv⟩ := repts1 rxs
    cases q1 : asS h y with
    | none => rw [q1] at e; cases e
    | some zs =>
      rw [q1] at e
      cases q2 : strsOf zs with
      | none =>
        have e : (strsOf zs).bind _ = some z := e
        rw [q2] at e; cases e
      | some ys =>
        have e : (strsOf zs).bind _ = some z := e
        rw [q2] at e
        have e : (if _ then _ else _) = some z := e
        split at e
        · rename_i hz
          cases e
          obtain ⟨a, vs, rfl, hs, rvs⟩ := asS_ok hK hr rv q1
          have := strs_reps rvs q2
          subst this
          exact ⟨x, a, ys, rfl, rfl, hs.symm, hz.1, q W H _ (.refl W H) (Rep.str _ ⟨hz.2.1, hz.2.2⟩).hand⟩
        · cases e
  · cases e

/-! ### isinstance, by built-in types -/
inductive BT where
  | non | bl | int | str | tup | lst | dic
  deriving DecidableEq
def BT.nm : BT → String
  | .non => "NoneType" | .bl => "bool" | .int => "int" | .str => "str" | .tup => "tuple" | .lst => "list" | .dic => "dict"
def BT.of (n : String) : Option BT := if n = "bool" then some .bl else if n = "int" then some .int else if n = "str" then some .str else if n = "tuple" then some .tup else if n = "list" then some .lst else if n = "dict" then some .dic else none
@[simp] theorem BT.of_bool : BT.of "bool" = some .bl := rfl
@[simp] theorem BT.of_int : BT.of "int" = some .int := rfl
@[simp] theorem BT.of_str : BT.of "str" = some .str := rfl
@[simp] theorem BT.of_tuple : BT.of "tuple" = some .tup := rfl
@[simp] theorem BT.of_list : BT.of "list" = some .lst := rfl
@[simp] theorem BT.of_dict : BT.of "dict" = some .dic := rfl
def subT : BT → BT → Bool
  | .bl, .int => true
  | .non, .non => true
  | .bl, .bl => true
  | .int, .int => true
  | .str, .str => true
  | .tup, .tup => true
  | .lst, .lst => true
  | .dic, .dic => true
  | _, _ => false
theorem BT.of_nm {n : String} {t : BT} (e : BT.of n = some t) : n = t.nm := by
  unfold BT.of at e
  repeat (split at e; · (rename_i h; cases e; exact h))
  cases e
theorem kit_sub : ∀ {a b : BT}, b ≠ .non → kitB a.nm b.nm = some (subT a b) := fun {a b} h => by
  cases b <;> (first | exact absurd rfl h | skip) <;> cases a <;> decide +kernel
theorem BT.of_ne {n : String} {t : BT} (e : BT.of n = some t) : t ≠ .non := by
  unfold BT.of at e
  repeat (split at e; · (cases e; exact fun z => nomatch z))
  cases e
def tyN (h : AH) : PV → Option BT
  | .non => some .non
  | .bl _ => some .bl
  | .int _ => some .int
  | .str _ => some .str
  | .tup _ => some .tup
  | x => (asL h x).map fun _ => .lst
def tysOf : List PV → Option (List BT)
  | [] => some []
  | .ty n :: xs => (BT.of n).bind fun t => (tysOf xs).map fun ts => t :: ts
  | _ => none
def bIsi : AH → List PV → Option PV := fun h xs => match xs with
  | [x, .ty n] => (tyN h x).bind fun t => (BT.of n).map fun u => .bl (subT t u)
  | [x, .tup cs] => (tyN h x).bind fun t => (tysOf cs).map fun us => .bl (us.any (subT t))
  | _ => none
section
variable {X : Cx} {B : Bs} {W : Wd} {h : AH} {H : Hp}
theorem tyN_ok (hK : X.K = B.K) (hr : HRel B W h H) {x : PV} {x' : V} {t : BT} (rx : RepT B W H x x') (e : tyN h x = some t) : TyX X.K H x' (.type t.nm) := by
  have fin : (asL h x).map (fun _ => BT.lst) = some t → TyX X.K H x' (.type t.nm) := fun e => by
    cases q : asL h x with
    | none => rw [q] at e; cases e
    | some xs =>
      rw [q] at e; cases e
      obtain ⟨a, vs, rfl, h1, _⟩ := asL_ok hr rx q
      rcases h1 with (h1 | ⟨o, h1⟩) | ⟨o, its, n, h1, h2, _⟩
      · exact .base (.lst h1)
      · exact .base (.frz h1)
      · exact .kList (hK ▸ h1) h2
  cases x with
  | non => cases e; rw [rep_non rx]; exact .base .non
  | bl b => cases e; rw [rep_bl rx]; exact .base (.bl b)
  | int i => cases e; rw [rep_int rx]; exact .base (.int i)
  | str y => cases e; rw [(rep_str rx).1]; exact .base (.str y)
  | tup xs =>
    cases e
    cases (show Rep B W (.tup xs) x' from rx) with
    | tup h1 r =>
      rcases h1 with h1 | ⟨o, its, n, h1, h2, _⟩
      · exact .base (.tup (hr.agree _ _ h1))
      · exact .kTuple (hK ▸ h1) h2
  | _ => exact fin e
theorem tysOf_ok : ∀ {cs : List PV} {vs : List V} {us : List BT}, Reps B W cs vs → tysOf cs = some us → (∀ u ∈ us, u ≠ .non) ∧ Paired ClsV vs (us.map fun u => .type u.nm)
  | _, _, us, .nil, e => by cases e; exact ⟨fun _ h => (by cases h), .nil⟩
  | .ty n :: cs, _, us, .cons r t, e => by
    rw [tysOf] at e
    cases q : BT.of n with
    | none => rw [q] at e; cases e
    | some b =>
      rw [q] at e
      cases q2 : tysOf cs with
      | none => have e : (tysOf cs).map _ = some us := e; rw [q2] at e; cases e
      | some bs =>
        have e : (tysOf cs).map _ = some us := e
        rw [q2] at e
        cases e
        obtain ⟨h1, h2⟩ := tysOf_ok t q2
        cases r
        refine ⟨fun u hu => ?_, ?_⟩
        · rcases List.mem_cons.mp hu with rfl | hu
          · exact BT.of_ne q
          · exact h1 u hu
        · rw [BT.of_nm q]
          exact .cons (.ty _) h2
  | .non :: _, _, _, .cons _ _, e => by cases e
  | .bl _ :: _, _, _, .cons _ _, e => by cases e
  | .int _ :: _, _, _, .cons _ _, e => by cases e
  | .str _ :: _, _, _, .cons _ _, e => by cases e
  | .tup _ :: _, _, _, .cons _ _, e => by cases e
  | .lst _ :: _, _, _, .cons _ _, e => by cases e
  | .scr _ :: _, _, _, .cons _ _, e => by cases e
  | .own _ :: _, _, _, .cons _ _, e => by cases e
  | .dic _ :: _, _, _, .cons _ _, e => by cases e
  | .don _ :: _, _, _, .cons _ _, e => by cases e
  | .ins _ _ :: _, _, _, .cons _ _, e => by cases e
  | .cel _ :: _, _, _, .cons _ _, e => by cases e
  | .cls _ :: _, _, _, .cons _ _, e => by cases e
theorem kitAny_of {K : PySem.W.Frag} {t : BT} : ∀ {us : List BT}, (∀ u ∈ us, u ≠ .non) → PySem.W.kitAny K (.type t.nm) (us.map fun u => .type u.nm) = some (us.any (subT t))
  | [], _ => rfl
  | u :: us, h => by
    have h1 : PySem.W.kitOne K (.type t.nm) (.type u.nm) = some (subT t u) := kit_ty (kit_sub (h u (by simp)))
    have h2 := kitAny_of (K := K) (t := t) (us := us) fun v hv => h v (List.mem_cons_of_mem _ hv)
    rw [List.map_cons, List.any_cons]
    exact kitAny_cons h1 (fun e => by rw [e, Bool.false_or]; exact h2) (fun e => by rw [e, Bool.true_or])
theorem vals_ty {us : List BT} : ∀ {vs : List V} {ws : List Value}, Paired ClsV vs (us.map fun u => .type u.nm) → Vals vs ws → ws = us.map fun u => .type u.nm := fun a b => ClsV.all a b
abbrev rIsiB (K : PySem.W.Frag) : List V → Hp → VK → Prop := fun xs H Q => rIsi K xs H Q ∨ rIsiT K xs H Q ∨ rIsiK K xs H Q
theorem call_isiB : CallR X (.builtin "isinstance") (rIsiB X.K) := fun pins s σ H xs us Q I r h => h.elim (call_isi pins s σ H xs us Q I r) fun h => h.elim (call_isiT pins s σ H xs us Q I r) (call_isiK pins s σ H xs us Q I r)
theorem sem_isi (hK : X.K = B.K) : CallSem X B bIsi (rIsiB X.K) := by
  intro W h H xs z xs' Q hr rxs e q
  unfold bIsi at e
  split at e
  · rename_i x n
    obtain ⟨v, w, rfl, rv, rw'⟩ := repts2 rxs
    cases q1 : tyN h x with
    | none => rw [q1] at e; cases e
    | some t =>
      rw [q1] at e
      have e : (BT.of n).map _ = some z := e
      cases q2 : BT.of n with
      | none => rw [q2] at e; cases e
      | some u =>
        rw [q2] at e
        cases e
        cases (show Rep B W (.ty n) w from rw')
        refine .inl ⟨v, .ty n, _, .type n, subT t u, rfl, .ty n, tyN_ok hK hr rv q1, ?_, q W H _ (.refl W H) (Rep.bl _).hand⟩
        rw [BT.of_nm q2]
        exact kit_ty (kit_sub (BT.of_ne q2))
  · rename_i x cs
    obtain ⟨v, w, rfl, rv, rw'⟩ := repts2 rxs
    cases q1 : tyN h x with
    | none => rw [q1] at e; cases e
    | some t =>
      rw [q1] at e
      have e : (tysOf cs).map _ = some z := e
      cases q2 : tysOf cs with
      | none => rw [q2] at e; cases e
      | some us =>
        rw [q2] at e
        cases e
        cases (show Rep B W (.tup cs) w from rw') with
        | tup h1 r =>
          obtain ⟨k1, k2⟩ := tysOf_ok r q2
          rcases h1 with h1 | ⟨o, its, m, h1, h2, h3, h4, h5⟩
          · exact .inr (.inl ⟨v, _, _, _, us.map fun u => .type u.nm, _, rfl, hr.agree _ _ h1, k2, tyN_ok hK hr rv q1, kitAny_of k1, q W H _ (.refl W H) (Rep.bl _).hand⟩)
          · have e5 := vals_ty k2 h5
            obtain ⟨oc, od, dt, sl⟩ := o
            simp only at h2 h3
            subst h2 h3
            refine .inr (.inr ⟨v, _, od, us.map fun u => .type u.nm, m, sl, _, _, rfl, ?_, tyN_ok hK hr rv q1, kitAny_of k1, q W H _ (.refl W H) (Rep.bl _).hand⟩)
            rw [hK, h1, ← e5]
  · cases e
/-- a built-in type's name -/
theorem sim_ty {N : Ent} {WX : L2.WX} {x : Str} {T : String} {pos : Pos} (hg : Gl X x) (hm : X.mg x = none) (hv : bootBuiltins x = some (.type T)) (hn : x ≠ "__name__") (hdb : (x == ("__debug__" : Str)) = false) : SimE X B N WX (.Name x pos) (eC (.ty T)) :=
  sim_c (pe_bltn (v := .ty T) hg hm hv rfl hn hdb) fun _ => .ty T
end
end Lp

set_option Elab.async false
set_option linter.all false
set_option maxRecDepth 100000
set_option maxHeartbeats 4000000
/-! Lp11: the operators, each by one rule; names of the module. -/
namespace Lp
open PySem PySem.Spec PyProof.Rows L2

/-- ascending by the list of ints -/
def intsOf (xs : List PV) : Option (List Int) := xs.mapM fun x => match x with
  | .int i => some i
  | _ => none
theorem ints_reps {B : Bs} {W : Wd} : ∀ {ys : List PV} {vs : List V} {bs : List Int}, Reps B W ys vs → intsOf ys = some bs → vs = bs.map V.int
  | _, _, bs, .nil, e => by
    simp [intsOf] at e; subst e; rfl
  | x :: xs, _, bs, .cons (v := v) r t, e => by
    unfold intsOf at e
    rw [List.mapM_cons] at e
    cases x with
    | int i =>
      cases q2 : xs.mapM (fun x => match x with | PV.int i => some i | _ => none) with
      | none => rw [q2] at e; cases e
      | some zs =>
        rw [q2] at e
        cases e
        rw [ints_reps t (show intsOf xs = some zs from q2)]
        cases r
        rfl
    | _ => cases e
def fTupI (g : List Int → List Int → Bool) : AH → PV → PV → Option PV := fun _ x y => match x, y with
  | .tup xs, .tup ys => match intsOf xs, intsOf ys with
    | some ns, some ms => some (.bl (g ns ms))
    | _, _ => none
  | _, _ => none
def fRepT : AH → PV → PV → Option PV := fun _ x y => match x, y with
  | .tup xs, .int k => if xs ≠ [] ∧ 2 ≤ k ∧ k ≤ 1000 ∧ xs.length ≤ 1000 then some (.tup (List.replicate k.toNat xs).flatten) else none
  | _, _ => none
section
variable {X : Cx} {B : Bs}
theorem sem_tupLt (hK : X.K = B.K) : OpSem X B (fTupI HT.lexLt) (rLtT X.K) := by
  intro W h H x y z x' y' Q hr rx ry e q
  unfold fTupI at e
  split at e
  · rename_i xs ys
    split at e
    · rename_i ns ms e1 e2
      cases e
      obtain ⟨a, vs, rfl, h1, r1⟩ := tup_ok hK hr (show Rep B W (.tup xs) x' from rx)
      obtain ⟨b, us, rfl, h2, r2⟩ := tup_ok hK hr (show Rep B W (.tup ys) y' from ry)
      rw [ints_reps r1 e1] at h1
      rw [ints_reps r2 e2] at h2
      exact ⟨a, b, ns, ms, rfl, rfl, h1, h2, q W H _ (.refl W H) (Rep.bl _).hand⟩
    · cases e
  · cases e
theorem sem_repT (hK : X.K = B.K) : OpSem X B fRepT (rRepT X.K) := by
  intro W h H x y z x' y' Q hr rx ry e q
  unfold fRepT at e
  split at e
  · rename_i xs k
    split at e
    · rename_i hz
      cases e
      obtain ⟨a, vs, rfl, h1, r1⟩ := tup_ok hK hr (show Rep B W (.tup xs) x' from rx)
      have hl := r1.length
      have l2 : vs.length ≤ 1000 := by omega
      refine ⟨a, k, vs, rfl, rep_int ry, h1, fun z => hz.1 (by rw [z] at hl; exact List.length_eq_zero_iff.mp hl), hz.2.1, hz.2.2.1, l2, fun p hp => ?_⟩
      refine q _ _ _ (.new hp ?_) (rep_tup_new (hr.fnone hp) (r1.rep k.toNat)).hand
      show (List.replicate k.toNat vs).flatten.length ≤ sizeLine
      rw [flat_len]
      have h3 : k.toNat ≤ 1000 := by have := hz.2.2.1; omega
      have h4 : vs.length * k.toNat ≤ 1000 * 1000 := Nat.mul_le_mul l2 h3
      have h5 : 1000 * 1000 ≤ sizeLine := by decide
      omega
    · cases e
  · cases e
def orR (r r' : R2) : R2 := fun x y H Q => r x y H Q ∨ r' x y H Q
def fAdd : AH → PV → PV → Option PV := fun h x y => match x, y with
  | .int i, .int j => some (.int (i + j))
  | .str _, _ => fAddS h x y
  | .tup _, _ => fAddT h x y
  | _, _ => fAddL h x y
def rAdd (K : PySem.W.Frag) : R2 := fun x y H Q => rI0 (fun i j => .int (i + j)) x y H Q ∨ (∃ i j, x = .str i ∧ y = .str j ∧ i.length + j.length ≤ sizeLine ∧ Q (.str (i ++ j)) H) ∨ rCatA K x y H Q ∨ rCat x y H Q
theorem opAdd : OpR X (binaryOp .Add) (rAdd X.K) := op_add.or (op_add_str.or (op_catA.or op_cat))
theorem semAdd (hK : X.K = B.K) : OpSem X B fAdd (rAdd X.K) := by
  intro W h H x y z x' y' Q hr rx ry e q
  unfold fAdd at e
  split at e
  · exact .inl (sem_I0 (X := X) (f := fun i j => i + j) W h H _ _ z x' y' Q hr rx ry e q)
  · exact .inr (.inl (sem_addS (X := X) (B := B) W h H _ _ z x' y' Q hr rx ry e q))
  · exact .inr (.inr (.inl (sem_addT hK W h H _ _ z x' y' Q hr rx ry e q)))
  · exact .inr (.inr (.inr (sem_addL (X := X) W h H _ _ z x' y' Q hr rx ry e q)))
def fSub : AH → PV → PV → Option PV := fI fun i j => some (i - j)
def fMul : AH → PV → PV → Option PV := fun h x y => match x, y with
  | .int _, _ => fI mulG h x y
  | .tup _, _ => fRepT h x y
  | _, _ => fRepL h x y
def rMul (K : PySem.W.Frag) : R2 := fun x y H Q => rI CMul (fun i j => .int (i * j)) x y H Q ∨ rRepT K x y H Q ∨ rRep x y H Q
theorem opMul : OpR X (binaryOp .Mult) (rMul X.K) := op_mul.or (op_repT.or op_rep)
theorem semMul (hK : X.K = B.K) : OpSem X B fMul (rMul X.K) := by
  intro W h H x y z x' y' Q hr rx ry e q
  unfold fMul at e
  split at e
  · exact .inl (sem_I (X := X) mulG_ok W h H _ _ z x' y' Q hr rx ry e q)
  · exact .inr (.inl (sem_repT hK W h H _ _ z x' y' Q hr rx ry e q))
  · exact .inr (.inr (sem_repL (X := X) W h H _ _ z x' y' Q hr rx ry e q))
def fFdv : AH → PV → PV → Option PV := fI fdivG
def fMod : AH → PV → PV → Option PV := fI modG
def fPow : AH → PV → PV → Option PV := fI powG
def fLt : AH → PV → PV → Option PV := fun h x y => match x, y with
  | .int i, .int j => some (.bl (decide (i < j)))
  | _, _ => fTupI HT.lexLt h x y
def rLt (K : PySem.W.Frag) : R2 := fun x y H Q => rI0 (fun i j => .bl (decide (i < j))) x y H Q ∨ rLtT K x y H Q
theorem opLt (hu : X.A.units < cLine) : OpR X (compareOp .Lt) (rLt X.K) := op_lt.or (op_ltT hu)
theorem semLt (hK : X.K = B.K) : OpSem X B fLt (rLt X.K) := by
  intro W h H x y z x' y' Q hr rx ry e q
  unfold fLt at e
  split at e
  · exact .inl (sem_IB (X := X) (g := fun i j => decide (i < j)) W h H _ _ z x' y' Q hr rx ry e q)
  · exact .inr (sem_tupLt hK W h H _ _ z x' y' Q hr rx ry e q)
def fLe : AH → PV → PV → Option PV := fIB fun i j => decide (i ≤ j)
def fGt : AH → PV → PV → Option PV := fIB fun i j => decide (j < i)
def fGe : AH → PV → PV → Option PV := fIB fun i j => decide (j ≤ i)
end
section
variable {X : Cx} {B : Bs} {N : Ent} {WX : L2.WX} {a b : Expr} {ma mb : ME} {pos : Pos} {k : Nat}
theorem sim_add (hK : X.K = B.K) (ha : SimE X B N WX a ma) (hb : SimE X B N WX b mb) : SimE X B N WX (.BinOp a .Add b pos) (eBin fAdd ma mb) := sim_op opAdd (semAdd hK) ha hb
theorem sim_sub (ha : SimE X B N WX a ma) (hb : SimE X B N WX b mb) : SimE X B N WX (.BinOp a .Sub b pos) (eBin fSub ma mb) := sim_op op_sub (sem_I0 (f := fun i j => i - j)) ha hb
theorem sim_mul (hK : X.K = B.K) (ha : SimE X B N WX a ma) (hb : SimE X B N WX b mb) : SimE X B N WX (.BinOp a .Mult b pos) (eBin fMul ma mb) := sim_op opMul (semMul hK) ha hb
theorem sim_fdv (ha : SimE X B N WX a ma) (hb : SimE X B N WX b mb) : SimE X B N WX (.BinOp a .FloorDiv b pos) (eBin fFdv ma mb) := sim_op op_fdivN (sem_I fdivG_ok) ha hb
theorem sim_mod (ha : SimE X B N WX a ma) (hb : SimE X B N WX b mb) : SimE X B N WX (.BinOp a .Mod b pos) (eBin fMod ma mb) := sim_op op_modN (sem_I (f := fun i j => i.fmod j) modG_ok) ha hb
theorem sim_pow (ha : SimE X B N WX a ma) (hb : SimE X B N WX b mb) : SimE X B N WX (.BinOp a .Pow b pos) (eBin fPow ma mb) := sim_op op_pow (sem_I powG_ok) ha hb
/-- a comparison's rule with its reading -/
structure CmpOk (X : Cx) (B : Bs) (op : CmpOp) (f : AH → PV → PV → Option PV) : Prop where
  ex : ∃ r : R2, OpR X (compareOp op) r ∧ OpSem X B f r
/-- room for what a comparison costs -/
abbrev U9 (A : Around) : Prop := A.units + 200 < cLine
theorem _root_.L2.Room.u9 {k : Nat} {A : Around} (r : Room k A) : U9 A := by have := r.un; show A.units + 200 < cLine; omega
theorem co_eq (hK : X.K = B.K) (hr : U9 X.A) : CmpOk X B .Eq fEq := ⟨_, op_eqD (Nat.lt_of_le_of_lt (by omega) hr), sem_eq hK⟩
theorem co_ne (hK : X.K = B.K) (hr : U9 X.A) : CmpOk X B .NotEq fNe := ⟨_, op_neD (Nat.lt_of_le_of_lt (by omega) hr), sem_ne hK⟩
theorem co_lt (hK : X.K = B.K) (hr : U9 X.A) : CmpOk X B .Lt fLt := ⟨_, opLt (Nat.lt_of_le_of_lt (by omega) hr), semLt hK⟩
theorem co_le : CmpOk X B .LtE fLe := ⟨_, op_le, sem_IB⟩
theorem co_gt : CmpOk X B .Gt fGt := ⟨_, op_gt, sem_IB⟩
theorem co_ge : CmpOk X B .GtE fGe := ⟨_, op_ge, sem_IB⟩
theorem co_isN : CmpOk X B .Is fIsN := ⟨_, op_isN, sem_isN⟩
theorem co_notN : CmpOk X B .IsNot fNotN := ⟨_, op_notN, sem_notN⟩
theorem co_in (hK : X.K = B.K) (hr : U9 X.A) : CmpOk X B .In fIn := ⟨_, op_in (by have hr : X.A.units + 200 < cLine := hr; omega), sem_in hK⟩
theorem co_nin (hK : X.K = B.K) (hr : U9 X.A) : CmpOk X B .NotIn fNin := ⟨_, op_nin (by have hr : X.A.units + 200 < cLine := hr; omega), sem_nin hK⟩
variable {op op' : CmpOp} {f g : AH → PV → PV → Option PV} {c : Expr} {mc : ME}
theorem sim_cm (o : CmpOk X B op f) (ha : SimE X B N WX a ma) (hb : SimE X B N WX b mb) (hm : behindInMarks op b = false) : SimE X B N WX (.Compare a [op] [b] pos) (eBin f ma mb) := by
  obtain ⟨r, h1, h2⟩ := o.ex
  exact sim_cmpO h1 h2 ha hb hm
theorem sim_tcm (o : CmpOk X B op f) (ha : SimE X B N WX a ma) (hb : SimE X B N WX b mb) (hm : behindInMarks op b = false) : SimT X B N WX (.Compare a [op] [b] pos) (bM (eBin f ma mb)) := by
  obtain ⟨r, h1, h2⟩ := o.ex
  exact sim_tcmpO h1 h2 ha hb hm
theorem sim_ch (o : CmpOk X B op f) (o' : CmpOk X B op' g) (ha : SimE X B N WX a ma) (hb : SimE X B N WX b mb) (hc : SimE X B N WX c mc) (hm : lastMarks [op, op'] [b, c] = false) : SimE X B N WX (.Compare a [op, op'] [b, c] pos) (eChain f g ma mb mc) := by
  obtain ⟨r, h1, h2⟩ := o.ex
  obtain ⟨r', h3, h4⟩ := o'.ex
  exact sim_chain h1 h3 h2 h4 ha hb hc hm
theorem sim_tch (o : CmpOk X B op f) (o' : CmpOk X B op' g) (ha : SimE X B N WX a ma) (hb : SimE X B N WX b mb) (hc : SimE X B N WX c mc) (hm : lastMarks [op, op'] [b, c] = false) : SimT X B N WX (.Compare a [op, op'] [b, c] pos) (bM (eChain f g ma mb mc)) := by
  obtain ⟨r, h1, h2⟩ := o.ex
  obtain ⟨r', h3, h4⟩ := o'.ex
  exact sim_tchain h1 h3 h2 h4 ha hb hc hm

/-! built-ins -/
/-- a call of a built-in -/
structure BiOk (X : Cx) (B : Bs) (x : Str) (f : AH → List PV → Option PV) : Prop where
  ex : ∃ (v : Value) (r : List V → Hp → VK → Prop), bootBuiltins x = some v ∧ CallR X v r ∧ CallSem X B f r ∧ ((∃ id, v = .builtin id) ∨ ∃ T, v = .type T)
variable {x : Str} {p : Pos} {e : Expr} {es : List Expr} {ma : MA} {fb : AH → List PV → Option PV}
theorem sim_bi (o : BiOk X B x fb) (hg : Gl X x) (hm : X.mg x = none) (ha : SimA X B N WX (e :: es) ma) (hn : x ≠ "__name__") (hdb : (x == ("__debug__" : Str)) = false)
    (he : starEach (e :: es) X.env = (false, eval e X.env) :: starEach es X.env) (hpl : (backTo pos (starEach es X.env)).any (·.1) = false) : SimE X B N WX (.Call (.Name x p) (e :: es) [] pos) (eCB fb ma) := by
  obtain ⟨v, r, h1, h2, h3, h4⟩ := o.ex
  rcases h4 with ⟨id, rfl⟩ | ⟨T, rfl⟩
  · exact sim_callB h2 h3 hg hm h1 ha hn hdb he hpl
  · exact sim_callTy h2 h3 hg hm h1 ha hn hdb he hpl
theorem boot_all : bootBuiltins "all" = some (.builtin "all") := by decide +kernel
theorem boot_any : bootBuiltins "any" = some (.builtin "any") := by decide +kernel
theorem bi_isi (hK : X.K = B.K) : BiOk X B "isinstance" bIsi := ⟨_, _, PyProof.Rows.boot_isinstance, call_isiB, sem_isi hK, .inl ⟨_, rfl⟩⟩
theorem bi_len (hK : X.K = B.K) : BiOk X B "len" bLen := ⟨_, _, PySem.boot_len, call_len, sem_len hK, .inl ⟨_, rfl⟩⟩
theorem bi_all (hK : X.K = B.K) (hc : X.calm = true) : BiOk X B "all" bAll := ⟨_, _, boot_all, cr_all hc, sem_all hK, .inl ⟨_, rfl⟩⟩
theorem bi_any (hK : X.K = B.K) (hc : X.calm = true) : BiOk X B "any" bAny := ⟨_, _, boot_any, cr_any hc, sem_any hK, .inl ⟨_, rfl⟩⟩
theorem bi_int : BiOk X B "int" bInt := ⟨_, _, PyProof.Rows.boot_int, call_int1, sem_int1, .inr ⟨_, rfl⟩⟩
theorem bi_list (hK : X.K = B.K) : BiOk X B "list" bList := ⟨_, _, PyProof.Rows.boot_list, call_list_of, sem_list hK, .inr ⟨_, rfl⟩⟩
theorem bi_tuple (hK : X.K = B.K) : BiOk X B "tuple" bTuple := ⟨_, _, PyProof.Rows.boot_tuple, call_tuple_of, sem_tuple hK, .inr ⟨_, rfl⟩⟩
end
end Lp

set_option Elab.async false
set_option linter.all false
set_option maxRecDepth 100000
set_option maxHeartbeats 4000000
/-! Lp12: what printed derivations use. -/
namespace Lp
open PySem PySem.Spec PyProof.Rows L2
def sokB (x : Str) : Bool := PyData.strOk x && decide (x.length ≤ sizeLine)
theorem sok_of {x : Str} (h : sokB x = true) : SOk x := by
  obtain ⟨a, b⟩ := Bool.and_eq_true_iff.mp h
  exact ⟨a, of_decide_eq_true b⟩
def kindEq (a b : NameKind) : Bool := match a, b with
  | .local, .local => true
  | .cell, .cell => true
  | .free, .free => true
  | _, _ => false
theorem kindEq_ok {a b : NameKind} (h : kindEq a b = true) : a = b := by cases a <;> cases b <;> first | rfl | cases h
theorem takesWF (X : Cx) (u : Value) (s : Shared) (x : XE X WF u s) : X.xe u s := by
  obtain ⟨a, B, sI, pins, σ, H, cls, d, e, I, nb, up, sky, na, os, ag, w⟩ := x
  exact w.elim
section
variable {X : Cx} {B : Bs} {N : Ent} {WX : L2.WX} {x : Str} {pos : Pos} {v : V} {y : PV}
theorem sim_gl (hg : Gl X x) (h : ∃ u, X.mg x = some u ∧ RelV v u) (rx : ∀ W, Rep B W y v) (hd : (x == ("__debug__" : Str)) = false := by rfl) : SimE X B N WX (.Name x pos) (eC y) := by
  obtain ⟨u, hm, r⟩ := h
  exact sim_c (pe_glob hg hm r hd) rx
end
def blkB (N : List Str) (sc scope : Scope) (own : List (Str × Nat)) : Bool := (match scope.kind with | .function => true | _ => false) && (scope.names.all (fun y => decide (scope.names.lookup y.1 = some y.2)) && (own.all (fun p => decide (N[p.2]? = some p.1)) &&
  (scope.names.all (fun y => !decide (y.2 = .free) || (decide (sc.names.lookup y.1 = some .cell) || decide (sc.names.lookup y.1 = some .free))) && scope.names.all fun y => !(decide (y.2 = .local) || decide (y.2 = .cell)) || (decide (y.1 ∈ own.map (·.1)) || !decide (y.1 ∈ N)))))
theorem blk_of {N : List Str} {sc scope : Scope} {own : List (Str × Nat)} (h : blkB N sc scope own = true) : BlkOk N sc scope own := by
  unfold blkB at h
  simp only [Bool.and_eq_true, List.all_eq_true, Bool.or_eq_true, Bool.not_eq_true', decide_eq_true_eq, decide_eq_false_iff_not] at h
  obtain ⟨h1, h2, h3, h4, h5⟩ := h
  refine ⟨?_, h2, h3, fun y hy e => ?_, fun y hy e => ?_⟩
  · split at h1
    · assumption
    · cases h1
  · exact (h4 y hy).resolve_left fun z => z e
  · exact (h5 y hy).resolve_left fun z => by rcases e with e | e <;> rw [e] at z <;> simp at z
end Lp

set_option Elab.async false
set_option linter.all false
set_option maxRecDepth 100000
set_option maxHeartbeats 4000000
/-! Lp13: a law's end. -/
namespace Lp
open PySem PySem.Spec PyProof.Rows L2
theorem reps_ints {B : Bs} {W : Wd} : ∀ ns : List Int, Reps B W (ns.map PV.int) (ns.map V.int)
  | [] => .nil
  | n :: ns => .cons (.int n) (reps_ints ns)
/-- within the line, the tables apart -/
def HzO (H : Hp) : Prop := ∀ b o, H b = some o → NT o → SzO o
theorem law_at {B : Bs} {W : Wd} {m : MF} {ns : List Int} {H : Hp} {a : Addr} (hz : HzO H) (hT : LamX.Tabs B.T H) (hm : W.m = []) (ag : ∀ b o, W.F b = some o → H b = some o) (nt : ∀ b o, W.F b = some o → NT o) (sc : ScrAt B W a (ns.map V.int))
    (h : ∃ h', m [.scr (ns.map .int)] [] = .ok (.bl true) h') : spF B 1 m [.ref a] H (fun v _ => v = .bl true) fun _ _ _ => False := by
  refine ⟨W, [], [.scr (ns.map .int)], ⟨ag, by rw [hm]; rfl, by rw [hm]; exact List.nodup_nil, fun _ z => (by rw [hm] at z; cases z), hz, nt, hT, fun n c b e => (by cases e)⟩, .cons (.scr sc (reps_ints ns)) .nil, rfl, ?_⟩
  obtain ⟨h', e⟩ := h
  rw [e]
  intro W' H' v' _ _ rv
  cases rv
  rfl
theorem law_sp {B : Bs} {m : MF} {ns : List Int} {H : Hp} {a : Addr} (hz : HzO H) (hT : LamX.Tabs B.T H) (hl : ns.length ≤ sizeLine) (hS : SqL B.K H a (ns.map V.int)) (h : ∃ h', m [.scr (ns.map .int)] [] = .ok (.bl true) h') :
    spF B 1 m [.ref a] H (fun v _ => v = .bl true) fun _ _ _ => False := by
  have hl' : (ns.map V.int).length ≤ sizeLine := by rw [List.length_map]; exact hl
  have one : ∀ o, H a = some o → NT o → ScrAt B ⟨fun b => if b = a then some o else none, []⟩ a (ns.map V.int) → spF B 1 m [.ref a] H (fun v _ => v = .bl true) fun _ _ _ => False := fun o e nt sc => by
    have at_ : ∀ b u, (if b = a then some o else none) = some u → b = a ∧ u = o := fun b u z => by
      split at z
      · rename_i hb; cases z; exact ⟨hb, rfl⟩
      · cases z
    exact law_at hz hT rfl (fun b u z => by obtain ⟨rfl, rfl⟩ := at_ b u z; exact e) (fun b u z => by obtain ⟨rfl, rfl⟩ := at_ b u z; exact nt) sc h
  rcases hS with (q | ⟨o, q⟩) | q
  · exact one _ q nt_lst (.inl ⟨.inl (if_pos rfl), hl'⟩)
  · exact one _ q (fun _ z => nomatch z) (.inl ⟨.inr ⟨o, if_pos rfl⟩, hl'⟩)
  · exact law_at (W := ⟨fun _ => none, []⟩) hz hT rfl (fun _ _ z => nomatch z) (fun _ _ z => nomatch z) (.inr q) h
/-- a promise that leans on the sizes of what is tracked -/
def spZ (n : Nat) (sp : Sp) : Sp := fun vs H Q E => vs.length = n ∧ (HzO H → sp vs H Q E)
theorem fn_bad {P : Program} {w : World} {K : PySem.W.Frag} {mg : Str → Option Value} {base : Heap} {x qual : Str} {params : Arguments} {body : List Stmt} {scope : Scope} {dvs : List V} {kws : List (Str × V)} {f : Addr} {fd : FuncData} {names ps : List Str} {k n : Nat} {B : Bs}
    (F : FunD K x qual params body scope dvs kws f fd) (S : FnScope names ps scope) : FnOk P w K mg base (L2.CX P w) (k + 1) f fd ps (spF B n fun _ _ => .bad) :=
  F.ok S (fun vs H Q E ⟨_, _, _, _, _, _, z⟩ => z.elim) fun _ _ _ _ _ _ _ _ _ ⟨_, _, _, _, _, _, z⟩ => z.elim
theorem hzo_of {P : Program} {w : World} {H : Hp} {h : Heap} (x : HOk P w H h) : HzO H := fun b o e nt => by
  have q := x b o e
  cases o with
  | lst vs => exact q.1
  | tup vs => exact q.1
  | tbl ps => exact absurd rfl (nt ps)
  | _ => trivial
theorem spz_ok {P : Program} {w : World} {K : PySem.W.Frag} {mg : Str → Option Value} {base : Heap} {CX : CXT} {k n : Nat} {f : Addr} {fd : FuncData} {ps : List Str} {sp : Sp} (F : FnOk P w K mg base CX k f fd ps sp) (hn : ps.length = n) : FnOk P w K mg base CX k f fd ps (spZ n sp) :=
  ⟨fun vs H Q E q => by rw [q.1, hn], fun A outer s H args us vs Q E hr e0 hb hv q => F.run A outer s H args us vs Q E hr e0 hb hv (q.2 (hzo_of e0.hok))⟩
end Lp

set_option Elab.async false
set_option linter.all false
set_option maxRecDepth 100000
set_option maxHeartbeats 4000000
/-! Lq1: what a reading does, step by step. -/
namespace Lp
open PySem PySem.Spec PyProof.Rows L2
section
variable {τ α β : Type} {P : α → τ → Prop} {E : PV → τ → Prop}
theorem p_ok {a : α} {s : τ} (h : P a s) : (R.ok a s).post P E := h
theorem p_exc {x : PV} {s : τ} (h : E x s) : (R.exc x s : R τ α).post P E := h
theorem p_bind {r : R τ α} {f : α → τ → R τ β} {Q : β → τ → Prop} (h : r.post (fun a s => (f a s).post Q E) E) : (r.bind f).post Q E := by
  cases r with
  | ok a s => exact h
  | exc x s => exact h
  | bad => exact h
theorem p_eq {r : R τ α} {a : α} {s : τ} (e : r = .ok a s) (h : P a s) : r.post P E := by rw [e]; exact h
theorem p_mono {r : R τ α} {P' : α → τ → Prop} {E' : PV → τ → Prop} (h : r.post P' E') (k : ∀ a s, P' a s → P a s) (k' : ∀ x s, E' x s → E x s) : r.post P E := R.post_mono h k k'
/-- .. that raises nothing -/
def NE {τ : Type} : PV → τ → Prop := fun _ _ => False
theorem p_spec {r : R τ α} {P' : α → τ → Prop} (h : r.post P' NE) (k : ∀ a s, P' a s → P a s) : r.post P E := R.post_mono h k fun _ _ z => z.elim
theorem p_ex {r : R τ α} (h : r.post P NE) : ∃ a s, r = .ok a s ∧ P a s := by
  cases r with
  | ok a s => exact ⟨a, s, rfl, h⟩
  | exc x s => exact h.elim
  | bad => exact h.elim
theorem p_and {r : R τ α} {P' : α → τ → Prop} (h : r.post P NE) (h' : r.post P' NE) : r.post (fun a s => P a s ∧ P' a s) NE := by
  cases r with
  | ok a s => exact ⟨h, h'⟩
  | exc x s => exact h.elim
  | bad => exact h.elim
end
/-- a branch -/
def br0 (c : Bool) (A C : Prop) : Prop := match c with
  | true => A
  | false => C
@[irreducible] def br (c : Bool) (A C : Prop) : Prop := br0 c A C
theorem br_eq : br = br0 := by
  funext c A C
  unfold br
  rfl
theorem p_br {c : Bool} {A C : Prop} (h1 : c = true → A) (h2 : c = false → C) : br c A C := by
  rw [br_eq]
  cases c
  · exact h2 rfl
  · exact h1 rfl
theorem p_brt {c : Bool} {A C : Prop} (e : c = true) (h : A) : br c A C := by rw [br_eq]; subst e; exact h
theorem p_brf {c : Bool} {A C : Prop} (e : c = false) (h : C) : br c A C := by rw [br_eq]; subst e; exact h
section
variable {P : PV → S → Prop} {PB : Bool → S → Prop} {PA : List PV → S → Prop} {PO : Option Int → S → Prop} {PF : Fl → S → Prop} {E : PV → S → Prop} {s : S}
variable {a b c m : ME} {ma : MA} {ta tb : S → R S Bool} {f g : AH → PV → PV → Option PV} {v : PV} {i : Nat}
theorem p0_var (e : s.e[i]? = some (some v)) (h : P v s) : (eVar i s).post P E := by unfold eVar; rw [e]; exact h
theorem p0_c (h : P v s) : (eC v s).post P E := h
theorem p0_bin (h : (a s).post (fun x s1 => (b s1).post (fun y s2 => ∃ z, f s2.h x y = some z ∧ P z s2) E) E) : (eBin f a b s).post P E :=
  p_bind (p_mono h (fun x s1 q => p_bind (p_mono q (fun y s2 ⟨z, e, q⟩ => by simp only [e]; exact q) fun _ _ z => z)) fun _ _ z => z)
theorem p0_nil (h : PA [] s) : (aNil s).post PA E := h
theorem p0_cons (h : (a s).post (fun v s1 => (ma s1).post (fun vs s2 => PA (v :: vs) s2) E) E) : (aCons a ma s).post PA E :=
  p_bind (p_mono h (fun x s1 q => p_bind q) fun _ _ z => z)
theorem p0_star (h : (a s).post (fun v s1 => ∃ xs, asS s1.h v = some xs ∧ (ma s1).post (fun vs s2 => PA (xs ++ vs) s2) E) E) : (aStar a ma s).post PA E :=
  p_bind (p_mono h (fun x s1 ⟨xs, e, q⟩ => by simp only [e]; exact p_bind q) fun _ _ z => z)
theorem p0_tup (h : (ma s).post (fun vs s1 => (allSh vs = true ∧ vs.length ≤ 16777216) ∧ P (.tup vs) s1) E) : (eTup ma s).post P E :=
  p_bind (p_mono h (fun vs s1 ⟨⟨h1, h2⟩, q⟩ => by rw [h1, decide_eq_true h2]; exact q) fun _ _ z => z)
theorem p0_lst (h : (ma s).post (fun vs s1 => (allSh vs = true ∧ vs.length ≤ 16777216) ∧ P (.lst vs) s1) E) : (eLst ma s).post P E :=
  p_bind (p_mono h (fun vs s1 ⟨⟨h1, h2⟩, q⟩ => by rw [h1, decide_eq_true h2]; exact q) fun _ _ z => z)
theorem p0_nlst (h : (ma s).post (fun vs s1 => (allSh vs = true ∧ vs.length ≤ sizeLine) ∧ PA vs s1) E) : (nLst ma s).post PA E :=
  p_bind (p_mono h (fun vs s1 ⟨h1, q⟩ => by simp only [if_pos h1]; exact q) fun _ _ z => z)
theorem p0_sh {mn : S → R S (List PV)} (h : (mn s).post (fun xs s1 => P (.lst xs) s1) E) : (shN mn s).post P E := p_bind h
theorem p0_cel {mn : S → R S (List PV)} (h : (mn s).post (fun xs s1 => P (.cel s1.h.length) ⟨s1.e, s1.h ++ [some (.lst xs)]⟩) E) : (eCel mn s).post P E := p_bind h
theorem p0_cb {fb : AH → List PV → Option PV} (h : (ma s).post (fun vs s1 => ∃ z, fb s1.h vs = some z ∧ P z s1) E) : (eCB fb ma s).post P E :=
  p_bind (p_mono h (fun vs s1 ⟨z, e, q⟩ => by simp only [e]; exact q) fun _ _ z => z)
theorem p0_chain (h : (a s).post (fun x s1 => (b s1).post (fun y s2 => ∃ k, f s2.h x y = some (.bl k) ∧ br0 k ((c s2).post (fun w s3 => ∃ z, g s3.h y w = some z ∧ P z s3) E) (P (.bl false) s2)) E) E) : (eChain f g a b c s).post P E :=
  p_bind (p_mono h (fun x s1 q => p_bind (p_mono q (fun y s2 ⟨k, e, q⟩ => by
    simp only [e]
    cases k with
    | true => exact p_bind (p_mono q (fun w s3 ⟨z, e, q⟩ => by simp only [e]; exact q) fun _ _ z => z)
    | false => exact q) fun _ _ z => z)) fun _ _ z => z)
theorem p0_onone (h : PO none s) : (oNone s).post PO E := h
theorem p0_osome (h : (a s).post (fun v s1 => ∃ i, v = .int i ∧ PO (some i) s1) E) : (oSome a s).post PO E :=
  p_bind (p_mono h (fun v s1 ⟨i, e, q⟩ => by subst e; exact q) fun _ _ z => z)
theorem p0_sl {lo hi : S → R S (Option Int)} (h : (a s).post (fun v s1 => (lo s1).post (fun l s2 => (hi s2).post (fun u s3 => ∃ z, fSl s3.h v l u = some z ∧ P z s3) E) E) E) : (eSl a lo hi s).post P E :=
  p_bind (p_mono h (fun x s1 q => p_bind (p_mono q (fun y s2 q => p_bind (p_mono q (fun u s3 ⟨z, e, q⟩ => by simp only [e]; exact q) fun _ _ z => z)) fun _ _ z => z)) fun _ _ z => z)
theorem p0_callH {n : Nat} {mf : MF} {vs : List PV} (h : (vs.length = n ∧ allSh vs = true) ∧ (mf vs s.h).post (fun v h => P v ⟨s.e, h⟩) (fun x h => E x ⟨s.e, h⟩)) : (callH n mf vs s).post P E := by
  unfold callH
  rw [if_pos h.1]
  unfold lift
  have q := h.2
  split <;> rename_i e <;> rw [e] at q <;> exact q
theorem p0_call {n : Nat} {mf : MF} (h : (ma s).post (fun vs s1 => (vs.length = n ∧ allSh vs = true) ∧ (mf vs s1.h).post (fun v h => P v ⟨s1.e, h⟩) (fun x h => E x ⟨s1.e, h⟩)) E) : (eCall n mf ma s).post P E :=
  p_bind (p_mono h (fun vs s1 q => p0_callH q) fun _ _ z => z)
theorem p0_callK {n0 nk n : Nat} {ix : List Nat} {mf : MF} {mk : MA} (h : (ma s).post (fun vs s1 => (mk s1).post (fun zs s2 => ((vs.length = n0 ∧ zs.length = nk) ∧ allSh vs = true ∧ allSh zs = true) ∧ ((pick ix (vs ++ zs)).length = n ∧ allSh (pick ix (vs ++ zs)) = true) ∧
    (mf (pick ix (vs ++ zs)) s2.h).post (fun v h => P v ⟨s2.e, h⟩) (fun x h => E x ⟨s2.e, h⟩)) E) E) : (eCallK n0 nk ix n mf ma mk s).post P E :=
  p_bind (p_mono h (fun vs s1 q => p_bind (p_mono q (fun zs s2 q => by simp only [if_pos q.1]; exact p0_callH q.2) fun _ _ z => z)) fun _ _ z => z)
theorem p_if {k : Nat} : True := trivial
theorem p0_andV (h : (a s).post (fun v s1 => ∃ k, v = .bl k ∧ br0 k ((b s1).post P E) (P (.bl false) s1)) E) : (andV a b s).post P E :=
  p_bind (p_mono h (fun v s1 ⟨k, e, q⟩ => by subst e; cases k <;> exact q) fun _ _ z => z)
theorem p0_orV (h : (a s).post (fun v s1 => ∃ k, v = .bl k ∧ br0 k (P (.bl true) s1) ((b s1).post P E)) E) : (orV a b s).post P E :=
  p_bind (p_mono h (fun v s1 ⟨k, e, q⟩ => by subst e; cases k <;> exact q) fun _ _ z => z)
theorem p0_notV (h : (a s).post (fun v s1 => ∃ k, v = .bl k ∧ P (.bl (!k)) s1) E) : (notV a s).post P E :=
  p_bind (p_mono h (fun v s1 ⟨k, e, q⟩ => by subst e; exact q) fun _ _ z => z)
theorem p0_ifM (h : (ta s).post (fun k s1 => br0 k ((a s1).post P E) ((b s1).post P E)) E) : (ifM ta a b s).post P E :=
  p_bind (p_mono h (fun k s1 q => by cases k <;> exact q) fun _ _ z => z)
theorem p0_tM (h : (a s).post (fun v s1 => ∃ k, tru s1.h v = some k ∧ PB k s1) E) : (tM a s).post PB E :=
  p_bind (p_mono h (fun v s1 ⟨k, e, q⟩ => by simp only [e]; exact q) fun _ _ z => z)
theorem p0_bM (h : (a s).post (fun v s1 => ∃ k, v = .bl k ∧ PB k s1) E) : (bM a s).post PB E :=
  p_bind (p_mono h (fun v s1 ⟨k, e, q⟩ => by subst e; exact q) fun _ _ z => z)
theorem p0_blM (h : (ta s).post (fun k s1 => P (.bl k) s1) E) : (blM ta s).post P E := p_bind h
theorem p0_andM (h : (ta s).post (fun k s1 => br0 k ((tb s1).post PB E) (PB false s1)) E) : (andM ta tb s).post PB E :=
  p_bind (p_mono h (fun k s1 q => by cases k <;> exact q) fun _ _ z => z)
theorem p0_orM (h : (ta s).post (fun k s1 => br0 k (PB true s1) ((tb s1).post PB E)) E) : (orM ta tb s).post PB E :=
  p_bind (p_mono h (fun k s1 q => by cases k <;> exact q) fun _ _ z => z)
theorem p0_notM (h : (ta s).post (fun k s1 => PB (!k) s1) E) : (notM ta s).post PB E := p_bind h
theorem p0_ms {fm : AH → Str → List PV → Option PV} (h : (a s).post (fun o s1 => ∃ x, o = .str x ∧ (ma s1).post (fun vs s2 => ∃ z, fm s2.h x vs = some z ∧ P z s2) E) E) : (eMS fm a ma s).post P E :=
  p_bind (p_mono h (fun o s1 ⟨x, e, q⟩ => by subst e; exact p_bind (p_mono q (fun vs s2 ⟨z, e, q⟩ => by simp only [e]; exact q) fun _ _ z => z)) fun _ _ z => z)
/-! statements -/
variable {x y : MS}
theorem p0_snil (h : PF .nx s) : (sNil s).post PF E := h
theorem p0_seq (h : (x s).post (fun fl s1 => match fl with | .nx => (y s1).post PF E | fl => PF fl s1) E) : (sSeq x y s).post PF E :=
  p_bind (p_mono h (fun fl s1 q => by cases fl <;> exact q) fun _ _ z => z)
theorem p0_sexpr (h : (a s).post (fun _ s1 => PF .nx s1) E) : (sExpr a s).post PF E := p_bind h
theorem p0_ret (h : (a s).post (fun v s1 => isOwn v = false ∧ PF (.rt v) s1) E) : (sRet a s).post PF E :=
  p_bind (p_mono h (fun v s1 ⟨e, q⟩ => by rw [e]; exact q) fun _ _ z => z)
theorem p0_retN (h : PF (.rt .non) s) : (sRetN s).post PF E := h
theorem p0_sif (h : (ta s).post (fun k s1 => br0 k ((x s1).post PF E) ((y s1).post PF E)) E) : (sIf ta x y s).post PF E :=
  p_bind (p_mono h (fun k s1 q => by cases k <;> exact q) fun _ _ z => z)
theorem p0_asg (h : (a s).post (fun v s1 => isOwn v = false ∧ PF .nx ⟨s1.e.set i (some v), s1.h⟩) E) : (sAsg i a s).post PF E :=
  p_bind (p_mono h (fun v s1 ⟨e, q⟩ => by rw [e]; exact q) fun _ _ z => z)
theorem p0_asgN {mn : S → R S (List PV)} (h : (mn s).post (fun v s1 => PF .nx ⟨s1.e.set i (some (.own v)), s1.h⟩) E) : (sAsgN i mn s).post PF E := p_bind h
theorem p0_asgT {t : Tg} (h : (a s).post (fun v s1 => isOwn v = false ∧ ∃ e1, bindT t v s1.e = some e1 ∧ PF .nx ⟨e1, s1.h⟩) E) : (sAsgT t a s).post PF E :=
  p_bind (p_mono h (fun v s1 ⟨e, e1, e2, q⟩ => by simp only [e2, e]; exact q) fun _ _ z => z)
theorem p0_par {j : Nat} (h : (ma s).post (fun vs s1 => ∃ v w, vs = [v, w] ∧ (isOwn v = false ∧ isOwn w = false) ∧ PF .nx ⟨(s1.e.set i (some v)).set j (some w), s1.h⟩) E) : (sPar i j ma s).post PF E :=
  p_bind (p_mono h (fun vs s1 ⟨v, w, e, ⟨e1, e2⟩, q⟩ => by subst e; simp only [e1, e2]; exact q) fun _ _ z => z)
theorem p0_setC (h : (a s).post (fun v s1 => (b s1).post (fun o s2 => (c s2).post (fun k s3 => ∃ n xs ys, o = .cel n ∧ cellL s3.h n = some xs ∧ setL xs k v = some ys ∧ PF .nx ⟨s3.e, s3.h.set n (some (.lst ys))⟩) E) E) E) : (sSetC a b c s).post PF E :=
  p_bind (p_mono h (fun v s1 q => p_bind (p_mono q (fun o s2 q2 => p_bind (p_mono q2 (fun k s3 ⟨n, xs, ys, e1, e2, e3, q3⟩ => by subst e1; simp only [celN, e2, e3]; exact q3) fun _ _ z => z)) fun _ _ z => z)) fun _ _ z => z)
theorem p_mkF {k : Nat} {mb : MS} {xs : List PV} {h : AH} (e0 : List (Option PV)) (he : xs.map some ++ List.replicate k none = e0) {Q : PV → AH → Prop} {E : PV → AH → Prop} (q : (mb ⟨e0, h⟩).post (fun fl s => match fl with
    | .rt v => Q v s.h
    | .nx => Q .non s.h
    | _ => False) (fun x s => E x s.h)) : (mkF k mb xs h).post Q E := by
  subst he
  unfold mkF
  cases e : mb ⟨xs.map some ++ List.replicate k none, h⟩ with
  | ok fl s =>
    rw [e] at q
    cases fl <;> exact q
  | exc x s => rw [e] at q; exact q
  | bad => rw [e] at q; exact q
/-! walks -/
theorem still_w {h : AH} {r : Sr} (hr : r.w = []) : stillS h r := fun p hp => by rw [hr] at hp; cases hp
theorem still_nil {h : AH} {xs : List PV} {o : Bool} : stillS h ⟨xs, [], o⟩ := fun _ hp => by cases hp
/-- a walk over what does not change, by an invariant -/
theorem p_loop {xs : List PV} {t : Tg} (I : Nat → S → Prop) (h0 : I 0 s) (hs : ∀ (j : Nat) (v : PV) (s : S), xs[j]? = some v → I j s → ∃ e1, bindT t v s.e = some e1 ∧ (x ⟨e1, s.h⟩).post (fun fl s' => match fl with
    | .nx => I (j + 1) s'
    | .ct => I (j + 1) s'
    | .bk => PF .nx s'
    | .rt v => PF (.rt v) s') E) (hn : ∀ s, I xs.length s → PF .nx s) {o : Bool} : (loopF ⟨xs, [], o⟩ t x xs s).post PF E := by
  have go : ∀ (ys : List PV) (r : Sr) (j : Nat) (s : S), r.w = [] → (∀ k, ys[k]? = xs[j + k]?) → j + ys.length = xs.length → I j s → (loopF r t x ys s).post PF E := by
    intro ys
    induction ys with
    | nil =>
      intro r j s hr hy hl hI
      unfold loopF
      rw [if_pos (still_w hr)]
      exact hn s (by rw [← hl]; exact hI)
    | cons y ys ih =>
      intro r j s hr hy hl hI
      unfold loopF
      rw [if_pos (still_w hr)]
      obtain ⟨e1, eb, q⟩ := hs j y s (by have := hy 0; simpa using this.symm) hI
      rw [eb]
      refine p_bind (p_mono q (fun fl s' q => ?_) fun _ _ z => z)
      have nxt : I (j + 1) s' → (loopF r t x ys s').post PF E := fun hI => ih r (j + 1) s' hr (fun k => by have := hy (k + 1); simp only [List.getElem?_cons_succ] at this; rw [this]; congr 1; omega) (by simp only [List.length_cons] at hl; omega) hI
      cases fl with
      | nx => exact nxt q
      | ct => exact nxt q
      | bk => exact q
      | rt v => exact q
  exact go xs _ 0 s rfl (fun k => by simp) (by simp) h0
theorem p0_for {src : S → R S Sr} {t : Tg} (h : (src s).post (fun r s1 => r.w = [] ∧ r.o = false ∧ r.xs.length ≤ sizeLine ∧ (loopF ⟨r.xs, [], false⟩ t x r.xs s1).post PF E) E) : (sFor src t x s).post PF E :=
  p_bind (p_mono h (fun r s1 ⟨e1, e2, e3, q⟩ => by
    obtain ⟨xs, w, o⟩ := r
    simp only at e1 e2 e3 q
    subst e1 e2
    simp only [Bool.false_eq_true, false_or, if_neg (Nat.not_lt.mpr e3)]
    exact q) fun _ _ z => z)
theorem p0_any {m : ME} {PS : Sr → S → Prop} (h : (m s).post (fun v s1 => ∃ r, srcOf s1.h v = some r ∧ PS r s1) E) : (sAny m s).post PS E :=
  p_bind (p_mono h (fun v s1 ⟨z, e, q⟩ => by simp only [e]; exact q) fun _ _ z => z)
/-- a comprehension, by an invariant over what is made so far -/
theorem p0_compN {src : S → R S Sr} {t : Tg} {tt : S → R S Bool} {te : ME} {vs : List Nat}
    (h : (src s).post (fun r s1 => r.w = [] ∧ ∃ I : Nat → List PV → AH → Prop, I 0 [] s1.h ∧ (∀ (j : Nat) (v : PV) (acc : List PV) (h : AH), r.xs[j]? = some v → I j acc h → ∃ e1, bindT t v (wipeE s1.e vs) = some e1 ∧
      (tt ⟨e1, h⟩).post (fun k s2 => br0 k ((te s2).post (fun y s3 => isOwn y = false ∧ wipeE s3.e vs = wipeE s1.e vs ∧ I (j + 1) (acc ++ [y]) s3.h) NE) (wipeE s2.e vs = wipeE s1.e vs ∧ I (j + 1) acc s2.h)) NE) ∧ ∀ acc h, I r.xs.length acc h → PA acc ⟨wipeE s1.e vs, h⟩) E) : (eCompN src t tt te vs s).post PA E := by
  refine p_bind (p_mono h (fun r s1 ⟨hw, I, h0, hs, hn⟩ => ?_) fun _ _ z => z)
  have ww : wipeE (wipeE s1.e vs) vs = wipeE s1.e vs := by
    have key : ∀ (us : List Nat) (e : List (Option PV)), (∀ u ∈ us, u ∈ vs) → wipeE (wipeE e us) vs = wipeE e vs := by
      intro us e
      induction us with
      | nil => intro _; rfl
      | cons u us ih =>
        intro hu
        show wipeE ((wipeE e us).set u none) vs = wipeE e vs
        have : ∀ (l : List (Option PV)) (ws : List Nat), u ∈ ws → wipeE (l.set u none) ws = wipeE l ws := by
          intro l ws
          induction ws with
          | nil => intro z; cases z
          | cons w ws ih2 =>
            intro z
            show (wipeE (l.set u none) ws).set w none = (wipeE l ws).set w none
            by_cases hm : u ∈ ws
            · rw [ih2 hm]
            · have hw : u = w := by
                rcases List.mem_cons.mp z with z | z
                · exact z
                · exact absurd z hm
              subst hw
              have go : ∀ zs : List Nat, u ∉ zs → wipeE (l.set u none) zs = (wipeE l zs).set u none := by
                intro zs
                induction zs with
                | nil => intro _; rfl
                | cons y zs ih3 =>
                  intro hy
                  simp only [List.mem_cons, not_or] at hy
                  show (wipeE (l.set u none) zs).set y none = ((wipeE l zs).set y none).set u none
                  rw [ih3 hy.2, List.set_comm _ _ hy.1]
              rw [go ws hm, List.set_set]
        rw [this _ _ (hu u (by simp))]
        exact ih fun w hw => hu w (List.mem_cons_of_mem _ hw)
    exact key vs _ fun _ h => h
  have go : ∀ (ys : List PV) (j : Nat) (acc : List PV) (h : AH) (e : List (Option PV)), wipeE e vs = wipeE s1.e vs → (∀ k, ys[k]? = r.xs[j + k]?) → j + ys.length = r.xs.length → I j acc h → (ys = [] → e = wipeE s1.e vs) → (loopC r t tt te vs ys acc ⟨e, h⟩).post PA E := by
    intro ys
    induction ys with
    | nil =>
      intro j acc h e he hy hl hI hz
      unfold loopC
      rw [hz rfl]
      exact hn acc h (by rw [← hl]; exact hI)
    | cons y ys ih =>
      intro j acc h e he hy hl hI hz
      unfold loopC
      obtain ⟨e1, eb, q⟩ := hs j y acc h (by have := hy 0; simpa using this.symm) hI
      unfold stepC
      simp only [he, eb]
      have nx : ∀ {α : Type} {r : R S α} {P : α → S → Prop}, r.post P NE → r.nx.post P NE := fun {α r P} z => by
        cases r with
        | ok a s => exact z
        | exc x s => exact z.elim
        | bad => exact z.elim
      refine p_bind (p_spec (P' := fun acc' s' => s'.e = wipeE s1.e vs ∧ I (j + 1) acc' s'.h) (p_bind (p_mono (nx q) (fun k s2 q => ?_) fun _ _ z => z)) fun acc' s' ⟨q1, q2⟩ => ?_)
      · cases k with
        | true =>
          rw [if_pos rfl]
          refine p_bind (p_mono (nx q) (fun v s3 ⟨o, q1, q2⟩ => ?_) fun _ _ z => z)
          rw [o]
          exact ⟨q1, q2⟩
        | false =>
          rw [if_neg (by decide)]
          exact q
      · rw [if_pos (still_w hw)]
        obtain ⟨e', h'⟩ := s'
        simp only at q1 q2
        subst q1
        exact ih (j + 1) acc' h' _ ww (fun k => by have := hy (k + 1); simp only [List.getElem?_cons_succ] at this; rw [this]; congr 1; omega) (by simp only [List.length_cons] at hl; omega) q2 fun _ => rfl
  exact go r.xs 0 [] s1.h _ ww (fun k => by simp) (by simp) h0 fun _ => rfl
end
/-! the readings' words, closed -/
@[irreducible] def xEVar (i : Nat) : ME := eVar i
@[irreducible] def xEC (v : PV) : ME := eC v
@[irreducible] def xEBin (f : AH → PV → PV → Option PV) (a b : ME) : ME := eBin f a b
@[irreducible] def xANil : MA := aNil 
@[irreducible] def xACons (m : ME) (r : MA) : MA := aCons m r
@[irreducible] def xAStar (m : ME) (r : MA) : MA := aStar m r
@[irreducible] def xETup (ma : MA) : ME := eTup ma
@[irreducible] def xELst (ma : MA) : ME := eLst ma
@[irreducible] def xNLst (ma : MA) : S → R S (List PV) := nLst ma
@[irreducible] def xShN (m : S → R S (List PV)) : ME := shN m
@[irreducible] def xECel (m : S → R S (List PV)) : ME := eCel m
@[irreducible] def xECB (f : AH → List PV → Option PV) (ma : MA) : ME := eCB f ma
@[irreducible] def xEChain (f g : AH → PV → PV → Option PV) (a b c : ME) : ME := eChain f g a b c
@[irreducible] def xONone : S → R S (Option Int) := oNone 
@[irreducible] def xOSome (m : ME) : S → R S (Option Int) := oSome m
@[irreducible] def xESl (m : ME) (lo hi : S → R S (Option Int)) : ME := eSl m lo hi
@[irreducible] def xCallH (n : Nat) (m : MF) (vs : List PV) : ME := callH n m vs
@[irreducible] def xECall (n : Nat) (m : MF) (ma : MA) : ME := eCall n m ma
@[irreducible] def xECallK (n0 nk : Nat) (ix : List Nat) (n : Nat) (m : MF) (ma mk : MA) : ME := eCallK n0 nk ix n m ma mk
@[irreducible] def xAndV (a b : ME) : ME := andV a b
@[irreducible] def xOrV (a b : ME) : ME := orV a b
@[irreducible] def xNotV (a : ME) : ME := notV a
@[irreducible] def xIfM (c : S → R S Bool) (a b : ME) : ME := ifM c a b
@[irreducible] def xTM (m : ME) : S → R S Bool := tM m
@[irreducible] def xBM (m : ME) : S → R S Bool := bM m
@[irreducible] def xBlM (a : S → R S Bool) : ME := blM a
@[irreducible] def xAndM (a b : S → R S Bool) : S → R S Bool := Lp.andM a b
@[irreducible] def xOrM (a b : S → R S Bool) : S → R S Bool := Lp.orM a b
@[irreducible] def xNotM (a : S → R S Bool) : S → R S Bool := Lp.notM a
@[irreducible] def xEMS (f : AH → Str → List PV → Option PV) (mo : ME) (ma : MA) : ME := eMS f mo ma
@[irreducible] def xSNil : MS := sNil 
@[irreducible] def xSSeq (a b : MS) : MS := sSeq a b
@[irreducible] def xSExpr (m : ME) : MS := sExpr m
@[irreducible] def xSRet (m : ME) : MS := sRet m
@[irreducible] def xSRetN : MS := sRetN 
@[irreducible] def xSIf (c : S → R S Bool) (a b : MS) : MS := sIf c a b
@[irreducible] def xSAsg (i : Nat) (m : ME) : MS := sAsg i m
@[irreducible] def xSAsgN (i : Nat) (m : S → R S (List PV)) : MS := sAsgN i m
@[irreducible] def xSAsgT (t : Tg) (m : ME) : MS := sAsgT t m
@[irreducible] def xSPar (i j : Nat) (ma : MA) : MS := sPar i j ma
@[irreducible] def xSSetC (mv mo mi : ME) : MS := sSetC mv mo mi
@[irreducible] noncomputable def xSFor (src : S → R S Sr) (t : Tg) (body : MS) : MS := sFor src t body
@[irreducible] def xSAny (m : ME) : S → R S Sr := sAny m
@[irreducible] noncomputable def xECompN (src : S → R S Sr) (t : Tg) (tt : S → R S Bool) (te : ME) (vs : List Nat) : S → R S (List PV) := eCompN src t tt te vs
section
variable {P : PV → S → Prop} {PB : Bool → S → Prop} {PA : List PV → S → Prop} {PO : Option Int → S → Prop} {PF : Fl → S → Prop} {E : PV → S → Prop} {s : S}
variable {a b c m : ME} {ma : MA} {ta tb : S → R S Bool} {f g : AH → PV → PV → Option PV} {v : PV} {i : Nat} {x y : MS}
theorem p_var (e : s.e[i]? = some (some v)) (h : P v s) : (xEVar i s).post P E := by
  unfold xEVar
  exact p0_var e h
theorem p_c (h : P v s) : (xEC v s).post P E := by
  unfold xEC
  exact p0_c h
theorem p_bin (h : (a s).post (fun x s1 => (b s1).post (fun y s2 => ∃ z, f s2.h x y = some z ∧ P z s2) E) E) : (xEBin f a b s).post P E := by
  unfold xEBin
  exact p0_bin h
theorem p_nil (h : PA [] s) : (xANil s).post PA E := by
  unfold xANil
  exact p0_nil h
theorem p_cons (h : (a s).post (fun v s1 => (ma s1).post (fun vs s2 => PA (v :: vs) s2) E) E) : (xACons a ma s).post PA E := by
  unfold xACons
  exact p0_cons h
theorem p_star (h : (a s).post (fun v s1 => ∃ xs, asS s1.h v = some xs ∧ (ma s1).post (fun vs s2 => PA (xs ++ vs) s2) E) E) : (xAStar a ma s).post PA E := by
  unfold xAStar
  exact p0_star h
theorem p_tup (h : (ma s).post (fun vs s1 => (allSh vs = true ∧ vs.length ≤ 16777216) ∧ P (.tup vs) s1) E) : (xETup ma s).post P E := by
  unfold xETup
  exact p0_tup h
theorem p_lst (h : (ma s).post (fun vs s1 => (allSh vs = true ∧ vs.length ≤ 16777216) ∧ P (.lst vs) s1) E) : (xELst ma s).post P E := by
  unfold xELst
  exact p0_lst h
theorem p_nlst (h : (ma s).post (fun vs s1 => (allSh vs = true ∧ vs.length ≤ sizeLine) ∧ PA vs s1) E) : (xNLst ma s).post PA E := by
  unfold xNLst
  exact p0_nlst h
theorem p_sh {mn : S → R S (List PV)} (h : (mn s).post (fun xs s1 => P (.lst xs) s1) E) : (xShN mn s).post P E := by
  unfold xShN
  exact p0_sh h
theorem p_cel {mn : S → R S (List PV)} (h : (mn s).post (fun xs s1 => P (.cel s1.h.length) ⟨s1.e, s1.h ++ [some (.lst xs)]⟩) E) : (xECel mn s).post P E := by
  unfold xECel
  exact p0_cel h
theorem p_cb {fb : AH → List PV → Option PV} (h : (ma s).post (fun vs s1 => ∃ z, fb s1.h vs = some z ∧ P z s1) E) : (xECB fb ma s).post P E := by
  unfold xECB
  exact p0_cb h
theorem p_chain (h : (a s).post (fun x s1 => (b s1).post (fun y s2 => ∃ k, f s2.h x y = some (.bl k) ∧ br k ((c s2).post (fun w s3 => ∃ z, g s3.h y w = some z ∧ P z s3) E) (P (.bl false) s2)) E) E) : (xEChain f g a b c s).post P E := by
  unfold xEChain
  simp only [br_eq] at h
  exact p0_chain h
theorem p_onone (h : PO none s) : (xONone s).post PO E := by
  unfold xONone
  exact p0_onone h
theorem p_osome (h : (a s).post (fun v s1 => ∃ i, v = .int i ∧ PO (some i) s1) E) : (xOSome a s).post PO E := by
  unfold xOSome
  exact p0_osome h
theorem p_sl {lo hi : S → R S (Option Int)} (h : (a s).post (fun v s1 => (lo s1).post (fun l s2 => (hi s2).post (fun u s3 => ∃ z, fSl s3.h v l u = some z ∧ P z s3) E) E) E) : (xESl a lo hi s).post P E := by
  unfold xESl
  exact p0_sl h
theorem p_callH {n : Nat} {mf : MF} {vs : List PV} (h : (vs.length = n ∧ allSh vs = true) ∧ (mf vs s.h).post (fun v h => P v ⟨s.e, h⟩) (fun x h => E x ⟨s.e, h⟩)) : (xCallH n mf vs s).post P E := by
  unfold xCallH
  exact p0_callH h
theorem p_call {n : Nat} {mf : MF} (h : (ma s).post (fun vs s1 => (vs.length = n ∧ allSh vs = true) ∧ (mf vs s1.h).post (fun v h => P v ⟨s1.e, h⟩) (fun x h => E x ⟨s1.e, h⟩)) E) : (xECall n mf ma s).post P E := by
  unfold xECall
  exact p0_call h
theorem p_callK {n0 nk n : Nat} {ix : List Nat} {mf : MF} {mk : MA} (h : (ma s).post (fun vs s1 => (mk s1).post (fun zs s2 => ((vs.length = n0 ∧ zs.length = nk) ∧ allSh vs = true ∧ allSh zs = true) ∧ ((pick ix (vs ++ zs)).length = n ∧ allSh (pick ix (vs ++ zs)) = true) ∧
    (mf (pick ix (vs ++ zs)) s2.h).post (fun v h => P v ⟨s2.e, h⟩) (fun x h => E x ⟨s2.e, h⟩)) E) E) : (xECallK n0 nk ix n mf ma mk s).post P E := by
  unfold xECallK
  exact p0_callK h
theorem p_andV (h : (a s).post (fun v s1 => ∃ k, v = .bl k ∧ br k ((b s1).post P E) (P (.bl false) s1)) E) : (xAndV a b s).post P E := by
  unfold xAndV
  simp only [br_eq] at h
  exact p0_andV h
theorem p_orV (h : (a s).post (fun v s1 => ∃ k, v = .bl k ∧ br k (P (.bl true) s1) ((b s1).post P E)) E) : (xOrV a b s).post P E := by
  unfold xOrV
  simp only [br_eq] at h
  exact p0_orV h
theorem p_notV (h : (a s).post (fun v s1 => ∃ k, v = .bl k ∧ P (.bl (!k)) s1) E) : (xNotV a s).post P E := by
  unfold xNotV
  exact p0_notV h
theorem p_ifM (h : (ta s).post (fun k s1 => br k ((a s1).post P E) ((b s1).post P E)) E) : (xIfM ta a b s).post P E := by
  unfold xIfM
  simp only [br_eq] at h
  exact p0_ifM h
theorem p_tM (h : (a s).post (fun v s1 => ∃ k, tru s1.h v = some k ∧ PB k s1) E) : (xTM a s).post PB E := by
  unfold xTM
  exact p0_tM h
theorem p_bM (h : (a s).post (fun v s1 => ∃ k, v = .bl k ∧ PB k s1) E) : (xBM a s).post PB E := by
  unfold xBM
  exact p0_bM h
theorem p_blM (h : (ta s).post (fun k s1 => P (.bl k) s1) E) : (xBlM ta s).post P E := by
  unfold xBlM
  exact p0_blM h
theorem p_andM (h : (ta s).post (fun k s1 => br k ((tb s1).post PB E) (PB false s1)) E) : (xAndM ta tb s).post PB E := by
  unfold xAndM
  simp only [br_eq] at h
  exact p0_andM h
theorem p_orM (h : (ta s).post (fun k s1 => br k (PB true s1) ((tb s1).post PB E)) E) : (xOrM ta tb s).post PB E := by
  unfold xOrM
  simp only [br_eq] at h
  exact p0_orM h
theorem p_notM (h : (ta s).post (fun k s1 => PB (!k) s1) E) : (xNotM ta s).post PB E := by
  unfold xNotM
  exact p0_notM h
theorem p_ms {fm : AH → Str → List PV → Option PV} (h : (a s).post (fun o s1 => ∃ x, o = .str x ∧ (ma s1).post (fun vs s2 => ∃ z, fm s2.h x vs = some z ∧ P z s2) E) E) : (xEMS fm a ma s).post P E := by
  unfold xEMS
  exact p0_ms h
theorem p_snil (h : PF .nx s) : (xSNil s).post PF E := by
  unfold xSNil
  exact p0_snil h
theorem p_seq (h : (x s).post (fun fl s1 => match fl with | .nx => (y s1).post PF E | fl => PF fl s1) E) : (xSSeq x y s).post PF E := by
  unfold xSSeq
  exact p0_seq h
theorem p_sexpr (h : (a s).post (fun _ s1 => PF .nx s1) E) : (xSExpr a s).post PF E := by
  unfold xSExpr
  exact p0_sexpr h
theorem p_ret (h : (a s).post (fun v s1 => isOwn v = false ∧ PF (.rt v) s1) E) : (xSRet a s).post PF E := by
  unfold xSRet
  exact p0_ret h
theorem p_retN (h : PF (.rt .non) s) : (xSRetN s).post PF E := by
  unfold xSRetN
  exact p0_retN h
theorem p_sif (h : (ta s).post (fun k s1 => br k ((x s1).post PF E) ((y s1).post PF E)) E) : (xSIf ta x y s).post PF E := by
  unfold xSIf
  simp only [br_eq] at h
  exact p0_sif h
theorem p_asg (h : (a s).post (fun v s1 => isOwn v = false ∧ PF .nx ⟨s1.e.set i (some v), s1.h⟩) E) : (xSAsg i a s).post PF E := by
  unfold xSAsg
  exact p0_asg h
theorem p_asgN {mn : S → R S (List PV)} (h : (mn s).post (fun v s1 => PF .nx ⟨s1.e.set i (some (.own v)), s1.h⟩) E) : (xSAsgN i mn s).post PF E := by
  unfold xSAsgN
  exact p0_asgN h
theorem p_asgT {t : Tg} (h : (a s).post (fun v s1 => isOwn v = false ∧ ∃ e1, bindT t v s1.e = some e1 ∧ PF .nx ⟨e1, s1.h⟩) E) : (xSAsgT t a s).post PF E := by
  unfold xSAsgT
  exact p0_asgT h
theorem p_par {j : Nat} (h : (ma s).post (fun vs s1 => ∃ v w, vs = [v, w] ∧ (isOwn v = false ∧ isOwn w = false) ∧ PF .nx ⟨(s1.e.set i (some v)).set j (some w), s1.h⟩) E) : (xSPar i j ma s).post PF E := by
  unfold xSPar
  exact p0_par h
theorem p_setC (h : (a s).post (fun v s1 => (b s1).post (fun o s2 => (c s2).post (fun k s3 => ∃ n xs ys, o = .cel n ∧ cellL s3.h n = some xs ∧ setL xs k v = some ys ∧ PF .nx ⟨s3.e, s3.h.set n (some (.lst ys))⟩) E) E) E) : (xSSetC a b c s).post PF E := by
  unfold xSSetC
  exact p0_setC h
theorem p_for {src : S → R S Sr} {t : Tg} (h : (src s).post (fun r s1 => r.w = [] ∧ r.o = false ∧ r.xs.length ≤ sizeLine ∧ (loopF ⟨r.xs, [], false⟩ t x r.xs s1).post PF E) E) : (xSFor src t x s).post PF E := by
  unfold xSFor
  exact p0_for h
theorem p_any {m : ME} {PS : Sr → S → Prop} (h : (m s).post (fun v s1 => ∃ r, srcOf s1.h v = some r ∧ PS r s1) E) : (xSAny m s).post PS E := by
  unfold xSAny
  exact p0_any h
theorem p_compN {src : S → R S Sr} {t : Tg} {tt : S → R S Bool} {te : ME} {vs : List Nat}
    (h : (src s).post (fun r s1 => r.w = [] ∧ ∃ I : Nat → List PV → AH → Prop, I 0 [] s1.h ∧ (∀ (j : Nat) (v : PV) (acc : List PV) (h : AH), r.xs[j]? = some v → I j acc h → ∃ e1, bindT t v (wipeE s1.e vs) = some e1 ∧
      (tt ⟨e1, h⟩).post (fun k s2 => br k ((te s2).post (fun y s3 => isOwn y = false ∧ wipeE s3.e vs = wipeE s1.e vs ∧ I (j + 1) (acc ++ [y]) s3.h) NE) (wipeE s2.e vs = wipeE s1.e vs ∧ I (j + 1) acc s2.h)) NE) ∧ ∀ acc h, I r.xs.length acc h → PA acc ⟨wipeE s1.e vs, h⟩) E) : (xECompN src t tt te vs s).post PA E := by
  unfold xECompN
  simp only [br_eq] at h
  exact p0_compN h
end
end Lp

set_option Elab.async false
set_option linter.all false
set_option maxRecDepth 100000
set_option maxHeartbeats 4000000
/-! Lq2: the bag of draws. -/
namespace Lp
open PySem PySem.Spec PyProof.Rows L2
/-- a bag's list -/
def Bag (l : List PV) : Prop := ∃ (ns : List Int) (i c sd t : Int), l = [.lst (ns.map .int), .int i, .int c, .int sd, .int t] ∧ 0 ≤ i ∧ 0 ≤ c ∧ 0 ≤ sd ∧ sd < 2147483587
theorem cellL_set {h : AH} {n : Nat} {l : List PV} (hn : n < h.length) : cellL (h.set n (some (.lst l))) n = some l := by
  unfold cellL
  rw [List.getElem?_set_self hn]
theorem fIx_cel {h : AH} {n : Nat} {l : List PV} {i : Int} {z : PV} (e : cellL h n = some l) (e2 : atI l i = some z) : fIx h (.cel n) (.int i) = some z := by
  have q := cellL_ok e
  unfold fIx
  show (match asS h (.cel n) with | some xs => atI xs i | none => none) = some z
  have : asS h (.cel n) = some l := by
    unfold asS asL
    simp only [q]
  rw [this]
  exact e2
theorem p_setB {PF : Fl → S → Prop} {E : PV → S → Prop} {a b c : ME} {s : S} (q : (a s).post (fun v s1 => (b s1).post (fun o s2 => (c s2).post (fun k s3 => ∃ (n : Nat) (h : AH) (l ys : List PV), o = .cel n ∧ n < h.length ∧ s3.h = h.set n (some (.lst l)) ∧ setL l k v = some ys ∧ PF .nx ⟨s3.e, h.set n (some (.lst ys))⟩) E) E) E) :
    (xSSetC a b c s).post PF E :=
  p_setC (p_mono q (fun v s1 q => p_mono q (fun o s2 q => p_mono q (fun k s3 ⟨n, h, l, ys, e1, e2, e3, e4, q⟩ => ⟨n, l, ys, e1, by rw [e3]; exact cellL_set e2, e4, by rw [e3, List.set_set]; exact q⟩) fun _ _ z => z) fun _ _ z => z) fun _ _ z => z)
theorem atI_ints {ns : List Int} {i : Int} (h0 : 0 ≤ i) (h1 : i < ns.length) : ∃ k, atI (ns.map PV.int) i = some (.int k) := by
  unfold atI ixN
  rw [if_pos h0, List.length_map, if_pos h1]
  show ∃ k, (ns.map PV.int)[i.toNat]? = some (.int k)
  rw [List.getElem?_map, List.getElem?_eq_getElem (by omega)]
  exact ⟨_, rfl⟩
theorem eq_int {h : AH} {i j : Int} : fEq h (.int i) (.int j) = some (.bl (PyData.eqv (.int i) (.int j))) := rfl
theorem mulG_r {i j : Int} (h : j.natAbs < 18446744073709551616) : mulG i j = some (i * j) := if_pos (.inr h)
theorem mulG_l {i j : Int} (h : i.natAbs < 18446744073709551616) : mulG i j = some (i * j) := if_pos (.inl h)
theorem fMul_r {h : AH} {i j : Int} (hj : j.natAbs < 18446744073709551616) : fMul h (.int i) (.int j) = some (.int (i * j)) := by
  show (mulG i j).map PV.int = _
  rw [mulG_r hj]; rfl
theorem fMul_l {h : AH} {i j : Int} (hj : i.natAbs < 18446744073709551616) : fMul h (.int i) (.int j) = some (.int (i * j)) := by
  show (mulG i j).map PV.int = _
  rw [mulG_l hj]; rfl
theorem fMod_i {h : AH} {i j : Int} (hj : j ≠ 0) : fMod h (.int i) (.int j) = some (.int (i.fmod j)) := by
  show (modG i j).map PV.int = _
  unfold modG
  rw [if_pos hj]; rfl
theorem fFdv_i {h : AH} {i j : Int} (hj : j ≠ 0) (h2 : j.natAbs < 1073741824) : fFdv h (.int i) (.int j) = some (.int (i.fdiv j)) := by
  show (fdivG i j).map PV.int = _
  unfold fdivG
  rw [if_pos ⟨hj, h2⟩]; rfl
theorem eqv_int (i j : Int) : PyData.eqv (.int i) (.int j) = decide (i = j) := rfl
theorem fmod_lt {a b : Int} (h : 0 < b) : 0 ≤ a.fmod b ∧ a.fmod b < b := ⟨Int.fmod_nonneg_of_pos a h, Int.fmod_lt_of_pos a h⟩
noncomputable def drawMb : MS := (sSeq (sIf (andM (bM (eBin fEq (eBin fIx (eVar 0) (eC (.int 2))) (eC (.int 0)))) (bM (eBin fLt (eBin fIx (eVar 0) (eC (.int 1))) (eCB bLen (aCons (eBin fIx (eVar 0) (eC (.int 0))) aNil))))) (sSeq (sAsg 2 (eBin fIx (eBin fIx (eVar 0) (eC (.int 0))) (eBin fIx (eVar 0) (eC (.int 1)))))
  (sSeq (sSetC (eBin fAdd (eBin fIx (eVar 0) (eC (.int 1))) (eC (.int 1))) (eVar 0) (eC (.int 1)))
  (sSeq (sSetC (ifM (bM (eBin fGe (eVar 2) (eBin fPow (eC (.int 10)) (eC (.int 18))))) (eVar 2) (eC (.int 0))) (eVar 0) (eC (.int 2)))
  (sSetC (eBin fMod (eCB bInt (aCons (eBin fAdd (eBin fAdd (eBin fMul (eBin fIx (eVar 0) (eC (.int 3))) (eC (.int 40031))) (eBin fMul (eBin fMod (eCB bInt (aCons (eVar 2) aNil)) (eC (.int 2147483549))) (eC (.int 331)))) (eC (.int 2011))) aNil)) (eC (.int 2147483587))) (eVar 0) (eC (.int 3)))))) sNil)
  (sSeq (sIf (bM (eBin fGt (eBin fIx (eVar 0) (eC (.int 2))) (eC (.int 0)))) (sSeq (sAsg 3 (eBin fMod (eCB bInt (aCons (eBin fIx (eVar 0) (eC (.int 2))) aNil)) (eVar 1)))
  (sSeq (sSetC (eBin fFdv (eBin fIx (eVar 0) (eC (.int 2))) (eVar 1)) (eVar 0) (eC (.int 2)))
  (sRet (eVar 3)))) sNil)
  (sSeq (sSetC (eBin fAdd (eBin fIx (eVar 0) (eC (.int 4))) (eC (.int 1))) (eVar 0) (eC (.int 4)))
  (sSeq (sAsg 4 (eBin fIx (eVar 0) (eC (.int 3))))
  (sSeq (sSetC (eBin fMod (eCB bInt (aCons (eBin fAdd (eBin fAdd (eBin fAdd (eBin fMul (eVar 4) (eVar 4)) (eBin fMul (eC (.int 65071)) (eVar 4))) (eBin fMul (eC (.int 6673)) (eBin fIx (eVar 0) (eC (.int 4))))) (eC (.int 40013))) aNil)) (eC (.int 2147483587))) (eVar 0) (eC (.int 3)))
  (sRet (eBin fMod (eCB bInt (aCons (eBin fAdd (eBin fAdd (eBin fFdv (eBin fIx (eVar 0) (eC (.int 3))) (eC (.int 61))) (eBin fMul (eVar 4) (eC (.int 32009)))) (eBin fIx (eVar 0) (eC (.int 4)))) aNil)) (eVar 1))))))))
noncomputable def drawMx : MS := (xSSeq (xSIf (xAndM (xBM (xEBin fEq (xEBin fIx (xEVar 0) (xEC (.int 2))) (xEC (.int 0)))) (xBM (xEBin fLt (xEBin fIx (xEVar 0) (xEC (.int 1))) (xECB bLen (xACons (xEBin fIx (xEVar 0) (xEC (.int 0))) xANil))))) (xSSeq (xSAsg 2 (xEBin fIx (xEBin fIx (xEVar 0) (xEC (.int 0))) (xEBin fIx (xEVar 0) (xEC (.int 1)))))
  (xSSeq (xSSetC (xEBin fAdd (xEBin fIx (xEVar 0) (xEC (.int 1))) (xEC (.int 1))) (xEVar 0) (xEC (.int 1)))
  (xSSeq (xSSetC (xIfM (xBM (xEBin fGe (xEVar 2) (xEBin fPow (xEC (.int 10)) (xEC (.int 18))))) (xEVar 2) (xEC (.int 0))) (xEVar 0) (xEC (.int 2)))
  (xSSetC (xEBin fMod (xECB bInt (xACons (xEBin fAdd (xEBin fAdd (xEBin fMul (xEBin fIx (xEVar 0) (xEC (.int 3))) (xEC (.int 40031))) (xEBin fMul (xEBin fMod (xECB bInt (xACons (xEVar 2) xANil)) (xEC (.int 2147483549))) (xEC (.int 331)))) (xEC (.int 2011))) xANil)) (xEC (.int 2147483587))) (xEVar 0) (xEC (.int 3)))))) xSNil)
  (xSSeq (xSIf (xBM (xEBin fGt (xEBin fIx (xEVar 0) (xEC (.int 2))) (xEC (.int 0)))) (xSSeq (xSAsg 3 (xEBin fMod (xECB bInt (xACons (xEBin fIx (xEVar 0) (xEC (.int 2))) xANil)) (xEVar 1)))
  (xSSeq (xSSetC (xEBin fFdv (xEBin fIx (xEVar 0) (xEC (.int 2))) (xEVar 1)) (xEVar 0) (xEC (.int 2)))
  (xSRet (xEVar 3)))) xSNil)
  (xSSeq (xSSetC (xEBin fAdd (xEBin fIx (xEVar 0) (xEC (.int 4))) (xEC (.int 1))) (xEVar 0) (xEC (.int 4)))
  (xSSeq (xSAsg 4 (xEBin fIx (xEVar 0) (xEC (.int 3))))
  (xSSeq (xSSetC (xEBin fMod (xECB bInt (xACons (xEBin fAdd (xEBin fAdd (xEBin fAdd (xEBin fMul (xEVar 4) (xEVar 4)) (xEBin fMul (xEC (.int 65071)) (xEVar 4))) (xEBin fMul (xEC (.int 6673)) (xEBin fIx (xEVar 0) (xEC (.int 4))))) (xEC (.int 40013))) xANil)) (xEC (.int 2147483587))) (xEVar 0) (xEC (.int 3)))
  (xSRet (xEBin fMod (xECB bInt (xACons (xEBin fAdd (xEBin fAdd (xEBin fFdv (xEBin fIx (xEVar 0) (xEC (.int 3))) (xEC (.int 61))) (xEBin fMul (xEVar 4) (xEC (.int 32009)))) (xEBin fIx (xEVar 0) (xEC (.int 4)))) xANil)) (xEVar 1))))))))
theorem drawM_x : drawMb = drawMx := by kernel_rfl
@[irreducible] noncomputable def drawM : MF := mkF 3 drawMb
section
theorem draw_spec {h : AH} {n : Nat} {l : List PV} (hn : n < h.length) (b : Bag l) {k : Int} (hk : 1 ≤ k) (hk2 : k < 1073741824) :
    (drawM [.cel n, .int k] (h.set n (some (.lst l)))).post (fun v h' => ∃ d l', v = .int d ∧ 0 ≤ d ∧ d < k ∧ Bag l' ∧ h' = h.set n (some (.lst l'))) NE := by
  obtain ⟨ns, i, c, sd, t, rfl, h1, h2, h3, h4⟩ := b
  unfold drawM
  rw [drawM_x]
  unfold drawMx
  refine p_mkF [some (.cel n), some (.int k), none, none, none] rfl (p_seq (p_spec (P' := fun fl s1 => fl = .nx ∧ ∃ l' x, Bag l' ∧ s1 = ⟨[some (.cel n), some (.int k), x, none, none], h.set n (some (.lst l'))⟩) ?_ ?_))
  · (repeat (first | refine p_var rfl ?_ | refine p_c ?_ | refine p_bin ?_ | refine p_cons ?_ | refine p_nil ?_ | refine p_seq ?_ | refine p_asg ?_ | refine p_sif ?_ | refine p_ret ?_ | refine p_bM ?_ | refine p_tM ?_ | refine p_cb ?_ | refine p_andM ?_ | refine p_orM ?_ | refine p_notM ?_ | refine p_chain ?_ | refine p_andV ?_ | refine p_orV ?_ | refine p_notV ?_ | refine p_ifM ?_ | refine p_tup ?_ | refine p_lst ?_ | refine p_call ?_ | refine p_callK ?_ | refine ⟨⟨⟨rfl, rfl⟩, rfl, rfl⟩, ⟨rfl, rfl⟩, ?_⟩ | refine p_setB ?_ | refine p_sl ?_ | refine p_osome ?_ | refine p_onone ?_ | refine p_snil ?_ | refine p_sexpr ?_ | refine p_retN ?_ | refine p_par ?_ | refine p_sh ?_ | refine p_brt rfl ?_ | refine p_brf rfl ?_ | refine ⟨_, rfl, ?_⟩ | refine ⟨⟨rfl, rfl⟩, ?_⟩ | refine ⟨⟨rfl, Nat.le_of_ble_eq_true rfl⟩, ?_⟩ | refine ⟨_, _, _, _, rfl, hn, rfl, rfl, ?_⟩ | (refine ⟨_, _, rfl, ⟨rfl, rfl⟩, ?_⟩; try dsimp only [wipeE, List.set_cons_succ, List.set_cons_zero]) | (refine ⟨rfl, ?_⟩; try dsimp only [wipeE, List.set_cons_succ, List.set_cons_zero]) | refine ⟨_, fIx_cel (cellL_set hn) rfl, ?_⟩))
    refine p_br (fun hc => ?_) fun hc => ?_
    · (repeat (first | refine p_var rfl ?_ | refine p_c ?_ | refine p_bin ?_ | refine p_cons ?_ | refine p_nil ?_ | refine p_seq ?_ | refine p_asg ?_ | refine p_sif ?_ | refine p_ret ?_ | refine p_bM ?_ | refine p_tM ?_ | refine p_cb ?_ | refine p_andM ?_ | refine p_orM ?_ | refine p_notM ?_ | refine p_chain ?_ | refine p_andV ?_ | refine p_orV ?_ | refine p_notV ?_ | refine p_ifM ?_ | refine p_tup ?_ | refine p_lst ?_ | refine p_call ?_ | refine p_callK ?_ | refine ⟨⟨⟨rfl, rfl⟩, rfl, rfl⟩, ⟨rfl, rfl⟩, ?_⟩ | refine p_setB ?_ | refine p_sl ?_ | refine p_osome ?_ | refine p_onone ?_ | refine p_snil ?_ | refine p_sexpr ?_ | refine p_retN ?_ | refine p_par ?_ | refine p_sh ?_ | refine p_brt rfl ?_ | refine p_brf rfl ?_ | refine ⟨_, rfl, ?_⟩ | refine ⟨⟨rfl, rfl⟩, ?_⟩ | refine ⟨⟨rfl, Nat.le_of_ble_eq_true rfl⟩, ?_⟩ | refine ⟨_, _, _, _, rfl, hn, rfl, rfl, ?_⟩ | (refine ⟨_, _, rfl, ⟨rfl, rfl⟩, ?_⟩; try dsimp only [wipeE, List.set_cons_succ, List.set_cons_zero]) | (refine ⟨rfl, ?_⟩; try dsimp only [wipeE, List.set_cons_succ, List.set_cons_zero]) | refine ⟨_, fIx_cel (cellL_set hn) rfl, ?_⟩))
      refine p_br (fun hi => ?_) fun hi => ?_
      · have hi : i < (((ns.map PV.int).length : Nat) : Int) := of_decide_eq_true hi
        obtain ⟨q, eq⟩ := atI_ints h1 (by simpa using hi)
        (repeat (first | refine p_var rfl ?_ | refine p_c ?_ | refine p_bin ?_ | refine p_cons ?_ | refine p_nil ?_ | refine p_seq ?_ | refine p_asg ?_ | refine p_sif ?_ | refine p_ret ?_ | refine p_bM ?_ | refine p_tM ?_ | refine p_cb ?_ | refine p_andM ?_ | refine p_orM ?_ | refine p_notM ?_ | refine p_chain ?_ | refine p_andV ?_ | refine p_orV ?_ | refine p_notV ?_ | refine p_ifM ?_ | refine p_tup ?_ | refine p_lst ?_ | refine p_call ?_ | refine p_callK ?_ | refine ⟨⟨⟨rfl, rfl⟩, rfl, rfl⟩, ⟨rfl, rfl⟩, ?_⟩ | refine p_setB ?_ | refine p_sl ?_ | refine p_osome ?_ | refine p_onone ?_ | refine p_snil ?_ | refine p_sexpr ?_ | refine p_retN ?_ | refine p_par ?_ | refine p_sh ?_ | refine p_brt rfl ?_ | refine p_brf rfl ?_ | refine ⟨_, rfl, ?_⟩ | refine ⟨⟨rfl, rfl⟩, ?_⟩ | refine ⟨⟨rfl, Nat.le_of_ble_eq_true rfl⟩, ?_⟩ | refine ⟨_, _, _, _, rfl, hn, rfl, rfl, ?_⟩ | (refine ⟨_, _, rfl, ⟨rfl, rfl⟩, ?_⟩; try dsimp only [wipeE, List.set_cons_succ, List.set_cons_zero]) | (refine ⟨rfl, ?_⟩; try dsimp only [wipeE, List.set_cons_succ, List.set_cons_zero]) | refine ⟨_, fIx_cel (cellL_set hn) rfl, ?_⟩ | refine ⟨_, eq, ?_⟩))
        have fin := @fmod_lt
        refine p_br (fun hq => ?_) fun hq => ?_
        · have hq : (10 : Int) ^ 18 ≤ q := of_decide_eq_true hq
          (repeat (first | refine p_var rfl ?_ | refine p_c ?_ | refine p_bin ?_ | refine p_cons ?_ | refine p_nil ?_ | refine p_seq ?_ | refine p_asg ?_ | refine p_sif ?_ | refine p_ret ?_ | refine p_bM ?_ | refine p_tM ?_ | refine p_cb ?_ | refine p_andM ?_ | refine p_orM ?_ | refine p_notM ?_ | refine p_chain ?_ | refine p_andV ?_ | refine p_orV ?_ | refine p_notV ?_ | refine p_ifM ?_ | refine p_tup ?_ | refine p_lst ?_ | refine p_call ?_ | refine p_callK ?_ | refine ⟨⟨⟨rfl, rfl⟩, rfl, rfl⟩, ⟨rfl, rfl⟩, ?_⟩ | refine p_setB ?_ | refine p_sl ?_ | refine p_osome ?_ | refine p_onone ?_ | refine p_snil ?_ | refine p_sexpr ?_ | refine p_retN ?_ | refine p_par ?_ | refine p_sh ?_ | refine p_brt rfl ?_ | refine p_brf rfl ?_ | refine ⟨_, rfl, ?_⟩ | refine ⟨⟨rfl, rfl⟩, ?_⟩ | refine ⟨⟨rfl, Nat.le_of_ble_eq_true rfl⟩, ?_⟩ | refine ⟨_, _, _, _, rfl, hn, rfl, rfl, ?_⟩ | (refine ⟨_, _, rfl, ⟨rfl, rfl⟩, ?_⟩; try dsimp only [wipeE, List.set_cons_succ, List.set_cons_zero]) | (refine ⟨rfl, ?_⟩; try dsimp only [wipeE, List.set_cons_succ, List.set_cons_zero]) | refine ⟨_, fIx_cel (cellL_set hn) rfl, ?_⟩ | refine ⟨_, eq, ?_⟩ | refine ⟨_, fMul_r (by decide), ?_⟩ | refine ⟨_, fMod_i (by decide), ?_⟩))
          refine ⟨_, some _, ⟨ns, i + 1, q, _, t, rfl, by omega, by omega, (fin (by decide)).1, (fin (by decide)).2⟩, rfl⟩
        · (repeat (first | refine p_var rfl ?_ | refine p_c ?_ | refine p_bin ?_ | refine p_cons ?_ | refine p_nil ?_ | refine p_seq ?_ | refine p_asg ?_ | refine p_sif ?_ | refine p_ret ?_ | refine p_bM ?_ | refine p_tM ?_ | refine p_cb ?_ | refine p_andM ?_ | refine p_orM ?_ | refine p_notM ?_ | refine p_chain ?_ | refine p_andV ?_ | refine p_orV ?_ | refine p_notV ?_ | refine p_ifM ?_ | refine p_tup ?_ | refine p_lst ?_ | refine p_call ?_ | refine p_callK ?_ | refine ⟨⟨⟨rfl, rfl⟩, rfl, rfl⟩, ⟨rfl, rfl⟩, ?_⟩ | refine p_setB ?_ | refine p_sl ?_ | refine p_osome ?_ | refine p_onone ?_ | refine p_snil ?_ | refine p_sexpr ?_ | refine p_retN ?_ | refine p_par ?_ | refine p_sh ?_ | refine p_brt rfl ?_ | refine p_brf rfl ?_ | refine ⟨_, rfl, ?_⟩ | refine ⟨⟨rfl, rfl⟩, ?_⟩ | refine ⟨⟨rfl, Nat.le_of_ble_eq_true rfl⟩, ?_⟩ | refine ⟨_, _, _, _, rfl, hn, rfl, rfl, ?_⟩ | (refine ⟨_, _, rfl, ⟨rfl, rfl⟩, ?_⟩; try dsimp only [wipeE, List.set_cons_succ, List.set_cons_zero]) | (refine ⟨rfl, ?_⟩; try dsimp only [wipeE, List.set_cons_succ, List.set_cons_zero]) | refine ⟨_, fIx_cel (cellL_set hn) rfl, ?_⟩ | refine ⟨_, eq, ?_⟩ | refine ⟨_, fMul_r (by decide), ?_⟩ | refine ⟨_, fMod_i (by decide), ?_⟩))
          refine ⟨_, some _, ⟨ns, i + 1, 0, _, t, rfl, by omega, by omega, (fin (by decide)).1, (fin (by decide)).2⟩, rfl⟩
      · (repeat (first | refine p_var rfl ?_ | refine p_c ?_ | refine p_bin ?_ | refine p_cons ?_ | refine p_nil ?_ | refine p_seq ?_ | refine p_asg ?_ | refine p_sif ?_ | refine p_ret ?_ | refine p_bM ?_ | refine p_tM ?_ | refine p_cb ?_ | refine p_andM ?_ | refine p_orM ?_ | refine p_notM ?_ | refine p_chain ?_ | refine p_andV ?_ | refine p_orV ?_ | refine p_notV ?_ | refine p_ifM ?_ | refine p_tup ?_ | refine p_lst ?_ | refine p_call ?_ | refine p_callK ?_ | refine ⟨⟨⟨rfl, rfl⟩, rfl, rfl⟩, ⟨rfl, rfl⟩, ?_⟩ | refine p_setB ?_ | refine p_sl ?_ | refine p_osome ?_ | refine p_onone ?_ | refine p_snil ?_ | refine p_sexpr ?_ | refine p_retN ?_ | refine p_par ?_ | refine p_sh ?_ | refine p_brt rfl ?_ | refine p_brf rfl ?_ | refine ⟨_, rfl, ?_⟩ | refine ⟨⟨rfl, rfl⟩, ?_⟩ | refine ⟨⟨rfl, Nat.le_of_ble_eq_true rfl⟩, ?_⟩ | refine ⟨_, _, _, _, rfl, hn, rfl, rfl, ?_⟩ | (refine ⟨_, _, rfl, ⟨rfl, rfl⟩, ?_⟩; try dsimp only [wipeE, List.set_cons_succ, List.set_cons_zero]) | (refine ⟨rfl, ?_⟩; try dsimp only [wipeE, List.set_cons_succ, List.set_cons_zero])))
        exact ⟨_, none, ⟨ns, i, c, sd, t, rfl, h1, h2, h3, h4⟩, rfl⟩
    · (repeat (first | refine p_var rfl ?_ | refine p_c ?_ | refine p_bin ?_ | refine p_cons ?_ | refine p_nil ?_ | refine p_seq ?_ | refine p_asg ?_ | refine p_sif ?_ | refine p_ret ?_ | refine p_bM ?_ | refine p_tM ?_ | refine p_cb ?_ | refine p_andM ?_ | refine p_orM ?_ | refine p_notM ?_ | refine p_chain ?_ | refine p_andV ?_ | refine p_orV ?_ | refine p_notV ?_ | refine p_ifM ?_ | refine p_tup ?_ | refine p_lst ?_ | refine p_call ?_ | refine p_callK ?_ | refine ⟨⟨⟨rfl, rfl⟩, rfl, rfl⟩, ⟨rfl, rfl⟩, ?_⟩ | refine p_setB ?_ | refine p_sl ?_ | refine p_osome ?_ | refine p_onone ?_ | refine p_snil ?_ | refine p_sexpr ?_ | refine p_retN ?_ | refine p_par ?_ | refine p_sh ?_ | refine p_brt rfl ?_ | refine p_brf rfl ?_ | refine ⟨_, rfl, ?_⟩ | refine ⟨⟨rfl, rfl⟩, ?_⟩ | refine ⟨⟨rfl, Nat.le_of_ble_eq_true rfl⟩, ?_⟩ | refine ⟨_, _, _, _, rfl, hn, rfl, rfl, ?_⟩ | (refine ⟨_, _, rfl, ⟨rfl, rfl⟩, ?_⟩; try dsimp only [wipeE, List.set_cons_succ, List.set_cons_zero]) | (refine ⟨rfl, ?_⟩; try dsimp only [wipeE, List.set_cons_succ, List.set_cons_zero])))
      exact ⟨_, none, ⟨ns, i, c, sd, t, rfl, h1, h2, h3, h4⟩, rfl⟩
  · rintro fl s1 ⟨rfl, l', x, ⟨ns, i, c, sd, t, rfl, h1, h2, h3, h4⟩, rfl⟩
    dsimp only
    (repeat (first | refine p_var rfl ?_ | refine p_c ?_ | refine p_bin ?_ | refine p_cons ?_ | refine p_nil ?_ | refine p_seq ?_ | refine p_asg ?_ | refine p_sif ?_ | refine p_ret ?_ | refine p_bM ?_ | refine p_tM ?_ | refine p_cb ?_ | refine p_andM ?_ | refine p_orM ?_ | refine p_notM ?_ | refine p_chain ?_ | refine p_andV ?_ | refine p_orV ?_ | refine p_notV ?_ | refine p_ifM ?_ | refine p_tup ?_ | refine p_lst ?_ | refine p_call ?_ | refine p_callK ?_ | refine ⟨⟨⟨rfl, rfl⟩, rfl, rfl⟩, ⟨rfl, rfl⟩, ?_⟩ | refine p_setB ?_ | refine p_sl ?_ | refine p_osome ?_ | refine p_onone ?_ | refine p_snil ?_ | refine p_sexpr ?_ | refine p_retN ?_ | refine p_par ?_ | refine p_sh ?_ | refine p_brt rfl ?_ | refine p_brf rfl ?_ | refine ⟨_, rfl, ?_⟩ | refine ⟨⟨rfl, rfl⟩, ?_⟩ | refine ⟨⟨rfl, Nat.le_of_ble_eq_true rfl⟩, ?_⟩ | refine ⟨_, _, _, _, rfl, hn, rfl, rfl, ?_⟩ | (refine ⟨_, _, rfl, ⟨rfl, rfl⟩, ?_⟩; try dsimp only [wipeE, List.set_cons_succ, List.set_cons_zero]) | (refine ⟨rfl, ?_⟩; try dsimp only [wipeE, List.set_cons_succ, List.set_cons_zero]) | refine ⟨_, fIx_cel (cellL_set hn) rfl, ?_⟩))
    refine p_br (fun hc => ?_) fun hc => ?_
    · have hc : (0 : Int) < c := of_decide_eq_true hc
      (repeat (first | refine p_var rfl ?_ | refine p_c ?_ | refine p_bin ?_ | refine p_cons ?_ | refine p_nil ?_ | refine p_seq ?_ | refine p_asg ?_ | refine p_sif ?_ | refine p_ret ?_ | refine p_bM ?_ | refine p_tM ?_ | refine p_cb ?_ | refine p_andM ?_ | refine p_orM ?_ | refine p_notM ?_ | refine p_chain ?_ | refine p_andV ?_ | refine p_orV ?_ | refine p_notV ?_ | refine p_ifM ?_ | refine p_tup ?_ | refine p_lst ?_ | refine p_call ?_ | refine p_callK ?_ | refine ⟨⟨⟨rfl, rfl⟩, rfl, rfl⟩, ⟨rfl, rfl⟩, ?_⟩ | refine p_setB ?_ | refine p_sl ?_ | refine p_osome ?_ | refine p_onone ?_ | refine p_snil ?_ | refine p_sexpr ?_ | refine p_retN ?_ | refine p_par ?_ | refine p_sh ?_ | refine p_brt rfl ?_ | refine p_brf rfl ?_ | refine ⟨_, rfl, ?_⟩ | refine ⟨⟨rfl, rfl⟩, ?_⟩ | refine ⟨⟨rfl, Nat.le_of_ble_eq_true rfl⟩, ?_⟩ | refine ⟨_, _, _, _, rfl, hn, rfl, rfl, ?_⟩ | (refine ⟨_, _, rfl, ⟨rfl, rfl⟩, ?_⟩; try dsimp only [wipeE, List.set_cons_succ, List.set_cons_zero]) | (refine ⟨rfl, ?_⟩; try dsimp only [wipeE, List.set_cons_succ, List.set_cons_zero]) | refine ⟨_, fIx_cel (cellL_set hn) rfl, ?_⟩ | refine ⟨_, fMod_i (by omega), ?_⟩ | refine ⟨_, fFdv_i (by omega) (by omega), ?_⟩))
      refine ⟨_, _, rfl, (fmod_lt (by omega)).1, (fmod_lt (by omega)).2, ⟨ns, i, _, sd, t, rfl, h1, ?_, h3, h4⟩, rfl⟩
      exact Int.fdiv_nonneg (by omega) (by omega)
    · (repeat (first | refine p_var rfl ?_ | refine p_c ?_ | refine p_bin ?_ | refine p_cons ?_ | refine p_nil ?_ | refine p_seq ?_ | refine p_asg ?_ | refine p_sif ?_ | refine p_ret ?_ | refine p_bM ?_ | refine p_tM ?_ | refine p_cb ?_ | refine p_andM ?_ | refine p_orM ?_ | refine p_notM ?_ | refine p_chain ?_ | refine p_andV ?_ | refine p_orV ?_ | refine p_notV ?_ | refine p_ifM ?_ | refine p_tup ?_ | refine p_lst ?_ | refine p_call ?_ | refine p_callK ?_ | refine ⟨⟨⟨rfl, rfl⟩, rfl, rfl⟩, ⟨rfl, rfl⟩, ?_⟩ | refine p_setB ?_ | refine p_sl ?_ | refine p_osome ?_ | refine p_onone ?_ | refine p_snil ?_ | refine p_sexpr ?_ | refine p_retN ?_ | refine p_par ?_ | refine p_sh ?_ | refine p_brt rfl ?_ | refine p_brf rfl ?_ | refine ⟨_, rfl, ?_⟩ | refine ⟨⟨rfl, rfl⟩, ?_⟩ | refine ⟨⟨rfl, Nat.le_of_ble_eq_true rfl⟩, ?_⟩ | refine ⟨_, _, _, _, rfl, hn, rfl, rfl, ?_⟩ | (refine ⟨_, _, rfl, ⟨rfl, rfl⟩, ?_⟩; try dsimp only [wipeE, List.set_cons_succ, List.set_cons_zero]) | (refine ⟨rfl, ?_⟩; try dsimp only [wipeE, List.set_cons_succ, List.set_cons_zero]) | refine ⟨_, fIx_cel (cellL_set hn) rfl, ?_⟩ | refine ⟨_, fMod_i (by omega), ?_⟩ | refine ⟨_, fFdv_i (by omega) (by omega), ?_⟩ | refine ⟨_, fMul_l (by omega), ?_⟩ | refine ⟨_, fMul_r (by omega), ?_⟩))
      exact ⟨_, _, rfl, (fmod_lt (by omega)).1, (fmod_lt (by omega)).2, ⟨ns, i, c, _, _, rfl, h1, h2, (fmod_lt (by decide)).1, (fmod_lt (by decide)).2⟩, rfl⟩
end
end Lp

set_option Elab.async false
set_option linter.all false
set_option maxRecDepth 100000
set_option maxHeartbeats 4000000
/-! Lq3: choices from the bag. -/
namespace Lp
open PySem PySem.Spec PyProof.Rows L2
noncomputable def ofMb : MS := (sRet (eBin fIx (eVar 1) (eCall 2 drawM (aCons (eVar 0) (aCons (eCB bLen (aCons (eVar 1) aNil)) aNil)))))
noncomputable def ofMx : MS := (xSRet (xEBin fIx (xEVar 1) (xECall 2 drawM (xACons (xEVar 0) (xACons (xECB bLen (xACons (xEVar 1) xANil)) xANil)))))
theorem ofM_x : ofMb = ofMx := by kernel_rfl
@[irreducible] noncomputable def ofM : MF := mkF 0 ofMb
/-- the bag stands at n -/
def BagAt (h : AH) (n : Nat) (h' : AH) : Prop := ∃ l, Bag l ∧ h' = h.set n (some (.lst l))
section
theorem draw_at {h h1 : AH} {n : Nat} (hn : n < h.length) (b : BagAt h n h1) {k : Int} (hk : 1 ≤ k) (hk2 : k < 1073741824) : (drawM [.cel n, .int k] h1).post (fun v h' => (∃ d, v = .int d ∧ 0 ≤ d ∧ d < k) ∧ BagAt h n h') NE := by
  obtain ⟨l, b, rfl⟩ := b
  exact p_mono (draw_spec hn b hk hk2) (fun v h' ⟨d, l', e, h1, h2, b, e'⟩ => ⟨⟨d, e, h1, h2⟩, l', b, e'⟩) fun _ _ z => z
theorem atI_of {α : Type} {xs : List α} {d : Int} (h0 : 0 ≤ d) (h1 : d < xs.length) : ∃ x, atI xs d = some x ∧ x ∈ xs := by
  unfold atI ixN
  rw [if_pos h0, if_pos h1]
  have : d.toNat < xs.length := by omega
  exact ⟨xs[d.toNat], by show xs[d.toNat]? = _; exact List.getElem?_eq_getElem this, List.getElem_mem this⟩
theorem fIx_lst {h : AH} {xs : List PV} {i : Int} : fIx h (.lst xs) (.int i) = atI xs i := rfl
theorem fIx_tup {h : AH} {xs : List PV} {i : Int} : fIx h (.tup xs) (.int i) = atI xs i := rfl
theorem fIx_str {h : AH} {x : Str} {i : Int} : fIx h (.str x) (.int i) = (atI x.cps.toList i).map fun c => .str ⟨#[c]⟩ := rfl
theorem of_lst {h h1 : AH} {n : Nat} (hn : n < h.length) (b : BagAt h n h1) {xs : List PV} (h0 : 1 ≤ xs.length) (h2 : xs.length < 1073741824) (hs : allSh xs = true) :
    (ofM [.cel n, .lst xs] h1).post (fun v h' => v ∈ xs ∧ BagAt h n h') NE := by
  unfold ofM
  rw [ofM_x]
  unfold ofMx
  refine p_mkF [some (.cel n), some (.lst xs)] rfl ?_
  (repeat (first | refine p_var rfl ?_ | refine p_c ?_ | refine p_bin ?_ | refine p_cons ?_ | refine p_nil ?_ | refine p_seq ?_ | refine p_asg ?_ | refine p_sif ?_ | refine p_ret ?_ | refine p_bM ?_ | refine p_tM ?_ | refine p_cb ?_ | refine p_andM ?_ | refine p_orM ?_ | refine p_notM ?_ | refine p_chain ?_ | refine p_andV ?_ | refine p_orV ?_ | refine p_notV ?_ | refine p_ifM ?_ | refine p_tup ?_ | refine p_lst ?_ | refine p_call ?_ | refine p_callK ?_ | refine ⟨⟨⟨rfl, rfl⟩, rfl, rfl⟩, ⟨rfl, rfl⟩, ?_⟩ | refine p_setB ?_ | refine p_sl ?_ | refine p_osome ?_ | refine p_onone ?_ | refine p_snil ?_ | refine p_sexpr ?_ | refine p_retN ?_ | refine p_par ?_ | refine p_sh ?_ | refine p_brt rfl ?_ | refine p_brf rfl ?_ | refine ⟨_, rfl, ?_⟩ | refine ⟨⟨rfl, rfl⟩, ?_⟩ | refine ⟨⟨rfl, Nat.le_of_ble_eq_true rfl⟩, ?_⟩ | refine ⟨_, _, _, _, rfl, hn, rfl, rfl, ?_⟩ | (refine ⟨_, _, rfl, ⟨rfl, rfl⟩, ?_⟩; try dsimp only [wipeE, List.set_cons_succ, List.set_cons_zero]) | (refine ⟨rfl, ?_⟩; try dsimp only [wipeE, List.set_cons_succ, List.set_cons_zero])))
  refine p_spec (draw_at hn b (k := (xs.length : Int)) (by omega) (by omega)) fun v h' ⟨⟨d, e, d0, d1⟩, b'⟩ => ?_
  subst e
  obtain ⟨x, ex, hx⟩ := atI_of (xs := xs) d0 (by simpa using d1)
  refine ⟨x, ex, ?_, hx, b'⟩
  unfold allSh at hs
  have := List.all_eq_true.mp hs x hx
  simpa using this
theorem of_str {h h1 : AH} {n : Nat} (hn : n < h.length) (b : BagAt h n h1) {x : Str} (h0 : 1 ≤ x.length) (h2 : x.length < 1073741824) :
    (ofM [.cel n, .str x] h1).post (fun v h' => (∃ c ∈ x.cps.toList, v = .str ⟨#[c]⟩) ∧ BagAt h n h') NE := by
  unfold ofM
  rw [ofM_x]
  unfold ofMx
  refine p_mkF [some (.cel n), some (.str x)] rfl ?_
  (repeat (first | refine p_var rfl ?_ | refine p_c ?_ | refine p_bin ?_ | refine p_cons ?_ | refine p_nil ?_ | refine p_seq ?_ | refine p_asg ?_ | refine p_sif ?_ | refine p_ret ?_ | refine p_bM ?_ | refine p_tM ?_ | refine p_cb ?_ | refine p_andM ?_ | refine p_orM ?_ | refine p_notM ?_ | refine p_chain ?_ | refine p_andV ?_ | refine p_orV ?_ | refine p_notV ?_ | refine p_ifM ?_ | refine p_tup ?_ | refine p_lst ?_ | refine p_call ?_ | refine p_callK ?_ | refine ⟨⟨⟨rfl, rfl⟩, rfl, rfl⟩, ⟨rfl, rfl⟩, ?_⟩ | refine p_setB ?_ | refine p_sl ?_ | refine p_osome ?_ | refine p_onone ?_ | refine p_snil ?_ | refine p_sexpr ?_ | refine p_retN ?_ | refine p_par ?_ | refine p_sh ?_ | refine p_brt rfl ?_ | refine p_brf rfl ?_ | refine ⟨_, rfl, ?_⟩ | refine ⟨⟨rfl, rfl⟩, ?_⟩ | refine ⟨⟨rfl, Nat.le_of_ble_eq_true rfl⟩, ?_⟩ | refine ⟨_, _, _, _, rfl, hn, rfl, rfl, ?_⟩ | (refine ⟨_, _, rfl, ⟨rfl, rfl⟩, ?_⟩; try dsimp only [wipeE, List.set_cons_succ, List.set_cons_zero]) | (refine ⟨rfl, ?_⟩; try dsimp only [wipeE, List.set_cons_succ, List.set_cons_zero])))
  refine p_spec (draw_at hn b (k := (x.length : Int)) (by omega) (by omega)) fun v h' ⟨⟨d, e, d0, d1⟩, b'⟩ => ?_
  subst e
  obtain ⟨c, ec, hc⟩ := atI_of (xs := x.cps.toList) d0 (by simpa [Str.length] using d1)
  refine ⟨.str ⟨#[c]⟩, by rw [fIx_str, ec]; rfl, rfl, ⟨c, hc, rfl⟩, b'⟩
end
end Lp

set_option Elab.async false
set_option linter.all false
set_option maxRecDepth 100000
set_option maxHeartbeats 4000000
/-! Lq4: plain data. -/
namespace Lp
open PySem PySem.Spec PyProof.Rows L2
/-- plain values: None, bools, ints, texts, tuples, lists (frozen) -/
def Pl : PV → Prop
  | .non => True
  | .bl _ => True
  | .int _ => True
  | .str _ => True
  | .tup _ => True
  | .lst _ => True
  | _ => False
def tyP : PV → BT
  | .non => .non
  | .bl _ => .bl
  | .int _ => .int
  | .str _ => .str
  | .tup _ => .tup
  | _ => .lst
theorem tyN_pl {v : PV} (p : Pl v) (h : AH) : tyN h v = some (tyP v) := by cases v <;> first | rfl | exact p.elim
theorem pl_own {v : PV} (p : Pl v) : isOwn v = false := by cases v <;> first | rfl | exact p.elim
theorem isi_p {h : AH} {v : PV} {u : BT} {n : String} (p : Pl v) (e2 : BT.of n = some u) : bIsi h [v, .ty n] = some (.bl (subT (tyP v) u)) := by
  show ((tyN h v).bind fun t => (BT.of n).map fun u => PV.bl (subT t u)) = _
  rw [tyN_pl p, e2]; rfl
theorem isi_t {h : AH} {v : PV} {us : List BT} {cs : List PV} (p : Pl v) (e2 : tysOf cs = some us) : bIsi h [v, .tup cs] = some (.bl (us.any (subT (tyP v)))) := by
  show ((tyN h v).bind fun t => (tysOf cs).map fun us => PV.bl (us.any (subT t))) = _
  rw [tyN_pl p, e2]; rfl
/-- items told one by one -/
theorem take_step {α : Type} {xs : List α} {j : Nat} {x : α} (e : xs[j]? = some x) : xs.take (j + 1) = xs.take j ++ [x] := by
  obtain ⟨h, rfl⟩ := List.getElem?_eq_some_iff.mp e
  rw [List.take_succ, List.getElem?_eq_getElem h]; rfl
theorem mapM_bls (bs : List Bool) : (bs.map PV.bl).mapM blOf = some bs := by
  induction bs with
  | nil => rfl
  | cons b bs ih => rw [List.map_cons, List.mapM_cons, ih]; rfl
theorem all_bls {h : AH} (bs : List Bool) : bAll h [.lst (bs.map PV.bl)] = some (.bl (bs.all fun b => b)) := by
  show ((bs.map PV.bl).mapM blOf).map _ = _
  rw [mapM_bls]; rfl
theorem any_bls {h : AH} (bs : List Bool) : bAny h [.lst (bs.map PV.bl)] = some (.bl (bs.any fun b => b)) := by
  show ((bs.map PV.bl).mapM blOf).map _ = _
  rw [mapM_bls]; rfl
theorem all_map {h : AH} {xs : List PV} (f : PV → Bool) : bAll h [.lst (xs.map fun v => .bl (f v))] = some (.bl ((xs.map f).all fun b => b)) := by
  rw [show (xs.map fun v => PV.bl (f v)) = (xs.map f).map PV.bl by rw [List.map_map]; rfl]
  exact all_bls _
/-! a comprehension without conditions whose elements are told by a function -/
section
variable {PA : List PV → S → Prop} {E : PV → S → Prop} {s : S}
theorem p_compMap {src : S → R S Sr} {t : Tg} {te : ME} {vs : List Nat}
    (h : (src s).post (fun r s1 => r.w = [] ∧ ∃ f : PV → PV, (∀ v ∈ r.xs, ∃ e1, bindT t v (wipeE s1.e vs) = some e1 ∧ (te ⟨e1, s1.h⟩).post (fun y s3 => y = f v ∧ isOwn y = false ∧ wipeE s3.e vs = wipeE s1.e vs ∧ s3.h = s1.h) NE) ∧ PA (r.xs.map f) ⟨wipeE s1.e vs, s1.h⟩) E) :
    (xECompN src t testY te vs s).post PA E := by
  refine p_compN (p_mono h (fun r s1 ⟨hw, f, hs, hn⟩ => ⟨hw, fun j acc h => acc = (r.xs.take j).map f ∧ h = s1.h, ⟨rfl, rfl⟩, fun j v acc h e ⟨i1, i2⟩ => ?_, fun acc h ⟨i1, i2⟩ => ?_⟩) fun _ _ z => z)
  · obtain ⟨e1, eb, q⟩ := hs v (List.mem_of_getElem? e)
    subst i2
    refine ⟨e1, eb, p_ok (p_brt rfl (p_mono q (fun y s3 ⟨ey, o, w, eh⟩ => ⟨o, w, ?_, eh⟩) fun _ _ z => z))⟩
    rw [take_step e, List.map_append, i1, ey]; rfl
  · rw [i1, i2, List.take_length]; exact hn
end
end Lp

set_option Elab.async false
set_option linter.all false
set_option maxRecDepth 100000
set_option maxHeartbeats 4000000
/-! Lq5: alike. -/
namespace Lp
open PySem PySem.Spec PyProof.Rows L2
@[irreducible] def xSRng1 (m : MA) : S → R S Sr := sRng1 m
@[irreducible] def xSRng2 (m : MA) : S → R S Sr := sRng2 m
@[irreducible] def xSZip (m : MA) : S → R S Sr := sZip m
noncomputable def likeB (m : MF) : MS := (sSeq (sIf (tM (eCB bIsi (aCons (eVar 1) (aCons (eTup (aCons (eC (.ty "list")) (aCons (eC (.ty "tuple")) aNil))) aNil)))) (sSeq (sIf (orM (bM (eBin fNe (eCB bIsi (aCons (eVar 0) (aCons (eC (.ty "list")) aNil))) (eCB bIsi (aCons (eVar 1) (aCons (eC (.ty "list")) aNil))))) (bM (eBin fNe (eCB bIsi (aCons (eVar 0) (aCons (eC (.ty "tuple")) aNil))) (eCB bIsi (aCons (eVar 1) (aCons (eC (.ty "tuple")) aNil)))))) (sRet (eC (.bl false))) sNil)
  (sRet (andV (eBin fEq (eCB bLen (aCons (eVar 0) aNil)) (eCB bLen (aCons (eVar 1) aNil))) (eCB bAll (aCons (shN (eCompN (sZip (aCons (eVar 0) (aCons (eVar 1) aNil))) (.t [(.n 2), (.n 3)]) testY (eCall 2 m (aCons (eVar 2) (aCons (eVar 3) aNil))) [2, 3])) aNil))))) sNil)
  (sSeq (sIf (orM (bM (eBin fIsN (eVar 1) (eC .non))) (bM (eBin fIsN (eVar 0) (eC .non)))) (sRet (andV (eBin fIsN (eVar 1) (eC .non)) (eBin fIsN (eVar 0) (eC .non)))) sNil)
  (sSeq (sIf (orM (bM (eBin fNe (eCB bIsi (aCons (eVar 0) (aCons (eC (.ty "bool")) aNil))) (eCB bIsi (aCons (eVar 1) (aCons (eC (.ty "bool")) aNil))))) (bM (eBin fNe (eCB bIsi (aCons (eVar 0) (aCons (eC (.ty "int")) aNil))) (eCB bIsi (aCons (eVar 1) (aCons (eC (.ty "int")) aNil)))))) (sRet (eC (.bl false))) sNil)
  (sRet (andV (eBin fEq (eCB bIsi (aCons (eVar 0) (aCons (eC (.ty "str")) aNil))) (eCB bIsi (aCons (eVar 1) (aCons (eC (.ty "str")) aNil)))) (eBin fEq (eVar 0) (eVar 1)))))))
noncomputable def likeX (m : MF) : MS := (xSSeq (xSIf (xTM (xECB bIsi (xACons (xEVar 1) (xACons (xETup (xACons (xEC (.ty "list")) (xACons (xEC (.ty "tuple")) xANil))) xANil)))) (xSSeq (xSIf (xOrM (xBM (xEBin fNe (xECB bIsi (xACons (xEVar 0) (xACons (xEC (.ty "list")) xANil))) (xECB bIsi (xACons (xEVar 1) (xACons (xEC (.ty "list")) xANil))))) (xBM (xEBin fNe (xECB bIsi (xACons (xEVar 0) (xACons (xEC (.ty "tuple")) xANil))) (xECB bIsi (xACons (xEVar 1) (xACons (xEC (.ty "tuple")) xANil)))))) (xSRet (xEC (.bl false))) xSNil)
  (xSRet (xAndV (xEBin fEq (xECB bLen (xACons (xEVar 0) xANil)) (xECB bLen (xACons (xEVar 1) xANil))) (xECB bAll (xACons (xShN (xECompN (xSZip (xACons (xEVar 0) (xACons (xEVar 1) xANil))) (.t [(.n 2), (.n 3)]) testY (xECall 2 m (xACons (xEVar 2) (xACons (xEVar 3) xANil))) [2, 3])) xANil))))) xSNil)
  (xSSeq (xSIf (xOrM (xBM (xEBin fIsN (xEVar 1) (xEC .non))) (xBM (xEBin fIsN (xEVar 0) (xEC .non)))) (xSRet (xAndV (xEBin fIsN (xEVar 1) (xEC .non)) (xEBin fIsN (xEVar 0) (xEC .non)))) xSNil)
  (xSSeq (xSIf (xOrM (xBM (xEBin fNe (xECB bIsi (xACons (xEVar 0) (xACons (xEC (.ty "bool")) xANil))) (xECB bIsi (xACons (xEVar 1) (xACons (xEC (.ty "bool")) xANil))))) (xBM (xEBin fNe (xECB bIsi (xACons (xEVar 0) (xACons (xEC (.ty "int")) xANil))) (xECB bIsi (xACons (xEVar 1) (xACons (xEC (.ty "int")) xANil)))))) (xSRet (xEC (.bl false))) xSNil)
  (xSRet (xAndV (xEBin fEq (xECB bIsi (xACons (xEVar 0) (xACons (xEC (.ty "str")) xANil))) (xECB bIsi (xACons (xEVar 1) (xACons (xEC (.ty "str")) xANil)))) (xEBin fEq (xEVar 0) (xEVar 1)))))))
theorem likeB_x (m : MF) : likeB m = likeX m := by kernel_rfl
noncomputable def likeM0 : Nat → MF
  | 0 => fun _ _ => .bad
  | n + 1 => mkF 2 (likeB (likeM0 n))
@[irreducible] noncomputable def likeM (n : Nat) : MF := likeM0 n
/-- plain through and through, nested at most so deep -/
def DPl : Nat → PV → Prop
  | _, .non => True
  | _, .bl _ => True
  | _, .int _ => True
  | _, .str _ => True
  | n + 1, .tup xs => ∀ x ∈ xs, DPl n x
  | n + 1, .lst xs => ∀ x ∈ xs, DPl n x
  | _, _ => False
def plB : PV → Bool
  | .non => true
  | .bl _ => true
  | .int _ => true
  | .str _ => true
  | .tup _ => true
  | .lst _ => true
  | _ => false
theorem pl_of {v : PV} (h : plB v = true) : Pl v := by cases v <;> first | trivial | cases h
theorem pl_all {xs : List PV} (h : xs.all plB = true) : ∀ v ∈ xs, Pl v := fun v hv => pl_of (List.all_eq_true.mp h v hv)
def dplB : Nat → PV → Bool
  | _, .non => true
  | _, .bl _ => true
  | _, .int _ => true
  | _, .str _ => true
  | n + 1, .tup xs => xs.all (dplB n)
  | n + 1, .lst xs => xs.all (dplB n)
  | _, _ => false
theorem dpl_of : ∀ {n : Nat} {v : PV}, dplB n v = true → DPl n v
  | 0, v, h => by cases v <;> first | trivial | cases h
  | n + 1, v, h => by
    cases v with
    | tup xs => exact fun x hx => dpl_of (List.all_eq_true.mp h x hx)
    | lst xs => exact fun x hx => dpl_of (List.all_eq_true.mp h x hx)
    | _ => first | trivial | cases h
theorem DPl.pl : ∀ {n : Nat} {v : PV}, DPl n v → Pl v := fun {n v} h => by
  cases n <;> cases v <;> first | trivial | exact h.elim
theorem eqv_refl_int (i : Int) : PyData.eqv (.int i) (.int i) = true := by rw [eqv_int]; simp
theorem eqv_str (x y : Str) : PyData.eqv (.str x) (.str y) = decide (x = y) := by
  first | rfl | (simp [PyData.eqv]; done) | (show (x == y) = _; rfl)
theorem eqv_bool (x y : Bool) : PyData.eqv (.bool x) (.bool y) = decide (x = y) := by
  cases x <;> cases y <;> rfl
section
variable {P : PV → S → Prop} {PS : Sr → S → Prop} {E : PV → S → Prop} {s : S} {ma : MA}
theorem p_zip (h : (ma s).post (fun vs s1 => (∃ xs ys, vs = [.tup xs, .tup ys] ∧ PS ⟨zipP xs ys, [], false⟩ s1) ∨ ∃ xs ys, vs = [.lst xs, .lst ys] ∧ PS ⟨zipP xs ys, [], false⟩ s1) E) : (xSZip ma s).post PS E := by
  unfold xSZip
  exact p_bind (p_mono h (fun vs s1 q => by
    rcases q with ⟨xs, ys, rfl, q⟩ | ⟨xs, ys, rfl, q⟩
    · exact q
    · exact q) fun _ _ z => z)
theorem p_rng1 (h : (ma s).post (fun vs s1 => ∃ j, vs = [.int j] ∧ j.natAbs ≤ 16777216 ∧ PS ⟨(List.range j.toNat).map fun (k : Nat) => .int k, [], false⟩ s1) E) : (xSRng1 ma s).post PS E := by
  unfold xSRng1
  exact p_bind (p_mono h (fun vs s1 ⟨j, e, hj, q⟩ => by subst e; simp only [if_pos hj]; exact q) fun _ _ z => z)
theorem p_rng2 (h : (ma s).post (fun vs s1 => ∃ i j, vs = [.int i, .int j] ∧ (i.natAbs < 4611686018427387904 ∧ j.natAbs < 4611686018427387904 ∧ j - i ≤ 16777216) ∧ PS ⟨(List.range (j - i).toNat).map fun (k : Nat) => .int (i + k), [], false⟩ s1) E) : (xSRng2 ma s).post PS E := by
  unfold xSRng2
  exact p_bind (p_mono h (fun vs s1 ⟨i, j, e, hj, q⟩ => by subst e; simp only [if_pos hj]; exact q) fun _ _ z => z)
theorem p_loopS {x : MS} {PF : Fl → S → Prop} {xs : List PV} {i : Nat} {o : Bool} (hi : i < s.e.length) (hs : ∀ v ∈ xs, isOwn v = false ∧ (x ⟨s.e.set i (some v), s.h⟩).post (fun fl s' => fl = .nx ∧ s' = ⟨s.e.set i (some v), s.h⟩) E) (hn : ∀ z, PF .nx ⟨s.e.set i z, s.h⟩) : (loopF ⟨xs, [], o⟩ (.n i) x xs s).post PF E := by
  refine p_loop (fun _ s' => ∃ z, s' = ⟨s.e.set i z, s.h⟩) ⟨s.e[i], by rw [List.set_getElem_self]⟩ (fun j v s' e ⟨z, es⟩ => ?_) fun s' ⟨z, es⟩ => ?_
  · obtain ⟨h1, h2⟩ := hs v (List.mem_of_getElem? e)
    subst es
    refine ⟨s.e.set i (some v), by show (if isOwn v = true then none else some ((s.e.set i z).set i (some v))) = _; rw [h1, List.set_set]; rfl, ?_⟩
    refine p_mono h2 (fun fl s'' ⟨q1, q2⟩ => ?_) fun _ _ z => z
    subst q1
    exact ⟨_, q2⟩
  · subst es
    exact hn z
theorem zip_self {xs : List PV} {v : PV} (h : v ∈ zipP xs xs) : ∃ x ∈ xs, v = .tup [x, x] := by
  unfold zipP at h
  induction xs with
  | nil => cases h
  | cons y ys ih =>
    rw [List.zipWith_cons_cons] at h
    rcases List.mem_cons.mp h with h | h
    · exact ⟨y, by simp, h⟩
    · obtain ⟨x, hx, e⟩ := ih h
      exact ⟨x, List.mem_cons_of_mem _ hx, e⟩
end
section
theorem all_true {h : AH} (xs : List PV) : bAll h [.lst (xs.map fun _ => PV.bl true)] = some (.bl true) := by
  rw [all_map fun _ => true]
  congr 2
  rw [List.all_eq_true]
  intro x hx
  obtain ⟨_, _, rfl⟩ := List.mem_map.mp hx
  rfl
theorem like_sc {m : MF} {v : PV} {h : AH} (d : DPl 0 v) : (mkF 2 (likeB m) [v, v] h).post (fun r h' => r = .bl true ∧ h' = h) NE := by
  rw [likeB_x]
  unfold likeX
  refine p_mkF [some v, some v, none, none] rfl ?_
  cases v with
  | non => (repeat (first | refine p_var rfl ?_ | refine p_c ?_ | refine p_bin ?_ | refine p_cons ?_ | refine p_nil ?_ | refine p_seq ?_ | refine p_asg ?_ | refine p_sif ?_ | refine p_ret ?_ | refine p_bM ?_ | refine p_tM ?_ | refine p_cb ?_ | refine p_andM ?_ | refine p_orM ?_ | refine p_notM ?_ | refine p_chain ?_ | refine p_andV ?_ | refine p_orV ?_ | refine p_notV ?_ | refine p_ifM ?_ | refine p_tup ?_ | refine p_lst ?_ | refine p_call ?_ | refine p_callK ?_ | refine ⟨⟨⟨rfl, rfl⟩, rfl, rfl⟩, ⟨rfl, rfl⟩, ?_⟩ | refine p_setB ?_ | refine p_sl ?_ | refine p_osome ?_ | refine p_onone ?_ | refine p_snil ?_ | refine p_sexpr ?_ | refine p_retN ?_ | refine p_par ?_ | refine p_sh ?_ | refine p_brt rfl ?_ | refine p_brf rfl ?_ | refine ⟨_, rfl, ?_⟩ | refine ⟨⟨rfl, rfl⟩, ?_⟩ | refine ⟨⟨rfl, Nat.le_of_ble_eq_true rfl⟩, ?_⟩ | refine ⟨_, _, _, _, rfl, hn, rfl, rfl, ?_⟩ | (refine ⟨_, _, rfl, ⟨rfl, rfl⟩, ?_⟩; try dsimp only [wipeE, List.set_cons_succ, List.set_cons_zero]) | (refine ⟨rfl, ?_⟩; try dsimp only [wipeE, List.set_cons_succ, List.set_cons_zero])))
  | bl b =>
    (repeat (first | refine p_var rfl ?_ | refine p_c ?_ | refine p_bin ?_ | refine p_cons ?_ | refine p_nil ?_ | refine p_seq ?_ | refine p_asg ?_ | refine p_sif ?_ | refine p_ret ?_ | refine p_bM ?_ | refine p_tM ?_ | refine p_cb ?_ | refine p_andM ?_ | refine p_orM ?_ | refine p_notM ?_ | refine p_chain ?_ | refine p_andV ?_ | refine p_orV ?_ | refine p_notV ?_ | refine p_ifM ?_ | refine p_tup ?_ | refine p_lst ?_ | refine p_call ?_ | refine p_callK ?_ | refine ⟨⟨⟨rfl, rfl⟩, rfl, rfl⟩, ⟨rfl, rfl⟩, ?_⟩ | refine p_setB ?_ | refine p_sl ?_ | refine p_osome ?_ | refine p_onone ?_ | refine p_snil ?_ | refine p_sexpr ?_ | refine p_retN ?_ | refine p_par ?_ | refine p_sh ?_ | refine p_brt rfl ?_ | refine p_brf rfl ?_ | refine ⟨_, rfl, ?_⟩ | refine ⟨⟨rfl, rfl⟩, ?_⟩ | refine ⟨⟨rfl, Nat.le_of_ble_eq_true rfl⟩, ?_⟩ | refine ⟨_, _, _, _, rfl, hn, rfl, rfl, ?_⟩ | (refine ⟨_, _, rfl, ⟨rfl, rfl⟩, ?_⟩; try dsimp only [wipeE, List.set_cons_succ, List.set_cons_zero]) | (refine ⟨rfl, ?_⟩; try dsimp only [wipeE, List.set_cons_succ, List.set_cons_zero])))
    exact ⟨by rw [eqv_bool, decide_eq_true rfl], rfl⟩
  | int i =>
    (repeat (first | refine p_var rfl ?_ | refine p_c ?_ | refine p_bin ?_ | refine p_cons ?_ | refine p_nil ?_ | refine p_seq ?_ | refine p_asg ?_ | refine p_sif ?_ | refine p_ret ?_ | refine p_bM ?_ | refine p_tM ?_ | refine p_cb ?_ | refine p_andM ?_ | refine p_orM ?_ | refine p_notM ?_ | refine p_chain ?_ | refine p_andV ?_ | refine p_orV ?_ | refine p_notV ?_ | refine p_ifM ?_ | refine p_tup ?_ | refine p_lst ?_ | refine p_call ?_ | refine p_callK ?_ | refine ⟨⟨⟨rfl, rfl⟩, rfl, rfl⟩, ⟨rfl, rfl⟩, ?_⟩ | refine p_setB ?_ | refine p_sl ?_ | refine p_osome ?_ | refine p_onone ?_ | refine p_snil ?_ | refine p_sexpr ?_ | refine p_retN ?_ | refine p_par ?_ | refine p_sh ?_ | refine p_brt rfl ?_ | refine p_brf rfl ?_ | refine ⟨_, rfl, ?_⟩ | refine ⟨⟨rfl, rfl⟩, ?_⟩ | refine ⟨⟨rfl, Nat.le_of_ble_eq_true rfl⟩, ?_⟩ | refine ⟨_, _, _, _, rfl, hn, rfl, rfl, ?_⟩ | (refine ⟨_, _, rfl, ⟨rfl, rfl⟩, ?_⟩; try dsimp only [wipeE, List.set_cons_succ, List.set_cons_zero]) | (refine ⟨rfl, ?_⟩; try dsimp only [wipeE, List.set_cons_succ, List.set_cons_zero])))
    exact ⟨by rw [eqv_int, decide_eq_true rfl], rfl⟩
  | str x =>
    (repeat (first | refine p_var rfl ?_ | refine p_c ?_ | refine p_bin ?_ | refine p_cons ?_ | refine p_nil ?_ | refine p_seq ?_ | refine p_asg ?_ | refine p_sif ?_ | refine p_ret ?_ | refine p_bM ?_ | refine p_tM ?_ | refine p_cb ?_ | refine p_andM ?_ | refine p_orM ?_ | refine p_notM ?_ | refine p_chain ?_ | refine p_andV ?_ | refine p_orV ?_ | refine p_notV ?_ | refine p_ifM ?_ | refine p_tup ?_ | refine p_lst ?_ | refine p_call ?_ | refine p_callK ?_ | refine ⟨⟨⟨rfl, rfl⟩, rfl, rfl⟩, ⟨rfl, rfl⟩, ?_⟩ | refine p_setB ?_ | refine p_sl ?_ | refine p_osome ?_ | refine p_onone ?_ | refine p_snil ?_ | refine p_sexpr ?_ | refine p_retN ?_ | refine p_par ?_ | refine p_sh ?_ | refine p_brt rfl ?_ | refine p_brf rfl ?_ | refine ⟨_, rfl, ?_⟩ | refine ⟨⟨rfl, rfl⟩, ?_⟩ | refine ⟨⟨rfl, Nat.le_of_ble_eq_true rfl⟩, ?_⟩ | refine ⟨_, _, _, _, rfl, hn, rfl, rfl, ?_⟩ | (refine ⟨_, _, rfl, ⟨rfl, rfl⟩, ?_⟩; try dsimp only [wipeE, List.set_cons_succ, List.set_cons_zero]) | (refine ⟨rfl, ?_⟩; try dsimp only [wipeE, List.set_cons_succ, List.set_cons_zero])))
    exact ⟨by rw [eqv_str, decide_eq_true rfl], rfl⟩
  | _ => exact d.elim
theorem like_sq {m : MF} {v : PV} {xs : List PV} {h : AH} (hv : v = .tup xs ∨ v = .lst xs) (hp : ∀ x ∈ xs, Pl x) (ih : ∀ x ∈ xs, (m [x, x] h).post (fun r h' => r = .bl true ∧ h' = h) NE) :
    (mkF 2 (likeB m) [v, v] h).post (fun r h' => r = .bl true ∧ h' = h) NE := by
  have item : ∀ (w : PV), w ∈ zipP xs xs → ∀ (u : PV), Pl u → ∃ e1, bindT (.t [(.n 2), (.n 3)]) w (wipeE [some u, some u, none, none] [2, 3]) = some e1 ∧
      (xECall 2 m (xACons (xEVar 2) (xACons (xEVar 3) xANil)) ⟨e1, h⟩).post (fun y s3 => y = (fun _ => PV.bl true) w ∧ isOwn y = false ∧ wipeE s3.e [2, 3] = wipeE [some u, some u, none, none] [2, 3] ∧ s3.h = h) NE := fun w hw u pu => by
    obtain ⟨x, hx, rfl⟩ := zip_self hw
    have ox : isOwn x = false := pl_own (hp x hx)
    refine ⟨[some u, some u, some x, some x], by simp [bindT, bindTs, wipeE, ox], ?_⟩
    (repeat (first | refine p_var rfl ?_ | refine p_c ?_ | refine p_bin ?_ | refine p_cons ?_ | refine p_nil ?_ | refine p_seq ?_ | refine p_asg ?_ | refine p_sif ?_ | refine p_ret ?_ | refine p_bM ?_ | refine p_tM ?_ | refine p_cb ?_ | refine p_andM ?_ | refine p_orM ?_ | refine p_notM ?_ | refine p_chain ?_ | refine p_andV ?_ | refine p_orV ?_ | refine p_notV ?_ | refine p_ifM ?_ | refine p_tup ?_ | refine p_lst ?_ | refine p_call ?_ | refine p_callK ?_ | refine ⟨⟨⟨rfl, rfl⟩, rfl, rfl⟩, ⟨rfl, rfl⟩, ?_⟩ | refine p_setB ?_ | refine p_sl ?_ | refine p_osome ?_ | refine p_onone ?_ | refine p_snil ?_ | refine p_sexpr ?_ | refine p_retN ?_ | refine p_par ?_ | refine p_sh ?_ | refine p_brt rfl ?_ | refine p_brf rfl ?_ | refine ⟨_, rfl, ?_⟩ | refine ⟨⟨rfl, rfl⟩, ?_⟩ | refine ⟨⟨rfl, Nat.le_of_ble_eq_true rfl⟩, ?_⟩ | refine ⟨_, _, _, _, rfl, hn, rfl, rfl, ?_⟩ | (refine ⟨_, _, rfl, ⟨rfl, rfl⟩, ?_⟩; try dsimp only [wipeE, List.set_cons_succ, List.set_cons_zero]) | (refine ⟨rfl, ?_⟩; try dsimp only [wipeE, List.set_cons_succ, List.set_cons_zero]) | refine ⟨⟨rfl, by simp [allSh, ox]⟩, p_spec (ih x hx) fun r h' z => ?_⟩))
    obtain ⟨rfl, rfl⟩ := z
    exact ⟨rfl, rfl, rfl, rfl⟩
  rw [likeB_x]
  unfold likeX
  refine p_mkF [some v, some v, none, none] rfl ?_
  rcases hv with rfl | rfl
  · (repeat (first | refine p_var rfl ?_ | refine p_c ?_ | refine p_bin ?_ | refine p_cons ?_ | refine p_nil ?_ | refine p_seq ?_ | refine p_asg ?_ | refine p_sif ?_ | refine p_ret ?_ | refine p_bM ?_ | refine p_tM ?_ | refine p_cb ?_ | refine p_andM ?_ | refine p_orM ?_ | refine p_notM ?_ | refine p_chain ?_ | refine p_andV ?_ | refine p_orV ?_ | refine p_notV ?_ | refine p_ifM ?_ | refine p_tup ?_ | refine p_lst ?_ | refine p_call ?_ | refine p_callK ?_ | refine ⟨⟨⟨rfl, rfl⟩, rfl, rfl⟩, ⟨rfl, rfl⟩, ?_⟩ | refine p_setB ?_ | refine p_sl ?_ | refine p_osome ?_ | refine p_onone ?_ | refine p_snil ?_ | refine p_sexpr ?_ | refine p_retN ?_ | refine p_par ?_ | refine p_sh ?_ | refine p_brt rfl ?_ | refine p_brf rfl ?_ | refine ⟨_, rfl, ?_⟩ | refine ⟨⟨rfl, rfl⟩, ?_⟩ | refine ⟨⟨rfl, Nat.le_of_ble_eq_true rfl⟩, ?_⟩ | refine ⟨_, _, _, _, rfl, hn, rfl, rfl, ?_⟩ | (refine ⟨_, _, rfl, ⟨rfl, rfl⟩, ?_⟩; try dsimp only [wipeE, List.set_cons_succ, List.set_cons_zero]) | (refine ⟨rfl, ?_⟩; try dsimp only [wipeE, List.set_cons_succ, List.set_cons_zero])))
    refine p_brt (by show PyData.eqv (.int _) (.int _) = true; rw [eqv_int, decide_eq_true rfl]) ?_
    (repeat (first | refine p_var rfl ?_ | refine p_c ?_ | refine p_bin ?_ | refine p_cons ?_ | refine p_nil ?_ | refine p_seq ?_ | refine p_asg ?_ | refine p_sif ?_ | refine p_ret ?_ | refine p_bM ?_ | refine p_tM ?_ | refine p_cb ?_ | refine p_andM ?_ | refine p_orM ?_ | refine p_notM ?_ | refine p_chain ?_ | refine p_andV ?_ | refine p_orV ?_ | refine p_notV ?_ | refine p_ifM ?_ | refine p_tup ?_ | refine p_lst ?_ | refine p_call ?_ | refine p_callK ?_ | refine ⟨⟨⟨rfl, rfl⟩, rfl, rfl⟩, ⟨rfl, rfl⟩, ?_⟩ | refine p_setB ?_ | refine p_sl ?_ | refine p_osome ?_ | refine p_onone ?_ | refine p_snil ?_ | refine p_sexpr ?_ | refine p_retN ?_ | refine p_par ?_ | refine p_sh ?_ | refine p_brt rfl ?_ | refine p_brf rfl ?_ | refine ⟨_, rfl, ?_⟩ | refine ⟨⟨rfl, rfl⟩, ?_⟩ | refine ⟨⟨rfl, Nat.le_of_ble_eq_true rfl⟩, ?_⟩ | refine ⟨_, _, _, _, rfl, hn, rfl, rfl, ?_⟩ | (refine ⟨_, _, rfl, ⟨rfl, rfl⟩, ?_⟩; try dsimp only [wipeE, List.set_cons_succ, List.set_cons_zero]) | (refine ⟨rfl, ?_⟩; try dsimp only [wipeE, List.set_cons_succ, List.set_cons_zero])))
    refine p_compMap (p_zip (p_cons (p_var rfl (p_cons (p_var rfl (p_nil (.inl ⟨xs, xs, rfl, rfl, fun _ => .bl true, fun w hw => item w hw _ trivial, ?_⟩)))))))
    (repeat (first | refine p_var rfl ?_ | refine p_c ?_ | refine p_bin ?_ | refine p_cons ?_ | refine p_nil ?_ | refine p_seq ?_ | refine p_asg ?_ | refine p_sif ?_ | refine p_ret ?_ | refine p_bM ?_ | refine p_tM ?_ | refine p_cb ?_ | refine p_andM ?_ | refine p_orM ?_ | refine p_notM ?_ | refine p_chain ?_ | refine p_andV ?_ | refine p_orV ?_ | refine p_notV ?_ | refine p_ifM ?_ | refine p_tup ?_ | refine p_lst ?_ | refine p_call ?_ | refine p_callK ?_ | refine ⟨⟨⟨rfl, rfl⟩, rfl, rfl⟩, ⟨rfl, rfl⟩, ?_⟩ | refine p_setB ?_ | refine p_sl ?_ | refine p_osome ?_ | refine p_onone ?_ | refine p_snil ?_ | refine p_sexpr ?_ | refine p_retN ?_ | refine p_par ?_ | refine p_sh ?_ | refine p_brt rfl ?_ | refine p_brf rfl ?_ | refine ⟨_, rfl, ?_⟩ | refine ⟨⟨rfl, rfl⟩, ?_⟩ | refine ⟨⟨rfl, Nat.le_of_ble_eq_true rfl⟩, ?_⟩ | refine ⟨_, _, _, _, rfl, hn, rfl, rfl, ?_⟩ | (refine ⟨_, _, rfl, ⟨rfl, rfl⟩, ?_⟩; try dsimp only [wipeE, List.set_cons_succ, List.set_cons_zero]) | (refine ⟨rfl, ?_⟩; try dsimp only [wipeE, List.set_cons_succ, List.set_cons_zero]) | refine ⟨_, all_true _, ?_⟩))
  · (repeat (first | refine p_var rfl ?_ | refine p_c ?_ | refine p_bin ?_ | refine p_cons ?_ | refine p_nil ?_ | refine p_seq ?_ | refine p_asg ?_ | refine p_sif ?_ | refine p_ret ?_ | refine p_bM ?_ | refine p_tM ?_ | refine p_cb ?_ | refine p_andM ?_ | refine p_orM ?_ | refine p_notM ?_ | refine p_chain ?_ | refine p_andV ?_ | refine p_orV ?_ | refine p_notV ?_ | refine p_ifM ?_ | refine p_tup ?_ | refine p_lst ?_ | refine p_call ?_ | refine p_callK ?_ | refine ⟨⟨⟨rfl, rfl⟩, rfl, rfl⟩, ⟨rfl, rfl⟩, ?_⟩ | refine p_setB ?_ | refine p_sl ?_ | refine p_osome ?_ | refine p_onone ?_ | refine p_snil ?_ | refine p_sexpr ?_ | refine p_retN ?_ | refine p_par ?_ | refine p_sh ?_ | refine p_brt rfl ?_ | refine p_brf rfl ?_ | refine ⟨_, rfl, ?_⟩ | refine ⟨⟨rfl, rfl⟩, ?_⟩ | refine ⟨⟨rfl, Nat.le_of_ble_eq_true rfl⟩, ?_⟩ | refine ⟨_, _, _, _, rfl, hn, rfl, rfl, ?_⟩ | (refine ⟨_, _, rfl, ⟨rfl, rfl⟩, ?_⟩; try dsimp only [wipeE, List.set_cons_succ, List.set_cons_zero]) | (refine ⟨rfl, ?_⟩; try dsimp only [wipeE, List.set_cons_succ, List.set_cons_zero])))
    refine p_brt (by show PyData.eqv (.int _) (.int _) = true; rw [eqv_int, decide_eq_true rfl]) ?_
    (repeat (first | refine p_var rfl ?_ | refine p_c ?_ | refine p_bin ?_ | refine p_cons ?_ | refine p_nil ?_ | refine p_seq ?_ | refine p_asg ?_ | refine p_sif ?_ | refine p_ret ?_ | refine p_bM ?_ | refine p_tM ?_ | refine p_cb ?_ | refine p_andM ?_ | refine p_orM ?_ | refine p_notM ?_ | refine p_chain ?_ | refine p_andV ?_ | refine p_orV ?_ | refine p_notV ?_ | refine p_ifM ?_ | refine p_tup ?_ | refine p_lst ?_ | refine p_call ?_ | refine p_callK ?_ | refine ⟨⟨⟨rfl, rfl⟩, rfl, rfl⟩, ⟨rfl, rfl⟩, ?_⟩ | refine p_setB ?_ | refine p_sl ?_ | refine p_osome ?_ | refine p_onone ?_ | refine p_snil ?_ | refine p_sexpr ?_ | refine p_retN ?_ | refine p_par ?_ | refine p_sh ?_ | refine p_brt rfl ?_ | refine p_brf rfl ?_ | refine ⟨_, rfl, ?_⟩ | refine ⟨⟨rfl, rfl⟩, ?_⟩ | refine ⟨⟨rfl, Nat.le_of_ble_eq_true rfl⟩, ?_⟩ | refine ⟨_, _, _, _, rfl, hn, rfl, rfl, ?_⟩ | (refine ⟨_, _, rfl, ⟨rfl, rfl⟩, ?_⟩; try dsimp only [wipeE, List.set_cons_succ, List.set_cons_zero]) | (refine ⟨rfl, ?_⟩; try dsimp only [wipeE, List.set_cons_succ, List.set_cons_zero])))
    refine p_compMap (p_zip (p_cons (p_var rfl (p_cons (p_var rfl (p_nil (.inr ⟨xs, xs, rfl, rfl, fun _ => .bl true, fun w hw => item w hw _ trivial, ?_⟩)))))))
    (repeat (first | refine p_var rfl ?_ | refine p_c ?_ | refine p_bin ?_ | refine p_cons ?_ | refine p_nil ?_ | refine p_seq ?_ | refine p_asg ?_ | refine p_sif ?_ | refine p_ret ?_ | refine p_bM ?_ | refine p_tM ?_ | refine p_cb ?_ | refine p_andM ?_ | refine p_orM ?_ | refine p_notM ?_ | refine p_chain ?_ | refine p_andV ?_ | refine p_orV ?_ | refine p_notV ?_ | refine p_ifM ?_ | refine p_tup ?_ | refine p_lst ?_ | refine p_call ?_ | refine p_callK ?_ | refine ⟨⟨⟨rfl, rfl⟩, rfl, rfl⟩, ⟨rfl, rfl⟩, ?_⟩ | refine p_setB ?_ | refine p_sl ?_ | refine p_osome ?_ | refine p_onone ?_ | refine p_snil ?_ | refine p_sexpr ?_ | refine p_retN ?_ | refine p_par ?_ | refine p_sh ?_ | refine p_brt rfl ?_ | refine p_brf rfl ?_ | refine ⟨_, rfl, ?_⟩ | refine ⟨⟨rfl, rfl⟩, ?_⟩ | refine ⟨⟨rfl, Nat.le_of_ble_eq_true rfl⟩, ?_⟩ | refine ⟨_, _, _, _, rfl, hn, rfl, rfl, ?_⟩ | (refine ⟨_, _, rfl, ⟨rfl, rfl⟩, ?_⟩; try dsimp only [wipeE, List.set_cons_succ, List.set_cons_zero]) | (refine ⟨rfl, ?_⟩; try dsimp only [wipeE, List.set_cons_succ, List.set_cons_zero]) | refine ⟨_, all_true _, ?_⟩))
theorem like_refl0 : ∀ (n : Nat) {v : PV} {h : AH}, DPl n v → (likeM0 (n + 1) [v, v] h).post (fun r h' => r = .bl true ∧ h' = h) NE
  | 0, v, h, d => like_sc d
  | n + 1, v, h, d => by
    cases v with
    | tup xs => exact like_sq (.inl rfl) (fun x hx => DPl.pl (d x hx)) fun x hx => like_refl0 n (d x hx)
    | lst xs => exact like_sq (.inr rfl) (fun x hx => DPl.pl (d x hx)) fun x hx => like_refl0 n (d x hx)
    | non => exact like_sc trivial
    | bl b => exact like_sc trivial
    | int i => exact like_sc trivial
    | str x => exact like_sc trivial
    | _ => exact d.elim
theorem like_refl {n : Nat} {v : PV} {h : AH} (d : DPl n v) : (likeM (n + 1) [v, v] h).post (fun r h' => r = .bl true ∧ h' = h) NE := by
  unfold likeM
  exact like_refl0 n d
theorem like_eqv {n : Nat} {a b : PV} {h : AH} (e : a = b) (d : DPl n b) : (likeM (n + 1) [a, b] h).post (fun r h' => r = .bl true ∧ h' = h) NE := by
  subst e; exact like_refl d
end
end Lp

set_option Elab.async false
set_option linter.all false
set_option maxRecDepth 100000
set_option maxHeartbeats 4000000
/-! Lq6: texts by their signs; cuts. -/
namespace Lp
open PySem PySem.Spec PyProof.Rows L2
def mkS (cs : List Nat) : Str := ⟨cs.toArray⟩
theorem mkS_cps (cs : List Nat) : (mkS cs).cps.toList = cs := rfl
theorem mkS_len (cs : List Nat) : (mkS cs).length = cs.length := by show cs.toArray.size = _; simp
theorem mkS_eta (x : Str) : x = mkS x.cps.toList := rfl
theorem mkS_app (a b : List Nat) : mkS a ++ mkS b = mkS (a ++ b) := by
  show (⟨a.toArray ++ b.toArray⟩ : Str) = ⟨(a ++ b).toArray⟩
  rw [List.append_toArray]
theorem mkS_one (c : Nat) : (⟨#[c]⟩ : Str) = mkS [c] := rfl
theorem len_eq (x : Str) : x.length = x.cps.toList.length := by show x.cps.size = _; simp
theorem fAdd_mk {h : AH} {a b : List Nat} (z : a.length + b.length ≤ sizeLine) : fAdd h (.str (mkS a)) (.str (mkS b)) = some (.str (mkS (a ++ b))) := by
  show (if (mkS a).length + (mkS b).length ≤ sizeLine then some (PV.str (mkS a ++ mkS b)) else none) = _
  rw [mkS_len, mkS_len, if_pos z, mkS_app]
theorem strs_ones (cs : List Nat) : strsOf (cs.map fun c => PV.str (mkS [c])) = some (cs.map fun c => mkS [c]) := by
  unfold strsOf
  induction cs with
  | nil => rfl
  | cons c cs ih => rw [List.map_cons, List.mapM_cons, ih]; rfl
theorem join_ones : ∀ cs : List Nat, Txt.join (mkS []) (cs.map fun c => mkS [c]) = mkS cs := fun cs => by
  rw [TL.join_eq]
  induction cs with
  | nil => rfl
  | cons c cs ih =>
    cases cs with
    | nil => rfl
    | cons d ds =>
      show mkS [c] ++ mkS [] ++ Str.join (mkS []) ((d :: ds).map fun c => mkS [c]) = _
      rw [ih, mkS_app, mkS_app]; rfl
theorem sok_mk {cs : List Nat} (h : ∀ c ∈ cs, c < 1114112) : PyData.strOk (mkS cs) = true := by
  show (cs.toArray.all fun c => decide (c < 0x110000)) = true
  rw [List.all_toArray]
  rw [List.all_eq_true]
  exact fun c hc => decide_eq_true (h c hc)
theorem mJoin_ones {h : AH} {cs : List Nat} (z : cs.length ≤ 16777216) (hc : ∀ c ∈ cs, c < 1114112) : mJoin h (mkS []) [.lst (cs.map fun c => .str (mkS [c]))] = some (.str (mkS cs)) := by
  show (strsOf (cs.map fun c => PV.str (mkS [c]))).bind _ = _
  rw [strs_ones]
  show (if _ then _ else _) = _
  rw [join_ones]
  rw [if_pos]
  refine ⟨?_, sok_mk hc, ?_⟩
  · have e1 : ((cs.map fun c => mkS [c]).map (·.length)).sum = cs.length := by
      clear z hc
      induction cs with
      | nil => rfl
      | cons c cs ih => rw [List.map_cons, List.map_cons, List.sum_cons, ih]; show 1 + cs.length = cs.length + 1; omega
    rw [e1]
    show cs.length + _ * 0 ≤ _
    omega
  · rw [mkS_len]
    have : 16777216 ≤ sizeLine := by decide
    omega
theorem cut_to {α : Type} {xs : List α} {i : Int} (h0 : 0 ≤ i) (h1 : i ≤ xs.length) : cutP xs none (some i) = xs.take i.toNat := by
  unfold cutP
  have e1 : HT.sIx xs.length 0 none = 0 := rfl
  have e2 : HT.sIx xs.length xs.length (some i) = i.toNat := by
    unfold HT.sIx
    simp only
    split <;> omega
  rw [e1, e2, List.drop_zero, Nat.sub_zero]
theorem cut_from {α : Type} {xs : List α} {i : Int} (h0 : 0 ≤ i) (h1 : i ≤ xs.length) : cutP xs (some i) none = xs.drop i.toNat := by
  unfold cutP
  have e1 : HT.sIx xs.length 0 (some i) = i.toNat := by
    unfold HT.sIx
    simp only
    split <;> omega
  have e2 : HT.sIx xs.length xs.length none = xs.length := rfl
  rw [e1, e2]
  rw [List.take_of_length_le (by rw [List.length_drop]; omega)]
theorem fSl_str {h : AH} {cs : List Nat} {lo hi : Option Int} : fSl h (.str (mkS cs)) lo hi = some (.str (mkS (cutP cs lo hi))) := rfl
theorem fAdd_tup {h : AH} {a b : List PV} (z : a.length + b.length ≤ sizeLine) : fAdd h (.tup a) (.tup b) = some (.tup (a ++ b)) := by
  show (if a.length + b.length ≤ sizeLine then some (PV.tup (a ++ b)) else none) = _
  rw [if_pos z]
theorem fAdd_lst {h : AH} {a b : List PV} (z : a.length + b.length ≤ sizeLine) : fAdd h (.lst a) (.lst b) = some (.lst (a ++ b)) := by
  show (if a.length + b.length ≤ sizeLine then some (PV.lst (a ++ b)) else none) = _
  rw [if_pos z]
theorem fMul_tup {h : AH} {a : List PV} {k : Int} (h1 : a ≠ []) (h2 : 2 ≤ k) (h3 : k ≤ 1000) (h4 : a.length ≤ 1000) : fMul h (.tup a) (.int k) = some (.tup (List.replicate k.toNat a).flatten) := by
  show (if a ≠ [] ∧ 2 ≤ k ∧ k ≤ 1000 ∧ a.length ≤ 1000 then some (PV.tup (List.replicate k.toNat a).flatten) else none) = _
  rw [if_pos ⟨h1, h2, h3, h4⟩]
end Lp

set_option Elab.async false
set_option linter.all false
set_option maxRecDepth 100000
set_option maxHeartbeats 4000000
/-! Lp14: own classes: fields read and stored; what is never reached. -/
namespace Lp
open PySem PySem.Spec PyProof.Rows L2

/-! ### never reached -/
def eNo : ME := fun _ => .bad
def tNo : S → R S Bool := fun _ => .bad
def sNo : MS := fun _ => .bad
section
variable {X : Cx} {B : Bs} {N : Ent} {WX : L2.WX} {e : Expr} {st : Stmt} {ss : List Stmt}
theorem sim_no : SimE X B N WX e eNo := ⟨fun _ _ _ _ _ _ ⟨_, _, _, h⟩ => h.elim⟩
theorem sim_tno : SimT X B N WX e tNo := ⟨fun _ _ _ _ _ _ ⟨_, _, _, h⟩ => h.elim⟩
theorem sims_no : SimS X B N WX st sNo := ⟨fun _ _ _ _ _ _ ⟨_, _, _, h⟩ => h.elim⟩
theorem simss_no : SimSs X B N WX ss sNo := ⟨fun _ _ _ _ _ _ ⟨_, _, _, h⟩ => h.elim⟩
end

/-! ### fields -/
abbrev FL := Nat → List Str
/-- what is known of the law's classes: cs, the numbers of those whose instances are looked at -/
structure ClsF (K : PySem.W.Frag) (B : Bs) (fl : FL) : Prop where
  fld : ∀ c, fl c ≠ [] → B.fld c = fl c
  cls : ∀ c f, f ∈ fl c → Cls K (B.cad c) ∧ NoAttr K (B.cad c) f
  few : ∀ c, (fl c).length < 1000
  nd : ∀ c, (fl c).Nodup
theorem ClsF.at_ {K : PySem.W.Frag} {B : Bs} {fl : FL} (C : ClsF K B fl) {c : Nat} {f : Str} (h : f ∈ fl c) : B.fld c = fl c := C.fld c fun z => by rw [z] at h; cases h
def insOf (h : AH) : PV → Option (Nat × List PV)
  | .ins c fs => some (c, fs)
  | .cel n => match h[n]? with
    | some (some (.ins c fs)) => some (c, fs)
    | _ => none
  | _ => none
def getF (fl : FL) (f : Str) (h : AH) (o : PV) : Option PV := (insOf h o).bind fun p => ((fl p.1).zip p.2).lookup f
def eFld (fl : FL) (f : Str) (mo : ME) : ME := fun s => (mo s).bind fun o s1 => match getF fl f s1.h o with
  | some v => .ok v s1
  | none => .bad
/-- the fields behind a store -/
def setF (ns : List Str) (f : Str) (v : PV) (fs : List PV) : Option (List PV) := if fs.length < ns.idxOf f then none else if ns.idxOf f < ns.length then some (if ns.idxOf f < fs.length then fs.set (ns.idxOf f) v else fs ++ [v]) else none
section
variable {X : Cx} {B : Bs} {N : Ent} {WX : L2.WX} {W W' : Wd} {s s' : S} {h : AH} {σ : L2.St} {H H' : Hp} {e o : Expr} {mo mv : ME} {f : Str} {fl : FL} {pos pos' : Pos}
theorem ins_ok (hr : HRel B W h H) {x : PV} {x' : V} {c : Nat} {fs : List PV} (rx : RepT B W H x x') (e : insOf h x = some (c, fs)) : ∃ a dx vs, x' = .ref a ∧ H a = some (.ins (B.cad c) dx ((B.fld c).zip vs)) ∧ vs.length ≤ (B.fld c).length ∧ Reps B W fs vs := by
  cases x with
  | ins c' fs' =>
    cases e
    cases (show Rep B W (.ins c fs) x' from rx) with
    | ins h hl r => exact ⟨_, _, _, rfl, hr.agree _ _ h, hl, r⟩
  | cel n =>
    cases (show Rep B W (.cel n) x' from rx) with
    | cel h1 =>
      unfold insOf at e
      dsimp only at e
      split at e
      · rename_i c' fs' q
        cases e
        obtain ⟨_, dx, vs, h2, hl, r⟩ := hr.cell n _ _ q h1
        exact ⟨_, dx, vs, rfl, h2, hl, r⟩
      · cases e
  | _ => cases e
theorem lookup_reps : ∀ {ns : List Str} {fs : List PV} {vs : List V} {v : PV}, Reps B W fs vs → (ns.zip fs).lookup f = some v → ∃ v', (ns.zip vs).lookup f = some v' ∧ Rep B W v v' ∧ f ∈ ns
  | [], _, _, _, _, e => by simp at e
  | n :: ns, _, _, _, .nil, e => by simp at e
  | n :: ns, x :: xs, u :: us, v, .cons r t, e => by
    rw [List.zip_cons_cons, List.lookup_cons] at e
    rw [List.zip_cons_cons, List.lookup_cons]
    cases q : f == n with
    | true =>
      rw [q] at e
      cases e
      exact ⟨u, rfl, r, by rw [beq_iff_eq.mp q]; simp⟩
    | false =>
      rw [q] at e
      obtain ⟨v', e1, r1, m⟩ := lookup_reps t e
      exact ⟨v', e1, r1, List.mem_cons_of_mem _ m⟩
theorem sim_fld (C : ClsF X.K B fl) (he : SimE X B N WX o mo) (hb : attributeBase o f X.env (eval o X.env) = eval o X.env) : SimE X B N WX (.Attribute o f pos) (eFld fl f mo) :=
  (pe_fld he hb).imp fun σ H Q ⟨W, s, r, h⟩ => ⟨W, s, r, (h.bind r.slen).mono fun v W1 s1 H1 r1 _ q v' rv => by
    split at q
    · rename_i u eu
      unfold getF at eu
      cases ei : insOf s1.h v with
      | none => rw [ei] at eu; cases eu
      | some p =>
        obtain ⟨c, fs⟩ := p
        rw [ei] at eu
        have eu : ((fl c).zip fs).lookup f = some u := eu
        obtain ⟨a, dx, vs, rfl, hH, hl, rs⟩ := ins_ok r1.hr rv ei
        obtain ⟨u', e1, r2, m⟩ := lookup_reps rs eu
        have cc := C.cls c f m
        exact ⟨a, _, dx, _, u', rfl, hH, cc.1, cc.2, by rw [C.at_ m]; exact e1, q.ok r1 u' r2.hand⟩
    · exact q.elim⟩
theorem putF_zip {v : V} : ∀ {ns : List Str} {vs : List V}, ns.Nodup → vs.length ≤ ns.length → ns.idxOf f ≤ vs.length → ns.idxOf f < ns.length →
    putF f v (ns.zip vs) = ns.zip (if ns.idxOf f < vs.length then vs.set (ns.idxOf f) v else vs ++ [v])
  | [], _, _, _, _, h => by simp at h
  | n :: ns, vs, nd, hl, h1, h2 => by
    by_cases hn : n = f
    · subst hn
      have e0 : (n :: ns).idxOf n = 0 := by simp [List.idxOf_cons]
      rw [e0]
      cases vs with
      | nil => simp [putF]
      | cons u us =>
        rw [if_pos (by simp)]
        show (if n = n then (n, v) :: ns.zip us else _) = _
        rw [if_pos rfl]; rfl
    · have e0 : (n :: ns).idxOf f = ns.idxOf f + 1 := by rw [List.idxOf_cons, show (n == f) = false from beq_false_of_ne hn]; rfl
      rw [e0] at h1 h2 ⊢
      cases vs with
      | nil => simp at h1
      | cons u us =>
        have ih := putF_zip (v := v) (ns := ns) (vs := us) (List.nodup_cons.mp nd).2 (by simpa using hl) (by simpa using h1) (by simpa using h2)
        show (if n = f then _ else (n, u) :: putF f v (ns.zip us)) = _
        rw [if_neg hn, ih]
        by_cases h3 : ns.idxOf f < us.length
        · rw [if_pos h3, if_pos (by simpa using h3)]; rfl
        · rw [if_neg h3, if_neg (by simpa using h3)]; rfl
end
/-- o.f = e, o a cell -/
def sFldC (fl : FL) (f : Str) (mv mo : ME) : MS := fun s => (mv s).bind fun v s1 => (mo s1).bind fun o s2 => match celN o with
  | some n => match s2.h[n]? with
    | some (some (.ins c fs)) => match setF (fl c) f v fs with
      | some gs => if isOwn v = true then .bad else .ok .nx ⟨s2.e, s2.h.set n (some (.ins c gs))⟩
      | none => .bad
    | _ => .bad
  | none => .bad
section
variable {X : Cx} {B : Bs} {N : Ent} {WX : L2.WX} {W W' : Wd} {s s' : S} {h : AH} {σ : L2.St} {H H' : Hp} {e o : Expr} {mo mv : ME} {f : Str} {fl : FL} {pos pos' : Pos}
theorem setF_ok {ns : List Str} {v : PV} {fs gs : List PV} (e : setF ns f v fs = some gs) : ns.idxOf f ≤ fs.length ∧ ns.idxOf f < ns.length ∧ gs = if ns.idxOf f < fs.length then fs.set (ns.idxOf f) v else fs ++ [v] := by
  unfold setF at e
  split at e
  · cases e
  · split at e
    · rename_i h1 h2
      cases e
      exact ⟨by omega, h2, rfl⟩
    · cases e
/-- a field of a cell's is stored -/
theorem fld_put (C : ClsF X.K B fl) {n c : Nat} {fs gs : List PV} {v : PV} {v' : V} {a : Addr} (r : Rel B N W s σ H) (en : s.h[n]? = some (some (.ins c fs))) (em : W.m[n]? = some a) (rv : Rep B W v v') (eg : setF (fl c) f v fs = some gs) :
    ∃ dx vs, H a = some (.ins (B.cad c) dx ((fl c).zip vs)) ∧ Cls X.K (B.cad c) ∧ NoAttr X.K (B.cad c) f ∧ ((fl c).zip vs).length < 1000 ∧
      Rel B N W ⟨s.e, s.h.set n (some (.ins c gs))⟩ σ (upd H a (.ins (B.cad c) dx (putF f v' ((fl c).zip vs)))) ∧ StepE W s H W ⟨s.e, s.h.set n (some (.ins c gs))⟩ (upd H a (.ins (B.cad c) dx (putF f v' ((fl c).zip vs)))) := by
  obtain ⟨hF, dx, vs, hH, hl, rs⟩ := r.hr.cell n _ a en em
  obtain ⟨g1, g2, g3⟩ := setF_ok eg
  have hm : f ∈ fl c := by
    have := List.idxOf_lt_length_iff.mp g2
    exact this
  have Cf := C.at_ hm
  rw [Cf] at hH hl
  have cc := C.cls c f hm
  have hlen := rs.length
  have lz : ((fl c).zip vs).length < 1000 := by
    rw [List.length_zip]
    have := C.few c
    omega
  have ep := putF_zip (v := v') (C.nd c) hl (by rw [← hlen]; exact g1) g2
  refine ⟨dx, vs, hH, cc.1, cc.2, lz, ?_⟩
  have hc : CellR B W (upd H a (.ins (B.cad c) dx (putF f v' ((fl c).zip vs)))) a (.ins c gs) := by
    refine ⟨dx, (if (fl c).idxOf f < vs.length then vs.set ((fl c).idxOf f) v' else vs ++ [v']), by rw [upd_same, Cf, ep], ?_, ?_⟩
    · rw [Cf]
      split
      · rw [List.length_set]; exact hl
      · rw [List.length_append, List.length_singleton]; omega
    · rw [g3, hlen]
      split
      · exact rs.set rv _
      · exact rs.append (.one rv)
  have hr2 := hrel_cell (c' := .ins c gs) r.hr en em (o := .ins (B.cad c) dx (putF f v' ((fl c).zip vs))) trivial hc
  have st := step_cell (c' := .ins c gs) (o := .ins (B.cad c) dx (putF f v' ((fl c).zip vs))) r.hr en em
  exact ⟨rel_step r hr2 st, stepE_of st⟩
theorem sims_fldC (C : ClsF X.K B fl) (hv : SimE X B N WX e mv) (ho : SimE X B N WX o mo) (hs : swapsWith e (some (.Attribute o f pos')) pos.line X.env = pure false) : SimS X B N WX (.Assign [.Attribute o f pos'] e pos) (sFldC fl f mv mo) :=
  (ps_fld ho hv hs).imp fun D σ H ⟨W, s, r, h⟩ => ⟨W, s, r, h.bindE.mono fun v W1 s1 H1 r1 _ q v' rv => ⟨W1, s1, r1, q.bindE.mono fun ov W2 s2 H2 r2 st2 q2 o' ro => by
    split at q2
    · rename_i n en
      obtain rfl := celN_ok en
      split at q2
      · rename_i c fs ec
        split at q2
        · rename_i gs eg
          split at q2
          · exact q2.elim
          · rename_i ow
            obtain ⟨a, rfl, em⟩ := rep_cel ro
            obtain ⟨dx, vs, hH, c1, c2, lz, r3, _⟩ := fld_put C r2 ec em ((rv.on r1.slen st2.st).rep (by simpa using ow)) eg
            exact ⟨a, _, dx, _, rfl, hH, c1, c2, lz, q2 W2 σ _ r3⟩
        · exact q2.elim
      · exact q2.elim
    · exact q2.elim⟩⟩
end
end Lp

set_option Elab.async false
set_option linter.all false
set_option maxRecDepth 100000
set_option maxHeartbeats 4000000
/-! Lp15: own classes: instances made. -/
namespace Lp
open PySem PySem.Spec PyProof.Rows L2

section
variable {B : Bs} {W W1 W2 : Wd} {h h1 h2 : AH} {H H1 H2 : Hp} {p x dx : Addr} {o : HO} {c : Nat} {C : Cell}
/-- an object that nothing tells -/
theorem hrel_loose (hr : HRel B W h H) (hp : H p = none) (ho : SzO o) : HRel B W h (upd H p o) := by
  refine ⟨fun a u e => ?_, hr.len, hr.nd, fun a hm => ?_, fun a u e nt => ?_, hr.fz, tabs_new hr.tb hp, fun n c a e1 e2 => ?_⟩
  · have ne : a ≠ p := fun z => by rw [z, hr.fnone hp] at e; cases e
    rw [upd_ne ne]; exact hr.agree _ _ e
  · by_cases ha : a = p
    · rw [ha, upd_same]; exact fun z => nomatch z
    · rw [upd_ne ha]; exact hr.mt a hm
  · by_cases ha : a = p
    · rw [ha, upd_same] at e; cases e; exact ho
    · rw [upd_ne ha] at e; exact hr.hz a u e nt
  · obtain ⟨g1, g2⟩ := hr.cell n c a e1 e2
    exact ⟨g1, g2.off fun z => hr.mt a (List.mem_of_getElem? e2) (by rw [z]; exact hp)⟩
theorem Step.loose (st : Step W h H W1 h1 H1) (hp : H p = none) : Step W h H W1 h1 (upd H1 p o) := by
  refine ⟨st.le, st.hl, st.dead, fun a u e nt nl => ?_, fun a e => ?_, st.fgrow, st.hm, st.mnew⟩
  · rw [upd_ne (ne_of_none e hp)]; exact st.keep a u e nt nl
  · by_cases ha : a = p
    · rw [ha, upd_same] at e; cases e
    · rw [upd_ne ha] at e; exact st.tr a e
/-- a new instance without fields, as a cell -/
theorem made_new (hr : HRel B W h H) (hx : H x = none) (hd : H dx = none) (ne : dx ≠ x) :
    HRel B ⟨W.F, W.m ++ [x]⟩ (h ++ [some (.ins c [])]) (upd (upd H dx (.own x)) x (.ins (B.cad c) dx [])) ∧ Step W h H ⟨W.F, W.m ++ [x]⟩ (h ++ [some (.ins c [])]) (upd (upd H dx (.own x)) x (.ins (B.cad c) dx [])) := by
  have a1 := hrel_loose (o := .own x) hr hd trivial
  have hx1 : upd H dx (.own x) x = none := by rw [upd_ne (Ne.symm ne)]; exact hx
  have a2 := hrel_loose (o := .ins (B.cad c) dx []) a1 hx1 trivial
  refine ⟨hrel_snoc a2 (hr.fnone hx) (fun z => hr.mt x z hx) (by rw [upd_same]; exact fun z => nomatch z) ⟨dx, [], by rw [upd_same]; simp, Nat.zero_le _, .nil⟩, ?_⟩
  exact (((Step.refl hr).loose hd).loose hx).snoc hx
end
/-! cells named in a value -/
mutual
def celB (n : Nat) : PV → Bool
  | .cel k => decide (k < n)
  | .tup xs => celsB n xs
  | .lst xs => celsB n xs
  | .scr xs => celsB n xs
  | .ins _ fs => celsB n fs
  | .exn _ fs => celsB n fs
  | _ => true
def celsB (n : Nat) : List PV → Bool
  | [] => true
  | x :: xs => celB n x && celsB n xs
end
section
variable {B : Bs}
mutual
theorem Rep.cels {W : Wd} : ∀ {x : PV} {v : V}, Rep B W x v → celB W.m.length x = true
  | _, _, .non => rfl
  | _, _, .bl _ => rfl
  | _, _, .int _ => rfl
  | _, _, .str _ _ => rfl
  | _, _, .ty _ => rfl
  | _, _, .cls _ => rfl
  | _, _, .cel h => decide_eq_true (List.getElem?_eq_some_iff.mp h).1
  | _, _, .tup _ r => Reps.cels r
  | _, _, .lst _ r => Reps.cels r
  | _, _, .scr _ r => Reps.cels r
  | _, _, .ins _ _ r => Reps.cels r
  | _, _, .exn _ _ _ r => Reps.cels r
theorem Reps.cels {W : Wd} : ∀ {xs : List PV} {vs : List V}, Reps B W xs vs → celsB W.m.length xs = true
  | _, _, .nil => rfl
  | _, _, .cons h t => by
    show (celB _ _ && celsB _ _) = true
    rw [Rep.cels h, Reps.cels t]; rfl
end
mutual
theorem Rep.cut {W : Wd} {n : Nat} : ∀ {x : PV} {v : V}, Rep B W x v → celB n x = true → Rep B ⟨W.F, W.m.take n⟩ x v
  | _, _, .non, _ => .non
  | _, _, .bl b, _ => .bl b
  | _, _, .int i, _ => .int i
  | _, _, .str x h, _ => .str x h
  | _, _, .ty n, _ => .ty n
  | _, _, .cls c, _ => .cls c
  | _, _, .cel h, e => .cel (by show (W.m.take n)[_]? = _; rw [List.getElem?_take_of_lt (of_decide_eq_true e)]; exact h)
  | _, _, .tup h r, e => .tup h (Reps.cut r e)
  | _, _, .lst h r, e => .lst h (Reps.cut r e)
  | _, _, .scr h r, e => .scr h (Reps.cut r e)
  | _, _, .ins h hl r, e => .ins h hl (Reps.cut r e)
  | _, _, .exn hx h hl r, e => .exn hx h hl (Reps.cut r e)
theorem Reps.cut {W : Wd} {n : Nat} : ∀ {xs : List PV} {vs : List V}, Reps B W xs vs → celsB n xs = true → Reps B ⟨W.F, W.m.take n⟩ xs vs
  | _, _, .nil, _ => .nil
  | _, _, .cons h t, e => by
    obtain ⟨e1, e2⟩ := Bool.and_eq_true_iff.mp (show (celB _ _ && celsB _ _) = true from e)
    exact .cons (Rep.cut h e1) (Reps.cut t e2)
end
/-- cells told by values of an older state: the newer cells are not named -/
def celC (n : Nat) : Cell → Bool
  | .lst xs => celsB n xs
  | .dic _ => true
  | .ins _ fs => celsB n fs
variable {W W1 W2 : Wd} {h h1 h2 : AH} {H H1 H2 : Hp} {p x dx : Addr} {o : HO} {c : Nat} {C : Cell}
theorem CellR.cels {a : Addr} (r : CellR B W H a C) : celC W.m.length C = true := by
  cases C with
  | lst xs => obtain ⟨vs, _, q⟩ := r; exact q.cels
  | dic ks => rfl
  | ins c fs => obtain ⟨_, vs, _, _, q⟩ := r; exact q.cels
theorem CellR.cut {a : Addr} {n : Nat} (r : CellR B W H a C) (e : celC n C = true) : CellR B ⟨W.F, W.m.take n⟩ H a C := by
  cases C with
  | lst xs => obtain ⟨vs, q1, q⟩ := r; exact ⟨vs, q1, q.cut e⟩
  | dic ks => exact r
  | ins c fs => obtain ⟨d, vs, q1, q2, q⟩ := r; exact ⟨d, vs, q1, q2, q.cut e⟩
/-- behind a run that left the old cells' contents as they were, the one new cell is dropped -/
theorem made_cut (hr : HRel B W h H) (hx : H x = none) (hr2 : HRel B W2 (h ++ [some C]) H2) (st : Step ⟨W.F, W.m ++ [x]⟩ (h ++ [some (.ins c [])]) H1 W2 (h ++ [some C]) H2) (hk : ∀ a o, H a = some o → H1 a = some o) (ht : ∀ a, H1 a = none → H a = none) :
    W2.m = W.m ++ [x] ∧ HRel B ⟨W2.F, W.m⟩ h H2 ∧ Step W h H ⟨W2.F, W.m⟩ h H2 := by
  have em : W2.m = W.m ++ [x] := by
    obtain ⟨t, e⟩ := st.le.m
    have hl := hr2.len
    rw [← e] at hl
    simp only [List.length_append, List.length_singleton, hr.len] at hl
    have : t = [] := List.length_eq_zero_iff.mp (by omega)
    rw [← e, this, List.append_nil]
  have et : W2.m.take h.length = W.m := by rw [em, ← hr.len, List.take_left']; rfl
  have live : ∀ a, H a ≠ none → Live ⟨W.F, W.m ++ [x]⟩ (h ++ [some (.ins c [])]) a → Live W h a := fun a ne l => by
    obtain ⟨n, c1, e1, e2⟩ := l
    have e2 : (W.m ++ [x])[n]? = some a := e2
    rcases snoc_at e2 with ⟨hn, e3⟩ | ⟨_, rfl⟩
    · rw [hr.len] at hn
      rw [List.getElem?_append_left hn] at e1
      exact ⟨n, c1, e1, e3⟩
    · exact absurd hx ne
  refine ⟨em, ⟨hr2.agree, hr.len, hr.nd, fun a hm => hr2.mt a (by rw [em]; exact List.mem_append_left _ hm), hr2.hz, hr2.fz, hr2.tb, fun m c1 a e1 e2 => ?_⟩, ⟨⟨st.le.F, List.prefix_refl _⟩, Nat.le_refl _, fun n c1 _ e => ⟨c1, e⟩, fun a u e nt nl => ?_, fun a e => ht a (st.tr a e), fun a e ne nl => ?_, hr.len, fun n a hn e => ?_⟩⟩
  · have hm : m < h.length := (List.getElem?_eq_some_iff.mp e1).1
    have e2 : W.m[m]? = some a := e2
    obtain ⟨g1, g2⟩ := hr2.cell m c1 a (by rw [List.getElem?_append_left hm]; exact e1) (by rw [em, List.getElem?_append_left (by rw [hr.len]; exact hm)]; exact e2)
    have q := g2.cut (n := h.length) (by rw [← hr.len]; exact (hr.cell m c1 a e1 e2).2.cels)
    rw [et] at q
    exact ⟨g1, q⟩
  · exact st.keep a u (hk a u e) nt fun l => nl (live a (by rw [e]; exact fun z => nomatch z) l)
  · exact st.fgrow a e (fun z => ne (ht a z)) fun l => nl (live a ne l)
  · have := (List.getElem?_eq_some_iff.mp (show W.m[n]? = some a from e)).1
    rw [hr.len] at this; omega
end
section
variable {B : Bs} {W W1 W2 : Wd} {h h1 h2 : AH} {H H1 H2 : Hp} {p x dx : Addr} {o : HO} {c : Nat} {C : Cell}
theorem hrel_keep (hr : HRel B W h H) (hF : W.F p = none) (hm : p ∉ W.m) (hp : H p = some o) (nt : NT o) : HRel B ⟨upd W.F p o, W.m⟩ h H := by
  refine ⟨fun a u e => ?_, hr.len, hr.nd, hr.mt, hr.hz, fun a u e => ?_, hr.tb, fun n c a e1 e2 => ?_⟩
  · by_cases ha : a = p
    · have e : upd W.F p o a = some u := e
      rw [ha, upd_same] at e
      rw [ha, hp]; exact e
    · have e : upd W.F p o a = some u := e
      rw [upd_ne ha] at e
      exact hr.agree _ _ e
  · by_cases ha : a = p
    · have e : upd W.F p o a = some u := e
      rw [ha, upd_same] at e
      cases e
      exact nt
    · have e : upd W.F p o a = some u := e
      rw [upd_ne ha] at e
      exact hr.fz a u e
  · obtain ⟨g1, g2⟩ := hr.cell n c a e1 e2
    have ne : a ≠ p := fun z => hm (z ▸ List.mem_of_getElem? e2)
    exact ⟨by show upd W.F p o a = none; rw [upd_ne ne]; exact g1, g2.mono (le_new hF) fun _ z => z⟩
theorem Step.keepNew (st : Step W h H W1 h1 H1) (hp : H p = none) (hF : W1.F p = none) : Step W h H ⟨upd W1.F p o, W1.m⟩ h1 H1 :=
  ⟨st.le.trans (le_new hF), st.hl, st.dead, st.keep, st.tr, fun a e ne nl => by
    have ha : a ≠ p := fun z => ne (z ▸ hp)
    show upd W1.F p o a = none
    rw [upd_ne ha]; exact st.fgrow a e ne nl, st.hm, st.mnew⟩
end
open Classical in
/-- what a call of a class gives: fz: the instance stands still from now on -/
noncomputable def mkH (fz : Bool) (c n : Nat) (m : MF) (vs : List PV → List PV) (s : S) : R S PV :=
  if (vs [.cel s.h.length]).length = n ∧ allSh (vs [.cel s.h.length]) = true then match m (vs [.cel s.h.length]) (s.h ++ [some (.ins c [])]) with
    | .ok .non h2 => if fz = true then (if ∃ fs, h2 = s.h ++ [some (.ins c fs)] ∧ celsB s.h.length fs = true then match h2[s.h.length]? with
        | some (some (.ins _ fs)) => .ok (.ins c fs) s
        | _ => .bad else .bad) else .ok (.cel s.h.length) ⟨s.e, h2⟩
    | .ok _ _ => .bad
    | .exc y h2 => if (∃ C, h2 = s.h ++ [some C]) ∧ celB s.h.length y = true then .exc y s else .bad
    | .bad => .bad
  else .bad
structure MkC (P : Program) (w : World) (K : PySem.W.Frag) (mg : Str → Option Value) (base : Heap) (B : Bs) (k : Nat) (x : Str) (c n0 : Nat) (ks : List Str) (g : List PV → List PV → List PV) (n : Nat) (m : MF) : Prop where
  ex : ∃ f fd ps gW gV, Mk K (B.cad c) f ∧ FnOk P w K mg base (L2.CX P w) k f fd ps (spF B n m) ∧ mg x = some (.ref (B.cad c)) ∧ KBn K fd ps (n0 + 1) ks gW gV ∧
    ∀ (W : Wd) (xs ys : List PV) (vs zs : List V), Reps B W xs vs → Reps B W ys zs → Reps B W (g xs ys) (gV vs zs)
noncomputable def eMk (fz : Bool) (c n0 nk n : Nat) (g : List PV → List PV → List PV) (m : MF) (ma mk : MA) : ME := fun s => (ma s).bind fun vs s1 => (mk s1).bind fun zs s2 => if (vs.length = n0 ∧ zs.length = nk) ∧ allSh vs = true ∧ allSh zs = true then mkH fz c n m (fun self => g (self ++ vs) zs) s2 else .bad
section
variable {X : Cx} {B : Bs} {N : Ent} {W W' : Wd} {s s' : S} {σ : L2.St} {H H' : Hp} {e : Expr} {es : List Expr} {ma mk : MA} {p pos : Pos} {x : Str} {k n n0 c : Nat} {m : MF} {kws : List Keyword} {ks : List Str} {E : XK} {fz : Bool} {g : List PV → List PV → List PV}
theorem mk_fin {vs zs : List PV} {vs' zs' : List V} {gV : List V → List V → List V} {Q : VK} (hg : ∀ (W : Wd) (xs ys : List PV) (vs zs : List V), Reps B W xs vs → Reps B W ys zs → Reps B W (g xs ys) (gV vs zs))
    (r : Rel B N W s σ H) (rv : Reps B W vs vs') (rz : Reps B W zs zs') (q : Post B N (fun c d _ H => E c d H) W s H σ (mkH fz c n m (fun self => g (self ++ vs) zs) s) fun u W' _ H' => ∀ u', RepT B W' H' u u' → Q u' H') :
    ∀ x dx, H x = none → H dx = none → dx ≠ x → spF B n m (gV (.ref x :: vs') zs') (upd (upd H dx (.own x)) x (.ins (B.cad c) dx [])) (fun v H2 => v = .non ∧ Q (.ref x) H2) E := by
  intro x dx hx hd ne
  obtain ⟨hr1, st1⟩ := made_new (c := c) r.hr hx hd ne
  unfold mkH at q
  split at q
  · rename_i hc
    have hk : ∀ a o, H a = some o → upd (upd H dx (.own x)) x (.ins (B.cad c) dx []) a = some o := fun a o e => by rw [upd_ne (ne_of_none e hx), upd_ne (ne_of_none e hd)]; exact e
    have ht : ∀ a, upd (upd H dx (.own x)) x (.ins (B.cad c) dx []) a = none → H a = none := fun a e => st1.tr a e
    have self : Rep B ⟨W.F, W.m ++ [x]⟩ (.cel s.h.length) (.ref x) := .cel (by show (W.m ++ [x])[s.h.length]? = some x; rw [← r.hr.len]; simp)
    refine ⟨_, _, g ([PV.cel s.h.length] ++ vs) zs, hr1, hg _ _ _ _ _ (.cons self (rv.mono le_cell)) (rz.mono le_cell), hc.1, ?_⟩
    cases em : m (g ([PV.cel s.h.length] ++ vs) zs) (s.h ++ [some (Cell.ins c [])]) with
    | bad => simp only [em] at q; exact q.elim
    | exc y h2 =>
      simp only [em] at q
      intro W2 H2 cls d hr2 st2 ex
      split at q
      · rename_i hy
        obtain ⟨⟨C, rfl⟩, cy⟩ := hy
        obtain ⟨em2, hr3, st3⟩ := made_cut r.hr hx hr2 st2 hk ht
        have nw : Nw H d := fun dd ed => ht _ (ex.nw dd ed)
        refine q _ H2 cls d (rel_step r hr3 st3) (stepE_of st3) ?_ nw
        obtain ⟨c', fs, dd, us, rfl, rfl, rfl, e1, e2, e3, e4, e5, e6⟩ := ex
        refine ⟨c', fs, dd, us, rfl, rfl, rfl, e1, e2, ?_, r.st.tr _ (ht _ e4), e5, fun z => e6 (by rw [em2]; exact List.mem_append_left _ z)⟩
        have := e3.cut (n := s.h.length) cy
        rw [show W2.m.take s.h.length = W.m by rw [em2, ← r.hr.len, List.take_left']; rfl] at this
        exact this
      · exact q.elim
    | ok v h2 =>
      cases v with
      | non =>
        simp only [em] at q
        intro W2 H2 v' hr2 st2 rv'
        cases rv'
        refine ⟨rfl, ?_⟩
        cases fz with
        | false =>
          have q : Post B N (fun c d _ H => E c d H) W s H σ (R.ok (PV.cel s.h.length) ⟨s.e, h2⟩) (fun u W' _ H' => ∀ u', RepT B W' H' u u' → Q u' H') := q
          have st := st1.trans r.slen st2
          have e1 : W2.m[s.h.length]? = some x := st2.le.at (by show (W.m ++ [x])[s.h.length]? = some x; rw [← r.hr.len]; simp)
          exact q W2 H2 (rel_step r hr2 st) (stepE_of st) (.ref x) (Rep.hand (x := PV.cel s.h.length) (.cel e1))
        | true =>
          rw [if_pos rfl] at q
          split at q
          · rename_i hy
            obtain ⟨fs, rfl, cf⟩ := hy
            have e0 : (s.h ++ [some (Cell.ins c fs)])[s.h.length]? = some (some (.ins c fs)) := by simp
            rw [e0] at q
            obtain ⟨em2, hr3, st3⟩ := made_cut r.hr hx hr2 st2 hk ht
            obtain ⟨gF, dx', us, g1, g2, g3⟩ := hr2.cell s.h.length _ x e0 (by rw [em2, ← r.hr.len]; simp)
            have g3' := g3.cut (n := s.h.length) cf
            rw [show W2.m.take s.h.length = W.m by rw [em2, ← r.hr.len, List.take_left']; rfl] at g3'
            have nx : x ∉ W.m := fun z => r.hr.mt x z hx
            have hr4 := hrel_keep hr3 gF nx g1 nt_ins
            have st4 := st3.keepNew (o := .ins (B.cad c) dx' ((B.fld c).zip us)) hx gF
            have g3n : Reps B ⟨upd W2.F x (.ins (B.cad c) dx' ((B.fld c).zip us)), W.m⟩ fs us := g3'.mono (W := ⟨W2.F, W.m⟩) (le_new (W := ⟨W2.F, W.m⟩) gF)
            exact q _ H2 (rel_step r hr4 st4) (stepE_of st4) (.ref x) (Rep.hand (x := PV.ins c fs) (.ins upd_same g2 g3n))
          · exact q.elim
      | _ => simp only [em] at q; exact q.elim
  · exact q.elim
theorem mk_read {nk : Nat} (hl : ks.length = nk) {gV : List V → List V → List V} (hg : ∀ (W : Wd) (xs ys : List PV) (vs zs : List V), Reps B W xs vs → Reps B W ys zs → Reps B W (g xs ys) (gV vs zs)) {Q : VK} (h : tE B N (fun c d _ H => E c d H) (eMk fz c n0 nk n g m ma mk) σ H Q) :
    tMakeK (B.cad c) n0 ks.length (spF B n m) gV E (tA B N (fun c d _ H => E c d H) ma) (tA B N (fun c d _ H => E c d H) mk) σ H Q := by
  obtain ⟨W, s, r, h⟩ := h
  refine ⟨W, s, r, (h.bind r.slen).mono fun vs W1 s1 H1 r1 _ q vs' rv => ⟨W1, s1, r1, (q.bind r1.slen).mono fun zs W2 s2 H2 r2 st2 q2 zs' rz => ?_⟩⟩
  split at q2
  · rename_i hc
    have r1' := (rv.reps hc.2.1).mono st2.st.le
    have r2' := rz.reps hc.2.2
    exact ⟨by rw [← r1'.length]; exact hc.1.1, by rw [← r2'.length, hl]; exact hc.1.2, mk_fin hg r2 r1' r2' q2⟩
  · exact q2.elim
theorem sim_mk {nk : Nat} (F : MkC X.prog X.w X.K X.mg X.base B k x c n0 ks g n m) (tk : Takes X fun c d _ H => E c d H) (hr : Room (k + 1) X.A) (hg : Gl X x) (ha : SimA X B N (fun c d _ H => E c d H) (e :: es) ma) (hkw : SimK X B N (fun c d _ H => E c d H) kws mk) (hl : ks.length = nk)
    (hall : (backToKw pos (keywordEach kws X.env)).all (·.1.isSome) = true) (hks : (backToKw pos (keywordEach kws X.env)).filterMap (·.1) = ks) (hdb : (x == ("__debug__" : Str)) = false)
    (he : starEach (e :: es) X.env = (false, eval e X.env) :: starEach es X.env) (hpl : ((backTo pos (starEach (e :: es) X.env)).any (·.1) || (backToKw pos (keywordEach kws X.env)).any (·.1.isNone)) = false) :
    SimE X B N (fun c d _ H => E c d H) (.Call (.Name x p) (e :: es) kws pos) (eMk fz c n0 nk n g m ma mk) := by
  obtain ⟨f, fd, ps, gW, gV, M, F1, hm, hb, hv⟩ := F.ex
  exact (pe_makeK M F1 hr hg hm hb (passes_call tk fun _ _ _ _ h => h) ha hkw hall hks hdb he hpl).imp fun σ H Q h => mk_read hl hv h
theorem sim_mk0 {nk : Nat} (F : MkC X.prog X.w X.K X.mg X.base B k x c 0 ks g n m) (tk : Takes X fun c d _ H => E c d H) (hr : Room (k + 1) X.A) (hg : Gl X x) (hkw : SimK X B N (fun c d _ H => E c d H) kws mk) (hl : ks.length = nk)
    (hall : (backToKw pos (keywordEach kws X.env)).all (·.1.isSome) = true) (hks : (backToKw pos (keywordEach kws X.env)).filterMap (·.1) = ks) (hdb : (x == ("__debug__" : Str)) = false)
    (hpl : ((backTo pos (starEach [] X.env)).any (·.1) || (backToKw pos (keywordEach kws X.env)).any (·.1.isNone)) = false) :
    SimE X B N (fun c d _ H => E c d H) (.Call (.Name x p) [] kws pos) (eMk fz c 0 nk n g m aNil mk) := by
  obtain ⟨f, fd, ps, gW, gV, M, F1, hm, hb, hv⟩ := F.ex
  exact (pe_makeK0 M F1 hr hg hm hb (passes_call tk fun _ _ _ _ h => h) hkw hall hks hdb hpl).imp fun σ H Q h => by
    have q := mk_read (ma := aNil) hl hv h
    obtain ⟨W, s, r, q⟩ := q
    exact q.ok r [] trivial
end
end Lp

set_option Elab.async false
set_option linter.all false
set_option maxRecDepth 100000
set_option maxHeartbeats 4000000
/-! Lp16: methods. -/
namespace Lp
open PySem PySem.Spec PyProof.Rows L2

/-- o.m(.., k = ..): n values by place, nk by keywords -/
def tMeN (C : Addr) (m : Str) (n nk : Nat) (sp : Sp) (gV : List V → List V → List V) (E : XK) (ta : TE) (t tk : TA) : TE := fun σ H Q => ta σ H fun x H1 => ∃ a dx fs, x = .ref a ∧ H1 a = some (.ins C dx fs) ∧ fs.lookup m = none ∧
  t σ H1 fun vs H2 => tk σ H2 fun zs H3 => vs.length = n ∧ zs.length = nk ∧ sp (gV (x :: vs) zs) H3 Q E
section
variable {X : Cx} {CX : CXT} {k n : Nat} {f C : Addr} {fd : FuncData} {ps ks : List Str} {sp : Sp} {E : XK} {m : Str} {pos apos : Pos} {e o : Expr} {es : List Expr} {kws : List Keyword} {ta : TE} {t tk : TA} {g : List Value → List Value → List Value} {gV : List V → List V → List V}
theorem pe_meN {pl : Sem Bool} (he : PE X o ta) (c : Cls X.K C) (hm : Meth X.K C m f) (F : FnOk X.prog X.w X.K X.mg X.base CX k f fd ps sp) (hr : Room k X.A) (hb : KBn X.K fd ps (n + 1) ks g gV) (hx : Passes CX X E) (ha : PA X (e :: es) t) (hkw : PK X kws tk)
    (hall : (backToKw pos (keywordEach kws X.env)).all (·.1.isSome) = true) (hks : (backToKw pos (keywordEach kws X.env)).filterMap (·.1) = ks) (hst : starEach (e :: es) X.env = (false, eval e X.env) :: starEach es X.env)
    (hpl : ((backTo pos (starEach (e :: es) X.env)).any (·.1) || (backToKw pos (keywordEach kws X.env)).any (·.1.isNone)) = false)
    (ht : eval (.Call (.Attribute o m apos) (e :: es) kws pos) X.env = (do
      let ov ← eval o X.env
      standAt apos.atName
      let (f, first) ← holding [ov] (getMethod ov m pl)
      callWith pos f first (backTo pos (starEach (e :: es) X.env)) (backToKw pos (keywordEach kws X.env)))) : PE X (.Call (.Attribute o m apos) (e :: es) kws pos) (tMeN C m n ks.length sp gV E ta t tk) := by
  refine ⟨fun pins s σ H Q I h => ?_⟩
  refine PySem.W.methodCall_KW (pl := pl) (thn (he.run pins s σ H _ I h) fun u s1 ⟨x, H1, I1, rx, a, dx, fs, ex, ea, l, q⟩ => ?_) ht
  subst ex
  obtain rfl : u = Value.ref a := rx
  refine getmeth_ok I1 ea c hm l ?_
  refine PySem.W.callWith_KW (first := [.ref a]) (h₀ := X.base) I.ok.mod.kin hm.kp hall (thn (ha.run pos pins s1 σ H1 _ I1 q) fun us s2 ⟨vs, H2, I2, r, q2⟩ => ?_) hpl hst
  refine thn (hkw.run pos pins s2 σ H2 _ I2 q2) fun ws s3 ⟨zs, H3, I3, rz, l1, l2, q3⟩ => ⟨I3.kIn, ?_⟩
  rw [hks]
  exact run_fnN (us := .ref a :: us) (vs := .ref a :: vs) F hr hb hx I3 (.cons rfl r) rz (by rw [List.length_cons, l1]) l2 q3
theorem pe_meN0 {pl : Sem Bool} (he : PE X o ta) (c : Cls X.K C) (hm : Meth X.K C m f) (F : FnOk X.prog X.w X.K X.mg X.base CX k f fd ps sp) (hr : Room k X.A) (hb : KBn X.K fd ps 1 ks g gV) (hx : Passes CX X E) (hkw : PK X kws tk)
    (hall : (backToKw pos (keywordEach kws X.env)).all (·.1.isSome) = true) (hks : (backToKw pos (keywordEach kws X.env)).filterMap (·.1) = ks)
    (hpl : ((backTo pos (starEach [] X.env)).any (·.1) || (backToKw pos (keywordEach kws X.env)).any (·.1.isNone)) = false)
    (ht : eval (.Call (.Attribute o m apos) [] kws pos) X.env = (do
      let ov ← eval o X.env
      standAt apos.atName
      let (f, first) ← holding [ov] (getMethod ov m pl)
      callWith pos f first (backTo pos (starEach [] X.env)) (backToKw pos (keywordEach kws X.env)))) : PE X (.Call (.Attribute o m apos) [] kws pos) (tMeN C m 0 ks.length sp gV E ta tNil tk) := by
  refine ⟨fun pins s σ H Q I h => ?_⟩
  refine PySem.W.methodCall_KW (pl := pl) (thn (he.run pins s σ H _ I h) fun u s1 ⟨x, H1, I1, rx, a, dx, fs, ex, ea, l, q⟩ => ?_) ht
  subst ex
  obtain rfl : u = Value.ref a := rx
  refine getmeth_ok I1 ea c hm l ?_
  refine PySem.W.callWith_KW0 (first := [.ref a]) (h₀ := X.base) I.ok.mod.kin hm.kp hall ?_ hpl
  refine thn (hkw.run pos pins s1 σ H1 _ I1 q) fun ws s3 ⟨zs, H3, I3, rz, l1, l2, q3⟩ => ⟨I3.kIn, ?_⟩
  rw [hks]
  exact run_fnN (us := [.ref a]) (vs := [.ref a]) F hr hb hx I3 (.cons rfl .nil) rz rfl l2 q3
end
structure Me (P : Program) (w : World) (K : PySem.W.Frag) (mg : Str → Option Value) (base : Heap) (B : Bs) (k : Nat) (c : Nat) (x : Str) (n0 : Nat) (ks : List Str) (g : List PV → List PV → List PV) (n : Nat) (m : MF) : Prop where
  ex : ∃ f fd ps gW gV, Meth K (B.cad c) x f ∧ FnOk P w K mg base (L2.CX P w) k f fd ps (spF B n m) ∧ KBn K fd ps (n0 + 1) ks gW gV ∧
    ∀ (W : Wd) (xs ys : List PV) (vs zs : List V), Reps B W xs vs → Reps B W ys zs → Reps B W (g xs ys) (gV vs zs)
theorem Me.mono {P : Program} {w : World} {K : PySem.W.Frag} {mg : Str → Option Value} {base : Heap} {B : Bs} {j k : Nat} {c : Nat} {x : Str} {n0 : Nat} {ks : List Str} {g : List PV → List PV → List PV} {n : Nat} {m : MF} (F : Me P w K mg base B j c x n0 ks g n m) (h : j ≤ k) : Me P w K mg base B k c x n0 ks g n m :=
  let ⟨f, fd, ps, gW, gV, a, b, d⟩ := F.ex
  ⟨f, fd, ps, gW, gV, a, b.mono h, d⟩
theorem MkC.mono {P : Program} {w : World} {K : PySem.W.Frag} {mg : Str → Option Value} {base : Heap} {B : Bs} {j k : Nat} {c : Nat} {x : Str} {n0 : Nat} {ks : List Str} {g : List PV → List PV → List PV} {n : Nat} {m : MF} (F : MkC P w K mg base B j x c n0 ks g n m) (h : j ≤ k) : MkC P w K mg base B k x c n0 ks g n m :=
  let ⟨f, fd, ps, gW, gV, a, b, d⟩ := F.ex
  ⟨f, fd, ps, gW, gV, a, b.mono h, d⟩
def clsOf (h : AH) (o : PV) : Option Nat := (insOf h o).map (·.1)
def eMe (c n0 nk n : Nat) (g : List PV → List PV → List PV) (m : MF) (mo : ME) (ma mk : MA) : ME := fun s => (mo s).bind fun o s1 => match clsOf s1.h o with
  | some c' => if c' = c ∧ isOwn o = false then (ma s1).bind fun vs s2 => (mk s2).bind fun zs s3 => if (vs.length = n0 ∧ zs.length = nk) ∧ allSh vs = true ∧ allSh zs = true then callH n m (g (o :: vs) zs) s3 else .bad else .bad
  | none => .bad
section
variable {X : Cx} {B : Bs} {N : Ent} {W W' : Wd} {s s' : S} {σ : L2.St} {H H' : Hp} {e o : Expr} {es : List Expr} {mo : ME} {ma mk : MA} {pos apos : Pos} {x : Str} {k n n0 nk c : Nat} {m : MF} {kws : List Keyword} {ks : List Str} {E : XK} {g : List PV → List PV → List PV} {fl : FL}
theorem zip_none : ∀ {ns : List Str} {vs : List V}, x ∉ ns → (ns.zip vs).lookup x = none
  | [], _, _ => rfl
  | n :: ns, [], _ => rfl
  | n :: ns, v :: vs, h => by
    simp only [List.mem_cons, not_or] at h
    rw [List.zip_cons_cons, List.lookup_cons, show (x == n) = false from beq_false_of_ne h.1]
    exact zip_none h.2
theorem me_read {gV : List V → List V → List V} (hx : x ∉ B.fld c) (hl : ks.length = nk) (hg : ∀ (W : Wd) (xs ys : List PV) (vs zs : List V), Reps B W xs vs → Reps B W ys zs → Reps B W (g xs ys) (gV vs zs)) {Q : VK} (h : tE B N (fun c d _ H => E c d H) (eMe c n0 nk n g m mo ma mk) σ H Q) :
    tMeN (B.cad c) x n0 ks.length (spF B n m) gV E (tE B N (fun c d _ H => E c d H) mo) (tA B N (fun c d _ H => E c d H) ma) (tA B N (fun c d _ H => E c d H) mk) σ H Q := by
  obtain ⟨W, s, r, h⟩ := h
  refine ⟨W, s, r, (h.bind r.slen).mono fun o1 W0 s0 H0 r0 _ q0 o' ro => ?_⟩
  split at q0
  · rename_i c' ec
    split at q0
    · rename_i hc0
      obtain ⟨rfl, ow⟩ := hc0
      unfold clsOf at ec
      cases ei : insOf s0.h o1 with
      | none => rw [ei] at ec; cases ec
      | some p =>
        obtain ⟨c1, fs⟩ := p
        rw [ei] at ec
        cases ec
        obtain ⟨a, dx, vs, rfl, hH, hle, rs⟩ := ins_ok r0.hr ro ei
        refine ⟨a, dx, _, rfl, hH, zip_none hx, W0, s0, r0, (q0.bind r0.slen).mono fun us W1 s1 H1 r1 st1 q us' ru => ⟨W1, s1, r1, (q.bind r1.slen).mono fun zs W2 s2 H2 r2 st2 q2 zs' rz => ?_⟩⟩
        split at q2
        · rename_i hc
          have r1' := (ru.reps hc.2.1).mono st2.st.le
          have r2' := rz.reps hc.2.2
          have ro' := ((ro.on r0.slen st1.st).on r1.slen st2.st).rep ow
          exact ⟨by rw [← r1'.length]; exact hc.1.1, by rw [← r2'.length, hl]; exact hc.1.2, call_fin r2 (hg _ _ _ _ _ (.cons ro' r1') r2') q2⟩
        · exact q2.elim
    · exact q0.elim
  · exact q0.elim
theorem sim_me {pl : Sem Bool} (F : Me X.prog X.w X.K X.mg X.base B k c x n0 ks g n m) (hc : Cls X.K (B.cad c)) (hx : x ∉ B.fld c) (tk : Takes X fun c d _ H => E c d H) (hr : Room k X.A) (ho : SimE X B N (fun c d _ H => E c d H) o mo)
    (ha : SimA X B N (fun c d _ H => E c d H) (e :: es) ma) (hkw : SimK X B N (fun c d _ H => E c d H) kws mk) (hl : ks.length = nk)
    (hall : (backToKw pos (keywordEach kws X.env)).all (·.1.isSome) = true) (hks : (backToKw pos (keywordEach kws X.env)).filterMap (·.1) = ks) (he : starEach (e :: es) X.env = (false, eval e X.env) :: starEach es X.env)
    (hpl : ((backTo pos (starEach (e :: es) X.env)).any (·.1) || (backToKw pos (keywordEach kws X.env)).any (·.1.isNone)) = false)
    (ht : eval (.Call (.Attribute o x apos) (e :: es) kws pos) X.env = (do
      let ov ← eval o X.env
      standAt apos.atName
      let (f, first) ← holding [ov] (getMethod ov x pl)
      callWith pos f first (backTo pos (starEach (e :: es) X.env)) (backToKw pos (keywordEach kws X.env)))) : SimE X B N (fun c d _ H => E c d H) (.Call (.Attribute o x apos) (e :: es) kws pos) (eMe c n0 nk n g m mo ma mk) := by
  obtain ⟨f, fd, ps, gW, gV, M, F1, hb, hg⟩ := F.ex
  exact (pe_meN ho hc M F1 hr hb (passes_call tk fun _ _ _ _ h => h) ha hkw hall hks he hpl ht).imp fun σ H Q h => me_read hx hl hg h
theorem sim_me0 {pl : Sem Bool} (F : Me X.prog X.w X.K X.mg X.base B k c x 0 ks g n m) (hc : Cls X.K (B.cad c)) (hx : x ∉ B.fld c) (tk : Takes X fun c d _ H => E c d H) (hr : Room k X.A) (ho : SimE X B N (fun c d _ H => E c d H) o mo)
    (hkw : SimK X B N (fun c d _ H => E c d H) kws mk) (hl : ks.length = nk)
    (hall : (backToKw pos (keywordEach kws X.env)).all (·.1.isSome) = true) (hks : (backToKw pos (keywordEach kws X.env)).filterMap (·.1) = ks)
    (hpl : ((backTo pos (starEach [] X.env)).any (·.1) || (backToKw pos (keywordEach kws X.env)).any (·.1.isNone)) = false)
    (ht : eval (.Call (.Attribute o x apos) [] kws pos) X.env = (do
      let ov ← eval o X.env
      standAt apos.atName
      let (f, first) ← holding [ov] (getMethod ov x pl)
      callWith pos f first (backTo pos (starEach [] X.env)) (backToKw pos (keywordEach kws X.env)))) : SimE X B N (fun c d _ H => E c d H) (.Call (.Attribute o x apos) [] kws pos) (eMe c 0 nk n g m mo aNil mk) := by
  obtain ⟨f, fd, ps, gW, gV, M, F1, hb, hg⟩ := F.ex
  refine (pe_meN0 ho hc M F1 hr hb (passes_call tk fun _ _ _ _ h => h) hkw hall hks hpl ht).imp fun σ H Q h => ?_
  obtain ⟨W, s, r, q⟩ := me_read (ma := aNil) hx hl hg h
  refine ⟨W, s, r, q.mono fun o1 W1 s1 H1 r1 _ z o' ro => ?_⟩
  obtain ⟨a, dx, fs, e1, e2, e3, z⟩ := z o' ro
  obtain ⟨W2, s2, r2, z⟩ := z
  exact ⟨a, dx, fs, e1, e2, e3, z.ok r2 [] trivial⟩
end
end Lp

set_option Elab.async false
set_option linter.all false
set_option maxRecDepth 100000
set_option maxHeartbeats 4000000
/-! Lp17: a lambda made and handed to a def. -/
namespace Lp
open PySem PySem.Spec PyProof.Rows L2 LamX

/-- what the making of a lambda changes: nothing, or its code object is new, told by the table at P -/
def LamH (H H1 : Hp) (P c1 : Addr) (q : Str) : Prop := H1 = H ∨ ∃ ps ps1, H P = some (.tbl ps) ∧ H c1 = none ∧ H1 = upd (upd H P (.tbl ps1)) c1 (CodeO c1 q)
theorem nt_code {c : Addr} {q : Str} : NT (CodeO c q) := codeO_ne
theorem tabs_snoc {T : List (Addr × Str)} {H : Hp} {P c1 : Addr} {q : Str} {pos : Pos} {ps : Array Value} (t : Tabs T H) (hm : (P, q) ∈ T) (hu : ∀ p ∈ T, p.1 = P → p.2 = q) (hP : H P = some (.tbl ps)) (hc : H c1 = none) :
    Tabs T (upd (upd H P (.tbl (ps ++ #[rawInt pos.line, rawInt pos.col, .ref c1]))) c1 (CodeO c1 q)) := by
  have old : ∀ b o, H b = some o → NT o → upd (upd H P (.tbl (ps ++ #[rawInt pos.line, rawInt pos.col, .ref c1]))) c1 (CodeO c1 q) b = some o := fun b o e n => by
    have n1 : b ≠ P := fun z => n ps (by rw [z, hP] at e; exact (Option.some.inj e).symm)
    rw [upd_ne (ne_of_none e hc), upd_ne n1]; exact e
  intro p hp
  obtain ⟨ps0, e0, tr, am⟩ := t p hp
  by_cases h : p.1 = P
  · have e0' := e0
    rw [h, hP] at e0'
    cases e0'
    refine ⟨_, by rw [h, upd_ne (ne_of_none hP hc), upd_same], ?_, fun pos' cv z => ?_⟩
    · rw [Array.toList_append]; exact PySem.TriplesOk_snoc _ _ _ _ tr
    · rw [Array.toList_append] at z
      rcases among_app _ tr z with z | z
      · obtain ⟨c0, f1, f2⟩ := am pos' cv z
        exact ⟨c0, f1, old _ _ f2 nt_code⟩
      · exact ⟨c1, z, by rw [upd_same, hu p hp h]⟩
  · refine ⟨ps0, by rw [upd_ne (ne_of_none e0 hc), upd_ne h]; exact e0, tr, fun pos' cv z => ?_⟩
    obtain ⟨c0, f1, f2⟩ := am pos' cv z
    exact ⟨c0, f1, old _ _ f2 nt_code⟩
section
variable {X : Cx} {pins : List (Addr × Obj)} {σ : L2.St} {H : Hp} {s : Shared}
theorem not_frame (I : Inv X pins σ H s) {f : Addr} (hf : s.heap.objs.size ≤ f) : f ∉ frs X.stack := fun z => by
  rcases List.mem_cons.mp (I.stkSub f z) with e | e
  · have h1 := I.lt
    rw [← e] at h1
    exact absurd (Nat.lt_of_lt_of_le h1 hf) (Nat.lt_irrefl f)
  · exact I.nofs hf e
abbrev lamO (X : Cx) (params : Arguments) (body : Expr) (scope : Scope) (pm : Value) (c1 : Addr) (ctv : Value) : Obj := PySem.W.kla_obj "<lambda>" (X.env.qual ++ "<lambda>") params body scope (cloFrom X.env.cells scope.names []) pm c1 ctv
theorem lam_new {T : List (Addr × Str)} {c P : Addr} {params : Arguments} {body : Expr} {scope : Scope} {pos : Pos} {E Q : Value → Shared → Prop} (I : Inv X pins σ H s) (B : TabB X.base X.mg c P) (hc : X.env.code = .ref c)
    (hm : (P, X.env.qual ++ "<lambda>") ∈ T) (hu : ∀ p ∈ T, p.1 = P → p.2 = X.env.qual ++ "<lambda>") (t : Tabs T H) (hd : defaultsOf params X.env = ([], [])) (hf : ∀ y ∈ scope.names, y.2 = .free → ∃ c, X.env.cells.lookup y.1 = some c)
    (k : ∀ (f c1 : Addr) (pm ctv : Value) (H1 : Hp) (s1 : Shared), Inv X pins σ H1 s1 → LamH H H1 P c1 (X.env.qual ++ "<lambda>") → Tabs T H1 → s1.heap.get? f = some (lamO X params body scope pm c1 ctv) → H1 f = none → f ∉ frs X.stack →
      H1 c1 = some (CodeO c1 (X.env.qual ++ "<lambda>")) → Q (.ref f) s1) : wpAny (model X.prog X.w) X.A (eval (.Lambda params body scope pos) X.env) Q E s := by
  obtain ⟨ps, eP, tr, am⟩ := t _ hm
  have gP : s.heap.get? P = some (PySem.W.tabObj ps) := I.hok P _ eP
  have ltP := Heap.lt_size gP
  have cl := closure_ok hf
  have ns := I.mod.glob.keeps I.bk
  have cd := B.code.keeps I.bk
  have bb := B.bm.keeps I.bk
  refine PySem.W.kla_eval hd ?_
  cases e : codeAmong pos ps.toList with
  | some cv =>
    obtain ⟨c1, rfl, o1⟩ := am pos cv e
    exact PySem.W.kla_makeFunctionHit cl I.ok.glob ns hc cd gP tr e bb fun ctv h1 tk hx sz =>
      k _ c1 _ ctv H _ (I.kept (h' := h1.push (lamO X params body scope ((X.mg "__name__").getD .none) c1 ctv)) (t' := tk) fun b o z => Heap.get?_push_of_some _ (hx b o z)) (.inl rfl) t (Heap.get?_push_size _ rfl) (I.hok.fresh sz) (not_frame I sz) o1
  | none =>
    refine PySem.W.kla_makeFunction cl I.ok.glob ns hc cd gP tr e B.gP bb fun c1 ctv h1 tk hx ge lt rc tb => ?_
    obtain ⟨c2, oc, vs, tq, z, g1, g2, g3⟩ := rc
    cases z
    have sz : s.heap.objs.size ≤ h1.objs.size := by omega
    have n1 : H c1 = none := I.hok.fresh ge
    have J := inv_table (t' := tk) (h' := h1.push (lamO X params body scope ((X.mg "__name__").getD .none) c1 ctv)) I eP (fun b o n z => Heap.get?_push_of_some _ (hx b o n z)) (Heap.get?_push_of_some _ tb) ge ⟨oc, vs, tq, Heap.get?_push_of_some _ g1, g2, g3⟩
    refine k _ c1 _ ctv _ _ J (.inr ⟨ps, _, eP, n1, rfl⟩) (tabs_snoc t hm hu eP n1) (Heap.get?_push_size _ rfl) ?_ (not_frame I sz) upd_same
    rw [upd_ne (Nat.ne_of_gt lt), upd_ne (Nat.ne_of_gt (Nat.lt_of_lt_of_le ltP sz))]
    exact I.hok.fresh sz
end
section
variable {B : Bs} {W : Wd} {h : AH} {H H1 : Hp} {P c1 : Addr} {q : Str}
theorem LamH.old (l : LamH H H1 P c1 q) {b : Addr} {o : HO} (e : H b = some o) (n : NT o) : H1 b = some o := by
  rcases l with rfl | ⟨ps, ps1, eP, ec, rfl⟩
  · exact e
  · rw [upd_ne (ne_of_none e ec), upd_ne fun z => n ps (by rw [z, eP] at e; exact (Option.some.inj e).symm)]; exact e
theorem LamH.none (l : LamH H H1 P c1 q) {b : Addr} (e : H1 b = none) : H b = none := by
  rcases l with rfl | ⟨ps, ps1, eP, ec, rfl⟩
  · exact e
  · by_cases h1 : b = c1
    · rw [h1, upd_same] at e; cases e
    · rw [upd_ne h1] at e
      by_cases h2 : b = P
      · rw [h2, upd_same] at e; cases e
      · rw [upd_ne h2] at e; exact e
theorem LamH.new (l : LamH H H1 P c1 q) {b : Addr} {o : HO} (e : H1 b = some o) : H b = some o ∨ (∃ ps, o = .tbl ps) ∨ o = CodeO c1 q := by
  rcases l with rfl | ⟨ps, ps1, eP, ec, rfl⟩
  · exact .inl e
  · by_cases h1 : b = c1
    · rw [h1, upd_same] at e; cases e; exact .inr (.inr rfl)
    · rw [upd_ne h1] at e
      by_cases h2 : b = P
      · rw [h2, upd_same] at e; cases e; exact .inr (.inl ⟨_, rfl⟩)
      · rw [upd_ne h2] at e; exact .inl e
theorem hrel_lam (hr : HRel B W h H) (l : LamH H H1 P c1 q) (t : Tabs B.T H1) : HRel B W h H1 := by
  refine ⟨fun a o e => l.old (hr.agree a o e) (hr.fz a o e), hr.len, hr.nd, fun a ha z => hr.mt a ha (l.none z), fun a o e nt => ?_, hr.fz, t, fun n c a e1 e2 => ?_⟩
  · rcases l.new e with z | ⟨ps, rfl⟩ | rfl
    · exact hr.hz a o z nt
    · exact absurd rfl (nt ps)
    · trivial
  · obtain ⟨g1, g2⟩ := hr.cell n c a e1 e2
    refine ⟨g1, ?_⟩
    cases c with
    | lst xs => obtain ⟨vs, h1, h2⟩ := g2; exact ⟨vs, l.old h1 nt_lst, h2⟩
    | dic ks => exact g2
    | ins c fs => obtain ⟨dx, vs, h1, h2, h3⟩ := g2; exact ⟨dx, vs, l.old h1 nt_ins, h2, h3⟩
theorem step_lam (hr : HRel B W h H) (l : LamH H H1 P c1 q) : Step W h H W h H1 :=
  ⟨.refl W, Nat.le_refl _, fun n c _ e => ⟨c, e⟩, fun a o e nt _ => l.old e nt, fun a e => l.none e, fun a e _ _ => e, hr.len, fun n a hn e => by
    have := (List.getElem?_eq_some_iff.mp e).1
    rw [hr.len] at this; omega⟩
end
end Lp

set_option Elab.async false
set_option linter.all false
set_option maxRecDepth 100000
set_option maxHeartbeats 4000000
/-! Lp18: own exceptions whose __init__ begins by super().__init__(TEXT). -/
namespace Lp
open PySem PySem.Spec PyProof.Rows L2 LamX NdefX

section
open PySem.W
variable {prog : Program} {w : World} {A : Around} {E : Value → Shared → Prop} {s : Shared} {K : Frag} {x C D u : Addr} {ox : Obj} {odx : Option Obj} {B i newId : String} {bmB : List Value}
/-- the super object's method -/
theorem sup_get {so : Addr} {pl : Sem Bool} {cd : ClassData} {Q : Value × List Value → Shared → Prop} (KF : KxsFacts B i) (X : K.In s.heap) (hso : s.heap.get? so = some (ks_superObj D x C)) (I : InstAt s.heap x ox C odx) (ho : nsIn K cStatics "thirdparty.any" = some none)
    (hc : clsIn K C = some cd) (hm : ks_superIn K C D "__init__" = some (some (.builtin i))) (hB : subIn K (.ref C) (.type B) = some true)
    (h : Q (.ref s.heap.objs.size, []) { s with heap := s.heap.push (kxs_mw i x), toks := s.toks + 1 }) : wpAny (model prog w) A (getMethod (.ref so) "__init__" pl) Q E s := by
  have hI : Looks (model prog w) s.heap (isInstance (.ref x) (.type B)) true := I.type.andThen (looks_subIn X hB)
  obtain ⟨hh, g, d, t, os⟩ := s
  unfold ks_superIn at hm
  rw [hc] at hm
  exact kxs_getMethod KF hso (looks_opaque X ho) (l₀ := cd.mro) (fun A Q E s k q => wpAny_bind ((looks_clsIn X hc) A _ E s k (wpAny_pure q))) rfl X hm hI (ks_ne X I hc) rfl h
/-- .. called -/
theorem sup_call {t : Addr} {rest : List Value} {Q : Value → Shared → Prop} (FB : ExcBaseFacts B newId i bmB) (X : K.In s.heap) (q : excInitIn K C bmB newId = true) (hu : s.heap.get? u = some (kxs_mw i x)) (he : s.heap.get? x = some (excObj C t none .none)) (hz : rest.length ≤ sizeLine)
    (fin : ∀ h' t', (∀ b o, b ≠ x → s.heap.get? b = some o → h'.get? b = some o) → h'.get? x = some (excObj C t' none .none) → Q .none { s with heap := h' }) :
    wpAny (model prog w) A (call (.ref u) rest) Q E s := by
  obtain ⟨nm, N', qn, bs, bm, hdct, sn, sub, ab, col, dd, k0, k1, k2, k3, k5, hC, hT⟩ := excInit_of X q
  obtain ⟨hh, g, d, tk, os⟩ := s
  refine wpAny_call (codeAny_of_tree ?_)
  show wpAny _ A.in1 (callAny (.ref u) ⟨rest, []⟩) _ _ _
  simp only [callAny]
  refine wpAny_bind (wpAny_load hu ?_)
  simp only [kxs_mw, show (Value.type "method-wrapper" == Value.type "method" || Value.type "method-wrapper" == Value.type "builtin_function_or_method" || Value.type "method-wrapper" == Value.type "method-wrapper") = true by decide, if_true]
  refine KFB.if_so (by decide) ?_
  refine wpAny_bind (check_bound_init FB.toExcCallFacts hC he rfl ?_)
  refine wpAny_bind (wpAny_pure (wpAny_pure ?_))
  refine ⟨plainId_quiet FB.init.plain _, codeAny_builtin FB.initEntry ?_⟩
  exact exc_init_tree (cls := .ref C) (t0 := t) (dv := none) (c2 := .none) (c3 := .none) (b4 := .bool false) he hz fun h' k e' _ => fin h' _ k e'
end

/-- an __init__ that begins by super().__init__(TEXT): where it stands; D its class -/
structure SupF (P : Program) (K : PySem.W.Frag) (D : Addr) (qual : Str) (params : Arguments) (body : List Stmt) (scope : Scope) (f cc cda : Addr) (fd : FuncData) : Prop where
  fn : ∃ (oc : Value) (od : Option Addr) (dV kV doc pm : Value) (an : Option Addr) (ct : Value) (osl : Array (Option Value)), fd = PySem.W.ksFn "__init__" qual params body scope dV kV doc pm an (.ref cda) ct cc ∧ K.lookup f = some ⟨oc, od, .func fd, osl⟩
  code : PySem.W.codeIn K (.ref cda) qual = true
  file : ∃ (ccl : Value) (cdd : Option Addr) (vs : Array Value) (ccs : Array (Option Value)) (file : Str) (tf : Tok), K.lookup cda = some ⟨ccl, cdd, .fields vs, ccs⟩ ∧ vs[2]? = some (.str file tf) ∧ ((P.main.file : Str) == file) = true
  cell : ∃ (cl : Value) (cld : Option Addr) (csl : Array (Option Value)), K.lookup cc = some ⟨cl, cld, .cell (some (.ref D)), csl⟩
  cls : ∃ cd, PySem.W.clsIn K D = some cd
  sta : PySem.W.nsIn K cStatics "thirdparty.any" = some none
  self : ∃ ar : Arg, (params.posonlyargs ++ params.args).head? = some ar ∧ ar.arg = ("self" : Str)
  hs : scope.names.lookup ("super" : Str) = some .globalImplicit
  hc : scope.names.lookup ("__class__" : Str) = some .free
  hl : scope.names.lookup ("self" : Str) = some .local
  top : (P.main.scope.names.lookup ("super" : Str)).isSome = false
/-- what the written part says of an exception class over the built-in B -/
structure SupC (K : PySem.W.Frag) (B i newId : String) (bmB : List Value) (C D : Addr) : Prop where
  ini : PySem.W.excInitIn K C bmB newId = true
  sup : PySem.W.ks_superIn K C D "__init__" = some (some (.builtin i))
  sub : PySem.W.subIn K (.ref C) (.type B) = some true
  mro : PySem.W.mroIn K C (.ref D) = some true
section
variable {P : Program} {w : World} {K : PySem.W.Frag} {mg : Str → Option Value} {base : Heap} {CX : CXT} {D f cc cda C a : Addr} {qual : Str} {params : Arguments} {body : List Stmt} {scope : Scope} {fd : FuncData} {A : Around} {outer : List Env} {s0 s : Shared} {H H0 : Hp} {E : XK} {N : List Str} {pins : List (Addr × Obj)} {σ : L2.St}
variable {B i newId : String} {bmB : List Value} {TEXT : Str} {j : Nat} {p0 p1 p2 p3 cp ap : Pos}
abbrev supNF (qual : Str) (params : Arguments) (body : List Stmt) (scope : Scope) (cc cda : Addr) : NF := ⟨"__init__", qual, params, body, scope, [("__class__", cc)], cda⟩
theorem sup_stmt {pl : Sem Bool} {body' : List Stmt} {E' : Value → Shared → Prop} {R : Flow → Shared → Prop} (S : SupF P K D qual params body scope f cc cda fd) (T : SupC K B i newId bmB C D) (KF : PySem.W.KxsFacts B i) (FB : ExcBaseFacts B newId i bmB) (hsu : mg "super" = none)
    (I : Inv (ncx CX P w K mg base N (supNF qual params body scope cc cda) f A outer s0 H0 E) pins σ H s) (hN : N[0]? = some ("self" : Str)) (h0 : σ[0]? = some (some (.ref a))) (ha : H a = some (exo a C none))
    (ht : eval (.Call (.Attribute (.Call (.Name "super" p0) [] [] p1) "__init__" ap) [.Constant (.str TEXT) j cp] [] p2) (envF (supNF qual params body scope cc cda) f s0.heap.objs.size) = (do
      let ov ← attributeBase (.Call (.Name "super" p0) [] [] p1) "__init__" (envF (supNF qual params body scope cc cda) f s0.heap.objs.size) (eval (.Call (.Name "super" p0) [] [] p1) (envF (supNF qual params body scope cc cda) f s0.heap.objs.size))
      standAt ap.atName
      let (f1, first) ← holding [ov] (getMethod ov "__init__" pl)
      callWith p2 f1 first (backTo p2 (starEach [.Constant (.str TEXT) j cp] (envF (supNF qual params body scope cc cda) f s0.heap.objs.size))) []))
    (h : ∀ s', Inv (ncx CX P w K mg base N (supNF qual params body scope cc cda) f A outer s0 H0 E) pins σ H s' → R .next s') :
    _root_.PySem.wpAt (model P w) (A.deeper (envF (supNF qual params body scope cc cda) f s0.heap.objs.size)) (.func body' (envF (supNF qual params body scope cc cda) f s0.heap.objs.size))
      (exec (.Expr (.Call (.Attribute (.Call (.Name "super" p0) [] [] p1) "__init__" ap) [.Constant (.str TEXT) j cp] [] p2) p3) (envF (supNF qual params body scope cc cda) f s0.heap.objs.size)) R E' s := by
  obtain ⟨oc, od, dV, kV, doc, pm, an, ct, osl, rfl, lk⟩ := S.fn
  obtain ⟨ccl, cdd, vs, ccs, file, tf, lc, hvs, hfile⟩ := S.file
  obtain ⟨cl, cld, csl, lcc⟩ := S.cell
  obtain ⟨cdD, hD⟩ := S.cls
  obtain ⟨ar, hp, har⟩ := S.self
  have X := I.kIn
  have X : K.In s.heap := X
  obtain ⟨oD, hD1, hD2⟩ : ∃ oD, s.heap.get? D = some oD ∧ oD.data = .cls cdD := by
    unfold PySem.W.clsIn at hD
    split at hD
    · rename_i c d cd' sl ho
      cases hD
      exact ⟨_, X _ _ ho, rfl⟩
    · cases hD
  obtain ⟨t1, hx⟩ := exo_at I.hok ha
  have hcC : ∃ cd, PySem.W.clsIn K C = some cd := by
    have q := T.mro
    unfold PySem.W.mroIn at q
    cases e : PySem.W.clsIn K C with
    | none => rw [e] at q; cases q
    | some cd => exact ⟨cd, rfl⟩
  obtain ⟨cdC, hcC⟩ := hcC
  have Ins : ∀ {h' : Heap}, h'.get? a = some (PySem.W.excObj C t1 none .none) → PySem.W.InstAt h' a (PySem.W.excObj C t1 none .none) C none := fun e => ⟨e, rfl, rfl, trivial⟩
  have hint : interactive (envF (supNF qual params body scope cc cda) f s0.heap.objs.size) = false := by
    have hk : scope.kind = .function := I.ok.kind
    unfold interactive
    simp [hk]
  refine PySem.ks_wpAt_Expr_any ?_ hint
  refine PySem.ks_wpAt_MethodCall (pl := pl) ?_ ht
  refine PySem.ks_wpAt_super_base (env := envF (supNF qual params body scope cc cda) f s0.heap.objs.size) S.hs S.hc rfl rfl (X _ _ lk) rfl hp rfl (X _ _ lc) rfl hvs hfile S.top ?_
  obtain ⟨mb, b1, b2⟩ := I.mod.blt
  have b1 : base.Ns builtinsNs mb := b1
  refine PySem.W.ks_loadName_global I.ok.kind S.hs (Calls.loadGlobal_builtin (env := envF (supNF qual params body scope cc cda) f s0.heap.objs.size) (I.mod.glob.keeps I.bk) hsu (b1.keeps I.bk) ((b2 _ (by decide)).trans (show bootBuiltins "super" = some (.type "super") by decide +kernel)) ⟨rfl, ?_⟩)
  refine wpAny_loadName_free I.ok.kind S.hc rfl ⟨_, X _ _ lcc, rfl⟩ ?_
  obtain ⟨m, hns, hl⟩ := I.loc
  obtain ⟨u, ru, lu⟩ := hl 0 "self" _ hN h0 (.inl S.hl)
  obtain rfl : u = Value.ref a := ru
  have hm : m ("self" : Str) = some (.ref a) := by
    rcases lu with ⟨_, z⟩ | ⟨z, _⟩
    · exact z
    · have z : scope.names.lookup ("self" : Str) = some .cell ∨ scope.names.lookup ("self" : Str) = some .free := z
      rw [S.hl] at z
      rcases z with z | z <;> cases z
  rw [har]
  refine wpAny_loadName_local I.ok.kind S.hl hns hm ?_
  have I0 := I
  obtain ⟨hh, g, d, t, os⟩ := s
  refine PySem.ks_wpAny_isType_cls hD1 hD2 ⟨rfl, ?_⟩
  refine PySem.ks_wpAny_call_super hD1 hD2 hx rfl (fun c z => nomatch z) (PySem.W.looks_mroIn X T.mro) (fun h1 e1 k1 => ?_)
  have I1 := I.kept (h' := h1) (t' := t) k1
  refine sup_get (s := ⟨h1, g, d, t, os⟩) (pl := _) KF I1.kIn e1 (Ins (k1 _ _ hx)) S.sta hcC T.sup T.sub ?_
  have k2 : ∀ b o, h1.get? b = some o → (h1.push (PySem.W.kxs_mw i a)).get? b = some o := fun b o e => Heap.get?_push_of_some _ e
  have I2 := I1.kept (h' := h1.push (PySem.W.kxs_mw i a)) (t' := t + 1) k2
  have hu : (h1.push (PySem.W.kxs_mw i a)).get? h1.objs.size = some (PySem.W.kxs_mw i a) := Heap.get?_push_at rfl rfl
  refine PySem.W.kxs_callWith (i := i) (x := a) rfl ?_
  refine Calls.evalArgs_plain ?_
  refine Calls.spliced_cons (Calls.Constant_str (pos := cp) (k := j) ?_)
  refine Calls.spliced_nil ⟨hu, ?_⟩
  refine sup_call (s := ⟨h1.push (PySem.W.kxs_mw i a), g, d, t + 1 + 1, os⟩) FB I2.kIn T.ini hu (k2 _ _ (k1 _ _ hx)) (by rw [sizeLine_eq]; exact Nat.le_of_ble_eq_true rfl) fun h' t' k' e' => ?_
  have J := (I2.tok (t + 1 + 1)).write (h' := h') (t' := t + 1 + 1) (x := a) (e := a) (o := exo a C none) (by rw [ha]; exact True.intro) (.inl rfl) k' ⟨_, e'⟩ (exo_ok e')
  have eu : upd H a (exo a C none) = H := by
    funext b
    by_cases hb : b = a
    · rw [hb, upd_same, ha]
    · rw [upd_ne hb]
  rw [eu] at J
  exact h _ J
/-- THE RULE: super().__init__(TEXT), then the rest -/
theorem sup_ok {st0 : Stmt} {rest : List Stmt} {sp : Sp} {k : Nat} {ps N : List Str} (S : SupF P K D qual params (st0 :: rest) scope f cc cda fd) (KF : PySem.W.KxsFacts B i) (FB : ExcBaseFacts B newId i bmB) (hsu : mg "super" = none) (sc : NScope N ps ["__class__"] scope)
    (hps : ps[0]? = some ("self" : Str)) (e0 : st0 = .Expr (.Call (.Attribute (.Call (.Name "super" p0) [] [] p1) "__init__" ap) [.Constant (.str TEXT) j cp] [] p2) p3)
    (ht : ∀ L : Addr, ∃ pl : Sem Bool, eval (.Call (.Attribute (.Call (.Name "super" p0) [] [] p1) "__init__" ap) [.Constant (.str TEXT) j cp] [] p2) (envF (supNF qual params (st0 :: rest) scope cc cda) f L) = (do
      let ov ← attributeBase (.Call (.Name "super" p0) [] [] p1) "__init__" (envF (supNF qual params (st0 :: rest) scope cc cda) f L) (eval (.Call (.Name "super" p0) [] [] p1) (envF (supNF qual params (st0 :: rest) scope cc cda) f L))
      standAt ap.atName
      let (f1, first) ← holding [ov] (getMethod ov "__init__" pl)
      callWith p2 f1 first (backTo p2 (starEach [.Constant (.str TEXT) j cp] (envF (supNF qual params (st0 :: rest) scope cc cda) f L))) []))
    (hsp : ∀ vs H Q E, sp vs H Q E → vs.length = ps.length ∧ ∃ (a C : Addr) (us : List V), vs = .ref a :: us ∧ H a = some (exo a C none) ∧ SupC K B i newId bmB C D)
    (hbody : ∀ (A : Around) (outer : List Env) (s : Shared) (H : Hp) (vs : List V) (Q : VK) (E : XK), Room k (A.deeper (envF (supNF qual params (st0 :: rest) scope cc cda) f s.heap.objs.size)) → sp vs H Q E →
      ∃ t, PSs (ncx CX P w K mg base N (supNF qual params (st0 :: rest) scope cc cda) f A outer s H E) rest t ∧ t { nx := fun _ H' => Q .non H', rt := Q } (startF N vs [some (.ref D)]) H) :
    FnOk P w K mg base CX (k + 1) f fd ps sp := by
  refine ⟨fun vs H Q E q => (hsp vs H Q E q).1, fun A outer s H args us vs Q E hr e1 hb r q => ?_⟩
  obtain ⟨hl, a, C, us', rfl, ha, T⟩ := hsp _ _ _ _ q
  have S0 := S
  obtain ⟨oc, od, dV, kV, doc, pm, an, ct, osl, rfl, lk⟩ := S.fn
  obtain ⟨cl, cld, csl, lcc⟩ := S.cell
  have KX : K.In s.heap := e1.mod.kin.keeps fun b o e => (e1.bs b o e).1
  have lim : s.heap.NoLimit := e1.mod.nolimit.keeps fun b o e => (e1.bs b o e).1
  have hcc0 : H cc = none := (e1.bs cc _ (e1.mod.kin _ _ lcc)).2
  have CA : CellsAt [(("__class__" : Str), cc)] ["__class__"] [some (.ref D)] s.heap H := by
    have one : ∀ (y : Str) (c : Addr), ([(("__class__" : Str), cc)] : List (Str × Addr)).lookup y = some c → y = "__class__" ∧ c = cc := fun y c e => by
      rw [List.lookup_cons] at e
      split at e
      · rename_i z; cases e; exact ⟨beq_iff_eq.mp z, rfl⟩
      · cases e
    refine ⟨rfl, fun y c e => ?_, fun x y c e1 e2 => ?_, fun i y e => ?_⟩
    · obtain ⟨_, rfl⟩ := one y c e
      exact ⟨hcc0, _, _, KX _ _ lcc, rfl⟩
    · rw [(one x c e1).1, (one y c e2).1]
    · cases i with
      | zero =>
        cases e
        refine ⟨cc, rfl, fun v ev => ?_⟩
        cases ev
        exact ⟨.ref D, rfl, _, KX _ _ lcc, rfl⟩
      | succ i => simp at e
  have hk : scope.kind = .function := sc.kind
  refine PySem.ks_codeAny_call_defAt (fd := PySem.W.ksFn "__init__" qual params (st0 :: rest) scope dV kV doc pm an (.ref cda) ct cc) (body := st0 :: rest) (binds := ps.zip us) hr.depth (KX _ _ lk) rfl lim (PySem.W.codeRec_of KX S.code) rfl hb sc.nocell (fun ⟨n, _⟩ hy => sc.par n (List.of_mem_zip hy).1) (fun h₁ hns kp => ?_) sc.co sc.gen hk
  have I : Inv (ncx CX P w K mg base N (supNF qual params (st0 :: rest) scope cc cda) f A outer s H E) [] (startF N (.ref a :: us') [some (.ref D)]) H { s with heap := h₁, toks := s.toks + (ps.zip us).length } := inv_startN sc hr.hd e1 hl r CA hns kp
  obtain ⟨pl, ht⟩ := ht s.heap.objs.size
  show _root_.PySem.wpAt (model P w) (A.deeper (envF (supNF qual params (st0 :: rest) scope cc cda) f s.heap.objs.size)) (.func (st0 :: rest) (envF (supNF qual params (st0 :: rest) scope cc cda) f s.heap.objs.size)) (execs (st0 :: rest) (envF (supNF qual params (st0 :: rest) scope cc cda) f s.heap.objs.size)) _ _ _
  refine PySem.ks_wpAt_execs_cons ?_
  have hN : N[0]? = some ("self" : Str) := by
    have q := sc.pre
    have : (N.take (ps.length + (["__class__"] : List Str).length))[0]? = (ps ++ (["__class__"] : List Str))[0]? := by rw [q]
    rw [List.getElem?_take_of_lt (by simp)] at this
    rw [this, List.getElem?_append_left (by rw [← hl]; simp)]
    exact hps
  subst e0
  refine sup_stmt (R := _) S0 T KF FB hsu I hN rfl ha ht fun s' J => ?_
  obtain ⟨t, hp, hq⟩ := hbody A outer s H _ Q E (hr.deeper _) q
  refine wpAt_of_wpAny (wpAny_mono (hp.run [] s' _ H _ J hq) (fun fl s2 hs => ?_) fun _ _ z => z)
  cases fl with
  | ret u =>
    obtain ⟨v, σ', H', J, rv, q⟩ := hs
    exact ⟨v, H', J.os, J.bare, J.base, J.hok, rv, q⟩
  | next =>
    obtain ⟨σ', H', J, q⟩ := hs
    exact ⟨V.non, H', J.os, J.bare, J.base, J.hok, rfl, q⟩
  | brk =>
    obtain ⟨_, _, _, q⟩ := hs
    exact False.elim q
  | cont =>
    obtain ⟨_, _, _, q⟩ := hs
    exact False.elim q
end
end Lp

set_option Elab.async false
set_option linter.all false
set_option maxRecDepth 100000
set_option maxHeartbeats 4000000
/-! Lp18b: stores into an exception that is being made, whatever built-in class it stands over. -/
namespace Lp
open PySem PySem.Spec PyProof.Rows L2 LamX NdefX
/-- what is asked of the class at C, over a built-in with the classes bmB -/
structure OexB (K : PySem.W.Frag) (bmB : List Value) (C : Addr) : Prop where
  over : PySem.W.excOver K C bmB = true
  hd : ∃ cd, PySem.W.clsIn K C = some cd ∧ cd.hasDict = true
  sa : PySem.W.findIn K (.ref C) "__setattr__" = some (some (.builtin "object.__setattr__"))
section
open PySem.W Builtin Builtin.ObjectAttr
variable {prog : Program} {w : World} {A : Around} {R : Result → Shared → Prop} {hp : Heap} {g : Array GenState} {d : Drawn} {t : Nat} {os : OsState} {K : Frag} {bmB : List Value} {B : String} {C x dx : Addr} {name : Str} {tk : Tok} {v : Value}
theorem taker_no (ha : findIn K (.ref C) name = some none) : takerIn K C name = some none := by
  unfold takerIn
  rw [ha]; rfl
theorem osaB_new {t1 : Addr} (SF : StoreFacts B bmB "object.__setattr__" "object") (O : OexB K bmB C) (X : K.In hp) (hx : hp.get? x = some (excObj C t1 none .none)) (ha : findIn K (.ref C) name = some none)
    (hq : ∀ h' tk' dx, (∀ b o, b ≠ x → hp.get? b = some o → h'.get? b = some o) → hp.objs.size ≤ dx → dx ≠ x → h'.get? x = some (excObj C t1 (some dx) .none) → h'.Ns1 dx (fun y => if y = name then some v else none) → R (.ok (.ret .none)) ⟨h', g, d, tk', os⟩) :
    codeAny (model prog w) A (.call (.builtin "object.__setattr__") ⟨[.ref x, .str name tk, v], []⟩) R ⟨hp, g, d, t, os⟩ := by
  obtain ⟨cd, hcd, hh⟩ := O.hd
  have xs : x ≠ hp.objs.size := Nat.ne_of_lt (Heap.lt_size hx)
  have hcls : Looks (model prog w) hp (classData C) cd := looks_clsIn X hcd
  refine osa_openX (ox := excObj C t1 none .none) (od := none) SF X ⟨hx, rfl, rfl, trivial⟩ O.over (taker_no ha) fun b => ?_
  obtain ⟨nm, bs, mro, ns, qn, hd, sn, sb, ab, col, del⟩ := cd
  dsimp only at hh
  subst hh
  dsimp only
  unfold storeInOwnDict ownDictForStores
  repeat (first | with_reducible refine HandSPX.store_in_new ?_ ?_ | with_reducible refine wpAny_loadPart_at hx ?_ | with_reducible refine hcls.at ?_ | wp_step)
  · have e0 := (Heap.get?_update_ne _ _ _ (fun o => { o with dict := some hp.objs.size }) xs.symm).trans (Heap.get?_push_at (h := hp) (o := { cls := .type "dict", data := .dict #[] }) rfl rfl)
    exact ⟨_, #[], _, e0, rfl, fun e he => absurd he (by simp), fun _ => rfl⟩
  · intro h' tk' hn' hs
    have hx1 : (hp.push { cls := .type "dict", data := .dict #[] }).get? x = some (excObj C t1 none .none) := Heap.get?_push_of_some _ hx
    refine hq h' tk' hp.objs.size (fun b o hb ho => ?_) (Nat.le_refl _) xs.symm ((hs.2 x xs).trans (Heap.get?_update_self _ hx1 rfl)) hn'
    refine (hs.2 b (Nat.ne_of_lt (Heap.lt_size ho))).trans ?_
    exact (Heap.get?_update_ne _ _ _ _ hb).trans (Heap.get?_push_of_some _ ho)
theorem osaB_old {t1 : Addr} {m0 : Str → Option Value} {nl : List Str} (SF : StoreFacts B bmB "object.__setattr__" "object") (O : OexB K bmB C) (X : K.In hp) (hx : hp.get? x = some (excObj C t1 (some dx) .none)) (hns : hp.Ns1 dx m0) (hw : Within m0 nl) (hz : nl.length ≤ 1000) (ha : findIn K (.ref C) name = some none)
    (hq : ∀ h' tk', (∀ b o, b ≠ dx → hp.get? b = some o → h'.get? b = some o) → h'.Ns1 dx (fun y => if y = name then some v else m0 y) → R (.ok (.ret .none)) ⟨h', g, d, tk', os⟩) :
    codeAny (model prog w) A (.call (.builtin "object.__setattr__") ⟨[.ref x, .str name tk, v], []⟩) R ⟨hp, g, d, t, os⟩ := by
  obtain ⟨cd, hcd, hh⟩ := O.hd
  obtain ⟨oD, esD, epD, hoD, hdD, _⟩ := hns.count hw
  have hcls : Looks (model prog w) hp (classData C) cd := looks_clsIn X hcd
  refine osa_openX (ox := excObj C t1 (some dx) .none) (od := some oD) SF X ⟨hx, rfl, rfl, hoD⟩ O.over (taker_no ha) fun b => ?_
  obtain ⟨nm, bs, mro, ns, qn, hd, sn, sb, ab, col, del⟩ := cd
  dsimp only at hh
  subst hh
  dsimp only
  unfold storeInOwnDict ownDictForStores
  repeat (first | with_reducible refine OEX.store_in_old hns hw hz ?_ | with_reducible refine wpAny_loadPart_at hx ?_ | with_reducible refine hcls.at ?_ | wp_step)
  intro h' tk' hn' hs
  exact hq h' tk' (fun b o hb ho => (hs.2 b hb).trans ho) hn'
end
section
variable {X : Cx} {pins : List (Addr × Obj)} {σ : L2.St} {H : Hp} {s : Shared} {a C dx : Addr} {f : Str} {y : V} {u : Value} {fs : List (Str × V)} {Q : Unit → Shared → Prop} {E : Value → Shared → Prop} {A : Around} {bmB : List Value} {B : String}
theorem ostB_new (SF : StoreFacts B bmB "object.__setattr__" "object") (T : OexB X.K bmB C) (I : Inv X pins σ H s) (e : H a = some (exo a C none)) (hno : PySem.W.findIn X.K (.ref C) f = some none) (ry : RelV y u)
    (h : ∀ dx s', H dx = none → dx ≠ a → Inv X pins σ (upd (upd H dx (exd dx [(f, y)])) a (exo a C (some dx))) s' → Q () s') : wpAny (model X.prog X.w) A (setAttr (.ref a) f u) Q E s := by
  obtain ⟨t1, ho⟩ := exo_at I.hok e
  obtain ⟨hp, g, d, t, os⟩ := s
  refine PySem.W.set_plain I.kIn (ox := PySem.W.excObj C t1 none .none) (od := none) ⟨ho, rfl, rfl, trivial⟩ T.sa ?_
  refine osaB_new SF T I.kIn ho hno fun h' tk' dx k dn dne hx hn => ?_
  have hnd : H dx = none := I.hok.fresh dn
  have nd : ∀ {b : Addr} {o : Obj}, hp.get? b = some o → b ≠ dx := fun {b o} q z => Nat.lt_irrefl _ (Nat.lt_of_lt_of_le (z ▸ Heap.lt_size q) dn)
  have na : ∀ {b : Addr}, H b = none → b ≠ a := fun {b} n z => by
    rw [z, e] at n
    cases n
  have k1 : ∀ {b : Addr} {o : Obj}, H b = none → hp.get? b = some o → h'.get? b = some o := fun {b o} n q => k b o (na n) q
  have U : Un X.fs [] H (upd (upd H dx (exd dx [(f, y)])) a (exo a C (some dx))) hp h' := by
    refine ⟨fun b o q n _ _ => k1 n q, fun b o q n _ _ => ⟨o.slots, k1 n q⟩, fun b o q n _ => ?_, fun b o q _ => ?_, fun b xs q => ?_, fun b o v q => ?_, fun b ps q => ⟨#[], ?_⟩⟩
    · rw [upd_ne (na n), upd_ne (nd q)]; exact n
    · by_cases hb : b = a
      · subst hb; exact ⟨_, hx⟩
      · exact ⟨o, k b o hb q⟩
    · rw [upd_ne (at_ne e q exo_tup), upd_ne (ne_of_none q hnd)]; exact q
    · rw [upd_ne (at_ne e q exo_frz), upd_ne (ne_of_none q hnd)]; exact q
    · rw [upd_ne (at_ne e q exo_tbl), upd_ne (ne_of_none q hnd), q, Array.append_empty]
  refine h dx _ hnd dne (I.un (t' := tk') U fun b o q => ?_)
  by_cases hb : b = a
  · subst hb
    rw [upd_same] at q
    cases q
    exact exo_ok hx
  rw [upd_ne hb] at q
  by_cases hd : b = dx
  · subst hd
    rw [upd_same] at q
    cases q
    exact exd_ok hn (relO_put (fs := []) ry fun g => True.intro)
  rw [upd_ne hd] at q
  refine (I.hok b o q).stay (fun c v hc z => k c v ?_ z) (fun c hc => ?_) fun c xs hc => ?_
  · rcases hc with rfl | hc
    · exact hb
    · exact at_ne e hc exo_own
  · rw [upd_ne (at_ne e hc exo_own), upd_ne (ne_of_none hc hnd)]; exact hc
  · rw [upd_ne (at_ne e hc exo_tup), upd_ne (ne_of_none hc hnd)]; exact hc
theorem ostB_old (SF : StoreFacts B bmB "object.__setattr__" "object") (T : OexB X.K bmB C) (I : Inv X pins σ H s) (e : H a = some (exo a C (some dx))) (ed : H dx = some (exd dx fs)) (hl : fs.length ≤ 900) (hno : PySem.W.findIn X.K (.ref C) f = some none) (ry : RelV y u)
    (h : ∀ s', Inv X pins σ (upd H dx (exd dx ((f, y) :: fs))) s' → Q () s') : wpAny (model X.prog X.w) A (setAttr (.ref a) f u) Q E s := by
  obtain ⟨t1, ho⟩ := exo_at I.hok e
  obtain ⟨mA, hns, rel⟩ := exd_at I.hok ed
  have hw := within_of rel
  obtain ⟨hp, g, d, t, os⟩ := s
  obtain ⟨oD, _, _, hoD, _, _⟩ := hns.count hw
  refine PySem.W.set_plain I.kIn (ox := PySem.W.excObj C t1 (some dx) .none) (od := some oD) ⟨ho, rfl, rfl, hoD⟩ T.sa ?_
  refine osaB_old SF T I.kIn ho hns hw (by rw [List.length_map]; omega) hno fun h' tk' k hn => ?_
  have hd : ∃ o, h'.get? dx = some o := let ⟨o, _, _, e', _⟩ := hn; ⟨o, e'⟩
  have J := I.write (t' := tk') (x := dx) (e := dx) (o := exd dx ((f, y) :: fs)) (by rw [ed]; exact True.intro) (.inl rfl) k hd (exd_ok hn (relO_put ry rel))
  exact h _ J
end
/-- self.f = e within an exception's making -/
def tOstB (K : PySem.W.Frag) (bmB : List Value) (f : Str) (to te : TE) : TS := fun D σ H => te σ H fun y H1 => to σ H1 fun x H2 => ∃ a C : Addr, x = .ref a ∧ OexB K bmB C ∧ PySem.W.findIn K (.ref C) f = some none ∧
  ((H2 a = some (exo a C none) ∧ ∀ dx, H2 dx = none → dx ≠ a → D.nx σ (upd (upd H2 dx (exd dx [(f, y)])) a (exo a C (some dx)))) ∨
    ∃ (dx : Addr) (fs : List (Str × V)), H2 a = some (exo a C (some dx)) ∧ H2 dx = some (exd dx fs) ∧ fs.length ≤ 900 ∧ D.nx σ (upd H2 dx (exd dx ((f, y) :: fs))))
theorem ps_ostB {X : Cx} {o e : Expr} {to te : TE} {f : Str} {p' pos : Pos} {bmB : List Value} {B : String} (SF : StoreFacts B bmB "object.__setattr__" "object") (ho : PE X o to) (he : PE X e te) (hs : swapsWith e (some (.Attribute o f p')) pos.line X.env = pure false := by rfl) :
    PS X (.Assign [.Attribute o f p'] e pos) (tOstB X.K bmB f to te) := by
  refine ⟨fun pins s σ H D I h => plainObj_wpAny_Assign_Attribute (thn (he.run pins s σ H _ I h) fun v s1 ⟨y, H1, I1, r1, q1⟩ => thn (ho.run pins s1 σ H1 _ I1 q1) fun u s2 ⟨x, H2, I2, r2, a, C, ex, T, hno, q⟩ => ?_) hs⟩
  subst ex
  obtain rfl : u = Value.ref a := r2
  rcases q with ⟨ea, q⟩ | ⟨dx, fs, ea, ed, hl, q⟩
  · exact ostB_new SF T I2 ea hno r1 fun dx s' n ne J => ⟨σ, _, J, q dx n ne⟩
  · exact ostB_old SF T I2 ea ed hl hno r1 fun s' J => ⟨σ, _, J, q⟩
end Lp

set_option Elab.async false
set_option linter.all false
set_option maxRecDepth 100000
set_option maxHeartbeats 4000000
/-! Lp19: own exceptions made and raised. -/
namespace Lp
open PySem PySem.Spec PyProof.Rows L2 LamX NdefX

/-- what an __init__ of an exception of the class at C does: n values by place; fs: the fields from the last one back -/
def spIni (C : Addr) (n : Nat) (fs : List V → List (Str × V)) : Sp := fun vs H Q E => ∃ (a : Addr) (us : List V), vs = .ref a :: us ∧ us.length = n ∧ H a = some (exo a C none) ∧
  ∀ (dx : Addr) (H' : Hp), H dx = none → dx ≠ a → H' a = some (exo a C (some dx)) → H' dx = some (exd dx (fs us)) → (∀ b, b ≠ a → b ≠ dx → H' b = H b) → Q .non H'
section
variable {P : Program} {w : World} {K : PySem.W.Frag} {mg : Str → Option Value} {base : Heap} {CX : CXT} {D f cc cda a : Addr} {qual : Str} {params : Arguments} {body : List Stmt} {scope : Scope} {fd : FuncData} {k : Nat}
variable {B i newId : String} {bmB : List Value} {TEXT f1 f2 x1 x2 : Str} {st0 : Stmt} {j j2 : Nat} {p0 p1 p2 p3 cp ap q0 q1 q2 q3 r0 r1 r2 r3 t0 t1 t2 t3 : Pos}
/-- the text of the call of super().__init__ -/
abbrev supSt (TEXT : Str) (j : Nat) (p0 p1 p2 p3 cp ap : Pos) : Stmt := .Expr (.Call (.Attribute (.Call (.Name "super" p0) [] [] p1) "__init__" ap) [.Constant (.str TEXT) j cp] [] p2) p3
def SupEv (TEXT : Str) (j : Nat) (p0 p1 p2 cp ap : Pos) (env : Env) : Prop := ∃ pl : Sem Bool, eval (.Call (.Attribute (.Call (.Name "super" p0) [] [] p1) "__init__" ap) [.Constant (.str TEXT) j cp] [] p2) env = (do
      let ov ← attributeBase (.Call (.Name "super" p0) [] [] p1) "__init__" env (eval (.Call (.Name "super" p0) [] [] p1) env)
      standAt ap.atName
      let (f1, first) ← holding [ov] (getMethod ov "__init__" pl)
      callWith p2 f1 first (backTo p2 (starEach [.Constant (.str TEXT) j cp] env)) [])
theorem ini_len {n : Nat} {fs : List V → List (Str × V)} {ps : List Str} (hps : ps.length = n + 1) (T : SupC K B i newId bmB D D) : ∀ vs H Q E, spIni D n fs vs H Q E → vs.length = ps.length ∧ ∃ (a C : Addr) (us : List V), vs = .ref a :: us ∧ H a = some (exo a C none) ∧ SupC K B i newId bmB C D :=
  fun vs H Q E ⟨a, us, e, hl, ha, _⟩ => ⟨by rw [e, List.length_cons, hl, hps], a, D, us, e, ha, T⟩
/-- a run of stores into an exception: what holds of the heap -/
structure OstR (a dx : Addr) (H H' : Hp) (C : Addr) (fs : List (Str × V)) : Prop where
  hd : H dx = none
  ne : dx ≠ a
  at_ : H' a = some (exo a C (some dx))
  dd : H' dx = some (exd dx fs)
  keep : ∀ b, b ≠ a → b ≠ dx → H' b = H b
theorem OstR.first {H : Hp} {C dx : Addr} {g : Str} {y : V} (n : H dx = none) (ne : dx ≠ a) : OstR a dx H (upd (upd H dx (exd dx [(g, y)])) a (exo a C (some dx))) C [(g, y)] :=
  ⟨n, ne, upd_same, by rw [upd_ne ne, upd_same], fun b h1 h2 => by rw [upd_ne h1, upd_ne h2]⟩
theorem OstR.next {H H' : Hp} {C dx : Addr} {g : Str} {y : V} {fs : List (Str × V)} (r : OstR a dx H H' C fs) : OstR a dx H (upd H' dx (exd dx ((g, y) :: fs))) C ((g, y) :: fs) :=
  ⟨r.hd, r.ne, by rw [upd_ne (Ne.symm r.ne)]; exact r.at_, upd_same, fun b h1 h2 => by rw [upd_ne h2]; exact r.keep b h1 h2⟩
/-- a built-in exception class: what the library says of it -/
structure BltX (B i newId : String) (bmB : List Value) : Prop where
  kx : PySem.W.KxsFacts B i
  ba : ExcBaseFacts B newId i bmB
  st : StoreFacts B bmB "object.__setattr__" "object"
theorem blt_VE : BltX "ValueError" "ValueError.__init__" "ValueError.__new__" [.type "ValueError", .type "Exception", .type "BaseException", .type "object"] := ⟨PySem.W.kxs_ValueError, PySem.F.excBase_ValueError, PySem.F.store_ValueError⟩
theorem blt_LE : BltX "LookupError" "LookupError.__init__" "LookupError.__new__" [.type "LookupError", .type "Exception", .type "BaseException", .type "object"] := ⟨PySem.W.kxs_LookupError, PySem.F.excBase_LookupError, PySem.F.store_LookupError⟩
theorem blt_IE : BltX "IndexError" "IndexError.__init__" "IndexError.__new__" [.type "IndexError", .type "LookupError", .type "Exception", .type "BaseException", .type "object"] := ⟨PySem.W.kxs_IndexError, PySem.F.excBase_IndexError, PySem.F.store_IndexError⟩
/-- the class's facts -/
structure VeC (K : PySem.W.Frag) (B i newId : String) (bmB : List Value) (D : Addr) : Prop where
  sup : SupC K B i newId bmB D D
  oex : OexB K bmB D
  exC : PySem.W.subIn K (.ref D) (.type "BaseException") = some true
  tyC : PySem.W.typeIn K (.ref D) = some (.type "type")
  kC : PySem.W.keepIn K (.ref D) = true
theorem ini0 (S : SupF P K D qual params [supSt TEXT j p0 p1 p2 p3 cp ap, .Assign [.Attribute (.Name "self" t0) "code" t1] (.Constant (.str TEXT) j2 t2) t3] scope f cc cda fd) (G : BltX B i newId bmB) (V : VeC K B i newId bmB D) (hsu : mg "super" = none) (sc : NScope ["self", "__class__"] ["self"] ["__class__"] scope)
    (ht : ∀ L : Addr, SupEv TEXT j p0 p1 p2 cp ap (envF (supNF qual params [supSt TEXT j p0 p1 p2 p3 cp ap, .Assign [.Attribute (.Name "self" t0) "code" t1] (.Constant (.str TEXT) j2 t2) t3] scope cc cda) f L))
    (nc : PySem.W.findIn K (.ref D) "code" = some none) :
    FnOk P w K mg base CX (k + 1) f fd ["self"] (spIni D 0 fun _ => [("code", .str TEXT)]) := by
  refine sup_ok S G.kx G.ba hsu sc rfl rfl ht (ini_len rfl V.sup) fun A outer s H vs Q E hr ⟨a, us, e, hl, ha, q⟩ => ?_
  subst e
  obtain rfl := List.length_eq_zero_iff.mp hl
  refine ⟨_, pss_one (ps_ostB G.st (pe_var (i := 0) rfl (.inl (sc.par _ (by simp))) rfl rfl) pe_str), ?_⟩
  refine ⟨.ref a, rfl, a, D, rfl, V.oex, nc, .inl ⟨ha, fun dx n ne => ?_⟩⟩
  have o := OstR.first (C := D) (g := "code") (y := .str TEXT) n ne
  exact q dx _ n ne o.at_ o.dd o.keep
theorem ini1 (S : SupF P K D qual params [supSt TEXT j p0 p1 p2 p3 cp ap, .Assign [.Attribute (.Name "self" q0) f1 q1] (.Name x1 q2) q3, .Assign [.Attribute (.Name "self" t0) "code" t1] (.Constant (.str TEXT) j2 t2) t3] scope f cc cda fd) (G : BltX B i newId bmB) (V : VeC K B i newId bmB D) (hsu : mg "super" = none)
    (sc : NScope ["self", x1, "__class__"] ["self", x1] ["__class__"] scope)
    (ht : ∀ L : Addr, SupEv TEXT j p0 p1 p2 cp ap (envF (supNF qual params [supSt TEXT j p0 p1 p2 p3 cp ap, .Assign [.Attribute (.Name "self" q0) f1 q1] (.Name x1 q2) q3, .Assign [.Attribute (.Name "self" t0) "code" t1] (.Constant (.str TEXT) j2 t2) t3] scope cc cda) f L))
    (hx : (x1 == ("__debug__" : Str)) = false) (hx2 : (x1 == ("__classdict__" : Str)) = false) (n1 : PySem.W.findIn K (.ref D) f1 = some none) (nc : PySem.W.findIn K (.ref D) "code" = some none) :
    FnOk P w K mg base CX (k + 1) f fd ["self", x1] (spIni D 1 fun us => [("code", .str TEXT), (f1, us.headD .non)]) := by
  refine sup_ok S G.kx G.ba hsu sc rfl rfl ht (ini_len rfl V.sup) fun A outer s H vs Q E hr ⟨a, us, e, hl, ha, q⟩ => ?_
  subst e
  obtain ⟨v, rfl⟩ := List.length_eq_one_iff.mp hl
  refine ⟨_, pss_cons (ps_ostB G.st (pe_var (i := 0) rfl (.inl (sc.par _ (by simp))) rfl rfl) (pe_var (i := 1) rfl (.inl (sc.par _ (by simp))) hx hx2)) (pss_one (ps_ostB G.st (pe_var (i := 0) rfl (.inl (sc.par _ (by simp))) rfl rfl) pe_str)), ?_⟩
  refine ⟨v, rfl, .ref a, rfl, a, D, rfl, V.oex, n1, .inl ⟨ha, fun dx n ne => ?_⟩⟩
  have o := OstR.first (C := D) (g := f1) (y := v) n ne
  refine ⟨.ref a, rfl, a, D, rfl, V.oex, nc, .inr ⟨dx, _, o.at_, o.dd, by simp, ?_⟩⟩
  have o2 := o.next (g := "code") (y := .str TEXT)
  exact q dx _ n ne o2.at_ o2.dd o2.keep
theorem ini2 (S : SupF P K D qual params [supSt TEXT j p0 p1 p2 p3 cp ap, .Assign [.Attribute (.Name "self" q0) f1 q1] (.Name x1 q2) q3, .Assign [.Attribute (.Name "self" r0) f2 r1] (.Name x2 r2) r3, .Assign [.Attribute (.Name "self" t0) "code" t1] (.Constant (.str TEXT) j2 t2) t3] scope f cc cda fd) (G : BltX B i newId bmB) (V : VeC K B i newId bmB D) (hsu : mg "super" = none)
    (sc : NScope ["self", x1, x2, "__class__"] ["self", x1, x2] ["__class__"] scope)
    (ht : ∀ L : Addr, SupEv TEXT j p0 p1 p2 cp ap (envF (supNF qual params [supSt TEXT j p0 p1 p2 p3 cp ap, .Assign [.Attribute (.Name "self" q0) f1 q1] (.Name x1 q2) q3, .Assign [.Attribute (.Name "self" r0) f2 r1] (.Name x2 r2) r3, .Assign [.Attribute (.Name "self" t0) "code" t1] (.Constant (.str TEXT) j2 t2) t3] scope cc cda) f L))
    (hx : (x1 == ("__debug__" : Str)) = false) (hx2 : (x1 == ("__classdict__" : Str)) = false) (hy : (x2 == ("__debug__" : Str)) = false) (hy2 : (x2 == ("__classdict__" : Str)) = false) (n1 : PySem.W.findIn K (.ref D) f1 = some none) (n2 : PySem.W.findIn K (.ref D) f2 = some none) (nc : PySem.W.findIn K (.ref D) "code" = some none) :
    FnOk P w K mg base CX (k + 1) f fd ["self", x1, x2] (spIni D 2 fun us => [("code", .str TEXT), (f2, us.tail.headD .non), (f1, us.headD .non)]) := by
  refine sup_ok S G.kx G.ba hsu sc rfl rfl ht (ini_len rfl V.sup) fun A outer s H vs Q E hr ⟨a, us, e, hl, ha, q⟩ => ?_
  subst e
  obtain ⟨v, u, rfl⟩ : ∃ v u, us = [v, u] := by
    match us, hl with
    | [v, u], _ => exact ⟨v, u, rfl⟩
  refine ⟨_, pss_cons (ps_ostB G.st (pe_var (i := 0) rfl (.inl (sc.par _ (by simp))) rfl rfl) (pe_var (i := 1) rfl (.inl (sc.par _ (by simp))) hx hx2)) (pss_cons (ps_ostB G.st (pe_var (i := 0) rfl (.inl (sc.par _ (by simp))) rfl rfl) (pe_var (i := 2) rfl (.inl (sc.par _ (by simp))) hy hy2)) (pss_one (ps_ostB G.st (pe_var (i := 0) rfl (.inl (sc.par _ (by simp))) rfl rfl) pe_str))), ?_⟩
  refine ⟨v, rfl, .ref a, rfl, a, D, rfl, V.oex, n1, .inl ⟨ha, fun dx n ne => ?_⟩⟩
  have o := OstR.first (C := D) (g := f1) (y := v) n ne
  refine ⟨u, rfl, .ref a, rfl, a, D, rfl, V.oex, n2, .inr ⟨dx, _, o.at_, o.dd, by simp, ?_⟩⟩
  have o2 := o.next (g := f2) (y := u)
  refine ⟨.ref a, rfl, a, D, rfl, V.oex, nc, .inr ⟨dx, _, o2.at_, o2.dd, by simp, ?_⟩⟩
  have o3 := o2.next (g := "code") (y := .str TEXT)
  exact q dx _ n ne o3.at_ o3.dd o3.keep
end

/-! ### a class called -/
section
variable {X : Cx} {N : Ent} {WX : L2.WX} {CX : CXT} {C fI : Addr} {fd : FuncData} {ps : List Str} {k n : Nat} {B i newId : String} {bmB : List Value} {fs : List V → List (Str × V)} {x : Str} {p pos : Pos} {e : Expr} {es : List Expr} {ta : TA}
/-- an exception's class of the text, with its own __init__: n values by place -/
structure ExcK (P : Program) (w : World) (K : PySem.W.Frag) (mg : Str → Option Value) (base : Heap) (k : Nat) (x : Str) (C : Addr) (n : Nat) (fs : List V → List (Str × V)) : Prop where
  ex : ∃ B i newId bmB fI fd ps, BltX B i newId bmB ∧ VeC K B i newId bmB C ∧ PySem.W.findIn K (.ref C) "__init__" = some (some (.ref fI)) ∧ PySem.W.typeIn K (.ref fI) = some (.type "function") ∧ FnOk P w K mg base (L2.CX P w) k fI fd ps (spIni C n fs) ∧ Binds K fd ps [] ∧ mg x = some (.ref C)
theorem ExcK.mono {P : Program} {w : World} {K : PySem.W.Frag} {mg : Str → Option Value} {base : Heap} {j : Nat} (F : ExcK P w K mg base j x C n fs) (h : j ≤ k) : ExcK P w K mg base k x C n fs :=
  let ⟨B, i, ne, bm, fI, fd, ps, a, b, c, d, e, f⟩ := F.ex
  ⟨B, i, ne, bm, fI, fd, ps, a, b, c, d, e.mono h, f⟩
/-- C(e, ..): the exception and its dict are new -/
def tExc (C : Addr) (n : Nat) (fs : List V → List (Str × V)) (ta : TA) : L2.St → Hp → XK → Prop := fun σ H Q => ta σ H fun vs H1 => vs.length = n ∧ n ≤ 1000 ∧ ∀ d, H1 d = none → Q (.ref C) (some d) (upd H1 d (.xd (fs vs)))
theorem exc_run {pins : List (Addr × Obj)} {σ : L2.St} {H : Hp} {s : Shared} {Q : XK} {us : List Value} {vs : List V} (F : ExcK X.prog X.w X.K X.mg X.base k x C n fs) (hr : Room (k + 1) X.A) (hx : Passes (L2.CX X.prog X.w) X (fun _ _ _ => False)) (I : Inv X pins σ H s) (r : Vals vs us) (hn : vs.length = n) (h1 : n ≤ 1000)
    (q : ∀ d, H d = none → Q (.ref C) (some d) (upd H d (.xd (fs vs)))) : wpAny (model X.prog X.w) X.A (call (.ref C) us) (MkP X pins σ Q) X.xe s := by
  obtain ⟨B, i, newId, bmB, fI, fd, ps, G, V, iC, tI, F1, hb, hm⟩ := F.ex
  obtain ⟨nm, N', qn, bs, bm, hdct, sn, sub, ab, col, dd, k0, k1, k2, k3, k5, hC, hT⟩ := PySem.W.excInit_of I.kIn V.sup.ini
  obtain ⟨hp, g, dr, tk, os⟩ := s
  have hsz : hp.objs.size ≤ hp.objs.size + 1 := Nat.le_succ _
  have na : H (hp.objs.size + 1) = none := I.hok.fresh hsz
  have kk : ∀ b o, hp.get? b = some o → ((hp.push (PySem.W.kdv_tup us)).push (PySem.HandSPX.excO C hp.objs.size)).get? b = some o := fun b o e => Heap.get?_push_of_some _ (Heap.get?_push_of_some _ e)
  have ge : ((hp.push (PySem.W.kdv_tup us)).push (PySem.HandSPX.excO C hp.objs.size)).get? (hp.objs.size + 1) = some (PySem.HandSPX.excO C hp.objs.size) := by heap_get
  have I2 := I.laid (t' := tk) (a := hp.objs.size + 1) (o := exo (hp.objs.size + 1) C none) (h' := (hp.push (PySem.W.kdv_tup us)).push (PySem.HandSPX.excO C hp.objs.size)) kk hsz (exo_ok ge)
  have sp : spIni C n fs (.ref (hp.objs.size + 1) :: vs) (upd H (hp.objs.size + 1) (exo (hp.objs.size + 1) C none))
      (fun v H2 => v = .non ∧ ∃ d, H2 (hp.objs.size + 1) = some (exo (hp.objs.size + 1) C (some d)) ∧ H2 d = some (exd d (fs vs)) ∧ H d = none ∧ d ≠ hp.objs.size + 1 ∧ ∀ b, b ≠ hp.objs.size + 1 → b ≠ d → H2 b = H b) (fun _ _ _ => False) :=
    ⟨_, vs, rfl, hn, upd_same, fun dx H' n1 n2 e1 e2 e3 => ⟨rfl, dx, e1, e2, by rw [upd_ne n2] at n1; exact n1, n2, fun b h1 h2 => by rw [e3 b h1 h2, upd_ne h1]⟩⟩
  have r2 : Vals (L2.V.ref (hp.objs.size + 1) :: vs) (Value.ref (hp.objs.size + 1) :: us) := .cons rfl r
  have hl : (Value.ref (hp.objs.size + 1) :: us).length = ps.length := by rw [← r2.length]; exact F1.len _ _ _ _ sp
  have hz : us.length ≤ sizeLine := by rw [← r.length, hn, sizeLine_eq]; omega
  refine wpAny_call (PySem.HandSPX.call_own G.ba hT hC (PySem.W.looks_findIn I.kIn iC) (fun self => PySem.W.bind_fn I.kIn self tI) hz ?_)
  have hbb := hb ⟨(hp.push (PySem.W.kdv_tup us)).push (PySem.HandSPX.excO C hp.objs.size), g, dr, tk, os⟩ (Value.ref (hp.objs.size + 1) :: us) I2.kIn (by rw [List.append_nil]; exact hl)
  rw [List.append_nil] at hbb
  refine codeAny_mono (F1.run _ X.stack _ _ _ _ _ _ (fun _ _ _ => False) (hr.make C us []) (I2.env0.make C us []) hbb r2 sp) fun r s' hq => ?_
  cases r with
  | error er => exact hx pins σ _ _ er s' I2 hq
  | ok fl =>
    cases fl with
    | ret u =>
      obtain ⟨v, H2, os2, bare2, un2, hok2, rv, ev, d, ea, ed, hd1, hda, keep⟩ := hq
      subst ev
      obtain ⟨h2, g2, d2, t2, os'⟩ := s'
      have eH : upd (del H2 (hp.objs.size + 1)) d (.xd (fs vs)) = upd H d (.xd (fs vs)) := by
        funext b
        by_cases hbd : b = d
        · rw [hbd, upd_same, upd_same]
        · rw [upd_ne hbd, upd_ne hbd]
          by_cases hba : b = hp.objs.size + 1
          · rw [hba, del_same, na]
          · rw [del_ne hba, keep b hba hbd]
      exact ⟨rv, mk_end (raises_own V.exC V.tyC) I hsz kk un2 hok2 os2 bare2 ea ed hd1 (by rw [eH]; exact q d hd1)⟩
    | next => exact False.elim hq
    | brk => exact False.elim hq
    | cont => exact False.elim hq
theorem pmk_exc (F : ExcK X.prog X.w X.K X.mg X.base k x C n fs) (hr : Room (k + 1) X.A) (hx : Passes (L2.CX X.prog X.w) X (fun _ _ _ => False)) (hg : Gl X x) (ha : PA X (e :: es) ta)
    (hdb : (x == ("__debug__" : Str)) = false := by decide) (he : starEach (e :: es) X.env = (false, eval e X.env) :: starEach es X.env := by rfl) (hpl : (backTo pos (starEach es X.env)).any (·.1) = false := by rfl) :
    PMk X (.Call (.Name x p) (e :: es) [] pos) (tExc C n fs ta) := by
  intro pins s σ H Q I h
  obtain ⟨B, i, newId, bmB, fI, fd, ps, G, V, iC, tI, F1, hb, hm⟩ := id F.ex
  refine wpAny_Call_Name_kw (ld_glob I hg hm ?_ hdb)
  refine PySem.W.callWith_K (h₀ := X.base) I.ok.mod.kin V.kC (thn (ha.run pos pins s σ H _ I h) fun us s1 ⟨vs, H1, I1, r1, hn, hz, q1⟩ => ⟨I1.kIn, ?_⟩) he hpl
  exact exc_run F hr hx I1 r1 hn hz q1
theorem pmk_exc0 (F : ExcK X.prog X.w X.K X.mg X.base k x C 0 fs) (hr : Room (k + 1) X.A) (hx : Passes (L2.CX X.prog X.w) X (fun _ _ _ => False)) (hg : Gl X x) (hdb : (x == ("__debug__" : Str)) = false := by decide) :
    PMk X (.Call (.Name x p) [] [] pos) (tExc C 0 fs tNil) := by
  intro pins s σ H Q I h
  obtain ⟨B, i, newId, bmB, fI, fd, ps, G, V, iC, tI, F1, hb, hm⟩ := id F.ex
  obtain ⟨_, _, q⟩ := h
  refine wpAny_Call_Name_kw (ld_glob I hg hm ?_ hdb)
  exact PySem.W.callWith_K0 I.kIn V.kC (exc_run (us := []) F hr hx I .nil rfl (by decide) q)
end

/-! ### raise -/
/-- the class x of number c: its fields' values from those given -/
structure ExcC (P : Program) (w : World) (K : PySem.W.Frag) (mg : Str → Option Value) (base : Heap) (B : Bs) (k : Nat) (x : Str) (c n : Nat) (fv : List PV → List PV) : Prop where
  ex : ∃ fs, ExcK P w K mg base k x (B.cad c) n fs ∧ n ≤ 1000 ∧ ∀ (W : Wd) (xs : List PV) (vs : List V), Reps B W xs vs → xs.length = n → ∃ us, fs vs = (B.fld c).zip us ∧ us.length = (B.fld c).length ∧ Reps B W (fv xs) us
theorem ExcC.mono {P : Program} {w : World} {K : PySem.W.Frag} {mg : Str → Option Value} {base : Heap} {B : Bs} {j k : Nat} {x : Str} {c n : Nat} {fv : List PV → List PV} (F : ExcC P w K mg base B j x c n fv) (h : j ≤ k) : ExcC P w K mg base B k x c n fv :=
  let ⟨fs, a, b⟩ := F.ex
  ⟨fs, a.mono h, b⟩
def sRaise (c n : Nat) (fv : List PV → List PV) (ma : MA) : MS := fun s => (ma s).bind fun vs s1 => if vs.length = n ∧ allSh vs = true then .exc (.ins c (fv vs)) s1 else .bad
section
variable {X : Cx} {B : Bs} {N : Ent} {WX : L2.WX} {x : Str} {c n k : Nat} {fv : List PV → List PV} {ma : MA} {e : Expr} {es : List Expr} {p pos pos' : Pos} {W : Wd} {s : S} {σ : L2.St} {H : Hp}
theorem raise_fin {vs : List PV} {vs' : List V} {D : Ends} {fs : List V → List (Str × V)} (hf : ∀ (W : Wd) (xs : List PV) (vs : List V), Reps B W xs vs → xs.length = n → ∃ us, fs vs = (B.fld c).zip us ∧ us.length = (B.fld c).length ∧ Reps B W (fv xs) us)
    (r : Rel B N W s σ H) (rv : RepTs B W H vs vs') (q : PostS B N WX D (if vs.length = n ∧ allSh vs = true then R.exc (.ins c (fv vs)) s else R.bad)) : vs'.length = n ∧ ∀ d, H d = none → WX (.ref (B.cad c)) (some d) σ (upd H d (.xd (fs vs'))) := by
  split at q
  · rename_i hc
    have rr := rv.reps hc.2
    refine ⟨by rw [← rr.length]; exact hc.1, fun d hd => ?_⟩
    obtain ⟨us, e1, e2, e3⟩ := hf W vs vs' rr hc.1
    have r2 := rel_put (o := .xd (fs vs')) r (r.loose hd) trivial (.inl hd)
    exact q W σ _ _ _ r2 ⟨c, fv vs, d, us, rfl, rfl, rfl, by rw [upd_same, e1], e2, e3, r.st.tr _ hd, r.hr.fnone hd, fun z => r.hr.mt _ z hd⟩
  · exact q.elim
theorem no_takes {X : Cx} : Takes X (fun _ _ _ _ => False) := takes0
theorem sims_raise (F : ExcC X.prog X.w X.K X.mg X.base B k x c n fv) (hc : X.calm = true) (tk : Takes X WX) (hr : Room (k + 1) X.A) (hg : Gl X x) (ha : SimA X B N WX (e :: es) ma) (hdb : (x == ("__debug__" : Str)) = false)
    (he : starEach (e :: es) X.env = (false, eval e X.env) :: starEach es X.env) (hpl : (backTo pos (starEach es X.env)).any (·.1) = false) : SimS X B N WX (.Raise (some (.Call (.Name x p) (e :: es) [] pos)) none pos') (sRaise c n fv ma) := by
  obtain ⟨fs, F1, hn, hf⟩ := F.ex
  exact (ps_raise hc tk (pmk_exc F1 hr (passes_call no_takes fun _ _ _ _ h => h) hg ha hdb he hpl)).imp fun D σ H ⟨W, s, r, h⟩ => ⟨W, s, r, h.bindE.mono fun vs W1 s1 H1 r1 _ q vs' rv => by
    obtain ⟨q1, q2⟩ := raise_fin hf r1 rv q
    exact ⟨q1, hn, q2⟩⟩
theorem sims_raise0 (F : ExcC X.prog X.w X.K X.mg X.base B k x c 0 fv) (hc : X.calm = true) (tk : Takes X WX) (hr : Room (k + 1) X.A) (hg : Gl X x) (hdb : (x == ("__debug__" : Str)) = false) : SimS X B N WX (.Raise (some (.Call (.Name x p) [] [] pos)) none pos') (sRaise c 0 fv aNil) := by
  obtain ⟨fs, F1, hn, hf⟩ := F.ex
  exact (ps_raise hc tk (pmk_exc0 F1 hr (passes_call no_takes fun _ _ _ _ h => h) hg hdb)).imp fun D σ H ⟨W, s, r, h⟩ => by
    have h0 : PostS B N WX D (if ([] : List PV).length = 0 ∧ allSh [] = true then R.exc (.ins c (fv [])) s else R.bad) := h
    obtain ⟨q1, q2⟩ := raise_fin (vs := []) (vs' := []) hf r trivial h0
    exact ⟨q1, by decide, q2⟩
end
end Lp

set_option Elab.async false
set_option linter.all false
set_option maxRecDepth 100000
set_option maxHeartbeats 4000000
/-! Lp20: try: .. except (A, B, ..) as e: .. -/
namespace Lp
open PySem PySem.Spec PyProof.Rows L2 LamX NdefX
theorem flyZ_keeps {B : Heap} {l : List Env} {e : Addr} {Z : Obj → Prop} {h h' : Heap} (R : HandSPX.FlyingZ B l e Z h) (k : ∀ b o, h.get? b = some o → h'.get? b = some o) : HandSPX.FlyingZ B l e Z h' := by
  obtain ⟨f1, f2, f3, oe, vs, T, oT, ts, he, hz, hd, h1, hn, hne, hT, hdT, h3⟩ := R
  exact ⟨fun b o q => k b o (f1 b o q), f2, f3.of_keeps fun b o q _ => ⟨o, k b o q, rfl⟩, oe, vs, T, oT, ts, k _ _ he, hz, hd, h1, hn, hne, k _ _ hT, hdT, h3⟩
/-- a clause's test: the classes cs -/
structure TestX (X : Cx) (t : Expr) (cs : List Value) : Prop where
  run : ∀ (a : Addr) (pn pins : List (Addr × Obj)) (σ : L2.St) (H : Hp) (s : Shared) (cls : Value) (b : Bool) (Q : Bool → Shared → Prop) (E : Value → Shared → Prop), Inv (X.suite a pn) pins σ H s → PySem.W.Looks (model X.prog X.w) s.heap (typeOf (.ref a)) cls → PySem.W.exmAny X.K cls cs = some b →
    (∀ h', (∀ q o, s.heap.get? q = some o → h'.get? q = some o) → Q b { s with heap := h' }) →
    wpAny (model X.prog X.w) (X.A.mark (some (.ref a))) (eval t X.env) (fun c s₁ => wpAny (model X.prog X.w) (X.A.mark (some (.ref a))) (excMatches (.ref a) c) Q E s₁) E s
section
variable {X : Cx} {x1 x2 x3 : Str} {c1 c2 c3 : Value} {p1 p2 p3 tp : Pos} {kk : Nat}
theorem name_at {a : Addr} {pn pins : List (Addr × Obj)} {σ : L2.St} {H : Hp} {s : Shared} {Q E : Value → Shared → Prop} (n : Names X x1 c1) (I : Inv (X.suite a pn) pins σ H s) (q : Q c1 s) : wpAny (model X.prog X.w) (X.A.mark (some (.ref a))) (eval (.Name x1 p1) X.env) Q E s := by
  obtain ⟨hg, hd, hm | ⟨hm, hv, hn⟩⟩ := n
  · exact ld_glob (X := X.suite a pn) I hg hm q hd
  · exact ld_blt (X := X.suite a pn) I hg hm hv q hn hd
theorem test_one (n1 : Names X x1 c1) : TestX X (.Name x1 p1) [c1] := by
  refine ⟨fun a pn pins σ H s cls b Q E I LT hb q => name_at n1 I ?_⟩
  obtain ⟨b1, d1, e1, e2, rfl⟩ := PySem.W.exmAny_cons hb
  cases e2
  rw [Bool.or_false] at q
  exact (PySem.W.exm_one (I.kIn) LT e1).here (q s.heap fun _ _ z => z)
theorem test_two (n1 : Names X x1 c1) (n2 : Names X x2 c2) : TestX X (.Tuple [.Name x1 p1, .Name x2 p2] kk tp) [c1, c2] := by
  refine ⟨fun a pn pins σ H s cls b Q E I LT hb q => ?_⟩
  have kp : ∀ q o, s.heap.get? q = some o → (s.heap.push { cls := .type "tuple", data := .seq [c1, c2].toArray }).get? q = some o := fun _ _ z => Heap.get?_push_of_some _ z
  refine wpAny_Tuple (wpAny_items_cons (name_at n1 I (wpAny_items_cons (name_at n2 I (wpAny_items_nil ⟨by size_fits, ?_⟩)))))
  exact (PySem.W.exm_tup2 (I.kIn.keeps kp) (LT.keeps kp) (Heap.get?_push_size s.heap rfl) hb).here (q _ kp)
theorem test_three (n1 : Names X x1 c1) (n2 : Names X x2 c2) (n3 : Names X x3 c3) : TestX X (.Tuple [.Name x1 p1, .Name x2 p2, .Name x3 p3] kk tp) [c1, c2, c3] := by
  refine ⟨fun a pn pins σ H s cls b Q E I LT hb q => ?_⟩
  have kp : ∀ q o, s.heap.get? q = some o → (s.heap.push { cls := .type "tuple", data := .seq [c1, c2, c3].toArray }).get? q = some o := fun _ _ z => Heap.get?_push_of_some _ z
  refine wpAny_Tuple (wpAny_items_cons (name_at n1 I (wpAny_items_cons (name_at n2 I (wpAny_items_cons (name_at n3 I (wpAny_items_nil ⟨by size_fits, ?_⟩)))))))
  exact (PySem.W.exm_tup3 (I.kIn.keeps kp) (LT.keeps kp) (Heap.get?_push_size s.heap rfl) hb).here (q _ kp)
end
/-- what the clause wishes of an exception that every test meets: slot i is the clause's name -/
def wAll (K : PySem.W.Frag) (cs : List Value) (i : Nat) (ts : Addr → Value → Option Addr → TS) (D : Ends) : WX := fun cls d σ H => PySem.W.exmAny K cls cs = some true ∧
  ∀ a, H a = none → ts a cls d { nx := fun σ' H' => D.nx (σ'.set i none) H', rt := D.rt, bk := fun σ' H' => D.bk (σ'.set i none) H', ct := fun σ' H' => D.ct (σ'.set i none) H' } (σ.set i (some (.ref a))) H
section
variable {X : Cx} {n : Str} {t : Expr} {cs : List Value} {i : Nat} {body suite : List Stmt} {b₀ : Stmt} {pos pos' : Pos} {tb : WX → TS} {ts : Addr → Value → Option Addr → TS}
theorem ps_tryAll (hs : X.stack = X.env :: X.outer) (hf : X.env.frame = some X.env.locals) (hN : X.N.Nodup) (hi : X.N[i]? = some n) (hln : X.env.kindOf n = some .local) (T : TestX X t cs)
    (hb : ∀ (W : WX) (pn : List (Addr × Obj)) (xe : Value → Shared → Prop), Takes (X.tr pn xe) W → PassesOwn (model X.prog X.w) X.A X.env xe → PSs (X.tr pn xe) body (tb W))
    (hsu : ∀ (a : Addr) (oe : Obj) (cls : Value) (d : Option Addr) (pn : List (Addr × Obj)), Zc cls d oe → (∃ vs, oe.data = .fields vs) → PSs (X.suite a ((a, oe) :: pn)) (b₀ :: suite) (ts a cls d)) :
    PS X (.Try body [.ExceptHandler (some t) (some n) (b₀ :: suite) pos'] [] [] pos) (fun D σ H => tb (wAll X.K cs i ts D) D σ H) := by
  refine ⟨fun pins s σ H D I h => wpAny_Try_except ?_⟩
  have ok := I.ok
  have fr0 : X.A.frames = some (X.env :: X.outer) := by rw [ok.frames, hs]
  refine wpAny_mono ((hb (wAll X.K cs i ts D) (X.pn ++ pins) _ (fun u s' xx => ?_) PassesOwn.looking).run [] s σ H D (I.toTry (fun e s₁ => wpAny (model X.prog X.w) X.A (noteFrame e X.env) (fun _ s₂ => wpAny (model X.prog X.w) X.A (setFlight e none) (fun _ s₃ =>
    wpAny (model X.prog X.w) X.A (handleBy e X.env [.ExceptHandler (some t) (some n) (b₀ :: suite) pos']) (SP X pins D) X.xe s₃) X.xe s₂) X.xe s₁)) h) (fun f s1 q => ?_) (fun e s1 z => z)
  · obtain ⟨a, B, sI, pins', σ', H', cls, d, rfl, J', nb, up, sky, na, os, ag, hm, yes⟩ := xx
    have Jn : Inv X pins σ' H' sI := J'.ofTry ok
    have sk : Sky B (X.env :: X.outer) a (Zc cls d) X.env.locals s'.heap := by rw [← hs]; exact sky
    show wpAny (model X.prog X.w) X.A (noteFrame (.ref a) X.env) _ _ _
    refine Sky.land Zc.steady fr0 hf sk fun g3 fz uz => ?_
    have J3 : Inv X pins σ' H' { s' with heap := g3 } := Jn.landed nb fz.1 (up.trans uz) os ag
    obtain ⟨oe, ws, ge, hz, hd⟩ := fz.there
    have out : a ∉ frs (X.env :: X.outer) := fun hm => by
      obtain ⟨_, o', e', hnf⟩ := fz.2.2.1.mem hm
      rw [ge] at e'
      cases e'
      exact hnf _ hd
    have nL : a ≠ X.env.locals := fun z => out (List.mem_filterMap.mpr ⟨X.env, List.mem_cons_self, by rw [hf, z]⟩)
    have nF : a ∉ X.fs := fun hm => by
      obtain ⟨e, he, q⟩ := List.mem_filterMap.mp hm
      exact out (List.mem_filterMap.mpr ⟨e, List.mem_cons_of_mem _ he, q⟩)
    refine wpAny_handleBy_cons (codeAny_handlers_test ?_) (by intro q; cases q)
    refine T.run a _ _ _ _ _ cls true _ _ (J3.suite ge hd na nL nF) (fun A Q E s k q => wpAny_typeOf_ref (k _ _ ge) (by rw [hz.1]; exact q)) hm fun g4 k4 => ?_
    have fz4 := flyZ_keeps fz k4
    have u4 : s'.heap.UpToSlots g4 := uz.trans (Heap.UpToSlots.of_keeps k4)
    refine codeAny_handlers_suite_as (HandSPX.lands_againZ fz4 fun g5 fz5 u5 => ?_)
    have J5 : Inv X pins σ' H' { s' with heap := g5 } := Jn.landed nb fz5.1 ((up.trans u4).trans u5) os ag
    obtain ⟨oe5, ws5, ge5, hz5, hd5⟩ := fz5.there
    refine store_ok (X := X.suite a ((a, oe5) :: (X.pn ++ pins))) (v := .ref a) (J5.suite ge5 hd5 na nL nF) hN hi (.inl hln) rfl (fun s5 S5 => ?_) (.inr hln)
    refine wpAny_mono ((hsu a oe5 cls d (X.pn ++ pins) hz5 ⟨_, hd5⟩).run [] s5 _ H' _ S5 (yes a na)) (fun f s6 hsp => ?_) (fun _ _ z => False.elim z)
    have leave : ∀ {σ6 : L2.St} {H6 : Hp} {Q : Shared → Prop}, Inv (X.suite a ((a, oe5) :: (X.pn ++ pins))) [] σ6 H6 s6 → (∀ s7, Inv X pins (σ6.set i none) H6 s7 → Q s7) →
        wpAny (model X.prog X.w) X.A (do bindName X.env n .none; unbindBehindTheSuite X.env n pos') (fun _ s7 => Q s7) X.xe s6 := fun S6 hq => gone_ok (S6.unsuite ok) hN hi hln hq
    cases f with
    | next => obtain ⟨σ6, H6, S6, q6⟩ := hsp; exact leave S6 fun s7 J7 => ⟨_, _, J7, q6⟩
    | brk => obtain ⟨σ6, H6, S6, q6⟩ := hsp; exact leave S6 fun s7 J7 => ⟨_, _, J7, q6⟩
    | cont => obtain ⟨σ6, H6, S6, q6⟩ := hsp; exact leave S6 fun s7 J7 => ⟨_, _, J7, q6⟩
    | ret u => obtain ⟨v6, σ6, H6, S6, r6, q6⟩ := hsp; exact leave S6 fun s7 J7 => ⟨_, _, _, J7, r6, q6⟩
  · cases f with
    | next => obtain ⟨σ', H', K', q⟩ := q; exact wpAny_execs_nil ⟨σ', H', K'.ofTry ok, q⟩
    | brk => obtain ⟨σ', H', K', q⟩ := q; exact ⟨σ', H', K'.ofTry ok, q⟩
    | cont => obtain ⟨σ', H', K', q⟩ := q; exact ⟨σ', H', K'.ofTry ok, q⟩
    | ret u => obtain ⟨v, σ', H', K', r, q⟩ := q; exact ⟨v, σ', H', K'.ofTry ok, r, q⟩
end
end Lp

set_option Elab.async false
set_option linter.all false
set_option maxRecDepth 100000
set_option maxHeartbeats 4000000
/-! Lp21: a caught exception in hand: its fields, defs that take it, the suite. -/
namespace Lp
open PySem PySem.Spec PyProof.Rows L2 LamX NdefX

/-! ### the tables with an exception -/
abbrev Bs.with (B : Bs) (x : Addr × Nat × Addr) : Bs := { B with xn := some x }
mutual
def noX : PV → Bool
  | .exn _ _ => false
  | .tup xs => noXs xs
  | .lst xs => noXs xs
  | .scr xs => noXs xs
  | .ins _ fs => noXs fs
  | _ => true
def noXs : List PV → Bool
  | [] => true
  | x :: xs => noX x && noXs xs
end
section
variable {B : Bs} {x : Addr × Nat × Addr}
mutual
theorem Rep.up {W : Wd} (h0 : B.xn = none) : ∀ {y : PV} {v : V}, Rep B W y v → Rep (B.with x) W y v
  | _, _, .non => .non
  | _, _, .bl b => .bl b
  | _, _, .int i => .int i
  | _, _, .str s h => .str s h
  | _, _, .ty n => .ty n
  | _, _, .cls c => .cls (B := B.with x) c
  | _, _, .cel h => .cel h
  | _, _, .tup h r => .tup h (Reps.up h0 r)
  | _, _, .lst h r => .lst h (Reps.up h0 r)
  | _, _, .scr h r => .scr h (Reps.up h0 r)
  | _, _, .ins h hl r => .ins (B := B.with x) h hl (Reps.up h0 r)
  | _, _, .exn hx _ _ _ => by rw [h0] at hx; cases hx
theorem Reps.up {W : Wd} (h0 : B.xn = none) : ∀ {ys : List PV} {vs : List V}, Reps B W ys vs → Reps (B.with x) W ys vs
  | _, _, .nil => .nil
  | _, _, .cons h t => .cons (Rep.up h0 h) (Reps.up h0 t)
end
mutual
theorem Rep.down {W : Wd} : ∀ {y : PV} {v : V}, Rep (B.with x) W y v → noX y = true → Rep B W y v
  | _, _, .non, _ => .non
  | _, _, .bl b, _ => .bl b
  | _, _, .int i, _ => .int i
  | _, _, .str s h, _ => .str s h
  | _, _, .ty n, _ => .ty n
  | _, _, .cls c, _ => .cls (B := B) c
  | _, _, .cel h, _ => .cel h
  | _, _, .tup h r, e => .tup h (Reps.down r e)
  | _, _, .lst h r, e => .lst h (Reps.down r e)
  | _, _, .scr h r, e => .scr h (Reps.down r e)
  | _, _, .ins h hl r, e => .ins (B := B) h hl (Reps.down r e)
  | _, _, .exn _ _ _ _, e => by cases e
theorem Reps.down {W : Wd} : ∀ {ys : List PV} {vs : List V}, Reps (B.with x) W ys vs → noXs ys = true → Reps B W ys vs
  | _, _, .nil, _ => .nil
  | _, _, .cons h t, e => by
    obtain ⟨e1, e2⟩ := Bool.and_eq_true_iff.mp (show (noX _ && noXs _) = true from e)
    exact .cons (Rep.down h e1) (Reps.down t e2)
end
mutual
theorem Rep.noX {W : Wd} (h0 : B.xn = none) : ∀ {y : PV} {v : V}, Rep B W y v → noX y = true
  | _, _, .non => rfl
  | _, _, .bl b => rfl
  | _, _, .int i => rfl
  | _, _, .str s h => rfl
  | _, _, .ty n => rfl
  | _, _, .cls c => rfl
  | _, _, .cel h => rfl
  | _, _, .tup h r => Reps.noX h0 r
  | _, _, .lst h r => Reps.noX h0 r
  | _, _, .scr h r => Reps.noX h0 r
  | _, _, .ins h hl r => Reps.noX h0 r
  | _, _, .exn hx _ _ _ => by rw [h0] at hx; cases hx
theorem Reps.noX {W : Wd} (h0 : B.xn = none) : ∀ {ys : List PV} {vs : List V}, Reps B W ys vs → noXs ys = true
  | _, _, .nil => rfl
  | _, _, .cons h t => by
    show (Lp.noX _ && noXs _) = true
    rw [Rep.noX h0 h, Reps.noX h0 t]; rfl
end
variable {N : Ent} {W W1 : Wd} {h : AH} {H H1 : Hp} {s : S} {σ : L2.St}
theorem CellR.up {a : Addr} {c : Cell} (h0 : B.xn = none) (r : CellR B W H a c) : CellR (B.with x) W H a c := by
  cases c with
  | lst xs => obtain ⟨vs, h1, h2⟩ := r; exact ⟨vs, h1, h2.up h0⟩
  | dic ks => exact r
  | ins c fs => obtain ⟨dx, vs, h1, h2, h3⟩ := r; exact ⟨dx, vs, h1, h2, h3.up h0⟩
theorem HRel.up (h0 : B.xn = none) (r : HRel B W h H) : HRel (B.with x) W h H :=
  ⟨r.agree, r.len, r.nd, r.mt, r.hz, r.fz, r.tb, fun n c a e1 e2 => let ⟨g1, g2⟩ := r.cell n c a e1 e2; ⟨g1, g2.up h0⟩⟩
/-- behind a run that left the cells' contents -/
theorem HRel.down (h0 : B.xn = none) (r0 : HRel B W h H) (r : HRel (B.with x) W1 h H1) (em : W1.m = W.m) : HRel B W1 h H1 :=
  ⟨r.agree, r.len, r.nd, r.mt, r.hz, r.fz, r.tb, fun n c a e1 e2 => by
    obtain ⟨g1, g2⟩ := r.cell n c a e1 e2
    obtain ⟨_, g3⟩ := r0.cell n c a e1 (em ▸ e2)
    refine ⟨g1, ?_⟩
    cases c with
    | lst xs => obtain ⟨vs, h1, h2⟩ := g2; obtain ⟨_, _, h4⟩ := g3; exact ⟨vs, h1, h2.down (h4.noX h0)⟩
    | dic ks => exact g2
    | ins c fs => obtain ⟨dx, vs, h1, h2, h3⟩ := g2; obtain ⟨_, _, _, _, h4⟩ := g3; exact ⟨dx, vs, h1, h2, h3.down (h4.noX h0)⟩⟩
theorem SlotR.up {y : PV} {v : V} {H0 : Hp} (h0 : B.xn = none) (r : SlotR B W H H0 y v) : SlotR (B.with x) W H H0 y v := by
  cases y with
  | own xs => obtain ⟨a, vs, e, h1, h2, h3⟩ := r; exact ⟨a, vs, e, h1, h2.up h0, h3⟩
  | don ks => obtain ⟨a, vs, o, e1, e2, e3, e4, e5⟩ := r; exact ⟨a, vs, o, e1, e2, e3, e4, e5.up h0⟩
  | _ => exact Rep.up h0 r
theorem Rel.up (h0 : B.xn = none) (r : Rel B N W s σ H) : Rel (B.with x) N W s σ H :=
  ⟨r.hr.up h0, r.st, r.len, fun i y e => let ⟨v, e1, sl⟩ := r.env i y e; ⟨v, e1, sl.up h0⟩, r.dis, r.pin⟩
end

/-! ### its fields -/
def eXf (fl : FL) (f : Str) (mo : ME) : ME := fun s => (mo s).bind fun o s1 => match o with
  | .exn c fs => match ((fl c).zip fs).lookup f with
    | some v => .ok v s1
    | none => .bad
  | _ => .bad
/-- the exception stands, pinned -/
structure HasX (X : Cx) (B : Bs) : Prop where
  at_ : ∀ a c dd, B.xn = some (a, c, dd) → ∃ oe, (a, oe) ∈ X.pn ∧ Zc (.ref (B.cad c)) (some dd) oe ∧ ∃ vs, oe.data = .fields vs
/-- what is known of the law's exception classes -/
structure XClsF (K : PySem.W.Frag) (B : Bs) (fl : FL) : Prop where
  fld : ∀ c, fl c ≠ [] → B.fld c = fl c
  cls : ∀ c f, f ∈ fl c → XfC K (B.cad c) ∧ PySem.W.findIn K (.ref (B.cad c)) f = some none
section
variable {X : Cx} {B : Bs} {N : Ent} {WX : L2.WX} {W : Wd} {s : S} {σ : L2.St} {H : Hp} {e o : Expr} {mo : ME} {f : Str} {fl : FL} {pos : Pos}
/-- e.f of a pinned exception -/
theorem sim_xf (HX : HasX X B) (C : XClsF X.K B fl) (he : SimE X B N WX o mo) (hb : attributeBase o f X.env (eval o X.env) = eval o X.env) : SimE X B N WX (.Attribute o f pos) (eXf fl f mo) := by
  refine ⟨fun pins s σ H Q I ⟨W, s0, r, h⟩ => ?_⟩
  refine attr_of hb (thn (he.run pins s σ H (fun v' H1 => ∃ W1 s1 v, Rel B N W1 s1 σ H1 ∧ StepE W s0 H W1 s1 H1 ∧ RepT B W1 H1 v v' ∧ Post B N WX W1 s1 H1 σ (match v with
    | .exn c fs => match ((fl c).zip fs).lookup f with
      | some v => R.ok v s1
      | none => .bad
    | _ => .bad) fun u W' _ H' => ∀ u', RepT B W' H' u u' → Q u' H') I ⟨W, s0, r, (h.bind r.slen).mono fun v W1 s1 H1 r1 st q v' rv => ⟨W1, s1, v, r1, st, rv, q⟩⟩) fun u s1 hh => ?_)
  obtain ⟨x, H1, I1, rx, W1, s2, v, r1, st, rv, q⟩ := hh
  split at q
  · rename_i c fs
    split at q
    · rename_i y ey
      cases (show Rep B W1 (.exn c fs) x from rv) with
      | exn hx hF hl rs =>
        rename_i a dd vs
        obtain rfl : u = Value.ref a := rx
        obtain ⟨oe, hp, hz, ws, hd⟩ := HX.at_ a c dd hx
        obtain ⟨y', e1, ry, m⟩ := lookup_reps rs ey
        obtain ⟨T, hno⟩ := C.cls c f m
        have ea : H1 dd = some (.xd ((B.fld c).zip vs)) := r1.hr.agree _ _ hF
        rw [C.fld c fun z => by rw [z] at m; cases m] at ea
        obtain ⟨ha, _⟩ := I1.pin (a, oe) (List.mem_append_left _ hp)
        have hx : ObjOk X.prog X.w H1 s1.heap dd (.xd ((fl c).zip vs)) := I1.hok dd _ ea
        obtain ⟨mA, hns, hr⟩ := hx
        obtain ⟨od, ho, hl2⟩ := lookIn_ns hns
        obtain ⟨u, hu, ru⟩ := RelO.some_of (v := y') (o := mA f) (by rw [← e1]; exact hr f)
        have J : PySem.W.InstAt s1.heap a oe (B.cad c) (some od) := ⟨ha, hz.1, by unfold PySem.W.notCls; rw [hd] <;> rfl, by rw [hz.2]; exact ho⟩
        exact HandSPX.exc_get I1.kIn J T.ga T.gg T.exC (PySem.W.findObj_own T.hdC hno rfl (by rw [hl2, hu])) (handed_of ru) ⟨y', H1, I1.tok _, ru, q.ok r1 y' ry.hand⟩
    · exact q.elim
  · exact q.elim
end

/-! ### defs that take it -/
structure FnX (P : Program) (w : World) (K : PySem.W.Frag) (mg : Str → Option Value) (base : Heap) (B : Bs) (k : Nat) (x : Str) (n : Nat) (m : MF) : Prop where
  ex : ∃ f fd ps, mg x = some (.ref f) ∧ PySem.W.keepIn K (.ref f) = true ∧ Binds K fd ps [] ∧ ps.length = n ∧
    ∀ (A : Around) (outer : List Env) (s : Shared) (H : Hp) (args : Args) (us : List Value) (vs : List V) (Q : VK) (E : XK) (p : Addr × Obj) (c : Nat) (dd : Addr), L2H.RoomH k A → L2H.PinOk outer H s p → Zc (.ref (B.cad c)) (some dd) p.2 → (∃ ws, p.2.data = .fields ws) → Env0 P w K mg base A outer s H → BindsTo s fd args (ps.zip us) → Vals vs us →
      spF (B.with (p.1, c, dd)) n m vs H Q E → codeAny (model P w) A (.call (.ref f) args) (CR (L2.CX P w) outer P w H s Q E) s
theorem FnX.mono {P : Program} {w : World} {K : PySem.W.Frag} {mg : Str → Option Value} {base : Heap} {B : Bs} {j k : Nat} {x : Str} {n : Nat} {m : MF} (F : FnX P w K mg base B j x n m) (h : j ≤ k) : FnX P w K mg base B k x n m :=
  let ⟨f, fd, ps, a, b, c, d, e⟩ := F.ex
  ⟨f, fd, ps, a, b, c, d, fun A outer s H args us vs Q E p c dd r => e A outer s H args us vs Q E p c dd (r.mono h)⟩
/-- what a body's proof may lean on, there -/
structure BdyX (X : Cx) (B : Bs) (E : XK) (k : Nat) : Prop where
  tk : Takes X fun c d _ H => E c d H
  pa : PassesOwn (model X.prog X.w) X.A X.env X.xe
  rm : L2H.RoomH k X.A
  hx : HasX X B
theorem fnx_ok {P : Program} {w : World} {K : PySem.W.Frag} {mg : Str → Option Value} {base : Heap} {x qual : Str} {params : Arguments} {body : List Stmt} {scope : Scope} {dvs : List V} {kws : List (Str × V)} {f : Addr} {fd : FuncData} {names ps : List Str} {k n kk : Nat} {B : Bs} {mb : MS}
    (F : FunD K x qual params body scope dvs kws f fd) (S : FnScope names ps scope) (hm : mg x = some (.ref f)) (hbi : Binds K fd ps []) (hn : ps.length = n) (hk : names.length - n = kk)
    (hb : ∀ (cdv : Value) (A : Around) (outer : List Env) (s : Shared) (H : Hp) (E : XK) (N : Ent) (p : Addr × Obj) (c : Nat) (dd : Addr), BdyX (L2H.cxH (L2.CX P w) P w K mg base names qual scope f cdv A outer s H E p) (B.with (p.1, c, dd)) E k →
      SimSs (L2H.cxH (L2.CX P w) P w K mg base names qual scope f cdv A outer s H E p) (B.with (p.1, c, dd)) N (fun c d _ H => E c d H) body mb) : FnX P w K mg base B (k + 1) x n (mkF kk mb) := by
  refine ⟨f, fd, ps, hm, F.kp, hbi, hn, fun A outer s H args us vs Q E p c dd hr hpin hz hd e0 hbt r hsp => ?_⟩
  obtain ⟨oc, od, dV, kV, doc, pm, an, cdv, ct, osl, rfl, lk, hcd, _, _⟩ := F.ex
  obtain ⟨W, h, xs, hrel, rr, el, q⟩ := hsp
  have hl : vs.length = ps.length := by rw [hn, ← el, rr.length]
  have KX : K.In s.heap := e0.mod.kin.keeps fun b o e => (e0.bs b o e).1
  have lim : s.heap.NoLimit := e0.mod.nolimit.keeps fun b o e => (e0.bs b o e).1
  have kinds : ∀ y ∈ ps.zip us, scope.names.lookup y.1 = some .local ∨ (scope.names.lookup y.1 = some .cell ∧ ((cellsFrom (s.heap.objs.size + 1) scope.names []).lookup y.1).isSome = true) := fun ⟨n, v⟩ hy => (S.par n (List.of_mem_zip hy).1).imp id fun q => ⟨q, PySem.W.cellsFrom_some _ _ _ (.inl q)⟩
  refine codeAny_call_function hr.depth (KX _ _ lk) rfl S.co S.gen rfl (PySem.W.codeRec_of KX hcd) (hbt _ _ _ _ (wpAny_newFunctionEnv_cells S.kind kinds fun env he s1 xx => ?_))
  subst he
  refine ⟨lim.keeps xx.toInCall.keep, codeAny_func ?_⟩
  have I := L2H.inv_startH (CX := L2.CX P w) (E := E) (cd := cdv) (qual := qual) (f := f) S hpin e0 hl r xx
  have bd : BdyX (L2H.cxH (L2.CX P w) P w K mg base names qual scope f cdv A outer s H E p) (B.with (p.1, c, dd)) E k := ⟨takes_of rfl rfl rfl rfl, passes_of rfl, hr.deeper _, ⟨fun a c' dd' e => by cases e; exact ⟨p.2, List.mem_singleton.mpr rfl, hz, hd⟩⟩⟩
  have st := rel_start (k := kk) hrel rr
  have hq : tS (B.with (p.1, c, dd)) ⟨W, h, H, hrel.len, W⟩ (fun c d _ H => E c d H) mb { nx := fun _ H' => Q .non H', rt := Q } (L2.start names vs) H := by
    refine ⟨W, ⟨xs.map some ++ List.replicate kk none, h⟩, ?_, ?_⟩
    · unfold L2.start
      rw [show names.length - vs.length = kk by rw [← rr.length, el, hk]]
      exact st
    · unfold PostS
      unfold mkF at q
      split at q
      · rename_i v s1 e1
        rw [e1]
        exact fun W' σ' H' v' r' rv => q W' H' v' r'.hr r'.st rv
      · rename_i s1 e1
        rw [e1]
        exact fun W' σ' H' r' => q W' H' .non r'.hr r'.st .non
      · exact q.elim
      · rename_i x1 s1 e1
        rw [e1]
        exact fun W' σ' H' cls d r' ex => q W' H' cls d r'.hr r'.st ex
      · exact q.elim
  refine wpAny_mono ((hb cdv A outer s H E ⟨W, h, H, hrel.len, W⟩ p c dd bd).run [] s1 _ H _ I hq) (fun fl s' hs => ?_) fun e s' hs => hs
  cases fl with
  | ret u =>
    obtain ⟨v, σ', H', J, rv, q⟩ := hs
    exact ⟨v, H', J.os, J.bare, J.base, J.hok, rv, q⟩
  | next =>
    obtain ⟨σ', H', J, q⟩ := hs
    exact ⟨V.non, H', J.os, J.bare, J.base, J.hok, rfl, q⟩
  | brk =>
    obtain ⟨_, _, _, q⟩ := hs
    exact False.elim q
  | cont =>
    obtain ⟨_, _, _, q⟩ := hs
    exact False.elim q
section
variable {X : Cx} {B : Bs} {N : Ent} {WX : L2.WX} {x : Str} {c n k : Nat} {m : MF} {ma : MA} {e : Expr} {es : List Expr} {p pos : Pos} {y : Addr × Nat × Addr}
theorem sim_callX (F : FnX X.prog X.w X.K X.mg X.base B k x n m) (HX : HasX X (B.with y)) (tk : Takes X WX) (hr : L2H.RoomH k X.A) (hg : Gl X x) (ha : SimA X (B.with y) N WX (e :: es) ma) (hdb : (x == ("__debug__" : Str)) = false)
    (he : starEach (e :: es) X.env = (false, eval e X.env) :: starEach es X.env) (hpl : (backTo pos (starEach es X.env)).any (·.1) = false) : SimE X (B.with y) N WX (.Call (.Name x p) (e :: es) [] pos) (eCall n m ma) := by
  obtain ⟨f, fd, ps, hm, hk, hb, hn, run⟩ := F.ex
  refine ⟨fun pins s σ H Q I ⟨W, s0, r, h⟩ => ?_⟩
  refine wpAny_Call_Name_kw (ld_glob I hg hm ?_ hdb)
  refine PySem.W.callWith_K (h₀ := X.base) I.ok.mod.kin hk (thn (ha.run pos pins s σ H (fun vs' H1 => spF (B.with y) n m vs' H1 Q fun c d H => WX c d σ H) I ⟨W, s0, r, (h.bind r.slen).mono fun vs W1 s1 H1 r1 _ q vs' rv => call_fin r1 (rv.reps (callH_sh q)) q⟩) fun us s1 ⟨vs, H1, I1, rv2, q⟩ => ⟨I1.kIn, ?_⟩) he hpl
  show wpAny _ _ (call (.ref f) us) _ _ _
  obtain ⟨a, c, dd⟩ := y
  obtain ⟨oe, hp, hz, hd⟩ := HX.at_ a c dd rfl
  have hl : us.length = ps.length := by
    obtain ⟨_, _, xs, _, rr, el, _⟩ := q
    rw [← rv2.length, hn, ← el, rr.length]
  have b := hb s1 us I1.kIn (by rw [List.append_nil]; exact hl)
  rw [List.append_nil] at b
  have P1 := I1.pin (a, oe) (List.mem_append_left _ hp)
  refine wpAny_call (codeAny_mono (run X.A X.stack s1 H1 ⟨us, []⟩ us vs Q _ (a, oe) c dd hr ⟨P1.1, P1.2.1, fun hm => (List.mem_cons.mp (I1.stkSub a hm)).elim P1.2.2.1 P1.2.2.2.1, P1.2.2.2.2⟩ hz hd I1.env0 b rv2 q) fun r s' hq => ?_)
  cases r with
  | error e => exact passAt tk σ pins H1 s1 e s' I1 hq
  | ok fl =>
    cases fl with
    | ret u => exact I1.after hq
    | next => exact False.elim hq
    | brk => exact False.elim hq
    | cont => exact False.elim hq
end

/-! ### the suite -/
open Classical in
/-- try: mb / except (..) as i: ms, where every exception is caught -/
noncomputable def sTryA (mb : MS) (i : Nat) (okc : Nat → Bool) (ms : MS) : MS := fun s => match mb s with
  | .exc x s1 => match x with
    | .ins c fs => if okc c = true then (match ms ⟨s1.e.set i (some (.exn c fs)), s1.h⟩ with
      | .ok (.rt v) s2 => if noX v = true ∧ s2.h = s1.h then .ok (.rt v) ⟨s2.e.map fun _ => none, s1.h⟩ else .bad
      | _ => .bad) else .bad
    | _ => .bad
  | r => r
section
variable {X : Cx} {B : Bs} {N : Ent} {WX : L2.WX} {W : Wd} {s : S} {σ : L2.St} {H : Hp} {mb ms : MS} {i : Nat} {okc : Nat → Bool} {cs : List Value}
theorem rel_noenv (r : Rel B N W s σ H) : Rel B N W ⟨s.e.map fun _ => none, s.h⟩ σ H := by
  have no : ∀ (j : Nat) (x : PV), (s.e.map fun _ => (none : Option PV))[j]? = some (some x) → False := fun j x e => by
    rw [List.getElem?_map] at e
    cases q : s.e[j]? with
    | none => rw [q] at e; cases e
    | some y => rw [q] at e; cases e
  exact ⟨r.hr, r.st, by rw [r.len]; simp, fun j x e => (no j x e).elim, fun j k x y a _ e => (no j x e).elim, r.pin⟩
/-- the exception stands still from now on -/
theorem rel_exn {x : PV} {cls : Value} {d : Option Addr} (h0 : B.xn = none) (r : Rel B N W s σ H) (ex : ExcR B N.H W H x cls d) (a : Addr) : ∃ c fs dd W1, x = .ins c fs ∧ cls = .ref (B.cad c) ∧ d = some dd ∧ W1.m = W.m ∧ Rel B N W1 s σ H ∧ Rep (B.with (a, c, dd)) W1 (.exn c fs) (.ref a) := by
  obtain ⟨c, fs, dd, vs, rfl, rfl, rfl, e1, e2, e3, e4, e5, e6⟩ := ex
  have own : ∀ (j : Nat) (x : PV), s.e[j]? = some (some x) → isOwn x = true → σ[j]? ≠ some (some (.ref dd)) := fun j x ej o q => by
    obtain ⟨v, ev, sl⟩ := r.env j x ej
    rw [q] at ev
    cases ev
    cases x with
    | own xs =>
      obtain ⟨a, us, ea, h1, _⟩ := sl
      cases ea
      rw [e1] at h1
      cases h1
    | don ks =>
      obtain ⟨a, us, o', ea, h1, _⟩ := sl
      cases ea
      rw [e5] at h1
      cases h1
    | _ => cases o
  have lo : Loose N W s σ dd := ⟨e5, e6, own, e4⟩
  have nt : NT (.xd ((B.fld c).zip vs)) := fun _ z => nomatch z
  have r1 := rel_keep r lo e1 nt
  exact ⟨c, fs, dd, ⟨upd W.F dd (.xd ((B.fld c).zip vs)), W.m⟩, rfl, rfl, rfl, rfl, r1, Rep.exn (B := B.with (a, c, dd)) rfl upd_same e2 ((e3.mono (le_new e5)).up h0)⟩
theorem rel_pin (r : Rel B N W s σ H) : Rel B ⟨N.W, N.h, N.H, N.len, W⟩ W s σ H := ⟨r.hr, r.st, r.len, r.env, r.dis, .refl W⟩
theorem tryA_read {D : Ends} {K : PySem.W.Frag} (h0 : B.xn = none) (hm : ∀ c, okc c = true → PySem.W.exmAny K (.ref (B.cad c)) cs = some true) (h : tS B N WX (sTryA mb i okc ms) D σ H) :
    tS B N (wAll K cs i (fun a cls d D σ H => ∃ (c : Nat) (dd : Addr) (P : Wd), cls = .ref (B.cad c) ∧ d = some dd ∧ tS (B.with (a, c, dd)) ⟨N.W, N.h, N.H, N.len, P⟩ (fun _ _ _ _ => False) ms D σ H) D) mb D σ H := by
  obtain ⟨W, s, r, h⟩ := h
  refine ⟨W, s, r, ?_⟩
  unfold PostS at h ⊢
  unfold sTryA at h
  cases e : mb s with
  | ok fl s1 =>
    rw [e] at h
    exact h
  | bad => rw [e] at h; exact h.elim
  | exc x s1 =>
    rw [e] at h
    intro W' σ' H' cls d r' ex
    obtain ⟨c, fs, dd, W1, rfl, rfl, rfl, em1, r1, rx⟩ := rel_exn h0 r' ex 0
    dsimp only at h
    split at h
    · rename_i oc
      refine ⟨hm c oc, fun a ha => ?_⟩
      obtain ⟨c2, fs2, dd2, W1, q1, q2, q3, em1, r1, rx⟩ := rel_exn h0 r' ex a
      cases q1
      cases q3
      refine ⟨c, dd, W1, rfl, rfl, W1, ⟨s1.e.set i (some (.exn c fs)), s1.h⟩, rel_set (rel_pin (r1.up h0)) rx, ?_⟩
      unfold PostS
      split at h
      · rename_i v s2 e2
        rw [e2]
        intro W2 σ2 H2 v' r2 rv
        split at h
        · rename_i hc
          obtain ⟨nv, eh⟩ := hc
          obtain ⟨e3, h3⟩ := s2
          simp only at eh
          subst eh
          have em : W2.m = W1.m := by
            obtain ⟨t, et⟩ := r2.pin.m
            have l1 := r1.hr.len
            have l2 := r2.hr.len
            have et : W1.m ++ t = W2.m := et
            rw [← et, List.length_append] at l2
            have l2 : W1.m.length + t.length = s1.h.length := l2
            have : t = [] := List.length_eq_zero_iff.mp (by omega)
            rw [← et, this, List.append_nil]
          have hr2 := HRel.down h0 r1.hr r2.hr em
          refine h W2 σ2 H2 v' ⟨hr2, r2.st, ?_, fun j y ej => ?_, fun j k y z a _ ej => ?_, r1.pin.trans r2.pin⟩ (rv.down nv)
          · rw [r2.len]; simp
          · have := List.mem_of_getElem? ej
            simp at this
          · have := List.mem_of_getElem? ej
            simp at this
        · exact h.elim
      · exact h.elim
    · exact h.elim
theorem sims_tryA {t : Expr} {n : Str} {b₀ : Stmt} {body suite : List Stmt} {pos pos' : Pos} (h0 : B.xn = none) (hs : X.stack = X.env :: X.outer) (hf : X.env.frame = some X.env.locals) (hN : X.N.Nodup) (hi : X.N[i]? = some n) (hln : X.env.kindOf n = some .local) (T : TestX X t cs)
    (hm : ∀ c, okc c = true → PySem.W.exmAny X.K (.ref (B.cad c)) cs = some true)
    (hb : ∀ (W : L2.WX) (pn : List (Addr × Obj)) (xe : Value → Shared → Prop), Takes (X.tr pn xe) W → PassesOwn (model X.prog X.w) X.A X.env xe → SimSs (X.tr pn xe) B N W body mb)
    (hsu : ∀ (a : Addr) (oe : Obj) (c : Nat) (dd : Addr) (pn : List (Addr × Obj)) (N' : Ent), HasX (X.suite a ((a, oe) :: pn)) (B.with (a, c, dd)) → SimSs (X.suite a ((a, oe) :: pn)) (B.with (a, c, dd)) N' (fun _ _ _ _ => False) (b₀ :: suite) ms) :
    SimS X B N WX (.Try body [.ExceptHandler (some t) (some n) (b₀ :: suite) pos'] [] [] pos) (sTryA mb i okc ms) :=
  (ps_tryAll (tb := fun W => tS B N W mb) hs hf hN hi hln T hb fun a oe cls d pn hz hd => ⟨fun pins s σ H D I ⟨c, dd, P, e1, e2, h⟩ => by
    subst e1
    subst e2
    refine (hsu a oe c dd pn ⟨N.W, N.h, N.H, N.len, P⟩ ⟨fun a' c' dd' e => ?_⟩).run pins s σ H D I h
    cases e
    exact ⟨oe, List.mem_cons_self, hz, hd⟩⟩).imp fun D σ H h => tryA_read h0 hm h
end
end Lp

set_option Elab.async false
set_option linter.all false
set_option maxRecDepth 100000
set_option maxHeartbeats 4000000
/-! Lp22: _law_try(lambda: e). -/
namespace Lp
open PySem PySem.Spec PyProof.Rows L2 LamX NdefX

open Classical in
noncomputable def eTry (okc : Nat → Bool) (ms : MS) (ml : ME) : ME := fun s => match ml s with
  | .ok v s1 => if isOwn v = true then .bad else .ok (.tup [.str "", v]) ⟨s.e, s1.h⟩
  | .exc x s1 => match x with
    | .ins c fs => if okc c = true then (match ms ⟨[none, some (.exn c fs)], s1.h⟩ with
      | .ok (.rt v) s2 => if noX v = true ∧ s2.h = s1.h then .ok v ⟨s.e, s1.h⟩ else .bad
      | _ => .bad) else .bad
    | _ => .bad
  | .bad => .bad
section
variable {X : Cx} {B : Bs} {N : Ent} {WX : L2.WX} {W : Wd} {s : S} {σ σZ : L2.St} {H : Hp} {ms : MS} {ml : ME} {okc : Nat → Bool} {cs : List Value}
/-- the frame of _law_try, nothing told of its slots but their number -/
theorem rel_in (h0 : HRel B W s.h H) (hl : σZ.length = 2) (N2 : Ent) (e1 : N2.W = W) (e2 : N2.h = s.h) (e3 : N2.H = H) (e4 : N2.P = W) : Rel B N2 W ⟨[none, none], s.h⟩ σZ H := by
  obtain ⟨w, h, hh, l, p⟩ := N2
  simp only at e1 e2 e3 e4
  subst e1 e2 e3 e4
  have no : ∀ (j : Nat) (x : PV), ([none, none] : List (Option PV))[j]? = some (some x) → False := fun j x e => by
    have := List.mem_of_getElem? e
    simp at this
  exact ⟨h0, Step.refl h0, by simpa using hl, fun j x e => (no j x e).elim, fun j k x y a _ e => (no j x e).elim, .refl _⟩
/-- the suite, told of its result alone -/
noncomputable def suiteR (ms : MS) (c : Nat) (fs : List PV) (e : List (Option PV)) (h : AH) : R S PV := open Classical in match ms ⟨[none, some (.exn c fs)], h⟩ with
  | .ok (.rt v) s2 => if noX v = true ∧ s2.h = h then .ok v ⟨e, h⟩ else .bad
  | _ => .bad
theorem eTry_eq : eTry okc ms ml = fun s => match ml s with
  | .ok v s1 => if isOwn v = true then R.bad else .ok (.tup [.str "", v]) ⟨s.e, s1.h⟩
  | .exc (.ins c fs) s1 => if okc c = true then suiteR ms c fs s.e s1.h else .bad
  | _ => .bad := by
  funext s
  unfold eTry
  cases ml s with
  | ok v s1 => rfl
  | bad => rfl
  | exc x s1 => cases x <;> rfl
/-- what is left to show behind the making of the lambda -/
theorem try_read {K : PySem.W.Frag} {D : Ends} (hB : B.xn = none) (hm : ∀ c, okc c = true → PySem.W.exmAny K (.ref (B.cad c)) cs = some true) (r : Rel B N W s σ H) {Q : VK} (h : Post B N WX W s H σ (eTry okc ms ml s) fun u W' _ H' => ∀ u', RepT B W' H' u u' → Q u' H') (hD : ∀ v H', Q v H' → D.rt v H') :
    tE B N (fun cls d _ H' => ∀ σ' : L2.St, σ'.length = 2 → wAll K cs 1 (fun a cls d D σ H => ∃ (N' : Ent) (c : Nat) (dd : Addr), cls = .ref (B.cad c) ∧ d = some dd ∧ tS (B.with (a, c, dd)) N' (fun _ _ _ _ => False) ms D σ H) D cls d σ' H') ml σ H
      fun v' H' => ([V.str "", v'] : List V).length ≤ sizeLine ∧ ∀ p, H' p = none → D.rt (.ref p) (upd H' p (.tup [.str "", v'])) := by
  refine ⟨W, s, r, ?_⟩
  rw [eTry_eq] at h
  unfold Post at h ⊢
  cases e : ml s with
  | bad => simp only [e] at h; exact h.elim
  | ok v s1 =>
    simp only [e] at h
    intro W' H' r1 st v' rv
    refine ⟨by show 2 ≤ sizeLine; rw [sizeLine_eq]; exact Nat.le_of_ble_eq_true rfl, fun p hp => ?_⟩
    refine hD _ _ ?_
    split at h
    · exact h.elim
    · rename_i ow
      have rr := rv.rep (by simpa using ow)
      have r2 := rel_step r r1.hr st.st
      have r3 := rel_new (o := .tup [.str "", v']) r2 hp (by show 2 ≤ sizeLine; rw [sizeLine_eq]; exact Nat.le_of_ble_eq_true rfl)
      have st3 : StepE W s H ⟨upd W'.F p (.tup [.str "", v']), W'.m⟩ ⟨s.e, s1.h⟩ (upd H' p (.tup [.str "", v'])) := ⟨st.st.trans r.slen (step_new r1.hr hp), fun _ _ e _ => e⟩
      exact h _ _ r3 st3 _ (rep_tup_new (r1.hr.fnone hp) (.cons (.str _ ⟨by decide +kernel, by decide +kernel⟩) (.cons rr .nil))).hand
  | exc x s1 =>
    simp only [e] at h
    intro W' H' cls d r1 st ex nw σ' hl
    obtain ⟨c, fs, dd, vs, rfl, rfl, rfl, e1, e2, e3, e4, e5, e6⟩ := ex
    dsimp only at h
    split at h
    · rename_i oc
      refine ⟨hm c oc, fun a ha => ?_⟩
      -- the exception's dict stands still from now on
      have nd : H dd = none := nw dd rfl
      have nt : NT (.xd ((B.fld c).zip vs)) := fun _ z => nomatch z
      have hr1 := hrel_keep r1.hr e5 e6 e1 nt
      have st1 : Step W s.h H ⟨upd W'.F dd (.xd ((B.fld c).zip vs)), W'.m⟩ s1.h H' := st.st.keepNew nd e5
      have rx : Rep (B.with (a, c, dd)) ⟨upd W'.F dd (.xd ((B.fld c).zip vs)), W'.m⟩ (.exn c fs) (.ref a) := Rep.exn (B := B.with (a, c, dd)) rfl upd_same e2 ((e3.mono (le_new e5)).up hB)
      generalize (⟨upd W'.F dd (.xd ((B.fld c).zip vs)), W'.m⟩ : Wd) = W1 at hr1 st1 rx
      have ri := rel_in (σZ := σ') (s := ⟨s.e, s1.h⟩) (hr1.up (x := (a, c, dd)) hB) hl ⟨W1, s1.h, H', hr1.len, W1⟩ rfl rfl rfl rfl
      refine ⟨⟨W1, s1.h, H', hr1.len, W1⟩, c, dd, rfl, rfl, W1, ⟨[none, some (.exn c fs)], s1.h⟩, rel_set (i := 1) ri rx, ?_⟩
      unfold PostS
      unfold suiteR at h
      cases e9 : ms ⟨[none, some (.exn c fs)], s1.h⟩ with
      | bad => rw [e9] at h; exact h.elim
      | exc x2 s2 => rw [e9] at h; exact h.elim
      | ok fl s2 =>
        rw [e9] at h
        cases fl with
        | rt v =>
          intro W2 σ2 H2 v' r2 rv
          dsimp only at h
          split at h
          · rename_i hc
            obtain ⟨nv, eh⟩ := hc
            obtain ⟨e3', h3⟩ := s2
            simp only at eh
            subst eh
            have em : W2.m = W1.m := by
              obtain ⟨t, et⟩ := r2.pin.m
              have l1 := hr1.len
              have l2 := r2.hr.len
              have et : W1.m ++ t = W2.m := et
              rw [← et, List.length_append] at l2
              have l2 : W1.m.length + t.length = s1.h.length := l2
              have : t = [] := List.length_eq_zero_iff.mp (by omega)
              rw [← et, this, List.append_nil]
            have hr2 := HRel.down hB hr1 r2.hr em
            have st2 : Step W1 s1.h H' W2 s1.h H2 := r2.st
            have stf := st1.trans r.slen st2
            exact hD _ _ (h W2 H2 (rel_step r hr2 stf) (stepE_of stf) v' (rv.down nv).hand)
          · exact h.elim
        | nx => exact h.elim
        | bk => exact h.elim
        | ct => exact h.elim
    · exact h.elim
end
/-! ### the def _law_try -/
structure TryF (P : Program) (w : World) (K : PySem.W.Frag) (mg : Str → Option Value) (base : Heap) (B : Bs) (k : Nat) (x : Str) (okc : Nat → Bool) (ms : MS) : Prop where
  ex : ∃ (g : Addr) (oc : Value) (od : Option Addr) (pg : Arguments) (bg : List Stmt) (sg : Scope) (dV kV doc pm cdv ct : Value) (an : Option Addr) (osl : Array (Option Value)) (cs : List Value),
    mg x = some (.ref g) ∧ PySem.W.keepIn K (.ref g) = true ∧ K.lookup g = some ⟨oc, od, .func (PySem.W.fnOf x x pg bg sg dV kV doc pm an cdv ct), osl⟩ ∧ PySem.W.codeIn K cdv x = true ∧ L2.Binds K (PySem.W.fnOf x x pg bg sg dV kV doc pm an cdv ct) ["_law_ask"] [] ∧ FnScope ["_law_ask", "_law_e"] ["_law_ask"] sg ∧ Vis sg "_law_ask" ∧
    (∀ c, okc c = true → PySem.W.exmAny K (.ref (B.cad c)) cs = some true) ∧
    ∀ (A : Around) (outer : List Env) (s : Shared) (H : Hp), Room k (A.deeper (envOfC x sg s.heap.objs.size g cdv)) →
      ∀ (tl : XK → Hp → VK → Prop) (f : Addr), (∀ (W : L2.WX) (pn : List (Addr × Obj)) (xe : Value → Shared → Prop) (E : XK) (p1 p2 : Pos), Takes ((cxOf C8.CX0 P w K mg base ["_law_ask", "_law_e"] x sg g cdv A outer s H C8.E0).tr pn xe) W → (∀ cls d σ' H', E cls d H' → W cls d σ' H') →
        PE ((cxOf C8.CX0 P w K mg base ["_law_ask", "_law_e"] x sg g cdv A outer s H C8.E0).tr pn xe) (.Call (.Name "_law_ask" p1) [] [] p2) (fun σZ HZ Q => σZ[0]? = some (some (.ref f)) ∧ tl E HZ Q)) →
      ∃ t, PSs (cxOf C8.CX0 P w K mg base ["_law_ask", "_law_e"] x sg g cdv A outer s H C8.E0) bg t ∧ ∀ (D : Ends) (σ : L2.St) (H : Hp), σ.length = 2 → σ[0]? = some (some (.ref f)) →
        tl (fun cls d H' => ∀ σ' : L2.St, σ'.length = 2 → wAll K cs 1 (fun a cls d D σ H => ∃ (N' : Ent) (c : Nat) (dd : Addr), cls = .ref (B.cad c) ∧ d = some dd ∧ tS (B.with (a, c, dd)) N' (fun _ _ _ _ => False) ms D σ H) D cls d σ' H') H (fun v' H' => ([V.str "", v'] : List V).length ≤ sizeLine ∧ ∀ p, H' p = none → D.rt (.ref p) (upd H' p (.tup [.str "", v']))) → t D σ H
section
variable {P : Program} {w : World} {K : PySem.W.Frag} {mg : Str → Option Value} {base : Heap} {B : Bs} {k : Nat} {x : Str} {sg : Scope} {g : Addr} {cdv : Value} {A : Around} {outer : List Env} {s : Shared} {H : Hp} {okc : Nat → Bool} {ms : MS} {cs : List Value} {f : Addr} {tl : XK → Hp → VK → Prop}
variable {tt : Expr} {b₀ : Stmt} {suite : List Stmt} {j k1 : Nat} {q1 q2 q2' q3 q4 q5 q6 q7 : Pos}
/-- its body: try: return ("", _law_ask()) / except tt as _law_e: suite -/
theorem try_body (hN : (["_law_ask", "_law_e"] : List Str).Nodup) (he : sg.names.lookup ("_law_e" : Str) = some .local) (T : TestX (cxOf C8.CX0 P w K mg base ["_law_ask", "_law_e"] x sg g cdv A outer s H C8.E0) tt cs)
    (act : ∀ (W : L2.WX) (pn : List (Addr × Obj)) (xe : Value → Shared → Prop) (E : XK) (p1 p2 : Pos), Takes ((cxOf C8.CX0 P w K mg base ["_law_ask", "_law_e"] x sg g cdv A outer s H C8.E0).tr pn xe) W → (∀ cls d σ' H', E cls d H' → W cls d σ' H') →
        PE ((cxOf C8.CX0 P w K mg base ["_law_ask", "_law_e"] x sg g cdv A outer s H C8.E0).tr pn xe) (.Call (.Name "_law_ask" p1) [] [] p2) (fun σZ HZ Q => σZ[0]? = some (some (.ref f)) ∧ tl E HZ Q))
    (hsu : ∀ (a : Addr) (oe : Obj) (c : Nat) (dd : Addr) (pn : List (Addr × Obj)) (N' : Ent), HasX ((cxOf C8.CX0 P w K mg base ["_law_ask", "_law_e"] x sg g cdv A outer s H C8.E0).suite a ((a, oe) :: pn)) (B.with (a, c, dd)) →
      SimSs ((cxOf C8.CX0 P w K mg base ["_law_ask", "_law_e"] x sg g cdv A outer s H C8.E0).suite a ((a, oe) :: pn)) (B.with (a, c, dd)) N' (fun _ _ _ _ => False) (b₀ :: suite) ms) :
    ∃ t, PSs (cxOf C8.CX0 P w K mg base ["_law_ask", "_law_e"] x sg g cdv A outer s H C8.E0) [.Try [.Return (some (.Tuple [.Constant (.str "") j q1, .Call (.Name "_law_ask" q2) [] [] q2'] k1 q3)) q4] [.ExceptHandler (some tt) (some "_law_e") (b₀ :: suite) q5] [] [] q6] t ∧ ∀ (D : Ends) (σ : L2.St) (H : Hp), σ.length = 2 → σ[0]? = some (some (.ref f)) →
        tl (fun cls d H' => ∀ σ' : L2.St, σ'.length = 2 → wAll K cs 1 (fun a cls d D σ H => ∃ (N' : Ent) (c : Nat) (dd : Addr), cls = .ref (B.cad c) ∧ d = some dd ∧ tS (B.with (a, c, dd)) N' (fun _ _ _ _ => False) ms D σ H) D cls d σ' H') H (fun v' H' => ([V.str "", v'] : List V).length ≤ sizeLine ∧ ∀ p, H' p = none → D.rt (.ref p) (upd H' p (.tup [.str "", v']))) → t D σ H := by
  refine ⟨_, pss_one (ps_tryAll (tb := fun W D σ H => ∃ E : XK, (∀ cls d H', E cls d H' → ∀ σ' : L2.St, σ'.length = 2 → W cls d σ' H') ∧ σ[0]? = some (some (.ref f)) ∧ tl E H (fun v' H' => ([V.str "", v'] : List V).length ≤ sizeLine ∧ ∀ p, H' p = none → D.rt (.ref p) (upd H' p (.tup [.str "", v']))))
    (ts := fun a cls d D σ H => ∃ (N' : Ent) (c : Nat) (dd : Addr), cls = .ref (B.cad c) ∧ d = some dd ∧ tS (B.with (a, c, dd)) N' (fun _ _ _ _ => False) ms D σ H) (i := 1) rfl rfl hN rfl he T (fun W pn xe tk pa => ?_) fun a oe cls d pn hz hd => ?_), fun D σ H hl h0 h => ⟨_, fun cls d H' q => q, h0, h⟩⟩
  · -- the wish told of frames of two slots
    have tk2 : Takes ((cxOf C8.CX0 P w K mg base ["_law_ask", "_law_e"] x sg g cdv A outer s H C8.E0).tr pn xe) (fun cls d σ H => σ.length = 2 → W cls d σ H) := fun u s' ⟨a, B, sI, pins, σ, H, cls, d, e, I, nb, up, sky, na, os, ag, w⟩ => tk u s' ⟨a, B, sI, pins, σ, H, cls, d, e, I, nb, up, sky, na, os, ag, w I.len⟩
    refine ⟨fun pins s2 σ H D I ⟨E, hE, h0, h⟩ => ?_⟩
    refine (pss_one (ps_ret (pos := q4) (pe_tup (x1 := k1) (pos := q3) (pa_cons (pe_str (j := j) (pos := q1)) (pa_cons (act _ pn xe E q2 q2' tk2 fun cls d σ' H' q hl => hE cls d H' q σ' hl) pa_nil))))).run pins s2 σ H D I ?_
    refine ⟨h0, ?_⟩
    exact h
  · refine ⟨fun pins s2 σ H D I ⟨N', c, dd, e1, e2, h⟩ => ?_⟩
    subst e1
    subst e2
    refine (hsu a oe c dd pn N' ⟨fun a' c' dd' e => ?_⟩).run pins s2 σ H D I h
    cases e
    exact ⟨oe, List.mem_cons_self, hz, hd⟩
end
/-! ### the call -/
/-- what the making of a lambda asks of the def that runs: its code object's table -/
structure LamT (X : Cx) (B : Bs) : Prop where
  ex : ∃ c P, TabB X.base X.mg c P ∧ X.env.code = .ref c ∧ (P, X.env.qual ++ "<lambda>") ∈ B.T ∧ ∀ p ∈ B.T, p.1 = P → p.2 = X.env.qual ++ "<lambda>"
section
variable {X : Cx} {B : Bs} {N : Ent} {WX : L2.WX} {k j : Nat} {x : Str} {okc : Nat → Bool} {ms : MS} {ml : ME} {params : Arguments} {body : Expr} {scope : Scope} {p lpos pos : Pos}
theorem sim_try (F : TryF X.prog X.w X.K X.mg X.base B k x okc ms) (hB : B.xn = none) (LT : LamT X B) (hr : Room (k + 1) X.A) (hg : Gl X x) (L : LamS X.env.scope scope) (hdef : defaultsOf params X.env = ([], []))
    (hbind : ∀ (q : Str) (cl : List (Str × Addr)) (pm cv ctv : Value), bindArgs (PySem.W.kla_fn "<lambda>" q params body scope cl pm cv ctv) ⟨[], []⟩ = pure [])
    (hbody : ∀ (A : Around) (outer : List Env) (s : Shared) (H : Hp) (E : XK) (f c' : Addr), Room j (A.deeper (lamEnv X scope s.heap.objs.size f c')) → Takes (lamCx X A outer s H E scope f c') (fun c d _ H => E c d H) → SimE (lamCx X A outer s H E scope f c') B N (fun c d _ H => E c d H) body ml) (hjk : j + 1 ≤ k)
    (hdb : (x == ("__debug__" : Str)) = false := by decide) :
    SimE X B N WX (.Call (.Name x p) [.Lambda params body scope lpos] [] pos) (eTry okc ms ml) := by
  refine ⟨fun pins s σ H Q I h => ?_⟩
  obtain ⟨g, oc, od, pg, bg, sg, dV, kV, doc, pm, cdv, ct, an, osl, cs, hm, hk, lk, hcg, hb, Sg, hva, hok, giv⟩ := F.ex
  obtain ⟨c, P, TB, hcode, hmT, hu⟩ := LT.ex
  obtain ⟨W, s0, r, h⟩ := h
  refine wpAny_Call_Name_kw (ld_glob I hg hm ?_ hdb)
  refine PySem.W.callWith_K (h₀ := X.base) I.ok.mod.kin hk ?_ (by rfl) (by rfl)
  show wpAny _ _ (spliced ((false, eval (.Lambda params body scope lpos) X.env) :: backTo pos (starEach [] X.env))) _ _ s
  refine Calls.spliced_cons (lam_new I TB hcode hmT hu r.hr.tb hdef (L.has I.ok) fun f c1 pm' ctv H1 s1 I1 lh T1 hf hfn hfr hco => ?_)
  refine Calls.spliced_nil ⟨I1.kIn, ?_⟩
  have r1 := rel_step r (hrel_lam r.hr lh T1) (step_lam r.hr lh)
  have h1 := Post.from r.slen (stepE_of (step_lam r.hr lh)) h
  have rc : codeAny (model X.prog X.w) X.A (.call (.ref g) ⟨[.ref f], []⟩) (CR C8.CX0 X.stack X.prog X.w H1 s1 Q C8.E0) s1 := by
    refine run_ofS (N := ["_law_ask", "_law_e"]) (ps := ["_law_ask"]) (us := [.ref f]) (vs := [.ref f]) lk hcg Sg hr I1.env0 (hb s1 [.ref f] I1.kIn rfl) (.cons rfl .nil) rfl fun hr' => ?_
    obtain ⟨t, ht, hq⟩ := giv X.A X.stack s1 H1 hr' (fun E HZ Q' => HZ c1 = some (CodeO c1 (X.env.qual ++ "<lambda>")) ∧ tE B N (fun c d _ H => E c d H) ml σ HZ Q') f fun W pn xe E p1 p2 tk hW =>
      pe_act (i := 0) I1 L hf hfn hfr (hbind _ _ _ _ _) tk hW (hr'.mono hjk) (fun A outer s H hr2 => hbody A outer s H E f c1 hr2 (takes_of rfl rfl rfl rfl)) rfl hva rfl rfl
    refine ⟨t, ht, hq _ _ _ rfl rfl ⟨hco, ?_⟩⟩
    exact try_read (D := { nx := fun _ H' => Q .non H', rt := Q }) hB hok r1 h1 fun _ _ q => q
  refine wpAny_call (codeAny_mono rc fun r s2 hq => ?_)
  cases r with
  | error e => exact (show False from hq).elim
  | ok fl =>
    cases fl with
    | ret u => exact I1.after hq
    | next => exact False.elim hq
    | brk => exact False.elim hq
    | cont => exact False.elim hq
end
end Lp

set_option Elab.async false
set_option linter.all false
set_option maxRecDepth 100000
set_option maxHeartbeats 4000000
/-! Lp23: the head's facts read by an own Hook (tables of code objects apart), a law's end. -/
namespace Lp
open PySem PySem.Spec PyProof.Rows L2 LamX NdefX

/-! ### the part of the heap -/
def isTab : Obj → Bool
  | ⟨.none, none, .fields vs, sl⟩ => decide (vs.size = 0) && decide (sl.size = 0)
  | _ => false
theorem isTab_ok {o : Obj} (h : isTab o = true) : o = { cls := .none, data := .fields #[] } := by
  unfold isTab at h
  split at h
  · rename_i vs sl
    obtain ⟨h1, h2⟩ := Bool.and_eq_true_iff.mp h
    rw [Array.eq_empty_of_size_eq_zero (of_decide_eq_true h1), Array.eq_empty_of_size_eq_zero (of_decide_eq_true h2)]
  · cases h
def reachL (g : Addr → Option Obj) : Nat → List Addr
  | 0 => [mainGlobals, cStatics]
  | n + 1 => He.growD g (reachL g n)
def tabsL (g : Addr → Option Obj) (as : List Addr) : List Addr := as.filter fun a => match g a with
  | some o => isTab o
  | none => false
def keepL (g : Addr → Option Obj) (as : List Addr) : List Addr := as.filter fun a => match g a with
  | some o => !isTab o
  | none => true
theorem frG_no {g : Addr → Option Obj} {a : Addr} : ∀ {as : List Addr}, a ∉ as → (He.frG g as).lookup a = none
  | [], _ => rfl
  | b :: r, h => by
    simp only [List.mem_cons, not_or] at h
    unfold He.frG
    cases e : g b with
    | none =>
      rw [List.filterMap_cons, e]
      exact frG_no h.2
    | some o =>
      rw [List.filterMap_cons, e]
      show (((b, o) :: He.frG g r).lookup a) = none
      rw [List.lookup_cons, show (a == b) = false from beq_false_of_ne h.1]
      exact frG_no h.2
/-! ### facts -/
abbrev FactL : Type := PySem.W.Frag → List Addr → Bool
abbrev FnL : Type := Option (Str × Str × Arguments × FuncBody × Scope × Addr × List Str × Addr)
def fnL (K : PySem.W.Frag) (a : Addr) : FnL := match K.lookup a with
  | some ⟨_, _, .func fd, _⟩ => some (fd.name, fd.qualname, fd.params, fd.body, fd.scope, fd.globals, fd.closure.map (·.1), fd.builtins)
  | _ => none
structure DefL where
  at_ : PySem.W.Frag → Addr
  name : Str
  qual : Str
  params : Arguments
  body : List Stmt
  scope : Scope
  cl : List Str := []
  dfl : List He.Dv := []
  kwd : List (Str × He.Dv) := []
def DefL.val (d : DefL) : FnL := some (d.name, d.qual, d.params, .stmts d.body, d.scope, mainGlobals, d.cl, builtinsNs)
def DefL.ok (K : PySem.W.Frag) (d : DefL) : Bool := PySem.W.keepIn K (.ref (d.at_ K)) && (match K.lookup (d.at_ K) with
  | some ⟨_, _, .func fd, _⟩ => PySem.W.codeIn K fd.code d.qual && (He.dflB K fd.defaults (d.dfl.map (He.Dv.v K)) && He.kwdB K fd.kwdefaults (d.kwd.map fun q => (q.1, q.2.v K)))
  | _ => false)
/-- what is asked of an exception's __init__ besides: the code object's file, the cell of its class -/
def supB (P : Program) (K : PySem.W.Frag) (a D : Addr) : Bool := match K.lookup a with
  | some ⟨_, _, .func fd, _⟩ => (match fd.code, fd.closure with
    | .ref c, [(_, cc)] => (match K.lookup c with
      | some ⟨_, _, .fields vs, _⟩ => (match (vs[2]? : Option Value) with
        | some (.str file _) => ((P.main.file : Str) == file)
        | _ => false)
      | _ => false) && (match K.lookup cc with
      | some ⟨_, _, .cell (some (.ref D')), _⟩ => decide (D' = D)
      | _ => false)
    | _, _ => false) && ((PySem.W.clsIn K D).isSome && decide (PySem.W.nsIn K cStatics "thirdparty.any" = some none))
  | _ => false
section
variable {K : PySem.W.Frag} {d : DefL}
theorem DefL.get (e : fnL K (d.at_ K) = d.val) (c : d.ok K = true) : PySem.W.keepIn K (.ref (d.at_ K)) = true ∧ ∃ (oc : Value) (od : Option Addr) (fd : FuncData) (osl : Array (Option Value)), K.lookup (d.at_ K) = some ⟨oc, od, .func fd, osl⟩ ∧
    PySem.W.codeIn K fd.code d.qual = true ∧ DflV K fd.defaults (d.dfl.map (He.Dv.v K)) ∧ KwdV K fd.kwdefaults (d.kwd.map fun q => (q.1, q.2.v K)) ∧
    fd.name = d.name ∧ fd.qualname = d.qual ∧ fd.params = d.params ∧ fd.body = .stmts d.body ∧ fd.scope = d.scope ∧ fd.globals = mainGlobals ∧ fd.closure.map (·.1) = d.cl ∧ fd.builtins = builtinsNs := by
  obtain ⟨kp, c2⟩ := Bool.and_eq_true_iff.mp c
  refine ⟨kp, ?_⟩
  unfold fnL at e
  cases q : K.lookup (d.at_ K) with
  | none => rw [q] at c2; cases c2
  | some o =>
    obtain ⟨oc, od, dt, osl⟩ := o
    rw [q] at c2 e
    cases dt with
    | func fd =>
      have e2 : (some (fd.name, fd.qualname, fd.params, fd.body, fd.scope, fd.globals, fd.closure.map (·.1), fd.builtins) : FnL) = some (d.name, d.qual, d.params, .stmts d.body, d.scope, mainGlobals, d.cl, builtinsNs) := e
      simp only [Option.some.injEq, Prod.mk.injEq] at e2
      obtain ⟨h1, h2, h3, h4, h5, h6, h7, h8⟩ := e2
      obtain ⟨k1, k2⟩ := Bool.and_eq_true_iff.mp (show (PySem.W.codeIn K fd.code d.qual && (He.dflB K fd.defaults (d.dfl.map (He.Dv.v K)) && He.kwdB K fd.kwdefaults (d.kwd.map fun q => (q.1, q.2.v K)))) = true from c2)
      obtain ⟨k3, k4⟩ := Bool.and_eq_true_iff.mp k2
      exact ⟨oc, od, fd, osl, rfl, k1, He.dflB_ok k3, He.kwdB_ok k4, h1, h2, h3, h4, h5, h6, h7, h8⟩
    | _ => cases c2
theorem DefL.funD (e : fnL K (d.at_ K) = d.val) (c : d.ok K = true) (hc : d.cl = []) : ∃ fd, FunD K d.name d.qual d.params d.body d.scope (d.dfl.map (He.Dv.v K)) (d.kwd.map fun q => (q.1, q.2.v K)) (d.at_ K) fd := by
  obtain ⟨kp, oc, od, fd, osl, lk, k1, k2, k3, h1, h2, h3, h4, h5, h6, h7, h8⟩ := d.get e c
  obtain ⟨n1, n2, n3, n4, n5, n6, n7, n8, n9, n10, n11, n12, n13, n14, n15⟩ := fd
  simp only at h1 h2 h3 h4 h5 h6 h7 h8 k1 k2 k3
  rw [hc, List.map_eq_nil_iff] at h7
  subst h1 h2 h3 h4 h5 h6 h7 h8
  exact ⟨_, ⟨oc, od, n8, n9, n10, n11, n12, n13, n14, osl, rfl, lk, k1, k2, k3⟩, kp⟩
theorem DefL.sup {P : Program} {D : Addr} (e : fnL K (d.at_ K) = d.val) (c : d.ok K = true) (hc : d.cl = [("__class__" : Str)]) (hn : d.name = "__init__") (hb : supB P K (d.at_ K) D = true)
    (self : ∃ ar : Arg, (d.params.posonlyargs ++ d.params.args).head? = some ar ∧ ar.arg = ("self" : Str)) (hs : d.scope.names.lookup ("super" : Str) = some .globalImplicit) (hcl : d.scope.names.lookup ("__class__" : Str) = some .free) (hl : d.scope.names.lookup ("self" : Str) = some .local)
    (top : (P.main.scope.names.lookup ("super" : Str)).isSome = false) : ∃ cc cda fd, SupF P K D d.qual d.params d.body d.scope (d.at_ K) cc cda fd ∧ ∃ (oc : Value) (od : Option Addr) (dV kV doc pm : Value) (an : Option Addr) (ct : Value) (osl : Array (Option Value)), fd = PySem.W.ksFn "__init__" d.qual d.params d.body d.scope dV kV doc pm an (.ref cda) ct cc ∧ DflV K dV (d.dfl.map (He.Dv.v K)) := by
  obtain ⟨kp, oc, od, fd, osl, lk, k1, k2, k3, h1, h2, h3, h4, h5, h6, h7, h8⟩ := d.get e c
  unfold supB at hb
  rw [lk] at hb
  obtain ⟨n1, n2, n3, n4, n5, n6, n7, n8, n9, n10, n11, n12, n13, n14, n15⟩ := fd
  simp only at h1 h2 h3 h4 h5 h6 h7 h8 k1 k2 k3
  rw [hc] at h7
  rw [hn] at h1
  obtain ⟨p, rfl, hp⟩ := List.map_eq_singleton_iff.mp h7
  obtain ⟨pn, cc⟩ := p
  have hp : pn = "__class__" := hp
  subst hp
  dsimp only at hb
  obtain ⟨hb1, hb2⟩ := Bool.and_eq_true_iff.mp hb
  obtain ⟨hb2, hb3⟩ := Bool.and_eq_true_iff.mp hb2
  cases n13 with
  | ref cda =>
    dsimp only at hb1
    obtain ⟨f1, f2⟩ := Bool.and_eq_true_iff.mp hb1
    have hfile : ∃ (ccl : Value) (cdd : Option Addr) (vs : Array Value) (ccs : Array (Option Value)) (file : Str) (tf : Tok), K.lookup cda = some ⟨ccl, cdd, .fields vs, ccs⟩ ∧ vs[2]? = some (.str file tf) ∧ ((P.main.file : Str) == file) = true := by
      split at f1
      · rename_i ccl cdd vs ccs q
        split at f1
        · rename_i file tf q2
          exact ⟨ccl, cdd, vs, ccs, file, tf, q, q2, f1⟩
        · cases f1
      · cases f1
    have hcell : ∃ (cl : Value) (cld : Option Addr) (csl : Array (Option Value)), K.lookup cc = some ⟨cl, cld, .cell (some (.ref D)), csl⟩ := by
      split at f2
      · rename_i cl cld D' csl q
        have := of_decide_eq_true f2
        subst this
        exact ⟨cl, cld, csl, q⟩
      · cases f2
    subst h1 h2 h3 h4 h5 h6 h8
    refine ⟨cc, cda, _, ⟨⟨oc, od, n8, n9, n10, n11, n12, n14, osl, rfl, lk⟩, k1, hfile, hcell, ?_, of_decide_eq_true hb3, self, hs, hcl, hl, top⟩, oc, od, n8, n9, n10, n11, n12, n14, osl, rfl, k2⟩
    cases z : PySem.W.clsIn K D with
    | none => rw [z] at hb2; cases hb2
    | some cd => exact ⟨cd, rfl⟩
  | _ => cases hb1
end
/-- an exception class's facts -/
def vecB (K : PySem.W.Frag) (B i newId : String) (bmB : List Value) (D : Addr) : Bool := PySem.W.excInitIn K D bmB newId && (decide (PySem.W.ks_superIn K D D "__init__" = some (some (.builtin i))) && (decide (PySem.W.subIn K (.ref D) (.type B) = some true) && (decide (PySem.W.mroIn K D (.ref D) = some true) && (PySem.W.excOver K D bmB &&
  ((match PySem.W.clsIn K D with
    | some cd => cd.hasDict
    | none => false) && (decide (PySem.W.findIn K (.ref D) "__setattr__" = some (some (.builtin "object.__setattr__"))) && (decide (PySem.W.subIn K (.ref D) (.type "BaseException") = some true) && (decide (PySem.W.typeIn K (.ref D) = some (.type "type")) && PySem.W.keepIn K (.ref D)))))))))
theorem vecB_ok {K : PySem.W.Frag} {B i newId : String} {bmB : List Value} {D : Addr} (h : vecB K B i newId bmB D = true) : VeC K B i newId bmB D := by
  unfold vecB at h
  simp only [Bool.and_eq_true, decide_eq_true_eq] at h
  obtain ⟨h1, h2, h3, h4, h5, h6, h7, h8, h9, h10⟩ := h
  refine ⟨⟨h1, h2, h3, h4⟩, ⟨h5, ?_, h7⟩, h8, h9, h10⟩
  split at h6
  · rename_i cd q; exact ⟨cd, q, h6⟩
  · cases h6
/-- the fields of a caught one -/
def xfsB (K : PySem.W.Frag) (C : Addr) (fs : List Str) : Bool := xfB K C && fs.all fun f => decide (PySem.W.findIn K (.ref C) f = some none)
theorem xfsB_ok {K : PySem.W.Frag} {C : Addr} {fs : List Str} (h : xfsB K C fs = true) {f : Str} (hf : f ∈ fs) : XfC K C ∧ PySem.W.findIn K (.ref C) f = some none := by
  obtain ⟨h1, h2⟩ := Bool.and_eq_true_iff.mp h
  exact ⟨xfB_ok h1, of_decide_eq_true (List.all_eq_true.mp h2 f hf)⟩
/-- the table of a def's code object -/
def codeAd (K : PySem.W.Frag) (a : Addr) : Addr := match K.lookup a with
  | some ⟨_, _, .func fd, _⟩ => (match fd.code with
    | .ref c => c
    | _ => 0)
  | _ => 0
def tabAd (K : PySem.W.Frag) (a : Addr) : Addr := match K.lookup (codeAd K a) with
  | some ⟨_, _, .fields vs, _⟩ => (match (vs[11]? : Option Value) with
    | some (.ref P) => P
    | _ => 0)
  | _ => 0
def tabB (K : PySem.W.Frag) (T : List Addr) (a : Addr) : Bool := decide (tabAd K a ∈ T) && (decide (codeAd K a ≠ tabAd K a) && (decide (mainGlobals ≠ tabAd K a) && ((match K.lookup a with
  | some ⟨_, _, .func fd, _⟩ => (match fd.code with
    | .ref c => true
    | _ => false)
  | _ => false) && (match K.lookup (codeAd K a) with
  | some ⟨.type c, _, .fields vs, _⟩ => decide (c = "code") && ((match (vs[11]? : Option Value) with
      | some (.ref _) => true
      | _ => false) && ((match (vs[18]? : Option Value) with
      | some (.str _ _) => true
      | _ => false) && ((match (vs[7]? : Option Value) with
      | some (.int _ _) => true
      | _ => false) && ((match (vs[9]? : Option Value) with
      | some (.bool _) => true
      | _ => false) && (match (vs[10]? : Option Value) with
      | some (.int _ _) => true
      | _ => false)))))
  | _ => false))))
theorem tabB_ok {K : PySem.W.Frag} {T : List Addr} {a : Addr} (b : tabB K T a = true) : tabAd K a ∈ T ∧ mainGlobals ≠ tabAd K a ∧ (∀ {fd : FuncData} {oc : Value} {od : Option Addr} {osl : Array (Option Value)}, K.lookup a = some ⟨oc, od, .func fd, osl⟩ → fd.code = .ref (codeAd K a)) ∧ ∀ h : Heap, K.In h → PySem.W.CodeHd h (codeAd K a) (tabAd K a) := by
  unfold tabB at b
  simp only [Bool.and_eq_true, decide_eq_true_eq] at b
  obtain ⟨b1, b2, b3, b4, b5⟩ := b
  refine ⟨b1, b3, fun {fd oc od osl} lk => ?_, fun h X => ?_⟩
  · unfold codeAd
    rw [lk] at b4 ⊢
    dsimp only at b4 ⊢
    cases e : fd.code with
    | ref c => rfl
    | _ => rw [e] at b4; cases b4
  · split at b5
    · rename_i c od vs sl q
      simp only [Bool.and_eq_true, decide_eq_true_eq] at b5
      obtain ⟨rfl, c1, c2, c3, c4, c5⟩ := b5
      have hP : tabAd K a = (match (vs[11]? : Option Value) with
        | some (.ref P) => P
        | _ => 0) := by
        unfold tabAd
        rw [q]
      obtain ⟨P, e1⟩ : ∃ P, vs[11]? = some (Value.ref P) := by
        split at c1
        · rename_i P e; exact ⟨P, e⟩
        · cases c1
      obtain ⟨file, tf, e2⟩ : ∃ file tf, vs[18]? = some (Value.str file tf) := by
        split at c2
        · rename_i f t e; exact ⟨f, t, e⟩
        · cases c2
      obtain ⟨flags, tg, e3⟩ : ∃ i t, vs[7]? = some (Value.int i t) := by
        split at c3
        · rename_i f t e; exact ⟨f, t, e⟩
        · cases c3
      obtain ⟨inF, e4⟩ : ∃ b, vs[9]? = some (Value.bool b) := by
        split at c4
        · rename_i f e; exact ⟨f, e⟩
        · cases c4
      obtain ⟨text, tt, e5⟩ : ∃ i t, vs[10]? = some (Value.int i t) := by
        split at c5
        · rename_i f t e; exact ⟨f, t, e⟩
        · cases c5
      have hP : tabAd K a = P := by rw [hP, e1]
      have gd : ∀ {i : Nat} {v : Value}, vs[i]? = some v → vs.getD i .none = v := fun {i v} e => by
        rw [Array.getD_eq_getD_getElem?, e]; rfl
      exact ⟨_, vs, file, tf, flags, tg, inF, text, tt, X _ _ q, rfl, rfl, by rw [hP]; exact e1, by rw [hP]; exact gd e1, gd e2, gd e3, gd e4, gd e5, b2⟩
    · cases b5
/-! ### the Hook -/
abbrev AlL : Type := (Bool × List FnL) × List (Option (List (Option (Str × Int))))
def obsK (fa : List FactL) (fn : List DefL) (ts : List He.Tab) (K : PySem.W.Frag) (T : List Addr) : AlL := (((fa.all fun f => f K T) && fn.all fun d => d.ok K, fn.map fun d => fnL K (d.at_ K)), ts.map fun t => He.dicW K (t.1 K))
def valL (fn : List DefL) (ts : List He.Tab) (w : World) : AlL := ((true, fn.map DefL.val), ts.map fun t => some (He.keysIn w.params t.2))
def SaysL (fa : List FactL) (fn : List DefL) (ts : List He.Tab) (w : World) (K : PySem.W.Frag) (T : List Addr) : Prop := obsK fa fn ts K T = valL fn ts w
def obsAt (fa : List FactL) (fn : List DefL) (ts : List He.Tab) (g : Addr → Option Obj) (as : List Addr) : AlL := obsK fa fn ts (He.frG g (keepL g as)) (tabsL g as)
def obsLG (n : Nat) (fa : List FactL) (fn : List DefL) (ts : List He.Tab) (g : Addr → Option Obj) : AlL := obsAt fa fn ts g (reachL g n)
def SayL (fa : List FactL) (fn : List DefL) (ts : List He.Tab) (w : World) (h : Heap) (K : PySem.W.Frag) (T : List Addr) : Prop := K.In h ∧ (∀ P ∈ T, h.get? P = some { cls := .none, data := .fields #[] } ∧ K.lookup P = none) ∧ SaysL fa fn ts w K T
theorem sayL_of {n : Nat} {fa : List FactL} {fn : List DefL} {ts : List He.Tab} {w : World} {h : Heap} (e : obsLG n fa fn ts h.get? = valL fn ts w) : ∃ K T, SayL fa fn ts w h K T := by
  refine ⟨_, _, He.frG_in, fun P hP => ?_, e⟩
  obtain ⟨h1, h2⟩ := List.mem_filter.mp hP
  cases q : h.get? P with
  | none => rw [q] at h2; cases h2
  | some o =>
    rw [q] at h2
    refine ⟨congrArg some (isTab_ok h2), frG_no fun z => ?_⟩
    obtain ⟨_, z2⟩ := List.mem_filter.mp z
    rw [q] at z2
    have h2 : isTab o = true := h2
    have z2 : (!isTab o) = true := z2
    rw [h2] at z2
    cases z2
def hookL (n : Nat) (fa : List FactL) (fn : List DefL) (ts : List He.Tab) : PySem.W.Hook where
  α := AlL
  obs := fun s => obsLG n fa fn ts s.heap.get?
  val := fun w => valL fn ts w
  says := fun w h => ∃ K T, SayL fa fn ts w h K T
  of := fun _ _ e => sayL_of e
  keeps := fun _ _ _ ⟨K, T, hK, hT, c⟩ k => ⟨K, T, PySem.W.Frag.In.keeps hK k, fun P hP => ⟨k _ _ (hT P hP).1, (hT P hP).2⟩, c⟩
theorem obsLG_eq {n : Nat} {fa : List FactL} {fn : List DefL} {ts : List He.Tab} {g : Addr → Option Obj} {s : Shared} (h : ∀ a, g a = s.heap.get? a) : obsLG n fa fn ts g = (hookL n fa fn ts).obs s := by
  have e : g = s.heap.get? := funext h
  rw [e] <;> rfl
section
variable {fa : List FactL} {fn : List DefL} {ts : List He.Tab} {w : World} {K : PySem.W.Frag} {T : List Addr}
theorem SaysL.fact (c : SaysL fa fn ts w K T) (i : Nat) {f : FactL} (h : fa[i]? = some f := by rfl) : f K T = true := by
  have c1 := (Bool.and_eq_true_iff.mp (show ((fa.all fun f => f K T) && fn.all fun d => d.ok K) = true from congrArg (fun z : AlL => z.1.1) c)).1
  exact List.all_eq_true.mp c1 f (List.mem_of_getElem? h)
theorem SaysL.def_ (c : SaysL fa fn ts w K T) (i : Nat) {d : DefL} (h : fn[i]? = some d := by rfl) : fnL K (d.at_ K) = d.val ∧ d.ok K = true := by
  have c2 := (Bool.and_eq_true_iff.mp (show ((fa.all fun f => f K T) && fn.all fun d => d.ok K) = true from congrArg (fun z : AlL => z.1.1) c)).2
  have e : fn.map (fun d => fnL K (d.at_ K)) = fn.map DefL.val := congrArg (fun z : AlL => z.1.2) c
  have e2 : (fn.map fun d => fnL K (d.at_ K))[i]? = (fn.map DefL.val)[i]? := by rw [e]
  rw [List.getElem?_map, List.getElem?_map, h] at e2
  exact ⟨Option.some.inj e2, List.all_eq_true.mp c2 d (List.mem_of_getElem? h)⟩
theorem SaysL.dicW (c : SaysL fa fn ts w K T) (i : Nat) {t : He.Tab} (h : ts[i]? = some t := by rfl) : He.dicW K (t.1 K) = some (He.keysIn w.params t.2) := by
  have e : ts.map (fun t => He.dicW K (t.1 K)) = ts.map fun t => some (He.keysIn w.params t.2) := congrArg (fun z : AlL => z.2) c
  have e2 : (ts.map fun t => He.dicW K (t.1 K))[i]? = (ts.map fun t => some (He.keysIn w.params t.2))[i]? := by rw [e]
  rw [List.getElem?_map, List.getElem?_map, h] at e2
  exact Option.some.inj e2
theorem SaysL.dic (c : SaysL fa fn ts w K T) (i : Nat) {t : He.Tab} (h : ts[i]? = some t := by rfl) : ∃ es n, KDict K w (t.1 K) es n := by
  have e : ts.map (fun t => He.dicW K (t.1 K)) = ts.map fun t => some (He.keysIn w.params t.2) := congrArg (fun z : AlL => z.2) c
  have e2 : (ts.map fun t => He.dicW K (t.1 K))[i]? = (ts.map fun t => some (He.keysIn w.params t.2))[i]? := by rw [e]
  rw [List.getElem?_map, List.getElem?_map, h] at e2
  exact He.dicW_ok (Option.some.inj e2)
end
/-! ### a law's end -/
/-- the tables that lambdas' code objects go to: the makers' addresses and names -/
def tabT (K : PySem.W.Frag) (ls : List ((PySem.W.Frag → Addr) × Str)) : List (Addr × Str) := ls.map fun p => (tabAd K (p.1 K), p.2)
theorem walkL {l : PySem.W.OpenLaw} {n k : Nat} {q : Program} {loose : List Str} {XP : (Str → Option Value) → Heap → Prop} {YP : World → Heap → Prop} {d : DefRec} {x : Str} {fa : List FactL} {fn : List DefL} {ts : List He.Tab} {B : PySem.W.Frag → Bs} {m : MF} {ls : List ((PySem.W.Frag → Addr) × Str)}
    (hn : l.most = some n) (hn2 : n ≤ sizeLine) (hdf : d.params.defaults = []) (hr : Room k callerA) (hY : ∀ w h, YP w h → ∃ K T, SayL fa fn ts w h K T) (hB : ∀ K, (B K).K = K) (hT : ∀ K, (B K).T = tabT K ls) (hls : ∀ w K T, SaysL fa fn ts w K T → ∀ p ∈ ls, tabB K T (p.1 K) = true)
    (F : ∀ (w : World) (mg : Str → Option Value) (f : Addr) (h : Heap) (K : PySem.W.Frag) (T : List Addr), K.In h → h.Ns mainGlobals mg → mg d.name = some (.ref f) → SaysL fa fn ts w K T →
      ∃ fd : FuncData, (∀ (s : Shared) (u : Value), BindsTo s fd ⟨[u], []⟩ [(x, u)]) ∧ ∀ base : Heap, K.In base → base.Ns mainGlobals mg → (∀ p ∈ ls, TabB base mg (codeAd K (p.1 K)) (tabAd K (p.1 K))) → FnOk l.prog w K mg base (L2.CX l.prog w) k f fd [x] (spF (B K) 1 m))
    (law : ∀ ns : List Int, ns.length ≤ n → (∀ z ∈ ns, Builtin.Int.intBits z ≤ 1048576) → ∃ h', m [.scr (ns.map .int)] [] = .ok (.bl true) h') :
    PySem.W.WalkO q loose XP YP l.row.toRowW d [] (fun f vs => PySem.call f vs) := by
  refine walk_ofTsE (CX := fun w => L2.CX l.prog w) (x := x) hn hn2 hdf hr (fun w mg f h Y hns hmg => ?_) fun w H s e s' z => ?_
  · obtain ⟨K, T, KX, hTT, c⟩ := hY w h Y
    obtain ⟨fd, hb, hF⟩ := F w mg f h K T KX hns hmg c
    have tb := fun p hp => tabB_ok (hls w K T c p hp)
    refine ⟨K, KX, fd, ls.map fun p => (codeAd K (p.1 K), tabAd K (p.1 K)), spZ 1 (spF (B K) 1 m), fun p hp => ?_, fun p hp => ?_, fun p hp => ?_, hb, fun H a ns hl hbits hH hS => ⟨rfl, fun hz => ?_⟩, fun base hKb hnb htb => spz_ok (hF base hKb hnb fun p hp => htb (codeAd K (p.1 K), tabAd K (p.1 K)) (List.mem_map.mpr ⟨p, hp, rfl⟩)) rfl⟩
    · obtain ⟨q, hq, rfl⟩ := List.mem_map.mp hp
      exact (hTT _ (tb q hq).1).1
    · obtain ⟨q, hq, rfl⟩ := List.mem_map.mp hp
      exact (hTT _ (tb q hq).1).2
    · obtain ⟨q, hq, rfl⟩ := List.mem_map.mp hp
      exact (tb q hq).2.2.2 h KX
    · refine law_sp hz (fun p hp => ?_) (Nat.le_trans hl hn2) (by rw [hB]; exact hS) (law ns hl hbits)
      rw [hT] at hp
      obtain ⟨q, hq, rfl⟩ := List.mem_map.mp hp
      exact TabS.nil (hH (codeAd K (q.1 K), tabAd K (q.1 K)) (List.mem_map.mpr ⟨q, hq, rfl⟩))
  · obtain ⟨_, _, _, _, _, _, _, _, _, _, _, _, z⟩ := z
    exact z
end Lp

set_option Elab.async false
set_option linter.all false
set_option maxRecDepth 100000
set_option maxHeartbeats 4000000
/-! Lp24: what printed derivations use, exceptions. -/
namespace Lp
open PySem PySem.Spec PyProof.Rows L2 LamX NdefX
theorem _root_.L2H.RoomH.u9 {k : Nat} {A : Around} (r : L2H.RoomH k A) : U9 A := by have := r.un; show A.units + 200 < cLine; omega
def ExcA (P : Program) (w : World) (K : PySem.W.Frag) (mg : Str → Option Value) (base : Heap) (B : Bs) (k : Nat) (x : Str) (c n : Nat) (fv : List PV → List PV) : Prop := ∃ j, j + 1 ≤ k ∧ ExcC P w K mg base B j x c n fv
theorem ExcA.mono {P : Program} {w : World} {K : PySem.W.Frag} {mg : Str → Option Value} {base : Heap} {B : Bs} {i k : Nat} {x : Str} {c n : Nat} {fv : List PV → List PV} (F : ExcA P w K mg base B i x c n fv) (h : i ≤ k) : ExcA P w K mg base B k x c n fv :=
  let ⟨j, hj, a⟩ := F
  ⟨j, Nat.le_trans hj h, a⟩
section
variable {X : Cx} {B : Bs} {N : Ent} {WX : L2.WX} {x : Str} {c n k : Nat} {fv : List PV → List PV} {ma : MA} {e : Expr} {es : List Expr} {p pos pos' : Pos}
theorem sims_raiseA (F : ExcA X.prog X.w X.K X.mg X.base B k x c n fv) (hc : X.calm = true) (tk : Takes X WX) (hr : Room k X.A) (hg : Gl X x) (ha : SimA X B N WX (e :: es) ma) (hdb : (x == ("__debug__" : Str)) = false)
    (he : starEach (e :: es) X.env = (false, eval e X.env) :: starEach es X.env) (hpl : (backTo pos (starEach es X.env)).any (·.1) = false) : SimS X B N WX (.Raise (some (.Call (.Name x p) (e :: es) [] pos)) none pos') (sRaise c n fv ma) :=
  let ⟨j, hj, F⟩ := F
  sims_raise F hc tk (hr.mono hj) hg ha hdb he hpl
theorem sims_raiseA0 (F : ExcA X.prog X.w X.K X.mg X.base B k x c 0 fv) (hc : X.calm = true) (tk : Takes X WX) (hr : Room k X.A) (hg : Gl X x) (hdb : (x == ("__debug__" : Str)) = false) : SimS X B N WX (.Raise (some (.Call (.Name x p) [] [] pos)) none pos') (sRaise c 0 fv aNil) :=
  let ⟨j, hj, F⟩ := F
  sims_raise0 F hc tk (hr.mono hj) hg hdb
end
theorem TryF.mono {P : Program} {w : World} {K : PySem.W.Frag} {mg : Str → Option Value} {base : Heap} {B : Bs} {j k : Nat} {x : Str} {okc : Nat → Bool} {ms : MS} (F : TryF P w K mg base B j x okc ms) (h : j ≤ k) : TryF P w K mg base B k x okc ms := by
  obtain ⟨g, oc, od, pg, bg, sg, dV, kV, doc, pm, cdv, ct, an, osl, cs, h1, h2, h3, h4, h5, h6, h7, h8, h9⟩ := F.ex
  exact ⟨g, oc, od, pg, bg, sg, dV, kV, doc, pm, cdv, ct, an, osl, cs, h1, h2, h3, h4, h5, h6, h7, h8, fun A outer s H hr => h9 A outer s H (hr.mono h)⟩
theorem XClsF.with {K : PySem.W.Frag} {B : Bs} {fl : FL} (C : XClsF K B fl) {y : Addr × Nat × Addr} : XClsF K (B.with y) fl := ⟨C.fld, C.cls⟩
/-- the promise of an exception's class from its __init__'s -/
theorem exc_mk {P : Program} {w : World} {K : PySem.W.Frag} {mg : Str → Option Value} {base : Heap} {B : Bs} {k : Nat} {x : Str} {c n : Nat} {fv : List PV → List PV} {fs : List V → List (Str × V)} {Bn i newId : String} {bmB : List Value} {fI : Addr} {fd : FuncData} {ps : List Str} (G : BltX Bn i newId bmB) (Ve : VeC K Bn i newId bmB (B.cad c))
    (iC : PySem.W.findIn K (.ref (B.cad c)) "__init__" = some (some (.ref fI))) (tI : PySem.W.typeIn K (.ref fI) = some (.type "function")) (F : FnOk P w K mg base (L2.CX P w) k fI fd ps (spIni (B.cad c) n fs)) (hb : Binds K fd ps []) (hm : mg x = some (.ref (B.cad c))) (hn : n ≤ 1000)
    (hf : ∀ (W : Wd) (xs : List PV) (vs : List V), Reps B W xs vs → xs.length = n → ∃ us, fs vs = (B.fld c).zip us ∧ us.length = (B.fld c).length ∧ Reps B W (fv xs) us) : ExcC P w K mg base B k x c n fv := ⟨fs, ⟨Bn, i, newId, bmB, fI, fd, ps, G, Ve, iC, tI, F, hb, hm⟩, hn, hf⟩
theorem exc_f0 {B : Bs} {T : Str} {c : Nat} (e : B.fld c = [("code" : Str)]) (k : SOk T) : ∀ (W : Wd) (xs : List PV) (vs : List V), Reps B W xs vs → xs.length = 0 → ∃ us, ([(("code" : Str), V.str T)] : List (Str × V)) = (B.fld c).zip us ∧ us.length = (B.fld c).length ∧ Reps B W [.str T] us := fun W xs vs r hl => by
  rw [e]
  exact ⟨[.str T], rfl, rfl, .one (.str _ k)⟩
theorem exc_f1 {B : Bs} {T f : Str} {c : Nat} (e : B.fld c = [("code" : Str), f]) (k : SOk T) : ∀ (W : Wd) (xs : List PV) (vs : List V), Reps B W xs vs → xs.length = 1 → ∃ us, ([(("code" : Str), V.str T), (f, vs.headD .non)] : List (Str × V)) = (B.fld c).zip us ∧ us.length = (B.fld c).length ∧ Reps B W [.str T, xs.headD .non] us := fun W xs vs r hl => by
  rw [e]
  match xs, vs, r, hl with
  | [x], [v], .cons r1 .nil, _ => exact ⟨[.str T, v], rfl, rfl, .cons (.str _ k) (.one r1)⟩
theorem exc_f2 {B : Bs} {T f g : Str} {c : Nat} (e : B.fld c = [("code" : Str), g, f]) (k : SOk T) : ∀ (W : Wd) (xs : List PV) (vs : List V), Reps B W xs vs → xs.length = 2 → ∃ us, ([(("code" : Str), V.str T), (g, vs.tail.headD .non), (f, vs.headD .non)] : List (Str × V)) = (B.fld c).zip us ∧ us.length = (B.fld c).length ∧ Reps B W [.str T, xs.tail.headD .non, xs.headD .non] us := fun W xs vs r hl => by
  rw [e]
  match xs, vs, r, hl with
  | [x, y], [v, u], .cons r1 (.cons r2 .nil), _ => exact ⟨[.str T, u, v], rfl, rfl, .cons (.str _ k) (.cons r2 (.one r1))⟩
/-- a def whose code object is known -/
theorem fn_okL {P : Program} {w : World} {K : PySem.W.Frag} {mg : Str → Option Value} {base : Heap} {x qual : Str} {params : Arguments} {body : List Stmt} {scope : Scope} {dvs : List V} {kws : List (Str × V)} {f : Addr} {fd : FuncData} {names ps : List Str} {k n kk : Nat} {B : Bs} {mb : MS} {cv : Value}
    (F : FunD K x qual params body scope dvs kws f fd) (S : FnScope names ps scope) (hn : ps.length = n) (hk : names.length - n = kk) (hcode : ∀ {fd : FuncData} {oc : Value} {od : Option Addr} {osl : Array (Option Value)}, K.lookup f = some ⟨oc, od, .func fd, osl⟩ → fd.code = cv)
    (hb : ∀ (A : Around) (outer : List Env) (s : Shared) (H : Hp) (E : XK) (N : Ent), Bdy (cxOf (L2.CX P w) P w K mg base names qual scope f cv A outer s H E) E k →
      SimSs (cxOf (L2.CX P w) P w K mg base names qual scope f cv A outer s H E) B N (fun c d _ H => E c d H) body mb) : FnOk P w K mg base (L2.CX P w) (k + 1) f fd ps (spF B n (mkF kk mb)) := by
  obtain ⟨oc, od, dV, kV, doc, pm, an, cdv, ct, osl, rfl, lk, hcd, _, _⟩ := F.ex
  obtain rfl : cdv = cv := hcode lk
  refine fn_of lk hcd S (fun vs H Q E ⟨W, h, xs, hr, r, e, _⟩ => by rw [hn, ← e, r.length]) fun A outer s H vs Q E hr ⟨W, h, xs, hrel, r, e, q⟩ => ?_
  have bd : Bdy (cxOf (L2.CX P w) P w K mg base names qual scope f cdv A outer s H E) E k := ⟨takes_of rfl rfl rfl rfl, passes_of rfl, hr⟩
  refine ⟨_, hb A outer s H E ⟨W, h, H, hrel.len, W⟩ bd, W, ⟨xs.map some ++ List.replicate kk none, h⟩, ?_, ?_⟩
  · unfold L2.start
    rw [show names.length - vs.length = kk by rw [← r.length, e, hk]]
    exact rel_start (k := kk) hrel r
  · unfold PostS
    unfold mkF at q
    cases e1 : mb ⟨xs.map some ++ List.replicate kk none, h⟩ with
    | bad => rw [e1] at q; exact q.elim
    | exc x1 s1 => rw [e1] at q; exact fun W' σ' H' cls d r' ex => q W' H' cls d r'.hr r'.st ex
    | ok fl s1 =>
      rw [e1] at q
      cases fl with
      | rt v => exact fun W' σ' H' v' r' rv => q W' H' v' r'.hr r'.st rv
      | nx => exact fun W' σ' H' r' => q W' H' .non r'.hr r'.st .non
      | bk => exact q.elim
      | ct => exact q.elim
theorem tab_uniq : ∀ {l : List (Addr × Str)}, (l.map (·.1)).Nodup → ∀ {a : Addr} {q : Str}, (a, q) ∈ l → ∀ p ∈ l, p.1 = a → p.2 = q
  | [], _, _, _, h, _, _, _ => by cases h
  | y :: l, nd, a, q, h, p, hp, e => by
    obtain ⟨n1, n2⟩ := List.nodup_cons.mp nd
    rcases List.mem_cons.mp h with h | h <;> rcases List.mem_cons.mp hp with hp | hp
    · rw [hp, ← h]
    · exact absurd (List.mem_map.mpr ⟨p, hp, by rw [e, ← h]⟩) n1
    · exact absurd (List.mem_map.mpr ⟨(a, q), h, by rw [← hp]; exact e.symm⟩) n1
    · exact tab_uniq n2 h p hp e
def ndT (K : PySem.W.Frag) (ls : List ((PySem.W.Frag → Addr) × Str)) : Bool := decide (((tabT K ls).map (·.1)).Nodup)
def clsB : Stmt → List Stmt
  | .ClassDef _ _ _ b _ _ _ _ _ _ _ => b
  | _ => []
/-- the making of a lambda in the def at f -/
theorem lamT_of {CX : CXT} {P : Program} {w : World} {K : PySem.W.Frag} {mg : Str → Option Value} {base : Heap} {names : List Str} {qual : Str} {scope : Scope} {f : Addr} {A : Around} {outer : List Env} {s : Shared} {H : Hp} {E : XK} {B : Bs} {ls : List ((PySem.W.Frag → Addr) × Str)} {g : PySem.W.Frag → Addr}
    (TB : TabB base mg (codeAd K f) (tabAd K f)) (hT : B.T = tabT K ls) (nd : ndT K ls = true) (hg : g K = f) (hm : (g, qual ++ ".<locals>." ++ "<lambda>") ∈ ls) : LamT (cxOf CX P w K mg base names qual scope f (.ref (codeAd K f)) A outer s H E) B := by
  subst hg
  have m1 : (tabAd K (g K), qual ++ ".<locals>." ++ "<lambda>") ∈ B.T := by
    rw [hT]
    exact List.mem_map.mpr ⟨_, hm, rfl⟩
  refine ⟨codeAd K (g K), tabAd K (g K), TB, rfl, m1, ?_⟩
  have nd : ((tabT K ls).map (·.1)).Nodup := of_decide_eq_true nd
  rw [← hT] at nd
  exact tab_uniq nd m1
end Lp

set_option Elab.async false
set_option linter.all false
set_option maxRecDepth 100000
set_option maxHeartbeats 4000000
/-! Lp25: what is never reached; _law_try's promise; an exception's class from the head's facts. -/
namespace Lp
open PySem PySem.Spec PyProof.Rows L2 LamX NdefX
noncomputable def eBad : ME := fun _ => .bad
noncomputable def sBad : MS := fun _ => .bad
section
variable {X : Cx} {B : Bs} {N : Ent} {WX : L2.WX} {e : Expr} {st : Stmt} {sts : List Stmt}
theorem sim_bad : SimE X B N WX e eBad := ⟨fun pins s σ H Q I h => by obtain ⟨W, s0, r, h⟩ := h; exact h.elim⟩
theorem sims_bad : SimS X B N WX st sBad := ⟨fun pins s σ H D I h => by obtain ⟨W, s0, r, h⟩ := h; exact h.elim⟩
end
section
variable {P : Program} {w : World} {K : PySem.W.Frag} {mg : Str → Option Value} {base : Heap} {B : Bs} {k : Nat} {x : Str} {okc : Nat → Bool} {ms : MS} {cs : List Value} {g : Addr} {fd : FuncData}
variable {tt : Expr} {b₀ : Stmt} {suite : List Stmt} {j k1 : Nat} {q1 q2 q2' q3 q4 q5 q6 q7 : Pos} {params : Arguments} {sg : Scope}
theorem try_ok (F : FunD K x x params [.Try [.Return (some (.Tuple [.Constant (.str "") j q1, .Call (.Name "_law_ask" q2) [] [] q2'] k1 q3)) q4] [.ExceptHandler (some tt) (some "_law_e") (b₀ :: suite) q5] [] [] q6] sg [] [] g fd) (hm : mg x = some (.ref g)) (hbi : L2.Binds K fd ["_law_ask"] [])
    (S : FnScope ["_law_ask", "_law_e"] ["_law_ask"] sg) (hva : Vis sg "_law_ask") (he : sg.names.lookup ("_law_e" : Str) = some .local) (hok : ∀ c, okc c = true → PySem.W.exmAny K (.ref (B.cad c)) cs = some true)
    (T : ∀ (A : Around) (outer : List Env) (s : Shared) (H : Hp) (cdv : Value), TestX (cxOf C8.CX0 P w K mg base ["_law_ask", "_law_e"] x sg g cdv A outer s H C8.E0) tt cs)
    (hsu : ∀ (A : Around) (outer : List Env) (s : Shared) (H : Hp) (cdv : Value) (a : Addr) (oe : Obj) (c : Nat) (dd : Addr) (pn : List (Addr × Obj)) (N' : Ent), L2H.RoomH k ((A.deeper (envOfC x sg s.heap.objs.size g cdv)).mark (some (.ref a))) → HasX ((cxOf C8.CX0 P w K mg base ["_law_ask", "_law_e"] x sg g cdv A outer s H C8.E0).suite a ((a, oe) :: pn)) (B.with (a, c, dd)) →
      SimSs ((cxOf C8.CX0 P w K mg base ["_law_ask", "_law_e"] x sg g cdv A outer s H C8.E0).suite a ((a, oe) :: pn)) (B.with (a, c, dd)) N' (fun _ _ _ _ => False) (b₀ :: suite) ms) : TryF P w K mg base B k x okc ms := by
  obtain ⟨oc, od, dV, kV, doc, pm, an, cdv, ct, osl, rfl, lk, hcd, _, _⟩ := F.ex
  exact ⟨g, oc, od, params, _, sg, dV, kV, doc, pm, cdv, ct, an, osl, cs, hm, F.kp, lk, hcd, hbi, S, hva, hok, fun A outer s H hr tl f act => try_body S.nd he (T A outer s H cdv) act fun a oe c dd pn N' HX => hsu A outer s H cdv a oe c dd pn N' ⟨hr.dp, hr.un⟩ HX⟩
end
/-! ### an exception's class -/
def initB (K : PySem.W.Frag) (D f : Addr) : Bool := decide (PySem.W.findIn K (.ref D) "__init__" = some (some (.ref f))) && decide (PySem.W.typeIn K (.ref f) = some (.type "function"))
/-- what is asked of an __init__'s text besides its body -/
structure IniT (P : Program) (qual : Str) (params : Arguments) (body : List Stmt) (scope : Scope) (ps : List Str) : Prop where
  sc : NScope (ps ++ [("__class__" : Str)]) ps ["__class__"] scope
  self : ∃ ar : Arg, (params.posonlyargs ++ params.args).head? = some ar ∧ ar.arg = ("self" : Str)
  su : scope.names.lookup ("super" : Str) = some .globalImplicit
  cl : scope.names.lookup ("__class__" : Str) = some .free
  sl : scope.names.lookup ("self" : Str) = some .local
  top : (P.main.scope.names.lookup ("super" : Str)).isSome = false
  bind : ∀ (kV doc pm : Value) (an : Option Addr) (cdv ct : Value) (cc : Addr) (us : List Value), us.length = ps.length → bindArgs (PySem.W.ksFn "__init__" qual params body scope .none kV doc pm an cdv ct cc) ⟨us, []⟩ = pure (ps.zip us)
section
variable {P : Program} {w : World} {K : PySem.W.Frag} {mg : Str → Option Value} {base : Heap} {B : Bs} {x T f1 f2 x1 x2 qual : Str} {c j j2 : Nat} {Bn i newId : String} {bmB : List Value} {at_ : PySem.W.Frag → Addr} {params : Arguments} {scope : Scope} {p0 p1 p2 p3 cp ap q0 q1 q2 q3 r0 r1 r2 r3 t0 t1 t2 t3 : Pos}
theorem exc_of0 (G : BltX Bn i newId bmB) (hfl : B.fld c = [("code" : Str)]) (v : vecB K Bn i newId bmB (B.cad c) = true) (xf : xfsB K (B.cad c) ["code"] = true) (hi : initB K (B.cad c) (at_ K) = true) (hs : supB P K (at_ K) (B.cad c) = true)
    (e : fnL K ((DefL.mk at_ "__init__" qual params [supSt T j p0 p1 p2 p3 cp ap, .Assign [.Attribute (.Name "self" t0) "code" t1] (.Constant (.str T) j2 t2) t3] scope ["__class__"] [] []).at_ K) = (DefL.mk at_ "__init__" qual params [supSt T j p0 p1 p2 p3 cp ap, .Assign [.Attribute (.Name "self" t0) "code" t1] (.Constant (.str T) j2 t2) t3] scope ["__class__"] [] []).val ∧ (DefL.mk at_ "__init__" qual params [supSt T j p0 p1 p2 p3 cp ap, .Assign [.Attribute (.Name "self" t0) "code" t1] (.Constant (.str T) j2 t2) t3] scope ["__class__"] [] []).ok K = true)
    (I : IniT P qual params [supSt T j p0 p1 p2 p3 cp ap, .Assign [.Attribute (.Name "self" t0) "code" t1] (.Constant (.str T) j2 t2) t3] scope ["self"])
    (ht : ∀ (cc cda f L : Addr), SupEv T j p0 p1 p2 cp ap (envF (supNF qual params [supSt T j p0 p1 p2 p3 cp ap, .Assign [.Attribute (.Name "self" t0) "code" t1] (.Constant (.str T) j2 t2) t3] scope cc cda) f L))
    (hsu : mg "super" = none) (hm : mg x = some (.ref (B.cad c))) (k : SOk T) : ExcC P w K mg base B 1 x c 0 fun _ => [.str T] := by
  obtain ⟨cc, cda, fd, S, oc, od, dV, kV, doc, pm, an, ct, osl, rfl, hD⟩ := DefL.sup e.1 e.2 rfl rfl hs I.self I.su I.cl I.sl I.top
  obtain ⟨i1, i2⟩ := Bool.and_eq_true_iff.mp hi
  have V := vecB_ok v
  refine exc_mk G V (of_decide_eq_true i1) (of_decide_eq_true i2) (ini0 (k := 0) S G V hsu I.sc (fun L => ht _ _ _ L) (xfsB_ok xf (by simp)).2) ?_ hm (by decide) (exc_f0 hfl k)
  rcases hD with ⟨_, rfl⟩ | ⟨e, _⟩
  · exact .all (I.bind kV doc pm an _ ct cc)
  · exact absurd rfl e
theorem exc_of1 (G : BltX Bn i newId bmB) (hfl : B.fld c = [("code" : Str), f1]) (v : vecB K Bn i newId bmB (B.cad c) = true) (xf : xfsB K (B.cad c) ["code", f1] = true) (hi : initB K (B.cad c) (at_ K) = true) (hs : supB P K (at_ K) (B.cad c) = true)
    (e : fnL K ((DefL.mk at_ "__init__" qual params [supSt T j p0 p1 p2 p3 cp ap, .Assign [.Attribute (.Name "self" q0) f1 q1] (.Name x1 q2) q3, .Assign [.Attribute (.Name "self" t0) "code" t1] (.Constant (.str T) j2 t2) t3] scope ["__class__"] [] []).at_ K) = (DefL.mk at_ "__init__" qual params [supSt T j p0 p1 p2 p3 cp ap, .Assign [.Attribute (.Name "self" q0) f1 q1] (.Name x1 q2) q3, .Assign [.Attribute (.Name "self" t0) "code" t1] (.Constant (.str T) j2 t2) t3] scope ["__class__"] [] []).val ∧ (DefL.mk at_ "__init__" qual params [supSt T j p0 p1 p2 p3 cp ap, .Assign [.Attribute (.Name "self" q0) f1 q1] (.Name x1 q2) q3, .Assign [.Attribute (.Name "self" t0) "code" t1] (.Constant (.str T) j2 t2) t3] scope ["__class__"] [] []).ok K = true)
    (I : IniT P qual params [supSt T j p0 p1 p2 p3 cp ap, .Assign [.Attribute (.Name "self" q0) f1 q1] (.Name x1 q2) q3, .Assign [.Attribute (.Name "self" t0) "code" t1] (.Constant (.str T) j2 t2) t3] scope ["self", x1])
    (ht : ∀ (cc cda f L : Addr), SupEv T j p0 p1 p2 cp ap (envF (supNF qual params [supSt T j p0 p1 p2 p3 cp ap, .Assign [.Attribute (.Name "self" q0) f1 q1] (.Name x1 q2) q3, .Assign [.Attribute (.Name "self" t0) "code" t1] (.Constant (.str T) j2 t2) t3] scope cc cda) f L))
    (hx : (x1 == ("__debug__" : Str)) = false) (hx2 : (x1 == ("__classdict__" : Str)) = false)
    (hsu : mg "super" = none) (hm : mg x = some (.ref (B.cad c))) (k : SOk T) : ExcC P w K mg base B 1 x c 1 fun xs => [.str T, xs.headD .non] := by
  obtain ⟨cc, cda, fd, S, oc, od, dV, kV, doc, pm, an, ct, osl, rfl, hD⟩ := DefL.sup e.1 e.2 rfl rfl hs I.self I.su I.cl I.sl I.top
  obtain ⟨i1, i2⟩ := Bool.and_eq_true_iff.mp hi
  have V := vecB_ok v
  refine exc_mk G V (of_decide_eq_true i1) (of_decide_eq_true i2) (ini1 (k := 0) S G V hsu I.sc (fun L => ht _ _ _ L) hx hx2 (xfsB_ok xf (by simp)).2 (xfsB_ok xf (by simp)).2) ?_ hm (by decide) (exc_f1 hfl k)
  rcases hD with ⟨_, rfl⟩ | ⟨e, _⟩
  · exact .all (I.bind kV doc pm an _ ct cc)
  · exact absurd rfl e
theorem exc_of2 (G : BltX Bn i newId bmB) (hfl : B.fld c = [("code" : Str), f2, f1]) (v : vecB K Bn i newId bmB (B.cad c) = true) (xf : xfsB K (B.cad c) ["code", f2, f1] = true) (hi : initB K (B.cad c) (at_ K) = true) (hs : supB P K (at_ K) (B.cad c) = true)
    (e : fnL K ((DefL.mk at_ "__init__" qual params [supSt T j p0 p1 p2 p3 cp ap, .Assign [.Attribute (.Name "self" q0) f1 q1] (.Name x1 q2) q3, .Assign [.Attribute (.Name "self" r0) f2 r1] (.Name x2 r2) r3, .Assign [.Attribute (.Name "self" t0) "code" t1] (.Constant (.str T) j2 t2) t3] scope ["__class__"] [] []).at_ K) = (DefL.mk at_ "__init__" qual params [supSt T j p0 p1 p2 p3 cp ap, .Assign [.Attribute (.Name "self" q0) f1 q1] (.Name x1 q2) q3, .Assign [.Attribute (.Name "self" r0) f2 r1] (.Name x2 r2) r3, .Assign [.Attribute (.Name "self" t0) "code" t1] (.Constant (.str T) j2 t2) t3] scope ["__class__"] [] []).val ∧ (DefL.mk at_ "__init__" qual params [supSt T j p0 p1 p2 p3 cp ap, .Assign [.Attribute (.Name "self" q0) f1 q1] (.Name x1 q2) q3, .Assign [.Attribute (.Name "self" r0) f2 r1] (.Name x2 r2) r3, .Assign [.Attribute (.Name "self" t0) "code" t1] (.Constant (.str T) j2 t2) t3] scope ["__class__"] [] []).ok K = true)
    (I : IniT P qual params [supSt T j p0 p1 p2 p3 cp ap, .Assign [.Attribute (.Name "self" q0) f1 q1] (.Name x1 q2) q3, .Assign [.Attribute (.Name "self" r0) f2 r1] (.Name x2 r2) r3, .Assign [.Attribute (.Name "self" t0) "code" t1] (.Constant (.str T) j2 t2) t3] scope ["self", x1, x2])
    (ht : ∀ (cc cda f L : Addr), SupEv T j p0 p1 p2 cp ap (envF (supNF qual params [supSt T j p0 p1 p2 p3 cp ap, .Assign [.Attribute (.Name "self" q0) f1 q1] (.Name x1 q2) q3, .Assign [.Attribute (.Name "self" r0) f2 r1] (.Name x2 r2) r3, .Assign [.Attribute (.Name "self" t0) "code" t1] (.Constant (.str T) j2 t2) t3] scope cc cda) f L))
    (hx : (x1 == ("__debug__" : Str)) = false) (hx2 : (x1 == ("__classdict__" : Str)) = false) (hy : (x2 == ("__debug__" : Str)) = false) (hy2 : (x2 == ("__classdict__" : Str)) = false)
    (hsu : mg "super" = none) (hm : mg x = some (.ref (B.cad c))) (k : SOk T) : ExcC P w K mg base B 1 x c 2 fun xs => [.str T, xs.tail.headD .non, xs.headD .non] := by
  obtain ⟨cc, cda, fd, S, oc, od, dV, kV, doc, pm, an, ct, osl, rfl, hD⟩ := DefL.sup e.1 e.2 rfl rfl hs I.self I.su I.cl I.sl I.top
  obtain ⟨i1, i2⟩ := Bool.and_eq_true_iff.mp hi
  have V := vecB_ok v
  refine exc_mk G V (of_decide_eq_true i1) (of_decide_eq_true i2) (ini2 (k := 0) S G V hsu I.sc (fun L => ht _ _ _ L) hx hx2 hy hy2 (xfsB_ok xf (by simp)).2 (xfsB_ok xf (by simp)).2 (xfsB_ok xf (by simp)).2) ?_ hm (by decide) (exc_f2 hfl k)
  rcases hD with ⟨_, rfl⟩ | ⟨e, _⟩
  · exact .all (I.bind kV doc pm an _ ct cc)
  · exact absurd rfl e
end
end Lp

set_option Elab.async false
set_option linter.all false
set_option maxRecDepth 100000
set_option maxHeartbeats 4000000
/-! Lp26: a, *b = a tuple. -/
namespace Lp
open PySem PySem.Spec PyProof.Rows L2 LamX NdefX
def gStar (K : PySem.W.Frag) (i j : Nat) : TG := fun v σ H Q => ∃ a x xs, v = .ref a ∧ SqT K H a (x :: xs) ∧ xs.length < 16384 ∧ ∀ p, H p = none → Q ((σ.set i (some x)).set j (some (.ref p))) (upd H p (.lst xs))
/-- the values drawn: the first one, a new list of the others -/
theorem star_items {prog : Program} {w : World} {A : Around} {E : Value → Shared → Prop} {s : Shared} {a : Addr} {y : Value} {ys : List Value} {Q : List Value → Shared → Prop} (hh : A.handled = none) (ht : IsTup s.heap a (y :: ys).toArray) (hz : ys.length < 16384)
    (h : ∀ (g : Heap) (tk : Nat), (∀ b o, s.heap.get? b = some o → g.get? b = some o) → Q [y, .ref g.objs.size] { s with heap := g.push { cls := .type "list", data := .seq ys.toArray }, toks := tk }) : wpAny (model prog w) A (unpackItems (.ref a) 2 (some 1)) Q E s := by
  have apart : a ≠ s.heap.objs.size := by
    obtain ⟨o, e, _⟩ := ht
    exact Nat.ne_of_lt (Heap.lt_size e)
  unfold unpackItems
  refine wpAny_bind ?_
  unfold notIterableAtAll
  refine wpAny_bind (wpAny_specialOf ht.typeIs slot_tuple_iter.lookup (wpAny_pure ?_))
  rw [if_neg (by decide)]
  refine wpAny_bind (wpAny_holding (iter_tuple ht (wpAny_bind (wpAny_holding ?_))))
  refine draw_tuple apart 1 0 _ _ ⟨_, Heap.get?_push_size _ rfl, rfl, rfl⟩ (ht.push _) (by simp) fun g1 it1 sb => ?_
  rw [Nat.zero_add] at it1
  have ht1 : IsTup g1 a (y :: ys).toArray := (ht.push _).extBut sb.extBut apart
  have lt1 : s.heap.objs.size < g1.objs.size := by
    obtain ⟨o, e, _⟩ := it1
    exact Heap.lt_size e
  have lt2 : a < g1.objs.size := by
    obtain ⟨o, e, _⟩ := ht1
    exact Heap.lt_size e
  show wpAny _ _ (if ([y] : List Value).length < 1 then _ else _) _ _ _
  rw [if_neg (show ¬ ([y] : List Value).length < 1 from Nat.lt_irrefl 1)]
  refine wpAny_bind (wpAny_holding (PySem.W.kun_collect (s := { s with heap := g1 }) (T := "tuple_iterator") (.inr (.inr (.inr rfl))) (Walks.tuple (A := A.in1) hh s.heap.objs.size a apart (y :: ys).toArray) (fun _ _ st => st.1.typeIs) (k := 1) (by simp) ⟨it1, ht1⟩ lt1 lt2 (fun g2 tk kp => ?_) (by rw [sizeLine_eq, List.size_toArray, List.length_cons]; omega)))
  have e1 : ((y :: ys).toArray.toList.drop 1) = ys := rfl
  rw [e1]
  show wpAny _ _ (if ys.length < 2 - 1 - 1 then _ else _) _ _ _
  rw [if_neg (by omega)]
  show wpAny _ _ (newList (ys.take (ys.length - 0)) >>= fun d => pure ([y] ++ [d] ++ ys.drop (ys.length - 0))) _ _ _
  rw [Nat.sub_zero, List.take_length, List.drop_length]
  refine wpAny_bind (wpAny_newList (wpAny_pure ?_) (by rw [sizeLine_eq]; omega))
  have keep : ∀ b o, s.heap.get? b = some o → g2.get? b = some o := fun b o e => by
    have ne : b ≠ s.heap.objs.size := Nat.ne_of_lt (Heap.lt_size e)
    exact kp b o ne (sb.extBut b o ne (Heap.get?_push_of_some _ e))
  exact h g2 tk keep
section
variable {X : Cx} {e1 e2 : Expr} {k i j : Nat} {pos p2 : Pos}
theorem pg_star (hc : X.calm = true) (h1 : PG X e1 (gName i)) (h2 : PG X e2 (gName j)) (hn : assignEach [e1, .Starred e2 p2] X.env = [(false, assign e1 X.env), (true, assign e2 X.env)]) : PG X (.Tuple [e1, .Starred e2 p2] k pos) (gStar X.K i j) := by
  refine ⟨fun pins s σ H v u Q I r hw => ?_⟩
  obtain ⟨a, x, xs, rfl, hq, hz, q⟩ := hw
  cases r
  obtain ⟨its, rv, ht, _⟩ := I.tuple hq
  cases rv with
  | cons r1 rv =>
    rename_i y ys
    have hl : ys.length < 16384 := by rw [← rv.length]; exact hz
    rw [assign_Tuple]
    refine wpAny_bind (wpAny_standAt ?_)
    unfold unpack
    rw [hn]
    refine wpAny_bind (wpAny_holding (star_items (I.ok.hd hc) ht hl fun g tk kp => ?_))
    have I1 : Inv X pins σ H { s with heap := g, toks := tk } := I.kept kp
    have I2 : Inv X pins σ (upd H g.objs.size (.lst xs)) { s with heap := g.push { cls := .type "list", data := .seq ys.toArray }, toks := tk } := I1.laid (t' := tk) (fun b o e => Heap.get?_push_of_some _ e) (Nat.le_refl _) ⟨by rw [sizeLine_eq]; omega, ys, 0, rv, Heap.get?_push_size _ rfl⟩
    have q2 := q g.objs.size (I1.hok.fresh (Nat.le_refl _))
    refine assignInOrder_cons (thn (h1.run pins _ σ _ x y _ I2 r1 (show gName i x σ _ fun σ' H' => σ' = σ.set i (some x) ∧ H' = upd H g.objs.size (.lst xs) from ⟨rfl, rfl⟩)) fun _ s3 ⟨σ3, H3, I3, e3, e4⟩ => ?_)
    subst e3 e4
    refine assignInOrder_cons (thn (h2.run pins _ _ _ (.ref g.objs.size) (.ref g.objs.size) _ I3 rfl (show gName j _ _ _ Q from q2)) fun _ s4 q4 => assignInOrder_nil q4)
end
/-- a, *b = e -/
def sStar (i j : Nat) (m : ME) : MS := fun s => (m s).bind fun v s1 => match v with
  | .tup (x :: xs) => if xs.length < 16384 then .ok .nx ⟨(s1.e.set i (some x)).set j (some (.lst xs)), s1.h⟩ else .bad
  | _ => .bad
section
variable {X : Cx} {B : Bs} {N : Ent} {WX : L2.WX} {tg e : Expr} {i j : Nat} {m : ME} {pos : Pos}
theorem sims_star (hK : X.K = B.K) (he : SimE X B N WX e m) (hg : PG X tg (gStar X.K i j)) (hs : swapsWithSole [tg] e pos.line X.env = pure false) (hw : swappedStores [tg] e X.env = pure none) (h1 : (assignEach [tg] X.env).map (·.2) = [assign tg X.env]) :
    SimS X B N WX (.Assign [tg] e pos) (sStar i j m) :=
  (ps_asg he hg hs hw h1).imp fun D σ H ⟨W, s, r, h⟩ => ⟨W, s, r, h.bindE.mono fun v W1 s1 H1 r1 _ q v' rv => by
    split at q
    · rename_i x xs
      split at q
      · rename_i hz
        have rt : Rep B W1 (.tup (x :: xs)) v' := rv.rep rfl
        obtain ⟨a, us, rfl, h1, ru⟩ := tup_ok hK r1.hr rt
        cases ru with
        | cons rx rxs =>
          rename_i x' xs'
          have hz' : xs'.length < 16384 := by rw [← rxs.length]; exact hz
          refine ⟨a, x', xs', rfl, h1, hz', fun p hp => ?_⟩
          have hsz : xs'.length ≤ sizeLine := by rw [sizeLine_eq]; omega
          have r2 := rel_new (o := .lst xs') r1 hp hsz
          have le := le_new (o := HO.lst xs') (r1.hr.fnone hp)
          exact q _ _ _ (rel_set (rel_set r2 (rx.mono le)) (rep_lst_new (r1.hr.fnone hp) rxs))
      · exact q.elim
    · exact q.elim⟩
end
end Lp

set_option Elab.async false
set_option linter.all false
set_option maxRecDepth 100000
set_option maxHeartbeats 4000000
/-! Lq7: raise, _law_try(lambda: e), a, *b = e. -/
namespace Lp
open PySem PySem.Spec PyProof.Rows L2
@[irreducible] noncomputable def xETry (okc : Nat → Bool) (ms : MS) (ml : ME) : ME := eTry okc ms ml
@[irreducible] def xSRaise (c n : Nat) (fv : List PV → List PV) (ma : MA) : MS := sRaise c n fv ma
@[irreducible] def xSStar (i j : Nat) (m : ME) : MS := sStar i j m
section
variable {P : PV → S → Prop} {PF : Fl → S → Prop} {E : PV → S → Prop} {s : S} {m : ME} {ma : MA} {i j c n : Nat} {fv : List PV → List PV} {okc : Nat → Bool} {ms : MS}
theorem p_try (h : (m s).post (fun v s1 => isOwn v = false ∧ P (.tup [.str "", v]) ⟨s.e, s1.h⟩) (fun x s1 => ∃ c fs v s2, x = .ins c fs ∧ okc c = true ∧ ms ⟨[none, some (.exn c fs)], s1.h⟩ = .ok (.rt v) s2 ∧ noX v = true ∧ s2.h = s1.h ∧ P v ⟨s.e, s1.h⟩)) : (xETry okc ms m s).post P E := by
  unfold xETry eTry
  cases e : m s with
  | ok v s1 =>
    rw [e] at h
    obtain ⟨h1, h2⟩ := h
    simp only [h1]
    exact h2
  | exc x s1 =>
    rw [e] at h
    obtain ⟨c, fs, v, s2, rfl, h1, h2, h3, h4, h5⟩ := h
    simp only [h1, if_pos, h2, h3, h4, and_self]
    exact h5
  | bad => rw [e] at h; exact h.elim
theorem p_raise (h : (ma s).post (fun vs s1 => (vs.length = n ∧ allSh vs = true) ∧ E (.ins c (fv vs)) s1) E) : (xSRaise c n fv ma s).post PF E := by
  unfold xSRaise sRaise
  exact p_bind (p_mono h (fun vs s1 ⟨h1, q⟩ => by simp only [if_pos h1]; exact q) fun _ _ z => z)
theorem p_starA (h : (m s).post (fun v s1 => ∃ x xs, v = .tup (x :: xs) ∧ xs.length < 16384 ∧ PF .nx ⟨(s1.e.set i (some x)).set j (some (.lst xs)), s1.h⟩) E) : (xSStar i j m s).post PF E := by
  unfold xSStar sStar
  exact p_bind (p_mono h (fun v s1 ⟨x, xs, e, h1, q⟩ => by subst e; simp only [if_pos h1]; exact q) fun _ _ z => z)
end
end Lp

set_option Elab.async false
set_option linter.all false
set_option maxRecDepth 100000
set_option maxHeartbeats 4000000
/-! Lp27: self.a, self.b = e; calls with defaults; dicts of the module; class constants. -/
namespace Lp
open PySem PySem.Spec PyProof.Rows L2 LamX NdefX
/-! ### fields as targets -/
def gFld (K : PySem.W.Frag) (to : TE) (f : Str) : TG := fun v σ H Q => to σ H fun x H1 => ∃ a C dx fs, x = .ref a ∧ H1 a = some (.ins C dx fs) ∧ Cls K C ∧ NoAttr K C f ∧ fs.length < 1000 ∧ Q σ (upd H1 a (.ins C dx (putF f v fs)))
section
variable {X : Cx} {o : Expr} {to : TE} {f : Str} {pos : Pos}
theorem pg_fld (ho : PE X o to) (ha : ∀ v, assign (.Attribute o f pos) X.env v = (do
    let ov ← holding [v] (eval o X.env)
    standAt pos.atName
    holding [v, ov] (setAttr ov f v)
    release [v, ov] [])) : PG X (.Attribute o f pos) (gFld X.K to f) := by
  refine ⟨fun pins s σ H v u Q I r h => ?_⟩
  rw [ha]
  refine wpAny_bind (wpAny_holding (thn (ho.run pins s σ H _ I h) fun ov s1 ⟨x, H1, I1, rx, a, C, dx, fs, ex, ea, c, n, l, q⟩ => ?_))
  subst ex
  obtain rfl : ov = Value.ref a := rx
  exact wpAny_bind (wpAny_standAt (wpAny_bind (wpAny_holding (setattr_ok I1 ea c n l r fun s3 I3 => wpAny_release ⟨σ, _, I3, q⟩))))
end
/-- the fields of the cell in slot i, one behind another -/
def putAll (fl : FL) (i : Nat) : List Str → List PV → MS
  | [], [] => fun s => .ok .nx s
  | f :: fs, x :: xs => fun s => match s.e[i]? with
    | some (some (.cel n)) => (match s.h[n]? with
      | some (some (.ins c gs)) => (match setF (fl c) f x gs with
        | some gs' => putAll fl i fs xs ⟨s.e, s.h.set n (some (.ins c gs'))⟩
        | none => .bad)
      | _ => .bad)
    | _ => .bad
  | _, _ => fun _ => .bad
def sFldT (fl : FL) (i : Nat) (fs : List Str) (m : ME) : MS := fun s => (m s).bind fun v s1 => match v with
  | .tup xs => putAll fl i fs xs s1
  | _ => .bad
def gFlds (K : PySem.W.Frag) (i : Nat) : List Str → TGs
  | [] => gNil
  | f :: fs => gCons (gFld K (tVar i) f) (gFlds K i fs)
section
variable {X : Cx} {B : Bs} {N : Ent} {WX : L2.WX} {W : Wd} {s : S} {σ : L2.St} {H : Hp} {fl : FL} {i : Nat} {m : ME} {tg e : Expr} {es : List Expr} {pos : Pos} {k : Nat}
theorem gFlds_nil {K : PySem.W.Frag} : PGs X [] (gFlds K i []) := pgs_nil
theorem gFlds_cons {f : Str} {fs : List Str} {x : Str} {p : Pos} (hN : X.N[i]? = some x) (hv : Vis X.env.scope x) (h2 : PGs X es (gFlds X.K i fs)) (ha : ∀ v, assign (.Attribute (.Name x p) f pos) X.env v = (do
    let ov ← holding [v] (eval (.Name x p) X.env)
    standAt pos.atName
    holding [v, ov] (setAttr ov f v)
    release [v, ov] [])) (hs : (assignEach (.Attribute (.Name x p) f pos :: es) X.env).map (·.2) = assign (.Attribute (.Name x p) f pos) X.env :: (assignEach es X.env).map (·.2)) (hd : (x == ("__debug__" : Str)) = false) (hcd : (x == ("__classdict__" : Str)) = false) :
    PGs X (.Attribute (.Name x p) f pos :: es) (gFlds X.K i (f :: fs)) := pgs_cons (pg_fld (pe_var hN hv hd hcd) ha) h2 hs
theorem put_read (C : ClsF X.K B fl) {D : Ends} : ∀ {fs : List Str} {xs : List PV} {us : List V} {W : Wd} {s : S} {H : Hp}, Rel B N W s σ H → Reps B W xs us → PostS B N WX D (putAll fl i fs xs s) → gFlds X.K i fs us σ H D.nx
  | [], [], _, W, s, H, r, .nil, h => ⟨rfl, h W σ H r⟩
  | [], _ :: _, _, _, _, _, _, _, h => h.elim
  | _ :: _, [], _, _, _, _, _, _, h => h.elim
  | f :: fs, x :: xs, _, W, s, H, r, .cons rx rxs, h => by
    rename_i x' xs'
    refine ⟨x', xs', rfl, ?_⟩
    unfold putAll at h
    split at h
    · rename_i n en
      split at h
      · rename_i c gs ec
        split at h
        · rename_i gs' eg
          obtain ⟨v, ev, sl⟩ := r.env i _ en
          have sl : Rep B W (.cel n) v := sl
          obtain ⟨a, rfl, em⟩ := rep_cel (H := H) sl.hand
          obtain ⟨dx, vs, hH, c1, c2, lz, r3, st⟩ := fld_put C r ec em rx eg
          refine ⟨_, ev, a, _, dx, _, rfl, hH, c1, c2, lz, ?_⟩
          exact put_read C r3 rxs h
        · exact h.elim
      · exact h.elim
    · exact h.elim
theorem sims_fldT {fs : List Str} (C : ClsF X.K B fl) (hK : X.K = B.K) (hc : X.calm = true) (he : SimE X B N WX e m) (hg : PGs X es (gFlds X.K i fs)) (hn : (assignEach es X.env).length = fs.length) (hst : (assignEach es X.env).findIdx? (·.1) = none)
    (hs : swapsWithSole [.Tuple es k pos'] e pos.line X.env = pure false) (hw : swappedStores [.Tuple es k pos'] e X.env = pure none) (h1 : (assignEach [.Tuple es k pos'] X.env).map (·.2) = [assign (.Tuple es k pos') X.env]) :
    SimS X B N WX (.Assign [.Tuple es k pos'] e pos) (sFldT fl i fs m) :=
  (ps_asg he (pg_tup hc hg hn hst) hs hw h1).imp fun D σ H ⟨W, s, r, h⟩ => ⟨W, s, r, h.bindE.mono fun v W1 s1 H1 r1 _ q v' rv => by
    split at q
    · rename_i xs
      have rt : Rep B W1 (.tup xs) v' := rv.rep rfl
      obtain ⟨a, us, rfl, h1, ru⟩ := tup_ok hK r1.hr rt
      have hl : xs.length = fs.length := by
        clear h1 rt ru rv
        have : ∀ {fs : List Str} {xs : List PV} {s : S}, PostS B N WX D (putAll fl i fs xs s) → xs.length = fs.length := by
          intro fs
          induction fs with
          | nil => intro xs s h; cases xs with
            | nil => rfl
            | cons _ _ => exact h.elim
          | cons f fs ih => intro xs s h; cases xs with
            | nil => exact h.elim
            | cons x xs =>
              unfold putAll at h
              split at h
              · split at h
                · split at h
                  · exact congrArg Nat.succ (ih h)
                  · exact h.elim
                · exact h.elim
              · exact h.elim
        exact this q
      exact ⟨a, us, rfl, h1, ru.len_of hl, put_read C r1 ru q⟩
    · exact q.elim⟩
end
/-! ### calls with defaults -/
/-- values by place, by keywords, and the defaults, picked -/
structure KBd (K : PySem.W.Frag) (B : Bs) (fd : FuncData) (ps : List Str) (n : Nat) (ks : List Str) (ix : List Nat) (ds : List PV) : Prop where
  ex : ∃ gW gV, KBn K fd ps n ks gW gV ∧ ∀ (W : Wd) (xs ys : List PV) (vs zs : List V), Reps B W xs vs → Reps B W ys zs → Reps B W (pick ix (xs ++ ys ++ ds)) (gV vs zs)
section
variable {K : PySem.W.Frag} {B : Bs} {x qual : Str} {params : Arguments} {body : List Stmt} {scope : Scope} {dvs : List V} {kws : List (Str × V)} {f : Addr} {fd : FuncData} {ps : List Str}
theorem Reps.app {W : Wd} : ∀ {xs ys : List PV} {vs us : List V}, Reps B W xs vs → Reps B W ys us → Reps B W (xs ++ ys) (vs ++ us)
  | [], _, _, _, .nil, r => r
  | _ :: _, _, _, _, .cons h t, r => .cons h (Reps.app t r)
theorem kbd_dk (F : FunD K x qual params body scope dvs kws f fd) (n : Nat) (ks : List Str) (ms : List (Str × V)) (ix : List Nat) (ds : List PV) (hd : dvs ≠ []) (hk : kws ≠ []) (hms : ∀ q ∈ ms, q ∈ kws) (hds : ∀ W, Reps B W ds (dvs ++ ms.map (·.2)))
    (h : ∀ (T D : Addr) (doc pm : Value) (an : Option Addr) (cdv ct : Value) (us its mv ws : List Value), us.length = n → its.length = dvs.length → mv.length = ms.length → ws.length = ks.length →
      ∃ k, bindArgs (PySem.W.fnOf x qual params body scope (.ref T) (.ref D) doc pm an cdv ct) ⟨us, ks.zip ws⟩ = seqItems? (.ref T) >>= k ∧ KwChain D ((ms.map (·.1)).zip mv) (k (some its.toArray)) (ps.zip (pick ix (us ++ ws ++ (its ++ mv))))) : KBd K B fd ps n ks ix ds := by
  obtain ⟨its, mv, H⟩ := F.kbinds n ks ms (fun us its mv ws => pick ix (us ++ ws ++ (its ++ mv))) hd hk hms (fun r1 r2 r3 r4 => vals_pick ((r1.append r4).append (r2.append r3)) ix) h
  exact ⟨_, _, H, fun W xs ys vs zs r1 r2 => reps_pick ((r1.app r2).app (hds W)) ix⟩
theorem kbd_k (F : FunD K x qual params body scope [] kws f fd) (n : Nat) (ks : List Str) (ms : List (Str × V)) (ix : List Nat) (ds : List PV) (hk : kws ≠ []) (hms : ∀ q ∈ ms, q ∈ kws) (hds : ∀ W, Reps B W ds (ms.map (·.2)))
    (h : ∀ (D : Addr) (doc pm : Value) (an : Option Addr) (cdv ct : Value) (us mv ws : List Value), us.length = n → mv.length = ms.length → ws.length = ks.length →
      KwChain D ((ms.map (·.1)).zip mv) (bindArgs (PySem.W.fnOf x qual params body scope .none (.ref D) doc pm an cdv ct) ⟨us, ks.zip ws⟩) (ps.zip (pick ix (us ++ ws ++ mv)))) : KBd K B fd ps n ks ix ds := by
  obtain ⟨oc, od, dV, kV, doc, pm, an, cdv, ct, osl, rfl, lk, hcd, hD, hK⟩ := F.ex
  rcases hD with ⟨_, rfl⟩ | ⟨e, _⟩
  · rcases hK with e | ⟨D, rfl, hq⟩
    · exact absurd e hk
    · obtain ⟨mv, hl, rk, hks⟩ := kwd_vals (ms := ms) fun q hm => hq q (hms q hm)
      refine ⟨fun us ws => pick ix (us ++ ws ++ mv), fun vs zs => pick ix (vs ++ zs ++ ms.map (·.2)), ⟨fun s us ws X l1 l2 => ?_, fun r1 r2 => vals_pick ((r1.append r2).append rk) ix⟩, fun W xs ys vs zs r1 r2 => reps_pick ((r1.app r2).app (hds W)) ix⟩
      exact BindsTo.of_looks fun M => KwChain.looks X hks (h D doc pm an cdv ct us mv ws l1 hl l2)
  · exact absurd rfl e
/-- no defaults -/
theorem kbd_n (F : FunD K x qual params body scope [] kws f fd) (n : Nat) (ks : List Str) (ix : List Nat)
    (h : ∀ (kV doc pm : Value) (an : Option Addr) (cdv ct : Value) (us ws : List Value), us.length = n → ws.length = ks.length → bindArgs (PySem.W.fnOf x qual params body scope .none kV doc pm an cdv ct) ⟨us, ks.zip ws⟩ = pure (ps.zip (pick ix (us ++ ws)))) : KBd K B fd ps n ks ix [] :=
  ⟨_, _, kbn_of F h, fun W xs ys vs zs r1 r2 => by rw [List.append_nil]; exact reps_pick (r1.app r2) ix⟩
end
theorem MkC.of {P : Program} {w : World} {K : PySem.W.Frag} {mg : Str → Option Value} {base : Heap} {B : Bs} {k c n0 n : Nat} {x : Str} {ks ps : List Str} {ix : List Nat} {ds : List PV} {m : MF} {f : Addr} {fd : FuncData} (M : Mk K (B.cad c) f) (F : FnOk P w K mg base (L2.CX P w) k f fd ps (spF B n m)) (hm : mg x = some (.ref (B.cad c))) (b : KBd K B fd ps (n0 + 1) ks ix ds) :
    MkC P w K mg base B k x c n0 ks (fun xs ys => pick ix (xs ++ ys ++ ds)) n m := let ⟨gW, gV, h1, h2⟩ := b.ex; ⟨f, fd, ps, gW, gV, M, F, hm, h1, h2⟩
theorem Me.of {P : Program} {w : World} {K : PySem.W.Frag} {mg : Str → Option Value} {base : Heap} {B : Bs} {k c n0 n : Nat} {x : Str} {ks ps : List Str} {ix : List Nat} {ds : List PV} {m : MF} {f : Addr} {fd : FuncData} (M : Meth K (B.cad c) x f) (F : FnOk P w K mg base (L2.CX P w) k f fd ps (spF B n m)) (b : KBd K B fd ps (n0 + 1) ks ix ds) :
    Me P w K mg base B k c x n0 ks (fun xs ys => pick ix (xs ++ ys ++ ds)) n m := let ⟨gW, gV, h1, h2⟩ := b.ex; ⟨f, fd, ps, gW, gV, M, F, h1, h2⟩
end Lp

set_option Elab.async false
set_option linter.all false
set_option maxRecDepth 100000
set_option maxHeartbeats 4000000
/-! Lp28: dicts of the module with text keys; class constants; class attributes of instances. -/
namespace Lp
open PySem PySem.Spec PyProof.Rows L2 LamX NdefX
theorem dicW_keys {K : PySem.W.Frag} {a : Addr} {l : List (Option (Str × Int))} (h : He.dicW K a = some l) : ∃ oc od es n sl, K.lookup a = some ⟨oc, od, .dict es n, sl⟩ ∧ es.toList.map He.keyOf = l := by
  unfold He.dicW at h
  split at h
  · rename_i q
    split at h
    · exact ⟨_, _, _, _, _, q, Option.some.inj h⟩
    · cases h
  · cases h
theorem key_of {e : DictEntry} {k : Str} {i : Int} (h : He.keyOf e = some (k, i)) : ∃ t, e.key = .str k t := by
  unfold He.keyOf at h
  split at h
  · rename_i x t q
    cases h
    exact ⟨t, q⟩
  · cases h
theorem nsIn_no {K : PySem.W.Frag} {a : Addr} {P : Params} {ks : List Str} {z : Str} (h : He.dicW K a = some (He.keysIn P ks)) (hz : z ∉ ks) : PySem.W.nsIn K a z = some none := by
  obtain ⟨oc, od, es, n, sl, q, e⟩ := dicW_keys h
  have all : ∀ d ∈ es.toList, ∃ k ∈ ks, ∃ t, d.key = .str k t := fun d hd => by
    have : He.keyOf d ∈ He.keysIn P ks := by rw [← e]; exact List.mem_map.mpr ⟨d, hd, rfl⟩
    obtain ⟨k, hk, ek⟩ := List.mem_map.mp this
    obtain ⟨t, et⟩ := key_of ek.symm
    exact ⟨k, hk, t, et⟩
  have f0 : es.toList.find? (·.key.isStr z) = none := List.find?_eq_none.mpr fun d hd z2 => by
    obtain ⟨k, hk, t, et⟩ := all d hd
    rw [et] at z2
    have : k = z := by simpa [Value.isStr] using z2
    exact hz (this ▸ hk)
  have f1 : es.toList.any (·.refKey) = false := List.any_eq_false.mpr fun d hd z2 => by
    obtain ⟨k, hk, t, et⟩ := all d hd
    simp [DictEntry.refKey, et] at z2
  unfold PySem.W.nsIn
  rw [q]
  dsimp only
  rw [f0, f1]
  rfl
/-! ### a dict of the module, keys texts -/
def dicB (K : PySem.W.Frag) (a : Addr) (kv : List (Str × Str)) : Bool := He.valsB K a (kv.map fun q => (q.1, He.Dv.str q.2))
structure DicC (K : PySem.W.Frag) (w : World) (mg : Str → Option Value) (x : Str) (kv : List (Str × Str)) : Prop where
  ex : ∃ d es n, mg x = some (.ref d) ∧ KDict K w d es n ∧ (∀ z, z ∉ kv.map (·.1) → PySem.W.nsIn K d z = some none) ∧ ∀ q ∈ kv, ∃ u, PySem.W.nsIn K d q.1 = some (some u) ∧ RelV (.str q.2) u
theorem dicC_of {K : PySem.W.Frag} {w : World} {mg : Str → Option Value} {x : Str} {kv : List (Str × Str)} {a : Addr} (hm : mg x = some (.ref a)) (h : He.dicW K a = some (He.keysIn w.params (kv.map (·.1)))) (b : dicB K a kv = true) : DicC K w mg x kv := by
  obtain ⟨es, n, D⟩ := He.dicW_ok h
  refine ⟨a, es, n, hm, D, fun z hz => nsIn_no h hz, fun q hq => ?_⟩
  obtain ⟨u, e, r⟩ := He.valsB_ok b (q := (q.1, He.Dv.str q.2)) (List.mem_map.mpr ⟨q, hq, rfl⟩)
  exact ⟨u, e, r⟩
def eInD (neg : Bool) (kv : List (Str × Str)) (mx : ME) : ME := fun s => (mx s).bind fun v s1 => match v with
  | .str z => .ok (.bl (neg ^^ decide (z ∈ kv.map (·.1)))) s1
  | _ => .bad
def eIxD (kv : List (Str × Str)) (mx : ME) : ME := fun s => (mx s).bind fun v s1 => match v with
  | .str z => (match kv.lookup z with
    | some y => .ok (.str y) s1
    | none => .bad)
  | _ => .bad
section
variable {X : Cx} {B : Bs} {N : Ent} {WX : L2.WX} {e : Expr} {mx : ME} {x : Str} {kv : List (Str × Str)} {p pos : Pos} {es : Array DictEntry} {n : Nat} {d : Addr}
theorem mem_lookup {z y : Str} : ∀ {l : List (Str × Str)}, l.lookup z = some y → (z, y) ∈ l
  | [], e => by cases e
  | (a1, a2) :: l, e => by
    rw [List.lookup_cons] at e
    split at e
    · rename_i z2
      cases e
      rw [beq_iff_eq.mp z2]
      exact List.mem_cons_self
    · exact List.mem_cons_of_mem _ (mem_lookup e)
theorem nsIn_mem {K : PySem.W.Frag} (h0 : ∀ z, z ∉ kv.map (·.1) → PySem.W.nsIn K d z = some none) (h1 : ∀ q ∈ kv, ∃ u, PySem.W.nsIn K d q.1 = some (some u) ∧ RelV (.str q.2) u) (z : Str) : ∃ r, PySem.W.nsIn K d z = some r ∧ r.isSome = decide (z ∈ kv.map (·.1)) := by
  by_cases hz : z ∈ kv.map (·.1)
  · obtain ⟨q, hq, rfl⟩ := List.mem_map.mp hz
    obtain ⟨u, e, _⟩ := h1 q hq
    exact ⟨_, e, by rw [decide_eq_true hz]; rfl⟩
  · exact ⟨_, h0 z hz, by rw [decide_eq_false hz]; rfl⟩
theorem sim_inD (D : DicC X.K X.w X.mg x kv) (hg : Gl X x) (he : SimE X B N WX e mx) (hm : behindInMarks .In (.Name x p) = false) (hdb : (x == ("__debug__" : Str)) = false) : SimE X B N WX (.Compare e [.In] [.Name x p] pos) (eInD false kv mx) := by
  obtain ⟨d, es, n, hmg, KD, h0, h1⟩ := D.ex
  refine (pe_cmpR (op_in_kd KD) he (pe_glob (v := .ref d) hg hmg rfl hdb) hm).imp fun σ H Q ⟨W, s, r, h⟩ => ⟨W, s, r, (h.bind r.slen).mono fun v W1 s1 H1 r1 _ q v' rv => ?_⟩
  split at q
  · rename_i z
    cases (show Rep B W1 (.str z) v' from rv)
    obtain ⟨r2, e2, e3⟩ := nsIn_mem h0 h1 z
    refine ⟨z, r2, rfl, rfl, e2, ?_⟩
    rw [e3]
    have q2 := q.ok r1 _ (Rep.bl (B := B) (W := W1) (false ^^ decide (z ∈ kv.map (·.1)))).hand
    rw [Bool.false_xor] at q2
    exact q2
  · exact q.elim
theorem sim_ninD (D : DicC X.K X.w X.mg x kv) (hg : Gl X x) (he : SimE X B N WX e mx) (hm : behindInMarks .NotIn (.Name x p) = false) (hdb : (x == ("__debug__" : Str)) = false) : SimE X B N WX (.Compare e [.NotIn] [.Name x p] pos) (eInD true kv mx) := by
  obtain ⟨d, es, n, hmg, KD, h0, h1⟩ := D.ex
  refine (pe_cmpR (op_notIn_kd KD) he (pe_glob (v := .ref d) hg hmg rfl hdb) hm).imp fun σ H Q ⟨W, s, r, h⟩ => ⟨W, s, r, (h.bind r.slen).mono fun v W1 s1 H1 r1 _ q v' rv => ?_⟩
  split at q
  · rename_i z
    cases (show Rep B W1 (.str z) v' from rv)
    obtain ⟨r2, e2, e3⟩ := nsIn_mem h0 h1 z
    refine ⟨z, r2, rfl, rfl, e2, ?_⟩
    rw [e3]
    have q2 := q.ok r1 _ (Rep.bl (B := B) (W := W1) (true ^^ decide (z ∈ kv.map (·.1)))).hand
    rw [Bool.true_xor] at q2
    exact q2
  · exact q.elim
theorem ix_kd (D : KDict X.K X.w d es n) : IxR X (fun x y H Q => ∃ (z : Str) (u0 : Value) (v0 : V), x = .ref d ∧ y = .str z ∧ PySem.W.nsIn X.K d z = some (some u0) ∧ RelV v0 u0 ∧ Q v0 H) := by
  intro value slice pins s σ H x y v u Q I rx ry h hs
  have o := op_item_kd D pins s σ H x y v u Q I rx ry h
  obtain ⟨z, u0, v0, rfl, rfl, e, r, q⟩ := h
  cases rx
  exact tail_any (kd_type D I) slot_dict_getitem.lookup o hs
theorem sim_ixD (D : DicC X.K X.w X.mg x kv) (hg : Gl X x) (he : SimE X B N WX e mx) (hsk : ∀ q ∈ kv, SOk q.2) (hdb : (x == ("__debug__" : Str)) = false) (hs : PlainIx e) : SimE X B N WX (.Subscript (.Name x p) e pos) (eIxD kv mx) := by
  obtain ⟨d, es, n, hmg, KD, h0, h1⟩ := D.ex
  refine (pe_ix (ix_kd KD) (pe_glob (v := .ref d) hg hmg rfl hdb) he hs).imp fun σ H Q ⟨W, s, r, h⟩ => ⟨W, s, r, (h.bind r.slen).mono fun v W1 s1 H1 r1 _ q v' rv => ?_⟩
  split at q
  · rename_i z
    cases (show Rep B W1 (.str z) v' from rv)
    split at q
    · rename_i y ey
      have hm := mem_lookup ey
      obtain ⟨u, e1, e2⟩ := h1 _ hm
      exact ⟨z, u, .str y, rfl, rfl, e1, e2, q.ok r1 _ (Rep.str (B := B) (W := W1) y (hsk _ hm)).hand⟩
    · exact q.elim
  · exact q.elim
end
/-! ### a class's constant tuple -/
def ctupB (K : PySem.W.Frag) (C : Addr) (f : Str) (vs : List He.Dv) : Bool := PySem.W.readsIn K C (.type "type") && (decide (PySem.W.specialIn K (.ref C) "__getattribute__" = some (some (.builtin "type.__getattribute__"))) && (match PySem.W.findCls K (.ref C) (.type "type") f with
  | some (.val (.ref T)) => (match K.lookup T with
    | some ⟨.type c, _, .seq its _, _⟩ => decide (c = "tuple") && (decide (its.size ≤ sizeLine) && He.relAll (vs.map (He.Dv.v K)) its.toList)
    | _ => false)
  | _ => false))
structure CTup (K : PySem.W.Frag) (C : Addr) (f : Str) (vs : List V) : Prop where
  ex : ∃ T o its n, ClX.CRead K C (.type "type") ∧ ClX.CVal K C (.type "type") f (.ref T) (.ref T) ∧ K.lookup T = some o ∧ o.cls = .type "tuple" ∧ o.data = .seq its n ∧ its.size ≤ sizeLine ∧ Vals vs its.toList
theorem ctupB_ok {K : PySem.W.Frag} {C : Addr} {f : Str} {vs : List He.Dv} (h : ctupB K C f vs = true) : CTup K C f (vs.map (He.Dv.v K)) := by
  unfold ctupB at h
  obtain ⟨h1, h2⟩ := Bool.and_eq_true_iff.mp h
  obtain ⟨h2, h3⟩ := Bool.and_eq_true_iff.mp h2
  split at h3
  · rename_i T q
    split at h3
    · rename_i c od its n sl q2
      obtain ⟨g1, g2⟩ := Bool.and_eq_true_iff.mp h3
      obtain ⟨g3, g4⟩ := Bool.and_eq_true_iff.mp g2
      exact ⟨T, _, its, n, ⟨h1, of_decide_eq_true h2⟩, ⟨q, rfl⟩, q2, congrArg Value.type (of_decide_eq_true g1), rfl, of_decide_eq_true g3, He.relAll_ok g4⟩
    · cases h3
  · cases h3
section
variable {X : Cx} {B : Bs} {N : Ent} {WX : L2.WX} {x f : Str} {C : Addr} {p pos : Pos} {xs : List PV} {vs : List V}
theorem sim_ctup (hK : X.K = B.K) (c : CTup X.K C f vs) (hg : Gl X x) (hm : X.mg x = some (.ref C)) (hr : ∀ W, Reps B W xs vs) (hb : attributeBase (.Name x p) f X.env (eval (.Name x p) X.env) = eval (.Name x p) X.env) (hdb : (x == ("__debug__" : Str)) = false) : SimE X B N WX (.Attribute (.Name x p) f pos) (eC (.tup xs)) := by
  obtain ⟨T, o, its, n, h1, h2, h3, h4, h5, h6, h7⟩ := c.ex
  refine sim_c (v := .ref T) ((ClX.pe_cval (pe_glob (v := .ref C) hg hm rfl hdb) hb).imp fun σ H Q q => ⟨C, _, _, _, rfl, h1, h2, q⟩) fun W => .tup (.inr ⟨o, its, n, hK ▸ h3, h4, h5, h6, h7⟩) (hr W)
end
end Lp

set_option Elab.async false
set_option linter.all false
set_option maxRecDepth 100000
set_option maxHeartbeats 4000000
/-! Lp29: sorted(l), l of data that are alike. -/
namespace Lp
open PySem PySem.Spec PyProof.Rows L2 LamX NdefX
abbrev TrP : Type := PV × V × PyData
def rSortD (K : PySem.W.Frag) : List V → Hp → VK → Prop := fun xs H Q => ∃ (a : Addr) (bs : List TrP), xs = [.ref a] ∧ SqL K H a (bs.map (·.2.1)) ∧ (∀ p ∈ bs, Dp K H p.2.1 p.2.2) ∧ PySem.W.AllAlike (bs.map (·.2.2)) ∧ PySem.W.Sortable (bs.map (·.2.2)) ∧ bs.length ≤ sizeLine ∧ (∀ p ∈ bs, p.2.2.depth ≤ 64) ∧
  ∀ l, H l = none → Q (.ref l) (upd H l (.lst ((bs.mergeSort (PySem.W.dataLe false (·.2.2))).map (·.2.1))))
theorem each_of {β : Type} {f : β → V} : ∀ {bs : List β} {us : List Value}, Vals (bs.map f) us → PySem.W.EachIs (fun v p => RelV (f p) v) us bs
  | [], _, .nil => .nil
  | _ :: _, _, .cons h t => .cons h (each_of t)
theorem vals_of_each {β : Type} {f : β → V} : ∀ {bs : List β} {us : List Value}, PySem.W.EachIs (fun v p => RelV (f p) v) us bs → Vals (bs.map f) us
  | [], _, .nil => .nil
  | _ :: _, _, .cons h t => .cons h (vals_of_each t)
theorem each_in {β : Type} {R R' : Value → β → Prop} : ∀ {bs : List β} {us : List Value}, PySem.W.EachIs R us bs → (∀ p ∈ bs, ∀ v, R v p → R' v p) → PySem.W.EachIs R' us bs
  | [], _, .nil, _ => .nil
  | p :: _, _, .cons h t, k => .cons (k p (by simp) _ h) (each_in t fun q hq => k q (by simp [hq]))
section
variable {X : Cx}
theorem cr_sortD (hu : X.A.units + 68 < cLine) : CallR X (.builtin "sorted") (rSortD X.K) := by
  intro pins s σ H vs us Q I r h
  obtain ⟨a, bs, rfl, hq, hd, hal, hk, hl, hdep, q⟩ := h
  obtain ⟨its, rv, hl2, _⟩ := I.list hq
  rw [Vals.ref1 r]
  have e := each_of rv
  refine PySem.W.sorted_data (R := fun v p => RelV p.2.1 v) (enc := fun p : TrP => p.2.2) hl2.isList e (each_in e fun p hp v rv => Dp.reads I _ _ _ (hd p hp) rv) hal hk hl (fun p hp => by have := hdep p hp; omega) fun out ho eo => ?_
  obtain ⟨ep, he'⟩ := PyProof.Rows.sortedAll_at s.heap its out.toArray
  have hlen : ((bs.mergeSort (PySem.W.dataLe false (·.2.2))).map (·.2.1)).length ≤ sizeLine := by rw [List.length_map, List.length_mergeSort]; exact hl
  exact ⟨.ref _, upd H (s.heap.objs.size + 1) (.lst ((bs.mergeSort (PySem.W.dataLe false (·.2.2))).map (·.2.1))), I.laid (t' := s.toks) (fun _ _ => PyProof.Rows.sortedAll_old) (Nat.le_succ _) ⟨hlen, out, ep, vals_of_each eo, he'⟩, rfl, q _ (I.hok.fresh (Nat.le_succ _))⟩
end
/-- the order of data -/
def encP (x : PV) : PyData := (toD x).getD .none
def leP (a b : PV) : Bool := PySem.W.dataLe false encP a b
def sortP (xs : List PV) : List PV := xs.mergeSort leP
def alikeB (ds : List PyData) : Bool := ds.all fun d => ds.all fun e => PySem.W.alike d e
def tupB : PyData → Bool
  | .tuple (_ :: _) => true
  | _ => false
def othB : PyData → Bool
  | .none => false
  | .tuple _ => false
  | _ => true
def sortB (ds : List PyData) : Bool := (alikeB ds && (ds.all tupB || ds.all othB)) && (ds.all dOk && decide (ds.length ≤ 16777216))
def bSort : AH → List PV → Option PV := fun h vs => match vs with
  | [x] => (match asL h x with
    | some xs => (match toDs xs with
      | some ds => if sortB ds = true then some (.lst (sortP xs)) else none
      | none => none)
    | none => none)
  | _ => none
def trps : List PV → List V → List PyData → List TrP
  | x :: xs, v :: vs, d :: ds => (x, v, d) :: trps xs vs ds
  | _, _, _ => []
section
variable {X : Cx} {B : Bs} {W : Wd} {h : AH} {H : Hp}
theorem trps_ok (hK : X.K = B.K) (hr : HRel B W h H) : ∀ {xs : List PV} {vs : List V} {ds : List PyData}, Reps B W xs vs → toDs xs = some ds → (trps xs vs ds).map (·.1) = xs ∧ (trps xs vs ds).map (·.2.1) = vs ∧ (trps xs vs ds).map (·.2.2) = ds ∧ ∀ p ∈ trps xs vs ds, Rep B W p.1 p.2.1 ∧ toD p.1 = some p.2.2 ∧ Dp X.K H p.2.1 p.2.2
  | [], _, _, .nil, e => by cases e; exact ⟨rfl, rfl, rfl, fun _ h => by cases h⟩
  | x :: xs, _, _, .cons r t, e => by
    rename_i v vs
    rw [toDs] at e
    cases e1 : toD x with
    | none => rw [e1] at e; cases e
    | some d =>
      cases e2 : toDs xs with
      | none => rw [e1, e2] at e; cases e
      | some ds =>
        rw [e1, e2] at e
        cases e
        obtain ⟨h1, h2, h3, h4⟩ := trps_ok hK hr t e2
        refine ⟨by rw [trps, List.map_cons, h1], by rw [trps, List.map_cons, h2], by rw [trps, List.map_cons, h3], fun p hp => ?_⟩
        rw [trps] at hp
        rcases List.mem_cons.mp hp with rfl | hp
        · exact ⟨r, e1, (toD_dp hK hr r e1).1⟩
        · exact h4 p hp
theorem reps_of {ps : List TrP} (h : ∀ p ∈ ps, Rep B W p.1 p.2.1) : Reps B W (ps.map (·.1)) (ps.map (·.2.1)) := by
  induction ps with
  | nil => exact .nil
  | cons p ps ih => exact .cons (h p (by simp)) (ih fun q hq => h q (by simp [hq]))
theorem sem_sortD (hK : X.K = B.K) : CallSem X B bSort (rSortD X.K) := by
  intro W h H xs z xs' Q hr rx e q
  unfold bSort at e
  split at e
  · rename_i x
    obtain ⟨v, rfl, r1⟩ := repts1 rx
    cases ex : asL h x with
    | none => rw [ex] at e; cases e
    | some ys =>
      rw [ex] at e
      dsimp only at e
      cases ed : toDs ys with
      | none => rw [ed] at e; cases e
      | some ds =>
        rw [ed] at e
        dsimp only at e
        split at e
        · rename_i hb
          cases e
          obtain ⟨a, vs, rfl, h1, r2⟩ := asL_ok hr r1 ex
          obtain ⟨t1, t2, t3, t4⟩ := trps_ok hK hr r2 ed
          generalize trps ys vs ds = bs at t1 t2 t3 t4
          obtain ⟨b1, b2⟩ := Bool.and_eq_true_iff.mp hb
          obtain ⟨b3, b4⟩ := Bool.and_eq_true_iff.mp b1
          obtain ⟨b5, b6⟩ := Bool.and_eq_true_iff.mp b2
          have hl : bs.length ≤ sizeLine := by
            have : bs.length = ds.length := by rw [← t3, List.length_map]
            rw [this, sizeLine_eq]; exact of_decide_eq_true b6
          refine ⟨a, bs, rfl, by rw [t2]; exact rd_sql hK h1, fun p hp => (t4 p hp).2.2, ?_, ?_, hl, fun p hp => ?_, fun l hp => ?_⟩
          · rw [t3]
            intro d hd d' hd'
            exact List.all_eq_true.mp (List.all_eq_true.mp b3 d hd) d' hd'
          · rw [t3]
            rcases Bool.or_eq_true_iff.mp b4 with b4 | b4
            · refine .inl fun d hd => ?_
              have := List.all_eq_true.mp b4 d hd
              unfold tupB at this
              split at this
              · exact ⟨_, _, rfl⟩
              · cases this
            · refine .inr fun d hd => ?_
              have := List.all_eq_true.mp b4 d hd
              exact ⟨fun z => (by rw [z] at this; cases this), fun xs z => (by rw [z] at this; cases this)⟩
          · have := List.all_eq_true.mp b5 p.2.2 (by rw [← t3]; exact List.mem_map.mpr ⟨p, hp, rfl⟩)
            exact of_decide_eq_true this
          · have es : sortP ys = (bs.mergeSort (PySem.W.dataLe false (·.2.2))).map (·.1) := by
              unfold sortP
              rw [← t1]
              refine (List.map_mergeSort (r := PySem.W.dataLe false (fun p : TrP => p.2.2)) fun p hp q hq => ?_).symm
              have e1 : encP p.1 = p.2.2 := by unfold encP; rw [(t4 p hp).2.1]; rfl
              have e2 : encP q.1 = q.2.2 := by unfold encP; rw [(t4 q hq).2.1]; rfl
              unfold leP
              rw [PySem.W.dataLe_eq, PySem.W.dataLe_eq]
              show cond false _ _ = cond false _ _
              rw [e1, e2]
            have hm : ∀ p ∈ bs.mergeSort (PySem.W.dataLe false (·.2.2)), Rep B W p.1 p.2.1 := fun p hp => (t4 p (List.mem_mergeSort.mp hp)).1
            rw [es] at q
            refine q _ _ _ (.new hp (show ((bs.mergeSort (PySem.W.dataLe false (·.2.2))).map (·.2.1)).length ≤ sizeLine from by rw [List.length_map, List.length_mergeSort]; exact hl)) (rep_lst_new (hr.fnone hp) (reps_of hm)).hand
        · cases e
  · cases e
theorem bi_sorted (hK : X.K = B.K) (hr : U9 X.A) : BiOk X B "sorted" bSort := ⟨_, _, by first | exact PyProof.Rows.boot_sorted | rfl, cr_sortD (by have hr : X.A.units + 200 < cLine := hr; omega), sem_sortD hK, .inl ⟨_, rfl⟩⟩
end
end Lp

set_option Elab.async false
set_option linter.all false
set_option maxRecDepth 100000
set_option maxHeartbeats 4000000
/-! Lp30: static methods called by their class. -/
namespace Lp
open PySem PySem.Spec PyProof.Rows L2 LamX NdefX
structure SMet (K : PySem.W.Frag) (C : Addr) (m : Str) (p g : Addr) : Prop where
  rd : ClX.CRead K C (.type "type")
  at_ : PySem.W.findCls K (.ref C) (.type "type") m = some (.get (.builtin "staticmethod.__get__") (.ref p) .none (.ref C))
  rc : ∃ rest, PySem.W.recIn K p "staticmethod" = some (.ref g :: rest)
  kp : PySem.W.keepIn K (.ref g) = true
def smetB (K : PySem.W.Frag) (C : Addr) (m : Str) (p g : Addr) : Bool := PySem.W.readsIn K C (.type "type") && (decide (PySem.W.specialIn K (.ref C) "__getattribute__" = some (some (.builtin "type.__getattribute__"))) && ((match PySem.W.findCls K (.ref C) (.type "type") m with
  | some (.get (.builtin i) (.ref p') .none (.ref C')) => decide (i = "staticmethod.__get__") && (decide (p' = p) && decide (C' = C))
  | _ => false) && ((match PySem.W.recIn K p "staticmethod" with
  | some (.ref g' :: _) => decide (g' = g)
  | _ => false) && PySem.W.keepIn K (.ref g))))
theorem smetB_ok {K : PySem.W.Frag} {C : Addr} {m : Str} {p g : Addr} (h : smetB K C m p g = true) : SMet K C m p g := by
  unfold smetB at h
  obtain ⟨h1, h⟩ := Bool.and_eq_true_iff.mp h
  obtain ⟨h2, h⟩ := Bool.and_eq_true_iff.mp h
  obtain ⟨h3, h⟩ := Bool.and_eq_true_iff.mp h
  obtain ⟨h4, h5⟩ := Bool.and_eq_true_iff.mp h
  refine ⟨⟨h1, of_decide_eq_true h2⟩, ?_, ?_, h5⟩
  · split at h3
    · rename_i i p' C' q
      obtain ⟨g1, g2⟩ := Bool.and_eq_true_iff.mp h3
      obtain ⟨g2, g3⟩ := Bool.and_eq_true_iff.mp g2
      rw [q, of_decide_eq_true g1, of_decide_eq_true g2, of_decide_eq_true g3]
    · cases h3
  · split at h4
    · rename_i g' rest q
      exact ⟨rest, by rw [q, of_decide_eq_true h4]⟩
    · cases h4
section
variable {X : Cx} {CX : CXT} {k n : Nat} {f C p : Addr} {fd : FuncData} {ps ks : List Str} {sp : Sp} {E : XK} {m x : Str} {pos apos xp : Pos} {e : Expr} {es : List Expr} {kws : List Keyword} {t tk : TA} {g : List Value → List Value → List Value} {gV : List V → List V → List V}
theorem getmethsm_ok {pins : List (Addr × Obj)} {σ : L2.St} {H : Hp} {s : Shared} {A : Around} {E : Value → Shared → Prop} {pl : Sem Bool} {Q : Value × List Value → Shared → Prop} (I : Inv X pins σ H s) (r : SMet X.K C m p f) (h : ∀ s', Inv X pins σ H s' → Q (.ref f, []) s') : wpAny (model X.prog X.w) A (getMethod (.ref C) m pl) Q E s := by
  refine PySem.W.method_cls I.kIn r.rd.ga ?_
  obtain ⟨rest, hp⟩ := r.rc
  refine PySem.W.cls_bind I.kIn r.rd.rd r.at_ ?_
  refine wpAny_call (PySem.W.sm_get (s := { s with toks := s.toks + 1 }) I.kIn hp (PySem.W.handed_on rfl ?_))
  exact h _ (I.tok _)
theorem pe_smN {pl : Sem Bool} (M : SMet X.K C m p f) (hg : Gl X x) (hm : X.mg x = some (.ref C)) (F : FnOk X.prog X.w X.K X.mg X.base CX k f fd ps sp) (hr : Room k X.A) (hb : KBn X.K fd ps n ks g gV) (hx : Passes CX X E) (ha : PA X (e :: es) t) (hkw : PK X kws tk)
    (hall : (backToKw pos (keywordEach kws X.env)).all (·.1.isSome) = true) (hks : (backToKw pos (keywordEach kws X.env)).filterMap (·.1) = ks) (hst : starEach (e :: es) X.env = (false, eval e X.env) :: starEach es X.env)
    (hpl : ((backTo pos (starEach (e :: es) X.env)).any (·.1) || (backToKw pos (keywordEach kws X.env)).any (·.1.isNone)) = false) (hdb : (x == ("__debug__" : Str)) = false)
    (ht : eval (.Call (.Attribute (.Name x xp) m apos) (e :: es) kws pos) X.env = (do
      let ov ← eval (.Name x xp) X.env
      standAt apos.atName
      let (f, first) ← holding [ov] (getMethod ov m pl)
      callWith pos f first (backTo pos (starEach (e :: es) X.env)) (backToKw pos (keywordEach kws X.env)))) : PE X (.Call (.Attribute (.Name x xp) m apos) (e :: es) kws pos) (tCallN n ks.length sp gV E t tk) := by
  refine ⟨fun pins s σ H Q I h => ?_⟩
  refine PySem.W.methodCall_KW (pl := pl) (ld_glob I hg hm ?_ hdb) ht
  refine getmethsm_ok I M fun s1 I1 => ?_
  refine PySem.W.callWith_KW (first := []) (h₀ := X.base) I1.ok.mod.kin M.kp hall (thn (ha.run pos pins s1 σ H _ I1 h) fun us s2 ⟨vs, H2, I2, r, q2⟩ => ?_) hpl hst
  refine thn (hkw.run pos pins s2 σ H2 _ I2 q2) fun ws s3 ⟨zs, H3, I3, rz, l1, l2, q3⟩ => ⟨I3.kIn, ?_⟩
  rw [hks]
  exact run_fnN F hr hb hx I3 r rz l1 l2 q3
theorem pe_smN0 {pl : Sem Bool} (M : SMet X.K C m p f) (hg : Gl X x) (hm : X.mg x = some (.ref C)) (F : FnOk X.prog X.w X.K X.mg X.base CX k f fd ps sp) (hr : Room k X.A) (hb : KBn X.K fd ps 0 ks g gV) (hx : Passes CX X E) (hkw : PK X kws tk)
    (hall : (backToKw pos (keywordEach kws X.env)).all (·.1.isSome) = true) (hks : (backToKw pos (keywordEach kws X.env)).filterMap (·.1) = ks)
    (hpl : ((backTo pos (starEach [] X.env)).any (·.1) || (backToKw pos (keywordEach kws X.env)).any (·.1.isNone)) = false) (hdb : (x == ("__debug__" : Str)) = false)
    (ht : eval (.Call (.Attribute (.Name x xp) m apos) [] kws pos) X.env = (do
      let ov ← eval (.Name x xp) X.env
      standAt apos.atName
      let (f, first) ← holding [ov] (getMethod ov m pl)
      callWith pos f first (backTo pos (starEach [] X.env)) (backToKw pos (keywordEach kws X.env)))) : PE X (.Call (.Attribute (.Name x xp) m apos) [] kws pos) (tCallN 0 ks.length sp gV E tNil tk) := by
  refine ⟨fun pins s σ H Q I h => ?_⟩
  refine PySem.W.methodCall_KW (pl := pl) (ld_glob I hg hm ?_ hdb) ht
  refine getmethsm_ok I M fun s1 I1 => ?_
  refine PySem.W.callWith_KW0 (first := []) (h₀ := X.base) I1.ok.mod.kin M.kp hall ?_ hpl
  refine thn (hkw.run pos pins s1 σ H _ I1 h) fun ws s3 ⟨zs, H3, I3, rz, l1, l2, q3⟩ => ⟨I3.kIn, ?_⟩
  rw [hks]
  exact run_fnN (us := []) (vs := []) F hr hb hx I3 .nil rz l1 l2 q3
end
structure SmK (P : Program) (w : World) (K : PySem.W.Frag) (mg : Str → Option Value) (base : Heap) (B : Bs) (k : Nat) (x m : Str) (n0 : Nat) (ks : List Str) (ix : List Nat) (n : Nat) (mf : MF) : Prop where
  ex : ∃ f fd ps p C, FnOk P w K mg base (L2.CX P w) k f fd ps (spF B n mf) ∧ mg x = some (.ref C) ∧ SMet K C m p f ∧ KBn K fd ps n0 ks (fun us ws => pick ix (us ++ ws)) fun vs zs => pick ix (vs ++ zs)
theorem SmK.mono {P : Program} {w : World} {K : PySem.W.Frag} {mg : Str → Option Value} {base : Heap} {B : Bs} {j k : Nat} {x m : Str} {n0 : Nat} {ks : List Str} {ix : List Nat} {n : Nat} {mf : MF} (F : SmK P w K mg base B j x m n0 ks ix n mf) (h : j ≤ k) : SmK P w K mg base B k x m n0 ks ix n mf :=
  let ⟨f, fd, ps, p, C, a, b⟩ := F.ex
  ⟨f, fd, ps, p, C, a.mono h, b⟩
section
variable {X : Cx} {B : Bs} {N : Ent} {E : XK} {k n n0 nk : Nat} {x m : Str} {mf : MF} {ks : List Str} {ix : List Nat} {e : Expr} {es : List Expr} {ma mk : MA} {kws : List Keyword} {pos apos xp : Pos}
theorem sim_sm {pl : Sem Bool} (F : SmK X.prog X.w X.K X.mg X.base B k x m n0 ks ix n mf) (hg : Gl X x) (tk : Takes X fun c d _ H => E c d H) (hr : Room k X.A) (ha : SimA X B N (fun c d _ H => E c d H) (e :: es) ma) (hkw : SimK X B N (fun c d _ H => E c d H) kws mk) (hl : ks.length = nk)
    (hall : (backToKw pos (keywordEach kws X.env)).all (·.1.isSome) = true) (hks : (backToKw pos (keywordEach kws X.env)).filterMap (·.1) = ks) (hst : starEach (e :: es) X.env = (false, eval e X.env) :: starEach es X.env)
    (hpl : ((backTo pos (starEach (e :: es) X.env)).any (·.1) || (backToKw pos (keywordEach kws X.env)).any (·.1.isNone)) = false) (hdb : (x == ("__debug__" : Str)) = false)
    (ht : eval (.Call (.Attribute (.Name x xp) m apos) (e :: es) kws pos) X.env = (do
      let ov ← eval (.Name x xp) X.env
      standAt apos.atName
      let (f, first) ← holding [ov] (getMethod ov m pl)
      callWith pos f first (backTo pos (starEach (e :: es) X.env)) (backToKw pos (keywordEach kws X.env)))) : SimE X B N (fun c d _ H => E c d H) (.Call (.Attribute (.Name x xp) m apos) (e :: es) kws pos) (eCallK n0 nk ix n mf ma mk) := by
  obtain ⟨f, fd, ps, p, C, F1, hm, M, hb⟩ := F.ex
  exact (pe_smN M hg hm F1 hr hb (passes_call tk fun _ _ _ _ h => h) ha hkw hall hks hst hpl hdb ht).imp fun σ H Q h => callK_fin hl h
theorem sim_sm0 {pl : Sem Bool} (F : SmK X.prog X.w X.K X.mg X.base B k x m 0 ks ix n mf) (hg : Gl X x) (tk : Takes X fun c d _ H => E c d H) (hr : Room k X.A) (hkw : SimK X B N (fun c d _ H => E c d H) kws mk) (hl : ks.length = nk)
    (hall : (backToKw pos (keywordEach kws X.env)).all (·.1.isSome) = true) (hks : (backToKw pos (keywordEach kws X.env)).filterMap (·.1) = ks)
    (hpl : ((backTo pos (starEach [] X.env)).any (·.1) || (backToKw pos (keywordEach kws X.env)).any (·.1.isNone)) = false) (hdb : (x == ("__debug__" : Str)) = false)
    (ht : eval (.Call (.Attribute (.Name x xp) m apos) [] kws pos) X.env = (do
      let ov ← eval (.Name x xp) X.env
      standAt apos.atName
      let (f, first) ← holding [ov] (getMethod ov m pl)
      callWith pos f first (backTo pos (starEach [] X.env)) (backToKw pos (keywordEach kws X.env)))) : SimE X B N (fun c d _ H => E c d H) (.Call (.Attribute (.Name x xp) m apos) [] kws pos) (eCallK 0 nk ix n mf aNil mk) := by
  obtain ⟨f, fd, ps, p, C, F1, hm, M, hb⟩ := F.ex
  refine (pe_smN0 M hg hm F1 hr hb (passes_call tk fun _ _ _ _ h => h) hkw hall hks hpl hdb ht).imp fun σ H Q h => ?_
  obtain ⟨W, s, r, h1⟩ := callK_fin (ma := aNil) hl h
  exact h1.ok r [] trivial
end
end Lp

set_option Elab.async false
set_option linter.all false
set_option maxRecDepth 100000
set_option maxHeartbeats 4000000
/-! Lp31: what printed derivations use, classes; a try whose body raises nothing. -/
namespace Lp
open PySem PySem.Spec PyProof.Rows L2 LamX NdefX
structure MkA (P : Program) (w : World) (K : PySem.W.Frag) (mg : Str → Option Value) (base : Heap) (B : Bs) (k : Nat) (x : Str) (c n0 : Nat) (ks : List Str) (ix : List Nat) (ds : List PV) (n : Nat) (m : MF) : Prop where
  ex : ∃ j, j + 1 ≤ k ∧ MkC P w K mg base B j x c n0 ks (fun xs ys => pick ix (xs ++ ys ++ ds)) n m
theorem MkA.mono {P : Program} {w : World} {K : PySem.W.Frag} {mg : Str → Option Value} {base : Heap} {B : Bs} {i k : Nat} {x : Str} {c n0 : Nat} {ks : List Str} {ix : List Nat} {ds : List PV} {n : Nat} {m : MF} (F : MkA P w K mg base B i x c n0 ks ix ds n m) (h : i ≤ k) : MkA P w K mg base B k x c n0 ks ix ds n m :=
  let ⟨j, hj, a⟩ := F.ex
  ⟨j, Nat.le_trans hj h, a⟩
abbrev MeA (P : Program) (w : World) (K : PySem.W.Frag) (mg : Str → Option Value) (base : Heap) (B : Bs) (k : Nat) (c : Nat) (x : Str) (n0 : Nat) (ks : List Str) (ix : List Nat) (ds : List PV) (n : Nat) (m : MF) : Prop := Me P w K mg base B k c x n0 ks (fun xs ys => pick ix (xs ++ ys ++ ds)) n m
noncomputable def eMkA (c n0 nk : Nat) (ix : List Nat) (ds : List PV) (n : Nat) (m : MF) (ma mk : MA) : ME := eMk true c n0 nk n (fun xs ys => pick ix (xs ++ ys ++ ds)) m ma mk
def eMeA (c n0 nk : Nat) (ix : List Nat) (ds : List PV) (n : Nat) (m : MF) (mo : ME) (ma mk : MA) : ME := eMe c n0 nk n (fun xs ys => pick ix (xs ++ ys ++ ds)) m mo ma mk
/-- a class whose methods are called -/
structure ClM (K : PySem.W.Frag) (B : Bs) (c : Nat) (ms : List Str) : Prop where
  cls : Cls K (B.cad c)
  no : ∀ m ∈ ms, m ∉ B.fld c
section
variable {X : Cx} {B : Bs} {N : Ent} {E : XK} {e o : Expr} {es : List Expr} {mo : ME} {ma mk : MA} {p pos apos : Pos} {x : Str} {k n n0 nk c : Nat} {m : MF} {kws : List Keyword} {ks ms : List Str} {ix : List Nat} {ds : List PV}
theorem sim_mkA (F : MkA X.prog X.w X.K X.mg X.base B k x c n0 ks ix ds n m) (tk : Takes X fun c d _ H => E c d H) (hr : Room k X.A) (hg : Gl X x) (ha : SimA X B N (fun c d _ H => E c d H) (e :: es) ma) (hkw : SimK X B N (fun c d _ H => E c d H) kws mk) (hl : ks.length = nk)
    (hall : (backToKw pos (keywordEach kws X.env)).all (·.1.isSome) = true) (hks : (backToKw pos (keywordEach kws X.env)).filterMap (·.1) = ks) (hdb : (x == ("__debug__" : Str)) = false)
    (he : starEach (e :: es) X.env = (false, eval e X.env) :: starEach es X.env) (hpl : ((backTo pos (starEach (e :: es) X.env)).any (·.1) || (backToKw pos (keywordEach kws X.env)).any (·.1.isNone)) = false) :
    SimE X B N (fun c d _ H => E c d H) (.Call (.Name x p) (e :: es) kws pos) (eMkA c n0 nk ix ds n m ma mk) :=
  let ⟨_, hj, F⟩ := F.ex
  sim_mk F tk (hr.mono hj) hg ha hkw hl hall hks hdb he hpl
theorem sim_mkA0 (F : MkA X.prog X.w X.K X.mg X.base B k x c 0 ks ix ds n m) (tk : Takes X fun c d _ H => E c d H) (hr : Room k X.A) (hg : Gl X x) (hkw : SimK X B N (fun c d _ H => E c d H) kws mk) (hl : ks.length = nk)
    (hall : (backToKw pos (keywordEach kws X.env)).all (·.1.isSome) = true) (hks : (backToKw pos (keywordEach kws X.env)).filterMap (·.1) = ks) (hdb : (x == ("__debug__" : Str)) = false)
    (hpl : ((backTo pos (starEach [] X.env)).any (·.1) || (backToKw pos (keywordEach kws X.env)).any (·.1.isNone)) = false) :
    SimE X B N (fun c d _ H => E c d H) (.Call (.Name x p) [] kws pos) (eMkA c 0 nk ix ds n m aNil mk) :=
  let ⟨_, hj, F⟩ := F.ex
  sim_mk0 F tk (hr.mono hj) hg hkw hl hall hks hdb hpl
theorem sim_meA {pl : Sem Bool} (F : MeA X.prog X.w X.K X.mg X.base B k c x n0 ks ix ds n m) (C : ClM X.K B c ms) (hx : x ∈ ms) (tk : Takes X fun c d _ H => E c d H) (hr : Room k X.A) (ho : SimE X B N (fun c d _ H => E c d H) o mo)
    (ha : SimA X B N (fun c d _ H => E c d H) (e :: es) ma) (hkw : SimK X B N (fun c d _ H => E c d H) kws mk) (hl : ks.length = nk)
    (hall : (backToKw pos (keywordEach kws X.env)).all (·.1.isSome) = true) (hks : (backToKw pos (keywordEach kws X.env)).filterMap (·.1) = ks) (he : starEach (e :: es) X.env = (false, eval e X.env) :: starEach es X.env)
    (hpl : ((backTo pos (starEach (e :: es) X.env)).any (·.1) || (backToKw pos (keywordEach kws X.env)).any (·.1.isNone)) = false)
    (ht : eval (.Call (.Attribute o x apos) (e :: es) kws pos) X.env = (do
      let ov ← eval o X.env
      standAt apos.atName
      let (f, first) ← holding [ov] (getMethod ov x pl)
      callWith pos f first (backTo pos (starEach (e :: es) X.env)) (backToKw pos (keywordEach kws X.env)))) : SimE X B N (fun c d _ H => E c d H) (.Call (.Attribute o x apos) (e :: es) kws pos) (eMeA c n0 nk ix ds n m mo ma mk) :=
  sim_me F C.cls (C.no x hx) tk hr ho ha hkw hl hall hks he hpl ht
theorem sim_meA0 {pl : Sem Bool} (F : MeA X.prog X.w X.K X.mg X.base B k c x 0 ks ix ds n m) (C : ClM X.K B c ms) (hx : x ∈ ms) (tk : Takes X fun c d _ H => E c d H) (hr : Room k X.A) (ho : SimE X B N (fun c d _ H => E c d H) o mo)
    (hkw : SimK X B N (fun c d _ H => E c d H) kws mk) (hl : ks.length = nk)
    (hall : (backToKw pos (keywordEach kws X.env)).all (·.1.isSome) = true) (hks : (backToKw pos (keywordEach kws X.env)).filterMap (·.1) = ks)
    (hpl : ((backTo pos (starEach [] X.env)).any (·.1) || (backToKw pos (keywordEach kws X.env)).any (·.1.isNone)) = false)
    (ht : eval (.Call (.Attribute o x apos) [] kws pos) X.env = (do
      let ov ← eval o X.env
      standAt apos.atName
      let (f, first) ← holding [ov] (getMethod ov x pl)
      callWith pos f first (backTo pos (starEach [] X.env)) (backToKw pos (keywordEach kws X.env)))) : SimE X B N (fun c d _ H => E c d H) (.Call (.Attribute o x apos) [] kws pos) (eMeA c 0 nk ix ds n m mo aNil mk) :=
  sim_me0 F C.cls (C.no x hx) tk hr ho hkw hl hall hks hpl ht
end
/-- a static method's def -/
def smG (K : PySem.W.Frag) (C : Addr) (m : Str) : Addr := match PySem.W.recIn K (He.ma K C m) "staticmethod" with
  | some (.ref g :: _) => g
  | _ => 0
theorem sok_all {kv : List (Str × Str)} (h : kv.all (fun q => sokB q.2) = true) : ∀ q ∈ kv, SOk q.2 := fun q hq => sok_of (List.all_eq_true.mp h q hq)
/-! ### try, nothing raised -/
def sTryN (mb : MS) : MS := fun s => match mb s with
  | .exc _ _ => .bad
  | r => r
section
variable {X : Cx} {B : Bs} {N : Ent} {WX : L2.WX} {mb : MS} {body : List Stmt} {h : ExceptHandler} {pos : Pos} {tb : L2.WX → TS}
theorem ps_tryN (hs : X.stack = X.env :: X.outer) (hb : ∀ (W : L2.WX) (pn : List (Addr × Obj)) (xe : Value → Shared → Prop), Takes (X.tr pn xe) W → PassesOwn (model X.prog X.w) X.A X.env xe → PSs (X.tr pn xe) body (tb W)) :
    PS X (.Try body [h] [] [] pos) (fun D σ H => tb (fun _ _ _ _ => False) D σ H) := by
  refine ⟨fun pins s σ H D I q => wpAny_Try_except ?_⟩
  have ok := I.ok
  refine wpAny_mono ((hb (fun _ _ _ _ => False) (X.pn ++ pins) _ takes0 PassesOwn.looking).run [] s σ H D (I.toTry (fun e s₁ => wpAny (model X.prog X.w) X.A (noteFrame e X.env) (fun _ s₂ => wpAny (model X.prog X.w) X.A (setFlight e none) (fun _ s₃ =>
    wpAny (model X.prog X.w) X.A (handleBy e X.env [h]) (SP X pins D) X.xe s₃) X.xe s₂) X.xe s₁)) q) (fun f s1 q => ?_) (fun e s1 z => z)
  cases f with
  | next => obtain ⟨σ', H', K', q⟩ := q; exact wpAny_execs_nil ⟨σ', H', K'.ofTry ok, q⟩
  | brk => obtain ⟨σ', H', K', q⟩ := q; exact ⟨σ', H', K'.ofTry ok, q⟩
  | cont => obtain ⟨σ', H', K', q⟩ := q; exact ⟨σ', H', K'.ofTry ok, q⟩
  | ret u => obtain ⟨v, σ', H', K', r, q⟩ := q; exact ⟨v, σ', H', K'.ofTry ok, r, q⟩
theorem sims_tryN (hs : X.stack = X.env :: X.outer) (hb : ∀ (E : XK) (pn : List (Addr × Obj)) (xe : Value → Shared → Prop), Takes (X.tr pn xe) (fun c d _ H => E c d H) → PassesOwn (model X.prog X.w) X.A X.env xe → SimSs (X.tr pn xe) B N (fun c d _ H => E c d H) body mb) :
    SimS X B N WX (.Try body [h] [] [] pos) (sTryN mb) :=
  (ps_tryN (tb := fun W => tS B N (fun _ _ _ _ => False) mb) hs fun W pn xe tk pa => (hb (fun _ _ _ => False) pn xe takes0 pa)).imp fun D σ H ⟨W, s, r, q⟩ => by
    refine ⟨W, s, r, ?_⟩
    unfold PostS at q ⊢
    unfold sTryN at q
    cases e : mb s with
    | ok fl s1 => rw [e] at q; exact q
    | exc x s1 => rw [e] at q; exact q.elim
    | bad => rw [e] at q; exact q.elim
end
end Lp

set_option Elab.async false
set_option linter.all false
set_option maxRecDepth 100000
set_option maxHeartbeats 4000000
/-! Lp32: more methods of texts; l.index(x). -/
namespace Lp
open PySem PySem.Spec PyProof.Rows L2 LamX NdefX
def strsP (ys : List Str) : List PV := ys.map .str
def mSplit : AH → Str → List PV → Option PV := fun _ x xs => match xs with
  | [.str b] => if ((b.length == 0) = false ∧ x.length + 2 ≤ 16777216) ∧ ((Txt.split x b).all sokB = true ∧ (Txt.split x b).length ≤ 16777216) then some (.lst (strsP (Txt.split x b))) else none
  | _ => none
def mSIndex : AH → Str → List PV → Option PV := fun _ x xs => match xs with
  | [.str b] => (match Builtin.Str.occurrences x b 0 x.length 1 with
    | i :: _ => some (.int (i : Nat))
    | [] => none)
  | _ => none
def mStarts : AH → Str → List PV → Option PV := fun _ x xs => match xs with
  | [.str b] => some (.bl (Txt.startswith x b))
  | _ => none
def mUpper : AH → Str → List PV → Option PV := fun _ x xs => match xs with
  | [] => if x.length ≤ 5592405 ∧ sokB (Txt.upper x) = true then some (.str (Txt.upper x)) else none
  | _ => none
section
variable {X : Cx} {B : Bs} {W : Wd}
theorem reps_strs : ∀ {ys : List Str}, ys.all sokB = true → Reps B W (strsP ys) (ys.map V.str)
  | [], _ => .nil
  | y :: ys, h => by
    obtain ⟨h1, h2⟩ := Bool.and_eq_true_iff.mp (show (sokB y && ys.all sokB) = true from h)
    exact .cons (.str y (sok_of h1)) (reps_strs h2)
theorem sem_split : MethS X B mSplit (fun x xs H Q => ∃ a b, x = .str a ∧ xs = [.str b] ∧ (b.length == 0) = false ∧ a.length + 2 ≤ sizeLine ∧ rNewStrs (Txt.split a b) H Q) := by
  intro W h H x xs z xs' Q hr hx rxs e q
  unfold mSplit at e
  split at e
  · rename_i b
    split at e
    · rename_i hc
      cases e
      obtain ⟨v, rfl, rv⟩ := repts1 rxs
      obtain ⟨rfl, _⟩ := rep_str rv
      have rs := reps_strs (B := B) (W := W) hc.2.1
      refine ⟨x, b, rfl, rfl, hc.1.1, by rw [sizeLine_eq]; exact hc.1.2, fun p hp => ?_⟩
      exact q _ _ _ (.new hp (show ((Txt.split x b).map V.str).length ≤ sizeLine from by rw [List.length_map, sizeLine_eq]; exact hc.2.2)) (rep_lst_new (hr.fnone hp) rs).hand
    · cases e
  · cases e
theorem sem_sindex : MethS X B mSIndex (fun x xs H Q => ∃ a b i rest, x = .str a ∧ xs = [.str b] ∧ Builtin.Str.occurrences a b 0 a.length 1 = i :: rest ∧ Q (.int (i : Nat)) H) := by
  intro W h H x xs z xs' Q hr hx rxs e q
  unfold mSIndex at e
  split at e
  · rename_i b
    obtain ⟨v, rfl, rv⟩ := repts1 rxs
    obtain ⟨rfl, _⟩ := rep_str rv
    split at e
    · rename_i i rest eo
      cases e
      exact ⟨x, b, i, rest, rfl, rfl, eo, q W H _ (.refl W H) (Rep.int _).hand⟩
    · cases e
  · cases e
theorem sem_starts : MethS X B mStarts (fun x xs H Q => ∃ a b, x = .str a ∧ xs = [.str b] ∧ Q (.bl (Txt.startswith a b)) H) := by
  intro W h H x xs z xs' Q hr hx rxs e q
  unfold mStarts at e
  split at e
  · rename_i b
    cases e
    obtain ⟨v, rfl, rv⟩ := repts1 rxs
    obtain ⟨rfl, _⟩ := rep_str rv
    exact ⟨x, b, rfl, rfl, q W H _ (.refl W H) (Rep.bl _).hand⟩
  · cases e
theorem sem_upper : MethS X B mUpper (fun x xs H Q => ∃ a, x = .str a ∧ xs = [] ∧ a.length ≤ 5592405 ∧ Q (.str (Txt.upper a)) H) := by
  intro W h H x xs z xs' Q hr hx rxs e q
  unfold mUpper at e
  split at e
  · split at e
    · rename_i hc
      cases e
      cases xs' with
      | nil => exact ⟨x, rfl, rfl, hc.1, q W H _ (.refl W H) (Rep.str _ (sok_of hc.2)).hand⟩
      | cons _ _ => exact rxs.elim
    · cases e
  · cases e
end
/-! ### l.index(x), l of data -/
def placeP (ds : List PyData) (d : PyData) : Option Nat := ds.findIdx? fun z => PyData.eqv z d
def eLIx (mo : ME) (ma : MA) : ME := fun s => (mo s).bind fun o s1 => match o with
  | .lst xs => (ma s1).bind fun vs s2 => (match vs with
    | [y] => (match toDs xs, toD y with
      | some ds, some d => if dOk (.list ds) && dOk d then (match placeP ds d with
        | some j => .ok (.int (j : Nat)) s2
        | none => .bad) else .bad
      | _, _ => .bad)
    | _ => .bad)
  | _ => .bad
section
variable {X : Cx} {B : Bs} {N : Ent} {WX : L2.WX} {o e : Expr} {es : List Expr} {mo : ME} {ma : MA} {apos cpos : Pos}
theorem place_ok {ds : List PyData} {d : PyData} {j : Nat} (h : placeP ds d = some j) : ∃ z, ds[j]? = some z ∧ PyData.eqv z d = true ∧ ∀ (m : Nat) (z' : PyData), m < j → ds[m]? = some z' → PyData.eqv z' d = false := by
  obtain ⟨hj, h1, h2⟩ := List.findIdx?_eq_some_iff_getElem.mp h
  refine ⟨ds[j], List.getElem?_eq_getElem hj, h1, fun m z' hm e => ?_⟩
  obtain ⟨hm2, rfl⟩ := List.getElem?_eq_some_iff.mp e
  simpa using h2 m hm
theorem sim_lix (hK : X.K = B.K) (hr : U9 X.A) (ho : SimE X B N WX o mo) (ha : SimA X B N WX (e :: es) ma) (hbase : attributeBase o "index" X.env (eval o X.env) = eval o X.env)
    (hfew : ((backTo cpos (starEach (e :: es) X.env)).all (fun x => !x.1) && (backToKw cpos (keywordEach [] X.env)).all (fun x => x.1.isSome)
      && decide ((e :: es).length + ([] : List Keyword).length + (if ([] : List Keyword).isEmpty then 0 else 1) < 30)) = true)
    (hline : (apos.endLine == cpos.line) = true) (hs : starEach (e :: es) X.env = (false, eval e X.env) :: starEach es X.env) (hplain : (backTo cpos (starEach es X.env)).any (·.1) = false) :
    SimE X B N WX (.Call (.Attribute o "index" apos) (e :: es) [] cpos) (eLIx mo ma) :=
  (pe_bm PySem.F.plainAttrs_list PySem.F.slot_list_index PySem.F.type_list_index (mt_indexD (by have hr : X.A.units + 200 < cLine := hr; omega)) ho ha hbase hfew hline hs hplain).imp fun σ H Q ⟨W, s, r0, h⟩ => ⟨W, s, r0, (h.bind r0.slen).mono fun o1 W1 s1 H1 r1 _ q o' ro => by
    split at q
    · rename_i xs
      cases (show Rep B W1 (.lst xs) o' from ro) with
      | lst hF rs =>
        rename_i a vs0
        refine ⟨.inl ⟨rfl, vs0, .inl (.inl (r1.hr.agree _ _ hF))⟩, W1, s1, r1, (q.bind r1.slen).mono fun vs W2 s2 H2 r2 st2 q vs' rvs => ?_⟩
        split at q
        · rename_i y
          obtain ⟨v, rfl, rv⟩ := repts1 rvs
          split at q
          · rename_i ds d ed ey
            split at q
            · rename_i hz
              split at q
              · rename_i j ej
                obtain ⟨z1, z2⟩ := Bool.and_eq_true_iff.mp hz
                have rl : Rep B W2 (.lst xs) (.ref a) := (Rep.lst hF rs).mono st2.st.le
                have el : toD (.lst xs) = some (.list ds) := by show (toDs xs).map _ = _; rw [ed]; rfl
                obtain ⟨a1, a2⟩ := toD_dp hK r2.hr rl el
                have oy : isOwn y = false := by cases y <;> first | rfl | cases ey
                obtain ⟨b1, b2⟩ := toD_dp hK r2.hr (rv.rep oy) ey
                obtain ⟨z, p1, p2, p3⟩ := place_ok ej
                exact ⟨a, v, d, ds, j, z, rfl, rfl, a1, b1, shaped_of a2 z1, shaped_of b2 z2, p1, p2, p3, q.ok r2 _ (Rep.int _).hand⟩
              · exact q.elim
            · exact q.elim
          · exact q.elim
        · exact q.elim
    · exact q.elim⟩
end
end Lp

set_option Elab.async false
set_option linter.all false
set_option maxRecDepth 100000
set_option maxHeartbeats 4000000
/-! Lp33: -e, l[::-1]. -/
namespace Lp
open PySem PySem.Spec PyProof.Rows L2 LamX NdefX
def eNeg (m : ME) : ME := fun s => (m s).bind fun v s1 => match v with
  | .int i => .ok (.int (-i)) s1
  | _ => .bad
def eRev (m : ME) : ME := fun s => (m s).bind fun v s1 => match v with
  | .lst xs => .ok (.lst xs.reverse) s1
  | _ => .bad
section
variable {X : Cx} {B : Bs} {N : Ent} {WX : L2.WX} {e : Expr} {m : ME} {k : Nat} {p1 p2 p3 pos : Pos}
theorem sim_neg (he : SimE X B N WX e m) : SimE X B N WX (.UnaryOp .USub e pos) (eNeg m) :=
  (pe_un un_neg he).imp fun σ H Q ⟨W, s, r, h⟩ => ⟨W, s, r, (h.bind r.slen).mono fun v W1 s1 H1 r1 _ q v' rv => by
    split at q
    · rename_i i
      cases (show Rep B W1 (.int i) v' from rv)
      exact ⟨i, rfl, q.ok r1 _ (Rep.int _).hand⟩
    · exact q.elim⟩
theorem Reps.rev {W : Wd} : ∀ {xs : List PV} {vs : List V}, Reps B W xs vs → Reps B W xs.reverse vs.reverse
  | _, _, .nil => .nil
  | x :: xs, v :: vs, .cons h t => by
    rw [List.reverse_cons, List.reverse_cons]
    exact (Reps.rev t).append (.one h)
theorem sim_rev (hK : X.K = B.K) (he : SimE X B N WX e m) : SimE X B N WX (.Subscript e (.Slice none none (some (.UnaryOp .USub (.Constant (.int 1) k p1) p2)) p3) pos) (eRev m) :=
  (pe_revL he).imp fun σ H Q ⟨W, s, r, h⟩ => ⟨W, s, r, (h.bind r.slen).mono fun v W1 s1 H1 r1 _ q v' rv => by
    split at q
    · rename_i xs
      obtain ⟨a, vs, rfl, h1, rs⟩ := asL_ok r1.hr rv (show asL s1.h (.lst xs) = some xs from rfl)
      have hz := asL_sz r1.hr rv (show asL s1.h (.lst xs) = some xs from rfl)
      refine ⟨a, vs, rfl, rd_sql hK h1, fun p hp => ?_⟩
      have hsz : vs.reverse.length ≤ sizeLine := by rw [List.length_reverse, ← rs.length]; exact hz
      exact q _ _ (rel_new (o := .lst vs.reverse) r1 hp hsz) ⟨step_new r1.hr hp, fun _ _ e _ => e⟩ _ (rep_lst_new (r1.hr.fnone hp) rs.rev).hand
    · exact q.elim⟩
end
/-! ### abs, max, min, sum -/
def numsOf : List PV → Option (List Int)
  | [] => some []
  | .int i :: xs => (numsOf xs).map (i :: ·)
  | _ => none
def bAbs : AH → List PV → Option PV := fun _ xs => match xs with
  | [.int i] => some (.int (if i < 0 then -i else i))
  | _ => none
def bInts (f : List Int → Option Int) : AH → List PV → Option PV := fun h xs => match xs with
  | [x] => (asL h x).bind fun ys => (numsOf ys).bind fun ns => (f ns).map .int
  | _ => none
def bMax : AH → List PV → Option PV := bInts fun ns => match ns with
  | [] => none
  | n :: ns => some (ns.foldl max n)
def bMin : AH → List PV → Option PV := bInts fun ns => match ns with
  | [] => none
  | n :: ns => some (ns.foldl min n)
def bSum : AH → List PV → Option PV := bInts fun ns => some ns.sum
section
variable {X : Cx} {B : Bs} {W : Wd}
theorem ints_rep : ∀ {xs : List PV} {vs : List V} {ns : List Int}, Reps B W xs vs → numsOf xs = some ns → vs = ns.map V.int
  | [], _, _, .nil, e => by cases e; rfl
  | .int i :: xs, _, _, .cons r t, e => by
    unfold numsOf at e
    cases q : numsOf xs with
    | none => rw [q] at e; cases e
    | some ms =>
      rw [q] at e
      cases e
      cases r
      rw [ints_rep t q]; rfl
theorem max_ok : ∀ (ns : List Int) (n : Int), ns.foldl max n ∈ n :: ns ∧ ∀ y ∈ n :: ns, y ≤ ns.foldl max n
  | [], n => ⟨by simp, fun y hy => by simp at hy; rw [hy]; exact Int.le_refl _⟩
  | m :: ns, n => by
    obtain ⟨h1, h2⟩ := max_ok ns (max n m)
    refine ⟨?_, fun y hy => ?_⟩
    · show ns.foldl max (max n m) ∈ _
      rcases List.mem_cons.mp h1 with h | h
      · rw [h]
        by_cases hc : n ≤ m
        · rw [Int.max_eq_right hc]; simp
        · rw [Int.max_eq_left (by omega)]; simp
      · simp [h]
    · show y ≤ ns.foldl max (max n m)
      have k := h2 (max n m) (by simp)
      rcases List.mem_cons.mp hy with rfl | hy
      · exact Int.le_trans (Int.le_max_left _ _) k
      · rcases List.mem_cons.mp hy with rfl | hy
        · exact Int.le_trans (Int.le_max_right _ _) k
        · exact h2 y (by simp [hy])
theorem min_ok : ∀ (ns : List Int) (n : Int), ns.foldl min n ∈ n :: ns ∧ ∀ y ∈ n :: ns, ns.foldl min n ≤ y
  | [], n => ⟨by simp, fun y hy => by simp at hy; rw [hy]; exact Int.le_refl _⟩
  | m :: ns, n => by
    obtain ⟨h1, h2⟩ := min_ok ns (min n m)
    refine ⟨?_, fun y hy => ?_⟩
    · show ns.foldl min (min n m) ∈ _
      rcases List.mem_cons.mp h1 with h | h
      · rw [h]
        by_cases hc : n ≤ m
        · rw [Int.min_eq_left hc]; simp
        · rw [Int.min_eq_right (by omega)]; simp
      · simp [h]
    · show ns.foldl min (min n m) ≤ y
      have k := h2 (min n m) (by simp)
      rcases List.mem_cons.mp hy with rfl | hy
      · exact Int.le_trans k (Int.min_le_left _ _)
      · rcases List.mem_cons.mp hy with rfl | hy
        · exact Int.le_trans k (Int.min_le_right _ _)
        · exact h2 y (by simp [hy])
theorem bInts_ok (hK : X.K = B.K) {f : List Int → Option Int} {h : AH} {H : Hp} {xs : List PV} {z : PV} {xs' : List V} (hr : HRel B W h H) (rx : RepTs B W H xs xs') (e : bInts f h xs = some z) : ∃ a ns m, xs' = [.ref a] ∧ SqL X.K H a (ns.map V.int) ∧ f ns = some m ∧ z = .int m := by
  unfold bInts at e
  split at e
  · rename_i x
    obtain ⟨v, rfl, r1⟩ := repts1 rx
    cases ex : asL h x with
    | none => rw [ex] at e; cases e
    | some ys =>
      cases ei : numsOf ys with
      | none => rw [ex] at e; have e : (numsOf ys).bind _ = some z := e; rw [ei] at e; cases e
      | some ns =>
        rw [ex] at e
        have e : (numsOf ys).bind _ = some z := e
        rw [ei] at e
        have e : (f ns).map PV.int = some z := e
        cases ef : f ns with
        | none => rw [ef] at e; cases e
        | some m =>
          rw [ef] at e
          cases e
          obtain ⟨a, vs, rfl, h1, r2⟩ := asL_ok hr r1 ex
          rw [ints_rep r2 ei] at h1
          exact ⟨a, ns, m, rfl, rd_sql hK h1, ef, rfl⟩
  · cases e
theorem sem_max (hK : X.K = B.K) : CallSem X B bMax (rMax X.K) := by
  intro W h H xs z xs' Q hr rx e q
  obtain ⟨a, ns, m, rfl, h1, ef, rfl⟩ := bInts_ok (X := X) hK hr rx e
  cases ns with
  | nil => cases ef
  | cons n ns =>
    cases ef
    obtain ⟨k1, k2⟩ := max_ok ns n
    refine ⟨a, n :: ns, rfl, h1, by simp, fun m hm hy => ?_⟩
    have : m = ns.foldl max n := Int.le_antisymm (k2 m hm) (hy _ k1)
    rw [this]
    exact q W H _ (.refl W H) (Rep.int _).hand
theorem sem_min (hK : X.K = B.K) : CallSem X B bMin (rMin X.K) := by
  intro W h H xs z xs' Q hr rx e q
  obtain ⟨a, ns, m, rfl, h1, ef, rfl⟩ := bInts_ok (X := X) hK hr rx e
  cases ns with
  | nil => cases ef
  | cons n ns =>
    cases ef
    obtain ⟨k1, k2⟩ := min_ok ns n
    refine ⟨a, n :: ns, rfl, h1, by simp, fun m hm hy => ?_⟩
    have : m = ns.foldl min n := Int.le_antisymm (hy _ k1) (k2 m hm)
    rw [this]
    exact q W H _ (.refl W H) (Rep.int _).hand
theorem sem_sum (hK : X.K = B.K) : CallSem X B bSum (rSum X.K) := by
  intro W h H xs z xs' Q hr rx e q
  obtain ⟨a, ns, m, rfl, h1, ef, rfl⟩ := bInts_ok (X := X) hK hr rx e
  cases ef
  exact ⟨a, ns, rfl, h1, q W H _ (.refl W H) (Rep.int _).hand⟩
theorem sem_abs : CallSem X B bAbs (fun xs H Q => ∃ i, xs = [.int i] ∧ Q (.int (if i < 0 then -i else i)) H) := by
  intro W h H xs z xs' Q hr rx e q
  unfold bAbs at e
  split at e
  · rename_i i
    cases e
    obtain ⟨v, rfl, rv⟩ := repts1 rx
    cases (show Rep B W (.int i) v from rv)
    exact ⟨i, rfl, q W H _ (.refl W H) (Rep.int _).hand⟩
  · cases e
theorem bi_max (hK : X.K = B.K) (hc : X.calm = true) : BiOk X B "max" bMax := ⟨_, _, by first | exact PyProof.Rows.boot_max | rfl, cr_max hc, sem_max hK, .inl ⟨_, rfl⟩⟩
theorem bi_min (hK : X.K = B.K) (hc : X.calm = true) : BiOk X B "min" bMin := ⟨_, _, by first | exact PyProof.Rows.boot_min | rfl, cr_min hc, sem_min hK, .inl ⟨_, rfl⟩⟩
theorem bi_sum (hK : X.K = B.K) (hc : X.calm = true) : BiOk X B "sum" bSum := ⟨_, _, by first | exact PyProof.Rows.boot_sum | rfl, cr_sum hc, sem_sum hK, .inl ⟨_, rfl⟩⟩
theorem bi_abs : BiOk X B "abs" bAbs := ⟨_, _, by first | exact PyProof.Rows.boot_abs | rfl, call_abs, sem_abs, .inl ⟨_, rfl⟩⟩
end
end Lp

set_option Elab.async false
set_option linter.all false
set_option maxRecDepth 100000
set_option maxHeartbeats 4000000
/-! Lq8: classes. -/
namespace Lp
open PySem PySem.Spec PyProof.Rows L2
@[irreducible] def xEInD (neg : Bool) (kv : List (Str × Str)) (m : ME) : ME := eInD neg kv m
@[irreducible] def xEIxD (kv : List (Str × Str)) (m : ME) : ME := eIxD kv m
@[irreducible] def xEFld (fl : FL) (f : Str) (m : ME) : ME := eFld fl f m
@[irreducible] noncomputable def xEMkA (c n0 nk : Nat) (ix : List Nat) (ds : List PV) (n : Nat) (m : MF) (ma mk : MA) : ME := eMkA c n0 nk ix ds n m ma mk
@[irreducible] def xEMeA (c n0 nk : Nat) (ix : List Nat) (ds : List PV) (n : Nat) (m : MF) (mo : ME) (ma mk : MA) : ME := eMeA c n0 nk ix ds n m mo ma mk
@[irreducible] def xSFldT (fl : FL) (i : Nat) (fs : List Str) (m : ME) : MS := sFldT fl i fs m
@[irreducible] def xENeg (m : ME) : ME := eNeg m
@[irreducible] def xERev (m : ME) : ME := eRev m
@[irreducible] def xELIx (m : ME) (ma : MA) : ME := eLIx m ma
@[irreducible] def xSTryN (m : MS) : MS := sTryN m
section
variable {P : PV → S → Prop} {PF : Fl → S → Prop} {E : PV → S → Prop} {s : S} {m mo : ME} {ma mk : MA} {i j c n n0 nk : Nat} {ix : List Nat} {ds : List PV} {kv : List (Str × Str)} {neg : Bool} {fl : FL} {f : Str} {fs : List Str} {mf : MF} {ms : MS}
theorem p_inD (h : (m s).post (fun v s1 => ∃ z, v = .str z ∧ P (.bl (neg ^^ decide (z ∈ kv.map (·.1)))) s1) E) : (xEInD neg kv m s).post P E := by
  unfold xEInD eInD
  exact p_bind (p_mono h (fun v s1 ⟨z, e, q⟩ => by subst e; exact q) fun _ _ z => z)
theorem p_ixD (h : (m s).post (fun v s1 => ∃ z y, v = .str z ∧ kv.lookup z = some y ∧ P (.str y) s1) E) : (xEIxD kv m s).post P E := by
  unfold xEIxD eIxD
  exact p_bind (p_mono h (fun v s1 ⟨z, y, e, e2, q⟩ => by subst e; simp only [e2]; exact q) fun _ _ z => z)
theorem p_fld (h : (m s).post (fun v s1 => ∃ u, getF fl f s1.h v = some u ∧ P u s1) E) : (xEFld fl f m s).post P E := by
  unfold xEFld eFld
  exact p_bind (p_mono h (fun v s1 ⟨u, e, q⟩ => by simp only [e]; exact q) fun _ _ z => z)
theorem p_mkA (h : (ma s).post (fun vs s1 => (mk s1).post (fun zs s2 => ((vs.length = n0 ∧ zs.length = nk) ∧ allSh vs = true ∧ allSh zs = true) ∧ ((pick ix (([.cel s2.h.length] ++ vs) ++ zs ++ ds)).length = n ∧ allSh (pick ix (([.cel s2.h.length] ++ vs) ++ zs ++ ds)) = true) ∧
    (mf (pick ix (([.cel s2.h.length] ++ vs) ++ zs ++ ds)) (s2.h ++ [some (.ins c [])])).post (fun v h2 => v = .non ∧ ∃ gs, h2 = s2.h ++ [some (.ins c gs)] ∧ celsB s2.h.length gs = true ∧ P (.ins c gs) s2) (fun y h2 => (∃ C, h2 = s2.h ++ [some C]) ∧ celB s2.h.length y = true ∧ E y s2)) E) E) : (xEMkA c n0 nk ix ds n mf ma mk s).post P E := by
  unfold xEMkA eMkA eMk
  refine p_bind (p_mono h (fun vs s1 q => p_bind (p_mono q (fun zs s2 ⟨h1, h2, q⟩ => ?_) fun _ _ z => z)) fun _ _ z => z)
  simp only [if_pos h1]
  unfold mkH
  rw [if_pos h2]
  cases e : mf (pick ix (([.cel s2.h.length] ++ vs) ++ zs ++ ds)) (s2.h ++ [some (.ins c [])]) with
  | ok v h2 =>
    rw [e] at q
    obtain ⟨rfl, gs, rfl, cg, q⟩ := q
    simp only [if_pos]
    rw [if_pos ⟨gs, rfl, cg⟩, List.getElem?_append_right (Nat.le_refl _), Nat.sub_self]
    exact q
  | exc y h2 =>
    rw [e] at q
    obtain ⟨q1, q2, q3⟩ := q
    simp only [if_pos (And.intro q1 q2)]
    exact q3
  | bad => rw [e] at q; exact q.elim
theorem p_meA (h : (mo s).post (fun o s1 => (clsOf s1.h o = some c ∧ isOwn o = false) ∧ (ma s1).post (fun vs s2 => (mk s2).post (fun zs s3 => ((vs.length = n0 ∧ zs.length = nk) ∧ allSh vs = true ∧ allSh zs = true) ∧ ((pick ix ((o :: vs) ++ zs ++ ds)).length = n ∧ allSh (pick ix ((o :: vs) ++ zs ++ ds)) = true) ∧
    (mf (pick ix ((o :: vs) ++ zs ++ ds)) s3.h).post (fun v h => P v ⟨s3.e, h⟩) (fun x h => E x ⟨s3.e, h⟩)) E) E) E) : (xEMeA c n0 nk ix ds n mf mo ma mk s).post P E := by
  unfold xEMeA eMeA eMe
  refine p_bind (p_mono h (fun o s1 ⟨⟨h0, h1⟩, q⟩ => ?_) fun _ _ z => z)
  simp only [h0]
  rw [if_pos ⟨trivial, h1⟩]
  refine p_bind (p_mono q (fun vs s2 q => p_bind (p_mono q (fun zs s3 ⟨h1, h2, q⟩ => ?_) fun _ _ z => z)) fun _ _ z => z)
  simp only [if_pos h1]
  have := p_callH (n := n) (mf := mf) (vs := pick ix ((o :: vs) ++ zs ++ ds)) (s := s3) (P := P) (E := E) ⟨h2, q⟩
  unfold xCallH at this
  exact this
theorem p_fldT (h : (m s).post (fun v s1 => ∃ xs, v = .tup xs ∧ (putAll fl i fs xs s1).post PF E) E) : (xSFldT fl i fs m s).post PF E := by
  unfold xSFldT sFldT
  exact p_bind (p_mono h (fun v s1 ⟨xs, e, q⟩ => by subst e; exact q) fun _ _ z => z)
theorem p_put_nil (h : PF .nx s) : (putAll fl i [] [] s).post PF E := h
theorem p_put {x : PV} {xs gs gs' : List PV} {n c : Nat} (h1 : s.e[i]? = some (some (.cel n))) (h2 : s.h[n]? = some (some (.ins c gs))) (h3 : setF (fl c) f x gs = some gs') (h : (putAll fl i fs xs ⟨s.e, s.h.set n (some (.ins c gs'))⟩).post PF E) : (putAll fl i (f :: fs) (x :: xs) s).post PF E := by
  unfold putAll
  simp only [h1, h2, h3]
  exact h
theorem p_neg (h : (m s).post (fun v s1 => ∃ i, v = .int i ∧ P (.int (-i)) s1) E) : (xENeg m s).post P E := by
  unfold xENeg eNeg
  exact p_bind (p_mono h (fun v s1 ⟨z, e, q⟩ => by subst e; exact q) fun _ _ z => z)
theorem p_rev (h : (m s).post (fun v s1 => ∃ xs, v = .lst xs ∧ P (.lst xs.reverse) s1) E) : (xERev m s).post P E := by
  unfold xERev eRev
  exact p_bind (p_mono h (fun v s1 ⟨z, e, q⟩ => by subst e; exact q) fun _ _ z => z)
theorem p_lix (h : (m s).post (fun o s1 => ∃ xs, o = .lst xs ∧ (ma s1).post (fun vs s2 => ∃ y ds d j, vs = [y] ∧ (toDs xs = some ds ∧ toD y = some d ∧ (dOk (.list ds) && dOk d) = true ∧ placeP ds d = some j) ∧ P (.int (j : Nat)) s2) E) E) : (xELIx m ma s).post P E := by
  unfold xELIx eLIx
  refine p_bind (p_mono h (fun v s1 ⟨xs, e, q⟩ => ?_) fun _ _ z => z)
  subst e
  refine p_bind (p_mono q (fun vs s2 ⟨y, ds, d, j, e, ⟨e1, e2, e3, e4⟩, q⟩ => ?_) fun _ _ z => z)
  subst e
  simp only [e1, e2, e4, if_pos e3]
  exact q
theorem p_tryN (h : (ms s).post PF (fun _ _ => False)) : (xSTryN ms s).post PF E := by
  unfold xSTryN sTryN
  cases e : ms s with
  | ok fl s1 => rw [e] at h; exact h
  | exc x s1 => rw [e] at h; exact h.elim
  | bad => rw [e] at h; exact h.elim
end
end Lp

set_option Elab.async false
set_option linter.all false
set_option maxRecDepth 100000
set_option maxHeartbeats 4000000
/-! Lp34: a tuple display kept with its object (.don): its items, sums, count. -/
namespace Lp
open PySem PySem.Spec PyProof.Rows L2 LamX NdefX

section
variable {X : Cx} {es : List Expr} {t : TA} {pos : Pos}
def tTupF (t : TA) : TE := fun σ H Q => t σ H fun xs H1 => xs.length ≤ sizeLine ∧ ∀ p o, o.dict = Option.none → H1 p = Option.none → Q (.ref p) (upd H1 p (.frz o (.tup xs)))
theorem pe_tupF {x1} (h : PA X es t) : PE X (.Tuple es x1 pos) (tTupF t) := by
  refine ⟨fun pins s σ H Q I hq => ?_⟩
  refine wpAny_Tuple_spliced (thn (h.run pos pins s σ H _ I hq) fun us s1 ⟨xs, H1, I1, r, z, q⟩ => ⟨by rw [← r.length]; exact z, ?_⟩)
  have hf : H1 s1.heap.objs.size = none := I1.hok.fresh (Nat.le_refl _)
  refine ⟨.ref s1.heap.objs.size, upd H1 s1.heap.objs.size (.frz _ (.tup xs)), I1.laid (t' := s1.toks) (fun b u e => Heap.get?_push_of_some _ e) (Nat.le_refl _) ?_, rfl, q _ { cls := .type "tuple", data := .seq us.toArray 0 } rfl hf⟩
  exact ⟨Heap.get?_push_size _ rfl, z, us, r, ⟨_, Heap.get?_push_size _ rfl, rfl, _, rfl⟩⟩
end

section
variable {B : Bs} {N : Ent} {W : Wd} {s : S} {σ : L2.St} {H : Hp}
theorem rel_don {i : Nat} {p : Addr} {ks : List (PV × PV)} {σ' : L2.St} (r : Rel B N W s σ H) (hl : σ'.length = σ.length) (hj : ∀ j, j ≠ i → σ'[j]? = σ[j]?) (hi : σ'[i]? = some (some (.ref p)) ∨ s.e.length ≤ i)
    (l3 : ∀ (j : Nat) (x : PV), j ≠ i → s.e[j]? = some (some x) → isOwn x = true → σ[j]? ≠ some (some (.ref p))) (dr : DonR B W ks (.ref p)) : Rel B N W ⟨s.e.set i (some (.don ks)), s.h⟩ σ' H := by
  have at_ : ∀ (j : Nat) (y : PV), (s.e.set i (some (.don ks)))[j]? = some (some y) → (j = i ∧ y = .don ks ∧ i < s.e.length) ∨ (j ≠ i ∧ s.e[j]? = some (some y)) := fun j y e => by
    by_cases hji : i = j
    · subst hji
      by_cases hb : i < s.e.length
      · rw [List.getElem?_set_self hb] at e
        cases e
        exact .inl ⟨rfl, rfl, hb⟩
      · rw [List.getElem?_eq_none (by rw [List.length_set]; omega)] at e
        cases e
    · rw [List.getElem?_set_ne hji] at e
      exact .inr ⟨fun z => hji z.symm, e⟩
  refine ⟨r.hr, r.st, by rw [hl, r.len]; simp, fun j y e => ?_, fun j k y z a hjk e1 e2 o1 o2 s1 s2 => ?_, r.pin⟩
  · rcases at_ j y e with ⟨rfl, rfl, hb⟩ | ⟨ne, e⟩
    · rcases hi with hi | hi
      · exact ⟨_, hi, dr⟩
      · omega
    · rw [hj j ne]
      exact r.env j y e
  · rcases at_ j y e1 with ⟨rfl, rfl, hb⟩ | ⟨ne, f1⟩
    · rcases at_ k z e2 with ⟨rfl, _, _⟩ | ⟨ne2, f2⟩
      · exact hjk rfl
      · rcases hi with hi | hi
        · rw [hi] at s1
          cases s1
          rw [hj k ne2] at s2
          exact l3 k z ne2 f2 o2 s2
        · omega
    · rcases at_ k z e2 with ⟨rfl, rfl, hb⟩ | ⟨ne2, f2⟩
      · rcases hi with hi | hi
        · rw [hi] at s2
          cases s2
          rw [hj j ne] at s1
          exact l3 j y ne f1 o1 s1
        · omega
      · rw [hj j ne] at s1
        rw [hj k ne2] at s2
        exact r.dis j k y z a hjk f1 f2 o1 o2 s1 s2
end
/-- a slot takes a tuple display -/
def sAsgD (i : Nat) (ma : MA) : MS := fun s => (ma s).bind fun vs s1 => if allSh vs && decide (vs.length ≤ 16777216) then .ok .nx ⟨s1.e.set i (some (.don (vs.map fun v => (v, v)))), s1.h⟩ else .bad
section
variable {X : Cx} {B : Bs} {N : Ent} {WX : L2.WX} {es : List Expr} {ma : MA} {pos tpos : Pos}
theorem map_fst_dup (vs : List PV) : (vs.map fun v => (v, v)).map (·.1) = vs := by
  induction vs with
  | nil => rfl
  | cons v vs ih => rw [List.map_cons, List.map_cons, ih]
theorem sims_asgD {i : Nat} {x : Str} {pos' : Pos} {x1} (hN : X.N.Nodup) (hi : X.N[i]? = some x) (hx : Loc X.env.scope x) (he : SimA X B N WX es ma) (hs : swapsWith (.Tuple es x1 tpos) (some (.Name x pos')) pos.line X.env = pure false) (hf : X.fn x = true ∨ X.env.scope.names.lookup x = some .local) :
    SimS X B N WX (.Assign [.Name x pos'] (.Tuple es x1 tpos) pos) (sAsgD i ma) :=
  (ps_set hN hi hx (pe_tupF he) hs hf).imp fun D σ H ⟨W, s, r, h⟩ => ⟨W, s, r, h.bindE.mono fun vs W1 s1 H1 r1 _ q vs' rvs => by
    split at q
    · rename_i c
      obtain ⟨c1, c2⟩ := Bool.and_eq_true_iff.mp c
      have rr := rvs.reps c1
      have hsz : vs'.length ≤ sizeLine := by rw [← rr.length, sizeLine_eq]; exact of_decide_eq_true c2
      refine ⟨hsz, fun p o ho hp => ?_⟩
      have lo := r1.loose hp
      have r2 := rel_new (o := .frz o (.tup vs')) r1 hp trivial
      have le := le_new (o := .frz o (.tup vs')) (r1.hr.fnone hp)
      refine q _ _ _ (rel_don (i := i) (p := p) r2 (by simp) (fun j hj => by rw [List.getElem?_set_ne (Ne.symm hj)]) ?_ (fun j x _ e o => lo.o j x e o) ⟨p, vs', o, rfl, upd_same, ho, hsz, by rw [map_fst_dup]; exact rr.mono le⟩)
      by_cases hb : i < s1.e.length
      · exact .inl (List.getElem?_set_self (by rw [r1.len]; exact hb))
      · exact .inr (by omega)
    · exact q.elim⟩
end
/-! its items, sums -/
def fIxD : AH → PV → PV → Option PV := fun _ x y => match x, y with
  | .don ks, .int i => atI (ks.map (·.1)) i
  | _, _ => none
def fAddD : AH → PV → PV → Option PV := fun _ x y => match x, y with
  | .tup xs, .don ks => if xs ≠ [] ∧ ks ≠ [] ∧ xs.length + ks.length ≤ 16777216 then some (.tup (xs ++ ks.map (·.1))) else none
  | _, _ => none
section
variable {X : Cx} {B : Bs} {N : Ent} {WX : L2.WX} {a b : Expr} {ma mb : ME} {pos : Pos}
theorem don_ok {W : Wd} {h : AH} {H : Hp} (hr : HRel B W h H) {x' : V} {ks : List (PV × PV)} (rx : RepT B W H (.don ks) x') : ∃ a vs o, x' = .ref a ∧ H a = some (.frz o (.tup vs)) ∧ o.dict = none ∧ vs.length ≤ sizeLine ∧ Reps B W (ks.map (·.1)) vs :=
  let ⟨a, vs, o, e1, e2, e3, e4, e5⟩ := (show DonR B W ks x' from rx)
  ⟨a, vs, o, e1, hr.agree _ _ e2, e3, e4, e5⟩
theorem sem_ixD : OpSem X B fIxD (rIx X.K) := by
  intro W h H x y z x' y' Q hr rx ry e q
  unfold fIxD at e
  split at e
  · rename_i ks i
    obtain ⟨a, vs, o, rfl, h1, _, _, r1⟩ := don_ok hr rx
    obtain ⟨v, e1, rv⟩ := atI_rep r1 e
    exact .inr (.inl ⟨a, vs, i, v, rfl, rep_int ry, .inl (.inr ⟨o, h1⟩), e1, q W H v (.refl W H) rv.hand⟩)
  · cases e
theorem sim_ixO (ha : SimE X B N WX a ma) (hb : SimE X B N WX b mb) (hs : PlainIx b) : SimE X B N WX (.Subscript a b pos) (eBin fIxD ma mb) :=
  (pe_ix ix_seq ha hb hs).imp fun σ H Q h => two h fun W2 s2 H2 x y x' y' r2 rx ry q => op_fin sem_ixD r2 rx ry q
theorem sem_addD (hK : X.K = B.K) : OpSem X B fAddD (rCatA X.K) := by
  intro W h H x y z x' y' Q hr rx ry e q
  unfold fAddD at e
  split at e
  · rename_i xs ks
    split at e
    · rename_i hz
      cases e
      obtain ⟨a, vs, rfl, ha, ra⟩ := tup_ok hK hr (show Rep B W (.tup xs) x' from rx)
      obtain ⟨b, ws, o, rfl, hb, _, _, rb⟩ := don_ok hr ry
      have l1 := ra.length
      have l2 := rb.length
      rw [List.length_map] at l2
      have hs := sizeLine_eq
      have l3 : vs.length + ws.length ≤ sizeLine := by omega
      refine ⟨a, b, vs, ws, rfl, rfl, ha, .inl (.inr ⟨o, hb⟩), l3, fun z => ?_, fun _ z => ?_, fun _ _ p hp => q _ _ _ (.new hp (by show (vs ++ ws).length ≤ sizeLine; rw [List.length_append]; exact l3)) ?_⟩
      · subst z
        exact absurd (List.length_eq_zero_iff.mp l1) hz.1
      · subst z
        exact absurd (List.length_eq_zero_iff.mp l2) hz.2.1
      · exact (rep_tup_new (hr.fnone hp) (ra.append rb)).hand
    · cases e
  · cases e
theorem sim_addD (hK : X.K = B.K) (ha : SimE X B N WX a ma) (hb : SimE X B N WX b mb) : SimE X B N WX (.BinOp a .Add b pos) (eBin fAddD ma mb) := sim_op op_catA (sem_addD hK) ha hb
end
/-! t.count(x) -/
section
variable {X : Cx}
def rCntD (K : PySem.W.Frag) : V → List V → Hp → VK → Prop := fun x xs H Q => ∃ (a : Addr) (y : V) (d : PyData) (ds : List PyData), x = V.ref a ∧ xs = [y] ∧ Dp K H (V.ref a) (.tuple ds) ∧ Dp K H y d ∧
  SeqAt.shaped (.list ds) = true ∧ SeqAt.shaped d = true ∧ Q (.int ((ds.countP fun z => PyData.eqv z d : Nat) : Int)) H
theorem mt_tcount (hu : X.A.units + 65 < cLine) : MtR X "tuple.count" (rCntD X.K) := by
  intro pins s σ H x xs v us Q I rx rxs h
  obtain ⟨a, y, d, ds, rfl, rfl, hl, hy, sl, sd, q⟩ := h
  cases rx
  cases rxs with
  | cons ry rt =>
    rename_i uy ut
    cases rt
    obtain ⟨bs, r1⟩ := Dp.reads I d y uy hy ry
    have hxs : PyData.canLayAll0 ds = true := SeqAt.canLay_of_shaped sl
    have hroom : X.A.units + 1 + min (PyData.depthAll ds) d.depth < cLine := room_in_shaped sd hu
    cases hl with
    | tup hs ha =>
      obtain ⟨its, rv, ⟨⟨cls, dd, data, sls⟩, ho, hc, n, hdt⟩, hlen⟩ := I.tuple hs
      simp only at hc hdt
      subst hc hdt
      obtain ⟨as, h4⟩ := Dp.readsAll I ds _ its ha rv
      have hmap : its.map (SeqAt.readOf s.heap) = ds := SeqAt.readsAll_map ds its as hxs h4
      refine call_meets PySem.F.slot_tuple_count ⟨_, ho, rfl⟩ PySem.F.entry_tuple_count (PySem.F.args_tuple_count_2 _ _)
        (SeqAt.tuple_countAt a its.toArray n dd sls uy (fun u => PyData.eqv (SeqAt.readOf s.heap u) d)) ⟨ho, SeqAt.items_eqAt (vs := its.toArray) (show ReadsAll s.heap its.toArray.toList ds as from h4) r1 hxs (SeqAt.canLay_of_shaped sd) hroom, ?_⟩
      refine ⟨.int ((ds.countP fun z => PyData.eqv z d : Nat) : Int), H, I.tok _, ⟨s.toks, ?_⟩, q⟩
      show Value.int ((its.toArray.toList.countP (fun u => PyData.eqv (SeqAt.readOf s.heap u) d) : Nat) : Int) s.toks = Value.int ((ds.countP fun z => PyData.eqv z d : Nat) : Int) s.toks
      have hc : its.toArray.toList.countP (fun u => PyData.eqv (SeqAt.readOf s.heap u) d) = ds.countP fun z => PyData.eqv z d := by
        rw [← hmap, List.countP_map]
        rfl
      rw [hc]
variable {o e : Expr} {es : List Expr} {to : TE} {t : TA} {name : Str} {apos cpos : Pos} {id : String} {r : V → List V → Hp → VK → Prop}
/-- a method of a tuple whose object is known -/
def tBMT (r : V → List V → Hp → VK → Prop) (to : TE) (t : TA) : TE := fun σ H Q => to σ H fun x H1 => (∃ p ob xs, x = .ref p ∧ H1 p = some (.frz ob (.tup xs)) ∧ ob.dict = none) ∧ t σ H1 fun xs H2 => r x xs H2 Q
theorem pe_bmT (pa : PlainAttrs "tuple") (slot : Slot "tuple" name id) (hty : typeOf (.builtin id) = pure (.type "method_descriptor")) (hm : MtR X id r) (ho : PE X o to) (ha : PA X (e :: es) t)
    (hbase : attributeBase o name X.env (eval o X.env) = eval o X.env)
    (hfew : ((backTo cpos (starEach (e :: es) X.env)).all (fun x => !x.1) && (backToKw cpos (keywordEach [] X.env)).all (fun x => x.1.isSome)
      && decide ((e :: es).length + ([] : List Keyword).length + (if ([] : List Keyword).isEmpty then 0 else 1) < 30)) = true)
    (hline : (apos.endLine == cpos.line) = true) (hs : starEach (e :: es) X.env = (false, eval e X.env) :: starEach es X.env) (hplain : (backTo cpos (starEach es X.env)).any (·.1) = false) :
    PE X (.Call (.Attribute o name apos) (e :: es) [] cpos) (tBMT r to t) := by
  refine ⟨fun pins s σ H Q I h => ?_⟩
  refine wpAny_Call_method_late hbase hfew hline rfl (thn (ho.run pins s σ H _ I h) fun v s1 ⟨x, H1, I1, r1, ty, q1⟩ => ?_)
  obtain ⟨p, ob, xs, rfl, hp, hd⟩ := ty
  have hk := I1.hok p _ hp
  cases r1
  obtain ⟨k1, k2, k3, _, k5⟩ := hk
  obtain ⟨ob2, k6, k7, _⟩ := k5
  refine ⟨"tuple", id, pa, slot, hty, ⟨ob2, k6, k7⟩, fun a ea => ?_, ?_⟩
  · cases ea
    exact ⟨ob, k1, hd⟩
  have hA := ha.run cpos pins s1 σ H1 _ I1 q1
  rw [hs] at hA ⊢
  refine Calls.callWith_builtin (by show (false || (backTo cpos (starEach es X.env)).any (·.1)) = false; rw [hplain] <;> rfl) (Calls.evalArgs_plain ?_)
  exact thn hA fun us s2 ⟨vs, H2, I2, r2, q2⟩ => hm pins s2 σ H2 (.ref p) vs (.ref p) us Q I2 rfl r2 q2
end
def eTCnt (mo : ME) (ma : MA) : ME := fun s => (mo s).bind fun o s1 => match o with
  | .don ks => (ma s1).bind fun vs s2 => (match vs with
    | [y] => (match toDs (ks.map (·.1)), toD y with
      | some ds, some d => if dOk (.list ds) && dOk d then .ok (.int ((ds.countP fun z => PyData.eqv z d : Nat) : Int)) s2 else .bad
      | _, _ => .bad)
    | _ => .bad)
  | _ => .bad
section
variable {X : Cx} {B : Bs} {N : Ent} {WX : L2.WX} {o e : Expr} {es : List Expr} {mo : ME} {ma : MA} {apos cpos : Pos}
theorem sim_tcnt (hK : X.K = B.K) (hr : U9 X.A) (ho : SimE X B N WX o mo) (ha : SimA X B N WX (e :: es) ma) (hbase : attributeBase o "count" X.env (eval o X.env) = eval o X.env)
    (hfew : ((backTo cpos (starEach (e :: es) X.env)).all (fun x => !x.1) && (backToKw cpos (keywordEach [] X.env)).all (fun x => x.1.isSome)
      && decide ((e :: es).length + ([] : List Keyword).length + (if ([] : List Keyword).isEmpty then 0 else 1) < 30)) = true)
    (hline : (apos.endLine == cpos.line) = true) (hs : starEach (e :: es) X.env = (false, eval e X.env) :: starEach es X.env) (hplain : (backTo cpos (starEach es X.env)).any (·.1) = false) :
    SimE X B N WX (.Call (.Attribute o "count" apos) (e :: es) [] cpos) (eTCnt mo ma) :=
  (pe_bmT PySem.F.plainAttrs_tuple PySem.F.slot_tuple_count PySem.F.type_tuple_count (mt_tcount (by have hr : X.A.units + 200 < cLine := hr; omega)) ho ha hbase hfew hline hs hplain).imp fun σ H Q ⟨W, s, r0, h⟩ => ⟨W, s, r0, (h.bind r0.slen).mono fun o1 W1 s1 H1 r1 _ q o' ro => by
    split at q
    · rename_i ks
      obtain ⟨a, vs0, ob, rfl, h1, hd, hz, r2⟩ := don_ok r1.hr ro
      refine ⟨⟨a, ob, vs0, rfl, h1, hd⟩, W1, s1, r1, (q.bind r1.slen).mono fun vs W2 s2 H2 r2' st2 q vs' rvs => ?_⟩
      split at q
      · rename_i y
        obtain ⟨v, rfl, rv⟩ := repts1 rvs
        split at q
        · rename_i ds d ed ey
          split at q
          · rename_i hz'
            obtain ⟨z1, z2⟩ := Bool.and_eq_true_iff.mp hz'
            obtain ⟨a2, vs2, ob2, e2, k1, k2, k3, k4⟩ := don_ok r2'.hr (RepT.on r1.slen st2.st ro)
            cases e2
            obtain ⟨d1, d2⟩ := toDs_dp hK r2'.hr k4 ed
            have a1 : Dp X.K H2 (.ref a) (.tuple ds) := .tup (.inl (.inr ⟨ob2, k1⟩)) d1
            have oy : isOwn y = false := by cases y <;> first | rfl | cases ey
            obtain ⟨b1, b2⟩ := toD_dp hK r2'.hr (rv.rep oy) ey
            exact ⟨a, v, d, ds, rfl, rfl, a1, b1, shaped_of (by simpa [PyData.canLay0] using d2) z1, shaped_of b2 z2, q.ok r2' _ (Rep.int _).hand⟩
          · exact q.elim
        · exact q.elim
      · exact q.elim
    · exact q.elim⟩
end
end Lp

set_option Elab.async false
set_option linter.all false
set_option maxRecDepth 100000
set_option maxHeartbeats 4000000
/-! Lp35: own __eq__, != by it, own __repr__; isinstance with an own class; f-strings of texts. -/
namespace Lp
open PySem PySem.Spec PyProof.Rows L2 LamX NdefX
open Builtin

/-! ### != over an own __eq__, by the model -/
theorem ne_slot : Slot "object" "__ne__" "object.__ne__" := Slot.of (T := "object") (name := "__ne__") (owner := "object") (n := "__ne__") (by rw [typeLookup_type, builtinLookup_eq_fast]; kernel_rfl) (by decide +kernel) (by decide +kernel) (by decide +kernel)
    (.inl (by decide +kernel)) (by rw [isSubtype_type]; kernel_rfl)
section
variable {prog : Program} {w : World} {A : Around} {E : Value → Shared → Prop} {s : Shared} {K : PySem.W.Frag} {x C L f : Addr} {h₀ : Heap} {m : Str → Option Value} {ox : Obj} {od : Option Obj} {name : Str} {b tb : Value}
theorem ifBound_B {M : Model} {args : List Value} {id : String} {Q : Option Value → Shared → Prop} (X : K.In s.heap) (I : PySem.W.InstAt s.heap x ox C od) (hs : PySem.W.findIn K (.ref C) name = some (some (.builtin id))) (hb : ∀ self : Value, bindSpecial (.builtin id) self = pure (.builtin id, [self]))
    (h : wpAny M A (call (.builtin id) (.ref x :: args)) (fun v => Q (some v)) E s) : wpAny M A (callSpecialIfBound? (.ref x) name args) Q E s := by
  simp only [callSpecialIfBound?, bindSpecialIfBound?]
  refine wpAny_holding (wpAny_bind (wpAny_bind (wpAny_bind (I.type.here ((PySem.W.looks_findIn X hs).here ?_)))))
  refine wpAny_bind (wpAny_askSetting (wpAny_ite ?_))
  have fin : wpAny M A (call (.builtin id) ([.ref x] ++ args) >>= fun v => pure (some v)) Q E s := wpAny_bind (wpAny_mono h (fun v s' h' => wpAny_pure h') fun _ _ h' => h')
  have bl : PySem.W.Looks M s.heap (bindSpecial (.builtin id) (.ref x)) (.builtin id, [.ref x]) := PySem.W.Looks.of_pure (hb _)
  split
  · exact wpAny_bind (bl.here (wpAny_pure (by exact fin)))
  · exact wpAny_tryCatch (wpAny_bind (bl.here (wpAny_pure (by exact fin))))
theorem ne_body {Q : Fin → Shared → Prop} (hu : A.units < cLine) (X : K.In s.heap) (I : PySem.W.InstAt s.heap x ox C od) (hs : PySem.W.findIn K (.ref C) "__eq__" = some (some (.ref f))) (hf : PySem.W.isFn K (.ref f) = true)
    (hcall : wpAny (model prog w) A (call (.ref f) [.ref x, b]) (fun v s' => ∃ r, v = .bool r ∧ Q (.done (.ret (.bool (!r)))) s') E s) : wpAny (model prog w) A (Builtin.«object.__ne__» ⟨[.ref x, b], []⟩) Q E s := by
  unfold Builtin.«object.__ne__»
  repeat (first
    | with_reducible refine wpAny_cRoomFor hu ?_
    | (refine wpAny_bind (m := callSpecialIfBound? (.ref x) (Str.ofString "__eq__") [b])
        (PySem.W.ifBound_K X I hs hf (wpAny_mono hcall (fun r s' hr => by
          obtain ⟨r', rfl, hq⟩ := hr
          repeat (first | exact hq | exact wpAny_pure hq | exact wpAny_truthy_bool hq | (refine wpAny_bind (m := truthy (.bool _)) (wpAny_truthy_bool ?_)) | wp_step)) fun _ _ e => e)))
    | wp_step)
theorem ne_K {Q : Value → Shared → Prop} (hu : A.units + 1 < cLine) (F : PyProof.Rows.Fr h₀ L s.heap m) (X₀ : K.In h₀) (I : PySem.W.InstAt s.heap x ox C od) (hb : PySem.W.Looks (model prog w) s.heap (typeOf b) tb) (hn : PySem.W.notFirst K C tb = true)
    (hne : PySem.W.findIn K (.ref C) "__ne__" = some (some (.builtin "object.__ne__"))) (ho : PySem.W.mroIn K C (.type "object") = some true) (hs : PySem.W.findIn K (.ref C) "__eq__" = some (some (.ref f))) (hf : PySem.W.isFn K (.ref f) = true)
    (h : wpAny (model prog w) A.in1 (call (.ref f) [.ref x, b]) (fun v s' => ∃ r, v = .bool r ∧ Q (.bool (!r)) s') E s) : wpAny (model prog w) A (richCompare .NotEq (.ref x) b) Q E s := by
  have X := X₀.keeps F.keep
  have one : wpAny (model prog w) A (tryCompare (.ref x) "__ne__" b) (fun r s' => ∃ v, r = some v ∧ Q v s') E s := by
    unfold tryCompare
    have hi : PySem.W.Looks (model prog w) s.heap (isInstance (.ref x) (.type "object")) true := I.type.andThen (PySem.W.looks_mroIn X ho)
    refine wpAny_bind (ifBound_B X I hne ne_slot.bind (wpAny_call (codeAny_call_builtin ne_slot.plain PySem.F.cmpEntry_ne
      (PySem.W.check_slot PySem.F.cmpKind_ne PySem.F.cmpSplit_ne hi (PySem.F.cmpArgs_ne _ _) (ne_body (A := A.in1) (by show A.units + 1 < _; exact hu) X I hs hf (wpAny_mono h (fun v s' hv => ?_) fun _ _ e => e))))))
    obtain ⟨r, rfl, hq⟩ := hv
    first | exact ⟨r, rfl, wpAny_pure ⟨_, rfl, hq⟩⟩ | exact ⟨r, rfl, wpAny_pure (wpAny_pure ⟨_, rfl, hq⟩)⟩ | exact ⟨r, rfl, ⟨_, rfl, hq⟩⟩
  unfold richCompare
  simp only [oneThing_ref]
  refine wpAny_holding (wpAny_bind (wpAny_cRoomFor (Nat.lt_of_succ_lt hu) ?_))
  rw [cmpInfo_NotEq]
  dsimp only
  refine wpAny_bind (I.type.here (wpAny_bind (hb.here ?_)))
  split
  · rename_i q
    have e : PySem.W.subIn K tb (.ref C) = some false := by
      rcases Bool.or_eq_true_iff.mp hn with e | e
      · rw [beq_iff_eq.mp e] at q; simp at q
      · exact beq_iff_eq.mp e
    refine wpAny_bind ((PySem.W.looks_subIn X e).here ?_)
    simp only [Bool.false_eq_true, if_false]
    refine wpAny_bind (wpAny_mono one (fun r s' z => ?_) fun _ _ e => e)
    obtain ⟨v, rfl, hq⟩ := z
    exact wpAny_pure hq
  · refine wpAny_bind (wpAny_pure ?_)
    simp only [Bool.false_eq_true, if_false]
    refine wpAny_bind (wpAny_mono one (fun r s' z => ?_) fun _ _ e => e)
    obtain ⟨v, rfl, hq⟩ := z
    exact wpAny_pure hq
end

/-! ### a def run inside a builtin -/
section
variable {X : Cx} {CX : CXT} {k n : Nat} {f C : Addr} {fd : FuncData} {ps : List Str} {sp : Sp} {E : XK} {g : List Value → List Value → List Value} {gV : List V → List V → List V}
theorem run_sub {A : Around} {pins : List (Addr × Obj)} {σ : L2.St} {H : Hp} {s : Shared} {Q : VK} {us : List Value} {vs : List V} (F : FnOk X.prog X.w X.K X.mg X.base CX k f fd ps sp) (sb : Sub X k A) (hb : KBn X.K fd ps n [] g gV) (hx : Passes CX X E)
    (I : Inv X pins σ H s) (r : Vals vs us) (l1 : vs.length = n) (h : sp (gV vs []) H Q E) : wpAny (model X.prog X.w) A (call (.ref f) us) (EP X pins σ Q) X.xe s := by
  have r2 := hb.rel r .nil
  have e0 : Env0 X.prog X.w X.K X.mg X.base A X.stack s H := by
    have e := I.env0
    exact ⟨by rw [sb.fr]; exact e.frames, e.mod, e.bs, e.bsz, e.funs, e.frf, e.hok, e.bare⟩
  refine wpAny_call (codeAny_mono (F.run A X.stack s H ⟨us, []⟩ (g us []) (gV vs []) Q E sb.room e0 (hb.to s us [] I.kIn (r.length.symm.trans l1) rfl) r2 h) fun r s' hq => ?_)
  cases r with
  | error e => exact hx pins σ H s e s' I hq
  | ok fl =>
    cases fl with
    | ret u => exact I.after hq
    | next => exact False.elim hq
    | brk => exact False.elim hq
    | cont => exact False.elim hq
/-- what may stand on the right of an own == -/
def EqR (C : Addr) (y : V) (H : Hp) : Prop := y = .non ∨ (∃ z, y = .str z) ∨ ∃ b dy gs, y = .ref b ∧ H b = some (.ins C dy gs)
def rEqI (C : Addr) (sp : Sp) (gV : List V → List V → List V) (neg : Bool) (E : XK) : R2 := fun x y H Q => ∃ a dx fs, x = .ref a ∧ H a = some (.ins C dx fs) ∧ EqR C y H ∧ sp (gV [x, y] []) H (fun v H' => ∃ b, v = .bl b ∧ Q (.bl (if neg then !b else b)) H') E
theorem eqr_looks {pins : List (Addr × Obj)} {σ : L2.St} {H : Hp} {s : Shared} {y : V} {u : Value} (I : Inv X pins σ H s) (ry : RelV y u) (h : EqR C y H) : ∃ tb, PySem.W.Looks (model X.prog X.w) s.heap (typeOf u) tb ∧ PySem.W.notFirst X.K C tb = true := by
  rcases h with rfl | ⟨z, rfl⟩ | ⟨b, dy, gs, rfl, hb⟩
  · cases ry
    exact ⟨.type "NoneType", PySem.W.Looks.of_pure rfl, by simp [PySem.W.notFirst, PySem.W.subIn]; exact ⟨_, rfl, by simp⟩⟩
  · obtain ⟨t, rfl⟩ := ry
    exact ⟨.type "str", PySem.W.Looks.of_pure rfl, by simp [PySem.W.notFirst, PySem.W.subIn]; exact ⟨_, rfl, by simp⟩⟩
  · cases ry
    obtain ⟨mA, J, _⟩ := ins_get I.hok hb
    obtain ⟨od, J, _⟩ := J.look
    exact ⟨.ref C, J.type, by simp [PySem.W.notFirst]⟩
theorem op_eqI (M : Meth X.K C "__eq__" f) (F : FnOk X.prog X.w X.K X.mg X.base CX k f fd ps sp) (hr : Room k X.A) (hb : KBn X.K fd ps 2 [] g gV) (hx : Passes CX X E) : OpR X (compareOp .Eq) (rEqI C sp gV false E) := by
  intro pins s σ H x y v u Q I rx ry h
  obtain ⟨a, dx, fs, rfl, ha, hy, q⟩ := h
  cases rx
  obtain ⟨mA, J, _⟩ := ins_get I.hok ha
  obtain ⟨od, J, _⟩ := J.look
  obtain ⟨m, hF⟩ := I.fr
  obtain ⟨tb, hl, hn⟩ := eqr_looks I ry hy
  show wpAny (model X.prog X.w) X.A (richCompare .Eq (.ref a) u) (EP X pins σ Q) X.xe s
  refine PySem.W.cmp_K (op := .Eq) hr.units0 hF I.ok.mod.kin J hl hn M.at_ M.fn ?_
  refine wpAny_mono (run_sub F ⟨hr, rfl⟩ hb hx I (.cons (show RelV (.ref a) (.ref a) from rfl) (.cons ry .nil)) rfl q) (fun w s' hq => ?_) fun _ _ e => e
  obtain ⟨v, H', I', rv, b, rfl, q⟩ := hq
  cases rv
  exact ⟨.bl b, H', I', rfl, q⟩
theorem op_neI (M : Meth X.K C "__eq__" f) (hne : PySem.W.findIn X.K (.ref C) "__ne__" = some (some (.builtin "object.__ne__"))) (ho : PySem.W.mroIn X.K C (.type "object") = some true) (F : FnOk X.prog X.w X.K X.mg X.base CX k f fd ps sp) (hr : Room (k + 1) X.A) (hb : KBn X.K fd ps 2 [] g gV) (hx : Passes CX X E) :
    OpR X (compareOp .NotEq) (rEqI C sp gV true E) := by
  intro pins s σ H x y v u Q I rx ry h
  obtain ⟨a, dx, fs, rfl, ha, hy, q⟩ := h
  cases rx
  obtain ⟨mA, J, _⟩ := ins_get I.hok ha
  obtain ⟨od, J, _⟩ := J.look
  obtain ⟨m, hF⟩ := I.fr
  obtain ⟨tb, hl, hn⟩ := eqr_looks I ry hy
  show wpAny (model X.prog X.w) X.A (richCompare .NotEq (.ref a) u) (EP X pins σ Q) X.xe s
  refine ne_K (by have := hr.un; omega) hF I.ok.mod.kin J hl hn hne ho M.at_ M.fn ?_
  refine wpAny_mono (run_sub F ⟨hr.in1, rfl⟩ hb hx I (.cons (show RelV (.ref a) (.ref a) from rfl) (.cons ry .nil)) rfl q) (fun w s' hq => ?_) fun _ _ e => e
  obtain ⟨v, H', I', rv, b, rfl, q⟩ := hq
  cases rv
  exact ⟨b, rfl, .bl (!b), H', I', rfl, q⟩
/-! repr(x) -/
def rRepr (C : Addr) (sp : Sp) (gV : List V → List V → List V) (E : XK) : List V → Hp → VK → Prop := fun xs H Q => ∃ a dx fs, xs = [.ref a] ∧ H a = some (.ins C dx fs) ∧ sp (gV xs []) H (fun v H' => ∃ z, v = .str z ∧ Q v H') E
theorem call_repr (M : Meth X.K C "__repr__" f) (F : FnOk X.prog X.w X.K X.mg X.base CX k f fd ps sp) (hr : Room (k + 1) X.A) (hb : KBn X.K fd ps 1 [] g gV) (hx : Passes CX X E) : CallR X (.builtin "repr") (rRepr C sp gV E) := by
  intro pins s σ H xs us Q I r h
  obtain ⟨a, dx, fs, rfl, ha, q⟩ := h
  rw [Vals.ref1 r]
  obtain ⟨mA, J, _⟩ := ins_get I.hok ha
  obtain ⟨od, J, _⟩ := J.look
  obtain ⟨m, hF⟩ := I.fr
  refine PySem.W.repr_K (by have := hr.un; show X.A.units + 1 < _; omega) hF I.ok.mod.kin J M.at_ M.fn ?_
  refine wpAny_mono (run_sub F ⟨hr.in1, rfl⟩ hb hx I (.cons (show RelV (.ref a) (.ref a) from rfl) .nil) rfl q) (fun w s' hq => ?_) fun _ _ e => e
  obtain ⟨v, H', I', rv, z, rfl, q⟩ := hq
  obtain ⟨t, rfl⟩ := rv
  exact ⟨.str z, H', I', ⟨t, rfl⟩, q⟩
end
end Lp

set_option Elab.async false
set_option linter.all false
set_option maxRecDepth 100000
set_option maxHeartbeats 4000000
/-! Lp36: own ==, !=, repr, isinstance with an own class, f-strings: readings. -/
namespace Lp
open PySem PySem.Spec PyProof.Rows L2 LamX NdefX

def eOwnC (neg : Bool) (m : MF) (x y : PV) : ME := fun s => (callH 2 m [x, y] s).bind fun v s1 => match v with
  | .bl b => .ok (.bl (if neg then !b else b)) s1
  | _ => .bad
def eqrB (c : Nat) (h : AH) (y : PV) : Bool := match y with
  | .non => true
  | .str _ => true
  | y => clsOf h y == some c
def eCmpI (c : Nat) (neg : Bool) (m : MF) (ma mb : ME) : ME := fun s => (ma s).bind fun x s1 => (mb s1).bind fun y s2 => match clsOf s2.h x with
  | some c' => if c' = c ∧ eqrB c s2.h y = true then eOwnC neg m x y s2 else .bad
  | none => match (if neg then fNe else fEq) s2.h x y with
    | some z => .ok z s2
    | none => .bad
def eRepr (c : Nat) (m : MF) (ma : MA) : ME := fun s => (ma s).bind fun vs s1 => match vs with
  | [x] => (match clsOf s1.h x with
    | some c' => if c' = c then (callH 1 m [x] s1).bind fun v s2 => (match v with
      | .str z => .ok (.str z) s2
      | _ => .bad) else .bad
    | none => .bad)
  | _ => .bad
section
variable {X : Cx} {B : Bs} {N : Ent} {E : XK} {W : Wd} {s : S} {σ : L2.St} {H : Hp} {a b : Expr} {ma mb : ME} {pos p : Pos} {k c : Nat} {m : MF} {g : List PV → List PV → List PV}
theorem clsOf_own {h : AH} {x : PV} {c' : Nat} (e : clsOf h x = some c') : isOwn x = false := by
  cases x <;> first | rfl | cases e
theorem clsOf_ok (hr : HRel B W h H) {x : PV} {x' : V} {c' : Nat} (rx : RepT B W H x x') (e : clsOf h x = some c') : ∃ a dx fs, x' = .ref a ∧ H a = some (.ins (B.cad c') dx fs) := by
  unfold clsOf at e
  cases ei : insOf h x with
  | none => rw [ei] at e; cases e
  | some q =>
    obtain ⟨c1, fs⟩ := q
    rw [ei] at e
    cases e
    obtain ⟨a, dx, vs, e1, hH, _, _⟩ := ins_ok hr rx ei
    exact ⟨a, dx, _, e1, hH⟩
theorem own_fin {neg : Bool} {gV : List V → List V → List V} (hg : ∀ x y, g [x, y] [] = [x, y]) (hG : ∀ (W : Wd) (xs ys : List PV) (vs zs : List V), Reps B W xs vs → Reps B W ys zs → Reps B W (g xs ys) (gV vs zs))
    {x y : PV} {x' y' : V} {Q : VK} (r : Rel B N W s σ H) (rx : Rep B W x x') (ry : Rep B W y y') (q : Post B N (fun c d _ H => E c d H) W s H σ (eOwnC neg m x y s) fun u W' _ H' => ∀ u', RepT B W' H' u u' → Q u' H') :
    spF B 2 m (gV [x', y'] []) H (fun v H' => ∃ b, v = .bl b ∧ Q (.bl (if neg then !b else b)) H') E := by
  have rr := hG _ _ _ _ _ (.cons rx (.cons ry .nil)) .nil
  rw [hg] at rr
  refine call_fin r rr ((q.bind r.slen).mono fun u W1 s1 H1 r1 _ q u' ru => ?_)
  cases u with
  | bl b =>
    refine ⟨b, rep_bl ru, ?_⟩
    exact q.ok r1 _ (Rep.bl _).hand
  | _ => exact q.elim
theorem eqr_ok (hr : HRel B W s.h H) {y : PV} {y' : V} (ry : RepT B W H y y') (e : eqrB c s.h y = true) : Rep B W y y' ∧ EqR (B.cad c) y' H := by
  have fin : (clsOf s.h y == some c) = true → Rep B W y y' ∧ EqR (B.cad c) y' H := fun e => by
    have e := beq_iff_eq.mp e
    obtain ⟨b, dy, gs, e1, e2⟩ := clsOf_ok hr ry e
    exact ⟨ry.rep (clsOf_own e), .inr (.inr ⟨b, dy, gs, e1, e2⟩)⟩
  cases y with
  | non => exact ⟨ry, .inl (rep_non ry)⟩
  | str z => exact ⟨ry, .inr (.inl ⟨z, (rep_str ry).1⟩)⟩
  | _ => exact fin e
theorem sim_eqI (F : Me X.prog X.w X.K X.mg X.base B k c "__eq__" 1 [] g 2 m) (hg : ∀ x y, g [x, y] [] = [x, y]) (hK : X.K = B.K) (tk : Takes X fun c d _ H => E c d H) (hr : Room k X.A) (ha : SimE X B N (fun c d _ H => E c d H) a ma) (hb : SimE X B N (fun c d _ H => E c d H) b mb) (hm : behindInMarks .Eq b = false) :
    SimE X B N (fun c d _ H => E c d H) (.Compare a [.Eq] [b] pos) (eCmpI c false m ma mb) := by
  obtain ⟨f, fd, ps, gW, gV, M, F1, hb', hG⟩ := F.ex
  refine (pe_cmpR ((op_eqI M F1 hr hb' (passes_call tk fun _ _ _ _ h => h)).or (op_eqD (Nat.lt_of_le_of_lt (by omega) hr.u9))) ha hb hm).imp fun σ H Q h => two h fun W2 s2 H2 x y x' y' r2 rx ry q => ?_
  split at q
  · rename_i c' ec
    split at q
    · rename_i hc
      obtain ⟨rfl, hy⟩ := hc
      obtain ⟨a, dx, fs, rfl, hH⟩ := clsOf_ok r2.hr rx ec
      obtain ⟨ry', er⟩ := eqr_ok r2.hr ry hy
      exact .inl ⟨a, dx, fs, rfl, hH, er, own_fin hg hG r2 (rx.rep (clsOf_own ec)) ry' q⟩
    · exact q.elim
  · exact .inr (op_fin (sem_eq hK) r2 rx ry q)
theorem sim_teqI (F : Me X.prog X.w X.K X.mg X.base B k c "__eq__" 1 [] g 2 m) (hg : ∀ x y, g [x, y] [] = [x, y]) (hK : X.K = B.K) (tk : Takes X fun c d _ H => E c d H) (hr : Room k X.A) (ha : SimE X B N (fun c d _ H => E c d H) a ma) (hb : SimE X B N (fun c d _ H => E c d H) b mb) (hm : behindInMarks .Eq b = false) :
    SimT X B N (fun c d _ H => E c d H) (.Compare a [.Eq] [b] pos) (bM (eCmpI c false m ma mb)) := by
  obtain ⟨f, fd, ps, gW, gV, M, F1, hb', hG⟩ := F.ex
  refine (pt_cmpR ((op_eqI M F1 hr hb' (passes_call tk fun _ _ _ _ h => h)).or (op_eqD (Nat.lt_of_le_of_lt (by omega) hr.u9))) ha hb hm).imp fun σ H Q h => two (tB_of h) fun W2 s2 H2 x y x' y' r2 rx ry q => ?_
  split at q
  · rename_i c' ec
    split at q
    · rename_i hc
      obtain ⟨rfl, hy⟩ := hc
      obtain ⟨a, dx, fs, rfl, hH⟩ := clsOf_ok r2.hr rx ec
      obtain ⟨ry', er⟩ := eqr_ok r2.hr ry hy
      exact .inl ⟨a, dx, fs, rfl, hH, er, own_fin hg hG r2 (rx.rep (clsOf_own ec)) ry' q⟩
    · exact q.elim
  · exact .inr (op_fin (sem_eq hK) r2 rx ry q)
/-- what != needs of the class -/
structure NeC (K : PySem.W.Frag) (C : Addr) : Prop where
  ne : PySem.W.findIn K (.ref C) "__ne__" = some (some (.builtin "object.__ne__"))
  ob : PySem.W.mroIn K C (.type "object") = some true
theorem sim_neI (F : Me X.prog X.w X.K X.mg X.base B k c "__eq__" 1 [] g 2 m) (hg : ∀ x y, g [x, y] [] = [x, y]) (nc : NeC X.K (B.cad c)) (hK : X.K = B.K) (tk : Takes X fun c d _ H => E c d H) (hr : Room (k + 1) X.A) (ha : SimE X B N (fun c d _ H => E c d H) a ma) (hb : SimE X B N (fun c d _ H => E c d H) b mb) (hm : behindInMarks .NotEq b = false) :
    SimE X B N (fun c d _ H => E c d H) (.Compare a [.NotEq] [b] pos) (eCmpI c true m ma mb) := by
  obtain ⟨f, fd, ps, gW, gV, M, F1, hb', hG⟩ := F.ex
  refine (pe_cmpR ((op_neI M nc.ne nc.ob F1 hr hb' (passes_call tk fun _ _ _ _ h => h)).or (op_neD (Nat.lt_of_le_of_lt (by omega) hr.u9))) ha hb hm).imp fun σ H Q h => two h fun W2 s2 H2 x y x' y' r2 rx ry q => ?_
  split at q
  · rename_i c' ec
    split at q
    · rename_i hc
      obtain ⟨rfl, hy⟩ := hc
      obtain ⟨a, dx, fs, rfl, hH⟩ := clsOf_ok r2.hr rx ec
      obtain ⟨ry', er⟩ := eqr_ok r2.hr ry hy
      exact .inl ⟨a, dx, fs, rfl, hH, er, own_fin hg hG r2 (rx.rep (clsOf_own ec)) ry' q⟩
    · exact q.elim
  · exact .inr (op_fin (sem_ne hK) r2 rx ry q)
theorem sim_tneI (F : Me X.prog X.w X.K X.mg X.base B k c "__eq__" 1 [] g 2 m) (hg : ∀ x y, g [x, y] [] = [x, y]) (nc : NeC X.K (B.cad c)) (hK : X.K = B.K) (tk : Takes X fun c d _ H => E c d H) (hr : Room (k + 1) X.A) (ha : SimE X B N (fun c d _ H => E c d H) a ma) (hb : SimE X B N (fun c d _ H => E c d H) b mb) (hm : behindInMarks .NotEq b = false) :
    SimT X B N (fun c d _ H => E c d H) (.Compare a [.NotEq] [b] pos) (bM (eCmpI c true m ma mb)) := by
  obtain ⟨f, fd, ps, gW, gV, M, F1, hb', hG⟩ := F.ex
  refine (pt_cmpR ((op_neI M nc.ne nc.ob F1 hr hb' (passes_call tk fun _ _ _ _ h => h)).or (op_neD (Nat.lt_of_le_of_lt (by omega) hr.u9))) ha hb hm).imp fun σ H Q h => two (tB_of h) fun W2 s2 H2 x y x' y' r2 rx ry q => ?_
  split at q
  · rename_i c' ec
    split at q
    · rename_i hc
      obtain ⟨rfl, hy⟩ := hc
      obtain ⟨a, dx, fs, rfl, hH⟩ := clsOf_ok r2.hr rx ec
      obtain ⟨ry', er⟩ := eqr_ok r2.hr ry hy
      exact .inl ⟨a, dx, fs, rfl, hH, er, own_fin hg hG r2 (rx.rep (clsOf_own ec)) ry' q⟩
    · exact q.elim
  · exact .inr (op_fin (sem_ne hK) r2 rx ry q)
theorem boot_repr : bootBuiltins "repr" = some (.builtin "repr") := by decide +kernel
theorem sim_repr {e : Expr} (F : Me X.prog X.w X.K X.mg X.base B k c "__repr__" 0 [] g 1 m) (hg : ∀ x, g [x] [] = [x]) (tk : Takes X fun c d _ H => E c d H) (hr : Room (k + 1) X.A) (hgl : Gl X "repr") (hm : X.mg "repr" = none) (ha : SimA X B N (fun c d _ H => E c d H) [e] ma')
    (he : starEach [e] X.env = (false, eval e X.env) :: starEach [] X.env) (hpl : (backTo pos (starEach [] X.env)).any (·.1) = false) : SimE X B N (fun c d _ H => E c d H) (.Call (.Name "repr" p) [e] [] pos) (eRepr c m ma') := by
  obtain ⟨f, fd, ps, gW, gV, M, F1, hb', hG⟩ := F.ex
  refine (pe_callB (call_repr M F1 hr hb' (passes_call tk fun _ _ _ _ h => h)) hgl hm boot_repr ha (by decide) rfl he hpl).imp fun σ H Q ⟨W, s, r, h⟩ => ⟨W, s, r, (h.bind r.slen).mono fun vs W1 s1 H1 r1 _ q vs' rvs => ?_⟩
  split at q
  · rename_i x
    obtain ⟨v, rfl, rv⟩ := repts1 rvs
    split at q
    · rename_i c' ec
      split at q
      · rename_i hc
        subst hc
        obtain ⟨a, dx, fs, rfl, hH⟩ := clsOf_ok r1.hr rv ec
        refine ⟨a, dx, fs, rfl, hH, ?_⟩
        have rr := hG _ _ _ _ _ (.cons (rv.rep (clsOf_own ec)) .nil) .nil
        rw [hg] at rr
        refine call_fin r1 rr ((q.bind r1.slen).mono fun u W2 s2 H2 r2 _ q u' ru => ?_)
        cases u with
        | str z => exact ⟨z, (rep_str ru).1, q.ok r2 _ ru⟩
        | _ => exact q.elim
      · exact q.elim
    · exact q.elim
  · exact q.elim
end

/-! ### isinstance(x, C) -/
def BT.all : List BT := [.non, .bl, .int, .str, .tup, .lst, .dic]
theorem BT.mem_all (t : BT) : t ∈ BT.all := by cases t <;> simp [BT.all]
def clsiB (K : PySem.W.Frag) (C : Addr) : Bool := BT.all.all (fun t => decide (PySem.W.kitOne K (.type t.nm) (.ref C) = some false)) && (decide (PySem.W.findIn K (.ref C) "__class__" = some (some (.builtin "object.__class__"))) &&
  (decide (PySem.W.specialIn K (.builtin "object.__class__") "__get__" = some (some (.builtin "getset_descriptor.__get__"))) && (decide (PySem.W.takesIn K (.builtin "object.__class__") = some true) && decide (PySem.W.mroIn K C (.type "object") = some true))))
structure ClsI (K : PySem.W.Frag) (C : Addr) : Prop where
  no : ∀ t : BT, PySem.W.kitOne K (.type t.nm) (.ref C) = some false
  cl : Cls K C
  ha : PySem.W.findIn K (.ref C) "__class__" = some (some (.builtin "object.__class__"))
  hn : PySem.W.specialIn K (.builtin "object.__class__") "__get__" = some (some (.builtin "getset_descriptor.__get__"))
  ht : PySem.W.takesIn K (.builtin "object.__class__") = some true
  hm : PySem.W.mroIn K C (.type "object") = some true
theorem clsiB_ok {K : PySem.W.Frag} {C : Addr} (cl : Cls K C) (h : clsiB K C = true) : ClsI K C := by
  unfold clsiB at h
  obtain ⟨h1, h⟩ := Bool.and_eq_true_iff.mp h
  obtain ⟨h2, h⟩ := Bool.and_eq_true_iff.mp h
  obtain ⟨h3, h⟩ := Bool.and_eq_true_iff.mp h
  obtain ⟨h4, h5⟩ := Bool.and_eq_true_iff.mp h
  exact ⟨fun t => of_decide_eq_true (List.all_eq_true.mp h1 t t.mem_all), cl, of_decide_eq_true h2, of_decide_eq_true h3, of_decide_eq_true h4, of_decide_eq_true h5⟩
def neB (K : PySem.W.Frag) (C : Addr) : Bool := decide (PySem.W.findIn K (.ref C) "__ne__" = some (some (.builtin "object.__ne__"))) && decide (PySem.W.mroIn K C (.type "object") = some true)
theorem neB_ok {K : PySem.W.Frag} {C : Addr} (h : neB K C = true) : NeC K C :=
  let ⟨h1, h2⟩ := Bool.and_eq_true_iff.mp h
  ⟨of_decide_eq_true h1, of_decide_eq_true h2⟩
def bIsC (c : Nat) : AH → List PV → Option PV := fun h xs => match xs with
  | [x, .cls d] => if d = c then (match clsOf h x with
    | some c' => if c' = c then some (.bl true) else none
    | none => (tyN h x).map fun _ => .bl false) else none
  | _ => none
section
variable {X : Cx} {B : Bs} {c : Nat}
theorem sem_isC (hK : X.K = B.K) (C : ClsI X.K (B.cad c)) : CallSem X B (bIsC c) (rIsi X.K) := by
  intro W h H xs z xs' Q hr rxs e q
  unfold bIsC at e
  split at e
  · rename_i x d
    split at e
    · rename_i hd
      subst hd
      obtain ⟨v, w, rfl, rv, rw'⟩ := repts2 rxs
      cases (show Rep B W (.cls d) w from rw')
      split at e
      · rename_i c' ec
        split at e
        · rename_i hc
          subst hc
          cases e
          obtain ⟨a, dx, fs, rfl, hH⟩ := clsOf_ok hr rv ec
          refine ⟨.ref a, _, _, .ref (B.cad c'), true, rfl, .own _, .base (.ins hH C.cl C.ha C.hn C.ht C.hm), ?_, q W H _ (.refl W H) (Rep.bl _).hand⟩
          unfold PySem.W.kitOne
          rw [if_pos (by simp)]
        · cases e
      · cases et : tyN h x with
        | none => rw [et] at e; cases e
        | some t =>
          rw [et] at e
          cases e
          exact ⟨v, _, _, .ref (B.cad d), false, rfl, .own _, tyN_ok hK hr rv et, C.no t, q W H _ (.refl W H) (Rep.bl _).hand⟩
    · cases e
  · cases e
theorem bi_isC (hK : X.K = B.K) (C : ClsI X.K (B.cad c)) : BiOk X B "isinstance" (bIsC c) := ⟨_, _, PyProof.Rows.boot_isinstance, call_isi, sem_isC hK C, .inl ⟨_, rfl⟩⟩
theorem sim_cls {N : Ent} {WX : L2.WX} {x : Str} {pos : Pos} (hg : Gl X x) (h : X.mg x = some (.ref (B.cad c))) (hd : (x == ("__debug__" : Str)) = false := by rfl) : SimE X B N WX (.Name x pos) (eC (.cls c)) := sim_gl hg ⟨_, h, (show RelV (.ref (B.cad c)) (.ref (B.cad c)) from rfl)⟩ (fun _ => .cls c) hd
end

/-! ### f-strings of texts -/
def eFmt (m : ME) : ME := fun s => (m s).bind fun v s1 => match v with
  | .str y => .ok (.str y) s1
  | _ => .bad
def eJ : List ME → Str → ME
  | [], acc => fun s => .ok (.str acc) s
  | m :: ms, acc => fun s => (m s).bind fun v s1 => match v with
    | .str y => if acc.length + y.length ≤ sizeLine then eJ ms (acc ++ y) s1 else .bad
    | _ => .bad
section
variable {X : Cx} {B : Bs} {N : Ent} {WX : L2.WX} {e : Expr} {es : List Expr} {m : ME} {ms : List ME} {pos : Pos}
theorem sim_fmt (he : SimE X B N WX e m) : SimE X B N WX (.FormattedValue e (-1) none pos) (eFmt m) :=
  (pe_fmt he).imp fun σ H Q ⟨W, s, r, h⟩ => ⟨W, s, r, (h.bind r.slen).mono fun v W1 s1 H1 r1 _ q v' rv => by
    split at q
    · rename_i y
      obtain ⟨rfl, k⟩ := rep_str rv
      exact .inl ⟨y, rfl, k.2, q.ok r1 _ rv⟩
    · exact q.elim⟩
inductive SimJ (X : Cx) (B : Bs) (N : Ent) (WX : L2.WX) : List Expr → List ME → Prop where
  | nil : SimJ X B N WX [] []
  | cons {e : Expr} {m : ME} {es : List Expr} {ms : List ME} (h : SimE X B N WX e m) (r : SimJ X B N WX es ms) : SimJ X B N WX (e :: es) (m :: ms)
theorem SimJ.pj (h : SimJ X B N WX es ms) : PJ X es (ms.map (tE B N WX)) := by
  induction h with
  | nil => exact .nil
  | cons h _ ih => exact .cons h ih
theorem tj_of {σ : L2.St} {Q : VK} : ∀ {ms : List ME} {acc : Str} {H : Hp}, SOk acc → tE B N WX (eJ ms acc) σ H Q → tJs (ms.map (tE B N WX)) acc σ H fun out H1 => Q (.str out) H1
  | [], acc, H, k, ⟨W, s, r, h⟩ => h.ok r _ (Rep.str acc k).hand
  | m :: ms, acc, H, k, ⟨W, s, r, h⟩ => ⟨W, s, r, (Post.bind (f := fun v s1 => match v with
    | .str y => if acc.length + y.length ≤ sizeLine then eJ ms (acc ++ y) s1 else .bad
    | _ => .bad) r.slen h).mono fun v W1 s1 H1 r1 _ q v' rv => by
    split at q
    · rename_i y
      obtain ⟨rfl, k2⟩ := rep_str rv
      split at q
      · rename_i hz
        have k3 := sok_append k k2 hz
        exact ⟨y, rfl, k3.2, tj_of k3 ⟨W1, s1, r1, q⟩⟩
      · exact q.elim
    · exact q.elim⟩
theorem sok_empty : SOk Str.empty := ⟨by decide +kernel, by decide +kernel⟩
theorem sim_joined {v1 v2 : Expr} {rest : List Expr} (h : SimJ X B N WX (v1 :: v2 :: rest) ms) : SimE X B N WX (.JoinedStr (v1 :: v2 :: rest) pos) (eJ ms Str.empty) :=
  (pe_joined h.pj).imp fun σ H Q q => tj_of sok_empty q
end
end Lp
namespace Lp
open PySem PySem.Spec PyProof.Rows L2 LamX NdefX
/-- a, b = e, [..]: b's list is its own -/
def sParN (i j : Nat) (ma : ME) (mn : S → R S (List PV)) : MS := fun s => (ma s).bind fun v s1 => (mn s1).bind fun xs s2 => if isOwn v = true then .bad else .ok .nx ⟨(s2.e.set i (some v)).set j (some (.own xs)), s2.h⟩
section
variable {X : Cx} {B : Bs} {N : Ent} {WX : L2.WX} {pos : Pos}
theorem sims_parN {i j : Nat} {x y : Str} {a b : Expr} {ma : ME} {mn : S → R S (List PV)} {px py pt : Pos} {kt k2 pt2} (hc : X.calm = true) (hN : X.N.Nodup) (hi : X.N[i]? = some x) (hj : X.N[j]? = some y) (hij : i ≠ j)
    (hx : X.env.scope.names.lookup x = some .local) (hy : X.env.scope.names.lookup y = some .local) (ha : SimE X B N WX a ma) (hb : SimN X B N WX b mn) (hs1 : starEach [a, b] X.env = (false, eval a X.env) :: starEach [b] X.env) (hs2 : starEach [b] X.env = (false, eval b X.env) :: starEach [] X.env)
    (hw : swappedStores [.Tuple [.Name x px, .Name y py] kt pt] (.Tuple [a, b] k2 pt2) X.env = pure (some [x, y]))
    (hs : swapsWithSole [.Tuple [.Name x px, .Name y py] kt pt] (.Tuple [a, b] k2 pt2) pos.line X.env = pure false) :
    SimS X B N WX (.Assign [.Tuple [.Name x px, .Name y py] kt pt] (.Tuple [a, b] k2 pt2) pos) (sParN i j ma mn) :=
  (ps_par hc hN hi hj hij hx hy (pa_cons ha (pa_cons hb pa_nil hs2) hs1) hw hs).imp fun D σ H ⟨W, s, r, h⟩ => ⟨W, s, r, h.bindE.mono fun v W1 s1 H1 r1 _ q v' rv => ⟨W1, s1, r1, q.bindE.mono fun xs W2 s2 H2 r2 st2 q2 p vs hp l hH rxs => by
    split at q2
    · exact q2.elim
    · rename_i o
      have o : isOwn v = false := by simpa using o
      refine ⟨v', .ref p, rfl, q2 W2 _ H2 ?_⟩
      have r3 := rel_set (i := i) r2 ((rv.on r1.slen st2.st).rep o)
      refine rel_own r3 (by simp) (fun k hk => by rw [List.getElem?_set_ne (Ne.symm hk)]) ?_ ⟨l.F, l.m, fun k z hk e ow => ?_, l.e⟩ hH rxs
      · by_cases hb : j < s2.e.length
        · exact .inl (List.getElem?_set_self (by rw [List.length_set, r2.len]; exact hb))
        · exact .inr (by simp; omega)
      · by_cases hki : i = k
        · subst hki
          have e : (s2.e.set i (some v))[i]? = some (some z) := e
          by_cases hb : i < s2.e.length
          · rw [List.getElem?_set_self hb] at e
            cases e
            rw [o] at ow; cases ow
          · rw [List.getElem?_eq_none (by rw [List.length_set]; omega)] at e
            cases e
        · have e : (s2.e.set i (some v))[k]? = some (some z) := e
          rw [List.getElem?_set_ne hki] at e ⊢
          exact l.o k z e ow⟩⟩
end
end Lp
namespace Lp
open PySem PySem.Spec PyProof.Rows L2 LamX NdefX
/-- a method run within a built-in: one level more -/
structure MeN (P : Program) (w : World) (K : PySem.W.Frag) (mg : Str → Option Value) (base : Heap) (B : Bs) (k : Nat) (c : Nat) (x : Str) (n0 : Nat) (ks : List Str) (ix : List Nat) (ds : List PV) (n : Nat) (m : MF) : Prop where
  ex : ∃ j, j + 1 ≤ k ∧ MeA P w K mg base B j c x n0 ks ix ds n m
theorem MeN.mono {P : Program} {w : World} {K : PySem.W.Frag} {mg : Str → Option Value} {base : Heap} {B : Bs} {i k : Nat} {c : Nat} {x : Str} {n0 : Nat} {ks : List Str} {ix : List Nat} {ds : List PV} {n : Nat} {m : MF} (F : MeN P w K mg base B i c x n0 ks ix ds n m) (h : i ≤ k) : MeN P w K mg base B k c x n0 ks ix ds n m :=
  let ⟨j, hj, a⟩ := F.ex
  ⟨j, Nat.le_trans hj h, a⟩
section
variable {X : Cx} {B : Bs} {N : Ent} {E : XK} {a b : Expr} {ma mb : ME} {pos p : Pos} {k c : Nat} {m : MF}
theorem sim_eqA (F : MeA X.prog X.w X.K X.mg X.base B k c "__eq__" 1 [] [0, 1] [] 2 m) (hK : X.K = B.K) (tk : Takes X fun c d _ H => E c d H) (hr : Room k X.A) (ha : SimE X B N (fun c d _ H => E c d H) a ma) (hb : SimE X B N (fun c d _ H => E c d H) b mb) (hm : behindInMarks .Eq b = false) :
    SimE X B N (fun c d _ H => E c d H) (.Compare a [.Eq] [b] pos) (eCmpI c false m ma mb) := sim_eqI F (fun _ _ => rfl) hK tk hr ha hb hm
theorem sim_teqA (F : MeA X.prog X.w X.K X.mg X.base B k c "__eq__" 1 [] [0, 1] [] 2 m) (hK : X.K = B.K) (tk : Takes X fun c d _ H => E c d H) (hr : Room k X.A) (ha : SimE X B N (fun c d _ H => E c d H) a ma) (hb : SimE X B N (fun c d _ H => E c d H) b mb) (hm : behindInMarks .Eq b = false) :
    SimT X B N (fun c d _ H => E c d H) (.Compare a [.Eq] [b] pos) (bM (eCmpI c false m ma mb)) := sim_teqI F (fun _ _ => rfl) hK tk hr ha hb hm
theorem sim_neA (F : MeN X.prog X.w X.K X.mg X.base B k c "__eq__" 1 [] [0, 1] [] 2 m) (nc : NeC X.K (B.cad c)) (hK : X.K = B.K) (tk : Takes X fun c d _ H => E c d H) (hr : Room k X.A) (ha : SimE X B N (fun c d _ H => E c d H) a ma) (hb : SimE X B N (fun c d _ H => E c d H) b mb) (hm : behindInMarks .NotEq b = false) :
    SimE X B N (fun c d _ H => E c d H) (.Compare a [.NotEq] [b] pos) (eCmpI c true m ma mb) :=
  let ⟨_, hj, F⟩ := F.ex
  sim_neI F (fun _ _ => rfl) nc hK tk (hr.mono hj) ha hb hm
theorem sim_tneA (F : MeN X.prog X.w X.K X.mg X.base B k c "__eq__" 1 [] [0, 1] [] 2 m) (nc : NeC X.K (B.cad c)) (hK : X.K = B.K) (tk : Takes X fun c d _ H => E c d H) (hr : Room k X.A) (ha : SimE X B N (fun c d _ H => E c d H) a ma) (hb : SimE X B N (fun c d _ H => E c d H) b mb) (hm : behindInMarks .NotEq b = false) :
    SimT X B N (fun c d _ H => E c d H) (.Compare a [.NotEq] [b] pos) (bM (eCmpI c true m ma mb)) :=
  let ⟨_, hj, F⟩ := F.ex
  sim_tneI F (fun _ _ => rfl) nc hK tk (hr.mono hj) ha hb hm
theorem sim_reprA {e : Expr} {ma' : MA} (F : MeN X.prog X.w X.K X.mg X.base B k c "__repr__" 0 [] [0] [] 1 m) (tk : Takes X fun c d _ H => E c d H) (hr : Room k X.A) (hgl : Gl X "repr") (hm : X.mg "repr" = none) (ha : SimA X B N (fun c d _ H => E c d H) [e] ma')
    (he : starEach [e] X.env = (false, eval e X.env) :: starEach [] X.env) (hpl : (backTo pos (starEach [] X.env)).any (·.1) = false) : SimE X B N (fun c d _ H => E c d H) (.Call (.Name "repr" p) [e] [] pos) (eRepr c m ma') :=
  let ⟨_, hj, F⟩ := F.ex
  sim_repr F (fun _ => rfl) tk (hr.mono hj) hgl hm ha he hpl
end
end Lp

set_option Elab.async false
set_option linter.all false
set_option maxRecDepth 100000
set_option maxHeartbeats 4000000
/-! Lq9: kept tuples; own ==, !=, repr; f-strings. -/
namespace Lp
open PySem PySem.Spec PyProof.Rows L2
@[irreducible] def xETCnt (m : ME) (ma : MA) : ME := eTCnt m ma
@[irreducible] def xSAsgD (i : Nat) (ma : MA) : MS := sAsgD i ma
@[irreducible] def xECmpI (c : Nat) (neg : Bool) (mf : MF) (a b : ME) : ME := eCmpI c neg mf a b
@[irreducible] def xERepr (c : Nat) (mf : MF) (ma : MA) : ME := eRepr c mf ma
@[irreducible] def xEFmt (m : ME) : ME := eFmt m
@[irreducible] def xEJ (ms : List ME) (acc : Str) : ME := eJ ms acc
section
variable {P : PV → S → Prop} {PF : Fl → S → Prop} {E : PV → S → Prop} {s : S} {m mo a b : ME} {ma mk : MA} {i c : Nat} {mf : MF} {neg : Bool} {ms : List ME} {acc : Str}
theorem p_tcnt (h : (m s).post (fun o s1 => ∃ ks, o = .don ks ∧ (ma s1).post (fun vs s2 => ∃ y ds d, vs = [y] ∧ (toDs (ks.map (·.1)) = some ds ∧ toD y = some d ∧ (dOk (.list ds) && dOk d) = true) ∧ P (.int ((ds.countP fun z => PyData.eqv z d : Nat) : Int)) s2) E) E) : (xETCnt m ma s).post P E := by
  unfold xETCnt eTCnt
  refine p_bind (p_mono h (fun v s1 ⟨ks, e, q⟩ => ?_) fun _ _ z => z)
  subst e
  refine p_bind (p_mono q (fun vs s2 ⟨y, ds, d, e, ⟨e1, e2, e3⟩, q⟩ => ?_) fun _ _ z => z)
  subst e
  simp only [e1, e2, if_pos e3]
  exact q
theorem p_asgD (h : (ma s).post (fun vs s1 => (allSh vs = true ∧ vs.length ≤ 16777216) ∧ PF .nx ⟨s1.e.set i (some (.don (vs.map fun v => (v, v)))), s1.h⟩) E) : (xSAsgD i ma s).post PF E := by
  unfold xSAsgD sAsgD
  exact p_bind (p_mono h (fun vs s1 ⟨⟨h1, h2⟩, q⟩ => by rw [h1, decide_eq_true h2]; exact q) fun _ _ z => z)
/-- of plain data -/
theorem p_cmpD (h : (a s).post (fun x s1 => (b s1).post (fun y s2 => clsOf s2.h x = none ∧ ∃ z, (if neg then fNe else fEq) s2.h x y = some z ∧ P z s2) E) E) : (xECmpI c neg mf a b s).post P E := by
  unfold xECmpI eCmpI
  exact p_bind (p_mono h (fun x s1 q => p_bind (p_mono q (fun y s2 ⟨e0, z, e, q⟩ => by simp only [e0, e]; exact q) fun _ _ z => z)) fun _ _ z => z)
/-- of instances -/
theorem p_cmpI (h : (a s).post (fun x s1 => (b s1).post (fun y s2 => (clsOf s2.h x = some c ∧ eqrB c s2.h y = true ∧ allSh [x, y] = true) ∧ (mf [x, y] s2.h).post (fun v h => ∃ k, v = .bl k ∧ P (.bl (if neg then !k else k)) ⟨s2.e, h⟩) (fun x h => E x ⟨s2.e, h⟩)) E) E) : (xECmpI c neg mf a b s).post P E := by
  unfold xECmpI eCmpI
  refine p_bind (p_mono h (fun x s1 q => p_bind (p_mono q (fun y s2 ⟨⟨e0, e1, e2⟩, q⟩ => ?_) fun _ _ z => z)) fun _ _ z => z)
  simp only [e0]
  rw [if_pos ⟨trivial, e1⟩]
  unfold eOwnC
  refine p_bind ?_
  have := p_callH (n := 2) (mf := mf) (vs := [x, y]) (s := s2) (P := fun v s1 => (match v with
    | .bl b => R.ok (PV.bl (if neg then !b else b)) s1
    | _ => R.bad : R S PV).post P E) (E := E) ⟨⟨rfl, e2⟩, p_mono q (fun v h ⟨k, e, q⟩ => by subst e; exact q) fun _ _ z => z⟩
  unfold xCallH at this
  exact this
theorem p_repr (h : (ma s).post (fun vs s1 => ∃ x, vs = [x] ∧ (clsOf s1.h x = some c ∧ allSh [x] = true) ∧ (mf [x] s1.h).post (fun v h => ∃ z, v = .str z ∧ P (.str z) ⟨s1.e, h⟩) (fun x h => E x ⟨s1.e, h⟩)) E) : (xERepr c mf ma s).post P E := by
  unfold xERepr eRepr
  refine p_bind (p_mono h (fun vs s1 ⟨x, e, ⟨e0, e1⟩, q⟩ => ?_) fun _ _ z => z)
  subst e
  simp only [e0, if_pos]
  refine p_bind ?_
  have := p_callH (n := 1) (mf := mf) (vs := [x]) (s := s1) (P := fun v s1 => (match v with
    | .str z => R.ok (PV.str z) s1
    | _ => R.bad : R S PV).post P E) (E := E) ⟨⟨rfl, e1⟩, p_mono q (fun v h ⟨k, e, q⟩ => by subst e; exact q) fun _ _ z => z⟩
  unfold xCallH at this
  exact this
theorem p_fmt (h : (m s).post (fun v s1 => ∃ z, v = .str z ∧ P (.str z) s1) E) : (xEFmt m s).post P E := by
  unfold xEFmt eFmt
  exact p_bind (p_mono h (fun v s1 ⟨z, e, q⟩ => by subst e; exact q) fun _ _ z => z)
theorem p_jnil (h : P (.str acc) s) : (xEJ [] acc s).post P E := by
  unfold xEJ eJ
  exact h
theorem p_jcons (h : (m s).post (fun v s1 => ∃ z, v = .str z ∧ acc.length + z.length ≤ sizeLine ∧ (xEJ ms (acc ++ z) s1).post P E) E) : (xEJ (m :: ms) acc s).post P E := by
  unfold xEJ
  rw [eJ]
  refine p_bind (p_mono h (fun v s1 ⟨z, e, e1, q⟩ => ?_) fun _ _ z => z)
  subst e
  unfold xEJ at q
  simp only [if_pos e1]
  exact q
end
end Lp

set_option Elab.async false
set_option linter.all false
set_option maxRecDepth 100000
set_option maxHeartbeats 4000000
/-! Lq10: sorted of data that are alike; loops over two items; tables. -/
namespace Lp
open PySem PySem.Spec PyProof.Rows L2
theorem sortP_eq {l s : List PV} (hp : l.Perm s) (hs : s.Pairwise (fun a b => leP a b = true)) (anti : ∀ a ∈ s, ∀ b ∈ s, leP a b = true → leP b a = true → a = b) : sortP l = s := by
  have p1 : (sortP l).Pairwise (fun a b => leP a b = true) := PySem.W.sort_pairwise (PySem.W.sortLe_total _ false _) l
  have p2 : (sortP l).Perm s := (List.mergeSort_perm l leP).trans hp
  exact List.Perm.eq_of_pairwise (fun a b ha hb h1 h2 => anti a (p2.subset ha) b hb h1 h2) p1 hs p2
theorem sortB_sub {D ds : List PyData} (hD : (alikeB D && (D.all tupB && D.all dOk)) = true) (hs : ∀ d ∈ ds, d ∈ D) (hl : ds.length ≤ 16777216) : sortB ds = true := by
  obtain ⟨h1, h2⟩ := Bool.and_eq_true_iff.mp hD
  obtain ⟨h2, h3⟩ := Bool.and_eq_true_iff.mp h2
  have a1 : alikeB ds = true := List.all_eq_true.mpr fun d hd => List.all_eq_true.mpr fun e he => List.all_eq_true.mp (List.all_eq_true.mp h1 d (hs d hd)) e (hs e he)
  have a2 : ds.all tupB = true := List.all_eq_true.mpr fun d hd => List.all_eq_true.mp h2 d (hs d hd)
  have a3 : ds.all dOk = true := List.all_eq_true.mpr fun d hd => List.all_eq_true.mp h3 d (hs d hd)
  unfold sortB
  rw [a1, a2, a3, decide_eq_true hl]
  rfl
theorem toDs_map {α : Type} (f : α → PV) (g : α → PyData) (h : ∀ a, toD (f a) = some (g a)) (l : List α) : toDs (l.map f) = some (l.map g) := by
  induction l with
  | nil => rfl
  | cons a l ih => rw [List.map_cons, toDs, h a, ih]; rfl
theorem bSort_of {h : AH} {x : PV} {xs : List PV} {ds : List PyData} (ha : asL h x = some xs) (hd : toDs xs = some ds) (hb : sortB ds = true) : bSort h [x] = some (.lst (sortP xs)) := by
  unfold bSort
  simp only [ha, hd, hb, if_pos]
section
variable {PF : Fl → S → Prop} {E : PV → S → Prop} {s : S} {x : MS} {t : Tg} {u v : PV} {o : Bool}
theorem p_loop2 (h : ∃ e1, bindT t u s.e = some e1 ∧ (x ⟨e1, s.h⟩).post (fun fl s1 => fl = .nx ∧ ∃ e2, bindT t v s1.e = some e2 ∧ (x ⟨e2, s1.h⟩).post (fun fl s2 => fl = .nx ∧ PF .nx s2) E) E) : (loopF ⟨[u, v], [], o⟩ t x [u, v] s).post PF E := by
  obtain ⟨e1, b1, q⟩ := h
  unfold loopF
  rw [if_pos still_nil, b1]
  refine p_bind (p_mono q (fun fl s1 ⟨hf, e2, b2, q2⟩ => ?_) fun _ _ z => z)
  subst hf
  show (loopF ⟨[u, v], [], o⟩ t x [v] s1).post PF E
  unfold loopF
  rw [if_pos still_nil, b2]
  refine p_bind (p_mono q2 (fun fl s2 ⟨hf, q3⟩ => ?_) fun _ _ z => z)
  subst hf
  show (loopF ⟨[u, v], [], o⟩ t x [] s2).post PF E
  unfold loopF
  rw [if_pos still_nil]
  exact q3
end
/-! tables of letters -/
def TrC (c : Nat) : Prop := c = 116 ∨ c = 114 ∨ c = 109
def TabC (cs : List Nat) (n : Nat) : Prop := cs.length = n ∧ cs.head? = some 116 ∧ ∀ c ∈ cs, TrC c
theorem app_get {h : AH} {x : Option Cell} : (h ++ [x])[h.length]? = some x := by simp
theorem app_set {h : AH} {x y : Option Cell} : (h ++ [x]).set h.length y = h ++ [y] := by simp
def LockS (l : Str) : Prop := l = "none" ∨ l = "one" ∨ l = "all"
/-- a way's parts -/
structure SpecW where
  d : List Nat
  n : List Nat
  s : Bool
  h : Bool
  l : Str
def SpecW.fs (p : SpecW) : List PV := [.str (mkS p.d), .str (mkS p.n), .bl p.s, .bl p.h, .str p.l]
def SpecW.v (p : SpecW) : PV := .tup p.fs
structure SpecW.Ok (p : SpecW) : Prop where
  d : TabC p.d 8
  n : TabC p.n 4
  l : LockS p.l
theorem tab_at {cs : List Nat} {n i : Nat} (t : TabC cs n) (h : i < n) : ∃ c, cs[i]? = some c ∧ TrC c := by
  have hl : i < cs.length := by rw [t.1]; exact h
  exact ⟨cs[i], List.getElem?_eq_getElem hl, t.2.2 _ (List.getElem_mem hl)⟩
/-- the word of a letter -/
def wordC (c : Nat) : Str := if c = 116 then "taken" else if c = 114 then "refused" else "made"
def ltr (cs : List Nat) (i : Nat) : Nat := (cs[i]?).getD 0
theorem ltr_at {cs : List Nat} {n i : Nat} (t : TabC cs n) (h : i < n) : cs[i]? = some (ltr cs i) ∧ TrC (ltr cs i) := by
  obtain ⟨c, e, k⟩ := tab_at t h
  unfold ltr
  rw [e]
  exact ⟨rfl, k⟩
theorem wordC_inj {a b : Nat} (ha : TrC a) (hb : TrC b) : decide (wordC a = wordC b) = decide (a = b) := by
  rcases ha with rfl | rfl | rfl <;> rcases hb with rfl | rfl | rfl <;> decide +kernel
theorem atI_nt {α : Type} {xs : List α} {i : Nat} {x : α} (e : xs[i]? = some x) : atI xs (i : Int) = some x := by
  have hl := (List.getElem?_eq_some_iff.mp e).1
  unfold atI ixN
  rw [if_pos (by omega), if_pos (by omega)]
  exact e
end Lp
namespace Lp
open PySem PySem.Spec PyProof.Rows L2
section
variable {PF : Fl → S → Prop} {PA : List PV → S → Prop} {P : PV → S → Prop} {E : PV → S → Prop} {s : S} {x : MS} {i : Nat} {o : Bool} {m : ME}
theorem p_appN {x0 : List PV} (h0 : s.e[i]? = some (some (.own x0))) (h : (m s).post (fun v s1 => ∃ xs, s1.e[i]? = some (some (.own xs)) ∧ (isOwn v = false ∧ xs.length < 16384) ∧ PF .nx ⟨s1.e.set i (some (.own (xs ++ [v]))), s1.h⟩) E) : (sAppN i m s).post PF E := by
  unfold sAppN
  have z : ∀ (e : List (Option PV)) (xs : List PV), e[i]? = some (some (.own xs)) → ownAt e i = some xs := fun e xs q => by unfold ownAt; rw [q]
  rw [z _ _ h0]
  refine p_bind (p_mono h (fun v s1 ⟨xs, e, ⟨e1, e2⟩, q⟩ => ?_) fun _ _ z => z)
  rw [z _ _ e]
  have k : addL xs v = some (xs ++ [v]) := by
    unfold addL
    have e3 := (show 16384 ≤ sizeLine by decide)
    rw [if_neg]
    rintro (w | w)
    · rw [e1] at w; cases w
    · omega
  simp only [k]
  exact q
theorem p_loopB {Z : Type} (n : Nat) (mk : List PV → Z → S) (g : Bool → List PV) {L0 : List PV} {z0 : Z} (hb : ∀ (b : Bool) (L : List PV) (z : Z), L.length ≤ n → ∃ e1, bindT (.n i) (.bl b) (mk L z).e = some e1 ∧ (x ⟨e1, (mk L z).h⟩).post (fun fl s' => fl = .nx ∧ ∃ z', s' = mk (L ++ g b) z') E) (h0 : L0.length + (g false).length ≤ n) (hn : ∀ z, PF .nx (mk (L0 ++ (g false ++ g true)) z)) :
    (loopF ⟨[.bl false, .bl true], [], o⟩ (.n i) x [.bl false, .bl true] (mk L0 z0)).post PF E := p_loop2 (by
  obtain ⟨e1, b1, q⟩ := hb false L0 z0 (by omega)
  refine ⟨e1, b1, p_mono q (fun fl s1 ⟨hf, z1, es⟩ => ?_) fun _ _ z => z⟩
  subst es
  refine ⟨hf, ?_⟩
  obtain ⟨e2, b2, q2⟩ := hb true (L0 ++ g false) z1 (by rw [List.length_append]; exact h0)
  exact ⟨e2, b2, p_mono q2 (fun fl s2 ⟨hf, z2, es⟩ => by subst es; rw [List.append_assoc]; exact ⟨hf, hn z2⟩) fun _ _ z => z⟩)
/-- a comprehension that keeps items -/
theorem p_compFil {α : Type} {src : S → R S Sr} {t : Tg} {tt : S → R S Bool} {te : ME} {vs : List Nat}
    (h : (src s).post (fun r s1 => r.w = [] ∧ ∃ (rs : List α) (f : α → PV) (c : α → Bool), r.xs = rs.map f ∧ (∀ a ∈ rs, isOwn (f a) = false ∧ ∃ e1, bindT t (f a) (wipeE s1.e vs) = some e1 ∧ (tt ⟨e1, s1.h⟩).post (fun k s2 => k = c a ∧ (te s2).post (fun y s3 => y = f a ∧ wipeE s3.e vs = wipeE s1.e vs ∧ s3.h = s1.h) NE ∧ wipeE s2.e vs = wipeE s1.e vs ∧ s2.h = s1.h) NE) ∧ PA ((rs.filter c).map f) ⟨wipeE s1.e vs, s1.h⟩) E) :
    (xECompN src t tt te vs s).post PA E := by
  refine p_compN (p_mono h (fun r s1 ⟨hw, rs, f, c, hx, hs, hn⟩ => ⟨hw, fun j acc h => acc = ((rs.take j).filter c).map f ∧ h = s1.h, ⟨rfl, rfl⟩, fun j v acc h e ⟨i1, i2⟩ => ?_, fun acc h ⟨i1, i2⟩ => ?_⟩) fun _ _ z => z)
  · subst i2
    rw [hx, List.getElem?_map] at e
    cases ea : rs[j]? with
    | none => rw [ea] at e; cases e
    | some a =>
      rw [ea] at e
      cases e
      obtain ⟨o, e1, eb, q⟩ := hs a (List.mem_of_getElem? ea)
      refine ⟨e1, eb, p_mono q (fun k s2 ⟨hk, q2, w, eh⟩ => ?_) fun _ _ z => z⟩
      subst hk
      have tk := take_step ea
      cases hc : c a with
      | true =>
        refine p_brt rfl (p_mono q2 (fun y s3 ⟨ey, w3, e3⟩ => ?_) fun _ _ z => z)
        subst ey
        refine ⟨o, w3, ?_, e3⟩
        rw [tk, List.filter_append, List.map_append, i1]
        simp [hc]
      | false =>
        refine p_brf rfl ⟨w, ?_, eh⟩
        rw [tk, List.filter_append, List.map_append, i1]
        simp [hc]
  · rw [i1, i2, hx, List.length_map, List.take_length]; exact hn
/-- a if a is not None else m -/
theorem p_pick {ov : Option PV} (e : s.e[i]? = some (some (ov.getD .non))) (hv : ∀ v, ov = some v → isNon v = false) (h : match ov with
    | none => (m s).post P E
    | some v => P v s) : (xIfM (xBM (xEBin fIsN (xEVar i) (xEC .non))) m (xEVar i) s).post P E := by
  cases ov with
  | none => exact p_ifM (p_bM (p_bin (p_var e (p_c ⟨_, rfl, _, rfl, p_brt rfl h⟩))))
  | some v => exact p_ifM (p_bM (p_bin (p_var e (p_c ⟨_, rfl, _, rfl, p_brf (hv v rfl) (p_var e h)⟩))))
end
theorem depthAll_le {n : Nat} : ∀ {ds : List PyData}, (∀ d ∈ ds, d.depth ≤ n) → PyData.depthAll ds ≤ n
  | [], _ => by simp [PyData.depthAll]
  | d :: ds, h => by
    have h1 := h d (by simp)
    have h2 := depthAll_le (ds := ds) fun e he => h e (by simp [he])
    simp only [PyData.depthAll]
    omega
theorem dOk_list {ds : List PyData} {n : Nat} (h : ∀ d ∈ ds, d.depth ≤ n) (hn : n ≤ 60) : dOk (.list ds) = true := by
  have := depthAll_le h
  unfold dOk
  refine decide_eq_true ?_
  simp only [PyData.depth]
  omega
theorem fNe_nil {h : AH} {x : PV} {xs : List PV} {ds : List PyData} {n : Nat} (hx : toDh h x = (toDs xs).map .list) (hd : toDs xs = some ds) (hz : ∀ d ∈ ds, d.depth ≤ n) (hn : n ≤ 60) : fNe h x (.lst []) = some (.bl (!ds.isEmpty)) := by
  unfold fNe
  have e2 : toDh h (.lst []) = some (.list []) := rfl
  rw [hx, hd, e2]
  show (if dOk (.list ds) && dOk (.list []) then _ else _) = _
  rw [dOk_list hz hn]
  cases ds with
  | nil => rfl
  | cons d ds => rfl
end Lp
namespace Lp
open PySem PySem.Spec PyProof.Rows L2
@[irreducible] def xSParN (i j : Nat) (a : ME) (mn : S → R S (List PV)) : MS := sParN i j a mn
theorem p_parN {PF : Fl → S → Prop} {E : PV → S → Prop} {s : S} {i j : Nat} {a : ME} {mn : S → R S (List PV)} (h : (a s).post (fun v s1 => (mn s1).post (fun xs s2 => isOwn v = false ∧ PF .nx ⟨(s2.e.set i (some v)).set j (some (.own xs)), s2.h⟩) E) E) : (xSParN i j a mn s).post PF E := by
  unfold xSParN sParN
  exact p_bind (p_mono h (fun v s1 q => p_bind (p_mono q (fun xs s2 ⟨e, q⟩ => by rw [e]; exact q) fun _ _ z => z)) fun _ _ z => z)
end Lp
namespace Lp
open PySem PySem.Spec PyProof.Rows L2
theorem p_pickF {α : Type} {P : PV → S → Prop} {E : PV → S → Prop} {s : S} {i : Nat} {m : ME} {o : Option α} {f : α → PV} {d : α} (e : s.e[i]? = some (some ((o.map f).getD .non))) (hv : ∀ a, isNon (f a) = false) (hm : P (f d) s → (m s).post P E) (h : P (f (o.getD d)) s) : (xIfM (xBM (xEBin fIsN (xEVar i) (xEC .non))) m (xEVar i) s).post P E := by
  refine p_pick e (fun v hv' => ?_) ?_
  · cases o with
    | none => cases hv'
    | some a => cases hv'; exact hv a
  · cases o with
    | none => exact hm h
    | some a => exact h
end Lp
namespace Lp
open PySem PySem.Spec PyProof.Rows L2
theorem p_split2 {PF : Fl → S → Prop} {E : PV → S → Prop} {s : S} {x y z : MS} (Q : S → Prop) (h1 : (x s).post (fun fl s1 => fl = .nx ∧ (y s1).post (fun fl s2 => fl = .nx ∧ Q s2) E) E) (h2 : ∀ s', Q s' → (z s').post PF E) : (xSSeq x (xSSeq y z) s).post PF E :=
  p_seq (p_mono h1 (fun fl s1 ⟨e, q⟩ => by
    subst e
    exact p_seq (p_mono q (fun fl s2 ⟨e, q⟩ => by subst e; exact h2 s2 q) fun _ _ z => z)) fun _ _ z => z)
def mix (cs ds : List Nat) (i : Nat) : List Nat := cs.take i ++ [ltr ds i] ++ cs.drop (i + 1)
theorem mix_tab {cs ds : List Nat} {n i : Nat} (t : TabC cs n) (u : TabC ds n) (h0 : 1 ≤ i) (hi : i < n) : TabC (mix cs ds i) n := by
  refine ⟨?_, ?_, fun c hc => ?_⟩
  · unfold mix
    simp only [List.length_append, List.length_take, List.length_drop, List.length_singleton, t.1]
    omega
  · unfold mix
    cases cs with
    | nil => have := t.2.1; cases this
    | cons c cs =>
      have h1 := t.2.1
      obtain ⟨k, rfl⟩ : ∃ k, i = k + 1 := ⟨i - 1, by omega⟩
      rw [List.take_succ_cons]
      exact h1
  · unfold mix at hc
    rcases List.mem_append.mp hc with hc | hc
    · rcases List.mem_append.mp hc with hc | hc
      · exact t.2.2 c (List.mem_of_mem_take hc)
      · simp only [List.mem_singleton] at hc
        subst hc
        exact (ltr_at u hi).2
    · exact t.2.2 c (List.mem_of_mem_drop hc)
theorem fix_tab {cs : List Nat} {h : AH} {n i : Nat} (t : TabC cs n) (hi : i < n) : fIx h (.str (mkS cs)) (.int i) = some (.str (mkS [ltr cs i])) := by
  rw [fIx_str, mkS_cps, atI_nt (ltr_at t hi).1]; rfl
/-- x[:at] + y[at] + x[at + 1:] -/
theorem p_mix {P : PV → S → Prop} {E : PV → S → Prop} {s : S} {a b c q : Nat} {cs ds : List Nat} {n i : Nat} {va vb : PV} (ha : s.e[a]? = some (some va)) (hb : s.e[b]? = some (some vb)) (hc : s.e[c]? = some (some (.int i))) (ka : ∀ h, fIx h va (.int q) = some (.str (mkS cs))) (kb : ∀ h, fIx h vb (.int q) = some (.str (mkS ds)))
    (t : TabC cs n) (u : TabC ds n) (hi : i < n) (hn : n ≤ 1000) (h : P (.str (mkS (mix cs ds i))) s) :
    (xEBin fAdd (xEBin fAdd (xESl (xEBin fIx (xEVar a) (xEC (.int q))) xONone (xOSome (xEVar c))) (xEBin fIx (xEBin fIx (xEVar b) (xEC (.int q))) (xEVar c))) (xESl (xEBin fIx (xEVar a) (xEC (.int q))) (xOSome (xEBin fAdd (xEVar c) (xEC (.int 1)))) xONone) s).post P E := by
  have hl := t.1
  have hz := (show 2000 ≤ sizeLine by decide)
  have e1 : fSl s.h (.str (mkS cs)) none (some (i : Int)) = some (.str (mkS (cs.take i))) := by
    rw [fSl_str, cut_to (by omega) (by omega)]; rfl
  have e2 : fSl s.h (.str (mkS cs)) (some ((i : Int) + 1)) none = some (.str (mkS (cs.drop (i + 1)))) := by
    rw [fSl_str, cut_from (by omega) (by omega)]
    have : ((i : Int) + 1).toNat = i + 1 := by omega
    rw [this]
  refine p_bin (p_bin (p_sl (p_bin (p_var ha (p_c ⟨_, ka _, p_onone (p_osome (p_var hc ⟨_, rfl, _, e1, ?_⟩))⟩)))))
  refine p_bin (p_bin (p_var hb (p_c ⟨_, kb _, p_var hc ⟨_, fix_tab u hi, _, fAdd_mk (by rw [List.length_take]; show _ + 1 ≤ _; omega), ?_⟩⟩)))
  refine p_sl (p_bin (p_var ha (p_c ⟨_, ka _, p_osome (p_bin (p_var hc (p_c ⟨_, rfl, _, rfl, p_onone ⟨_, e2, _, fAdd_mk (by rw [List.length_append, List.length_take, List.length_drop]; show _ + 1 + _ ≤ _; omega), h⟩⟩)))⟩)))
end Lp

set_option Elab.async false
set_option linter.all false
set_option maxRecDepth 100000
set_option maxHeartbeats 4000000
namespace LW
open PySem PySem.Spec PyProof.Rows L2 Lp LamX NdefX
abbrev Rw : PySem.W.OpenRow := PySem.W.OpenLaw.row PySem.Challenge.rw_latedrops_k04_ways_told
abbrev Pg : Program := PySem.Challenge.pw_latedrops_k04_ways_told
def top (i : Nat) : Stmt := PySem.Challenge.pw_latedrops_k04_ways_told.main.body.getD i (.Pass ⟨0, 0, 0, 0⟩)
structure Gm (mg : Str → Option Value) : Prop where
  triv : True
  n_all : mg "all" = none
  n_bool : mg "bool" = none
  n_int : mg "int" = none
  n_isinstance : mg "isinstance" = none
  n_len : mg "len" = none
  n_list : mg "list" = none
  n_range : mg "range" = none
  n_repr : mg "repr" = none
  n_str : mg "str" = none
  n_tuple : mg "tuple" = none
  n_zip : mg "zip" = none
/-! classes -/
def xfl : FL := fun c => match c with
  | _ => []
def ifl : FL := fun c => match c with
  | 0 => ["drops", "numbers", "stretches", "hidden", "lock"]
  | _ => []
def fldT : FL := fun c => match c with
  | 0 => ["drops", "numbers", "stretches", "hidden", "lock"]
  | _ => []
abbrev cn_Way : Nat := 0
def okc : Nat → Bool := fun c => decide (c < 0)
def kv_WORDS : List (Str × Str) := [("t", "taken"), ("r", "refused"), ("m", "made")]
structure Km (w : World) (K : PySem.W.Frag) (B : Bs) (mg : Str → Option Value) : Prop where
  CF : ClsF K B ifl
  cm_Way : ClM K B cn_Way ["drop_answer", "number_answer", "but", "text", "__eq__", "__repr__"]
  n_Way : mg "Way" = some (.ref (B.cad cn_Way))
  is_Way : ClsI K (B.cad cn_Way)
  ne_Way : NeC K (B.cad cn_Way)
  d_WORDS : DicC K w mg "WORDS" kv_WORDS
  t_Way_ANSWERS : CTup K (B.cad cn_Way) "ANSWERS" [.str "taken", .str "refused", .str "made"]
  t_Way_LOCKS : CTup K (B.cad cn_Way) "LOCKS" [.str "none", .str "one", .str "all"]

/-! is_table -/
abbrev st_is_table : Stmt := (top 7)
def nm_is_table : List Str := ["value", "many", "letter"]
theorem sc_is_table : FnScope nm_is_table ["value", "many"] (defScope st_is_table) := ⟨rfl, rfl, rfl, by decide +kernel, rfl, by decide +kernel, by decide +kernel⟩
noncomputable def mb_is_table : MS := (sSeq (sIf (orM (notM (tM (eCB bIsi (aCons (eVar 0) (aCons (eC (.ty "str")) aNil))))) (orM (bM (eBin fNe (eCB bLen (aCons (eVar 0) aNil)) (eVar 1))) (bM (eBin fNe (eBin fIx (eVar 0) (eC (.int 0))) (eC (.str "t")))))) (sRet (eC (.bl false))) sNil)
  (sRet (eCB bAll (aCons (shN (eCompN (sAny (eVar 0)) (.n 2) testY (eInD false kv_WORDS (eVar 2)) [2])) aNil))))
noncomputable def xb_is_table : MS := (xSSeq (xSIf (xOrM (xNotM (xTM (xECB bIsi (xACons (xEVar 0) (xACons (xEC (.ty "str")) xANil))))) (xOrM (xBM (xEBin fNe (xECB bLen (xACons (xEVar 0) xANil)) (xEVar 1))) (xBM (xEBin fNe (xEBin fIx (xEVar 0) (xEC (.int 0))) (xEC (.str "t")))))) (xSRet (xEC (.bl false))) xSNil)
  (xSRet (xECB bAll (xACons (xShN (xECompN (xSAny (xEVar 0)) (.n 2) testY (xEInD false kv_WORDS (xEVar 2)) [2])) xANil))))
theorem xe_is_table : mb_is_table = xb_is_table := by kernel_rfl
@[irreducible] noncomputable def m_is_table : MF := mkF 1 mb_is_table
theorem b_is_table {P : Program} {w : World} {K : PySem.W.Frag} {mg : Str → Option Value} {base : Heap} {B : Bs} {f : Addr} {cdv : Value} {A : Around} {outer : List Env} {s : Shared} {H : Hp} {E : XK} {k : Nat} {N : Ent} (hK : K = B.K) (g : Gm mg) (κ : Km w K B mg)
    (D : Bdy (cxOf (L2.CX P w) P w K mg base nm_is_table "is_table" (defScope st_is_table) f cdv A outer s H E) E k)   :
    SimSs (cxOf (L2.CX P w) P w K mg base nm_is_table "is_table" (defScope st_is_table) f cdv A outer s H E) B N (fun c d _ H => E c d H) (defBody st_is_table) (mb_is_table) :=
  (simss_cons (sims_if (sim_tbool (simw_or (sim_tnot (sim_truth hK (sim_bi (bi_isi hK) rfl g.n_isinstance (simA_cons (sim_var (i := 0) rfl (.inl rfl) rfl rfl) (simA_cons (sim_ty rfl g.n_str PyProof.Rows.boot_str (by decide) rfl) simA_nil rfl) rfl) (by decide) rfl rfl rfl) (fun _ => rfl))) (simw_or (sim_tcm (co_ne hK D.rm.u9) (sim_bi (bi_len hK) rfl g.n_len (simA_cons (sim_var (i := 0) rfl (.inl rfl) rfl rfl) simA_nil rfl) (by decide) rfl rfl rfl) (sim_var (i := 1) rfl (.inl rfl) rfl rfl) rfl) (simw_or1 (sim_tcm (co_ne hK D.rm.u9) (sim_ix hK (sim_var (i := 0) rfl (.inl rfl) rfl rfl) sim_int (fun _ _ => rfl)) (sim_str (sok_of (by decide +kernel))) rfl))))) (simss_one (sims_ret sim_bl)) simss_nil)
  (simss_one (sims_ret (sim_bi (bi_all hK rfl) rfl g.n_all (simA_cons (SimN.sh (sim_lc (own := [("letter", 2)]) hK rfl sc_is_table.nd (sim_any hK (sim_var (i := 0) rfl (.inl rfl) rfl rfl)) (blk_of (by kernel_rfl)) (by decide) (fun _ _ _ _ _ => (pgT_n (pg_name sc_is_table.nd rfl (.inl rfl) (.inr rfl)))) (fun _ _ _ _ _ => simTs_nil) (fun _ _ _ _ _ => (sim_inD κ.d_WORDS rfl (sim_var (i := 2) rfl (.inl rfl) rfl rfl) rfl rfl)) (fun _ => rfl))) simA_nil rfl) (by decide) rfl rfl rfl))))

/-! Way.__init__ -/
abbrev st_Way___init__ : Stmt := ((clsB (top 8)).getD 2 (.Pass ⟨0, 0, 0, 0⟩))
def nm_Way___init__ : List Str := ["self", "drops", "numbers", "stretches", "hidden", "lock", "value", "many", "word"]
theorem sc_Way___init__ : FnScope nm_Way___init__ ["self", "drops", "numbers", "stretches", "hidden", "lock"] (defScope st_Way___init__) := ⟨rfl, rfl, rfl, by decide +kernel, rfl, by decide +kernel, by decide +kernel⟩
noncomputable def mb_Way___init__ : MS := (sSeq (sFor (sAny (eTup (aCons (eTup (aCons (eVar 1) (aCons (eC (.int 8)) aNil))) (aCons (eTup (aCons (eVar 2) (aCons (eC (.int 4)) aNil))) aNil)))) (.t [(.n 6), (.n 7)]) (sIf (notM (tM (eCall 2 m_is_table (aCons (eVar 6) (aCons (eVar 7) aNil))))) sBad sNil))
  (sSeq (sFor (sAny (eTup (aCons (eTup (aCons (eC (.str "stretches")) (aCons (eVar 3) aNil))) (aCons (eTup (aCons (eC (.str "hidden")) (aCons (eVar 4) aNil))) aNil)))) (.t [(.n 8), (.n 6)]) (sIf (notM (tM (eCB bIsi (aCons (eVar 6) (aCons (eC (.ty "bool")) aNil))))) sBad sNil))
  (sSeq (sIf (orM (notM (tM (eCB bIsi (aCons (eVar 5) (aCons (eC (.ty "str")) aNil))))) (bM (eBin fNin (eVar 5) (eC (.tup [.str "none", .str "one", .str "all"]))))) sBad sNil)
  (sSeq (sFldT ifl 0 ["drops", "numbers"] (eTup (aCons (eVar 1) (aCons (eVar 2) aNil))))
  (sFldT ifl 0 ["stretches", "hidden", "lock"] (eTup (aCons (eVar 3) (aCons (eVar 4) (aCons (eVar 5) aNil)))))))))
noncomputable def xb_Way___init__ : MS := (xSSeq (xSFor (xSAny (xETup (xACons (xETup (xACons (xEVar 1) (xACons (xEC (.int 8)) xANil))) (xACons (xETup (xACons (xEVar 2) (xACons (xEC (.int 4)) xANil))) xANil)))) (.t [(.n 6), (.n 7)]) (xSIf (xNotM (xTM (xECall 2 m_is_table (xACons (xEVar 6) (xACons (xEVar 7) xANil))))) sBad xSNil))
  (xSSeq (xSFor (xSAny (xETup (xACons (xETup (xACons (xEC (.str "stretches")) (xACons (xEVar 3) xANil))) (xACons (xETup (xACons (xEC (.str "hidden")) (xACons (xEVar 4) xANil))) xANil)))) (.t [(.n 8), (.n 6)]) (xSIf (xNotM (xTM (xECB bIsi (xACons (xEVar 6) (xACons (xEC (.ty "bool")) xANil))))) sBad xSNil))
  (xSSeq (xSIf (xOrM (xNotM (xTM (xECB bIsi (xACons (xEVar 5) (xACons (xEC (.ty "str")) xANil))))) (xBM (xEBin fNin (xEVar 5) (xEC (.tup [.str "none", .str "one", .str "all"]))))) sBad xSNil)
  (xSSeq (xSFldT ifl 0 ["drops", "numbers"] (xETup (xACons (xEVar 1) (xACons (xEVar 2) xANil))))
  (xSFldT ifl 0 ["stretches", "hidden", "lock"] (xETup (xACons (xEVar 3) (xACons (xEVar 4) (xACons (xEVar 5) xANil)))))))))
theorem xe_Way___init__ : mb_Way___init__ = xb_Way___init__ := by kernel_rfl
@[irreducible] noncomputable def m_Way___init__ : MF := mkF 3 mb_Way___init__
theorem b_Way___init__ {P : Program} {w : World} {K : PySem.W.Frag} {mg : Str → Option Value} {base : Heap} {B : Bs} {f : Addr} {cdv : Value} {A : Around} {outer : List Env} {s : Shared} {H : Hp} {E : XK} {k : Nat} {N : Ent} (hK : K = B.K) (g : Gm mg) (κ : Km w K B mg)
    (D : Bdy (cxOf (L2.CX P w) P w K mg base nm_Way___init__ "Way.__init__" (defScope st_Way___init__) f cdv A outer s H E) E k)  (F_is_table : Fn P w K mg base B k "is_table" 2 m_is_table) :
    SimSs (cxOf (L2.CX P w) P w K mg base nm_Way___init__ "Way.__init__" (defScope st_Way___init__) f cdv A outer s H E) B N (fun c d _ H => E c d H) (defBody st_Way___init__) (mb_Way___init__) :=
  (simss_cons (sims_for D.pa hK rfl (sim_any hK (sim_tup (simA_cons (sim_tup (simA_cons (sim_var (i := 1) rfl (.inl rfl) rfl rfl) (simA_cons sim_int simA_nil rfl) rfl)) (simA_cons (sim_tup (simA_cons (sim_var (i := 2) rfl (.inl rfl) rfl rfl) (simA_cons sim_int simA_nil rfl) rfl)) simA_nil rfl) rfl))) (pgT_t rfl (pgTs_cons (pgT_n (pg_name sc_Way___init__.nd rfl (.inl rfl) (.inl rfl))) (pgTs_cons (pgT_n (pg_name sc_Way___init__.nd rfl (.inl rfl) (.inl rfl))) pgTs_nil rfl) rfl) rfl rfl) (fun _ => (simss_one (sims_if (sim_tnot (sim_truth hK (sim_call F_is_table D.tk D.rm rfl (simA_cons (sim_var (i := 6) rfl (.inl rfl) rfl rfl) (simA_cons (sim_var (i := 7) rfl (.inl rfl) rfl rfl) simA_nil rfl) rfl) rfl rfl rfl) (fun _ => rfl))) (simss_one sims_bad) simss_nil))) (fun _ => rfl))
  (simss_cons (sims_for D.pa hK rfl (sim_any hK (sim_tup (simA_cons (sim_tup (simA_cons (sim_str (sok_of (by decide +kernel))) (simA_cons (sim_var (i := 3) rfl (.inl rfl) rfl rfl) simA_nil rfl) rfl)) (simA_cons (sim_tup (simA_cons (sim_str (sok_of (by decide +kernel))) (simA_cons (sim_var (i := 4) rfl (.inl rfl) rfl rfl) simA_nil rfl) rfl)) simA_nil rfl) rfl))) (pgT_t rfl (pgTs_cons (pgT_n (pg_name sc_Way___init__.nd rfl (.inl rfl) (.inl rfl))) (pgTs_cons (pgT_n (pg_name sc_Way___init__.nd rfl (.inl rfl) (.inl rfl))) pgTs_nil rfl) rfl) rfl rfl) (fun _ => (simss_one (sims_if (sim_tnot (sim_truth hK (sim_bi (bi_isi hK) rfl g.n_isinstance (simA_cons (sim_var (i := 6) rfl (.inl rfl) rfl rfl) (simA_cons (sim_ty rfl g.n_bool PyProof.Rows.boot_bool (by decide) rfl) simA_nil rfl) rfl) (by decide) rfl rfl rfl) (fun _ => rfl))) (simss_one sims_bad) simss_nil))) (fun _ => rfl))
  (simss_cons (sims_if (sim_tbool (simw_or (sim_tnot (sim_truth hK (sim_bi (bi_isi hK) rfl g.n_isinstance (simA_cons (sim_var (i := 5) rfl (.inl rfl) rfl rfl) (simA_cons (sim_ty rfl g.n_str PyProof.Rows.boot_str (by decide) rfl) simA_nil rfl) rfl) (by decide) rfl rfl rfl) (fun _ => rfl))) (simw_or1 (sim_tcm (co_nin hK D.rm.u9) (sim_var (i := 5) rfl (.inl rfl) rfl rfl) (sim_ctup hK κ.t_Way_LOCKS rfl κ.n_Way (fun _ => (.cons (.str _ (sok_of (by decide +kernel))) (.cons (.str _ (sok_of (by decide +kernel))) (.cons (.str _ (sok_of (by decide +kernel))) .nil)))) rfl rfl) rfl)))) (simss_one sims_bad) simss_nil)
  (simss_cons (sims_fldT κ.CF hK rfl (sim_tup (simA_cons (sim_var (i := 1) rfl (.inl rfl) rfl rfl) (simA_cons (sim_var (i := 2) rfl (.inl rfl) rfl rfl) simA_nil rfl) rfl)) (gFlds_cons rfl (.inl rfl) (gFlds_cons rfl (.inl rfl) gFlds_nil (fun _ => rfl) rfl rfl rfl) (fun _ => rfl) rfl rfl rfl) rfl rfl rfl rfl rfl)
  (simss_one (sims_fldT κ.CF hK rfl (sim_tup (simA_cons (sim_var (i := 3) rfl (.inl rfl) rfl rfl) (simA_cons (sim_var (i := 4) rfl (.inl rfl) rfl rfl) (simA_cons (sim_var (i := 5) rfl (.inl rfl) rfl rfl) simA_nil rfl) rfl) rfl)) (gFlds_cons rfl (.inl rfl) (gFlds_cons rfl (.inl rfl) (gFlds_cons rfl (.inl rfl) gFlds_nil (fun _ => rfl) rfl rfl rfl) (fun _ => rfl) rfl rfl rfl) (fun _ => rfl) rfl rfl rfl) rfl rfl rfl rfl rfl))))))

/-! Way.drop_answer -/
abbrev st_Way_drop_answer : Stmt := ((clsB (top 8)).getD 3 (.Pass ⟨0, 0, 0, 0⟩))
def nm_Way_drop_answer : List Str := ["self", "elder", "again", "apart"]
theorem sc_Way_drop_answer : FnScope nm_Way_drop_answer ["self", "elder", "again", "apart"] (defScope st_Way_drop_answer) := ⟨rfl, rfl, rfl, by decide +kernel, rfl, by decide +kernel, by decide +kernel⟩
noncomputable def mb_Way_drop_answer : MS := (sRet (eIxD kv_WORDS (eBin fIx (eFld ifl "drops" (eVar 0)) (eBin fAdd (eBin fAdd (eBin fMul (eC (.int 4)) (eCB bInt (aCons (eVar 1) aNil))) (eBin fMul (eC (.int 2)) (eCB bInt (aCons (eVar 2) aNil)))) (eCB bInt (aCons (eVar 3) aNil))))))
noncomputable def xb_Way_drop_answer : MS := (xSRet (xEIxD kv_WORDS (xEBin fIx (xEFld ifl "drops" (xEVar 0)) (xEBin fAdd (xEBin fAdd (xEBin fMul (xEC (.int 4)) (xECB bInt (xACons (xEVar 1) xANil))) (xEBin fMul (xEC (.int 2)) (xECB bInt (xACons (xEVar 2) xANil)))) (xECB bInt (xACons (xEVar 3) xANil))))))
theorem xe_Way_drop_answer : mb_Way_drop_answer = xb_Way_drop_answer := by kernel_rfl
@[irreducible] noncomputable def m_Way_drop_answer : MF := mkF 0 mb_Way_drop_answer
theorem b_Way_drop_answer {P : Program} {w : World} {K : PySem.W.Frag} {mg : Str → Option Value} {base : Heap} {B : Bs} {f : Addr} {cdv : Value} {A : Around} {outer : List Env} {s : Shared} {H : Hp} {E : XK} {k : Nat} {N : Ent} (hK : K = B.K) (g : Gm mg) (κ : Km w K B mg)
    (D : Bdy (cxOf (L2.CX P w) P w K mg base nm_Way_drop_answer "Way.drop_answer" (defScope st_Way_drop_answer) f cdv A outer s H E) E k)   :
    SimSs (cxOf (L2.CX P w) P w K mg base nm_Way_drop_answer "Way.drop_answer" (defScope st_Way_drop_answer) f cdv A outer s H E) B N (fun c d _ H => E c d H) (defBody st_Way_drop_answer) (mb_Way_drop_answer) :=
  (simss_one (sims_ret (sim_ixD κ.d_WORDS rfl (sim_ix hK (sim_fld κ.CF (sim_var (i := 0) rfl (.inl rfl) rfl rfl) rfl) (sim_add hK (sim_add hK (sim_mul hK sim_int (sim_bi (bi_int) rfl g.n_int (simA_cons (sim_var (i := 1) rfl (.inl rfl) rfl rfl) simA_nil rfl) (by decide) rfl rfl rfl)) (sim_mul hK sim_int (sim_bi (bi_int) rfl g.n_int (simA_cons (sim_var (i := 2) rfl (.inl rfl) rfl rfl) simA_nil rfl) (by decide) rfl rfl rfl))) (sim_bi (bi_int) rfl g.n_int (simA_cons (sim_var (i := 3) rfl (.inl rfl) rfl rfl) simA_nil rfl) (by decide) rfl rfl rfl)) (fun _ _ => rfl)) (sok_all (by decide +kernel)) rfl (fun _ _ => rfl))))

/-! Way.number_answer -/
abbrev st_Way_number_answer : Stmt := ((clsB (top 8)).getD 4 (.Pass ⟨0, 0, 0, 0⟩))
def nm_Way_number_answer : List Str := ["self", "elder", "dropped"]
theorem sc_Way_number_answer : FnScope nm_Way_number_answer ["self", "elder", "dropped"] (defScope st_Way_number_answer) := ⟨rfl, rfl, rfl, by decide +kernel, rfl, by decide +kernel, by decide +kernel⟩
noncomputable def mb_Way_number_answer : MS := (sRet (eIxD kv_WORDS (eBin fIx (eFld ifl "numbers" (eVar 0)) (eBin fAdd (eBin fMul (eC (.int 2)) (eCB bInt (aCons (eVar 1) aNil))) (eCB bInt (aCons (eVar 2) aNil))))))
noncomputable def xb_Way_number_answer : MS := (xSRet (xEIxD kv_WORDS (xEBin fIx (xEFld ifl "numbers" (xEVar 0)) (xEBin fAdd (xEBin fMul (xEC (.int 2)) (xECB bInt (xACons (xEVar 1) xANil))) (xECB bInt (xACons (xEVar 2) xANil))))))
theorem xe_Way_number_answer : mb_Way_number_answer = xb_Way_number_answer := by kernel_rfl
@[irreducible] noncomputable def m_Way_number_answer : MF := mkF 0 mb_Way_number_answer
theorem b_Way_number_answer {P : Program} {w : World} {K : PySem.W.Frag} {mg : Str → Option Value} {base : Heap} {B : Bs} {f : Addr} {cdv : Value} {A : Around} {outer : List Env} {s : Shared} {H : Hp} {E : XK} {k : Nat} {N : Ent} (hK : K = B.K) (g : Gm mg) (κ : Km w K B mg)
    (D : Bdy (cxOf (L2.CX P w) P w K mg base nm_Way_number_answer "Way.number_answer" (defScope st_Way_number_answer) f cdv A outer s H E) E k)   :
    SimSs (cxOf (L2.CX P w) P w K mg base nm_Way_number_answer "Way.number_answer" (defScope st_Way_number_answer) f cdv A outer s H E) B N (fun c d _ H => E c d H) (defBody st_Way_number_answer) (mb_Way_number_answer) :=
  (simss_one (sims_ret (sim_ixD κ.d_WORDS rfl (sim_ix hK (sim_fld κ.CF (sim_var (i := 0) rfl (.inl rfl) rfl rfl) rfl) (sim_add hK (sim_mul hK sim_int (sim_bi (bi_int) rfl g.n_int (simA_cons (sim_var (i := 1) rfl (.inl rfl) rfl rfl) simA_nil rfl) (by decide) rfl rfl rfl)) (sim_bi (bi_int) rfl g.n_int (simA_cons (sim_var (i := 2) rfl (.inl rfl) rfl rfl) simA_nil rfl) (by decide) rfl rfl rfl)) (fun _ _ => rfl)) (sok_all (by decide +kernel)) rfl (fun _ _ => rfl))))

/-! Way.but -/
abbrev st_Way_but : Stmt := ((clsB (top 8)).getD 5 (.Pass ⟨0, 0, 0, 0⟩))
def nm_Way_but : List Str := ["self", "drops", "numbers", "stretches", "hidden", "lock"]
theorem sc_Way_but : FnScope nm_Way_but ["self", "drops", "numbers", "stretches", "hidden", "lock"] (defScope st_Way_but) := ⟨rfl, rfl, rfl, by decide +kernel, rfl, by decide +kernel, by decide +kernel⟩
noncomputable def mb_Way_but : MS := (sRet (eMkA cn_Way 2 3 [0, 1, 2, 3, 4, 5] [.str "tttttttt", .str "tttt"] 6 m_Way___init__ (aCons (ifM (bM (eBin fIsN (eVar 1) (eC .non))) (eFld ifl "drops" (eVar 0)) (eVar 1)) (aCons (ifM (bM (eBin fIsN (eVar 2) (eC .non))) (eFld ifl "numbers" (eVar 0)) (eVar 2)) aNil)) (aCons (ifM (bM (eBin fIsN (eVar 3) (eC .non))) (eFld ifl "stretches" (eVar 0)) (eVar 3)) (aCons (ifM (bM (eBin fIsN (eVar 4) (eC .non))) (eFld ifl "hidden" (eVar 0)) (eVar 4)) (aCons (ifM (bM (eBin fIsN (eVar 5) (eC .non))) (eFld ifl "lock" (eVar 0)) (eVar 5)) aNil)))))
noncomputable def xb_Way_but : MS := (xSRet (xEMkA cn_Way 2 3 [0, 1, 2, 3, 4, 5] [.str "tttttttt", .str "tttt"] 6 m_Way___init__ (xACons (xIfM (xBM (xEBin fIsN (xEVar 1) (xEC .non))) (xEFld ifl "drops" (xEVar 0)) (xEVar 1)) (xACons (xIfM (xBM (xEBin fIsN (xEVar 2) (xEC .non))) (xEFld ifl "numbers" (xEVar 0)) (xEVar 2)) xANil)) (xACons (xIfM (xBM (xEBin fIsN (xEVar 3) (xEC .non))) (xEFld ifl "stretches" (xEVar 0)) (xEVar 3)) (xACons (xIfM (xBM (xEBin fIsN (xEVar 4) (xEC .non))) (xEFld ifl "hidden" (xEVar 0)) (xEVar 4)) (xACons (xIfM (xBM (xEBin fIsN (xEVar 5) (xEC .non))) (xEFld ifl "lock" (xEVar 0)) (xEVar 5)) xANil)))))
theorem xe_Way_but : mb_Way_but = xb_Way_but := by kernel_rfl
@[irreducible] noncomputable def m_Way_but : MF := mkF 0 mb_Way_but
theorem b_Way_but {P : Program} {w : World} {K : PySem.W.Frag} {mg : Str → Option Value} {base : Heap} {B : Bs} {f : Addr} {cdv : Value} {A : Around} {outer : List Env} {s : Shared} {H : Hp} {E : XK} {k : Nat} {N : Ent} (hK : K = B.K) (g : Gm mg) (κ : Km w K B mg)
    (D : Bdy (cxOf (L2.CX P w) P w K mg base nm_Way_but "Way.but" (defScope st_Way_but) f cdv A outer s H E) E k)  (M_Way_2_stretches_hidden_lock : MkA P w K mg base B k "Way" cn_Way 2 ["stretches", "hidden", "lock"] [0, 1, 2, 3, 4, 5] [.str "tttttttt", .str "tttt"] 6 m_Way___init__) :
    SimSs (cxOf (L2.CX P w) P w K mg base nm_Way_but "Way.but" (defScope st_Way_but) f cdv A outer s H E) B N (fun c d _ H => E c d H) (defBody st_Way_but) (mb_Way_but) :=
  (simss_one (sims_ret (sim_mkA M_Way_2_stretches_hidden_lock D.tk D.rm rfl (simA_cons (sim_ifexp (sim_tcm (co_isN) (sim_var (i := 1) rfl (.inl rfl) rfl rfl) sim_non rfl) (sim_fld κ.CF (sim_var (i := 0) rfl (.inl rfl) rfl rfl) rfl) (sim_var (i := 1) rfl (.inl rfl) rfl rfl)) (simA_cons (sim_ifexp (sim_tcm (co_isN) (sim_var (i := 2) rfl (.inl rfl) rfl rfl) sim_non rfl) (sim_fld κ.CF (sim_var (i := 0) rfl (.inl rfl) rfl rfl) rfl) (sim_var (i := 2) rfl (.inl rfl) rfl rfl)) simA_nil rfl) rfl) (simK_cons (sim_ifexp (sim_tcm (co_isN) (sim_var (i := 3) rfl (.inl rfl) rfl rfl) sim_non rfl) (sim_fld κ.CF (sim_var (i := 0) rfl (.inl rfl) rfl rfl) rfl) (sim_var (i := 3) rfl (.inl rfl) rfl rfl)) (simK_cons (sim_ifexp (sim_tcm (co_isN) (sim_var (i := 4) rfl (.inl rfl) rfl rfl) sim_non rfl) (sim_fld κ.CF (sim_var (i := 0) rfl (.inl rfl) rfl rfl) rfl) (sim_var (i := 4) rfl (.inl rfl) rfl rfl)) (simK_cons (sim_ifexp (sim_tcm (co_isN) (sim_var (i := 5) rfl (.inl rfl) rfl rfl) sim_non rfl) (sim_fld κ.CF (sim_var (i := 0) rfl (.inl rfl) rfl rfl) rfl) (sim_var (i := 5) rfl (.inl rfl) rfl rfl)) simK_nil))) rfl rfl rfl rfl rfl rfl)))

/-! Way.text -/
abbrev st_Way_text : Stmt := ((clsB (top 8)).getD 6 (.Pass ⟨0, 0, 0, 0⟩))
def nm_Way_text : List Str := ["self", "options", "word", "one"]
theorem sc_Way_text : FnScope nm_Way_text ["self"] (defScope st_Way_text) := ⟨rfl, rfl, rfl, by decide +kernel, rfl, by decide +kernel, by decide +kernel⟩
noncomputable def mb_Way_text : MS := (sSeq (sAsg 1 (shN (eCompN (sAny (eTup (aCons (eTup (aCons (eC (.str "stretches")) (aCons (eFld ifl "stretches" (eVar 0)) aNil))) (aCons (eTup (aCons (eC (.str "hidden")) (aCons (eFld ifl "hidden" (eVar 0)) aNil))) aNil)))) (.t [(.n 2), (.n 3)]) (tM (eVar 3)) (eVar 2) [2, 3])))
  (sRet (eMS mJoin (eC (.str " ")) (aCons (eLst (aCons (eC (.str "drops")) (aCons (eFld ifl "drops" (eVar 0)) (aCons (eC (.str "numbers")) (aCons (eFld ifl "numbers" (eVar 0)) (aStar (eVar 1) (aCons (eC (.str "lock")) (aCons (eFld ifl "lock" (eVar 0)) aNil)))))))) aNil))))
noncomputable def xb_Way_text : MS := (xSSeq (xSAsg 1 (xShN (xECompN (xSAny (xETup (xACons (xETup (xACons (xEC (.str "stretches")) (xACons (xEFld ifl "stretches" (xEVar 0)) xANil))) (xACons (xETup (xACons (xEC (.str "hidden")) (xACons (xEFld ifl "hidden" (xEVar 0)) xANil))) xANil)))) (.t [(.n 2), (.n 3)]) (xTM (xEVar 3)) (xEVar 2) [2, 3])))
  (xSRet (xEMS mJoin (xEC (.str " ")) (xACons (xELst (xACons (xEC (.str "drops")) (xACons (xEFld ifl "drops" (xEVar 0)) (xACons (xEC (.str "numbers")) (xACons (xEFld ifl "numbers" (xEVar 0)) (xAStar (xEVar 1) (xACons (xEC (.str "lock")) (xACons (xEFld ifl "lock" (xEVar 0)) xANil)))))))) xANil))))
theorem xe_Way_text : mb_Way_text = xb_Way_text := by kernel_rfl
@[irreducible] noncomputable def m_Way_text : MF := mkF 3 mb_Way_text
theorem b_Way_text {P : Program} {w : World} {K : PySem.W.Frag} {mg : Str → Option Value} {base : Heap} {B : Bs} {f : Addr} {cdv : Value} {A : Around} {outer : List Env} {s : Shared} {H : Hp} {E : XK} {k : Nat} {N : Ent} (hK : K = B.K) (g : Gm mg) (κ : Km w K B mg)
    (D : Bdy (cxOf (L2.CX P w) P w K mg base nm_Way_text "Way.text" (defScope st_Way_text) f cdv A outer s H E) E k)   :
    SimSs (cxOf (L2.CX P w) P w K mg base nm_Way_text "Way.text" (defScope st_Way_text) f cdv A outer s H E) B N (fun c d _ H => E c d H) (defBody st_Way_text) (mb_Way_text) :=
  (simss_cons (sims_asgLc (own := [("word", 2), ("one", 3)]) hK rfl sc_Way_text.nd rfl rfl rfl (sim_any hK (sim_tup (simA_cons (sim_tup (simA_cons (sim_str (sok_of (by decide +kernel))) (simA_cons (sim_fld κ.CF (sim_var (i := 0) rfl (.inl rfl) rfl rfl) rfl) simA_nil rfl) rfl)) (simA_cons (sim_tup (simA_cons (sim_str (sok_of (by decide +kernel))) (simA_cons (sim_fld κ.CF (sim_var (i := 0) rfl (.inl rfl) rfl rfl) rfl) simA_nil rfl) rfl)) simA_nil rfl) rfl))) (blk_of (by kernel_rfl)) (by decide) (fun _ _ _ _ _ => (pgT_t rfl (pgTs_cons (pgT_n (pg_name sc_Way_text.nd rfl (.inl rfl) (.inr rfl))) (pgTs_cons (pgT_n (pg_name sc_Way_text.nd rfl (.inl rfl) (.inr rfl))) pgTs_nil rfl) rfl) rfl rfl)) (fun _ _ _ _ _ => (simTs_one (sim_truth hK (sim_var (i := 3) rfl (.inl rfl) rfl rfl) (fun _ => rfl)))) (fun _ _ _ _ _ => (sim_var (i := 2) rfl (.inl rfl) rfl rfl)) (fun _ => rfl))
  (simss_one (sims_ret (sim_ms PySem.F.slot_str_join PySem.F.type_str_join mt_join (sem_join hK) (sim_str (sok_of (by decide +kernel))) (simA_cons (sim_lst (simA_cons (sim_str (sok_of (by decide +kernel))) (simA_cons (sim_fld κ.CF (sim_var (i := 0) rfl (.inl rfl) rfl rfl) rfl) (simA_cons (sim_str (sok_of (by decide +kernel))) (simA_cons (sim_fld κ.CF (sim_var (i := 0) rfl (.inl rfl) rfl rfl) rfl) (simA_star hK (sim_var (i := 1) rfl (.inl rfl) rfl rfl) (simA_cons (sim_str (sok_of (by decide +kernel))) (simA_cons (sim_fld κ.CF (sim_var (i := 0) rfl (.inl rfl) rfl rfl) rfl) simA_nil rfl) rfl) rfl) rfl) rfl) rfl) rfl)) simA_nil rfl) rfl rfl rfl rfl rfl))))

/-! Way.read -/
abbrev st_Way_read : Stmt := ((clsB (top 8)).getD 7 (.Pass ⟨0, 0, 0, 0⟩))
def nm_Way_read : List Str := ["text", "words", "stretches", "hidden", "found"]
theorem sc_Way_read : FnScope nm_Way_read ["text"] (defScope st_Way_read) := ⟨rfl, rfl, rfl, by decide +kernel, rfl, by decide +kernel, by decide +kernel⟩
noncomputable def mb_Way_read : MS := (sSeq (sAsg 1 (ifM (tM (eCB bIsi (aCons (eVar 0) (aCons (eC (.ty "str")) aNil)))) (eMS mSplit (eVar 0) (aCons (eC (.str " ")) aNil)) (eLst aNil)))
  (sSeq (sIf (bM (eBin fLt (eCB bLen (aCons (eVar 1) aNil)) (eC (.int 6)))) sBad sNil)
  (sSeq (sTryN (sSeq (sPar 2 3 (aCons (eBin fIn (eC (.str "stretches")) (eVar 1)) (aCons (eBin fIn (eC (.str "hidden")) (eVar 1)) aNil)))
  (sAsg 4 (eMkA cn_Way 2 3 [0, 1, 2, 3, 4, 5] [.str "tttttttt", .str "tttt"] 6 m_Way___init__ (aCons (eBin fIx (eVar 1) (eC (.int 1))) (aCons (eBin fIx (eVar 1) (eC (.int 3))) aNil)) (aCons (eVar 2) (aCons (eVar 3) (aCons (eBin fIx (eVar 1) (eNeg (eC (.int 1)))) aNil)))))))
  (sSeq (sIf (bM (eBin fNe (eMeA cn_Way 0 0 [0] [] 1 m_Way_text (eVar 4) aNil aNil) (eVar 0))) sBad sNil)
  (sRet (eVar 4))))))
noncomputable def xb_Way_read : MS := (xSSeq (xSAsg 1 (xIfM (xTM (xECB bIsi (xACons (xEVar 0) (xACons (xEC (.ty "str")) xANil)))) (xEMS mSplit (xEVar 0) (xACons (xEC (.str " ")) xANil)) (xELst xANil)))
  (xSSeq (xSIf (xBM (xEBin fLt (xECB bLen (xACons (xEVar 1) xANil)) (xEC (.int 6)))) sBad xSNil)
  (xSSeq (xSTryN (xSSeq (xSPar 2 3 (xACons (xEBin fIn (xEC (.str "stretches")) (xEVar 1)) (xACons (xEBin fIn (xEC (.str "hidden")) (xEVar 1)) xANil)))
  (xSAsg 4 (xEMkA cn_Way 2 3 [0, 1, 2, 3, 4, 5] [.str "tttttttt", .str "tttt"] 6 m_Way___init__ (xACons (xEBin fIx (xEVar 1) (xEC (.int 1))) (xACons (xEBin fIx (xEVar 1) (xEC (.int 3))) xANil)) (xACons (xEVar 2) (xACons (xEVar 3) (xACons (xEBin fIx (xEVar 1) (xENeg (xEC (.int 1)))) xANil)))))))
  (xSSeq (xSIf (xBM (xEBin fNe (xEMeA cn_Way 0 0 [0] [] 1 m_Way_text (xEVar 4) xANil xANil) (xEVar 0))) sBad xSNil)
  (xSRet (xEVar 4))))))
theorem xe_Way_read : mb_Way_read = xb_Way_read := by kernel_rfl
@[irreducible] noncomputable def m_Way_read : MF := mkF 4 mb_Way_read
theorem b_Way_read {P : Program} {w : World} {K : PySem.W.Frag} {mg : Str → Option Value} {base : Heap} {B : Bs} {f : Addr} {cdv : Value} {A : Around} {outer : List Env} {s : Shared} {H : Hp} {E : XK} {k : Nat} {N : Ent} (hK : K = B.K) (g : Gm mg) (κ : Km w K B mg)
    (D : Bdy (cxOf (L2.CX P w) P w K mg base nm_Way_read "Way.read" (defScope st_Way_read) f cdv A outer s H E) E k)  (M_Way_2_stretches_hidden_lock : MkA P w K mg base B k "Way" cn_Way 2 ["stretches", "hidden", "lock"] [0, 1, 2, 3, 4, 5] [.str "tttttttt", .str "tttt"] 6 m_Way___init__) (E_Way_text_0_ : MeA P w K mg base B k cn_Way "text" 0 [] [0] [] 1 m_Way_text) :
    SimSs (cxOf (L2.CX P w) P w K mg base nm_Way_read "Way.read" (defScope st_Way_read) f cdv A outer s H E) B N (fun c d _ H => E c d H) (defBody st_Way_read) (mb_Way_read) :=
  (simss_cons (sims_asg sc_Way_read.nd rfl (.inl rfl) (sim_ifexp (sim_truth hK (sim_bi (bi_isi hK) rfl g.n_isinstance (simA_cons (sim_var (i := 0) rfl (.inl rfl) rfl rfl) (simA_cons (sim_ty rfl g.n_str PyProof.Rows.boot_str (by decide) rfl) simA_nil rfl) rfl) (by decide) rfl rfl rfl) (fun _ => rfl)) (sim_ms PySem.F.slot_str_split PySem.F.type_str_split mt_split sem_split (sim_var (i := 0) rfl (.inl rfl) rfl rfl) (simA_cons (sim_str (sok_of (by decide +kernel))) simA_nil rfl) rfl rfl rfl rfl rfl) (sim_lst simA_nil)) rfl (.inl rfl))
  (simss_cons (sims_if (sim_tcm (co_lt hK D.rm.u9) (sim_bi (bi_len hK) rfl g.n_len (simA_cons (sim_var (i := 1) rfl (.inl rfl) rfl rfl) simA_nil rfl) (by decide) rfl rfl rfl) sim_int rfl) (simss_one sims_bad) simss_nil)
  (simss_cons (sims_tryN rfl (fun _ _ _ tkT paT => (simss_cons (sims_par (i := 2) (j := 3) rfl sc_Way_read.nd rfl rfl (by decide) rfl rfl (simA_cons (sim_cm (co_in hK D.rm.u9) (sim_str (sok_of (by decide +kernel))) (sim_var (i := 1) rfl (.inl rfl) rfl rfl) rfl) (simA_cons (sim_cm (co_in hK D.rm.u9) (sim_str (sok_of (by decide +kernel))) (sim_var (i := 1) rfl (.inl rfl) rfl rfl) rfl) simA_nil rfl) rfl) rfl rfl)
  (simss_one (sims_asg sc_Way_read.nd rfl (.inl rfl) (sim_mkA M_Way_2_stretches_hidden_lock tkT D.rm rfl (simA_cons (sim_ix hK (sim_var (i := 1) rfl (.inl rfl) rfl rfl) sim_int (fun _ _ => rfl)) (simA_cons (sim_ix hK (sim_var (i := 1) rfl (.inl rfl) rfl rfl) sim_int (fun _ _ => rfl)) simA_nil rfl) rfl) (simK_cons (sim_var (i := 2) rfl (.inl rfl) rfl rfl) (simK_cons (sim_var (i := 3) rfl (.inl rfl) rfl rfl) (simK_cons (sim_ix hK (sim_var (i := 1) rfl (.inl rfl) rfl rfl) (sim_neg sim_int) (fun _ _ => rfl)) simK_nil))) rfl rfl rfl rfl rfl rfl) rfl (.inl rfl))))))
  (simss_cons (sims_if (sim_tcm (co_ne hK D.rm.u9) (sim_meA0 (pl := _) E_Way_text_0_ κ.cm_Way (by decide) D.tk D.rm (sim_var (i := 4) rfl (.inl rfl) rfl rfl) simK_nil rfl rfl rfl rfl rfl) (sim_var (i := 0) rfl (.inl rfl) rfl rfl) rfl) (simss_one sims_bad) simss_nil)
  (simss_one (sims_ret (sim_var (i := 4) rfl (.inl rfl) rfl rfl)))))))

/-! Way.__eq__ -/
abbrev st_Way___eq__ : Stmt := ((clsB (top 8)).getD 8 (.Pass ⟨0, 0, 0, 0⟩))
def nm_Way___eq__ : List Str := ["self", "other"]
theorem sc_Way___eq__ : FnScope nm_Way___eq__ ["self", "other"] (defScope st_Way___eq__) := ⟨rfl, rfl, rfl, by decide +kernel, rfl, by decide +kernel, by decide +kernel⟩
noncomputable def mb_Way___eq__ : MS := (sRet (andV (eCB (bIsC cn_Way) (aCons (eVar 1) (aCons (eC (.cls cn_Way)) aNil))) (eBin fEq (eMeA cn_Way 0 0 [0] [] 1 m_Way_text (eVar 0) aNil aNil) (eMeA cn_Way 0 0 [0] [] 1 m_Way_text (eVar 1) aNil aNil))))
noncomputable def xb_Way___eq__ : MS := (xSRet (xAndV (xECB (bIsC cn_Way) (xACons (xEVar 1) (xACons (xEC (.cls cn_Way)) xANil))) (xEBin fEq (xEMeA cn_Way 0 0 [0] [] 1 m_Way_text (xEVar 0) xANil xANil) (xEMeA cn_Way 0 0 [0] [] 1 m_Way_text (xEVar 1) xANil xANil))))
theorem xe_Way___eq__ : mb_Way___eq__ = xb_Way___eq__ := by kernel_rfl
@[irreducible] noncomputable def m_Way___eq__ : MF := mkF 0 mb_Way___eq__
theorem b_Way___eq__ {P : Program} {w : World} {K : PySem.W.Frag} {mg : Str → Option Value} {base : Heap} {B : Bs} {f : Addr} {cdv : Value} {A : Around} {outer : List Env} {s : Shared} {H : Hp} {E : XK} {k : Nat} {N : Ent} (hK : K = B.K) (g : Gm mg) (κ : Km w K B mg)
    (D : Bdy (cxOf (L2.CX P w) P w K mg base nm_Way___eq__ "Way.__eq__" (defScope st_Way___eq__) f cdv A outer s H E) E k)  (E_Way_text_0_ : MeA P w K mg base B k cn_Way "text" 0 [] [0] [] 1 m_Way_text) :
    SimSs (cxOf (L2.CX P w) P w K mg base nm_Way___eq__ "Way.__eq__" (defScope st_Way___eq__) f cdv A outer s H E) B N (fun c d _ H => E c d H) (defBody st_Way___eq__) (mb_Way___eq__) :=
  (simss_one (sims_ret (sim_and (sim_bi (bi_isC hK κ.is_Way) rfl g.n_isinstance (simA_cons (sim_var (i := 1) rfl (.inl rfl) rfl rfl) (simA_cons (sim_cls rfl κ.n_Way) simA_nil rfl) rfl) (by decide) rfl rfl rfl) (sim_one (sim_cm (co_eq hK D.rm.u9) (sim_meA0 (pl := _) E_Way_text_0_ κ.cm_Way (by decide) D.tk D.rm (sim_var (i := 0) rfl (.inl rfl) rfl rfl) simK_nil rfl rfl rfl rfl rfl) (sim_meA0 (pl := _) E_Way_text_0_ κ.cm_Way (by decide) D.tk D.rm (sim_var (i := 1) rfl (.inl rfl) rfl rfl) simK_nil rfl rfl rfl rfl rfl) rfl)))))

/-! Way.__repr__ -/
abbrev st_Way___repr__ : Stmt := ((clsB (top 8)).getD 9 (.Pass ⟨0, 0, 0, 0⟩))
def nm_Way___repr__ : List Str := ["self"]
theorem sc_Way___repr__ : FnScope nm_Way___repr__ ["self"] (defScope st_Way___repr__) := ⟨rfl, rfl, rfl, by decide +kernel, rfl, by decide +kernel, by decide +kernel⟩
noncomputable def mb_Way___repr__ : MS := (sRet (eJ [(eC (.str "Way(")), (eFmt (eMeA cn_Way 0 0 [0] [] 1 m_Way_text (eVar 0) aNil aNil)), (eC (.str ")"))] Str.empty))
noncomputable def xb_Way___repr__ : MS := (xSRet (xEJ [(xEC (.str "Way(")), (xEFmt (xEMeA cn_Way 0 0 [0] [] 1 m_Way_text (xEVar 0) xANil xANil)), (xEC (.str ")"))] Str.empty))
theorem xe_Way___repr__ : mb_Way___repr__ = xb_Way___repr__ := by kernel_rfl
@[irreducible] noncomputable def m_Way___repr__ : MF := mkF 0 mb_Way___repr__
theorem b_Way___repr__ {P : Program} {w : World} {K : PySem.W.Frag} {mg : Str → Option Value} {base : Heap} {B : Bs} {f : Addr} {cdv : Value} {A : Around} {outer : List Env} {s : Shared} {H : Hp} {E : XK} {k : Nat} {N : Ent} (hK : K = B.K) (g : Gm mg) (κ : Km w K B mg)
    (D : Bdy (cxOf (L2.CX P w) P w K mg base nm_Way___repr__ "Way.__repr__" (defScope st_Way___repr__) f cdv A outer s H E) E k)  (E_Way_text_0_ : MeA P w K mg base B k cn_Way "text" 0 [] [0] [] 1 m_Way_text) :
    SimSs (cxOf (L2.CX P w) P w K mg base nm_Way___repr__ "Way.__repr__" (defScope st_Way___repr__) f cdv A outer s H E) B N (fun c d _ H => E c d H) (defBody st_Way___repr__) (mb_Way___repr__) :=
  (simss_one (sims_ret (sim_joined (.cons (sim_str (sok_of (by decide +kernel))) (.cons (sim_fmt (sim_meA0 (pl := _) E_Way_text_0_ κ.cm_Way (by decide) D.tk D.rm (sim_var (i := 0) rfl (.inl rfl) rfl rfl) simK_nil rfl rfl rfl rfl rfl)) (.cons (sim_str (sok_of (by decide +kernel))) .nil))))))

/-! _law_open -/
abbrev st__law_open : Stmt := (top 10)
def nm__law_open : List Str := ["_law_script"]
theorem sc__law_open : FnScope nm__law_open ["_law_script"] (defScope st__law_open) := ⟨rfl, rfl, rfl, by decide +kernel, rfl, by decide +kernel, by decide +kernel⟩
noncomputable def mb__law_open : MS := (sRet (eCel (nLst (aCons (eCB bList (aCons (eSl (eVar 0) oNone (oSome (eC (.int 63)))) aNil)) (aCons (eC (.int 0)) (aCons (eC (.int 0)) (aCons (eC (.int 100201)) (aCons (eC (.int 0)) aNil))))))))
noncomputable def xb__law_open : MS := (xSRet (xECel (xNLst (xACons (xECB bList (xACons (xESl (xEVar 0) xONone (xOSome (xEC (.int 63)))) xANil)) (xACons (xEC (.int 0)) (xACons (xEC (.int 0)) (xACons (xEC (.int 100201)) (xACons (xEC (.int 0)) xANil))))))))
theorem xe__law_open : mb__law_open = xb__law_open := by kernel_rfl
@[irreducible] noncomputable def m__law_open : MF := mkF 0 mb__law_open
theorem b__law_open {P : Program} {w : World} {K : PySem.W.Frag} {mg : Str → Option Value} {base : Heap} {B : Bs} {f : Addr} {cdv : Value} {A : Around} {outer : List Env} {s : Shared} {H : Hp} {E : XK} {k : Nat} {N : Ent} (hK : K = B.K) (g : Gm mg) (κ : Km w K B mg)
    (D : Bdy (cxOf (L2.CX P w) P w K mg base nm__law_open "_law_open" (defScope st__law_open) f cdv A outer s H E) E k)   :
    SimSs (cxOf (L2.CX P w) P w K mg base nm__law_open "_law_open" (defScope st__law_open) f cdv A outer s H E) B N (fun c d _ H => E c d H) (defBody st__law_open) (mb__law_open) :=
  (simss_one (sims_ret (sim_cel (sim_lstN (simA_cons (sim_bi (bi_list hK) rfl g.n_list (simA_cons (sim_sl hK (sim_var (i := 0) rfl (.inl rfl) rfl rfl) simO_none (simO_some sim_int)) simA_nil rfl) (by decide) rfl rfl rfl) (simA_cons sim_int (simA_cons sim_int (simA_cons sim_int (simA_cons sim_int simA_nil rfl) rfl) rfl) rfl) rfl)))))

/-! _law_draw -/
abbrev st__law_draw : Stmt := (top 11)
def nm__law_draw : List Str := ["_law_bag", "_law_many", "_law_cell", "_law_digit", "_law_seed"]
theorem sc__law_draw : FnScope nm__law_draw ["_law_bag", "_law_many"] (defScope st__law_draw) := ⟨rfl, rfl, rfl, by decide +kernel, rfl, by decide +kernel, by decide +kernel⟩
noncomputable def mb__law_draw : MS := (sSeq (sIf (andM (bM (eBin fEq (eBin fIx (eVar 0) (eC (.int 2))) (eC (.int 0)))) (bM (eBin fLt (eBin fIx (eVar 0) (eC (.int 1))) (eCB bLen (aCons (eBin fIx (eVar 0) (eC (.int 0))) aNil))))) (sSeq (sAsg 2 (eBin fIx (eBin fIx (eVar 0) (eC (.int 0))) (eBin fIx (eVar 0) (eC (.int 1)))))
  (sSeq (sSetC (eBin fAdd (eBin fIx (eVar 0) (eC (.int 1))) (eC (.int 1))) (eVar 0) (eC (.int 1)))
  (sSeq (sSetC (ifM (bM (eBin fGe (eVar 2) (eBin fPow (eC (.int 10)) (eC (.int 18))))) (eVar 2) (eC (.int 0))) (eVar 0) (eC (.int 2)))
  (sSetC (eBin fMod (eCB bInt (aCons (eBin fAdd (eBin fAdd (eBin fMul (eBin fIx (eVar 0) (eC (.int 3))) (eC (.int 40031))) (eBin fMul (eBin fMod (eCB bInt (aCons (eVar 2) aNil)) (eC (.int 2147483549))) (eC (.int 331)))) (eC (.int 2011))) aNil)) (eC (.int 2147483587))) (eVar 0) (eC (.int 3)))))) sNil)
  (sSeq (sIf (bM (eBin fGt (eBin fIx (eVar 0) (eC (.int 2))) (eC (.int 0)))) (sSeq (sAsg 3 (eBin fMod (eCB bInt (aCons (eBin fIx (eVar 0) (eC (.int 2))) aNil)) (eVar 1)))
  (sSeq (sSetC (eBin fFdv (eBin fIx (eVar 0) (eC (.int 2))) (eVar 1)) (eVar 0) (eC (.int 2)))
  (sRet (eVar 3)))) sNil)
  (sSeq (sSetC (eBin fAdd (eBin fIx (eVar 0) (eC (.int 4))) (eC (.int 1))) (eVar 0) (eC (.int 4)))
  (sSeq (sAsg 4 (eBin fIx (eVar 0) (eC (.int 3))))
  (sSeq (sSetC (eBin fMod (eCB bInt (aCons (eBin fAdd (eBin fAdd (eBin fAdd (eBin fMul (eVar 4) (eVar 4)) (eBin fMul (eC (.int 65071)) (eVar 4))) (eBin fMul (eC (.int 6673)) (eBin fIx (eVar 0) (eC (.int 4))))) (eC (.int 40013))) aNil)) (eC (.int 2147483587))) (eVar 0) (eC (.int 3)))
  (sRet (eBin fMod (eCB bInt (aCons (eBin fAdd (eBin fAdd (eBin fFdv (eBin fIx (eVar 0) (eC (.int 3))) (eC (.int 61))) (eBin fMul (eVar 4) (eC (.int 32009)))) (eBin fIx (eVar 0) (eC (.int 4)))) aNil)) (eVar 1))))))))
noncomputable def xb__law_draw : MS := (xSSeq (xSIf (xAndM (xBM (xEBin fEq (xEBin fIx (xEVar 0) (xEC (.int 2))) (xEC (.int 0)))) (xBM (xEBin fLt (xEBin fIx (xEVar 0) (xEC (.int 1))) (xECB bLen (xACons (xEBin fIx (xEVar 0) (xEC (.int 0))) xANil))))) (xSSeq (xSAsg 2 (xEBin fIx (xEBin fIx (xEVar 0) (xEC (.int 0))) (xEBin fIx (xEVar 0) (xEC (.int 1)))))
  (xSSeq (xSSetC (xEBin fAdd (xEBin fIx (xEVar 0) (xEC (.int 1))) (xEC (.int 1))) (xEVar 0) (xEC (.int 1)))
  (xSSeq (xSSetC (xIfM (xBM (xEBin fGe (xEVar 2) (xEBin fPow (xEC (.int 10)) (xEC (.int 18))))) (xEVar 2) (xEC (.int 0))) (xEVar 0) (xEC (.int 2)))
  (xSSetC (xEBin fMod (xECB bInt (xACons (xEBin fAdd (xEBin fAdd (xEBin fMul (xEBin fIx (xEVar 0) (xEC (.int 3))) (xEC (.int 40031))) (xEBin fMul (xEBin fMod (xECB bInt (xACons (xEVar 2) xANil)) (xEC (.int 2147483549))) (xEC (.int 331)))) (xEC (.int 2011))) xANil)) (xEC (.int 2147483587))) (xEVar 0) (xEC (.int 3)))))) xSNil)
  (xSSeq (xSIf (xBM (xEBin fGt (xEBin fIx (xEVar 0) (xEC (.int 2))) (xEC (.int 0)))) (xSSeq (xSAsg 3 (xEBin fMod (xECB bInt (xACons (xEBin fIx (xEVar 0) (xEC (.int 2))) xANil)) (xEVar 1)))
  (xSSeq (xSSetC (xEBin fFdv (xEBin fIx (xEVar 0) (xEC (.int 2))) (xEVar 1)) (xEVar 0) (xEC (.int 2)))
  (xSRet (xEVar 3)))) xSNil)
  (xSSeq (xSSetC (xEBin fAdd (xEBin fIx (xEVar 0) (xEC (.int 4))) (xEC (.int 1))) (xEVar 0) (xEC (.int 4)))
  (xSSeq (xSAsg 4 (xEBin fIx (xEVar 0) (xEC (.int 3))))
  (xSSeq (xSSetC (xEBin fMod (xECB bInt (xACons (xEBin fAdd (xEBin fAdd (xEBin fAdd (xEBin fMul (xEVar 4) (xEVar 4)) (xEBin fMul (xEC (.int 65071)) (xEVar 4))) (xEBin fMul (xEC (.int 6673)) (xEBin fIx (xEVar 0) (xEC (.int 4))))) (xEC (.int 40013))) xANil)) (xEC (.int 2147483587))) (xEVar 0) (xEC (.int 3)))
  (xSRet (xEBin fMod (xECB bInt (xACons (xEBin fAdd (xEBin fAdd (xEBin fFdv (xEBin fIx (xEVar 0) (xEC (.int 3))) (xEC (.int 61))) (xEBin fMul (xEVar 4) (xEC (.int 32009)))) (xEBin fIx (xEVar 0) (xEC (.int 4)))) xANil)) (xEVar 1))))))))
theorem xe__law_draw : mb__law_draw = xb__law_draw := by kernel_rfl
@[irreducible] noncomputable def m__law_draw : MF := mkF 3 mb__law_draw
theorem b__law_draw {P : Program} {w : World} {K : PySem.W.Frag} {mg : Str → Option Value} {base : Heap} {B : Bs} {f : Addr} {cdv : Value} {A : Around} {outer : List Env} {s : Shared} {H : Hp} {E : XK} {k : Nat} {N : Ent} (hK : K = B.K) (g : Gm mg) (κ : Km w K B mg)
    (D : Bdy (cxOf (L2.CX P w) P w K mg base nm__law_draw "_law_draw" (defScope st__law_draw) f cdv A outer s H E) E k)   :
    SimSs (cxOf (L2.CX P w) P w K mg base nm__law_draw "_law_draw" (defScope st__law_draw) f cdv A outer s H E) B N (fun c d _ H => E c d H) (defBody st__law_draw) (mb__law_draw) :=
  (simss_cons (sims_if (sim_tbool (simw_and (sim_tcm (co_eq hK D.rm.u9) (sim_ix hK (sim_var (i := 0) rfl (.inl rfl) rfl rfl) sim_int (fun _ _ => rfl)) sim_int rfl) (simw_and1 (sim_tcm (co_lt hK D.rm.u9) (sim_ix hK (sim_var (i := 0) rfl (.inl rfl) rfl rfl) sim_int (fun _ _ => rfl)) (sim_bi (bi_len hK) rfl g.n_len (simA_cons (sim_ix hK (sim_var (i := 0) rfl (.inl rfl) rfl rfl) sim_int (fun _ _ => rfl)) simA_nil rfl) (by decide) rfl rfl rfl) rfl)))) (simss_cons (sims_asg sc__law_draw.nd rfl (.inl rfl) (sim_ix hK (sim_ix hK (sim_var (i := 0) rfl (.inl rfl) rfl rfl) sim_int (fun _ _ => rfl)) (sim_ix hK (sim_var (i := 0) rfl (.inl rfl) rfl rfl) sim_int (fun _ _ => rfl)) (fun _ _ => rfl)) rfl (.inl rfl))
  (simss_cons (sims_setC (sim_add hK (sim_ix hK (sim_var (i := 0) rfl (.inl rfl) rfl rfl) sim_int (fun _ _ => rfl)) sim_int) (sim_var (i := 0) rfl (.inl rfl) rfl rfl) sim_int (fun _ => rfl) rfl rfl rfl)
  (simss_cons (sims_setC (sim_ifexp (sim_tcm (co_ge) (sim_var (i := 2) rfl (.inl rfl) rfl rfl) (sim_pow sim_int sim_int) rfl) (sim_var (i := 2) rfl (.inl rfl) rfl rfl) sim_int) (sim_var (i := 0) rfl (.inl rfl) rfl rfl) sim_int (fun _ => rfl) rfl rfl rfl)
  (simss_one (sims_setC (sim_mod (sim_bi (bi_int) rfl g.n_int (simA_cons (sim_add hK (sim_add hK (sim_mul hK (sim_ix hK (sim_var (i := 0) rfl (.inl rfl) rfl rfl) sim_int (fun _ _ => rfl)) sim_int) (sim_mul hK (sim_mod (sim_bi (bi_int) rfl g.n_int (simA_cons (sim_var (i := 2) rfl (.inl rfl) rfl rfl) simA_nil rfl) (by decide) rfl rfl rfl) sim_int) sim_int)) sim_int) simA_nil rfl) (by decide) rfl rfl rfl) sim_int) (sim_var (i := 0) rfl (.inl rfl) rfl rfl) sim_int (fun _ => rfl) rfl rfl rfl))))) simss_nil)
  (simss_cons (sims_if (sim_tcm (co_gt) (sim_ix hK (sim_var (i := 0) rfl (.inl rfl) rfl rfl) sim_int (fun _ _ => rfl)) sim_int rfl) (simss_cons (sims_asg sc__law_draw.nd rfl (.inl rfl) (sim_mod (sim_bi (bi_int) rfl g.n_int (simA_cons (sim_ix hK (sim_var (i := 0) rfl (.inl rfl) rfl rfl) sim_int (fun _ _ => rfl)) simA_nil rfl) (by decide) rfl rfl rfl) (sim_var (i := 1) rfl (.inl rfl) rfl rfl)) rfl (.inl rfl))
  (simss_cons (sims_setC (sim_fdv (sim_ix hK (sim_var (i := 0) rfl (.inl rfl) rfl rfl) sim_int (fun _ _ => rfl)) (sim_var (i := 1) rfl (.inl rfl) rfl rfl)) (sim_var (i := 0) rfl (.inl rfl) rfl rfl) sim_int (fun _ => rfl) rfl rfl rfl)
  (simss_one (sims_ret (sim_var (i := 3) rfl (.inl rfl) rfl rfl))))) simss_nil)
  (simss_cons (sims_setC (sim_add hK (sim_ix hK (sim_var (i := 0) rfl (.inl rfl) rfl rfl) sim_int (fun _ _ => rfl)) sim_int) (sim_var (i := 0) rfl (.inl rfl) rfl rfl) sim_int (fun _ => rfl) rfl rfl rfl)
  (simss_cons (sims_asg sc__law_draw.nd rfl (.inl rfl) (sim_ix hK (sim_var (i := 0) rfl (.inl rfl) rfl rfl) sim_int (fun _ _ => rfl)) rfl (.inl rfl))
  (simss_cons (sims_setC (sim_mod (sim_bi (bi_int) rfl g.n_int (simA_cons (sim_add hK (sim_add hK (sim_add hK (sim_mul hK (sim_var (i := 4) rfl (.inl rfl) rfl rfl) (sim_var (i := 4) rfl (.inl rfl) rfl rfl)) (sim_mul hK sim_int (sim_var (i := 4) rfl (.inl rfl) rfl rfl))) (sim_mul hK sim_int (sim_ix hK (sim_var (i := 0) rfl (.inl rfl) rfl rfl) sim_int (fun _ _ => rfl)))) sim_int) simA_nil rfl) (by decide) rfl rfl rfl) sim_int) (sim_var (i := 0) rfl (.inl rfl) rfl rfl) sim_int (fun _ => rfl) rfl rfl rfl)
  (simss_one (sims_ret (sim_mod (sim_bi (bi_int) rfl g.n_int (simA_cons (sim_add hK (sim_add hK (sim_fdv (sim_ix hK (sim_var (i := 0) rfl (.inl rfl) rfl rfl) sim_int (fun _ _ => rfl)) sim_int) (sim_mul hK (sim_var (i := 4) rfl (.inl rfl) rfl rfl) sim_int)) (sim_ix hK (sim_var (i := 0) rfl (.inl rfl) rfl rfl) sim_int (fun _ _ => rfl))) simA_nil rfl) (by decide) rfl rfl rfl) (sim_var (i := 1) rfl (.inl rfl) rfl rfl)))))))))

/-! _law_of -/
abbrev st__law_of : Stmt := (top 12)
def nm__law_of : List Str := ["_law_bag", "_law_things"]
theorem sc__law_of : FnScope nm__law_of ["_law_bag", "_law_things"] (defScope st__law_of) := ⟨rfl, rfl, rfl, by decide +kernel, rfl, by decide +kernel, by decide +kernel⟩
noncomputable def mb__law_of : MS := (sRet (eBin fIx (eVar 1) (eCall 2 m__law_draw (aCons (eVar 0) (aCons (eCB bLen (aCons (eVar 1) aNil)) aNil)))))
noncomputable def xb__law_of : MS := (xSRet (xEBin fIx (xEVar 1) (xECall 2 m__law_draw (xACons (xEVar 0) (xACons (xECB bLen (xACons (xEVar 1) xANil)) xANil)))))
theorem xe__law_of : mb__law_of = xb__law_of := by kernel_rfl
@[irreducible] noncomputable def m__law_of : MF := mkF 0 mb__law_of
theorem b__law_of {P : Program} {w : World} {K : PySem.W.Frag} {mg : Str → Option Value} {base : Heap} {B : Bs} {f : Addr} {cdv : Value} {A : Around} {outer : List Env} {s : Shared} {H : Hp} {E : XK} {k : Nat} {N : Ent} (hK : K = B.K) (g : Gm mg) (κ : Km w K B mg)
    (D : Bdy (cxOf (L2.CX P w) P w K mg base nm__law_of "_law_of" (defScope st__law_of) f cdv A outer s H E) E k)  (F__law_draw : Fn P w K mg base B k "_law_draw" 2 m__law_draw) :
    SimSs (cxOf (L2.CX P w) P w K mg base nm__law_of "_law_of" (defScope st__law_of) f cdv A outer s H E) B N (fun c d _ H => E c d H) (defBody st__law_of) (mb__law_of) :=
  (simss_one (sims_ret (sim_ix hK (sim_var (i := 1) rfl (.inl rfl) rfl rfl) (sim_call F__law_draw D.tk D.rm rfl (simA_cons (sim_var (i := 0) rfl (.inl rfl) rfl rfl) (simA_cons (sim_bi (bi_len hK) rfl g.n_len (simA_cons (sim_var (i := 1) rfl (.inl rfl) rfl rfl) simA_nil rfl) (by decide) rfl rfl rfl) simA_nil rfl) rfl) rfl rfl rfl) (fun _ _ => rfl))))

/-! _law_like -/
abbrev st__law_like : Stmt := (top 13)
def nm__law_like : List Str := ["_law_found", "_law_due", "_law_one", "_law_other"]
theorem sc__law_like : FnScope nm__law_like ["_law_found", "_law_due"] (defScope st__law_like) := ⟨rfl, rfl, rfl, by decide +kernel, rfl, by decide +kernel, by decide +kernel⟩
noncomputable def mb__law_like (m : MF) : MS := (sSeq (sIf (tM (eCB bIsi (aCons (eVar 1) (aCons (eTup (aCons (eC (.ty "list")) (aCons (eC (.ty "tuple")) aNil))) aNil)))) (sSeq (sIf (orM (bM (eBin fNe (eCB bIsi (aCons (eVar 0) (aCons (eC (.ty "list")) aNil))) (eCB bIsi (aCons (eVar 1) (aCons (eC (.ty "list")) aNil))))) (bM (eBin fNe (eCB bIsi (aCons (eVar 0) (aCons (eC (.ty "tuple")) aNil))) (eCB bIsi (aCons (eVar 1) (aCons (eC (.ty "tuple")) aNil)))))) (sRet (eC (.bl false))) sNil)
  (sRet (andV (eBin fEq (eCB bLen (aCons (eVar 0) aNil)) (eCB bLen (aCons (eVar 1) aNil))) (eCB bAll (aCons (shN (eCompN (sZip (aCons (eVar 0) (aCons (eVar 1) aNil))) (.t [(.n 2), (.n 3)]) testY (eCall 2 m (aCons (eVar 2) (aCons (eVar 3) aNil))) [2, 3])) aNil))))) sNil)
  (sSeq (sIf (orM (bM (eBin fIsN (eVar 1) (eC .non))) (bM (eBin fIsN (eVar 0) (eC .non)))) (sRet (andV (eBin fIsN (eVar 1) (eC .non)) (eBin fIsN (eVar 0) (eC .non)))) sNil)
  (sSeq (sIf (orM (bM (eBin fNe (eCB bIsi (aCons (eVar 0) (aCons (eC (.ty "bool")) aNil))) (eCB bIsi (aCons (eVar 1) (aCons (eC (.ty "bool")) aNil))))) (bM (eBin fNe (eCB bIsi (aCons (eVar 0) (aCons (eC (.ty "int")) aNil))) (eCB bIsi (aCons (eVar 1) (aCons (eC (.ty "int")) aNil)))))) (sRet (eC (.bl false))) sNil)
  (sRet (andV (eBin fEq (eCB bIsi (aCons (eVar 0) (aCons (eC (.ty "str")) aNil))) (eCB bIsi (aCons (eVar 1) (aCons (eC (.ty "str")) aNil)))) (eBin fEq (eVar 0) (eVar 1)))))))
noncomputable def xb__law_like (m : MF) : MS := (xSSeq (xSIf (xTM (xECB bIsi (xACons (xEVar 1) (xACons (xETup (xACons (xEC (.ty "list")) (xACons (xEC (.ty "tuple")) xANil))) xANil)))) (xSSeq (xSIf (xOrM (xBM (xEBin fNe (xECB bIsi (xACons (xEVar 0) (xACons (xEC (.ty "list")) xANil))) (xECB bIsi (xACons (xEVar 1) (xACons (xEC (.ty "list")) xANil))))) (xBM (xEBin fNe (xECB bIsi (xACons (xEVar 0) (xACons (xEC (.ty "tuple")) xANil))) (xECB bIsi (xACons (xEVar 1) (xACons (xEC (.ty "tuple")) xANil)))))) (xSRet (xEC (.bl false))) xSNil)
  (xSRet (xAndV (xEBin fEq (xECB bLen (xACons (xEVar 0) xANil)) (xECB bLen (xACons (xEVar 1) xANil))) (xECB bAll (xACons (xShN (xECompN (xSZip (xACons (xEVar 0) (xACons (xEVar 1) xANil))) (.t [(.n 2), (.n 3)]) testY (xECall 2 m (xACons (xEVar 2) (xACons (xEVar 3) xANil))) [2, 3])) xANil))))) xSNil)
  (xSSeq (xSIf (xOrM (xBM (xEBin fIsN (xEVar 1) (xEC .non))) (xBM (xEBin fIsN (xEVar 0) (xEC .non)))) (xSRet (xAndV (xEBin fIsN (xEVar 1) (xEC .non)) (xEBin fIsN (xEVar 0) (xEC .non)))) xSNil)
  (xSSeq (xSIf (xOrM (xBM (xEBin fNe (xECB bIsi (xACons (xEVar 0) (xACons (xEC (.ty "bool")) xANil))) (xECB bIsi (xACons (xEVar 1) (xACons (xEC (.ty "bool")) xANil))))) (xBM (xEBin fNe (xECB bIsi (xACons (xEVar 0) (xACons (xEC (.ty "int")) xANil))) (xECB bIsi (xACons (xEVar 1) (xACons (xEC (.ty "int")) xANil)))))) (xSRet (xEC (.bl false))) xSNil)
  (xSRet (xAndV (xEBin fEq (xECB bIsi (xACons (xEVar 0) (xACons (xEC (.ty "str")) xANil))) (xECB bIsi (xACons (xEVar 1) (xACons (xEC (.ty "str")) xANil)))) (xEBin fEq (xEVar 0) (xEVar 1)))))))
theorem xe__law_like (m : MF) : mb__law_like m = xb__law_like m := by kernel_rfl
noncomputable def mr__law_like : Nat → MF
  | 0 => fun _ _ => .bad
  | n + 1 => mkF 2 (mb__law_like (mr__law_like n))
@[irreducible] noncomputable def m__law_like : MF := mr__law_like 8
theorem b__law_like {P : Program} {w : World} {K : PySem.W.Frag} {mg : Str → Option Value} {base : Heap} {B : Bs} {f : Addr} {cdv : Value} {A : Around} {outer : List Env} {s : Shared} {H : Hp} {E : XK} {k : Nat} {N : Ent} (hK : K = B.K) (g : Gm mg) (κ : Km w K B mg)
    (D : Bdy (cxOf (L2.CX P w) P w K mg base nm__law_like "_law_like" (defScope st__law_like) f cdv A outer s H E) E k)  {m : MF} (F__law_like : Fn P w K mg base B k "_law_like" 2 m) :
    SimSs (cxOf (L2.CX P w) P w K mg base nm__law_like "_law_like" (defScope st__law_like) f cdv A outer s H E) B N (fun c d _ H => E c d H) (defBody st__law_like) (mb__law_like m) :=
  (simss_cons (sims_if (sim_truth hK (sim_bi (bi_isi hK) rfl g.n_isinstance (simA_cons (sim_var (i := 1) rfl (.inl rfl) rfl rfl) (simA_cons (sim_tup (simA_cons (sim_ty rfl g.n_list PyProof.Rows.boot_list (by decide) rfl) (simA_cons (sim_ty rfl g.n_tuple PyProof.Rows.boot_tuple (by decide) rfl) simA_nil rfl) rfl)) simA_nil rfl) rfl) (by decide) rfl rfl rfl) (fun _ => rfl)) (simss_cons (sims_if (sim_tbool (simw_or (sim_tcm (co_ne hK D.rm.u9) (sim_bi (bi_isi hK) rfl g.n_isinstance (simA_cons (sim_var (i := 0) rfl (.inl rfl) rfl rfl) (simA_cons (sim_ty rfl g.n_list PyProof.Rows.boot_list (by decide) rfl) simA_nil rfl) rfl) (by decide) rfl rfl rfl) (sim_bi (bi_isi hK) rfl g.n_isinstance (simA_cons (sim_var (i := 1) rfl (.inl rfl) rfl rfl) (simA_cons (sim_ty rfl g.n_list PyProof.Rows.boot_list (by decide) rfl) simA_nil rfl) rfl) (by decide) rfl rfl rfl) rfl) (simw_or1 (sim_tcm (co_ne hK D.rm.u9) (sim_bi (bi_isi hK) rfl g.n_isinstance (simA_cons (sim_var (i := 0) rfl (.inl rfl) rfl rfl) (simA_cons (sim_ty rfl g.n_tuple PyProof.Rows.boot_tuple (by decide) rfl) simA_nil rfl) rfl) (by decide) rfl rfl rfl) (sim_bi (bi_isi hK) rfl g.n_isinstance (simA_cons (sim_var (i := 1) rfl (.inl rfl) rfl rfl) (simA_cons (sim_ty rfl g.n_tuple PyProof.Rows.boot_tuple (by decide) rfl) simA_nil rfl) rfl) (by decide) rfl rfl rfl) rfl)))) (simss_one (sims_ret sim_bl)) simss_nil)
  (simss_one (sims_ret (sim_and (sim_cm (co_eq hK D.rm.u9) (sim_bi (bi_len hK) rfl g.n_len (simA_cons (sim_var (i := 0) rfl (.inl rfl) rfl rfl) simA_nil rfl) (by decide) rfl rfl rfl) (sim_bi (bi_len hK) rfl g.n_len (simA_cons (sim_var (i := 1) rfl (.inl rfl) rfl rfl) simA_nil rfl) (by decide) rfl rfl rfl) rfl) (sim_one (sim_bi (bi_all hK rfl) rfl g.n_all (simA_cons (SimN.sh (sim_lc (own := [("_law_one", 2), ("_law_other", 3)]) hK rfl sc__law_like.nd (sim_zip hK rfl g.n_zip (simA_cons (sim_var (i := 0) rfl (.inl rfl) rfl rfl) (simA_cons (sim_var (i := 1) rfl (.inl rfl) rfl rfl) simA_nil rfl) rfl) rfl rfl rfl) (blk_of (by kernel_rfl)) (by decide) (fun _ _ _ _ _ => (pgT_t rfl (pgTs_cons (pgT_n (pg_name sc__law_like.nd rfl (.inl rfl) (.inr rfl))) (pgTs_cons (pgT_n (pg_name sc__law_like.nd rfl (.inl rfl) (.inr rfl))) pgTs_nil rfl) rfl) rfl rfl)) (fun _ _ _ _ _ => simTs_nil) (fun _ _ _ _ _ => (sim_call F__law_like (takesWF _) D.rm rfl (simA_cons (sim_var (i := 2) rfl (.inl rfl) rfl rfl) (simA_cons (sim_var (i := 3) rfl (.inl rfl) rfl rfl) simA_nil rfl) rfl) rfl rfl rfl)) (fun _ => rfl))) simA_nil rfl) (by decide) rfl rfl rfl)))))) simss_nil)
  (simss_cons (sims_if (sim_tbool (simw_or (sim_tcm (co_isN) (sim_var (i := 1) rfl (.inl rfl) rfl rfl) sim_non rfl) (simw_or1 (sim_tcm (co_isN) (sim_var (i := 0) rfl (.inl rfl) rfl rfl) sim_non rfl)))) (simss_one (sims_ret (sim_and (sim_cm (co_isN) (sim_var (i := 1) rfl (.inl rfl) rfl rfl) sim_non rfl) (sim_one (sim_cm (co_isN) (sim_var (i := 0) rfl (.inl rfl) rfl rfl) sim_non rfl))))) simss_nil)
  (simss_cons (sims_if (sim_tbool (simw_or (sim_tcm (co_ne hK D.rm.u9) (sim_bi (bi_isi hK) rfl g.n_isinstance (simA_cons (sim_var (i := 0) rfl (.inl rfl) rfl rfl) (simA_cons (sim_ty rfl g.n_bool PyProof.Rows.boot_bool (by decide) rfl) simA_nil rfl) rfl) (by decide) rfl rfl rfl) (sim_bi (bi_isi hK) rfl g.n_isinstance (simA_cons (sim_var (i := 1) rfl (.inl rfl) rfl rfl) (simA_cons (sim_ty rfl g.n_bool PyProof.Rows.boot_bool (by decide) rfl) simA_nil rfl) rfl) (by decide) rfl rfl rfl) rfl) (simw_or1 (sim_tcm (co_ne hK D.rm.u9) (sim_bi (bi_isi hK) rfl g.n_isinstance (simA_cons (sim_var (i := 0) rfl (.inl rfl) rfl rfl) (simA_cons (sim_ty rfl g.n_int PyProof.Rows.boot_int (by decide) rfl) simA_nil rfl) rfl) (by decide) rfl rfl rfl) (sim_bi (bi_isi hK) rfl g.n_isinstance (simA_cons (sim_var (i := 1) rfl (.inl rfl) rfl rfl) (simA_cons (sim_ty rfl g.n_int PyProof.Rows.boot_int (by decide) rfl) simA_nil rfl) rfl) (by decide) rfl rfl rfl) rfl)))) (simss_one (sims_ret sim_bl)) simss_nil)
  (simss_one (sims_ret (sim_and (sim_cm (co_eq hK D.rm.u9) (sim_bi (bi_isi hK) rfl g.n_isinstance (simA_cons (sim_var (i := 0) rfl (.inl rfl) rfl rfl) (simA_cons (sim_ty rfl g.n_str PyProof.Rows.boot_str (by decide) rfl) simA_nil rfl) rfl) (by decide) rfl rfl rfl) (sim_bi (bi_isi hK) rfl g.n_isinstance (simA_cons (sim_var (i := 1) rfl (.inl rfl) rfl rfl) (simA_cons (sim_ty rfl g.n_str PyProof.Rows.boot_str (by decide) rfl) simA_nil rfl) rfl) (by decide) rfl rfl rfl) rfl) (sim_one (sim_cm (co_eq hK D.rm.u9) (sim_var (i := 0) rfl (.inl rfl) rfl rfl) (sim_var (i := 1) rfl (.inl rfl) rfl rfl) rfl))))))))

/-! _law_some_spec -/
abbrev st__law_some_spec : Stmt := (top 14)
def nm__law_some_spec : List Str := ["_law_bag", "_law_drops_z", "_law_numbers_z", "_law_k"]
theorem sc__law_some_spec : FnScope nm__law_some_spec ["_law_bag"] (defScope st__law_some_spec) := ⟨rfl, rfl, rfl, by decide +kernel, rfl, by decide +kernel, by decide +kernel⟩
noncomputable def mb__law_some_spec : MS := (sSeq (sAsg 1 (eBin fAdd (eC (.str "t")) (eMS mJoin (eC (.str "")) (aCons (shN (eCompN (sRng1 (aCons (eC (.int 7)) aNil)) (.n 3) testY (eCall 2 m__law_of (aCons (eVar 0) (aCons (eC (.str "ttrm")) aNil))) [3])) aNil))))
  (sSeq (sAsg 2 (eBin fAdd (eC (.str "t")) (eMS mJoin (eC (.str "")) (aCons (shN (eCompN (sRng1 (aCons (eC (.int 3)) aNil)) (.n 3) testY (eCall 2 m__law_of (aCons (eVar 0) (aCons (eC (.str "ttrm")) aNil))) [3])) aNil))))
  (sRet (eTup (aCons (eVar 1) (aCons (eVar 2) (aCons (eBin fGt (eCall 2 m__law_draw (aCons (eVar 0) (aCons (eC (.int 3)) aNil))) (eC (.int 0))) (aCons (eBin fEq (eCall 2 m__law_draw (aCons (eVar 0) (aCons (eC (.int 2)) aNil))) (eC (.int 0))) (aCons (eCall 2 m__law_of (aCons (eVar 0) (aCons (eLst (aCons (eC (.str "none")) (aCons (eC (.str "none")) (aCons (eC (.str "one")) (aCons (eC (.str "all")) aNil))))) aNil))) aNil)))))))))
noncomputable def xb__law_some_spec : MS := (xSSeq (xSAsg 1 (xEBin fAdd (xEC (.str "t")) (xEMS mJoin (xEC (.str "")) (xACons (xShN (xECompN (xSRng1 (xACons (xEC (.int 7)) xANil)) (.n 3) testY (xECall 2 m__law_of (xACons (xEVar 0) (xACons (xEC (.str "ttrm")) xANil))) [3])) xANil))))
  (xSSeq (xSAsg 2 (xEBin fAdd (xEC (.str "t")) (xEMS mJoin (xEC (.str "")) (xACons (xShN (xECompN (xSRng1 (xACons (xEC (.int 3)) xANil)) (.n 3) testY (xECall 2 m__law_of (xACons (xEVar 0) (xACons (xEC (.str "ttrm")) xANil))) [3])) xANil))))
  (xSRet (xETup (xACons (xEVar 1) (xACons (xEVar 2) (xACons (xEBin fGt (xECall 2 m__law_draw (xACons (xEVar 0) (xACons (xEC (.int 3)) xANil))) (xEC (.int 0))) (xACons (xEBin fEq (xECall 2 m__law_draw (xACons (xEVar 0) (xACons (xEC (.int 2)) xANil))) (xEC (.int 0))) (xACons (xECall 2 m__law_of (xACons (xEVar 0) (xACons (xELst (xACons (xEC (.str "none")) (xACons (xEC (.str "none")) (xACons (xEC (.str "one")) (xACons (xEC (.str "all")) xANil))))) xANil))) xANil)))))))))
theorem xe__law_some_spec : mb__law_some_spec = xb__law_some_spec := by kernel_rfl
@[irreducible] noncomputable def m__law_some_spec : MF := mkF 3 mb__law_some_spec
theorem b__law_some_spec {P : Program} {w : World} {K : PySem.W.Frag} {mg : Str → Option Value} {base : Heap} {B : Bs} {f : Addr} {cdv : Value} {A : Around} {outer : List Env} {s : Shared} {H : Hp} {E : XK} {k : Nat} {N : Ent} (hK : K = B.K) (g : Gm mg) (κ : Km w K B mg)
    (D : Bdy (cxOf (L2.CX P w) P w K mg base nm__law_some_spec "_law_some_spec" (defScope st__law_some_spec) f cdv A outer s H E) E k)  (F__law_of : Fn P w K mg base B k "_law_of" 2 m__law_of) (F__law_draw : Fn P w K mg base B k "_law_draw" 2 m__law_draw) :
    SimSs (cxOf (L2.CX P w) P w K mg base nm__law_some_spec "_law_some_spec" (defScope st__law_some_spec) f cdv A outer s H E) B N (fun c d _ H => E c d H) (defBody st__law_some_spec) (mb__law_some_spec) :=
  (simss_cons (sims_asg sc__law_some_spec.nd rfl (.inl rfl) (sim_add hK (sim_str (sok_of (by decide +kernel))) (sim_ms PySem.F.slot_str_join PySem.F.type_str_join mt_join (sem_join hK) (sim_str (sok_of (by decide +kernel))) (simA_cons (SimN.sh (sim_lc (own := [("_law_k", 3)]) hK rfl sc__law_some_spec.nd (sim_rng1 rfl g.n_range (simA_cons sim_int simA_nil rfl) rfl) (blk_of (by kernel_rfl)) (by decide) (fun _ _ _ _ _ => (pgT_n (pg_name sc__law_some_spec.nd rfl (.inl rfl) (.inr rfl)))) (fun _ _ _ _ _ => simTs_nil) (fun _ _ _ _ _ => (sim_call F__law_of (takesWF _) D.rm rfl (simA_cons (sim_var (i := 0) rfl (.inr (.inl rfl)) rfl rfl) (simA_cons (sim_str (sok_of (by decide +kernel))) simA_nil rfl) rfl) rfl rfl rfl)) (fun _ => rfl))) simA_nil rfl) rfl rfl rfl rfl rfl)) rfl (.inl rfl))
  (simss_cons (sims_asg sc__law_some_spec.nd rfl (.inl rfl) (sim_add hK (sim_str (sok_of (by decide +kernel))) (sim_ms PySem.F.slot_str_join PySem.F.type_str_join mt_join (sem_join hK) (sim_str (sok_of (by decide +kernel))) (simA_cons (SimN.sh (sim_lc (own := [("_law_k", 3)]) hK rfl sc__law_some_spec.nd (sim_rng1 rfl g.n_range (simA_cons sim_int simA_nil rfl) rfl) (blk_of (by kernel_rfl)) (by decide) (fun _ _ _ _ _ => (pgT_n (pg_name sc__law_some_spec.nd rfl (.inl rfl) (.inr rfl)))) (fun _ _ _ _ _ => simTs_nil) (fun _ _ _ _ _ => (sim_call F__law_of (takesWF _) D.rm rfl (simA_cons (sim_var (i := 0) rfl (.inr (.inl rfl)) rfl rfl) (simA_cons (sim_str (sok_of (by decide +kernel))) simA_nil rfl) rfl) rfl rfl rfl)) (fun _ => rfl))) simA_nil rfl) rfl rfl rfl rfl rfl)) rfl (.inl rfl))
  (simss_one (sims_ret (sim_tup (simA_cons (sim_var (i := 1) rfl (.inl rfl) rfl rfl) (simA_cons (sim_var (i := 2) rfl (.inl rfl) rfl rfl) (simA_cons (sim_cm (co_gt) (sim_call F__law_draw D.tk D.rm rfl (simA_cons (sim_var (i := 0) rfl (.inr (.inl rfl)) rfl rfl) (simA_cons sim_int simA_nil rfl) rfl) rfl rfl rfl) sim_int rfl) (simA_cons (sim_cm (co_eq hK D.rm.u9) (sim_call F__law_draw D.tk D.rm rfl (simA_cons (sim_var (i := 0) rfl (.inr (.inl rfl)) rfl rfl) (simA_cons sim_int simA_nil rfl) rfl) rfl rfl rfl) sim_int rfl) (simA_cons (sim_call F__law_of D.tk D.rm rfl (simA_cons (sim_var (i := 0) rfl (.inr (.inl rfl)) rfl rfl) (simA_cons (sim_lst (simA_cons (sim_str (sok_of (by decide +kernel))) (simA_cons (sim_str (sok_of (by decide +kernel))) (simA_cons (sim_str (sok_of (by decide +kernel))) (simA_cons (sim_str (sok_of (by decide +kernel))) simA_nil rfl) rfl) rfl) rfl)) simA_nil rfl) rfl) rfl rfl rfl) simA_nil rfl) rfl) rfl) rfl) rfl))))))

/-! _law_way -/
abbrev st__law_way : Stmt := (top 15)
def nm__law_way : List Str := ["_law_spec"]
theorem sc__law_way : FnScope nm__law_way ["_law_spec"] (defScope st__law_way) := ⟨rfl, rfl, rfl, by decide +kernel, rfl, by decide +kernel, by decide +kernel⟩
noncomputable def mb__law_way : MS := (sRet (eMkA cn_Way 2 3 [0, 1, 2, 3, 4, 5] [.str "tttttttt", .str "tttt"] 6 m_Way___init__ (aCons (eBin fIx (eVar 0) (eC (.int 0))) (aCons (eBin fIx (eVar 0) (eC (.int 1))) aNil)) (aCons (eBin fIx (eVar 0) (eC (.int 2))) (aCons (eBin fIx (eVar 0) (eC (.int 3))) (aCons (eBin fIx (eVar 0) (eC (.int 4))) aNil)))))
noncomputable def xb__law_way : MS := (xSRet (xEMkA cn_Way 2 3 [0, 1, 2, 3, 4, 5] [.str "tttttttt", .str "tttt"] 6 m_Way___init__ (xACons (xEBin fIx (xEVar 0) (xEC (.int 0))) (xACons (xEBin fIx (xEVar 0) (xEC (.int 1))) xANil)) (xACons (xEBin fIx (xEVar 0) (xEC (.int 2))) (xACons (xEBin fIx (xEVar 0) (xEC (.int 3))) (xACons (xEBin fIx (xEVar 0) (xEC (.int 4))) xANil)))))
theorem xe__law_way : mb__law_way = xb__law_way := by kernel_rfl
@[irreducible] noncomputable def m__law_way : MF := mkF 0 mb__law_way
theorem b__law_way {P : Program} {w : World} {K : PySem.W.Frag} {mg : Str → Option Value} {base : Heap} {B : Bs} {f : Addr} {cdv : Value} {A : Around} {outer : List Env} {s : Shared} {H : Hp} {E : XK} {k : Nat} {N : Ent} (hK : K = B.K) (g : Gm mg) (κ : Km w K B mg)
    (D : Bdy (cxOf (L2.CX P w) P w K mg base nm__law_way "_law_way" (defScope st__law_way) f cdv A outer s H E) E k)  (M_Way_2_stretches_hidden_lock : MkA P w K mg base B k "Way" cn_Way 2 ["stretches", "hidden", "lock"] [0, 1, 2, 3, 4, 5] [.str "tttttttt", .str "tttt"] 6 m_Way___init__) :
    SimSs (cxOf (L2.CX P w) P w K mg base nm__law_way "_law_way" (defScope st__law_way) f cdv A outer s H E) B N (fun c d _ H => E c d H) (defBody st__law_way) (mb__law_way) :=
  (simss_one (sims_ret (sim_mkA M_Way_2_stretches_hidden_lock D.tk D.rm rfl (simA_cons (sim_ix hK (sim_var (i := 0) rfl (.inl rfl) rfl rfl) sim_int (fun _ _ => rfl)) (simA_cons (sim_ix hK (sim_var (i := 0) rfl (.inl rfl) rfl rfl) sim_int (fun _ _ => rfl)) simA_nil rfl) rfl) (simK_cons (sim_ix hK (sim_var (i := 0) rfl (.inl rfl) rfl rfl) sim_int (fun _ _ => rfl)) (simK_cons (sim_ix hK (sim_var (i := 0) rfl (.inl rfl) rfl rfl) sim_int (fun _ _ => rfl)) (simK_cons (sim_ix hK (sim_var (i := 0) rfl (.inl rfl) rfl rfl) sim_int (fun _ _ => rfl)) simK_nil))) rfl rfl rfl rfl rfl rfl)))

/-! _law_way_text -/
abbrev st__law_way_text : Stmt := (top 16)
def nm__law_way_text : List Str := ["_law_spec", "_law_options"]
theorem sc__law_way_text : FnScope nm__law_way_text ["_law_spec"] (defScope st__law_way_text) := ⟨rfl, rfl, rfl, by decide +kernel, rfl, by decide +kernel, by decide +kernel⟩
noncomputable def mb__law_way_text : MS := (sSeq (sAsg 1 (eBin fAdd (eBin fMul (eLst (aCons (eC (.str "stretches")) aNil)) (eCB bInt (aCons (eBin fIx (eVar 0) (eC (.int 2))) aNil))) (eBin fMul (eLst (aCons (eC (.str "hidden")) aNil)) (eCB bInt (aCons (eBin fIx (eVar 0) (eC (.int 3))) aNil)))))
  (sRet (eMS mJoin (eC (.str " ")) (aCons (eBin fAdd (eBin fAdd (eLst (aCons (eC (.str "drops")) (aCons (eBin fIx (eVar 0) (eC (.int 0))) (aCons (eC (.str "numbers")) (aCons (eBin fIx (eVar 0) (eC (.int 1))) aNil))))) (eVar 1)) (eLst (aCons (eC (.str "lock")) (aCons (eBin fIx (eVar 0) (eC (.int 4))) aNil)))) aNil))))
noncomputable def xb__law_way_text : MS := (xSSeq (xSAsg 1 (xEBin fAdd (xEBin fMul (xELst (xACons (xEC (.str "stretches")) xANil)) (xECB bInt (xACons (xEBin fIx (xEVar 0) (xEC (.int 2))) xANil))) (xEBin fMul (xELst (xACons (xEC (.str "hidden")) xANil)) (xECB bInt (xACons (xEBin fIx (xEVar 0) (xEC (.int 3))) xANil)))))
  (xSRet (xEMS mJoin (xEC (.str " ")) (xACons (xEBin fAdd (xEBin fAdd (xELst (xACons (xEC (.str "drops")) (xACons (xEBin fIx (xEVar 0) (xEC (.int 0))) (xACons (xEC (.str "numbers")) (xACons (xEBin fIx (xEVar 0) (xEC (.int 1))) xANil))))) (xEVar 1)) (xELst (xACons (xEC (.str "lock")) (xACons (xEBin fIx (xEVar 0) (xEC (.int 4))) xANil)))) xANil))))
theorem xe__law_way_text : mb__law_way_text = xb__law_way_text := by kernel_rfl
@[irreducible] noncomputable def m__law_way_text : MF := mkF 1 mb__law_way_text
theorem b__law_way_text {P : Program} {w : World} {K : PySem.W.Frag} {mg : Str → Option Value} {base : Heap} {B : Bs} {f : Addr} {cdv : Value} {A : Around} {outer : List Env} {s : Shared} {H : Hp} {E : XK} {k : Nat} {N : Ent} (hK : K = B.K) (g : Gm mg) (κ : Km w K B mg)
    (D : Bdy (cxOf (L2.CX P w) P w K mg base nm__law_way_text "_law_way_text" (defScope st__law_way_text) f cdv A outer s H E) E k)   :
    SimSs (cxOf (L2.CX P w) P w K mg base nm__law_way_text "_law_way_text" (defScope st__law_way_text) f cdv A outer s H E) B N (fun c d _ H => E c d H) (defBody st__law_way_text) (mb__law_way_text) :=
  (simss_cons (sims_asg sc__law_way_text.nd rfl (.inl rfl) (sim_add hK (sim_mul hK (sim_lst (simA_cons (sim_str (sok_of (by decide +kernel))) simA_nil rfl)) (sim_bi (bi_int) rfl g.n_int (simA_cons (sim_ix hK (sim_var (i := 0) rfl (.inl rfl) rfl rfl) sim_int (fun _ _ => rfl)) simA_nil rfl) (by decide) rfl rfl rfl)) (sim_mul hK (sim_lst (simA_cons (sim_str (sok_of (by decide +kernel))) simA_nil rfl)) (sim_bi (bi_int) rfl g.n_int (simA_cons (sim_ix hK (sim_var (i := 0) rfl (.inl rfl) rfl rfl) sim_int (fun _ _ => rfl)) simA_nil rfl) (by decide) rfl rfl rfl))) rfl (.inl rfl))
  (simss_one (sims_ret (sim_ms PySem.F.slot_str_join PySem.F.type_str_join mt_join (sem_join hK) (sim_str (sok_of (by decide +kernel))) (simA_cons (sim_add hK (sim_add hK (sim_lst (simA_cons (sim_str (sok_of (by decide +kernel))) (simA_cons (sim_ix hK (sim_var (i := 0) rfl (.inl rfl) rfl rfl) sim_int (fun _ _ => rfl)) (simA_cons (sim_str (sok_of (by decide +kernel))) (simA_cons (sim_ix hK (sim_var (i := 0) rfl (.inl rfl) rfl rfl) sim_int (fun _ _ => rfl)) simA_nil rfl) rfl) rfl) rfl)) (sim_var (i := 1) rfl (.inl rfl) rfl rfl)) (sim_lst (simA_cons (sim_str (sok_of (by decide +kernel))) (simA_cons (sim_ix hK (sim_var (i := 0) rfl (.inl rfl) rfl rfl) sim_int (fun _ _ => rfl)) simA_nil rfl) rfl))) simA_nil rfl) rfl rfl rfl rfl rfl))))

/-! _law_word -/
abbrev st__law_word : Stmt := (top 17)
def nm__law_word : List Str := ["_law_letter"]
theorem sc__law_word : FnScope nm__law_word ["_law_letter"] (defScope st__law_word) := ⟨rfl, rfl, rfl, by decide +kernel, rfl, by decide +kernel, by decide +kernel⟩
noncomputable def mb__law_word : MS := (sRet (eBin fIx (eLst (aCons (eC (.str "taken")) (aCons (eC (.str "refused")) (aCons (eC (.str "made")) aNil)))) (eMS mSIndex (eC (.str "trm")) (aCons (eVar 0) aNil))))
noncomputable def xb__law_word : MS := (xSRet (xEBin fIx (xELst (xACons (xEC (.str "taken")) (xACons (xEC (.str "refused")) (xACons (xEC (.str "made")) xANil)))) (xEMS mSIndex (xEC (.str "trm")) (xACons (xEVar 0) xANil))))
theorem xe__law_word : mb__law_word = xb__law_word := by kernel_rfl
@[irreducible] noncomputable def m__law_word : MF := mkF 0 mb__law_word
theorem b__law_word {P : Program} {w : World} {K : PySem.W.Frag} {mg : Str → Option Value} {base : Heap} {B : Bs} {f : Addr} {cdv : Value} {A : Around} {outer : List Env} {s : Shared} {H : Hp} {E : XK} {k : Nat} {N : Ent} (hK : K = B.K) (g : Gm mg) (κ : Km w K B mg)
    (D : Bdy (cxOf (L2.CX P w) P w K mg base nm__law_word "_law_word" (defScope st__law_word) f cdv A outer s H E) E k)   :
    SimSs (cxOf (L2.CX P w) P w K mg base nm__law_word "_law_word" (defScope st__law_word) f cdv A outer s H E) B N (fun c d _ H => E c d H) (defBody st__law_word) (mb__law_word) :=
  (simss_one (sims_ret (sim_ix hK (sim_lst (simA_cons (sim_str (sok_of (by decide +kernel))) (simA_cons (sim_str (sok_of (by decide +kernel))) (simA_cons (sim_str (sok_of (by decide +kernel))) simA_nil rfl) rfl) rfl)) (sim_ms PySem.F.slot_str_index PySem.F.type_str_index mt_sindex sem_sindex (sim_str (sok_of (by decide +kernel))) (simA_cons (sim_var (i := 0) rfl (.inl rfl) rfl rfl) simA_nil rfl) rfl rfl rfl rfl rfl) (fun _ _ => rfl))))

/-! _law_answers_so -/
abbrev st__law_answers_so : Stmt := (top 18)
def nm__law_answers_so : List Str := ["_law_made", "_law_spec", "_law_found", "_law_k", "_law_letter"]
theorem sc__law_answers_so : FnScope nm__law_answers_so ["_law_made", "_law_spec"] (defScope st__law_answers_so) := ⟨rfl, rfl, rfl, by decide +kernel, rfl, by decide +kernel, by decide +kernel⟩
noncomputable def mb__law_answers_so : MS := (sSeq (sAsg 2 (shN (eCompN (sRng1 (aCons (eC (.int 8)) aNil)) (.n 3) testY (eMeA cn_Way 0 3 [0, 2, 1, 3] [] 4 m_Way_drop_answer (eVar 0) aNil (aCons (eBin fIn (eBin fFdv (eVar 3) (eC (.int 2))) (eLst (aCons (eC (.int 1)) (aCons (eC (.int 3)) aNil)))) (aCons (eBin fEq (eBin fFdv (eVar 3) (eC (.int 4))) (eC (.int 1))) (aCons (eBin fIn (eVar 3) (eLst (aCons (eC (.int 1)) (aCons (eC (.int 3)) (aCons (eC (.int 5)) (aCons (eC (.int 7)) aNil)))))) aNil)))) [3])))
  (sSeq (sAsg 2 (eBin fAdd (eVar 2) (shN (eCompN (sRng1 (aCons (eC (.int 4)) aNil)) (.n 3) testY (eMeA cn_Way 0 2 [0, 2, 1] [] 3 m_Way_number_answer (eVar 0) aNil (aCons (eBin fIn (eVar 3) (eLst (aCons (eC (.int 1)) (aCons (eC (.int 3)) aNil)))) (aCons (eBin fEq (eBin fFdv (eVar 3) (eC (.int 2))) (eC (.int 1))) aNil))) [3]))))
  (sRet (eCall 2 m__law_like (aCons (eVar 2) (aCons (shN (eCompN (sAny (eBin fAdd (eBin fIx (eVar 1) (eC (.int 0))) (eBin fIx (eVar 1) (eC (.int 1))))) (.n 4) testY (eCall 1 m__law_word (aCons (eVar 4) aNil)) [4])) aNil))))))
noncomputable def xb__law_answers_so : MS := (xSSeq (xSAsg 2 (xShN (xECompN (xSRng1 (xACons (xEC (.int 8)) xANil)) (.n 3) testY (xEMeA cn_Way 0 3 [0, 2, 1, 3] [] 4 m_Way_drop_answer (xEVar 0) xANil (xACons (xEBin fIn (xEBin fFdv (xEVar 3) (xEC (.int 2))) (xELst (xACons (xEC (.int 1)) (xACons (xEC (.int 3)) xANil)))) (xACons (xEBin fEq (xEBin fFdv (xEVar 3) (xEC (.int 4))) (xEC (.int 1))) (xACons (xEBin fIn (xEVar 3) (xELst (xACons (xEC (.int 1)) (xACons (xEC (.int 3)) (xACons (xEC (.int 5)) (xACons (xEC (.int 7)) xANil)))))) xANil)))) [3])))
  (xSSeq (xSAsg 2 (xEBin fAdd (xEVar 2) (xShN (xECompN (xSRng1 (xACons (xEC (.int 4)) xANil)) (.n 3) testY (xEMeA cn_Way 0 2 [0, 2, 1] [] 3 m_Way_number_answer (xEVar 0) xANil (xACons (xEBin fIn (xEVar 3) (xELst (xACons (xEC (.int 1)) (xACons (xEC (.int 3)) xANil)))) (xACons (xEBin fEq (xEBin fFdv (xEVar 3) (xEC (.int 2))) (xEC (.int 1))) xANil))) [3]))))
  (xSRet (xECall 2 m__law_like (xACons (xEVar 2) (xACons (xShN (xECompN (xSAny (xEBin fAdd (xEBin fIx (xEVar 1) (xEC (.int 0))) (xEBin fIx (xEVar 1) (xEC (.int 1))))) (.n 4) testY (xECall 1 m__law_word (xACons (xEVar 4) xANil)) [4])) xANil))))))
theorem xe__law_answers_so : mb__law_answers_so = xb__law_answers_so := by kernel_rfl
@[irreducible] noncomputable def m__law_answers_so : MF := mkF 3 mb__law_answers_so
theorem b__law_answers_so {P : Program} {w : World} {K : PySem.W.Frag} {mg : Str → Option Value} {base : Heap} {B : Bs} {f : Addr} {cdv : Value} {A : Around} {outer : List Env} {s : Shared} {H : Hp} {E : XK} {k : Nat} {N : Ent} (hK : K = B.K) (g : Gm mg) (κ : Km w K B mg)
    (D : Bdy (cxOf (L2.CX P w) P w K mg base nm__law_answers_so "_law_answers_so" (defScope st__law_answers_so) f cdv A outer s H E) E k)  (F__law_like : Fn P w K mg base B k "_law_like" 2 m__law_like) (F__law_word : Fn P w K mg base B k "_law_word" 1 m__law_word) (E_Way_drop_answer_0_again_elder_apart : MeA P w K mg base B k cn_Way "drop_answer" 0 ["again", "elder", "apart"] [0, 2, 1, 3] [] 4 m_Way_drop_answer) (E_Way_number_answer_0_dropped_elder : MeA P w K mg base B k cn_Way "number_answer" 0 ["dropped", "elder"] [0, 2, 1] [] 3 m_Way_number_answer) :
    SimSs (cxOf (L2.CX P w) P w K mg base nm__law_answers_so "_law_answers_so" (defScope st__law_answers_so) f cdv A outer s H E) B N (fun c d _ H => E c d H) (defBody st__law_answers_so) (mb__law_answers_so) :=
  (simss_cons (sims_asgLc (own := [("_law_k", 3)]) hK rfl sc__law_answers_so.nd rfl rfl rfl (sim_rng1 rfl g.n_range (simA_cons sim_int simA_nil rfl) rfl) (blk_of (by kernel_rfl)) (by decide) (fun _ _ _ _ _ => (pgT_n (pg_name sc__law_answers_so.nd rfl (.inl rfl) (.inr rfl)))) (fun _ _ _ _ _ => simTs_nil) (fun _ _ _ _ _ => (sim_meA0 (pl := _) E_Way_drop_answer_0_again_elder_apart κ.cm_Way (by decide) (takesWF _) D.rm (sim_var (i := 0) rfl (.inr (.inl rfl)) rfl rfl) (simK_cons (sim_cm (co_in hK D.rm.u9) (sim_fdv (sim_var (i := 3) rfl (.inl rfl) rfl rfl) sim_int) (sim_lst (simA_cons sim_int (simA_cons sim_int simA_nil rfl) rfl)) rfl) (simK_cons (sim_cm (co_eq hK D.rm.u9) (sim_fdv (sim_var (i := 3) rfl (.inl rfl) rfl rfl) sim_int) sim_int rfl) (simK_cons (sim_cm (co_in hK D.rm.u9) (sim_var (i := 3) rfl (.inl rfl) rfl rfl) (sim_lst (simA_cons sim_int (simA_cons sim_int (simA_cons sim_int (simA_cons sim_int simA_nil rfl) rfl) rfl) rfl)) rfl) simK_nil))) rfl rfl rfl rfl rfl)) (fun _ => rfl))
  (simss_cons (sims_asg sc__law_answers_so.nd rfl (.inl rfl) (sim_add hK (sim_var (i := 2) rfl (.inl rfl) rfl rfl) (SimN.sh (sim_lc (own := [("_law_k", 3)]) hK rfl sc__law_answers_so.nd (sim_rng1 rfl g.n_range (simA_cons sim_int simA_nil rfl) rfl) (blk_of (by kernel_rfl)) (by decide) (fun _ _ _ _ _ => (pgT_n (pg_name sc__law_answers_so.nd rfl (.inl rfl) (.inr rfl)))) (fun _ _ _ _ _ => simTs_nil) (fun _ _ _ _ _ => (sim_meA0 (pl := _) E_Way_number_answer_0_dropped_elder κ.cm_Way (by decide) (takesWF _) D.rm (sim_var (i := 0) rfl (.inr (.inl rfl)) rfl rfl) (simK_cons (sim_cm (co_in hK D.rm.u9) (sim_var (i := 3) rfl (.inl rfl) rfl rfl) (sim_lst (simA_cons sim_int (simA_cons sim_int simA_nil rfl) rfl)) rfl) (simK_cons (sim_cm (co_eq hK D.rm.u9) (sim_fdv (sim_var (i := 3) rfl (.inl rfl) rfl rfl) sim_int) sim_int rfl) simK_nil)) rfl rfl rfl rfl rfl)) (fun _ => rfl)))) rfl (.inl rfl))
  (simss_one (sims_ret (sim_call F__law_like D.tk D.rm rfl (simA_cons (sim_var (i := 2) rfl (.inl rfl) rfl rfl) (simA_cons (SimN.sh (sim_lc (own := [("_law_letter", 4)]) hK rfl sc__law_answers_so.nd (sim_any hK (sim_add hK (sim_ix hK (sim_var (i := 1) rfl (.inl rfl) rfl rfl) sim_int (fun _ _ => rfl)) (sim_ix hK (sim_var (i := 1) rfl (.inl rfl) rfl rfl) sim_int (fun _ _ => rfl)))) (blk_of (by kernel_rfl)) (by decide) (fun _ _ _ _ _ => (pgT_n (pg_name sc__law_answers_so.nd rfl (.inl rfl) (.inr rfl)))) (fun _ _ _ _ _ => simTs_nil) (fun _ _ _ _ _ => (sim_call F__law_word (takesWF _) D.rm rfl (simA_cons (sim_var (i := 4) rfl (.inl rfl) rfl rfl) simA_nil rfl) rfl rfl rfl)) (fun _ => rfl))) simA_nil rfl) rfl) rfl rfl rfl)))))

/-! law -/
abbrev st_law : Stmt := (top 19)
def nm_law : List Str := ["_law_script", "_law_bag", "_law_turn", "_law_spec", "_law_other", "_law_made", "_law_text_z", "_law_look", "_law_found", "_law_at", "_law_near", "_law_late", "_law_parts", "_law_plain", "_law_one"]
theorem sc_law : FnScope nm_law ["_law_script"] (defScope st_law) := ⟨rfl, rfl, rfl, by decide +kernel, rfl, by decide +kernel, by decide +kernel⟩
noncomputable def mb_law : MS := (sSeq (sAsg 1 (eCall 1 m__law_open (aCons (eVar 0) aNil)))
  (sSeq (sFor (sRng1 (aCons (eC (.int 6)) aNil)) (.n 2) (sSeq (sPar 3 4 (aCons (eCall 1 m__law_some_spec (aCons (eVar 1) aNil)) (aCons (eCall 1 m__law_some_spec (aCons (eVar 1) aNil)) aNil)))
  (sSeq (sPar 5 6 (aCons (eCall 1 m__law_way (aCons (eVar 3) aNil)) (aCons (eCall 1 m__law_way_text (aCons (eVar 3) aNil)) aNil)))
  (sSeq (sFor (sRng1 (aCons (eC (.int 2)) aNil)) (.n 7) (sSeq (sAsg 8 (eLst (aCons (eFld ifl "drops" (eVar 5)) (aCons (eFld ifl "numbers" (eVar 5)) (aCons (eFld ifl "stretches" (eVar 5)) (aCons (eFld ifl "hidden" (eVar 5)) (aCons (eFld ifl "lock" (eVar 5)) (aCons (eMeA cn_Way 0 0 [0] [] 1 m_Way_text (eVar 5) aNil aNil) (aCons (eRepr cn_Way m_Way___repr__ (aCons (eVar 5) aNil)) aNil)))))))))
  (sIf (notM (tM (eCall 2 m__law_like (aCons (eVar 8) (aCons (eBin fAdd (eCB bList (aCons (eVar 3) aNil)) (eLst (aCons (eVar 6) (aCons (eBin fAdd (eBin fAdd (eC (.str "Way(")) (eVar 6)) (eC (.str ")"))) aNil)))) aNil))))) (sRet (eC (.bl false))) sNil)))
  (sSeq (sIf (notM (tM (eCall 2 m__law_answers_so (aCons (eVar 5) (aCons (eVar 3) aNil))))) (sRet (eC (.bl false))) sNil)
  (sSeq (sAsg 9 (eCall 2 m__law_draw (aCons (eVar 1) (aCons (eC (.int 5)) aNil))))
  (sSeq (sAsg 10 (eBin fAdd (eBin fAdd (eSl (eVar 3) oNone (oSome (eVar 9))) (eTup (aCons (eBin fIx (eVar 4) (eVar 9)) aNil))) (eSl (eVar 3) (oSome (eBin fAdd (eVar 9) (eC (.int 1)))) oNone)))
  (sSeq (sAsg 11 (eLst (aCons (eMeA cn_Way 0 0 [0, 1, 2, 3, 4, 5] [.non, .non, .non, .non, .non] 6 m_Way_but (eVar 5) aNil aNil) (aCons (eMeA cn_Way 0 5 [0, 5, 4, 3, 2, 1] [] 6 m_Way_but (eVar 5) aNil (aCons (eBin fIx (eVar 10) (eC (.int 4))) (aCons (eBin fIx (eVar 10) (eC (.int 3))) (aCons (eBin fIx (eVar 10) (eC (.int 2))) (aCons (eBin fIx (eVar 10) (eC (.int 1))) (aCons (eBin fIx (eVar 10) (eC (.int 0))) aNil)))))) aNil))))
  (sSeq (sAsg 12 (eLst (aCons (eMeA cn_Way 0 1 [0, 1, 2, 3, 4, 5] [.non, .non, .non, .non] 6 m_Way_but (eVar 5) aNil (aCons (eBin fIx (eVar 4) (eC (.int 0))) aNil)) (aCons (eMeA cn_Way 0 1 [0, 2, 1, 3, 4, 5] [.non, .non, .non, .non] 6 m_Way_but (eVar 5) aNil (aCons (eBin fIx (eVar 4) (eC (.int 1))) aNil)) (aCons (eMeA cn_Way 0 1 [0, 2, 3, 1, 4, 5] [.non, .non, .non, .non] 6 m_Way_but (eVar 5) aNil (aCons (eBin fIx (eVar 4) (eC (.int 2))) aNil)) (aCons (eMeA cn_Way 0 1 [0, 2, 3, 4, 1, 5] [.non, .non, .non, .non] 6 m_Way_but (eVar 5) aNil (aCons (eBin fIx (eVar 4) (eC (.int 3))) aNil)) (aCons (eMeA cn_Way 0 1 [0, 2, 3, 4, 5, 1] [.non, .non, .non, .non] 6 m_Way_but (eVar 5) aNil (aCons (eBin fIx (eVar 4) (eC (.int 4))) aNil)) aNil)))))))
  (sSeq (sIf (orM (notM (tM (eCall 2 m__law_like (aCons (shN (eCompN (sAny (eVar 11)) (.n 14) testY (eMeA cn_Way 0 0 [0] [] 1 m_Way_text (eVar 14) aNil aNil) [14])) (aCons (eLst (aCons (eVar 6) (aCons (eCall 1 m__law_way_text (aCons (eVar 10) aNil)) aNil))) aNil))))) (bM (eCmpI cn_Way true m_Way___eq__ (eBin fIx (eVar 11) (eC (.int 0))) (eVar 5)))) (sRet (eC (.bl false))) sNil)
  (sSeq (sIf (orM (bM (eCmpI cn_Way true m_Way___eq__ (eBin fIx (eVar 12) (eVar 9)) (eBin fIx (eVar 11) (eC (.int 1))))) (orM (bM (eCmpI cn_Way true m_Way___eq__ (eCmpI cn_Way false m_Way___eq__ (eVar 5) (eBin fIx (eVar 11) (eC (.int 1)))) (eCmpI cn_Way false m_Way___eq__ (eVar 10) (eVar 3)))) (orM (bM (eCmpI cn_Way false m_Way___eq__ (eVar 5) (eVar 6))) (bM (eCmpI cn_Way false m_Way___eq__ (eVar 5) (eC .non)))))) (sRet (eC (.bl false))) sNil)
  (sIf (orM (bM (eCmpI cn_Way true m_Way___eq__ (eCallK 1 0 [0] 1 m_Way_read (aCons (eVar 6) aNil) aNil) (eVar 5))) (notM (tM (eCall 2 m__law_like (aCons (eMeA cn_Way 0 0 [0] [] 1 m_Way_text (eCallK 0 1 [0] 1 m_Way_read aNil (aCons (eCall 1 m__law_way_text (aCons (eVar 4) aNil)) aNil)) aNil aNil) (aCons (eCall 1 m__law_way_text (aCons (eVar 4) aNil)) aNil)))))) (sRet (eC (.bl false))) sNil))))))))))))
  (sSeq (sAsg 13 (eMkA cn_Way 0 0 [0, 1, 2, 3, 4, 5] [.str "tttttttt", .str "tttt", .bl false, .bl false, .str "none"] 6 m_Way___init__ aNil aNil))
  (sSeq (sAsg 8 (eLst (aCons (eMeA cn_Way 0 0 [0] [] 1 m_Way_text (eVar 13) aNil aNil) (aCons (eFld ifl "drops" (eMkA cn_Way 1 0 [0, 1, 3, 4, 5, 6] [.str "tttttttt", .str "tttt", .bl false, .bl false, .str "none"] 6 m_Way___init__ (aCons (eC (.str "tttttttm")) aNil) aNil)) (aCons (eFld ifl "numbers" (eMkA cn_Way 0 1 [0, 2, 1, 4, 5, 6] [.str "tttttttt", .str "tttt", .bl false, .bl false, .str "none"] 6 m_Way___init__ aNil (aCons (eC (.str "trrr")) aNil))) (aCons (eC (.tup [.str "none", .str "one", .str "all"])) (aCons (eC (.tup [.str "taken", .str "refused", .str "made"])) aNil)))))))
  (sRet (eCall 2 m__law_like (aCons (eVar 8) (aCons (eLst (aCons (eC (.str "drops tttttttt numbers tttt lock none")) (aCons (eC (.str "tttttttm")) (aCons (eC (.str "trrr")) (aCons (eTup (aCons (eC (.str "none")) (aCons (eC (.str "one")) (aCons (eC (.str "all")) aNil)))) (aCons (eTup (aCons (eC (.str "taken")) (aCons (eC (.str "refused")) (aCons (eC (.str "made")) aNil)))) aNil)))))) aNil))))))))
noncomputable def xb_law : MS := (xSSeq (xSAsg 1 (xECall 1 m__law_open (xACons (xEVar 0) xANil)))
  (xSSeq (xSFor (xSRng1 (xACons (xEC (.int 6)) xANil)) (.n 2) (xSSeq (xSPar 3 4 (xACons (xECall 1 m__law_some_spec (xACons (xEVar 1) xANil)) (xACons (xECall 1 m__law_some_spec (xACons (xEVar 1) xANil)) xANil)))
  (xSSeq (xSPar 5 6 (xACons (xECall 1 m__law_way (xACons (xEVar 3) xANil)) (xACons (xECall 1 m__law_way_text (xACons (xEVar 3) xANil)) xANil)))
  (xSSeq (xSFor (xSRng1 (xACons (xEC (.int 2)) xANil)) (.n 7) (xSSeq (xSAsg 8 (xELst (xACons (xEFld ifl "drops" (xEVar 5)) (xACons (xEFld ifl "numbers" (xEVar 5)) (xACons (xEFld ifl "stretches" (xEVar 5)) (xACons (xEFld ifl "hidden" (xEVar 5)) (xACons (xEFld ifl "lock" (xEVar 5)) (xACons (xEMeA cn_Way 0 0 [0] [] 1 m_Way_text (xEVar 5) xANil xANil) (xACons (xERepr cn_Way m_Way___repr__ (xACons (xEVar 5) xANil)) xANil)))))))))
  (xSIf (xNotM (xTM (xECall 2 m__law_like (xACons (xEVar 8) (xACons (xEBin fAdd (xECB bList (xACons (xEVar 3) xANil)) (xELst (xACons (xEVar 6) (xACons (xEBin fAdd (xEBin fAdd (xEC (.str "Way(")) (xEVar 6)) (xEC (.str ")"))) xANil)))) xANil))))) (xSRet (xEC (.bl false))) xSNil)))
  (xSSeq (xSIf (xNotM (xTM (xECall 2 m__law_answers_so (xACons (xEVar 5) (xACons (xEVar 3) xANil))))) (xSRet (xEC (.bl false))) xSNil)
  (xSSeq (xSAsg 9 (xECall 2 m__law_draw (xACons (xEVar 1) (xACons (xEC (.int 5)) xANil))))
  (xSSeq (xSAsg 10 (xEBin fAdd (xEBin fAdd (xESl (xEVar 3) xONone (xOSome (xEVar 9))) (xETup (xACons (xEBin fIx (xEVar 4) (xEVar 9)) xANil))) (xESl (xEVar 3) (xOSome (xEBin fAdd (xEVar 9) (xEC (.int 1)))) xONone)))
  (xSSeq (xSAsg 11 (xELst (xACons (xEMeA cn_Way 0 0 [0, 1, 2, 3, 4, 5] [.non, .non, .non, .non, .non] 6 m_Way_but (xEVar 5) xANil xANil) (xACons (xEMeA cn_Way 0 5 [0, 5, 4, 3, 2, 1] [] 6 m_Way_but (xEVar 5) xANil (xACons (xEBin fIx (xEVar 10) (xEC (.int 4))) (xACons (xEBin fIx (xEVar 10) (xEC (.int 3))) (xACons (xEBin fIx (xEVar 10) (xEC (.int 2))) (xACons (xEBin fIx (xEVar 10) (xEC (.int 1))) (xACons (xEBin fIx (xEVar 10) (xEC (.int 0))) xANil)))))) xANil))))
  (xSSeq (xSAsg 12 (xELst (xACons (xEMeA cn_Way 0 1 [0, 1, 2, 3, 4, 5] [.non, .non, .non, .non] 6 m_Way_but (xEVar 5) xANil (xACons (xEBin fIx (xEVar 4) (xEC (.int 0))) xANil)) (xACons (xEMeA cn_Way 0 1 [0, 2, 1, 3, 4, 5] [.non, .non, .non, .non] 6 m_Way_but (xEVar 5) xANil (xACons (xEBin fIx (xEVar 4) (xEC (.int 1))) xANil)) (xACons (xEMeA cn_Way 0 1 [0, 2, 3, 1, 4, 5] [.non, .non, .non, .non] 6 m_Way_but (xEVar 5) xANil (xACons (xEBin fIx (xEVar 4) (xEC (.int 2))) xANil)) (xACons (xEMeA cn_Way 0 1 [0, 2, 3, 4, 1, 5] [.non, .non, .non, .non] 6 m_Way_but (xEVar 5) xANil (xACons (xEBin fIx (xEVar 4) (xEC (.int 3))) xANil)) (xACons (xEMeA cn_Way 0 1 [0, 2, 3, 4, 5, 1] [.non, .non, .non, .non] 6 m_Way_but (xEVar 5) xANil (xACons (xEBin fIx (xEVar 4) (xEC (.int 4))) xANil)) xANil)))))))
  (xSSeq (xSIf (xOrM (xNotM (xTM (xECall 2 m__law_like (xACons (xShN (xECompN (xSAny (xEVar 11)) (.n 14) testY (xEMeA cn_Way 0 0 [0] [] 1 m_Way_text (xEVar 14) xANil xANil) [14])) (xACons (xELst (xACons (xEVar 6) (xACons (xECall 1 m__law_way_text (xACons (xEVar 10) xANil)) xANil))) xANil))))) (xBM (xECmpI cn_Way true m_Way___eq__ (xEBin fIx (xEVar 11) (xEC (.int 0))) (xEVar 5)))) (xSRet (xEC (.bl false))) xSNil)
  (xSSeq (xSIf (xOrM (xBM (xECmpI cn_Way true m_Way___eq__ (xEBin fIx (xEVar 12) (xEVar 9)) (xEBin fIx (xEVar 11) (xEC (.int 1))))) (xOrM (xBM (xECmpI cn_Way true m_Way___eq__ (xECmpI cn_Way false m_Way___eq__ (xEVar 5) (xEBin fIx (xEVar 11) (xEC (.int 1)))) (xECmpI cn_Way false m_Way___eq__ (xEVar 10) (xEVar 3)))) (xOrM (xBM (xECmpI cn_Way false m_Way___eq__ (xEVar 5) (xEVar 6))) (xBM (xECmpI cn_Way false m_Way___eq__ (xEVar 5) (xEC .non)))))) (xSRet (xEC (.bl false))) xSNil)
  (xSIf (xOrM (xBM (xECmpI cn_Way true m_Way___eq__ (xECallK 1 0 [0] 1 m_Way_read (xACons (xEVar 6) xANil) xANil) (xEVar 5))) (xNotM (xTM (xECall 2 m__law_like (xACons (xEMeA cn_Way 0 0 [0] [] 1 m_Way_text (xECallK 0 1 [0] 1 m_Way_read xANil (xACons (xECall 1 m__law_way_text (xACons (xEVar 4) xANil)) xANil)) xANil xANil) (xACons (xECall 1 m__law_way_text (xACons (xEVar 4) xANil)) xANil)))))) (xSRet (xEC (.bl false))) xSNil))))))))))))
  (xSSeq (xSAsg 13 (xEMkA cn_Way 0 0 [0, 1, 2, 3, 4, 5] [.str "tttttttt", .str "tttt", .bl false, .bl false, .str "none"] 6 m_Way___init__ xANil xANil))
  (xSSeq (xSAsg 8 (xELst (xACons (xEMeA cn_Way 0 0 [0] [] 1 m_Way_text (xEVar 13) xANil xANil) (xACons (xEFld ifl "drops" (xEMkA cn_Way 1 0 [0, 1, 3, 4, 5, 6] [.str "tttttttt", .str "tttt", .bl false, .bl false, .str "none"] 6 m_Way___init__ (xACons (xEC (.str "tttttttm")) xANil) xANil)) (xACons (xEFld ifl "numbers" (xEMkA cn_Way 0 1 [0, 2, 1, 4, 5, 6] [.str "tttttttt", .str "tttt", .bl false, .bl false, .str "none"] 6 m_Way___init__ xANil (xACons (xEC (.str "trrr")) xANil))) (xACons (xEC (.tup [.str "none", .str "one", .str "all"])) (xACons (xEC (.tup [.str "taken", .str "refused", .str "made"])) xANil)))))))
  (xSRet (xECall 2 m__law_like (xACons (xEVar 8) (xACons (xELst (xACons (xEC (.str "drops tttttttt numbers tttt lock none")) (xACons (xEC (.str "tttttttm")) (xACons (xEC (.str "trrr")) (xACons (xETup (xACons (xEC (.str "none")) (xACons (xEC (.str "one")) (xACons (xEC (.str "all")) xANil)))) (xACons (xETup (xACons (xEC (.str "taken")) (xACons (xEC (.str "refused")) (xACons (xEC (.str "made")) xANil)))) xANil)))))) xANil))))))))
theorem xe_law : mb_law = xb_law := by kernel_rfl
@[irreducible] noncomputable def m_law : MF := mkF 14 mb_law
theorem b_law {P : Program} {w : World} {K : PySem.W.Frag} {mg : Str → Option Value} {base : Heap} {B : Bs} {f : Addr} {cdv : Value} {A : Around} {outer : List Env} {s : Shared} {H : Hp} {E : XK} {k : Nat} {N : Ent} (hK : K = B.K) (g : Gm mg) (κ : Km w K B mg)
    (D : Bdy (cxOf (L2.CX P w) P w K mg base nm_law "law" (defScope st_law) f cdv A outer s H E) E k)  (F__law_open : Fn P w K mg base B k "_law_open" 1 m__law_open) (F__law_some_spec : Fn P w K mg base B k "_law_some_spec" 1 m__law_some_spec) (F__law_way_text : Fn P w K mg base B k "_law_way_text" 1 m__law_way_text) (F__law_way : Fn P w K mg base B k "_law_way" 1 m__law_way) (F__law_like : Fn P w K mg base B k "_law_like" 2 m__law_like) (F__law_answers_so : Fn P w K mg base B k "_law_answers_so" 2 m__law_answers_so) (F__law_draw : Fn P w K mg base B k "_law_draw" 2 m__law_draw) (M_Way_0_ : MkA P w K mg base B k "Way" cn_Way 0 [] [0, 1, 2, 3, 4, 5] [.str "tttttttt", .str "tttt", .bl false, .bl false, .str "none"] 6 m_Way___init__) (M_Way_0_numbers : MkA P w K mg base B k "Way" cn_Way 0 ["numbers"] [0, 2, 1, 4, 5, 6] [.str "tttttttt", .str "tttt", .bl false, .bl false, .str "none"] 6 m_Way___init__) (M_Way_1_ : MkA P w K mg base B k "Way" cn_Way 1 [] [0, 1, 3, 4, 5, 6] [.str "tttttttt", .str "tttt", .bl false, .bl false, .str "none"] 6 m_Way___init__) (E_Way_text_0_ : MeA P w K mg base B k cn_Way "text" 0 [] [0] [] 1 m_Way_text) (E_Way_but_0_lock_hidden_stretches_numbers_drops : MeA P w K mg base B k cn_Way "but" 0 ["lock", "hidden", "stretches", "numbers", "drops"] [0, 5, 4, 3, 2, 1] [] 6 m_Way_but) (E_Way_but_0_ : MeA P w K mg base B k cn_Way "but" 0 [] [0, 1, 2, 3, 4, 5] [.non, .non, .non, .non, .non] 6 m_Way_but) (E_Way_but_0_lock : MeA P w K mg base B k cn_Way "but" 0 ["lock"] [0, 2, 3, 4, 5, 1] [.non, .non, .non, .non] 6 m_Way_but) (E_Way_but_0_hidden : MeA P w K mg base B k cn_Way "but" 0 ["hidden"] [0, 2, 3, 4, 1, 5] [.non, .non, .non, .non] 6 m_Way_but) (E_Way_but_0_stretches : MeA P w K mg base B k cn_Way "but" 0 ["stretches"] [0, 2, 3, 1, 4, 5] [.non, .non, .non, .non] 6 m_Way_but) (E_Way_but_0_numbers : MeA P w K mg base B k cn_Way "but" 0 ["numbers"] [0, 2, 1, 3, 4, 5] [.non, .non, .non, .non] 6 m_Way_but) (E_Way_but_0_drops : MeA P w K mg base B k cn_Way "but" 0 ["drops"] [0, 1, 2, 3, 4, 5] [.non, .non, .non, .non] 6 m_Way_but) (E_Way___eq___1_ : MeA P w K mg base B k cn_Way "__eq__" 1 [] [0, 1] [] 2 m_Way___eq__) (S_Way_read_1_ : SmK P w K mg base B k "Way" "read" 1 [] [0] 1 m_Way_read) (S_Way_read_0_text : SmK P w K mg base B k "Way" "read" 0 ["text"] [0] 1 m_Way_read) (N_Way___repr___0_ : MeN P w K mg base B k cn_Way "__repr__" 0 [] [0] [] 1 m_Way___repr__) (N_Way___eq___1_ : MeN P w K mg base B k cn_Way "__eq__" 1 [] [0, 1] [] 2 m_Way___eq__) :
    SimSs (cxOf (L2.CX P w) P w K mg base nm_law "law" (defScope st_law) f cdv A outer s H E) B N (fun c d _ H => E c d H) (defBody st_law) (mb_law) :=
  (simss_cons (sims_asg sc_law.nd rfl (.inl rfl) (sim_call F__law_open D.tk D.rm rfl (simA_cons (sim_var (i := 0) rfl (.inl rfl) rfl rfl) simA_nil rfl) rfl rfl rfl) rfl (.inl rfl))
  (simss_cons (sims_for D.pa hK rfl (sim_rng1 rfl g.n_range (simA_cons sim_int simA_nil rfl) rfl) (pgT_n (pg_name sc_law.nd rfl (.inl rfl) (.inl rfl))) (fun _ => (simss_cons (sims_par (i := 3) (j := 4) rfl sc_law.nd rfl rfl (by decide) rfl rfl (simA_cons (sim_call F__law_some_spec D.tk D.rm rfl (simA_cons (sim_var (i := 1) rfl (.inl rfl) rfl rfl) simA_nil rfl) rfl rfl rfl) (simA_cons (sim_call F__law_some_spec D.tk D.rm rfl (simA_cons (sim_var (i := 1) rfl (.inl rfl) rfl rfl) simA_nil rfl) rfl rfl rfl) simA_nil rfl) rfl) rfl rfl)
  (simss_cons (sims_par (i := 5) (j := 6) rfl sc_law.nd rfl rfl (by decide) rfl rfl (simA_cons (sim_call F__law_way D.tk D.rm rfl (simA_cons (sim_var (i := 3) rfl (.inl rfl) rfl rfl) simA_nil rfl) rfl rfl rfl) (simA_cons (sim_call F__law_way_text D.tk D.rm rfl (simA_cons (sim_var (i := 3) rfl (.inl rfl) rfl rfl) simA_nil rfl) rfl rfl rfl) simA_nil rfl) rfl) rfl rfl)
  (simss_cons (sims_for D.pa hK rfl (sim_rng1 rfl g.n_range (simA_cons sim_int simA_nil rfl) rfl) (pgT_n (pg_name sc_law.nd rfl (.inl rfl) (.inl rfl))) (fun _ => (simss_cons (sims_asg sc_law.nd rfl (.inl rfl) (sim_lst (simA_cons (sim_fld κ.CF (sim_var (i := 5) rfl (.inl rfl) rfl rfl) rfl) (simA_cons (sim_fld κ.CF (sim_var (i := 5) rfl (.inl rfl) rfl rfl) rfl) (simA_cons (sim_fld κ.CF (sim_var (i := 5) rfl (.inl rfl) rfl rfl) rfl) (simA_cons (sim_fld κ.CF (sim_var (i := 5) rfl (.inl rfl) rfl rfl) rfl) (simA_cons (sim_fld κ.CF (sim_var (i := 5) rfl (.inl rfl) rfl rfl) rfl) (simA_cons (sim_meA0 (pl := _) E_Way_text_0_ κ.cm_Way (by decide) D.tk D.rm (sim_var (i := 5) rfl (.inl rfl) rfl rfl) simK_nil rfl rfl rfl rfl rfl) (simA_cons (sim_reprA N_Way___repr___0_ D.tk D.rm rfl g.n_repr (simA_cons (sim_var (i := 5) rfl (.inl rfl) rfl rfl) simA_nil rfl) rfl rfl) simA_nil rfl) rfl) rfl) rfl) rfl) rfl) rfl)) rfl (.inl rfl))
  (simss_one (sims_if (sim_tnot (sim_truth hK (sim_call F__law_like D.tk D.rm rfl (simA_cons (sim_var (i := 8) rfl (.inl rfl) rfl rfl) (simA_cons (sim_add hK (sim_bi (bi_list hK) rfl g.n_list (simA_cons (sim_var (i := 3) rfl (.inl rfl) rfl rfl) simA_nil rfl) (by decide) rfl rfl rfl) (sim_lst (simA_cons (sim_var (i := 6) rfl (.inl rfl) rfl rfl) (simA_cons (sim_add hK (sim_add hK (sim_str (sok_of (by decide +kernel))) (sim_var (i := 6) rfl (.inl rfl) rfl rfl)) (sim_str (sok_of (by decide +kernel)))) simA_nil rfl) rfl))) simA_nil rfl) rfl) rfl rfl rfl) (fun _ => rfl))) (simss_one (sims_ret sim_bl)) simss_nil)))) (fun _ => rfl))
  (simss_cons (sims_if (sim_tnot (sim_truth hK (sim_call F__law_answers_so D.tk D.rm rfl (simA_cons (sim_var (i := 5) rfl (.inl rfl) rfl rfl) (simA_cons (sim_var (i := 3) rfl (.inl rfl) rfl rfl) simA_nil rfl) rfl) rfl rfl rfl) (fun _ => rfl))) (simss_one (sims_ret sim_bl)) simss_nil)
  (simss_cons (sims_asg sc_law.nd rfl (.inl rfl) (sim_call F__law_draw D.tk D.rm rfl (simA_cons (sim_var (i := 1) rfl (.inl rfl) rfl rfl) (simA_cons sim_int simA_nil rfl) rfl) rfl rfl rfl) rfl (.inl rfl))
  (simss_cons (sims_asg sc_law.nd rfl (.inl rfl) (sim_add hK (sim_add hK (sim_sl hK (sim_var (i := 3) rfl (.inl rfl) rfl rfl) simO_none (simO_some (sim_var (i := 9) rfl (.inl rfl) rfl rfl))) (sim_tup (simA_cons (sim_ix hK (sim_var (i := 4) rfl (.inl rfl) rfl rfl) (sim_var (i := 9) rfl (.inl rfl) rfl rfl) (fun _ _ => rfl)) simA_nil rfl))) (sim_sl hK (sim_var (i := 3) rfl (.inl rfl) rfl rfl) (simO_some (sim_add hK (sim_var (i := 9) rfl (.inl rfl) rfl rfl) sim_int)) simO_none)) rfl (.inl rfl))
  (simss_cons (sims_asg sc_law.nd rfl (.inl rfl) (sim_lst (simA_cons (sim_meA0 (pl := _) E_Way_but_0_ κ.cm_Way (by decide) D.tk D.rm (sim_var (i := 5) rfl (.inl rfl) rfl rfl) simK_nil rfl rfl rfl rfl rfl) (simA_cons (sim_meA0 (pl := _) E_Way_but_0_lock_hidden_stretches_numbers_drops κ.cm_Way (by decide) D.tk D.rm (sim_var (i := 5) rfl (.inl rfl) rfl rfl) (simK_cons (sim_ix hK (sim_var (i := 10) rfl (.inl rfl) rfl rfl) sim_int (fun _ _ => rfl)) (simK_cons (sim_ix hK (sim_var (i := 10) rfl (.inl rfl) rfl rfl) sim_int (fun _ _ => rfl)) (simK_cons (sim_ix hK (sim_var (i := 10) rfl (.inl rfl) rfl rfl) sim_int (fun _ _ => rfl)) (simK_cons (sim_ix hK (sim_var (i := 10) rfl (.inl rfl) rfl rfl) sim_int (fun _ _ => rfl)) (simK_cons (sim_ix hK (sim_var (i := 10) rfl (.inl rfl) rfl rfl) sim_int (fun _ _ => rfl)) simK_nil))))) rfl rfl rfl rfl rfl) simA_nil rfl) rfl)) rfl (.inl rfl))
  (simss_cons (sims_asg sc_law.nd rfl (.inl rfl) (sim_lst (simA_cons (sim_meA0 (pl := _) E_Way_but_0_drops κ.cm_Way (by decide) D.tk D.rm (sim_var (i := 5) rfl (.inl rfl) rfl rfl) (simK_cons (sim_ix hK (sim_var (i := 4) rfl (.inl rfl) rfl rfl) sim_int (fun _ _ => rfl)) simK_nil) rfl rfl rfl rfl rfl) (simA_cons (sim_meA0 (pl := _) E_Way_but_0_numbers κ.cm_Way (by decide) D.tk D.rm (sim_var (i := 5) rfl (.inl rfl) rfl rfl) (simK_cons (sim_ix hK (sim_var (i := 4) rfl (.inl rfl) rfl rfl) sim_int (fun _ _ => rfl)) simK_nil) rfl rfl rfl rfl rfl) (simA_cons (sim_meA0 (pl := _) E_Way_but_0_stretches κ.cm_Way (by decide) D.tk D.rm (sim_var (i := 5) rfl (.inl rfl) rfl rfl) (simK_cons (sim_ix hK (sim_var (i := 4) rfl (.inl rfl) rfl rfl) sim_int (fun _ _ => rfl)) simK_nil) rfl rfl rfl rfl rfl) (simA_cons (sim_meA0 (pl := _) E_Way_but_0_hidden κ.cm_Way (by decide) D.tk D.rm (sim_var (i := 5) rfl (.inl rfl) rfl rfl) (simK_cons (sim_ix hK (sim_var (i := 4) rfl (.inl rfl) rfl rfl) sim_int (fun _ _ => rfl)) simK_nil) rfl rfl rfl rfl rfl) (simA_cons (sim_meA0 (pl := _) E_Way_but_0_lock κ.cm_Way (by decide) D.tk D.rm (sim_var (i := 5) rfl (.inl rfl) rfl rfl) (simK_cons (sim_ix hK (sim_var (i := 4) rfl (.inl rfl) rfl rfl) sim_int (fun _ _ => rfl)) simK_nil) rfl rfl rfl rfl rfl) simA_nil rfl) rfl) rfl) rfl) rfl)) rfl (.inl rfl))
  (simss_cons (sims_if (sim_tbool (simw_or (sim_tnot (sim_truth hK (sim_call F__law_like D.tk D.rm rfl (simA_cons (SimN.sh (sim_lc (own := [("_law_one", 14)]) hK rfl sc_law.nd (sim_any hK (sim_var (i := 11) rfl (.inl rfl) rfl rfl)) (blk_of (by kernel_rfl)) (by decide) (fun _ _ _ _ _ => (pgT_n (pg_name sc_law.nd rfl (.inl rfl) (.inr rfl)))) (fun _ _ _ _ _ => simTs_nil) (fun _ _ _ _ _ => (sim_meA0 (pl := _) E_Way_text_0_ κ.cm_Way (by decide) (takesWF _) D.rm (sim_var (i := 14) rfl (.inl rfl) rfl rfl) simK_nil rfl rfl rfl rfl rfl)) (fun _ => rfl))) (simA_cons (sim_lst (simA_cons (sim_var (i := 6) rfl (.inl rfl) rfl rfl) (simA_cons (sim_call F__law_way_text D.tk D.rm rfl (simA_cons (sim_var (i := 10) rfl (.inl rfl) rfl rfl) simA_nil rfl) rfl rfl rfl) simA_nil rfl) rfl)) simA_nil rfl) rfl) rfl rfl rfl) (fun _ => rfl))) (simw_or1 (sim_tneA N_Way___eq___1_ κ.ne_Way hK D.tk D.rm (sim_ix hK (sim_var (i := 11) rfl (.inl rfl) rfl rfl) sim_int (fun _ _ => rfl)) (sim_var (i := 5) rfl (.inl rfl) rfl rfl) rfl)))) (simss_one (sims_ret sim_bl)) simss_nil)
  (simss_cons (sims_if (sim_tbool (simw_or (sim_tneA N_Way___eq___1_ κ.ne_Way hK D.tk D.rm (sim_ix hK (sim_var (i := 12) rfl (.inl rfl) rfl rfl) (sim_var (i := 9) rfl (.inl rfl) rfl rfl) (fun _ _ => rfl)) (sim_ix hK (sim_var (i := 11) rfl (.inl rfl) rfl rfl) sim_int (fun _ _ => rfl)) rfl) (simw_or (sim_tneA N_Way___eq___1_ κ.ne_Way hK D.tk D.rm (sim_eqA E_Way___eq___1_ hK D.tk D.rm (sim_var (i := 5) rfl (.inl rfl) rfl rfl) (sim_ix hK (sim_var (i := 11) rfl (.inl rfl) rfl rfl) sim_int (fun _ _ => rfl)) rfl) (sim_eqA E_Way___eq___1_ hK D.tk D.rm (sim_var (i := 10) rfl (.inl rfl) rfl rfl) (sim_var (i := 3) rfl (.inl rfl) rfl rfl) rfl) rfl) (simw_or (sim_teqA E_Way___eq___1_ hK D.tk D.rm (sim_var (i := 5) rfl (.inl rfl) rfl rfl) (sim_var (i := 6) rfl (.inl rfl) rfl rfl) rfl) (simw_or1 (sim_teqA E_Way___eq___1_ hK D.tk D.rm (sim_var (i := 5) rfl (.inl rfl) rfl rfl) sim_non rfl)))))) (simss_one (sims_ret sim_bl)) simss_nil)
  (simss_one (sims_if (sim_tbool (simw_or (sim_tneA N_Way___eq___1_ κ.ne_Way hK D.tk D.rm (sim_sm (pl := _) S_Way_read_1_ rfl D.tk D.rm (simA_cons (sim_var (i := 6) rfl (.inl rfl) rfl rfl) simA_nil rfl) simK_nil rfl rfl rfl rfl rfl rfl rfl) (sim_var (i := 5) rfl (.inl rfl) rfl rfl) rfl) (simw_or1 (sim_tnot (sim_truth hK (sim_call F__law_like D.tk D.rm rfl (simA_cons (sim_meA0 (pl := _) E_Way_text_0_ κ.cm_Way (by decide) D.tk D.rm (sim_sm0 (pl := _) S_Way_read_0_text rfl D.tk D.rm (simK_cons (sim_call F__law_way_text D.tk D.rm rfl (simA_cons (sim_var (i := 4) rfl (.inl rfl) rfl rfl) simA_nil rfl) rfl rfl rfl) simK_nil) rfl rfl rfl rfl rfl rfl) simK_nil rfl rfl rfl rfl rfl) (simA_cons (sim_call F__law_way_text D.tk D.rm rfl (simA_cons (sim_var (i := 4) rfl (.inl rfl) rfl rfl) simA_nil rfl) rfl rfl rfl) simA_nil rfl) rfl) rfl rfl rfl) (fun _ => rfl)))))) (simss_one (sims_ret sim_bl)) simss_nil))))))))))))) (fun _ => rfl))
  (simss_cons (sims_asg sc_law.nd rfl (.inl rfl) (sim_mkA0 M_Way_0_ D.tk D.rm rfl simK_nil rfl rfl rfl rfl rfl) rfl (.inl rfl))
  (simss_cons (sims_asg sc_law.nd rfl (.inl rfl) (sim_lst (simA_cons (sim_meA0 (pl := _) E_Way_text_0_ κ.cm_Way (by decide) D.tk D.rm (sim_var (i := 13) rfl (.inl rfl) rfl rfl) simK_nil rfl rfl rfl rfl rfl) (simA_cons (sim_fld κ.CF (sim_mkA M_Way_1_ D.tk D.rm rfl (simA_cons (sim_str (sok_of (by decide +kernel))) simA_nil rfl) simK_nil rfl rfl rfl rfl rfl rfl) rfl) (simA_cons (sim_fld κ.CF (sim_mkA0 M_Way_0_numbers D.tk D.rm rfl (simK_cons (sim_str (sok_of (by decide +kernel))) simK_nil) rfl rfl rfl rfl rfl) rfl) (simA_cons (sim_ctup hK κ.t_Way_LOCKS rfl κ.n_Way (fun _ => (.cons (.str _ (sok_of (by decide +kernel))) (.cons (.str _ (sok_of (by decide +kernel))) (.cons (.str _ (sok_of (by decide +kernel))) .nil)))) rfl rfl) (simA_cons (sim_ctup hK κ.t_Way_ANSWERS rfl κ.n_Way (fun _ => (.cons (.str _ (sok_of (by decide +kernel))) (.cons (.str _ (sok_of (by decide +kernel))) (.cons (.str _ (sok_of (by decide +kernel))) .nil)))) rfl rfl) simA_nil rfl) rfl) rfl) rfl) rfl)) rfl (.inl rfl))
  (simss_one (sims_ret (sim_call F__law_like D.tk D.rm rfl (simA_cons (sim_var (i := 8) rfl (.inl rfl) rfl rfl) (simA_cons (sim_lst (simA_cons (sim_str (sok_of (by decide +kernel))) (simA_cons (sim_str (sok_of (by decide +kernel))) (simA_cons (sim_str (sok_of (by decide +kernel))) (simA_cons (sim_tup (simA_cons (sim_str (sok_of (by decide +kernel))) (simA_cons (sim_str (sok_of (by decide +kernel))) (simA_cons (sim_str (sok_of (by decide +kernel))) simA_nil rfl) rfl) rfl)) (simA_cons (sim_tup (simA_cons (sim_str (sok_of (by decide +kernel))) (simA_cons (sim_str (sok_of (by decide +kernel))) (simA_cons (sim_str (sok_of (by decide +kernel))) simA_nil rfl) rfl) rfl)) simA_nil rfl) rfl) rfl) rfl) rfl)) simA_nil rfl) rfl) rfl rfl rfl)))))))
end LW

set_option Elab.async false
set_option linter.all false
set_option maxRecDepth 100000
set_option maxHeartbeats 0
namespace LW
open PySem PySem.Spec PyProof.Rows L2 Lp LamX NdefX
def lsT : List ((PySem.W.Frag → Addr) × Str) := []
theorem fo_is_table {P : Program} {w : World} {K : PySem.W.Frag} {mg : Str → Option Value} {base : Heap} {B : Bs} (hK : K = B.K) (g : Gm mg) (κ : Km w K B mg) {fa : Addr} {fd : FuncData} {dvs : List V} {kws : List (Str × V)} (F : FunD K "is_table" "is_table" (defArgs st_is_table) (defBody st_is_table) (defScope st_is_table) dvs kws fa fd)  : FnOk P w K mg base (L2.CX P w) 1 fa fd ["value", "many"] (spF B 2 m_is_table) := by
  unfold m_is_table
  exact fn_ok F sc_is_table rfl rfl fun _ _ _ _ _ _ _ D => b_is_table hK g κ D 
theorem fo_Way___init__ {P : Program} {w : World} {K : PySem.W.Frag} {mg : Str → Option Value} {base : Heap} {B : Bs} (hK : K = B.K) (g : Gm mg) (κ : Km w K B mg) {fa : Addr} {fd : FuncData} {dvs : List V} {kws : List (Str × V)} (F : FunD K "__init__" "Way.__init__" (defArgs st_Way___init__) (defBody st_Way___init__) (defScope st_Way___init__) dvs kws fa fd) (F_is_table : Fn P w K mg base B 1 "is_table" 2 m_is_table) : FnOk P w K mg base (L2.CX P w) 2 fa fd ["self", "drops", "numbers", "stretches", "hidden", "lock"] (spF B 6 m_Way___init__) := by
  unfold m_Way___init__
  exact fn_ok F sc_Way___init__ rfl rfl fun _ _ _ _ _ _ _ D => b_Way___init__ hK g κ D F_is_table
theorem fo_Way_drop_answer {P : Program} {w : World} {K : PySem.W.Frag} {mg : Str → Option Value} {base : Heap} {B : Bs} (hK : K = B.K) (g : Gm mg) (κ : Km w K B mg) {fa : Addr} {fd : FuncData} {dvs : List V} {kws : List (Str × V)} (F : FunD K "drop_answer" "Way.drop_answer" (defArgs st_Way_drop_answer) (defBody st_Way_drop_answer) (defScope st_Way_drop_answer) dvs kws fa fd)  : FnOk P w K mg base (L2.CX P w) 1 fa fd ["self", "elder", "again", "apart"] (spF B 4 m_Way_drop_answer) := by
  unfold m_Way_drop_answer
  exact fn_ok F sc_Way_drop_answer rfl rfl fun _ _ _ _ _ _ _ D => b_Way_drop_answer hK g κ D 
theorem fo_Way_number_answer {P : Program} {w : World} {K : PySem.W.Frag} {mg : Str → Option Value} {base : Heap} {B : Bs} (hK : K = B.K) (g : Gm mg) (κ : Km w K B mg) {fa : Addr} {fd : FuncData} {dvs : List V} {kws : List (Str × V)} (F : FunD K "number_answer" "Way.number_answer" (defArgs st_Way_number_answer) (defBody st_Way_number_answer) (defScope st_Way_number_answer) dvs kws fa fd)  : FnOk P w K mg base (L2.CX P w) 1 fa fd ["self", "elder", "dropped"] (spF B 3 m_Way_number_answer) := by
  unfold m_Way_number_answer
  exact fn_ok F sc_Way_number_answer rfl rfl fun _ _ _ _ _ _ _ D => b_Way_number_answer hK g κ D 
theorem fo_Way_but {P : Program} {w : World} {K : PySem.W.Frag} {mg : Str → Option Value} {base : Heap} {B : Bs} (hK : K = B.K) (g : Gm mg) (κ : Km w K B mg) {fa : Addr} {fd : FuncData} {dvs : List V} {kws : List (Str × V)} (F : FunD K "but" "Way.but" (defArgs st_Way_but) (defBody st_Way_but) (defScope st_Way_but) dvs kws fa fd) (M_Way_2_stretches_hidden_lock : MkA P w K mg base B 3 "Way" cn_Way 2 ["stretches", "hidden", "lock"] [0, 1, 2, 3, 4, 5] [.str "tttttttt", .str "tttt"] 6 m_Way___init__) : FnOk P w K mg base (L2.CX P w) 4 fa fd ["self", "drops", "numbers", "stretches", "hidden", "lock"] (spF B 6 m_Way_but) := by
  unfold m_Way_but
  exact fn_ok F sc_Way_but rfl rfl fun _ _ _ _ _ _ _ D => b_Way_but hK g κ D M_Way_2_stretches_hidden_lock
theorem fo_Way_text {P : Program} {w : World} {K : PySem.W.Frag} {mg : Str → Option Value} {base : Heap} {B : Bs} (hK : K = B.K) (g : Gm mg) (κ : Km w K B mg) {fa : Addr} {fd : FuncData} {dvs : List V} {kws : List (Str × V)} (F : FunD K "text" "Way.text" (defArgs st_Way_text) (defBody st_Way_text) (defScope st_Way_text) dvs kws fa fd)  : FnOk P w K mg base (L2.CX P w) 1 fa fd ["self"] (spF B 1 m_Way_text) := by
  unfold m_Way_text
  exact fn_ok F sc_Way_text rfl rfl fun _ _ _ _ _ _ _ D => b_Way_text hK g κ D 
theorem fo_Way_read {P : Program} {w : World} {K : PySem.W.Frag} {mg : Str → Option Value} {base : Heap} {B : Bs} (hK : K = B.K) (g : Gm mg) (κ : Km w K B mg) {fa : Addr} {fd : FuncData} {dvs : List V} {kws : List (Str × V)} (F : FunD K "read" "Way.read" (defArgs st_Way_read) (defBody st_Way_read) (defScope st_Way_read) dvs kws fa fd) (M_Way_2_stretches_hidden_lock : MkA P w K mg base B 3 "Way" cn_Way 2 ["stretches", "hidden", "lock"] [0, 1, 2, 3, 4, 5] [.str "tttttttt", .str "tttt"] 6 m_Way___init__) (E_Way_text_0_ : MeA P w K mg base B 3 cn_Way "text" 0 [] [0] [] 1 m_Way_text) : FnOk P w K mg base (L2.CX P w) 4 fa fd ["text"] (spF B 1 m_Way_read) := by
  unfold m_Way_read
  exact fn_ok F sc_Way_read rfl rfl fun _ _ _ _ _ _ _ D => b_Way_read hK g κ D M_Way_2_stretches_hidden_lock E_Way_text_0_
theorem fo_Way___eq__ {P : Program} {w : World} {K : PySem.W.Frag} {mg : Str → Option Value} {base : Heap} {B : Bs} (hK : K = B.K) (g : Gm mg) (κ : Km w K B mg) {fa : Addr} {fd : FuncData} {dvs : List V} {kws : List (Str × V)} (F : FunD K "__eq__" "Way.__eq__" (defArgs st_Way___eq__) (defBody st_Way___eq__) (defScope st_Way___eq__) dvs kws fa fd) (E_Way_text_0_ : MeA P w K mg base B 1 cn_Way "text" 0 [] [0] [] 1 m_Way_text) : FnOk P w K mg base (L2.CX P w) 2 fa fd ["self", "other"] (spF B 2 m_Way___eq__) := by
  unfold m_Way___eq__
  exact fn_ok F sc_Way___eq__ rfl rfl fun _ _ _ _ _ _ _ D => b_Way___eq__ hK g κ D E_Way_text_0_
theorem fo_Way___repr__ {P : Program} {w : World} {K : PySem.W.Frag} {mg : Str → Option Value} {base : Heap} {B : Bs} (hK : K = B.K) (g : Gm mg) (κ : Km w K B mg) {fa : Addr} {fd : FuncData} {dvs : List V} {kws : List (Str × V)} (F : FunD K "__repr__" "Way.__repr__" (defArgs st_Way___repr__) (defBody st_Way___repr__) (defScope st_Way___repr__) dvs kws fa fd) (E_Way_text_0_ : MeA P w K mg base B 1 cn_Way "text" 0 [] [0] [] 1 m_Way_text) : FnOk P w K mg base (L2.CX P w) 2 fa fd ["self"] (spF B 1 m_Way___repr__) := by
  unfold m_Way___repr__
  exact fn_ok F sc_Way___repr__ rfl rfl fun _ _ _ _ _ _ _ D => b_Way___repr__ hK g κ D E_Way_text_0_
theorem fo__law_open {P : Program} {w : World} {K : PySem.W.Frag} {mg : Str → Option Value} {base : Heap} {B : Bs} (hK : K = B.K) (g : Gm mg) (κ : Km w K B mg) {fa : Addr} {fd : FuncData} {dvs : List V} {kws : List (Str × V)} (F : FunD K "_law_open" "_law_open" (defArgs st__law_open) (defBody st__law_open) (defScope st__law_open) dvs kws fa fd)  : FnOk P w K mg base (L2.CX P w) 1 fa fd ["_law_script"] (spF B 1 m__law_open) := by
  unfold m__law_open
  exact fn_ok F sc__law_open rfl rfl fun _ _ _ _ _ _ _ D => b__law_open hK g κ D 
theorem fo__law_draw {P : Program} {w : World} {K : PySem.W.Frag} {mg : Str → Option Value} {base : Heap} {B : Bs} (hK : K = B.K) (g : Gm mg) (κ : Km w K B mg) {fa : Addr} {fd : FuncData} {dvs : List V} {kws : List (Str × V)} (F : FunD K "_law_draw" "_law_draw" (defArgs st__law_draw) (defBody st__law_draw) (defScope st__law_draw) dvs kws fa fd)  : FnOk P w K mg base (L2.CX P w) 1 fa fd ["_law_bag", "_law_many"] (spF B 2 m__law_draw) := by
  unfold m__law_draw
  exact fn_ok F sc__law_draw rfl rfl fun _ _ _ _ _ _ _ D => b__law_draw hK g κ D 
theorem fo__law_of {P : Program} {w : World} {K : PySem.W.Frag} {mg : Str → Option Value} {base : Heap} {B : Bs} (hK : K = B.K) (g : Gm mg) (κ : Km w K B mg) {fa : Addr} {fd : FuncData} {dvs : List V} {kws : List (Str × V)} (F : FunD K "_law_of" "_law_of" (defArgs st__law_of) (defBody st__law_of) (defScope st__law_of) dvs kws fa fd) (F__law_draw : Fn P w K mg base B 1 "_law_draw" 2 m__law_draw) : FnOk P w K mg base (L2.CX P w) 2 fa fd ["_law_bag", "_law_things"] (spF B 2 m__law_of) := by
  unfold m__law_of
  exact fn_ok F sc__law_of rfl rfl fun _ _ _ _ _ _ _ D => b__law_of hK g κ D F__law_draw
theorem fr__law_like {P : Program} {w : World} {K : PySem.W.Frag} {mg : Str → Option Value} {base : Heap} {B : Bs} (hK : K = B.K) (g : Gm mg) (κ : Km w K B mg) {fa : Addr} {fd : FuncData} (F : FunD K "_law_like" "_law_like" (defArgs st__law_like) (defBody st__law_like) (defScope st__law_like) [] [] fa fd) (hm : mg "_law_like" = some (.ref fa))  : ∀ n : Nat, FnOk P w K mg base (L2.CX P w) (0 + n + 1) fa fd ["_law_found", "_law_due"] (spF B 2 (mr__law_like n))
  | 0 => fn_bad F sc__law_like
  | n + 1 => fn_ok (k := 0 + n + 1) F sc__law_like rfl rfl fun _ _ _ _ _ _ _ D => b__law_like hK g κ D ⟨fa, fd, _, fr__law_like hK g κ F hm  n, hm, F.kp, (F.bindsN fun _ _ _ _ _ _ us hl => match us, hl with | [_, _], _ => rfl)⟩
theorem fo__law_like {P : Program} {w : World} {K : PySem.W.Frag} {mg : Str → Option Value} {base : Heap} {B : Bs} (hK : K = B.K) (g : Gm mg) (κ : Km w K B mg) {fa : Addr} {fd : FuncData} (F : FunD K "_law_like" "_law_like" (defArgs st__law_like) (defBody st__law_like) (defScope st__law_like) [] [] fa fd) (hm : mg "_law_like" = some (.ref fa))  : FnOk P w K mg base (L2.CX P w) 9 fa fd ["_law_found", "_law_due"] (spF B 2 m__law_like) := by
  unfold m__law_like
  exact fr__law_like hK g κ F hm  8
theorem fo__law_some_spec {P : Program} {w : World} {K : PySem.W.Frag} {mg : Str → Option Value} {base : Heap} {B : Bs} (hK : K = B.K) (g : Gm mg) (κ : Km w K B mg) {fa : Addr} {fd : FuncData} {dvs : List V} {kws : List (Str × V)} (F : FunD K "_law_some_spec" "_law_some_spec" (defArgs st__law_some_spec) (defBody st__law_some_spec) (defScope st__law_some_spec) dvs kws fa fd) (F__law_of : Fn P w K mg base B 2 "_law_of" 2 m__law_of) (F__law_draw : Fn P w K mg base B 2 "_law_draw" 2 m__law_draw) : FnOk P w K mg base (L2.CX P w) 3 fa fd ["_law_bag"] (spF B 1 m__law_some_spec) := by
  unfold m__law_some_spec
  exact fn_ok F sc__law_some_spec rfl rfl fun _ _ _ _ _ _ _ D => b__law_some_spec hK g κ D F__law_of F__law_draw
theorem fo__law_way {P : Program} {w : World} {K : PySem.W.Frag} {mg : Str → Option Value} {base : Heap} {B : Bs} (hK : K = B.K) (g : Gm mg) (κ : Km w K B mg) {fa : Addr} {fd : FuncData} {dvs : List V} {kws : List (Str × V)} (F : FunD K "_law_way" "_law_way" (defArgs st__law_way) (defBody st__law_way) (defScope st__law_way) dvs kws fa fd) (M_Way_2_stretches_hidden_lock : MkA P w K mg base B 3 "Way" cn_Way 2 ["stretches", "hidden", "lock"] [0, 1, 2, 3, 4, 5] [.str "tttttttt", .str "tttt"] 6 m_Way___init__) : FnOk P w K mg base (L2.CX P w) 4 fa fd ["_law_spec"] (spF B 1 m__law_way) := by
  unfold m__law_way
  exact fn_ok F sc__law_way rfl rfl fun _ _ _ _ _ _ _ D => b__law_way hK g κ D M_Way_2_stretches_hidden_lock
theorem fo__law_way_text {P : Program} {w : World} {K : PySem.W.Frag} {mg : Str → Option Value} {base : Heap} {B : Bs} (hK : K = B.K) (g : Gm mg) (κ : Km w K B mg) {fa : Addr} {fd : FuncData} {dvs : List V} {kws : List (Str × V)} (F : FunD K "_law_way_text" "_law_way_text" (defArgs st__law_way_text) (defBody st__law_way_text) (defScope st__law_way_text) dvs kws fa fd)  : FnOk P w K mg base (L2.CX P w) 1 fa fd ["_law_spec"] (spF B 1 m__law_way_text) := by
  unfold m__law_way_text
  exact fn_ok F sc__law_way_text rfl rfl fun _ _ _ _ _ _ _ D => b__law_way_text hK g κ D 
theorem fo__law_word {P : Program} {w : World} {K : PySem.W.Frag} {mg : Str → Option Value} {base : Heap} {B : Bs} (hK : K = B.K) (g : Gm mg) (κ : Km w K B mg) {fa : Addr} {fd : FuncData} {dvs : List V} {kws : List (Str × V)} (F : FunD K "_law_word" "_law_word" (defArgs st__law_word) (defBody st__law_word) (defScope st__law_word) dvs kws fa fd)  : FnOk P w K mg base (L2.CX P w) 1 fa fd ["_law_letter"] (spF B 1 m__law_word) := by
  unfold m__law_word
  exact fn_ok F sc__law_word rfl rfl fun _ _ _ _ _ _ _ D => b__law_word hK g κ D 
theorem fo__law_answers_so {P : Program} {w : World} {K : PySem.W.Frag} {mg : Str → Option Value} {base : Heap} {B : Bs} (hK : K = B.K) (g : Gm mg) (κ : Km w K B mg) {fa : Addr} {fd : FuncData} {dvs : List V} {kws : List (Str × V)} (F : FunD K "_law_answers_so" "_law_answers_so" (defArgs st__law_answers_so) (defBody st__law_answers_so) (defScope st__law_answers_so) dvs kws fa fd) (F__law_like : Fn P w K mg base B 9 "_law_like" 2 m__law_like) (F__law_word : Fn P w K mg base B 9 "_law_word" 1 m__law_word) (E_Way_drop_answer_0_again_elder_apart : MeA P w K mg base B 9 cn_Way "drop_answer" 0 ["again", "elder", "apart"] [0, 2, 1, 3] [] 4 m_Way_drop_answer) (E_Way_number_answer_0_dropped_elder : MeA P w K mg base B 9 cn_Way "number_answer" 0 ["dropped", "elder"] [0, 2, 1] [] 3 m_Way_number_answer) : FnOk P w K mg base (L2.CX P w) 10 fa fd ["_law_made", "_law_spec"] (spF B 2 m__law_answers_so) := by
  unfold m__law_answers_so
  exact fn_ok F sc__law_answers_so rfl rfl fun _ _ _ _ _ _ _ D => b__law_answers_so hK g κ D F__law_like F__law_word E_Way_drop_answer_0_again_elder_apart E_Way_number_answer_0_dropped_elder
theorem fo_law {P : Program} {w : World} {K : PySem.W.Frag} {mg : Str → Option Value} {base : Heap} {B : Bs} (hK : K = B.K) (g : Gm mg) (κ : Km w K B mg) {fa : Addr} {fd : FuncData} {dvs : List V} {kws : List (Str × V)} (F : FunD K "law" "law" (defArgs st_law) (defBody st_law) (defScope st_law) dvs kws fa fd) (F__law_open : Fn P w K mg base B 10 "_law_open" 1 m__law_open) (F__law_some_spec : Fn P w K mg base B 10 "_law_some_spec" 1 m__law_some_spec) (F__law_way_text : Fn P w K mg base B 10 "_law_way_text" 1 m__law_way_text) (F__law_way : Fn P w K mg base B 10 "_law_way" 1 m__law_way) (F__law_like : Fn P w K mg base B 10 "_law_like" 2 m__law_like) (F__law_answers_so : Fn P w K mg base B 10 "_law_answers_so" 2 m__law_answers_so) (F__law_draw : Fn P w K mg base B 10 "_law_draw" 2 m__law_draw) (M_Way_0_ : MkA P w K mg base B 10 "Way" cn_Way 0 [] [0, 1, 2, 3, 4, 5] [.str "tttttttt", .str "tttt", .bl false, .bl false, .str "none"] 6 m_Way___init__) (M_Way_0_numbers : MkA P w K mg base B 10 "Way" cn_Way 0 ["numbers"] [0, 2, 1, 4, 5, 6] [.str "tttttttt", .str "tttt", .bl false, .bl false, .str "none"] 6 m_Way___init__) (M_Way_1_ : MkA P w K mg base B 10 "Way" cn_Way 1 [] [0, 1, 3, 4, 5, 6] [.str "tttttttt", .str "tttt", .bl false, .bl false, .str "none"] 6 m_Way___init__) (E_Way_text_0_ : MeA P w K mg base B 10 cn_Way "text" 0 [] [0] [] 1 m_Way_text) (E_Way_but_0_lock_hidden_stretches_numbers_drops : MeA P w K mg base B 10 cn_Way "but" 0 ["lock", "hidden", "stretches", "numbers", "drops"] [0, 5, 4, 3, 2, 1] [] 6 m_Way_but) (E_Way_but_0_ : MeA P w K mg base B 10 cn_Way "but" 0 [] [0, 1, 2, 3, 4, 5] [.non, .non, .non, .non, .non] 6 m_Way_but) (E_Way_but_0_lock : MeA P w K mg base B 10 cn_Way "but" 0 ["lock"] [0, 2, 3, 4, 5, 1] [.non, .non, .non, .non] 6 m_Way_but) (E_Way_but_0_hidden : MeA P w K mg base B 10 cn_Way "but" 0 ["hidden"] [0, 2, 3, 4, 1, 5] [.non, .non, .non, .non] 6 m_Way_but) (E_Way_but_0_stretches : MeA P w K mg base B 10 cn_Way "but" 0 ["stretches"] [0, 2, 3, 1, 4, 5] [.non, .non, .non, .non] 6 m_Way_but) (E_Way_but_0_numbers : MeA P w K mg base B 10 cn_Way "but" 0 ["numbers"] [0, 2, 1, 3, 4, 5] [.non, .non, .non, .non] 6 m_Way_but) (E_Way_but_0_drops : MeA P w K mg base B 10 cn_Way "but" 0 ["drops"] [0, 1, 2, 3, 4, 5] [.non, .non, .non, .non] 6 m_Way_but) (E_Way___eq___1_ : MeA P w K mg base B 10 cn_Way "__eq__" 1 [] [0, 1] [] 2 m_Way___eq__) (S_Way_read_1_ : SmK P w K mg base B 10 "Way" "read" 1 [] [0] 1 m_Way_read) (S_Way_read_0_text : SmK P w K mg base B 10 "Way" "read" 0 ["text"] [0] 1 m_Way_read) (N_Way___repr___0_ : MeN P w K mg base B 10 cn_Way "__repr__" 0 [] [0] [] 1 m_Way___repr__) (N_Way___eq___1_ : MeN P w K mg base B 10 cn_Way "__eq__" 1 [] [0, 1] [] 2 m_Way___eq__) : FnOk P w K mg base (L2.CX P w) 11 fa fd ["_law_script"] (spF B 1 m_law) := by
  unfold m_law
  exact fn_ok F sc_law rfl rfl fun _ _ _ _ _ _ _ D => b_law hK g κ D F__law_open F__law_some_spec F__law_way_text F__law_way F__law_like F__law_answers_so F__law_draw M_Way_0_ M_Way_0_numbers M_Way_1_ E_Way_text_0_ E_Way_but_0_lock_hidden_stretches_numbers_drops E_Way_but_0_ E_Way_but_0_lock E_Way_but_0_hidden E_Way_but_0_stretches E_Way_but_0_numbers E_Way_but_0_drops E_Way___eq___1_ S_Way_read_1_ S_Way_read_0_text N_Way___repr___0_ N_Way___eq___1_
def d_is_table : DefL := ⟨fun K => He.ga K "is_table", "is_table", "is_table", defArgs st_is_table, defBody st_is_table, defScope st_is_table, [], [], []⟩
def d_Way___init__ : DefL := ⟨fun K => He.ma K (He.ga K "Way") "__init__", "__init__", "Way.__init__", defArgs st_Way___init__, defBody st_Way___init__, defScope st_Way___init__, [], [He.Dv.str "tttttttt", He.Dv.str "tttt"], [("stretches", He.Dv.bl false), ("hidden", He.Dv.bl false), ("lock", He.Dv.str "none")]⟩
def d_Way_drop_answer : DefL := ⟨fun K => He.ma K (He.ga K "Way") "drop_answer", "drop_answer", "Way.drop_answer", defArgs st_Way_drop_answer, defBody st_Way_drop_answer, defScope st_Way_drop_answer, [], [], []⟩
def d_Way_number_answer : DefL := ⟨fun K => He.ma K (He.ga K "Way") "number_answer", "number_answer", "Way.number_answer", defArgs st_Way_number_answer, defBody st_Way_number_answer, defScope st_Way_number_answer, [], [], []⟩
def d_Way_but : DefL := ⟨fun K => He.ma K (He.ga K "Way") "but", "but", "Way.but", defArgs st_Way_but, defBody st_Way_but, defScope st_Way_but, [], [], [("drops", He.Dv.non), ("numbers", He.Dv.non), ("stretches", He.Dv.non), ("hidden", He.Dv.non), ("lock", He.Dv.non)]⟩
def d_Way_text : DefL := ⟨fun K => He.ma K (He.ga K "Way") "text", "text", "Way.text", defArgs st_Way_text, defBody st_Way_text, defScope st_Way_text, [], [], []⟩
def d_Way_read : DefL := ⟨fun K => smG K (He.ga K "Way") "read", "read", "Way.read", defArgs st_Way_read, defBody st_Way_read, defScope st_Way_read, [], [], []⟩
def d_Way___eq__ : DefL := ⟨fun K => He.ma K (He.ga K "Way") "__eq__", "__eq__", "Way.__eq__", defArgs st_Way___eq__, defBody st_Way___eq__, defScope st_Way___eq__, [], [], []⟩
def d_Way___repr__ : DefL := ⟨fun K => He.ma K (He.ga K "Way") "__repr__", "__repr__", "Way.__repr__", defArgs st_Way___repr__, defBody st_Way___repr__, defScope st_Way___repr__, [], [], []⟩
def d__law_open : DefL := ⟨fun K => He.ga K "_law_open", "_law_open", "_law_open", defArgs st__law_open, defBody st__law_open, defScope st__law_open, [], [], []⟩
def d__law_draw : DefL := ⟨fun K => He.ga K "_law_draw", "_law_draw", "_law_draw", defArgs st__law_draw, defBody st__law_draw, defScope st__law_draw, [], [], []⟩
def d__law_of : DefL := ⟨fun K => He.ga K "_law_of", "_law_of", "_law_of", defArgs st__law_of, defBody st__law_of, defScope st__law_of, [], [], []⟩
def d__law_like : DefL := ⟨fun K => He.ga K "_law_like", "_law_like", "_law_like", defArgs st__law_like, defBody st__law_like, defScope st__law_like, [], [], []⟩
def d__law_some_spec : DefL := ⟨fun K => He.ga K "_law_some_spec", "_law_some_spec", "_law_some_spec", defArgs st__law_some_spec, defBody st__law_some_spec, defScope st__law_some_spec, [], [], []⟩
def d__law_way : DefL := ⟨fun K => He.ga K "_law_way", "_law_way", "_law_way", defArgs st__law_way, defBody st__law_way, defScope st__law_way, [], [], []⟩
def d__law_way_text : DefL := ⟨fun K => He.ga K "_law_way_text", "_law_way_text", "_law_way_text", defArgs st__law_way_text, defBody st__law_way_text, defScope st__law_way_text, [], [], []⟩
def d__law_word : DefL := ⟨fun K => He.ga K "_law_word", "_law_word", "_law_word", defArgs st__law_word, defBody st__law_word, defScope st__law_word, [], [], []⟩
def d__law_answers_so : DefL := ⟨fun K => He.ga K "_law_answers_so", "_law_answers_so", "_law_answers_so", defArgs st__law_answers_so, defBody st__law_answers_so, defScope st__law_answers_so, [], [], []⟩
def d_law : DefL := ⟨fun K => He.ga K "law", "law", "law", defArgs st_law, defBody st_law, defScope st_law, [], [], []⟩
def fnT : List DefL := [d_is_table, d_Way___init__, d_Way_drop_answer, d_Way_number_answer, d_Way_but, d_Way_text, d_Way_read, d_Way___eq__, d_Way___repr__, d__law_open, d__law_draw, d__law_of, d__law_like, d__law_some_spec, d__law_way, d__law_way_text, d__law_word, d__law_answers_so, d_law]
def tsT : List He.Tab := [(fun K => He.ga K "WORDS", kv_WORDS.map (·.1))]
def faT : List FactL := [(fun K _ => (He.Fa.glo "is_table").ok K),
  (fun K _ => (He.Fa.glo "_law_open").ok K),
  (fun K _ => (He.Fa.glo "_law_draw").ok K),
  (fun K _ => (He.Fa.glo "_law_of").ok K),
  (fun K _ => (He.Fa.glo "_law_like").ok K),
  (fun K _ => (He.Fa.glo "_law_some_spec").ok K),
  (fun K _ => (He.Fa.glo "_law_way").ok K),
  (fun K _ => (He.Fa.glo "_law_way_text").ok K),
  (fun K _ => (He.Fa.glo "_law_word").ok K),
  (fun K _ => (He.Fa.glo "_law_answers_so").ok K),
  (fun K _ => (He.Fa.glo "law").ok K),
  (fun K _ => (He.Fa.free "all").ok K),
  (fun K _ => (He.Fa.free "bool").ok K),
  (fun K _ => (He.Fa.free "int").ok K),
  (fun K _ => (He.Fa.free "isinstance").ok K),
  (fun K _ => (He.Fa.free "len").ok K),
  (fun K _ => (He.Fa.free "list").ok K),
  (fun K _ => (He.Fa.free "range").ok K),
  (fun K _ => (He.Fa.free "repr").ok K),
  (fun K _ => (He.Fa.free "str").ok K),
  (fun K _ => (He.Fa.free "tuple").ok K),
  (fun K _ => (He.Fa.free "zip").ok K),
  (fun K _ => clsiB K (He.ga K "Way")),
  (fun K _ => neB K (He.ga K "Way")),
  (fun K _ => (He.Fa.glo "Way").ok K),
  (fun K _ => (He.Fa.cls "Way").ok K),
  (fun K _ => (He.Fa.noat "Way" "drops").ok K),
  (fun K _ => (He.Fa.noat "Way" "numbers").ok K),
  (fun K _ => (He.Fa.noat "Way" "stretches").ok K),
  (fun K _ => (He.Fa.noat "Way" "hidden").ok K),
  (fun K _ => (He.Fa.noat "Way" "lock").ok K),
  (fun K _ => (He.Fa.mkr "Way").ok K),
  (fun K _ => (He.Fa.meth "Way" "drop_answer").ok K),
  (fun K _ => (He.Fa.meth "Way" "number_answer").ok K),
  (fun K _ => (He.Fa.meth "Way" "but").ok K),
  (fun K _ => (He.Fa.meth "Way" "text").ok K),
  (fun K _ => smetB K (He.ga K "Way") "read" (He.ma K (He.ga K "Way") "read") (smG K (He.ga K "Way") "read")),
  (fun K _ => (He.Fa.meth "Way" "__eq__").ok K),
  (fun K _ => (He.Fa.meth "Way" "__repr__").ok K),
  (fun K _ => ctupB K (He.ga K "Way") "ANSWERS" [.str "taken", .str "refused", .str "made"]),
  (fun K _ => ctupB K (He.ga K "Way") "LOCKS" [.str "none", .str "one", .str "all"]),
  (fun K _ => (He.Fa.glo "WORDS").ok K),
  (fun K _ => dicB K (He.ga K "WORDS") kv_WORDS)]
def names0 : List PySem.Str := ["DropError", "InvalidTable", "InvalidOption", "InvalidText", "WORDS", "is_table", "Way", "_law_open", "_law_draw", "_law_of", "_law_like", "_law_some_spec", "_law_way", "_law_way_text", "_law_word", "_law_answers_so"]
def namesT : List PySem.Str := names0
abbrev qv : Program := PySem.W.view Rw.prog [19]
abbrev hkT : PySem.W.Hook := hookL 5 faT fnT tsT
def obT (s : PySem.W.SharedT) : AlL := obsLG 5 faT fnT tsT (HandSHeadRun.getT s)
theorem ob_eqT (s : PySem.W.SharedT) : obT s = hkT.obs s.abs := obsLG_eq (HandSHeadRun.getT_eq s)
theorem runT0 (w : World) : HandSHeadRun.RunEq Rw qv hkT obT 8000 namesT (w.withFollow "special-get-raises" false) := by
  intro os
  kernel_rfl
theorem runT1 (w : World) : HandSHeadRun.RunEq Rw qv hkT obT 8000 namesT (w.withFollow "special-get-raises" true) := by
  intro os
  kernel_rfl
theorem runT (w : World) : HandSHeadRun.RunEq Rw qv hkT obT 8000 namesT w := PySem.W.byRow2 "special-get-raises" runT0 runT1 w
def cadT (K : PySem.W.Frag) : Nat → Addr := fun c => match c with
  | 0 => He.ga K "Way"
  | _ => 0
abbrev BkT (K : PySem.W.Frag) : Bs := ⟨K, cadT K, fldT, tabT K lsT, none⟩
theorem xcT {w : World} {K : PySem.W.Frag} {T : List Addr} (c : SaysL faT fnT tsT w K T) : XClsF K (BkT K) xfl := ⟨fun cc hh => match cc, hh with
  | 0, h => absurd rfl h
  | _ + 1, h => absurd rfl h,
  fun cc f hf => match cc, hf with
  | 0, hf => (nomatch hf)
  | _ + 1, hf => (nomatch hf)⟩
theorem cfT {w : World} {K : PySem.W.Frag} {T : List Addr} (c : SaysL faT fnT tsT w K T) : ClsF K (BkT K) ifl := ⟨fun cc hh => match cc, hh with
  | 0, _ => rfl
  | _ + 1, h => absurd rfl h,
  fun cc f hf => match cc, hf with
  | 0, hf => ⟨He.cls_ok (c.fact 25 (f := (fun K _ => (He.Fa.cls "Way").ok K)) rfl), by
      simp only [ifl, List.mem_cons, List.not_mem_nil, or_false] at hf
      rcases hf with rfl | rfl | rfl | rfl | rfl
      · exact He.noat_ok (c.fact 26 (f := (fun K _ => (He.Fa.noat "Way" "drops").ok K)) rfl)
      · exact He.noat_ok (c.fact 27 (f := (fun K _ => (He.Fa.noat "Way" "numbers").ok K)) rfl)
      · exact He.noat_ok (c.fact 28 (f := (fun K _ => (He.Fa.noat "Way" "stretches").ok K)) rfl)
      · exact He.noat_ok (c.fact 29 (f := (fun K _ => (He.Fa.noat "Way" "hidden").ok K)) rfl)
      · exact He.noat_ok (c.fact 30 (f := (fun K _ => (He.Fa.noat "Way" "lock").ok K)) rfl)⟩
  | _ + 1, hf => (nomatch hf),
  fun cc => match cc with
  | 0 => by decide
  | _ + 1 => by show 0 < 1000; decide,
  fun cc => match cc with
  | 0 => by decide
  | _ + 1 => List.nodup_nil⟩
theorem factsT {w : World} {K : PySem.W.Frag} {T : List Addr} {h : Heap} {mg : Str → Option Value} {f : Addr} (X : K.In h) (G : h.Ns mainGlobals mg) (hfa : mg ("law" : Str) = some (.ref f)) (c : SaysL faT fnT tsT w K T) :
    ∃ fd : FuncData, (∀ (s : Shared) (u : Value), BindsTo s fd ⟨[u], []⟩ [("_law_script", u)]) ∧ ∀ base : Heap, K.In base → base.Ns mainGlobals mg → (∀ p ∈ lsT, TabB base mg (codeAd K (p.1 K)) (tabAd K (p.1 K))) → FnOk Pg w K mg base (L2.CX Pg w) 11 f fd ["_law_script"] (spF (BkT K) 1 m_law) := by
  obtain ⟨fd_is_table, F_is_table⟩ := DefL.funD (d := d_is_table) (c.def_ 0 (d := d_is_table) rfl).1 (c.def_ 0 (d := d_is_table) rfl).2 rfl
  obtain ⟨fd_Way___init__, F_Way___init__⟩ := DefL.funD (d := d_Way___init__) (c.def_ 1 (d := d_Way___init__) rfl).1 (c.def_ 1 (d := d_Way___init__) rfl).2 rfl
  obtain ⟨fd_Way_drop_answer, F_Way_drop_answer⟩ := DefL.funD (d := d_Way_drop_answer) (c.def_ 2 (d := d_Way_drop_answer) rfl).1 (c.def_ 2 (d := d_Way_drop_answer) rfl).2 rfl
  obtain ⟨fd_Way_number_answer, F_Way_number_answer⟩ := DefL.funD (d := d_Way_number_answer) (c.def_ 3 (d := d_Way_number_answer) rfl).1 (c.def_ 3 (d := d_Way_number_answer) rfl).2 rfl
  obtain ⟨fd_Way_but, F_Way_but⟩ := DefL.funD (d := d_Way_but) (c.def_ 4 (d := d_Way_but) rfl).1 (c.def_ 4 (d := d_Way_but) rfl).2 rfl
  obtain ⟨fd_Way_text, F_Way_text⟩ := DefL.funD (d := d_Way_text) (c.def_ 5 (d := d_Way_text) rfl).1 (c.def_ 5 (d := d_Way_text) rfl).2 rfl
  obtain ⟨fd_Way_read, F_Way_read⟩ := DefL.funD (d := d_Way_read) (c.def_ 6 (d := d_Way_read) rfl).1 (c.def_ 6 (d := d_Way_read) rfl).2 rfl
  obtain ⟨fd_Way___eq__, F_Way___eq__⟩ := DefL.funD (d := d_Way___eq__) (c.def_ 7 (d := d_Way___eq__) rfl).1 (c.def_ 7 (d := d_Way___eq__) rfl).2 rfl
  obtain ⟨fd_Way___repr__, F_Way___repr__⟩ := DefL.funD (d := d_Way___repr__) (c.def_ 8 (d := d_Way___repr__) rfl).1 (c.def_ 8 (d := d_Way___repr__) rfl).2 rfl
  obtain ⟨fd__law_open, F__law_open⟩ := DefL.funD (d := d__law_open) (c.def_ 9 (d := d__law_open) rfl).1 (c.def_ 9 (d := d__law_open) rfl).2 rfl
  obtain ⟨fd__law_draw, F__law_draw⟩ := DefL.funD (d := d__law_draw) (c.def_ 10 (d := d__law_draw) rfl).1 (c.def_ 10 (d := d__law_draw) rfl).2 rfl
  obtain ⟨fd__law_of, F__law_of⟩ := DefL.funD (d := d__law_of) (c.def_ 11 (d := d__law_of) rfl).1 (c.def_ 11 (d := d__law_of) rfl).2 rfl
  obtain ⟨fd__law_like, F__law_like⟩ := DefL.funD (d := d__law_like) (c.def_ 12 (d := d__law_like) rfl).1 (c.def_ 12 (d := d__law_like) rfl).2 rfl
  obtain ⟨fd__law_some_spec, F__law_some_spec⟩ := DefL.funD (d := d__law_some_spec) (c.def_ 13 (d := d__law_some_spec) rfl).1 (c.def_ 13 (d := d__law_some_spec) rfl).2 rfl
  obtain ⟨fd__law_way, F__law_way⟩ := DefL.funD (d := d__law_way) (c.def_ 14 (d := d__law_way) rfl).1 (c.def_ 14 (d := d__law_way) rfl).2 rfl
  obtain ⟨fd__law_way_text, F__law_way_text⟩ := DefL.funD (d := d__law_way_text) (c.def_ 15 (d := d__law_way_text) rfl).1 (c.def_ 15 (d := d__law_way_text) rfl).2 rfl
  obtain ⟨fd__law_word, F__law_word⟩ := DefL.funD (d := d__law_word) (c.def_ 16 (d := d__law_word) rfl).1 (c.def_ 16 (d := d__law_word) rfl).2 rfl
  obtain ⟨fd__law_answers_so, F__law_answers_so⟩ := DefL.funD (d := d__law_answers_so) (c.def_ 17 (d := d__law_answers_so) rfl).1 (c.def_ 17 (d := d__law_answers_so) rfl).2 rfl
  obtain ⟨fd_law, F_law⟩ := DefL.funD (d := d_law) (c.def_ 18 (d := d_law) rfl).1 (c.def_ 18 (d := d_law) rfl).2 rfl
  have h_is_table : mg "is_table" = some (.ref (He.ga K "is_table")) := He.glo_ok X G (c.fact 0 (f := (fun K _ => (He.Fa.glo "is_table").ok K)) rfl)
  have h__law_open : mg "_law_open" = some (.ref (He.ga K "_law_open")) := He.glo_ok X G (c.fact 1 (f := (fun K _ => (He.Fa.glo "_law_open").ok K)) rfl)
  have h__law_draw : mg "_law_draw" = some (.ref (He.ga K "_law_draw")) := He.glo_ok X G (c.fact 2 (f := (fun K _ => (He.Fa.glo "_law_draw").ok K)) rfl)
  have h__law_of : mg "_law_of" = some (.ref (He.ga K "_law_of")) := He.glo_ok X G (c.fact 3 (f := (fun K _ => (He.Fa.glo "_law_of").ok K)) rfl)
  have h__law_like : mg "_law_like" = some (.ref (He.ga K "_law_like")) := He.glo_ok X G (c.fact 4 (f := (fun K _ => (He.Fa.glo "_law_like").ok K)) rfl)
  have h__law_some_spec : mg "_law_some_spec" = some (.ref (He.ga K "_law_some_spec")) := He.glo_ok X G (c.fact 5 (f := (fun K _ => (He.Fa.glo "_law_some_spec").ok K)) rfl)
  have h__law_way : mg "_law_way" = some (.ref (He.ga K "_law_way")) := He.glo_ok X G (c.fact 6 (f := (fun K _ => (He.Fa.glo "_law_way").ok K)) rfl)
  have h__law_way_text : mg "_law_way_text" = some (.ref (He.ga K "_law_way_text")) := He.glo_ok X G (c.fact 7 (f := (fun K _ => (He.Fa.glo "_law_way_text").ok K)) rfl)
  have h__law_word : mg "_law_word" = some (.ref (He.ga K "_law_word")) := He.glo_ok X G (c.fact 8 (f := (fun K _ => (He.Fa.glo "_law_word").ok K)) rfl)
  have h__law_answers_so : mg "_law_answers_so" = some (.ref (He.ga K "_law_answers_so")) := He.glo_ok X G (c.fact 9 (f := (fun K _ => (He.Fa.glo "_law_answers_so").ok K)) rfl)
  have h_law : mg "law" = some (.ref (He.ga K "law")) := He.glo_ok X G (c.fact 10 (f := (fun K _ => (He.Fa.glo "law").ok K)) rfl)
  have g : Gm mg := ⟨trivial,
    He.free_ok X G (c.fact 11 (f := (fun K _ => (He.Fa.free "all").ok K)) rfl),
    He.free_ok X G (c.fact 12 (f := (fun K _ => (He.Fa.free "bool").ok K)) rfl),
    He.free_ok X G (c.fact 13 (f := (fun K _ => (He.Fa.free "int").ok K)) rfl),
    He.free_ok X G (c.fact 14 (f := (fun K _ => (He.Fa.free "isinstance").ok K)) rfl),
    He.free_ok X G (c.fact 15 (f := (fun K _ => (He.Fa.free "len").ok K)) rfl),
    He.free_ok X G (c.fact 16 (f := (fun K _ => (He.Fa.free "list").ok K)) rfl),
    He.free_ok X G (c.fact 17 (f := (fun K _ => (He.Fa.free "range").ok K)) rfl),
    He.free_ok X G (c.fact 18 (f := (fun K _ => (He.Fa.free "repr").ok K)) rfl),
    He.free_ok X G (c.fact 19 (f := (fun K _ => (He.Fa.free "str").ok K)) rfl),
    He.free_ok X G (c.fact 20 (f := (fun K _ => (He.Fa.free "tuple").ok K)) rfl),
    He.free_ok X G (c.fact 21 (f := (fun K _ => (He.Fa.free "zip").ok K)) rfl)⟩
  have κ : Km w K (BkT K) mg := ⟨cfT c,
    ⟨He.cls_ok (c.fact 25 (f := (fun K _ => (He.Fa.cls "Way").ok K)) rfl), show ∀ m ∈ (["drop_answer", "number_answer", "but", "text", "__eq__", "__repr__"] : List Str), m ∉ fldT cn_Way from by decide⟩,
    He.glo_ok X G (c.fact 24 (f := (fun K _ => (He.Fa.glo "Way").ok K)) rfl),
    clsiB_ok (He.cls_ok (c.fact 25 (f := (fun K _ => (He.Fa.cls "Way").ok K)) rfl)) (c.fact 22 (f := (fun K _ => clsiB K (He.ga K "Way"))) rfl),
    neB_ok (c.fact 23 (f := (fun K _ => neB K (He.ga K "Way"))) rfl),
    dicC_of (He.glo_ok X G (c.fact 41 (f := (fun K _ => (He.Fa.glo "WORDS").ok K)) rfl)) (c.dicW 0 (t := (fun K => He.ga K "WORDS", kv_WORDS.map (·.1))) rfl) (c.fact 42 (f := (fun K _ => dicB K (He.ga K "WORDS") kv_WORDS)) rfl),
    ctupB_ok (c.fact 39 (f := (fun K _ => ctupB K (He.ga K "Way") "ANSWERS" [.str "taken", .str "refused", .str "made"])) rfl),
    ctupB_ok (c.fact 40 (f := (fun K _ => ctupB K (He.ga K "Way") "LOCKS" [.str "none", .str "one", .str "all"])) rfl)⟩
  have e := hfa.symm.trans h_law
  obtain rfl : f = He.ga K "law" := by injection e with e; injection e
  have b := FunD.bindsA (ps := ["_law_script"]) F_law fun _ _ _ _ _ _ us hl => match us, hl with | [_], _ => rfl
  have XC := xcT c
  refine ⟨fd_law, fun s v => b s [v] rfl, fun base _ _ TBs => ?_⟩
  have O_is_table := fo_is_table (P := Pg) (w := w) (base := base) (B := BkT K) rfl g κ F_is_table  
  have N_is_table : Fn Pg w K mg base (BkT K) 1 "is_table" 2 m_is_table := ⟨_, _, _, O_is_table, h_is_table, F_is_table.kp, (F_is_table.bindsN fun _ _ _ _ _ _ us hl => match us, hl with | [_, _], _ => rfl)⟩
  have O_Way___init__ := fo_Way___init__ (P := Pg) (w := w) (base := base) (B := BkT K) rfl g κ F_Way___init__  (N_is_table.mono (by decide))
  have NM_Way_0_ : MkA Pg w K mg base (BkT K) 3 "Way" cn_Way 0 [] [0, 1, 2, 3, 4, 5] [.str "tttttttt", .str "tttt", .bl false, .bl false, .str "none"] 6 m_Way___init__ := ⟨2, by decide, MkC.of (He.mkr_ok (c.fact 31 (f := (fun K _ => (He.Fa.mkr "Way").ok K)) rfl)) O_Way___init__ κ.n_Way (kbd_dk (B := BkT K) (ps := ["self", "drops", "numbers", "stretches", "hidden", "lock"]) F_Way___init__ 1 [] [("stretches", .bl false), ("hidden", .bl false), ("lock", .str "none")] [0, 1, 2, 3, 4, 5] [.str "tttttttt", .str "tttt", .bl false, .bl false, .str "none"] (by simp [d_Way___init__]) (by simp [d_Way___init__]) (by simp [d_Way___init__, He.Dv.v]) (fun _ => (.cons (.str _ (sok_of (by decide +kernel))) (.cons (.str _ (sok_of (by decide +kernel))) (.cons (.bl _) (.cons (.bl _) (.cons (.str _ (sok_of (by decide +kernel))) .nil)))))) fun _ _ _ _ _ _ _ us its mv ws l1 l2 l3 l4 => match us, its, mv, ws, l1, l2, l3, l4 with | [_], [_, _], [_, _, _], [], _, _, _, _ => ⟨_, rfl, ⟨_, _, _, _, _, _, rfl, rfl, ⟨_, _, _, _, _, _, rfl, rfl, ⟨_, _, _, _, _, _, rfl, rfl, rfl⟩⟩⟩⟩)⟩
  have NM_Way_0_numbers : MkA Pg w K mg base (BkT K) 3 "Way" cn_Way 0 ["numbers"] [0, 2, 1, 4, 5, 6] [.str "tttttttt", .str "tttt", .bl false, .bl false, .str "none"] 6 m_Way___init__ := ⟨2, by decide, MkC.of (He.mkr_ok (c.fact 31 (f := (fun K _ => (He.Fa.mkr "Way").ok K)) rfl)) O_Way___init__ κ.n_Way (kbd_dk (B := BkT K) (ps := ["self", "drops", "numbers", "stretches", "hidden", "lock"]) F_Way___init__ 1 ["numbers"] [("stretches", .bl false), ("hidden", .bl false), ("lock", .str "none")] [0, 2, 1, 4, 5, 6] [.str "tttttttt", .str "tttt", .bl false, .bl false, .str "none"] (by simp [d_Way___init__]) (by simp [d_Way___init__]) (by simp [d_Way___init__, He.Dv.v]) (fun _ => (.cons (.str _ (sok_of (by decide +kernel))) (.cons (.str _ (sok_of (by decide +kernel))) (.cons (.bl _) (.cons (.bl _) (.cons (.str _ (sok_of (by decide +kernel))) .nil)))))) fun _ _ _ _ _ _ _ us its mv ws l1 l2 l3 l4 => match us, its, mv, ws, l1, l2, l3, l4 with | [_], [_, _], [_, _, _], [_], _, _, _, _ => ⟨_, rfl, ⟨_, _, _, _, _, _, rfl, rfl, ⟨_, _, _, _, _, _, rfl, rfl, ⟨_, _, _, _, _, _, rfl, rfl, rfl⟩⟩⟩⟩)⟩
  have NM_Way_1_ : MkA Pg w K mg base (BkT K) 3 "Way" cn_Way 1 [] [0, 1, 3, 4, 5, 6] [.str "tttttttt", .str "tttt", .bl false, .bl false, .str "none"] 6 m_Way___init__ := ⟨2, by decide, MkC.of (He.mkr_ok (c.fact 31 (f := (fun K _ => (He.Fa.mkr "Way").ok K)) rfl)) O_Way___init__ κ.n_Way (kbd_dk (B := BkT K) (ps := ["self", "drops", "numbers", "stretches", "hidden", "lock"]) F_Way___init__ 2 [] [("stretches", .bl false), ("hidden", .bl false), ("lock", .str "none")] [0, 1, 3, 4, 5, 6] [.str "tttttttt", .str "tttt", .bl false, .bl false, .str "none"] (by simp [d_Way___init__]) (by simp [d_Way___init__]) (by simp [d_Way___init__, He.Dv.v]) (fun _ => (.cons (.str _ (sok_of (by decide +kernel))) (.cons (.str _ (sok_of (by decide +kernel))) (.cons (.bl _) (.cons (.bl _) (.cons (.str _ (sok_of (by decide +kernel))) .nil)))))) fun _ _ _ _ _ _ _ us its mv ws l1 l2 l3 l4 => match us, its, mv, ws, l1, l2, l3, l4 with | [_, _], [_, _], [_, _, _], [], _, _, _, _ => ⟨_, rfl, ⟨_, _, _, _, _, _, rfl, rfl, ⟨_, _, _, _, _, _, rfl, rfl, ⟨_, _, _, _, _, _, rfl, rfl, rfl⟩⟩⟩⟩)⟩
  have NM_Way_2_stretches_hidden_lock : MkA Pg w K mg base (BkT K) 3 "Way" cn_Way 2 ["stretches", "hidden", "lock"] [0, 1, 2, 3, 4, 5] [.str "tttttttt", .str "tttt"] 6 m_Way___init__ := ⟨2, by decide, MkC.of (He.mkr_ok (c.fact 31 (f := (fun K _ => (He.Fa.mkr "Way").ok K)) rfl)) O_Way___init__ κ.n_Way (kbd_dk (B := BkT K) (ps := ["self", "drops", "numbers", "stretches", "hidden", "lock"]) F_Way___init__ 3 ["stretches", "hidden", "lock"] [] [0, 1, 2, 3, 4, 5] [.str "tttttttt", .str "tttt"] (by simp [d_Way___init__]) (by simp [d_Way___init__]) (by simp [d_Way___init__, He.Dv.v]) (fun _ => (.cons (.str _ (sok_of (by decide +kernel))) (.cons (.str _ (sok_of (by decide +kernel))) .nil))) fun _ _ _ _ _ _ _ us its mv ws l1 l2 l3 l4 => match us, its, mv, ws, l1, l2, l3, l4 with | [_, _, _], [_, _], [], [_, _, _], _, _, _, _ => ⟨_, rfl, rfl⟩)⟩
  have O_Way_drop_answer := fo_Way_drop_answer (P := Pg) (w := w) (base := base) (B := BkT K) rfl g κ F_Way_drop_answer  
  have NE_Way_drop_answer_0_again_elder_apart : MeA Pg w K mg base (BkT K) 1 cn_Way "drop_answer" 0 ["again", "elder", "apart"] [0, 2, 1, 3] [] 4 m_Way_drop_answer := Me.of (He.meth_ok (c.fact 32 (f := (fun K _ => (He.Fa.meth "Way" "drop_answer").ok K)) rfl)) O_Way_drop_answer (kbd_n (B := BkT K) (ps := ["self", "elder", "again", "apart"]) F_Way_drop_answer 1 ["again", "elder", "apart"] [0, 2, 1, 3] fun _ _ _ _ _ _ us ws l1 l2 => match us, ws, l1, l2 with | [_], [_, _, _], _, _ => rfl)
  have O_Way_number_answer := fo_Way_number_answer (P := Pg) (w := w) (base := base) (B := BkT K) rfl g κ F_Way_number_answer  
  have NE_Way_number_answer_0_dropped_elder : MeA Pg w K mg base (BkT K) 1 cn_Way "number_answer" 0 ["dropped", "elder"] [0, 2, 1] [] 3 m_Way_number_answer := Me.of (He.meth_ok (c.fact 33 (f := (fun K _ => (He.Fa.meth "Way" "number_answer").ok K)) rfl)) O_Way_number_answer (kbd_n (B := BkT K) (ps := ["self", "elder", "dropped"]) F_Way_number_answer 1 ["dropped", "elder"] [0, 2, 1] fun _ _ _ _ _ _ us ws l1 l2 => match us, ws, l1, l2 with | [_], [_, _], _, _ => rfl)
  have O_Way_but := fo_Way_but (P := Pg) (w := w) (base := base) (B := BkT K) rfl g κ F_Way_but  (NM_Way_2_stretches_hidden_lock.mono (by decide))
  have NE_Way_but_0_ : MeA Pg w K mg base (BkT K) 4 cn_Way "but" 0 [] [0, 1, 2, 3, 4, 5] [.non, .non, .non, .non, .non] 6 m_Way_but := Me.of (He.meth_ok (c.fact 34 (f := (fun K _ => (He.Fa.meth "Way" "but").ok K)) rfl)) O_Way_but (kbd_k (B := BkT K) (ps := ["self", "drops", "numbers", "stretches", "hidden", "lock"]) F_Way_but 1 [] [("drops", .non), ("numbers", .non), ("stretches", .non), ("hidden", .non), ("lock", .non)] [0, 1, 2, 3, 4, 5] [.non, .non, .non, .non, .non] (by simp [d_Way_but]) (by simp [d_Way_but, He.Dv.v]) (fun _ => (.cons .non (.cons .non (.cons .non (.cons .non (.cons .non .nil)))))) fun _ _ _ _ _ _ us mv ws l1 l3 l4 => match us, mv, ws, l1, l3, l4 with | [_], [_, _, _, _, _], [], _, _, _ => ⟨_, _, _, _, _, _, rfl, rfl, ⟨_, _, _, _, _, _, rfl, rfl, ⟨_, _, _, _, _, _, rfl, rfl, ⟨_, _, _, _, _, _, rfl, rfl, ⟨_, _, _, _, _, _, rfl, rfl, rfl⟩⟩⟩⟩⟩)
  have NE_Way_but_0_drops : MeA Pg w K mg base (BkT K) 4 cn_Way "but" 0 ["drops"] [0, 1, 2, 3, 4, 5] [.non, .non, .non, .non] 6 m_Way_but := Me.of (He.meth_ok (c.fact 34 (f := (fun K _ => (He.Fa.meth "Way" "but").ok K)) rfl)) O_Way_but (kbd_k (B := BkT K) (ps := ["self", "drops", "numbers", "stretches", "hidden", "lock"]) F_Way_but 1 ["drops"] [("numbers", .non), ("stretches", .non), ("hidden", .non), ("lock", .non)] [0, 1, 2, 3, 4, 5] [.non, .non, .non, .non] (by simp [d_Way_but]) (by simp [d_Way_but, He.Dv.v]) (fun _ => (.cons .non (.cons .non (.cons .non (.cons .non .nil))))) fun _ _ _ _ _ _ us mv ws l1 l3 l4 => match us, mv, ws, l1, l3, l4 with | [_], [_, _, _, _], [_], _, _, _ => ⟨_, _, _, _, _, _, rfl, rfl, ⟨_, _, _, _, _, _, rfl, rfl, ⟨_, _, _, _, _, _, rfl, rfl, ⟨_, _, _, _, _, _, rfl, rfl, rfl⟩⟩⟩⟩)
  have NE_Way_but_0_hidden : MeA Pg w K mg base (BkT K) 4 cn_Way "but" 0 ["hidden"] [0, 2, 3, 4, 1, 5] [.non, .non, .non, .non] 6 m_Way_but := Me.of (He.meth_ok (c.fact 34 (f := (fun K _ => (He.Fa.meth "Way" "but").ok K)) rfl)) O_Way_but (kbd_k (B := BkT K) (ps := ["self", "drops", "numbers", "stretches", "hidden", "lock"]) F_Way_but 1 ["hidden"] [("drops", .non), ("numbers", .non), ("stretches", .non), ("lock", .non)] [0, 2, 3, 4, 1, 5] [.non, .non, .non, .non] (by simp [d_Way_but]) (by simp [d_Way_but, He.Dv.v]) (fun _ => (.cons .non (.cons .non (.cons .non (.cons .non .nil))))) fun _ _ _ _ _ _ us mv ws l1 l3 l4 => match us, mv, ws, l1, l3, l4 with | [_], [_, _, _, _], [_], _, _, _ => ⟨_, _, _, _, _, _, rfl, rfl, ⟨_, _, _, _, _, _, rfl, rfl, ⟨_, _, _, _, _, _, rfl, rfl, ⟨_, _, _, _, _, _, rfl, rfl, rfl⟩⟩⟩⟩)
  have NE_Way_but_0_lock : MeA Pg w K mg base (BkT K) 4 cn_Way "but" 0 ["lock"] [0, 2, 3, 4, 5, 1] [.non, .non, .non, .non] 6 m_Way_but := Me.of (He.meth_ok (c.fact 34 (f := (fun K _ => (He.Fa.meth "Way" "but").ok K)) rfl)) O_Way_but (kbd_k (B := BkT K) (ps := ["self", "drops", "numbers", "stretches", "hidden", "lock"]) F_Way_but 1 ["lock"] [("drops", .non), ("numbers", .non), ("stretches", .non), ("hidden", .non)] [0, 2, 3, 4, 5, 1] [.non, .non, .non, .non] (by simp [d_Way_but]) (by simp [d_Way_but, He.Dv.v]) (fun _ => (.cons .non (.cons .non (.cons .non (.cons .non .nil))))) fun _ _ _ _ _ _ us mv ws l1 l3 l4 => match us, mv, ws, l1, l3, l4 with | [_], [_, _, _, _], [_], _, _, _ => ⟨_, _, _, _, _, _, rfl, rfl, ⟨_, _, _, _, _, _, rfl, rfl, ⟨_, _, _, _, _, _, rfl, rfl, ⟨_, _, _, _, _, _, rfl, rfl, rfl⟩⟩⟩⟩)
  have NE_Way_but_0_lock_hidden_stretches_numbers_drops : MeA Pg w K mg base (BkT K) 4 cn_Way "but" 0 ["lock", "hidden", "stretches", "numbers", "drops"] [0, 5, 4, 3, 2, 1] [] 6 m_Way_but := Me.of (He.meth_ok (c.fact 34 (f := (fun K _ => (He.Fa.meth "Way" "but").ok K)) rfl)) O_Way_but (kbd_k (B := BkT K) (ps := ["self", "drops", "numbers", "stretches", "hidden", "lock"]) F_Way_but 1 ["lock", "hidden", "stretches", "numbers", "drops"] [] [0, 5, 4, 3, 2, 1] [] (by simp [d_Way_but]) (by simp [d_Way_but, He.Dv.v]) (fun _ => .nil) fun _ _ _ _ _ _ us mv ws l1 l3 l4 => match us, mv, ws, l1, l3, l4 with | [_], [], [_, _, _, _, _], _, _, _ => rfl)
  have NE_Way_but_0_numbers : MeA Pg w K mg base (BkT K) 4 cn_Way "but" 0 ["numbers"] [0, 2, 1, 3, 4, 5] [.non, .non, .non, .non] 6 m_Way_but := Me.of (He.meth_ok (c.fact 34 (f := (fun K _ => (He.Fa.meth "Way" "but").ok K)) rfl)) O_Way_but (kbd_k (B := BkT K) (ps := ["self", "drops", "numbers", "stretches", "hidden", "lock"]) F_Way_but 1 ["numbers"] [("drops", .non), ("stretches", .non), ("hidden", .non), ("lock", .non)] [0, 2, 1, 3, 4, 5] [.non, .non, .non, .non] (by simp [d_Way_but]) (by simp [d_Way_but, He.Dv.v]) (fun _ => (.cons .non (.cons .non (.cons .non (.cons .non .nil))))) fun _ _ _ _ _ _ us mv ws l1 l3 l4 => match us, mv, ws, l1, l3, l4 with | [_], [_, _, _, _], [_], _, _, _ => ⟨_, _, _, _, _, _, rfl, rfl, ⟨_, _, _, _, _, _, rfl, rfl, ⟨_, _, _, _, _, _, rfl, rfl, ⟨_, _, _, _, _, _, rfl, rfl, rfl⟩⟩⟩⟩)
  have NE_Way_but_0_stretches : MeA Pg w K mg base (BkT K) 4 cn_Way "but" 0 ["stretches"] [0, 2, 3, 1, 4, 5] [.non, .non, .non, .non] 6 m_Way_but := Me.of (He.meth_ok (c.fact 34 (f := (fun K _ => (He.Fa.meth "Way" "but").ok K)) rfl)) O_Way_but (kbd_k (B := BkT K) (ps := ["self", "drops", "numbers", "stretches", "hidden", "lock"]) F_Way_but 1 ["stretches"] [("drops", .non), ("numbers", .non), ("hidden", .non), ("lock", .non)] [0, 2, 3, 1, 4, 5] [.non, .non, .non, .non] (by simp [d_Way_but]) (by simp [d_Way_but, He.Dv.v]) (fun _ => (.cons .non (.cons .non (.cons .non (.cons .non .nil))))) fun _ _ _ _ _ _ us mv ws l1 l3 l4 => match us, mv, ws, l1, l3, l4 with | [_], [_, _, _, _], [_], _, _, _ => ⟨_, _, _, _, _, _, rfl, rfl, ⟨_, _, _, _, _, _, rfl, rfl, ⟨_, _, _, _, _, _, rfl, rfl, ⟨_, _, _, _, _, _, rfl, rfl, rfl⟩⟩⟩⟩)
  have O_Way_text := fo_Way_text (P := Pg) (w := w) (base := base) (B := BkT K) rfl g κ F_Way_text  
  have NE_Way_text_0_ : MeA Pg w K mg base (BkT K) 1 cn_Way "text" 0 [] [0] [] 1 m_Way_text := Me.of (He.meth_ok (c.fact 35 (f := (fun K _ => (He.Fa.meth "Way" "text").ok K)) rfl)) O_Way_text (kbd_n (B := BkT K) (ps := ["self"]) F_Way_text 1 [] [0] fun _ _ _ _ _ _ us ws l1 l2 => match us, ws, l1, l2 with | [_], [], _, _ => rfl)
  have O_Way_read := fo_Way_read (P := Pg) (w := w) (base := base) (B := BkT K) rfl g κ F_Way_read  (NM_Way_2_stretches_hidden_lock.mono (by decide)) (NE_Way_text_0_.mono (by decide))
  have NS_Way_read_0_text : SmK Pg w K mg base (BkT K) 4 "Way" "read" 0 ["text"] [0] 1 m_Way_read := ⟨_, _, _, _, _, O_Way_read, κ.n_Way, smetB_ok (c.fact 36 (f := (fun K _ => smetB K (He.ga K "Way") "read" (He.ma K (He.ga K "Way") "read") (smG K (He.ga K "Way") "read"))) rfl), kbn_of F_Way_read fun _ _ _ _ _ _ us ws l1 l2 => match us, ws, l1, l2 with | [], [_], _, _ => rfl⟩
  have NS_Way_read_1_ : SmK Pg w K mg base (BkT K) 4 "Way" "read" 1 [] [0] 1 m_Way_read := ⟨_, _, _, _, _, O_Way_read, κ.n_Way, smetB_ok (c.fact 36 (f := (fun K _ => smetB K (He.ga K "Way") "read" (He.ma K (He.ga K "Way") "read") (smG K (He.ga K "Way") "read"))) rfl), kbn_of F_Way_read fun _ _ _ _ _ _ us ws l1 l2 => match us, ws, l1, l2 with | [_], [], _, _ => rfl⟩
  have O_Way___eq__ := fo_Way___eq__ (P := Pg) (w := w) (base := base) (B := BkT K) rfl g κ F_Way___eq__  (NE_Way_text_0_.mono (by decide))
  have NE_Way___eq___1_ : MeA Pg w K mg base (BkT K) 2 cn_Way "__eq__" 1 [] [0, 1] [] 2 m_Way___eq__ := Me.of (He.meth_ok (c.fact 37 (f := (fun K _ => (He.Fa.meth "Way" "__eq__").ok K)) rfl)) O_Way___eq__ (kbd_n (B := BkT K) (ps := ["self", "other"]) F_Way___eq__ 2 [] [0, 1] fun _ _ _ _ _ _ us ws l1 l2 => match us, ws, l1, l2 with | [_, _], [], _, _ => rfl)
  have NN_Way___eq___1_ : MeN Pg w K mg base (BkT K) 3 cn_Way "__eq__" 1 [] [0, 1] [] 2 m_Way___eq__ := ⟨2, by decide, Me.of (He.meth_ok (c.fact 37 (f := (fun K _ => (He.Fa.meth "Way" "__eq__").ok K)) rfl)) O_Way___eq__ (kbd_n (B := BkT K) (ps := ["self", "other"]) F_Way___eq__ 2 [] [0, 1] fun _ _ _ _ _ _ us ws l1 l2 => match us, ws, l1, l2 with | [_, _], [], _, _ => rfl)⟩
  have O_Way___repr__ := fo_Way___repr__ (P := Pg) (w := w) (base := base) (B := BkT K) rfl g κ F_Way___repr__  (NE_Way_text_0_.mono (by decide))
  have NN_Way___repr___0_ : MeN Pg w K mg base (BkT K) 3 cn_Way "__repr__" 0 [] [0] [] 1 m_Way___repr__ := ⟨2, by decide, Me.of (He.meth_ok (c.fact 38 (f := (fun K _ => (He.Fa.meth "Way" "__repr__").ok K)) rfl)) O_Way___repr__ (kbd_n (B := BkT K) (ps := ["self"]) F_Way___repr__ 1 [] [0] fun _ _ _ _ _ _ us ws l1 l2 => match us, ws, l1, l2 with | [_], [], _, _ => rfl)⟩
  have O__law_open := fo__law_open (P := Pg) (w := w) (base := base) (B := BkT K) rfl g κ F__law_open  
  have N__law_open : Fn Pg w K mg base (BkT K) 1 "_law_open" 1 m__law_open := ⟨_, _, _, O__law_open, h__law_open, F__law_open.kp, (F__law_open.bindsN fun _ _ _ _ _ _ us hl => match us, hl with | [_], _ => rfl)⟩
  have O__law_draw := fo__law_draw (P := Pg) (w := w) (base := base) (B := BkT K) rfl g κ F__law_draw  
  have N__law_draw : Fn Pg w K mg base (BkT K) 1 "_law_draw" 2 m__law_draw := ⟨_, _, _, O__law_draw, h__law_draw, F__law_draw.kp, (F__law_draw.bindsN fun _ _ _ _ _ _ us hl => match us, hl with | [_, _], _ => rfl)⟩
  have O__law_of := fo__law_of (P := Pg) (w := w) (base := base) (B := BkT K) rfl g κ F__law_of  (N__law_draw.mono (by decide))
  have N__law_of : Fn Pg w K mg base (BkT K) 2 "_law_of" 2 m__law_of := ⟨_, _, _, O__law_of, h__law_of, F__law_of.kp, (F__law_of.bindsN fun _ _ _ _ _ _ us hl => match us, hl with | [_, _], _ => rfl)⟩
  have O__law_like := fo__law_like (P := Pg) (w := w) (base := base) (B := BkT K) rfl g κ F__law_like h__law_like 
  have N__law_like : Fn Pg w K mg base (BkT K) 9 "_law_like" 2 m__law_like := ⟨_, _, _, O__law_like, h__law_like, F__law_like.kp, (F__law_like.bindsN fun _ _ _ _ _ _ us hl => match us, hl with | [_, _], _ => rfl)⟩
  have O__law_some_spec := fo__law_some_spec (P := Pg) (w := w) (base := base) (B := BkT K) rfl g κ F__law_some_spec  (N__law_of.mono (by decide)) (N__law_draw.mono (by decide))
  have N__law_some_spec : Fn Pg w K mg base (BkT K) 3 "_law_some_spec" 1 m__law_some_spec := ⟨_, _, _, O__law_some_spec, h__law_some_spec, F__law_some_spec.kp, (F__law_some_spec.bindsN fun _ _ _ _ _ _ us hl => match us, hl with | [_], _ => rfl)⟩
  have O__law_way := fo__law_way (P := Pg) (w := w) (base := base) (B := BkT K) rfl g κ F__law_way  (NM_Way_2_stretches_hidden_lock.mono (by decide))
  have N__law_way : Fn Pg w K mg base (BkT K) 4 "_law_way" 1 m__law_way := ⟨_, _, _, O__law_way, h__law_way, F__law_way.kp, (F__law_way.bindsN fun _ _ _ _ _ _ us hl => match us, hl with | [_], _ => rfl)⟩
  have O__law_way_text := fo__law_way_text (P := Pg) (w := w) (base := base) (B := BkT K) rfl g κ F__law_way_text  
  have N__law_way_text : Fn Pg w K mg base (BkT K) 1 "_law_way_text" 1 m__law_way_text := ⟨_, _, _, O__law_way_text, h__law_way_text, F__law_way_text.kp, (F__law_way_text.bindsN fun _ _ _ _ _ _ us hl => match us, hl with | [_], _ => rfl)⟩
  have O__law_word := fo__law_word (P := Pg) (w := w) (base := base) (B := BkT K) rfl g κ F__law_word  
  have N__law_word : Fn Pg w K mg base (BkT K) 1 "_law_word" 1 m__law_word := ⟨_, _, _, O__law_word, h__law_word, F__law_word.kp, (F__law_word.bindsN fun _ _ _ _ _ _ us hl => match us, hl with | [_], _ => rfl)⟩
  have O__law_answers_so := fo__law_answers_so (P := Pg) (w := w) (base := base) (B := BkT K) rfl g κ F__law_answers_so  (N__law_like.mono (by decide)) (N__law_word.mono (by decide)) (NE_Way_drop_answer_0_again_elder_apart.mono (by decide)) (NE_Way_number_answer_0_dropped_elder.mono (by decide))
  have N__law_answers_so : Fn Pg w K mg base (BkT K) 10 "_law_answers_so" 2 m__law_answers_so := ⟨_, _, _, O__law_answers_so, h__law_answers_so, F__law_answers_so.kp, (F__law_answers_so.bindsN fun _ _ _ _ _ _ us hl => match us, hl with | [_, _], _ => rfl)⟩
  have O_law := fo_law (P := Pg) (w := w) (base := base) (B := BkT K) rfl g κ F_law  (N__law_open.mono (by decide)) (N__law_some_spec.mono (by decide)) (N__law_way_text.mono (by decide)) (N__law_way.mono (by decide)) (N__law_like.mono (by decide)) (N__law_answers_so.mono (by decide)) (N__law_draw.mono (by decide)) (NM_Way_0_.mono (by decide)) (NM_Way_0_numbers.mono (by decide)) (NM_Way_1_.mono (by decide)) (NE_Way_text_0_.mono (by decide)) (NE_Way_but_0_lock_hidden_stretches_numbers_drops.mono (by decide)) (NE_Way_but_0_.mono (by decide)) (NE_Way_but_0_lock.mono (by decide)) (NE_Way_but_0_hidden.mono (by decide)) (NE_Way_but_0_stretches.mono (by decide)) (NE_Way_but_0_numbers.mono (by decide)) (NE_Way_but_0_drops.mono (by decide)) (NE_Way___eq___1_.mono (by decide)) (NS_Way_read_1_.mono (by decide)) (NS_Way_read_0_text.mono (by decide)) (NN_Way___repr___0_.mono (by decide)) (NN_Way___eq___1_.mono (by decide))
  exact O_law
theorem tabsT (w : World) (K : PySem.W.Frag) (T : List Addr) (c : SaysL faT fnT tsT w K T) : ∀ p ∈ lsT, tabB K T (p.1 K) = true := fun p hp => by
  unfold lsT at hp
  cases hp
end LW

set_option Elab.async false
set_option linter.all false
set_option maxRecDepth 100000
set_option maxHeartbeats 4000000
/-! Lq11: texts joined and split; a way's text. -/
namespace Lp
open PySem PySem.Spec PyProof.Rows L2
theorem strs_map (ys : List Str) : strsOf (ys.map PV.str) = some ys := by
  unfold strsOf
  induction ys with
  | nil => rfl
  | cons c cs ih => rw [List.map_cons, List.mapM_cons, ih]; rfl
theorem joinL_mem {S : List Nat} {c : Nat} : ∀ {L : List (List Nat)}, c ∈ TL.joinL S L → c ∈ S ∨ ∃ p ∈ L, c ∈ p
  | [], h => by cases h
  | [p], h => .inr ⟨p, by simp, h⟩
  | p :: q :: r, h => by
    have h : c ∈ p ++ (S ++ TL.joinL S (q :: r)) := by simpa [TL.joinL] using h
    rcases List.mem_append.mp h with h | h
    · exact .inr ⟨p, by simp, h⟩
    rcases List.mem_append.mp h with h | h
    · exact .inl h
    · rcases joinL_mem h with h | ⟨z, hz, h⟩
      · exact .inl h
      · exact .inr ⟨z, by simp only [List.mem_cons] at hz ⊢; exact .inr hz, h⟩
theorem joinL_len {S : List Nat} : ∀ {L : List (List Nat)}, (TL.joinL S L).length ≤ (L.map List.length).sum + L.length * S.length
  | [] => by simp [TL.joinL]
  | [p] => by simp [TL.joinL]
  | p :: q :: r => by
    have ih := joinL_len (S := S) (L := q :: r)
    have e : TL.joinL S (p :: q :: r) = p ++ (S ++ TL.joinL S (q :: r)) := by simp [TL.joinL]
    rw [e, List.length_append, List.length_append, List.map_cons, List.sum_cons, List.length_cons, Nat.succ_mul]
    omega
theorem strOk_mem {x : Str} : PyData.strOk x = true ↔ ∀ c ∈ x.cps.toList, c < 1114112 := by
  show (x.cps.all fun c => decide (c < 0x110000)) = true ↔ _
  rw [← Array.all_toList, List.all_eq_true]
  constructor
  · exact fun h c hc => of_decide_eq_true (h c hc)
  · exact fun h c hc => decide_eq_true (h c hc)
theorem strOk_join {y : Str} {parts : List Str} (hy : PyData.strOk y = true) (hp : ∀ p ∈ parts, PyData.strOk p = true) : PyData.strOk (Txt.join y parts) = true := by
  rw [strOk_mem, TL.join_eq, show (Str.join y parts).cps.toList = _ from TL.tl_join y parts]
  intro c hc
  rcases joinL_mem hc with h | ⟨p, hp1, h⟩
  · exact strOk_mem.mp hy c h
  · obtain ⟨z, hz, rfl⟩ := List.mem_map.mp hp1
    exact strOk_mem.mp (hp z hz) c h
theorem len_join {y : Str} {parts : List Str} : (Txt.join y parts).length ≤ (parts.map (·.length)).sum + parts.length * y.length := by
  rw [len_eq, TL.join_eq, show (Str.join y parts).cps.toList = _ from TL.tl_join y parts]
  have := joinL_len (S := TL.tl y) (L := parts.map TL.tl)
  rw [List.map_map, List.length_map] at this
  have e : (parts.map (List.length ∘ TL.tl)) = parts.map (·.length) := by
    apply List.map_congr_left
    intro z _
    exact (len_eq z).symm
  rw [e] at this
  rw [len_eq y]
  exact this
theorem mJoin_ok {h : AH} {y : Str} {ys : List Str} (hy : PyData.strOk y = true) (hp : ∀ p ∈ ys, PyData.strOk p = true) (hz : (ys.map (·.length)).sum + ys.length * y.length ≤ 16777216) : mJoin h y [.lst (ys.map .str)] = some (.str (Txt.join y ys)) := by
  show (strsOf (ys.map PV.str)).bind _ = _
  rw [strs_map]
  show (if _ then _ else _) = _
  rw [if_pos]
  refine ⟨hz, strOk_join hy hp, ?_⟩
  rw [sizeLine_eq]
  exact Nat.le_trans len_join hz
theorem mSplit_ok {h : AH} {ys : List Str} (hne : ys ≠ []) (hp : ∀ p ∈ ys, PyData.strOk p = true ∧ 32 ∉ p.cps.toList ∧ p.length ≤ 1000) (hl : ys.length ≤ 1000) : mSplit h (Txt.join " " ys) [.str " "] = some (.lst (ys.map .str)) := by
  have e : Txt.split (Txt.join " " ys) " " = ys := TL.split_join (s := 32) (S := []) (by decide +kernel) (by decide +kernel) hne fun p h => (hp p h).2.1
  have l1 : (ys.map (·.length)).sum ≤ ys.length * 1000 := by
    clear e hne hl
    induction ys with
    | nil => simp
    | cons y ys ih =>
      have := ih fun p hp' => hp p (by simp [hp'])
      have h2 := (hp y (by simp)).2.2
      rw [List.map_cons, List.sum_cons, List.length_cons, Nat.succ_mul]
      omega
  have l2 := len_join (y := (" " : Str)) (parts := ys)
  have l3 : ((" " : Str)).length = 1 := by decide +kernel
  rw [l3] at l2
  have l4 : ys.length * 1000 ≤ 1000 * 1000 := Nat.mul_le_mul_right _ hl
  show (if _ then _ else _) = _
  rw [if_pos, e]
  · rfl
  · refine ⟨⟨by rw [l3]; rfl, by omega⟩, ?_, ?_⟩
    · rw [e, List.all_eq_true]
      intro p hp'
      obtain ⟨h1, _, h3⟩ := hp p hp'
      unfold sokB
      rw [h1]
      have := (show 1000 ≤ sizeLine by decide)
      exact decide_eq_true (by omega)
    · rw [e]; omega
/-! a way's words -/
def optL (p : SpecW) : List Str := (if p.s then [("stretches" : Str)] else []) ++ (if p.h then [("hidden" : Str)] else [])
def WL (p : SpecW) : List Str := ([("drops" : Str), mkS p.d, ("numbers" : Str), mkS p.n] ++ optL p) ++ [("lock" : Str), p.l]
def txt (p : SpecW) : Str := Txt.join " " (WL p)
theorem mem_WL {p : SpecW} {w : Str} (h : w ∈ WL p) : w = ("drops" : Str) ∨ w = mkS p.d ∨ w = ("numbers" : Str) ∨ w = mkS p.n ∨ w = ("stretches" : Str) ∨ w = ("hidden" : Str) ∨ w = ("lock" : Str) ∨ w = p.l := by
  obtain ⟨d, n, s, hd, l⟩ := p
  cases s <;> cases hd <;> simp [WL, optL] at h <;> rcases h with h | h | h | h | h | h | h | h <;> simp_all
theorem word_ok {p : SpecW} (k : p.Ok) {w : Str} (h : w ∈ WL p) : PyData.strOk w = true ∧ 32 ∉ w.cps.toList ∧ w.length ≤ 1000 := by
  have tab : ∀ {cs n}, TabC cs n → n ≤ 8 → PyData.strOk (mkS cs) = true ∧ 32 ∉ (mkS cs).cps.toList ∧ (mkS cs).length ≤ 1000 := fun {cs n} t hn => by
    refine ⟨sok_mk fun c hc => by rcases t.2.2 c hc with rfl | rfl | rfl <;> decide, fun hc => ?_, by rw [mkS_len, t.1]; omega⟩
    rcases t.2.2 32 hc with h | h | h <;> cases h
  rcases mem_WL h with rfl | rfl | rfl | rfl | rfl | rfl | rfl | h
  · decide +kernel
  · exact tab k.d (by decide)
  · decide +kernel
  · exact tab k.n (by decide)
  · decide +kernel
  · decide +kernel
  · decide +kernel
  · rcases k.l with e | e | e <;> rw [h, e] <;> decide +kernel
theorem WL_len (p : SpecW) : (WL p).length ≤ 8 ∧ 6 ≤ (WL p).length := by
  obtain ⟨d, n, s, hd, l⟩ := p
  cases s <;> cases hd <;> exact ⟨by simp [WL, optL], by simp [WL, optL]⟩
theorem txt_join {p : SpecW} (k : p.Ok) {h : AH} : mJoin h " " [.lst ((WL p).map .str)] = some (.str (txt p)) := by
  refine mJoin_ok (by decide +kernel) (fun w hw => (word_ok k hw).1) ?_
  have l1 : ((WL p).map (·.length)).sum ≤ (WL p).length * 1000 := by
    have : ∀ L : List Str, (∀ w ∈ L, w.length ≤ 1000) → (L.map (·.length)).sum ≤ L.length * 1000 := fun L => by
      induction L with
      | nil => simp
      | cons y ys ih =>
        intro hp
        have h1 := ih fun p hp' => hp p (by simp [hp'])
        have h2 := hp y (by simp)
        rw [List.map_cons, List.sum_cons, List.length_cons, Nat.succ_mul]
        omega
    exact this _ fun w hw => (word_ok k hw).2.2
  have l2 := WL_len p
  have l3 : ((" " : Str)).length = 1 := by decide +kernel
  rw [l3]
  omega
theorem txt_split {p : SpecW} (k : p.Ok) {h : AH} : mSplit h (txt p) [.str " "] = some (.lst ((WL p).map .str)) :=
  mSplit_ok (fun e => by have := (WL_len p).2; rw [e] at this; simp at this) (fun w hw => word_ok k hw) (by have := (WL_len p).1; omega)
theorem txt_words {p : SpecW} (k : p.Ok) : Txt.split (txt p) " " = WL p :=
  TL.split_join (s := 32) (S := []) (by decide +kernel) (by decide +kernel) (fun e => by have := (WL_len p).2; rw [e] at this; simp at this) fun w hw => (word_ok k hw).2.1
theorem mkS_inj {a b : List Nat} (h : mkS a = mkS b) : a = b :=
  show (mkS a).cps.toList = (mkS b).cps.toList by rw [h]
theorem txt_inj {p q : SpecW} (kp : p.Ok) (kq : q.Ok) (h : txt p = txt q) : p = q := by
  have e : WL p = WL q := by rw [← txt_words kp, h, txt_words kq]
  obtain ⟨d, n, s, hd, l⟩ := p
  obtain ⟨d', n', s', hd', l'⟩ := q
  have n1 : ¬ ("stretches" : Str) = "hidden" := by decide +kernel
  have n2 : ¬ ("stretches" : Str) = "lock" := by decide +kernel
  have n3 : ¬ ("hidden" : Str) = "lock" := by decide +kernel
  have n4 : ¬ ("hidden" : Str) = "stretches" := by decide +kernel
  have n5 : ¬ ("lock" : Str) = "stretches" := by decide +kernel
  have n6 : ¬ ("lock" : Str) = "hidden" := by decide +kernel
  cases s <;> cases hd <;> cases s' <;> cases hd' <;> simp [WL, optL, n1, n2, n3, n4, n5, n6] at e <;> (obtain ⟨e1, e2, e3⟩ := e; rw [mkS_inj e1, mkS_inj e2, e3])
theorem dec_txt {p q : SpecW} (kp : p.Ok) (kq : q.Ok) : decide (txt p = txt q) = (decide (p.d = q.d) && (decide (p.n = q.n) && (decide (p.s = q.s) && (decide (p.h = q.h) && decide (p.l = q.l))))) := by
  by_cases h : p = q
  · subst h; simp
  · have h1 : ¬ txt p = txt q := fun e => h (txt_inj kp kq e)
    rw [decide_eq_false h1]
    symm
    obtain ⟨d, n, s, hd, l⟩ := p
    obtain ⟨d', n', s', hd', l'⟩ := q
    simp only [SpecW.mk.injEq, not_and] at h
    simp only [Bool.and_eq_false_iff, decide_eq_false_iff_not]
    by_cases e1 : d = d'
    · by_cases e2 : n = n'
      · by_cases e3 : s = s'
        · by_cases e4 : hd = hd'
          · exact .inr (.inr (.inr (.inr (h e1 e2 e3 e4))))
          · exact .inr (.inr (.inr (.inl e4)))
        · exact .inr (.inr (.inl e3))
      · exact .inr (.inl e2)
    · exact .inl e1
theorem tab_range {cs : List Nat} {n : Nat} (h : cs.length = n) : cs = (List.range n).map (ltr cs) := by
  apply List.ext_getElem
  · simp [h]
  · intro i h1 h2
    simp only [List.getElem_map, List.getElem_range]
    unfold ltr
    rw [List.getElem?_eq_getElem h1]; rfl
end Lp
namespace Lp
open PySem PySem.Spec PyProof.Rows L2
section
variable {PA : List PV → S → Prop} {E : PV → S → Prop} {s : S}
/-- a comprehension that keeps some and maps them -/
theorem p_compFil2 {α : Type} {src : S → R S Sr} {t : Tg} {tt : S → R S Bool} {te : ME} {vs : List Nat}
    (h : (src s).post (fun r s1 => r.w = [] ∧ ∃ (rs : List α) (f g : α → PV) (c : α → Bool), r.xs = rs.map f ∧ (∀ a ∈ rs, isOwn (g a) = false ∧ ∃ e1, bindT t (f a) (wipeE s1.e vs) = some e1 ∧ (tt ⟨e1, s1.h⟩).post (fun k s2 => k = c a ∧ (te s2).post (fun y s3 => y = g a ∧ wipeE s3.e vs = wipeE s1.e vs ∧ s3.h = s1.h) NE ∧ wipeE s2.e vs = wipeE s1.e vs ∧ s2.h = s1.h) NE) ∧ PA ((rs.filter c).map g) ⟨wipeE s1.e vs, s1.h⟩) E) :
    (xECompN src t tt te vs s).post PA E := by
  refine p_compN (p_mono h (fun r s1 ⟨hw, rs, f, g, c, hx, hs, hn⟩ => ⟨hw, fun j acc h => acc = ((rs.take j).filter c).map g ∧ h = s1.h, ⟨rfl, rfl⟩, fun j v acc h e ⟨i1, i2⟩ => ?_, fun acc h ⟨i1, i2⟩ => ?_⟩) fun _ _ z => z)
  · subst i2
    rw [hx, List.getElem?_map] at e
    cases ea : rs[j]? with
    | none => rw [ea] at e; cases e
    | some a =>
      rw [ea] at e
      cases e
      obtain ⟨o, e1, eb, q⟩ := hs a (List.mem_of_getElem? ea)
      refine ⟨e1, eb, p_mono q (fun k s2 ⟨hk, q2, w, eh⟩ => ?_) fun _ _ z => z⟩
      subst hk
      have tk := take_step ea
      cases hc : c a with
      | true =>
        refine p_brt rfl (p_mono q2 (fun y s3 ⟨ey, w3, e3⟩ => ?_) fun _ _ z => z)
        subst ey
        refine ⟨o, w3, ?_, e3⟩
        rw [tk, List.filter_append, List.map_append, i1]
        simp [hc]
      | false =>
        refine p_brf rfl ⟨w, ?_, eh⟩
        rw [tk, List.filter_append, List.map_append, i1]
        simp [hc]
  · rw [i1, i2, hx, List.length_map, List.take_length]; exact hn
end
theorem emp_app (x : Str) : Str.empty ++ x = x := by
  have : ∀ a : List Nat, mkS [] ++ mkS a = mkS a := fun a => by rw [mkS_app]; rfl
  exact this x.cps.toList
end Lp

set_option Elab.async false
set_option linter.all false
set_option maxRecDepth 100000
set_option maxHeartbeats 4000000
namespace LW
open PySem PySem.Spec PyProof.Rows L2 Lp
section
theorem draw_eq : m__law_draw = drawM := by unfold m__law_draw drawM; rfl
theorem of_eq : m__law_of = ofM := by
  unfold m__law_of ofM mb__law_of
  rw [draw_eq]; rfl
theorem like_eq : m__law_like = likeM 8 := by
  unfold m__law_like likeM
  rfl
theorem open_spec {ns : List Int} (h63 : ns.length ≤ 63) : (m__law_open [.scr (ns.map .int)] []).post (fun v h' => v = .cel 0 ∧ BagAt [none] 0 h') NE := by
  unfold m__law_open
  rw [xe__law_open]
  unfold xb__law_open
  refine p_mkF [some (.scr (ns.map .int))] rfl (p_ret (p_cel (p_nlst ?_)))
  (repeat (first | refine p_var rfl ?_ | refine p_c ?_ | refine p_bin ?_ | refine p_cons ?_ | refine p_nil ?_ | refine p_seq ?_ | refine p_asg ?_ | refine p_sif ?_ | refine p_ret ?_ | refine p_bM ?_ | refine p_tM ?_ | refine p_cb ?_ | refine p_andM ?_ | refine p_orM ?_ | refine p_notM ?_ | refine p_chain ?_ | refine p_andV ?_ | refine p_orV ?_ | refine p_notV ?_ | refine p_ifM ?_ | refine p_tup ?_ | refine p_lst ?_ | refine p_call ?_ | refine p_callK ?_ | refine ⟨⟨⟨rfl, rfl⟩, rfl, rfl⟩, ⟨rfl, rfl⟩, ?_⟩ | refine p_setB ?_ | refine p_sl ?_ | refine p_osome ?_ | refine p_onone ?_ | refine p_snil ?_ | refine p_sexpr ?_ | refine p_retN ?_ | refine p_par ?_ | refine p_sh ?_ | refine p_brt rfl ?_ | refine p_brf rfl ?_ | refine ⟨_, rfl, ?_⟩ | refine ⟨⟨rfl, rfl⟩, ?_⟩ | refine ⟨⟨rfl, Nat.le_of_ble_eq_true rfl⟩, ?_⟩ | refine ⟨_, _, _, _, rfl, hn, rfl, rfl, ?_⟩ | (refine ⟨_, _, rfl, ⟨rfl, rfl⟩, ?_⟩; try dsimp only [wipeE, List.set_cons_succ, List.set_cons_zero]) | (refine ⟨rfl, ?_⟩; try dsimp only [wipeE, List.set_cons_succ, List.set_cons_zero])))
  have e : cutP (ns.map PV.int) none (some 63) = ns.map PV.int := by
    unfold cutP
    have e2 : HT.sIx (ns.map PV.int).length (ns.map PV.int).length (some 63) = (ns.map PV.int).length := by
      unfold HT.sIx
      simp only [List.length_map]
      split <;> omega
    rw [e2]
    have e1 : HT.sIx (ns.map PV.int).length 0 none = 0 := rfl
    rw [e1, List.drop_zero, Nat.sub_zero, List.take_length]
  exact ⟨_, ⟨ns, 0, 0, 100201, 0, by rw [e], by decide, by decide, by decide, by decide⟩, rfl⟩
/-! ways -/
theorem table_true {cs : List Nat} {n : Nat} {h : AH} (t : TabC cs n) (hn : n = 8 ∨ n = 4) : (m_is_table [.str (mkS cs), .int n] h).post (fun r h' => r = .bl true ∧ h' = h) NE := by
  obtain ⟨hl, hh, ht⟩ := t
  have h0 : atI cs 0 = some 116 := atI_nt (i := 0) (by rw [← List.head?_eq_getElem?]; exact hh)
  have e0 : fIx h (.str (mkS cs)) (.int 0) = some (.str ⟨#[116]⟩) := by rw [fIx_str, mkS_cps, h0]; rfl
  have el : bLen h [.str (mkS cs)] = some (.int (n : Nat)) := by
    show some (PV.int ((mkS cs).length : Nat)) = _
    rw [mkS_len, hl]
  unfold m_is_table
  rw [xe_is_table]
  unfold xb_is_table
  refine p_mkF [some (.str (mkS cs)), some (.int n), none] rfl ?_
  (repeat (first | refine p_var rfl ?_ | refine p_c ?_ | refine p_bin ?_ | refine p_cons ?_ | refine p_nil ?_ | refine p_seq ?_ | refine p_asg ?_ | refine p_sif ?_ | refine p_ret ?_ | refine p_bM ?_ | refine p_tM ?_ | refine p_cb ?_ | refine p_andM ?_ | refine p_orM ?_ | refine p_notM ?_ | refine p_chain ?_ | refine p_andV ?_ | refine p_orV ?_ | refine p_notV ?_ | refine p_ifM ?_ | refine p_tup ?_ | refine p_lst ?_ | refine p_call ?_ | refine p_callK ?_ | refine ⟨⟨⟨rfl, rfl⟩, rfl, rfl⟩, ⟨rfl, rfl⟩, ?_⟩ | refine p_setB ?_ | refine p_sl ?_ | refine p_osome ?_ | refine p_onone ?_ | refine p_snil ?_ | refine p_sexpr ?_ | refine p_retN ?_ | refine p_par ?_ | refine p_sh ?_ | refine p_brt rfl ?_ | refine p_brf rfl ?_ | refine ⟨_, rfl, ?_⟩ | refine ⟨⟨rfl, rfl⟩, ?_⟩ | refine ⟨⟨rfl, Nat.le_of_ble_eq_true rfl⟩, ?_⟩ | refine ⟨_, _, _, _, rfl, hn, rfl, rfl, ?_⟩ | (refine ⟨_, _, rfl, ⟨rfl, rfl⟩, ?_⟩; try dsimp only [wipeE, List.set_cons_succ, List.set_cons_zero]) | (refine ⟨rfl, ?_⟩; try dsimp only [wipeE, List.set_cons_succ, List.set_cons_zero]) | refine ⟨_, isi_p trivial rfl, ?_⟩ | refine ⟨_, el, ?_⟩))
  refine p_brf (by show (!PyData.eqv (.int ((mkS cs).length : Nat)) (.int (n : Nat))) = false; rw [mkS_len, hl, eqv_int, decide_eq_true rfl]; rfl) ?_
  (repeat (first | refine p_var rfl ?_ | refine p_c ?_ | refine p_bin ?_ | refine p_cons ?_ | refine p_nil ?_ | refine p_seq ?_ | refine p_asg ?_ | refine p_sif ?_ | refine p_ret ?_ | refine p_bM ?_ | refine p_tM ?_ | refine p_cb ?_ | refine p_andM ?_ | refine p_orM ?_ | refine p_notM ?_ | refine p_chain ?_ | refine p_andV ?_ | refine p_orV ?_ | refine p_notV ?_ | refine p_ifM ?_ | refine p_tup ?_ | refine p_lst ?_ | refine p_call ?_ | refine p_callK ?_ | refine ⟨⟨⟨rfl, rfl⟩, rfl, rfl⟩, ⟨rfl, rfl⟩, ?_⟩ | refine p_setB ?_ | refine p_sl ?_ | refine p_osome ?_ | refine p_onone ?_ | refine p_snil ?_ | refine p_sexpr ?_ | refine p_retN ?_ | refine p_par ?_ | refine p_sh ?_ | refine p_brt rfl ?_ | refine p_brf rfl ?_ | refine ⟨_, rfl, ?_⟩ | refine ⟨⟨rfl, rfl⟩, ?_⟩ | refine ⟨⟨rfl, Nat.le_of_ble_eq_true rfl⟩, ?_⟩ | refine ⟨_, _, _, _, rfl, hn, rfl, rfl, ?_⟩ | (refine ⟨_, _, rfl, ⟨rfl, rfl⟩, ?_⟩; try dsimp only [wipeE, List.set_cons_succ, List.set_cons_zero]) | (refine ⟨rfl, ?_⟩; try dsimp only [wipeE, List.set_cons_succ, List.set_cons_zero]) | refine ⟨_, e0, ?_⟩))
  refine p_compMap (p_any (p_var rfl ⟨_, rfl, rfl, fun _ => .bl true, fun v hv => ?_, ?_⟩))
  · obtain ⟨c, hc, rfl⟩ := List.mem_map.mp hv
    refine ⟨_, rfl, ?_⟩
    refine p_inD (p_var rfl ⟨_, rfl, ?_⟩)
    rcases ht c hc with rfl | rfl | rfl
    · exact ⟨congrArg PV.bl (by decide +kernel), rfl, rfl, rfl⟩
    · exact ⟨congrArg PV.bl (by decide +kernel), rfl, rfl, rfl⟩
    · exact ⟨congrArg PV.bl (by decide +kernel), rfl, rfl, rfl⟩
  (repeat (first | refine p_var rfl ?_ | refine p_c ?_ | refine p_bin ?_ | refine p_cons ?_ | refine p_nil ?_ | refine p_seq ?_ | refine p_asg ?_ | refine p_sif ?_ | refine p_ret ?_ | refine p_bM ?_ | refine p_tM ?_ | refine p_cb ?_ | refine p_andM ?_ | refine p_orM ?_ | refine p_notM ?_ | refine p_chain ?_ | refine p_andV ?_ | refine p_orV ?_ | refine p_notV ?_ | refine p_ifM ?_ | refine p_tup ?_ | refine p_lst ?_ | refine p_call ?_ | refine p_callK ?_ | refine ⟨⟨⟨rfl, rfl⟩, rfl, rfl⟩, ⟨rfl, rfl⟩, ?_⟩ | refine p_setB ?_ | refine p_sl ?_ | refine p_osome ?_ | refine p_onone ?_ | refine p_snil ?_ | refine p_sexpr ?_ | refine p_retN ?_ | refine p_par ?_ | refine p_sh ?_ | refine p_brt rfl ?_ | refine p_brf rfl ?_ | refine ⟨_, rfl, ?_⟩ | refine ⟨⟨rfl, rfl⟩, ?_⟩ | refine ⟨⟨rfl, Nat.le_of_ble_eq_true rfl⟩, ?_⟩ | refine ⟨_, _, _, _, rfl, hn, rfl, rfl, ?_⟩ | (refine ⟨_, _, rfl, ⟨rfl, rfl⟩, ?_⟩; try dsimp only [wipeE, List.set_cons_succ, List.set_cons_zero]) | (refine ⟨rfl, ?_⟩; try dsimp only [wipeE, List.set_cons_succ, List.set_cons_zero]) | refine ⟨_, all_true _, ?_⟩))
def wayV (p : SpecW) : PV := .ins cn_Way p.fs
theorem init_spec {p : SpecW} {h : AH} (k : p.Ok) : (m_Way___init__ [.cel h.length, .str (mkS p.d), .str (mkS p.n), .bl p.s, .bl p.h, .str p.l] (h ++ [some (.ins cn_Way [])])).post (fun v h2 => v = .non ∧ h2 = h ++ [some (.ins cn_Way p.fs)]) NE := by
  unfold m_Way___init__
  rw [xe_Way___init__]
  unfold xb_Way___init__
  refine p_mkF [some (.cel h.length), some (.str (mkS p.d)), some (.str (mkS p.n)), some (.bl p.s), some (.bl p.h), some (.str p.l), none, none, none] rfl ?_
  refine p_seq (p_for (p_any ?_))
  (repeat (first | refine p_var rfl ?_ | refine p_c ?_ | refine p_bin ?_ | refine p_cons ?_ | refine p_nil ?_ | refine p_seq ?_ | refine p_asg ?_ | refine p_sif ?_ | refine p_ret ?_ | refine p_bM ?_ | refine p_tM ?_ | refine p_cb ?_ | refine p_andM ?_ | refine p_orM ?_ | refine p_notM ?_ | refine p_chain ?_ | refine p_andV ?_ | refine p_orV ?_ | refine p_notV ?_ | refine p_ifM ?_ | refine p_tup ?_ | refine p_lst ?_ | refine p_call ?_ | refine p_callK ?_ | refine ⟨⟨⟨rfl, rfl⟩, rfl, rfl⟩, ⟨rfl, rfl⟩, ?_⟩ | refine p_setB ?_ | refine p_sl ?_ | refine p_osome ?_ | refine p_onone ?_ | refine p_snil ?_ | refine p_sexpr ?_ | refine p_retN ?_ | refine p_par ?_ | refine p_sh ?_ | refine p_brt rfl ?_ | refine p_brf rfl ?_ | refine ⟨_, rfl, ?_⟩ | refine ⟨⟨rfl, rfl⟩, ?_⟩ | refine ⟨⟨rfl, Nat.le_of_ble_eq_true rfl⟩, ?_⟩ | refine ⟨_, _, _, _, rfl, hn, rfl, rfl, ?_⟩ | (refine ⟨_, _, rfl, ⟨rfl, rfl⟩, ?_⟩; try dsimp only [wipeE, List.set_cons_succ, List.set_cons_zero]) | (refine ⟨rfl, ?_⟩; try dsimp only [wipeE, List.set_cons_succ, List.set_cons_zero])))
  refine ⟨by show 2 ≤ sizeLine; decide, p_loop2 ⟨_, rfl, ?_⟩⟩
  (repeat (first | refine p_var rfl ?_ | refine p_c ?_ | refine p_bin ?_ | refine p_cons ?_ | refine p_nil ?_ | refine p_seq ?_ | refine p_asg ?_ | refine p_sif ?_ | refine p_ret ?_ | refine p_bM ?_ | refine p_tM ?_ | refine p_cb ?_ | refine p_andM ?_ | refine p_orM ?_ | refine p_notM ?_ | refine p_chain ?_ | refine p_andV ?_ | refine p_orV ?_ | refine p_notV ?_ | refine p_ifM ?_ | refine p_tup ?_ | refine p_lst ?_ | refine p_call ?_ | refine p_callK ?_ | refine ⟨⟨⟨rfl, rfl⟩, rfl, rfl⟩, ⟨rfl, rfl⟩, ?_⟩ | refine p_setB ?_ | refine p_sl ?_ | refine p_osome ?_ | refine p_onone ?_ | refine p_snil ?_ | refine p_sexpr ?_ | refine p_retN ?_ | refine p_par ?_ | refine p_sh ?_ | refine p_brt rfl ?_ | refine p_brf rfl ?_ | refine ⟨_, rfl, ?_⟩ | refine ⟨⟨rfl, rfl⟩, ?_⟩ | refine ⟨⟨rfl, Nat.le_of_ble_eq_true rfl⟩, ?_⟩ | refine ⟨_, _, _, _, rfl, hn, rfl, rfl, ?_⟩ | (refine ⟨_, _, rfl, ⟨rfl, rfl⟩, ?_⟩; try dsimp only [wipeE, List.set_cons_succ, List.set_cons_zero]) | (refine ⟨rfl, ?_⟩; try dsimp only [wipeE, List.set_cons_succ, List.set_cons_zero])))
  refine p_spec (table_true k.d (.inl rfl)) fun r h' z => ?_
  obtain ⟨rfl, rfl⟩ := z
  (repeat (first | refine p_var rfl ?_ | refine p_c ?_ | refine p_bin ?_ | refine p_cons ?_ | refine p_nil ?_ | refine p_seq ?_ | refine p_asg ?_ | refine p_sif ?_ | refine p_ret ?_ | refine p_bM ?_ | refine p_tM ?_ | refine p_cb ?_ | refine p_andM ?_ | refine p_orM ?_ | refine p_notM ?_ | refine p_chain ?_ | refine p_andV ?_ | refine p_orV ?_ | refine p_notV ?_ | refine p_ifM ?_ | refine p_tup ?_ | refine p_lst ?_ | refine p_call ?_ | refine p_callK ?_ | refine ⟨⟨⟨rfl, rfl⟩, rfl, rfl⟩, ⟨rfl, rfl⟩, ?_⟩ | refine p_setB ?_ | refine p_sl ?_ | refine p_osome ?_ | refine p_onone ?_ | refine p_snil ?_ | refine p_sexpr ?_ | refine p_retN ?_ | refine p_par ?_ | refine p_sh ?_ | refine p_brt rfl ?_ | refine p_brf rfl ?_ | refine ⟨_, rfl, ?_⟩ | refine ⟨⟨rfl, rfl⟩, ?_⟩ | refine ⟨⟨rfl, Nat.le_of_ble_eq_true rfl⟩, ?_⟩ | refine ⟨_, _, _, _, rfl, hn, rfl, rfl, ?_⟩ | (refine ⟨_, _, rfl, ⟨rfl, rfl⟩, ?_⟩; try dsimp only [wipeE, List.set_cons_succ, List.set_cons_zero]) | (refine ⟨rfl, ?_⟩; try dsimp only [wipeE, List.set_cons_succ, List.set_cons_zero])))
  refine p_spec (table_true k.n (.inr rfl)) fun r h' z => ?_
  obtain ⟨rfl, rfl⟩ := z
  (repeat (first | refine p_var rfl ?_ | refine p_c ?_ | refine p_bin ?_ | refine p_cons ?_ | refine p_nil ?_ | refine p_seq ?_ | refine p_asg ?_ | refine p_sif ?_ | refine p_ret ?_ | refine p_bM ?_ | refine p_tM ?_ | refine p_cb ?_ | refine p_andM ?_ | refine p_orM ?_ | refine p_notM ?_ | refine p_chain ?_ | refine p_andV ?_ | refine p_orV ?_ | refine p_notV ?_ | refine p_ifM ?_ | refine p_tup ?_ | refine p_lst ?_ | refine p_call ?_ | refine p_callK ?_ | refine ⟨⟨⟨rfl, rfl⟩, rfl, rfl⟩, ⟨rfl, rfl⟩, ?_⟩ | refine p_setB ?_ | refine p_sl ?_ | refine p_osome ?_ | refine p_onone ?_ | refine p_snil ?_ | refine p_sexpr ?_ | refine p_retN ?_ | refine p_par ?_ | refine p_sh ?_ | refine p_brt rfl ?_ | refine p_brf rfl ?_ | refine ⟨_, rfl, ?_⟩ | refine ⟨⟨rfl, rfl⟩, ?_⟩ | refine ⟨⟨rfl, Nat.le_of_ble_eq_true rfl⟩, ?_⟩ | refine ⟨_, _, _, _, rfl, hn, rfl, rfl, ?_⟩ | (refine ⟨_, _, rfl, ⟨rfl, rfl⟩, ?_⟩; try dsimp only [wipeE, List.set_cons_succ, List.set_cons_zero]) | (refine ⟨rfl, ?_⟩; try dsimp only [wipeE, List.set_cons_succ, List.set_cons_zero])))
  refine p_for (p_any ?_)
  (repeat (first | refine p_var rfl ?_ | refine p_c ?_ | refine p_bin ?_ | refine p_cons ?_ | refine p_nil ?_ | refine p_seq ?_ | refine p_asg ?_ | refine p_sif ?_ | refine p_ret ?_ | refine p_bM ?_ | refine p_tM ?_ | refine p_cb ?_ | refine p_andM ?_ | refine p_orM ?_ | refine p_notM ?_ | refine p_chain ?_ | refine p_andV ?_ | refine p_orV ?_ | refine p_notV ?_ | refine p_ifM ?_ | refine p_tup ?_ | refine p_lst ?_ | refine p_call ?_ | refine p_callK ?_ | refine ⟨⟨⟨rfl, rfl⟩, rfl, rfl⟩, ⟨rfl, rfl⟩, ?_⟩ | refine p_setB ?_ | refine p_sl ?_ | refine p_osome ?_ | refine p_onone ?_ | refine p_snil ?_ | refine p_sexpr ?_ | refine p_retN ?_ | refine p_par ?_ | refine p_sh ?_ | refine p_brt rfl ?_ | refine p_brf rfl ?_ | refine ⟨_, rfl, ?_⟩ | refine ⟨⟨rfl, rfl⟩, ?_⟩ | refine ⟨⟨rfl, Nat.le_of_ble_eq_true rfl⟩, ?_⟩ | refine ⟨_, _, _, _, rfl, hn, rfl, rfl, ?_⟩ | (refine ⟨_, _, rfl, ⟨rfl, rfl⟩, ?_⟩; try dsimp only [wipeE, List.set_cons_succ, List.set_cons_zero]) | (refine ⟨rfl, ?_⟩; try dsimp only [wipeE, List.set_cons_succ, List.set_cons_zero])))
  refine ⟨by show 2 ≤ sizeLine; decide, p_loop2 ⟨_, rfl, ?_⟩⟩
  (repeat (first | refine p_var rfl ?_ | refine p_c ?_ | refine p_bin ?_ | refine p_cons ?_ | refine p_nil ?_ | refine p_seq ?_ | refine p_asg ?_ | refine p_sif ?_ | refine p_ret ?_ | refine p_bM ?_ | refine p_tM ?_ | refine p_cb ?_ | refine p_andM ?_ | refine p_orM ?_ | refine p_notM ?_ | refine p_chain ?_ | refine p_andV ?_ | refine p_orV ?_ | refine p_notV ?_ | refine p_ifM ?_ | refine p_tup ?_ | refine p_lst ?_ | refine p_call ?_ | refine p_callK ?_ | refine ⟨⟨⟨rfl, rfl⟩, rfl, rfl⟩, ⟨rfl, rfl⟩, ?_⟩ | refine p_setB ?_ | refine p_sl ?_ | refine p_osome ?_ | refine p_onone ?_ | refine p_snil ?_ | refine p_sexpr ?_ | refine p_retN ?_ | refine p_par ?_ | refine p_sh ?_ | refine p_brt rfl ?_ | refine p_brf rfl ?_ | refine ⟨_, rfl, ?_⟩ | refine ⟨⟨rfl, rfl⟩, ?_⟩ | refine ⟨⟨rfl, Nat.le_of_ble_eq_true rfl⟩, ?_⟩ | refine ⟨_, _, _, _, rfl, hn, rfl, rfl, ?_⟩ | (refine ⟨_, _, rfl, ⟨rfl, rfl⟩, ?_⟩; try dsimp only [wipeE, List.set_cons_succ, List.set_cons_zero]) | (refine ⟨rfl, ?_⟩; try dsimp only [wipeE, List.set_cons_succ, List.set_cons_zero])))
  refine p_brf (by rcases k.l with e | e | e <;> rw [e] <;> rfl) ?_
  (repeat (first | refine p_var rfl ?_ | refine p_c ?_ | refine p_bin ?_ | refine p_cons ?_ | refine p_nil ?_ | refine p_seq ?_ | refine p_asg ?_ | refine p_sif ?_ | refine p_ret ?_ | refine p_bM ?_ | refine p_tM ?_ | refine p_cb ?_ | refine p_andM ?_ | refine p_orM ?_ | refine p_notM ?_ | refine p_chain ?_ | refine p_andV ?_ | refine p_orV ?_ | refine p_notV ?_ | refine p_ifM ?_ | refine p_tup ?_ | refine p_lst ?_ | refine p_call ?_ | refine p_callK ?_ | refine ⟨⟨⟨rfl, rfl⟩, rfl, rfl⟩, ⟨rfl, rfl⟩, ?_⟩ | refine p_setB ?_ | refine p_sl ?_ | refine p_osome ?_ | refine p_onone ?_ | refine p_snil ?_ | refine p_sexpr ?_ | refine p_retN ?_ | refine p_par ?_ | refine p_sh ?_ | refine p_brt rfl ?_ | refine p_brf rfl ?_ | refine ⟨_, rfl, ?_⟩ | refine ⟨⟨rfl, rfl⟩, ?_⟩ | refine ⟨⟨rfl, Nat.le_of_ble_eq_true rfl⟩, ?_⟩ | refine ⟨_, _, _, _, rfl, hn, rfl, rfl, ?_⟩ | (refine ⟨_, _, rfl, ⟨rfl, rfl⟩, ?_⟩; try dsimp only [wipeE, List.set_cons_succ, List.set_cons_zero]) | (refine ⟨rfl, ?_⟩; try dsimp only [wipeE, List.set_cons_succ, List.set_cons_zero])))
  refine p_fldT ?_
  (repeat (first | refine p_var rfl ?_ | refine p_c ?_ | refine p_bin ?_ | refine p_cons ?_ | refine p_nil ?_ | refine p_seq ?_ | refine p_asg ?_ | refine p_sif ?_ | refine p_ret ?_ | refine p_bM ?_ | refine p_tM ?_ | refine p_cb ?_ | refine p_andM ?_ | refine p_orM ?_ | refine p_notM ?_ | refine p_chain ?_ | refine p_andV ?_ | refine p_orV ?_ | refine p_notV ?_ | refine p_ifM ?_ | refine p_tup ?_ | refine p_lst ?_ | refine p_call ?_ | refine p_callK ?_ | refine ⟨⟨⟨rfl, rfl⟩, rfl, rfl⟩, ⟨rfl, rfl⟩, ?_⟩ | refine p_setB ?_ | refine p_sl ?_ | refine p_osome ?_ | refine p_onone ?_ | refine p_snil ?_ | refine p_sexpr ?_ | refine p_retN ?_ | refine p_par ?_ | refine p_sh ?_ | refine p_brt rfl ?_ | refine p_brf rfl ?_ | refine ⟨_, rfl, ?_⟩ | refine ⟨⟨rfl, rfl⟩, ?_⟩ | refine ⟨⟨rfl, Nat.le_of_ble_eq_true rfl⟩, ?_⟩ | refine ⟨_, _, _, _, rfl, hn, rfl, rfl, ?_⟩ | (refine ⟨_, _, rfl, ⟨rfl, rfl⟩, ?_⟩; try dsimp only [wipeE, List.set_cons_succ, List.set_cons_zero]) | (refine ⟨rfl, ?_⟩; try dsimp only [wipeE, List.set_cons_succ, List.set_cons_zero])))
  refine p_put rfl app_get rfl ?_
  rw [app_set]
  refine p_put rfl app_get rfl ?_
  rw [app_set]
  refine p_put_nil ?_
  refine p_fldT ?_
  (repeat (first | refine p_var rfl ?_ | refine p_c ?_ | refine p_bin ?_ | refine p_cons ?_ | refine p_nil ?_ | refine p_seq ?_ | refine p_asg ?_ | refine p_sif ?_ | refine p_ret ?_ | refine p_bM ?_ | refine p_tM ?_ | refine p_cb ?_ | refine p_andM ?_ | refine p_orM ?_ | refine p_notM ?_ | refine p_chain ?_ | refine p_andV ?_ | refine p_orV ?_ | refine p_notV ?_ | refine p_ifM ?_ | refine p_tup ?_ | refine p_lst ?_ | refine p_call ?_ | refine p_callK ?_ | refine ⟨⟨⟨rfl, rfl⟩, rfl, rfl⟩, ⟨rfl, rfl⟩, ?_⟩ | refine p_setB ?_ | refine p_sl ?_ | refine p_osome ?_ | refine p_onone ?_ | refine p_snil ?_ | refine p_sexpr ?_ | refine p_retN ?_ | refine p_par ?_ | refine p_sh ?_ | refine p_brt rfl ?_ | refine p_brf rfl ?_ | refine ⟨_, rfl, ?_⟩ | refine ⟨⟨rfl, rfl⟩, ?_⟩ | refine ⟨⟨rfl, Nat.le_of_ble_eq_true rfl⟩, ?_⟩ | refine ⟨_, _, _, _, rfl, hn, rfl, rfl, ?_⟩ | (refine ⟨_, _, rfl, ⟨rfl, rfl⟩, ?_⟩; try dsimp only [wipeE, List.set_cons_succ, List.set_cons_zero]) | (refine ⟨rfl, ?_⟩; try dsimp only [wipeE, List.set_cons_succ, List.set_cons_zero])))
  refine p_put rfl app_get rfl ?_
  rw [app_set]
  refine p_put rfl app_get rfl ?_
  rw [app_set]
  refine p_put rfl app_get rfl ?_
  rw [app_set]
  exact p_put_nil ⟨rfl, rfl⟩
theorem init_of {p : SpecW} {h : AH} {E : PV → AH → Prop} {P : PV → Prop} (k : p.Ok) (q : P (wayV p)) : (m_Way___init__ [.cel h.length, .str (mkS p.d), .str (mkS p.n), .bl p.s, .bl p.h, .str p.l] (h ++ [some (.ins cn_Way [])])).post (fun v h2 => v = .non ∧ ∃ gs, h2 = h ++ [some (.ins cn_Way gs)] ∧ celsB h.length gs = true ∧ P (.ins cn_Way gs)) E :=
  p_spec (init_spec k) fun v h2 ⟨e1, e2⟩ => ⟨e1, p.fs, e2, rfl, q⟩
theorem way_spec {p : SpecW} {h : AH} (k : p.Ok) : (m__law_way [p.v] h).post (fun v h' => v = wayV p ∧ h' = h) NE := by
  unfold m__law_way
  rw [xe__law_way]
  unfold xb__law_way
  refine p_mkF [some p.v] rfl (p_ret (p_mkA ?_))
  (repeat (first | refine p_var rfl ?_ | refine p_c ?_ | refine p_bin ?_ | refine p_cons ?_ | refine p_nil ?_ | refine p_seq ?_ | refine p_asg ?_ | refine p_sif ?_ | refine p_ret ?_ | refine p_bM ?_ | refine p_tM ?_ | refine p_cb ?_ | refine p_andM ?_ | refine p_orM ?_ | refine p_notM ?_ | refine p_chain ?_ | refine p_andV ?_ | refine p_orV ?_ | refine p_notV ?_ | refine p_ifM ?_ | refine p_tup ?_ | refine p_lst ?_ | refine p_call ?_ | refine p_callK ?_ | refine ⟨⟨⟨rfl, rfl⟩, rfl, rfl⟩, ⟨rfl, rfl⟩, ?_⟩ | refine p_setB ?_ | refine p_sl ?_ | refine p_osome ?_ | refine p_onone ?_ | refine p_snil ?_ | refine p_sexpr ?_ | refine p_retN ?_ | refine p_par ?_ | refine p_sh ?_ | refine p_brt rfl ?_ | refine p_brf rfl ?_ | refine ⟨_, rfl, ?_⟩ | refine ⟨⟨rfl, rfl⟩, ?_⟩ | refine ⟨⟨rfl, Nat.le_of_ble_eq_true rfl⟩, ?_⟩ | refine ⟨_, _, _, _, rfl, hn, rfl, rfl, ?_⟩ | (refine ⟨_, _, rfl, ⟨rfl, rfl⟩, ?_⟩; try dsimp only [wipeE, List.set_cons_succ, List.set_cons_zero]) | (refine ⟨rfl, ?_⟩; try dsimp only [wipeE, List.set_cons_succ, List.set_cons_zero])))
  refine init_of (P := fun v => isOwn v = false ∧ v = wayV p ∧ h = h) k ⟨rfl, rfl, rfl⟩
def b2 (b : Bool) : Nat := if b then 1 else 0
def dAt (p : SpecW) (e a q : Bool) : Nat := ltr p.d (4 * b2 e + 2 * b2 a + b2 q)
def nAt (p : SpecW) (e a : Bool) : Nat := ltr p.n (2 * b2 e + b2 a)
theorem dAt_tr {p : SpecW} (k : p.Ok) (e a q : Bool) : TrC (dAt p e a q) := (ltr_at k.d (by cases e <;> cases a <;> cases q <;> decide)).2
theorem nAt_tr {p : SpecW} (k : p.Ok) (e a : Bool) : TrC (nAt p e a) := (ltr_at k.n (by cases e <;> cases a <;> decide)).2
theorem look_word {c : Nat} (t : TrC c) : kv_WORDS.lookup ⟨#[c]⟩ = some (wordC c) := by
  rcases t with rfl | rfl | rfl <;> decide +kernel
theorem ix_tab {cs : List Nat} {h : AH} {n i : Nat} (t : TabC cs n) (hi : i < n) : fIx h (.str (mkS cs)) (.int i) = some (.str ⟨#[ltr cs i]⟩) := by
  rw [fIx_str, mkS_cps, atI_nt (ltr_at t hi).1]; rfl
theorem drop_spec {p : SpecW} {h : AH} (k : p.Ok) (e a q : Bool) : (m_Way_drop_answer [wayV p, .bl e, .bl a, .bl q] h).post (fun v h' => v = .str (wordC (dAt p e a q)) ∧ h' = h) NE := by
  have go : fIx h (.str (mkS p.d)) (.int (4 * (if e then 1 else 0) + 2 * (if a then 1 else 0) + (if q then 1 else 0))) = some (.str ⟨#[dAt p e a q]⟩) := by
    have := ix_tab (h := h) (i := 4 * b2 e + 2 * b2 a + b2 q) k.d (by cases e <;> cases a <;> cases q <;> decide)
    cases e <;> cases a <;> cases q <;> exact this
  unfold m_Way_drop_answer
  rw [xe_Way_drop_answer]
  unfold xb_Way_drop_answer
  refine p_mkF [some (wayV p), some (.bl e), some (.bl a), some (.bl q)] rfl (p_ret (p_ixD ?_))
  (repeat (first | refine p_var rfl ?_ | refine p_c ?_ | refine p_bin ?_ | refine p_cons ?_ | refine p_nil ?_ | refine p_seq ?_ | refine p_asg ?_ | refine p_sif ?_ | refine p_ret ?_ | refine p_bM ?_ | refine p_tM ?_ | refine p_cb ?_ | refine p_andM ?_ | refine p_orM ?_ | refine p_notM ?_ | refine p_chain ?_ | refine p_andV ?_ | refine p_orV ?_ | refine p_notV ?_ | refine p_ifM ?_ | refine p_tup ?_ | refine p_lst ?_ | refine p_call ?_ | refine p_callK ?_ | refine ⟨⟨⟨rfl, rfl⟩, rfl, rfl⟩, ⟨rfl, rfl⟩, ?_⟩ | refine p_setB ?_ | refine p_sl ?_ | refine p_osome ?_ | refine p_onone ?_ | refine p_snil ?_ | refine p_sexpr ?_ | refine p_retN ?_ | refine p_par ?_ | refine p_sh ?_ | refine p_brt rfl ?_ | refine p_brf rfl ?_ | refine ⟨_, rfl, ?_⟩ | refine ⟨⟨rfl, rfl⟩, ?_⟩ | refine ⟨⟨rfl, Nat.le_of_ble_eq_true rfl⟩, ?_⟩ | refine ⟨_, _, _, _, rfl, hn, rfl, rfl, ?_⟩ | (refine ⟨_, _, rfl, ⟨rfl, rfl⟩, ?_⟩; try dsimp only [wipeE, List.set_cons_succ, List.set_cons_zero]) | (refine ⟨rfl, ?_⟩; try dsimp only [wipeE, List.set_cons_succ, List.set_cons_zero]) | (refine p_fld (p_var rfl ⟨_, rfl, ?_⟩)) | refine ⟨_, go, ?_⟩))
  exact ⟨_, _, rfl, look_word (dAt_tr k e a q), rfl, rfl, rfl⟩
theorem number_spec {p : SpecW} {h : AH} (k : p.Ok) (e a : Bool) : (m_Way_number_answer [wayV p, .bl e, .bl a] h).post (fun v h' => v = .str (wordC (nAt p e a)) ∧ h' = h) NE := by
  have go : fIx h (.str (mkS p.n)) (.int (2 * (if e then 1 else 0) + (if a then 1 else 0))) = some (.str ⟨#[nAt p e a]⟩) := by
    have := ix_tab (h := h) (i := 2 * b2 e + b2 a) k.n (by cases e <;> cases a <;> decide)
    cases e <;> cases a <;> exact this
  unfold m_Way_number_answer
  rw [xe_Way_number_answer]
  unfold xb_Way_number_answer
  refine p_mkF [some (wayV p), some (.bl e), some (.bl a)] rfl (p_ret (p_ixD ?_))
  (repeat (first | refine p_var rfl ?_ | refine p_c ?_ | refine p_bin ?_ | refine p_cons ?_ | refine p_nil ?_ | refine p_seq ?_ | refine p_asg ?_ | refine p_sif ?_ | refine p_ret ?_ | refine p_bM ?_ | refine p_tM ?_ | refine p_cb ?_ | refine p_andM ?_ | refine p_orM ?_ | refine p_notM ?_ | refine p_chain ?_ | refine p_andV ?_ | refine p_orV ?_ | refine p_notV ?_ | refine p_ifM ?_ | refine p_tup ?_ | refine p_lst ?_ | refine p_call ?_ | refine p_callK ?_ | refine ⟨⟨⟨rfl, rfl⟩, rfl, rfl⟩, ⟨rfl, rfl⟩, ?_⟩ | refine p_setB ?_ | refine p_sl ?_ | refine p_osome ?_ | refine p_onone ?_ | refine p_snil ?_ | refine p_sexpr ?_ | refine p_retN ?_ | refine p_par ?_ | refine p_sh ?_ | refine p_brt rfl ?_ | refine p_brf rfl ?_ | refine ⟨_, rfl, ?_⟩ | refine ⟨⟨rfl, rfl⟩, ?_⟩ | refine ⟨⟨rfl, Nat.le_of_ble_eq_true rfl⟩, ?_⟩ | refine ⟨_, _, _, _, rfl, hn, rfl, rfl, ?_⟩ | (refine ⟨_, _, rfl, ⟨rfl, rfl⟩, ?_⟩; try dsimp only [wipeE, List.set_cons_succ, List.set_cons_zero]) | (refine ⟨rfl, ?_⟩; try dsimp only [wipeE, List.set_cons_succ, List.set_cons_zero]) | (refine p_fld (p_var rfl ⟨_, rfl, ?_⟩)) | refine ⟨_, go, ?_⟩))
  exact ⟨_, _, rfl, look_word (nAt_tr k e a), rfl, rfl, rfl⟩
/-- n drawn letters behind a t -/
theorem letters_spec {h h1 : AH} {n : Nat} {sl : Nat} {e0 : List (Option PV)} {k : Nat} (hn : n < h.length) (b : BagAt h n h1) (hk : k ≤ 1000) (hb : (wipeE e0 [sl])[0]? = some (some (.cel n))) (hb2 : ∀ v, ((wipeE e0 [sl]).set sl (some v))[0]? = some (some (.cel n))) (hw : ∀ v, wipeE ((wipeE e0 [sl]).set sl v) [sl] = wipeE e0 [sl]) :
    (xECompN (xSRng1 (xACons (xEC (.int k)) xANil)) (.n sl) testY (xECall 2 ofM (xACons (xEVar 0) (xACons (xEC (.str "ttrm")) xANil))) [sl] ⟨e0, h1⟩).post (fun xs s' => (∃ cs : List Nat, cs.length = k ∧ (∀ c ∈ cs, TrC c) ∧ xs = cs.map fun c => .str (mkS [c])) ∧ s'.e = wipeE e0 [sl] ∧ BagAt h n s'.h) NE := by
  refine p_compN (p_rng1 (p_cons (p_c (p_nil ⟨_, rfl, by omega, rfl, fun j acc hh => (∃ cs : List Nat, cs.length = j ∧ (∀ c ∈ cs, TrC c) ∧ acc = cs.map fun c => PV.str (mkS [c])) ∧ BagAt h n hh, ⟨⟨[], rfl, fun c hc => (nomatch hc), rfl⟩, b⟩, fun j v acc hh e i => ?_, fun acc hh i => ?_⟩))))
  · obtain ⟨q, _, rfl⟩ := List.mem_map.mp (List.mem_of_getElem? e)
    obtain ⟨⟨cs, hl, hc, rfl⟩, bb⟩ := i
    refine ⟨_, rfl, p_ok (p_brt rfl ?_)⟩
    refine p_call (p_cons (p_var (hb2 _) (p_cons (p_c (p_nil ⟨⟨rfl, rfl⟩, p_spec (of_str hn bb (by decide) (by decide)) fun v h' z => ?_⟩)))))
    obtain ⟨⟨c, hc1, rfl⟩, b2⟩ := z
    refine ⟨rfl, hw _, ⟨cs ++ [c], by rw [List.length_append, hl]; rfl, fun d hd => ?_, by rw [List.map_append]; rfl⟩, b2⟩
    rcases List.mem_append.mp hd with hd | hd
    · exact hc d hd
    · simp only [List.mem_singleton] at hd
      subst hd
      have hc1 : d ∈ [116, 116, 114, 109] := hc1
      simp only [List.mem_cons, List.not_mem_nil, or_false] at hc1
      rcases hc1 with rfl | rfl | rfl | rfl
      · exact .inl rfl
      · exact .inl rfl
      · exact .inr (.inl rfl)
      · exact .inr (.inr rfl)
  · obtain ⟨⟨cs, hl, hc, rfl⟩, bb⟩ := i
    exact ⟨⟨cs, by rw [hl]; simp, hc, rfl⟩, rfl, bb⟩
theorem join_tab {h : AH} {cs : List Nat} {k : Nat} (hl : cs.length = k) (hk : k ≤ 1000) (hc : ∀ c ∈ cs, TrC c) : mJoin h "" [.lst (cs.map fun c => .str (mkS [c]))] = some (.str (mkS cs)) :=
  mJoin_ones (by omega) fun c hc' => by rcases hc c hc' with rfl | rfl | rfl <;> decide
theorem t_tab {h : AH} {cs : List Nat} {k : Nat} (hl : cs.length = k) (hk : k ≤ 1000) : fAdd h (.str "t") (.str (mkS cs)) = some (.str (mkS (116 :: cs))) := fAdd_mk (a := [116]) (by show 1 + cs.length ≤ sizeLine; have := (show 1001 ≤ sizeLine by decide); omega)
theorem some_spec {h h1 : AH} {n : Nat} (hn : n < h.length) (b : BagAt h n h1) : (m__law_some_spec [.cel n] h1).post (fun v h' => (∃ p : SpecW, p.Ok ∧ v = p.v) ∧ BagAt h n h') NE := by
  unfold m__law_some_spec
  rw [xe__law_some_spec]
  unfold xb__law_some_spec
  rw [draw_eq, of_eq]
  refine p_mkF [some (.cel n), none, none, none] rfl ?_
  refine p_seq (p_asg (p_bin (p_c (p_ms (p_c ⟨_, rfl, p_cons (p_sh ?_)⟩)))))
  refine p_spec (letters_spec hn b (by decide) rfl (fun _ => rfl) (fun _ => rfl)) fun xs s' z => ?_
  obtain ⟨⟨cs, hl, hc, rfl⟩, he, b1⟩ := z
  obtain ⟨e1, h2⟩ := s'
  simp only at he b1
  subst he
  refine p_nil ⟨_, join_tab hl (by decide) hc, _, t_tab hl (by decide), rfl, ?_⟩
  dsimp only [wipeE, List.set_cons_succ, List.set_cons_zero]
  refine p_seq (p_asg (p_bin (p_c (p_ms (p_c ⟨_, rfl, p_cons (p_sh ?_)⟩)))))
  refine p_spec (letters_spec hn b1 (by decide) rfl (fun _ => rfl) (fun _ => rfl)) fun xs s' z => ?_
  obtain ⟨⟨ds, kl, kc, rfl⟩, he, b2⟩ := z
  obtain ⟨e1, h3⟩ := s'
  simp only at he b2
  subst he
  refine p_nil ⟨_, join_tab kl (by decide) kc, _, t_tab kl (by decide), rfl, ?_⟩
  dsimp only [wipeE, List.set_cons_succ, List.set_cons_zero]
  (repeat (first | refine p_var rfl ?_ | refine p_c ?_ | refine p_bin ?_ | refine p_cons ?_ | refine p_nil ?_ | refine p_seq ?_ | refine p_asg ?_ | refine p_sif ?_ | refine p_ret ?_ | refine p_bM ?_ | refine p_tM ?_ | refine p_cb ?_ | refine p_andM ?_ | refine p_orM ?_ | refine p_notM ?_ | refine p_chain ?_ | refine p_andV ?_ | refine p_orV ?_ | refine p_notV ?_ | refine p_ifM ?_ | refine p_tup ?_ | refine p_lst ?_ | refine p_call ?_ | refine p_callK ?_ | refine ⟨⟨⟨rfl, rfl⟩, rfl, rfl⟩, ⟨rfl, rfl⟩, ?_⟩ | refine p_setB ?_ | refine p_sl ?_ | refine p_osome ?_ | refine p_onone ?_ | refine p_snil ?_ | refine p_sexpr ?_ | refine p_retN ?_ | refine p_par ?_ | refine p_sh ?_ | refine p_brt rfl ?_ | refine p_brf rfl ?_ | refine ⟨_, rfl, ?_⟩ | refine ⟨⟨rfl, rfl⟩, ?_⟩ | refine ⟨⟨rfl, Nat.le_of_ble_eq_true rfl⟩, ?_⟩ | refine ⟨_, _, _, _, rfl, hn, rfl, rfl, ?_⟩ | (refine ⟨_, _, rfl, ⟨rfl, rfl⟩, ?_⟩; try dsimp only [wipeE, List.set_cons_succ, List.set_cons_zero]) | (refine ⟨rfl, ?_⟩; try dsimp only [wipeE, List.set_cons_succ, List.set_cons_zero])))
  refine p_spec (draw_at hn b2 (by decide) (by decide)) fun v h' z => ?_
  obtain ⟨⟨d, rfl, d0, d4⟩, b3⟩ := z
  (repeat (first | refine p_var rfl ?_ | refine p_c ?_ | refine p_bin ?_ | refine p_cons ?_ | refine p_nil ?_ | refine p_seq ?_ | refine p_asg ?_ | refine p_sif ?_ | refine p_ret ?_ | refine p_bM ?_ | refine p_tM ?_ | refine p_cb ?_ | refine p_andM ?_ | refine p_orM ?_ | refine p_notM ?_ | refine p_chain ?_ | refine p_andV ?_ | refine p_orV ?_ | refine p_notV ?_ | refine p_ifM ?_ | refine p_tup ?_ | refine p_lst ?_ | refine p_call ?_ | refine p_callK ?_ | refine ⟨⟨⟨rfl, rfl⟩, rfl, rfl⟩, ⟨rfl, rfl⟩, ?_⟩ | refine p_setB ?_ | refine p_sl ?_ | refine p_osome ?_ | refine p_onone ?_ | refine p_snil ?_ | refine p_sexpr ?_ | refine p_retN ?_ | refine p_par ?_ | refine p_sh ?_ | refine p_brt rfl ?_ | refine p_brf rfl ?_ | refine ⟨_, rfl, ?_⟩ | refine ⟨⟨rfl, rfl⟩, ?_⟩ | refine ⟨⟨rfl, Nat.le_of_ble_eq_true rfl⟩, ?_⟩ | refine ⟨_, _, _, _, rfl, hn, rfl, rfl, ?_⟩ | (refine ⟨_, _, rfl, ⟨rfl, rfl⟩, ?_⟩; try dsimp only [wipeE, List.set_cons_succ, List.set_cons_zero]) | (refine ⟨rfl, ?_⟩; try dsimp only [wipeE, List.set_cons_succ, List.set_cons_zero])))
  refine p_spec (draw_at hn b3 (by decide) (by decide)) fun v h' z => ?_
  obtain ⟨⟨d', rfl, d0', d4'⟩, b4⟩ := z
  (repeat (first | refine p_var rfl ?_ | refine p_c ?_ | refine p_bin ?_ | refine p_cons ?_ | refine p_nil ?_ | refine p_seq ?_ | refine p_asg ?_ | refine p_sif ?_ | refine p_ret ?_ | refine p_bM ?_ | refine p_tM ?_ | refine p_cb ?_ | refine p_andM ?_ | refine p_orM ?_ | refine p_notM ?_ | refine p_chain ?_ | refine p_andV ?_ | refine p_orV ?_ | refine p_notV ?_ | refine p_ifM ?_ | refine p_tup ?_ | refine p_lst ?_ | refine p_call ?_ | refine p_callK ?_ | refine ⟨⟨⟨rfl, rfl⟩, rfl, rfl⟩, ⟨rfl, rfl⟩, ?_⟩ | refine p_setB ?_ | refine p_sl ?_ | refine p_osome ?_ | refine p_onone ?_ | refine p_snil ?_ | refine p_sexpr ?_ | refine p_retN ?_ | refine p_par ?_ | refine p_sh ?_ | refine p_brt rfl ?_ | refine p_brf rfl ?_ | refine ⟨_, rfl, ?_⟩ | refine ⟨⟨rfl, rfl⟩, ?_⟩ | refine ⟨⟨rfl, Nat.le_of_ble_eq_true rfl⟩, ?_⟩ | refine ⟨_, _, _, _, rfl, hn, rfl, rfl, ?_⟩ | (refine ⟨_, _, rfl, ⟨rfl, rfl⟩, ?_⟩; try dsimp only [wipeE, List.set_cons_succ, List.set_cons_zero]) | (refine ⟨rfl, ?_⟩; try dsimp only [wipeE, List.set_cons_succ, List.set_cons_zero])))
  refine p_spec (of_lst hn b4 (by decide) (by decide) rfl) fun v h' z => ?_
  obtain ⟨hv, b5⟩ := z
  have hL : ∃ l : Str, v = .str l ∧ LockS l := by
    simp only [List.mem_cons, List.not_mem_nil, or_false] at hv
    rcases hv with rfl | rfl | rfl | rfl
    · exact ⟨_, rfl, .inl rfl⟩
    · exact ⟨_, rfl, .inl rfl⟩
    · exact ⟨_, rfl, .inr (.inl rfl)⟩
    · exact ⟨_, rfl, .inr (.inr rfl)⟩
  obtain ⟨l, rfl, hl'⟩ := hL
  (repeat (first | refine p_var rfl ?_ | refine p_c ?_ | refine p_bin ?_ | refine p_cons ?_ | refine p_nil ?_ | refine p_seq ?_ | refine p_asg ?_ | refine p_sif ?_ | refine p_ret ?_ | refine p_bM ?_ | refine p_tM ?_ | refine p_cb ?_ | refine p_andM ?_ | refine p_orM ?_ | refine p_notM ?_ | refine p_chain ?_ | refine p_andV ?_ | refine p_orV ?_ | refine p_notV ?_ | refine p_ifM ?_ | refine p_tup ?_ | refine p_lst ?_ | refine p_call ?_ | refine p_callK ?_ | refine ⟨⟨⟨rfl, rfl⟩, rfl, rfl⟩, ⟨rfl, rfl⟩, ?_⟩ | refine p_setB ?_ | refine p_sl ?_ | refine p_osome ?_ | refine p_onone ?_ | refine p_snil ?_ | refine p_sexpr ?_ | refine p_retN ?_ | refine p_par ?_ | refine p_sh ?_ | refine p_brt rfl ?_ | refine p_brf rfl ?_ | refine ⟨_, rfl, ?_⟩ | refine ⟨⟨rfl, rfl⟩, ?_⟩ | refine ⟨⟨rfl, Nat.le_of_ble_eq_true rfl⟩, ?_⟩ | refine ⟨_, _, _, _, rfl, hn, rfl, rfl, ?_⟩ | (refine ⟨_, _, rfl, ⟨rfl, rfl⟩, ?_⟩; try dsimp only [wipeE, List.set_cons_succ, List.set_cons_zero]) | (refine ⟨rfl, ?_⟩; try dsimp only [wipeE, List.set_cons_succ, List.set_cons_zero])))
  refine ⟨⟨⟨116 :: cs, 116 :: ds, decide (d > 0), PyData.eqv (.int d') (.int 0), l⟩, ⟨⟨by rw [List.length_cons, hl], rfl, ?_⟩, ⟨by rw [List.length_cons, kl], rfl, ?_⟩, hl'⟩, rfl⟩, b5⟩
  · intro c hc'
    rcases List.mem_cons.mp hc' with rfl | hc'
    · exact .inl rfl
    · exact hc c hc'
  · intro c hc'
    rcases List.mem_cons.mp hc' with rfl | hc'
    · exact .inl rfl
    · exact kc c hc'
def bw (p : SpecW) (od on : Option (List Nat)) (os oh : Option Bool) (ol : Option Str) : SpecW := ⟨od.getD p.d, on.getD p.n, os.getD p.s, oh.getD p.h, ol.getD p.l⟩
def sV (d : List Nat) : PV := .str (mkS d)
theorem but_spec {p : SpecW} {od on : Option (List Nat)} {os oh : Option Bool} {ol : Option Str} {h : AH} (k : (bw p od on os oh ol).Ok) : (m_Way_but [wayV p, (od.map sV).getD .non, (on.map sV).getD .non, (os.map PV.bl).getD .non, (oh.map PV.bl).getD .non, (ol.map PV.str).getD .non] h).post (fun v h' => v = wayV (bw p od on os oh ol) ∧ h' = h) NE := by
  unfold m_Way_but
  rw [xe_Way_but]
  unfold xb_Way_but
  refine p_mkF [some (wayV p), some ((od.map sV).getD .non), some ((on.map sV).getD .non), some ((os.map PV.bl).getD .non), some ((oh.map PV.bl).getD .non), some ((ol.map PV.str).getD .non)] rfl (p_ret (p_mkA ?_))
  refine p_cons (p_pickF rfl (fun _ => rfl) (fun q => p_fld (p_var rfl ⟨_, rfl, q⟩)) (p_cons (p_pickF rfl (fun _ => rfl) (fun q => p_fld (p_var rfl ⟨_, rfl, q⟩)) (p_nil ?_))))
  refine p_cons (p_pickF rfl (fun _ => rfl) (fun q => p_fld (p_var rfl ⟨_, rfl, q⟩)) (p_cons (p_pickF rfl (fun _ => rfl) (fun q => p_fld (p_var rfl ⟨_, rfl, q⟩)) (p_cons (p_pickF rfl (fun _ => rfl) (fun q => p_fld (p_var rfl ⟨_, rfl, q⟩)) (p_nil ?_))))))
  exact ⟨⟨⟨rfl, rfl⟩, rfl, rfl⟩, ⟨rfl, rfl⟩, init_of (P := fun v => isOwn v = false ∧ v = wayV (bw p od on os oh ol) ∧ h = h) k ⟨rfl, rfl, rfl⟩⟩
/-! a way's text -/
def optP (p : SpecW) : List (Str × Bool) := [("stretches", p.s), ("hidden", p.h)]
theorem opt_eq (p : SpecW) : ((optP p).filter (·.2)).map (fun a => PV.str a.1) = (optL p).map PV.str := by
  obtain ⟨d, n, s, h, l⟩ := p
  cases s <;> cases h <;> rfl
theorem text_spec {p : SpecW} {h : AH} (k : p.Ok) : (m_Way_text [wayV p] h).post (fun v h' => v = .str (txt p) ∧ h' = h) NE := by
  unfold m_Way_text
  rw [xe_Way_text]
  unfold xb_Way_text
  refine p_mkF [some (wayV p), none, none, none] rfl ?_
  (repeat (first | refine p_var rfl ?_ | refine p_c ?_ | refine p_bin ?_ | refine p_cons ?_ | refine p_nil ?_ | refine p_seq ?_ | refine p_asg ?_ | refine p_sif ?_ | refine p_ret ?_ | refine p_bM ?_ | refine p_tM ?_ | refine p_cb ?_ | refine p_andM ?_ | refine p_orM ?_ | refine p_notM ?_ | refine p_chain ?_ | refine p_andV ?_ | refine p_orV ?_ | refine p_notV ?_ | refine p_ifM ?_ | refine p_tup ?_ | refine p_lst ?_ | refine p_call ?_ | refine p_callK ?_ | refine ⟨⟨⟨rfl, rfl⟩, rfl, rfl⟩, ⟨rfl, rfl⟩, ?_⟩ | refine p_setB ?_ | refine p_sl ?_ | refine p_osome ?_ | refine p_onone ?_ | refine p_snil ?_ | refine p_sexpr ?_ | refine p_retN ?_ | refine p_par ?_ | refine p_sh ?_ | refine p_brt rfl ?_ | refine p_brf rfl ?_ | refine ⟨_, rfl, ?_⟩ | refine ⟨⟨rfl, rfl⟩, ?_⟩ | refine ⟨⟨rfl, Nat.le_of_ble_eq_true rfl⟩, ?_⟩ | refine ⟨_, _, _, _, rfl, hn, rfl, rfl, ?_⟩ | (refine ⟨_, _, rfl, ⟨rfl, rfl⟩, ?_⟩; try dsimp only [wipeE, List.set_cons_succ, List.set_cons_zero]) | (refine ⟨rfl, ?_⟩; try dsimp only [wipeE, List.set_cons_succ, List.set_cons_zero]) | refine p_fld ?_))
  refine p_compFil2 (α := Str × Bool) (p_any ?_)
  (repeat (first | refine p_var rfl ?_ | refine p_c ?_ | refine p_bin ?_ | refine p_cons ?_ | refine p_nil ?_ | refine p_seq ?_ | refine p_asg ?_ | refine p_sif ?_ | refine p_ret ?_ | refine p_bM ?_ | refine p_tM ?_ | refine p_cb ?_ | refine p_andM ?_ | refine p_orM ?_ | refine p_notM ?_ | refine p_chain ?_ | refine p_andV ?_ | refine p_orV ?_ | refine p_notV ?_ | refine p_ifM ?_ | refine p_tup ?_ | refine p_lst ?_ | refine p_call ?_ | refine p_callK ?_ | refine ⟨⟨⟨rfl, rfl⟩, rfl, rfl⟩, ⟨rfl, rfl⟩, ?_⟩ | refine p_setB ?_ | refine p_sl ?_ | refine p_osome ?_ | refine p_onone ?_ | refine p_snil ?_ | refine p_sexpr ?_ | refine p_retN ?_ | refine p_par ?_ | refine p_sh ?_ | refine p_brt rfl ?_ | refine p_brf rfl ?_ | refine ⟨_, rfl, ?_⟩ | refine ⟨⟨rfl, rfl⟩, ?_⟩ | refine ⟨⟨rfl, Nat.le_of_ble_eq_true rfl⟩, ?_⟩ | refine ⟨_, _, _, _, rfl, hn, rfl, rfl, ?_⟩ | (refine ⟨_, _, rfl, ⟨rfl, rfl⟩, ?_⟩; try dsimp only [wipeE, List.set_cons_succ, List.set_cons_zero]) | (refine ⟨rfl, ?_⟩; try dsimp only [wipeE, List.set_cons_succ, List.set_cons_zero]) | refine p_fld ?_))
  refine ⟨optP p, fun a => .tup [.str a.1, .bl a.2], fun a => .str a.1, (·.2), rfl, fun a ha => ⟨rfl, _, rfl, ?_⟩, ?_⟩
  · refine p_tM (p_var rfl ⟨a.2, rfl, rfl, p_var rfl ⟨rfl, rfl, rfl⟩, rfl, rfl⟩)
  · try dsimp only [wipeE, List.set_cons_succ, List.set_cons_zero]
    rw [opt_eq]
    have e : (WL p).map PV.str = [.str "drops", .str (mkS p.d), .str "numbers", .str (mkS p.n)] ++ ((optL p).map PV.str ++ [.str "lock", .str p.l]) := by
      unfold WL; simp
    have hs : ∀ xs : List Str, allSh (xs.map PV.str) = true := fun xs => by
      unfold allSh
      rw [List.all_map, List.all_eq_true]
      exact fun _ _ => rfl
    refine ⟨rfl, p_ret (p_ms (p_c ⟨_, rfl, p_cons (p_lst ?_)⟩))⟩
    (repeat (first | refine p_var rfl ?_ | refine p_c ?_ | refine p_bin ?_ | refine p_cons ?_ | refine p_nil ?_ | refine p_seq ?_ | refine p_asg ?_ | refine p_sif ?_ | refine p_ret ?_ | refine p_bM ?_ | refine p_tM ?_ | refine p_cb ?_ | refine p_andM ?_ | refine p_orM ?_ | refine p_notM ?_ | refine p_chain ?_ | refine p_andV ?_ | refine p_orV ?_ | refine p_notV ?_ | refine p_ifM ?_ | refine p_tup ?_ | refine p_lst ?_ | refine p_call ?_ | refine p_callK ?_ | refine ⟨⟨⟨rfl, rfl⟩, rfl, rfl⟩, ⟨rfl, rfl⟩, ?_⟩ | refine p_setB ?_ | refine p_sl ?_ | refine p_osome ?_ | refine p_onone ?_ | refine p_snil ?_ | refine p_sexpr ?_ | refine p_retN ?_ | refine p_par ?_ | refine p_sh ?_ | refine p_brt rfl ?_ | refine p_brf rfl ?_ | refine ⟨_, rfl, ?_⟩ | refine ⟨⟨rfl, rfl⟩, ?_⟩ | refine ⟨⟨rfl, Nat.le_of_ble_eq_true rfl⟩, ?_⟩ | refine ⟨_, _, _, _, rfl, hn, rfl, rfl, ?_⟩ | (refine ⟨_, _, rfl, ⟨rfl, rfl⟩, ?_⟩; try dsimp only [wipeE, List.set_cons_succ, List.set_cons_zero]) | (refine ⟨rfl, ?_⟩; try dsimp only [wipeE, List.set_cons_succ, List.set_cons_zero]) | refine p_fld ?_ | refine p_star ?_))
    have e2 : (PV.str "drops" :: PV.str (mkS p.d) :: PV.str "numbers" :: PV.str (mkS p.n) :: ((optL p).map PV.str ++ [.str "lock", .str p.l])) = (WL p).map PV.str := by rw [e]; rfl
    show (allSh (PV.str "drops" :: PV.str (mkS p.d) :: PV.str "numbers" :: PV.str (mkS p.n) :: ((optL p).map PV.str ++ [.str "lock", .str p.l])) = true ∧ (PV.str "drops" :: PV.str (mkS p.d) :: PV.str "numbers" :: PV.str (mkS p.n) :: ((optL p).map PV.str ++ [.str "lock", .str p.l])).length ≤ 16777216) ∧ _
    rw [e2]
    refine ⟨⟨hs _, by rw [List.length_map]; have := (WL_len p).1; omega⟩, ?_⟩
    (repeat (first | refine ⟨_, txt_join k, ?_⟩ | refine p_var rfl ?_ | refine p_c ?_ | refine p_bin ?_ | refine p_cons ?_ | refine p_nil ?_ | refine p_seq ?_ | refine p_asg ?_ | refine p_sif ?_ | refine p_ret ?_ | refine p_bM ?_ | refine p_tM ?_ | refine p_cb ?_ | refine p_andM ?_ | refine p_orM ?_ | refine p_notM ?_ | refine p_chain ?_ | refine p_andV ?_ | refine p_orV ?_ | refine p_notV ?_ | refine p_ifM ?_ | refine p_tup ?_ | refine p_lst ?_ | refine p_call ?_ | refine p_callK ?_ | refine ⟨⟨⟨rfl, rfl⟩, rfl, rfl⟩, ⟨rfl, rfl⟩, ?_⟩ | refine p_setB ?_ | refine p_sl ?_ | refine p_osome ?_ | refine p_onone ?_ | refine p_snil ?_ | refine p_sexpr ?_ | refine p_retN ?_ | refine p_par ?_ | refine p_sh ?_ | refine p_brt rfl ?_ | refine p_brf rfl ?_ | refine ⟨_, rfl, ?_⟩ | refine ⟨⟨rfl, rfl⟩, ?_⟩ | refine ⟨⟨rfl, Nat.le_of_ble_eq_true rfl⟩, ?_⟩ | refine ⟨_, _, _, _, rfl, hn, rfl, rfl, ?_⟩ | (refine ⟨_, _, rfl, ⟨rfl, rfl⟩, ?_⟩; try dsimp only [wipeE, List.set_cons_succ, List.set_cons_zero]) | (refine ⟨rfl, ?_⟩; try dsimp only [wipeE, List.set_cons_succ, List.set_cons_zero])))
end
end LW

set_option Elab.async false
set_option linter.all false
set_option maxRecDepth 100000
set_option maxHeartbeats 4000000
namespace LW
open PySem PySem.Spec PyProof.Rows L2 Lp
section
theorem txt_len {p : SpecW} (k : p.Ok) : (txt p).length ≤ 9000 := by
  have l2 := len_join (y := (" " : Str)) (parts := WL p)
  have l1 : ((WL p).map (·.length)).sum ≤ (WL p).length * 1000 := by
    have : ∀ L : List Str, (∀ w ∈ L, w.length ≤ 1000) → (L.map (·.length)).sum ≤ L.length * 1000 := fun L => by
      induction L with
      | nil => simp
      | cons y ys ih =>
        intro hp
        have h1 := ih fun p hp' => hp p (by simp [hp'])
        have h2 := hp y (by simp)
        rw [List.map_cons, List.sum_cons, List.length_cons, Nat.succ_mul]
        omega
    exact this _ fun w hw => (word_ok k hw).2.2
  have l3 : ((" " : Str)).length = 1 := by decide +kernel
  have l4 := (WL_len p).1
  rw [l3] at l2
  have : (txt p).length ≤ _ := l2
  omega
theorem clsW (p : SpecW) (h : AH) : clsOf h (wayV p) = some cn_Way := rfl
theorem eq_way {p q : SpecW} {h : AH} (kp : p.Ok) (kq : q.Ok) : (m_Way___eq__ [wayV p, wayV q] h).post (fun v h' => v = .bl (decide (txt p = txt q)) ∧ h' = h) NE := by
  unfold m_Way___eq__
  rw [xe_Way___eq__]
  unfold xb_Way___eq__
  refine p_mkF [some (wayV p), some (wayV q)] rfl ?_
  (repeat (first | refine p_var rfl ?_ | refine p_c ?_ | refine p_bin ?_ | refine p_cons ?_ | refine p_nil ?_ | refine p_seq ?_ | refine p_asg ?_ | refine p_sif ?_ | refine p_ret ?_ | refine p_bM ?_ | refine p_tM ?_ | refine p_cb ?_ | refine p_andM ?_ | refine p_orM ?_ | refine p_notM ?_ | refine p_chain ?_ | refine p_andV ?_ | refine p_orV ?_ | refine p_notV ?_ | refine p_ifM ?_ | refine p_tup ?_ | refine p_lst ?_ | refine p_call ?_ | refine p_callK ?_ | refine ⟨⟨⟨rfl, rfl⟩, rfl, rfl⟩, ⟨rfl, rfl⟩, ?_⟩ | refine p_setB ?_ | refine p_sl ?_ | refine p_osome ?_ | refine p_onone ?_ | refine p_snil ?_ | refine p_sexpr ?_ | refine p_retN ?_ | refine p_par ?_ | refine p_sh ?_ | refine p_brt rfl ?_ | refine p_brf rfl ?_ | refine ⟨_, rfl, ?_⟩ | refine ⟨⟨rfl, rfl⟩, ?_⟩ | refine ⟨⟨rfl, Nat.le_of_ble_eq_true rfl⟩, ?_⟩ | refine ⟨_, _, _, _, rfl, hn, rfl, rfl, ?_⟩ | (refine ⟨_, _, rfl, ⟨rfl, rfl⟩, ?_⟩; try dsimp only [wipeE, List.set_cons_succ, List.set_cons_zero]) | (refine ⟨rfl, ?_⟩; try dsimp only [wipeE, List.set_cons_succ, List.set_cons_zero]) | refine p_meA ?_))
  refine p_spec (text_spec kp) fun v h' w => ?_
  obtain ⟨rfl, rfl⟩ := w
  (repeat (first | refine p_var rfl ?_ | refine p_c ?_ | refine p_bin ?_ | refine p_cons ?_ | refine p_nil ?_ | refine p_seq ?_ | refine p_asg ?_ | refine p_sif ?_ | refine p_ret ?_ | refine p_bM ?_ | refine p_tM ?_ | refine p_cb ?_ | refine p_andM ?_ | refine p_orM ?_ | refine p_notM ?_ | refine p_chain ?_ | refine p_andV ?_ | refine p_orV ?_ | refine p_notV ?_ | refine p_ifM ?_ | refine p_tup ?_ | refine p_lst ?_ | refine p_call ?_ | refine p_callK ?_ | refine ⟨⟨⟨rfl, rfl⟩, rfl, rfl⟩, ⟨rfl, rfl⟩, ?_⟩ | refine p_setB ?_ | refine p_sl ?_ | refine p_osome ?_ | refine p_onone ?_ | refine p_snil ?_ | refine p_sexpr ?_ | refine p_retN ?_ | refine p_par ?_ | refine p_sh ?_ | refine p_brt rfl ?_ | refine p_brf rfl ?_ | refine ⟨_, rfl, ?_⟩ | refine ⟨⟨rfl, rfl⟩, ?_⟩ | refine ⟨⟨rfl, Nat.le_of_ble_eq_true rfl⟩, ?_⟩ | refine ⟨_, _, _, _, rfl, hn, rfl, rfl, ?_⟩ | (refine ⟨_, _, rfl, ⟨rfl, rfl⟩, ?_⟩; try dsimp only [wipeE, List.set_cons_succ, List.set_cons_zero]) | (refine ⟨rfl, ?_⟩; try dsimp only [wipeE, List.set_cons_succ, List.set_cons_zero]) | refine p_meA ?_))
  refine p_spec (text_spec kq) fun v h' w => ?_
  obtain ⟨rfl, rfl⟩ := w
  (repeat (first | refine p_var rfl ?_ | refine p_c ?_ | refine p_bin ?_ | refine p_cons ?_ | refine p_nil ?_ | refine p_seq ?_ | refine p_asg ?_ | refine p_sif ?_ | refine p_ret ?_ | refine p_bM ?_ | refine p_tM ?_ | refine p_cb ?_ | refine p_andM ?_ | refine p_orM ?_ | refine p_notM ?_ | refine p_chain ?_ | refine p_andV ?_ | refine p_orV ?_ | refine p_notV ?_ | refine p_ifM ?_ | refine p_tup ?_ | refine p_lst ?_ | refine p_call ?_ | refine p_callK ?_ | refine ⟨⟨⟨rfl, rfl⟩, rfl, rfl⟩, ⟨rfl, rfl⟩, ?_⟩ | refine p_setB ?_ | refine p_sl ?_ | refine p_osome ?_ | refine p_onone ?_ | refine p_snil ?_ | refine p_sexpr ?_ | refine p_retN ?_ | refine p_par ?_ | refine p_sh ?_ | refine p_brt rfl ?_ | refine p_brf rfl ?_ | refine ⟨_, rfl, ?_⟩ | refine ⟨⟨rfl, rfl⟩, ?_⟩ | refine ⟨⟨rfl, Nat.le_of_ble_eq_true rfl⟩, ?_⟩ | refine ⟨_, _, _, _, rfl, hn, rfl, rfl, ?_⟩ | (refine ⟨_, _, rfl, ⟨rfl, rfl⟩, ?_⟩; try dsimp only [wipeE, List.set_cons_succ, List.set_cons_zero]) | (refine ⟨rfl, ?_⟩; try dsimp only [wipeE, List.set_cons_succ, List.set_cons_zero])))
theorem eq_oth {p : SpecW} {y : PV} {h : AH} (hy : y = .non ∨ ∃ z, y = .str z) : (m_Way___eq__ [wayV p, y] h).post (fun v h' => v = .bl false ∧ h' = h) NE := by
  unfold m_Way___eq__
  rw [xe_Way___eq__]
  unfold xb_Way___eq__
  refine p_mkF [some (wayV p), some y] rfl ?_
  rcases hy with rfl | ⟨z, rfl⟩
  all_goals (repeat (first | refine p_var rfl ?_ | refine p_c ?_ | refine p_bin ?_ | refine p_cons ?_ | refine p_nil ?_ | refine p_seq ?_ | refine p_asg ?_ | refine p_sif ?_ | refine p_ret ?_ | refine p_bM ?_ | refine p_tM ?_ | refine p_cb ?_ | refine p_andM ?_ | refine p_orM ?_ | refine p_notM ?_ | refine p_chain ?_ | refine p_andV ?_ | refine p_orV ?_ | refine p_notV ?_ | refine p_ifM ?_ | refine p_tup ?_ | refine p_lst ?_ | refine p_call ?_ | refine p_callK ?_ | refine ⟨⟨⟨rfl, rfl⟩, rfl, rfl⟩, ⟨rfl, rfl⟩, ?_⟩ | refine p_setB ?_ | refine p_sl ?_ | refine p_osome ?_ | refine p_onone ?_ | refine p_snil ?_ | refine p_sexpr ?_ | refine p_retN ?_ | refine p_par ?_ | refine p_sh ?_ | refine p_brt rfl ?_ | refine p_brf rfl ?_ | refine ⟨_, rfl, ?_⟩ | refine ⟨⟨rfl, rfl⟩, ?_⟩ | refine ⟨⟨rfl, Nat.le_of_ble_eq_true rfl⟩, ?_⟩ | refine ⟨_, _, _, _, rfl, hn, rfl, rfl, ?_⟩ | (refine ⟨_, _, rfl, ⟨rfl, rfl⟩, ?_⟩; try dsimp only [wipeE, List.set_cons_succ, List.set_cons_zero]) | (refine ⟨rfl, ?_⟩; try dsimp only [wipeE, List.set_cons_succ, List.set_cons_zero])))
theorem repr_spec {p : SpecW} {h : AH} (kp : p.Ok) : (m_Way___repr__ [wayV p] h).post (fun v h' => v = .str (("Way(" ++ txt p) ++ ")") ∧ h' = h) NE := by
  have l1 : (Str.empty).length = 0 := by decide +kernel
  have l2 : (("Way(" : Str)).length = 4 := by decide +kernel
  have l3 : ((")" : Str)).length = 1 := by decide +kernel
  have la : ∀ a b : Str, (a ++ b).length = a.length + b.length := fun a b => by
    rw [mkS_eta a, mkS_eta b, mkS_app, mkS_len, mkS_len, mkS_len, List.length_append]
  have hs := (show 10000 ≤ sizeLine by decide)
  have hz := txt_len kp
  unfold m_Way___repr__
  rw [xe_Way___repr__]
  unfold xb_Way___repr__
  refine p_mkF [some (wayV p)] rfl (p_ret ?_)
  refine p_jcons (p_c ⟨_, rfl, by rw [l1, l2]; omega, ?_⟩)
  refine p_jcons (p_fmt ?_)
  (repeat (first | refine p_var rfl ?_ | refine p_c ?_ | refine p_bin ?_ | refine p_cons ?_ | refine p_nil ?_ | refine p_seq ?_ | refine p_asg ?_ | refine p_sif ?_ | refine p_ret ?_ | refine p_bM ?_ | refine p_tM ?_ | refine p_cb ?_ | refine p_andM ?_ | refine p_orM ?_ | refine p_notM ?_ | refine p_chain ?_ | refine p_andV ?_ | refine p_orV ?_ | refine p_notV ?_ | refine p_ifM ?_ | refine p_tup ?_ | refine p_lst ?_ | refine p_call ?_ | refine p_callK ?_ | refine ⟨⟨⟨rfl, rfl⟩, rfl, rfl⟩, ⟨rfl, rfl⟩, ?_⟩ | refine p_setB ?_ | refine p_sl ?_ | refine p_osome ?_ | refine p_onone ?_ | refine p_snil ?_ | refine p_sexpr ?_ | refine p_retN ?_ | refine p_par ?_ | refine p_sh ?_ | refine p_brt rfl ?_ | refine p_brf rfl ?_ | refine ⟨_, rfl, ?_⟩ | refine ⟨⟨rfl, rfl⟩, ?_⟩ | refine ⟨⟨rfl, Nat.le_of_ble_eq_true rfl⟩, ?_⟩ | refine ⟨_, _, _, _, rfl, hn, rfl, rfl, ?_⟩ | (refine ⟨_, _, rfl, ⟨rfl, rfl⟩, ?_⟩; try dsimp only [wipeE, List.set_cons_succ, List.set_cons_zero]) | (refine ⟨rfl, ?_⟩; try dsimp only [wipeE, List.set_cons_succ, List.set_cons_zero]) | refine p_meA ?_))
  refine p_spec (text_spec kp) fun v h' w => ?_
  obtain ⟨rfl, rfl⟩ := w
  refine ⟨_, rfl, _, rfl, by rw [la, l1, l2]; omega, ?_⟩
  refine p_jcons (p_c ⟨_, rfl, by rw [la, la, l1, l2, l3]; omega, p_jnil ⟨rfl, ?_, rfl⟩⟩)
  rw [emp_app]
/-- the words of a text -/
theorem in_words {p : SpecW} {h : AH} {w : Str} (hw : w.length ≠ 1) : fIn h (.str w) (.lst ((WL p).map .str)) = some (.bl (decide (w ∈ WL p))) := by
  have e1 : toDs ((WL p).map PV.str) = some ((WL p).map PyData.str) := toDs_map PV.str PyData.str (fun _ => rfl) _
  have e2 : toDh h (.lst ((WL p).map PV.str)) = some (.list ((WL p).map PyData.str)) := by
    show (toDs _).map _ = _
    rw [e1]; rfl
  have e3 : dOk (.list ((WL p).map PyData.str)) = true := dOk_list (n := 1) (fun d hd => by
    obtain ⟨z, _, rfl⟩ := List.mem_map.mp hd
    simp [PyData.depth]) (by decide)
  have e4 : ((WL p).map PyData.str).any (fun z => PyData.eqv z (.str w)) = decide (w ∈ WL p) := by
    rw [List.any_map]
    generalize WL p = L
    induction L with
    | nil => rfl
    | cons y ys ih =>
      rw [List.any_cons, ih]
      show (PyData.eqv (.str y) (.str w) || _) = _
      rw [eqv_str]
      by_cases h : y = w
      · subst h; simp
      · have h2 : ¬ w = y := fun z => h z.symm
        simp [h, h2]
  show (none : Option PV).or (fInL false h (.str w) (.lst ((WL p).map PV.str))) = _
  rw [Option.none_or]
  unfold fInL
  have e5 : toDh h (.str w) = some (.str w) := rfl
  rw [e5, e2]
  show (if dOk (.str w) && dOk (.list ((WL p).map PyData.str)) then _ else _) = _
  rw [e3]
  show some (PV.bl (false ^^ ((WL p).map PyData.str).any fun z => PyData.eqv z (.str w))) = _
  rw [e4, Bool.false_xor]
theorem in_s {p : SpecW} (k : p.Ok) : decide (("stretches" : Str) ∈ WL p) = p.s := by
  have n1 : ¬ ("stretches" : Str) = "drops" := by decide +kernel
  have n2 : ¬ ("stretches" : Str) = mkS p.d := fun e => by
    have := congrArg Str.length e
    rw [mkS_len, k.d.1] at this
    exact absurd this (by decide +kernel)
  have n3 : ¬ ("stretches" : Str) = "numbers" := by decide +kernel
  have n4 : ¬ ("stretches" : Str) = mkS p.n := fun e => by
    have := congrArg Str.length e
    rw [mkS_len, k.n.1] at this
    exact absurd this (by decide +kernel)
  have n5 : ¬ ("stretches" : Str) = "hidden" := by decide +kernel
  have n6 : ¬ ("stretches" : Str) = "lock" := by decide +kernel
  have n7 : ¬ ("stretches" : Str) = p.l := by rcases k.l with e | e | e <;> rw [e] <;> decide +kernel
  obtain ⟨d, n, s, hd, l⟩ := p
  cases s <;> cases hd <;> simp [WL, optL, n1, n2, n3, n4, n5, n6, n7]
theorem in_h {p : SpecW} (k : p.Ok) : decide (("hidden" : Str) ∈ WL p) = p.h := by
  have n1 : ¬ ("hidden" : Str) = "drops" := by decide +kernel
  have n2 : ¬ ("hidden" : Str) = mkS p.d := fun e => by
    have := congrArg Str.length e
    rw [mkS_len, k.d.1] at this
    exact absurd this (by decide +kernel)
  have n3 : ¬ ("hidden" : Str) = "numbers" := by decide +kernel
  have n4 : ¬ ("hidden" : Str) = mkS p.n := fun e => by
    have := congrArg Str.length e
    rw [mkS_len, k.n.1] at this
    exact absurd this (by decide +kernel)
  have n5 : ¬ ("hidden" : Str) = "stretches" := by decide +kernel
  have n6 : ¬ ("hidden" : Str) = "lock" := by decide +kernel
  have n7 : ¬ ("hidden" : Str) = p.l := by rcases k.l with e | e | e <;> rw [e] <;> decide +kernel
  obtain ⟨d, n, s, hd, l⟩ := p
  cases s <;> cases hd <;> simp [WL, optL, n1, n2, n3, n4, n5, n6, n7]
theorem words_at {p : SpecW} {h : AH} : bLen h [.lst ((WL p).map .str)] = some (.int ((WL p).length : Nat)) ∧ fIx h (.lst ((WL p).map .str)) (.int 1) = some (.str (mkS p.d)) ∧ fIx h (.lst ((WL p).map .str)) (.int 3) = some (.str (mkS p.n)) ∧ fIx h (.lst ((WL p).map .str)) (.int (-1)) = some (.str p.l) := by
  obtain ⟨d, n, s, hd, l⟩ := p
  cases s <;> cases hd <;> exact ⟨rfl, rfl, rfl, rfl⟩
theorem wtext_spec {p : SpecW} {h : AH} (k : p.Ok) : (m__law_way_text [p.v] h).post (fun v h' => v = .str (txt p) ∧ h' = h) NE := by
  unfold m__law_way_text
  rw [xe__law_way_text]
  unfold xb__law_way_text
  refine p_mkF [some p.v, none] rfl ?_
  have e1 : ∀ h : AH, ∃ z1 z2 z3 z4 z5, fMul h (.lst [.str "stretches"]) (.int (if p.s then 1 else 0)) = some z1 ∧ fMul h (.lst [.str "hidden"]) (.int (if p.h then 1 else 0)) = some z2 ∧ fAdd h z1 z2 = some z3 ∧ isOwn z3 = false ∧
      fAdd h (.lst [.str "drops", .str (mkS p.d), .str "numbers", .str (mkS p.n)]) z3 = some z4 ∧ fAdd h z4 (.lst [.str "lock", .str p.l]) = some z5 ∧ z5 = .lst ((WL p).map .str) := fun h => by
    obtain ⟨d, n, s, hd, l⟩ := p
    cases s <;> cases hd <;> exact ⟨_, _, _, _, _, rfl, rfl, rfl, rfl, rfl, rfl, rfl⟩
  obtain ⟨z1, z2, z3, z4, z5, h1, h2, h3, h4, h5, h6, rfl⟩ := e1 h
  (repeat (first | refine ⟨_, h1, ?_⟩ | refine ⟨_, h2, ?_⟩ | refine ⟨_, h3, ?_⟩ | refine ⟨h4, ?_⟩ | refine p_ms ?_ | refine ⟨_, h5, ?_⟩ | refine ⟨_, h6, ?_⟩ | refine ⟨_, txt_join k, ?_⟩ | refine p_var rfl ?_ | refine p_c ?_ | refine p_bin ?_ | refine p_cons ?_ | refine p_nil ?_ | refine p_seq ?_ | refine p_asg ?_ | refine p_sif ?_ | refine p_ret ?_ | refine p_bM ?_ | refine p_tM ?_ | refine p_cb ?_ | refine p_andM ?_ | refine p_orM ?_ | refine p_notM ?_ | refine p_chain ?_ | refine p_andV ?_ | refine p_orV ?_ | refine p_notV ?_ | refine p_ifM ?_ | refine p_tup ?_ | refine p_lst ?_ | refine p_call ?_ | refine p_callK ?_ | refine ⟨⟨⟨rfl, rfl⟩, rfl, rfl⟩, ⟨rfl, rfl⟩, ?_⟩ | refine p_setB ?_ | refine p_sl ?_ | refine p_osome ?_ | refine p_onone ?_ | refine p_snil ?_ | refine p_sexpr ?_ | refine p_retN ?_ | refine p_par ?_ | refine p_sh ?_ | refine p_brt rfl ?_ | refine p_brf rfl ?_ | refine ⟨_, rfl, ?_⟩ | refine ⟨⟨rfl, rfl⟩, ?_⟩ | refine ⟨⟨rfl, Nat.le_of_ble_eq_true rfl⟩, ?_⟩ | refine ⟨_, _, _, _, rfl, hn, rfl, rfl, ?_⟩ | (refine ⟨_, _, rfl, ⟨rfl, rfl⟩, ?_⟩; try dsimp only [wipeE, List.set_cons_succ, List.set_cons_zero]) | (refine ⟨rfl, ?_⟩; try dsimp only [wipeE, List.set_cons_succ, List.set_cons_zero])))
theorem word_spec {c : Nat} {h : AH} (k : TrC c) : (m__law_word [.str (mkS [c])] h).post (fun v h' => v = .str (wordC c) ∧ h' = h) NE := by
  unfold m__law_word
  rw [xe__law_word]
  unfold xb__law_word
  refine p_mkF [some (.str (mkS [c]))] rfl ?_
  have e1 : mSIndex h "trm" [.str (mkS [c])] = some (.int (if c = 116 then 0 else if c = 114 then 1 else 2)) := by
    rcases k with rfl | rfl | rfl
    · show (match Builtin.Str.occurrences "trm" (mkS [116]) 0 ("trm" : Str).length 1 with | i :: _ => some (PV.int (i : Nat)) | [] => none) = _
      rw [show Builtin.Str.occurrences "trm" (mkS [116]) 0 ("trm" : Str).length 1 = [0] by decide +kernel]; rfl
    · show (match Builtin.Str.occurrences "trm" (mkS [114]) 0 ("trm" : Str).length 1 with | i :: _ => some (PV.int (i : Nat)) | [] => none) = _
      rw [show Builtin.Str.occurrences "trm" (mkS [114]) 0 ("trm" : Str).length 1 = [1] by decide +kernel]; rfl
    · show (match Builtin.Str.occurrences "trm" (mkS [109]) 0 ("trm" : Str).length 1 with | i :: _ => some (PV.int (i : Nat)) | [] => none) = _
      rw [show Builtin.Str.occurrences "trm" (mkS [109]) 0 ("trm" : Str).length 1 = [2] by decide +kernel]; rfl
  (repeat (first | refine p_ms ?_ | refine ⟨_, e1, ?_⟩ | refine p_var rfl ?_ | refine p_c ?_ | refine p_bin ?_ | refine p_cons ?_ | refine p_nil ?_ | refine p_seq ?_ | refine p_asg ?_ | refine p_sif ?_ | refine p_ret ?_ | refine p_bM ?_ | refine p_tM ?_ | refine p_cb ?_ | refine p_andM ?_ | refine p_orM ?_ | refine p_notM ?_ | refine p_chain ?_ | refine p_andV ?_ | refine p_orV ?_ | refine p_notV ?_ | refine p_ifM ?_ | refine p_tup ?_ | refine p_lst ?_ | refine p_call ?_ | refine p_callK ?_ | refine ⟨⟨⟨rfl, rfl⟩, rfl, rfl⟩, ⟨rfl, rfl⟩, ?_⟩ | refine p_setB ?_ | refine p_sl ?_ | refine p_osome ?_ | refine p_onone ?_ | refine p_snil ?_ | refine p_sexpr ?_ | refine p_retN ?_ | refine p_par ?_ | refine p_sh ?_ | refine p_brt rfl ?_ | refine p_brf rfl ?_ | refine ⟨_, rfl, ?_⟩ | refine ⟨⟨rfl, rfl⟩, ?_⟩ | refine ⟨⟨rfl, Nat.le_of_ble_eq_true rfl⟩, ?_⟩ | refine ⟨_, _, _, _, rfl, hn, rfl, rfl, ?_⟩ | (refine ⟨_, _, rfl, ⟨rfl, rfl⟩, ?_⟩; try dsimp only [wipeE, List.set_cons_succ, List.set_cons_zero]) | (refine ⟨rfl, ?_⟩; try dsimp only [wipeE, List.set_cons_succ, List.set_cons_zero])))
  rcases k with rfl | rfl | rfl <;> exact ⟨_, rfl, rfl, rfl, rfl⟩
/-- Way.read of a way's text -/
theorem read_spec {p : SpecW} {h : AH} (k : p.Ok) : (m_Way_read [.str (txt p)] h).post (fun v h' => v = wayV p ∧ h' = h) NE := by
  unfold m_Way_read
  rw [xe_Way_read]
  unfold xb_Way_read
  refine p_mkF [some (.str (txt p)), none, none, none, none] rfl ?_
  have i1 : ∀ h, fIn h (.str "stretches") (.lst ((WL p).map .str)) = some (.bl p.s) := fun h => by rw [in_words (by decide +kernel), in_s k]
  have i2 : ∀ h, fIn h (.str "hidden") (.lst ((WL p).map .str)) = some (.bl p.h) := fun h => by rw [in_words (by decide +kernel), in_h k]
  have w0 := fun h => (words_at (p := p) (h := h)).1
  have w1 := fun h => (words_at (p := p) (h := h)).2.1
  have w3 := fun h => (words_at (p := p) (h := h)).2.2.1
  have w4 := fun h => (words_at (p := p) (h := h)).2.2.2
  have wl := (WL_len p).2
  (repeat (first | refine p_ms ?_ | refine ⟨_, isi_p trivial rfl, ?_⟩ | refine ⟨_, txt_split k, ?_⟩ | refine ⟨_, w0 _, ?_⟩ | refine p_var rfl ?_ | refine p_c ?_ | refine p_bin ?_ | refine p_cons ?_ | refine p_nil ?_ | refine p_seq ?_ | refine p_asg ?_ | refine p_sif ?_ | refine p_ret ?_ | refine p_bM ?_ | refine p_tM ?_ | refine p_cb ?_ | refine p_andM ?_ | refine p_orM ?_ | refine p_notM ?_ | refine p_chain ?_ | refine p_andV ?_ | refine p_orV ?_ | refine p_notV ?_ | refine p_ifM ?_ | refine p_tup ?_ | refine p_lst ?_ | refine p_call ?_ | refine p_callK ?_ | refine ⟨⟨⟨rfl, rfl⟩, rfl, rfl⟩, ⟨rfl, rfl⟩, ?_⟩ | refine p_setB ?_ | refine p_sl ?_ | refine p_osome ?_ | refine p_onone ?_ | refine p_snil ?_ | refine p_sexpr ?_ | refine p_retN ?_ | refine p_par ?_ | refine p_sh ?_ | refine p_brt rfl ?_ | refine p_brf rfl ?_ | refine ⟨_, rfl, ?_⟩ | refine ⟨⟨rfl, rfl⟩, ?_⟩ | refine ⟨⟨rfl, Nat.le_of_ble_eq_true rfl⟩, ?_⟩ | refine ⟨_, _, _, _, rfl, hn, rfl, rfl, ?_⟩ | (refine ⟨_, _, rfl, ⟨rfl, rfl⟩, ?_⟩; try dsimp only [wipeE, List.set_cons_succ, List.set_cons_zero]) | (refine ⟨rfl, ?_⟩; try dsimp only [wipeE, List.set_cons_succ, List.set_cons_zero])))
  refine p_brf (decide_eq_false (by omega)) ?_
  (repeat (first | refine p_tryN ?_ | refine ⟨_, i1 _, ?_⟩ | refine ⟨_, i2 _, ?_⟩ | refine p_var rfl ?_ | refine p_c ?_ | refine p_bin ?_ | refine p_cons ?_ | refine p_nil ?_ | refine p_seq ?_ | refine p_asg ?_ | refine p_sif ?_ | refine p_ret ?_ | refine p_bM ?_ | refine p_tM ?_ | refine p_cb ?_ | refine p_andM ?_ | refine p_orM ?_ | refine p_notM ?_ | refine p_chain ?_ | refine p_andV ?_ | refine p_orV ?_ | refine p_notV ?_ | refine p_ifM ?_ | refine p_tup ?_ | refine p_lst ?_ | refine p_call ?_ | refine p_callK ?_ | refine ⟨⟨⟨rfl, rfl⟩, rfl, rfl⟩, ⟨rfl, rfl⟩, ?_⟩ | refine p_setB ?_ | refine p_sl ?_ | refine p_osome ?_ | refine p_onone ?_ | refine p_snil ?_ | refine p_sexpr ?_ | refine p_retN ?_ | refine p_par ?_ | refine p_sh ?_ | refine p_brt rfl ?_ | refine p_brf rfl ?_ | refine ⟨_, rfl, ?_⟩ | refine ⟨⟨rfl, rfl⟩, ?_⟩ | refine ⟨⟨rfl, Nat.le_of_ble_eq_true rfl⟩, ?_⟩ | refine ⟨_, _, _, _, rfl, hn, rfl, rfl, ?_⟩ | (refine ⟨_, _, rfl, ⟨rfl, rfl⟩, ?_⟩; try dsimp only [wipeE, List.set_cons_succ, List.set_cons_zero]) | (refine ⟨rfl, ?_⟩; try dsimp only [wipeE, List.set_cons_succ, List.set_cons_zero])))
  refine p_mkA ?_
  (repeat (first | refine p_neg ?_ | refine ⟨_, w1 _, ?_⟩ | refine ⟨_, w3 _, ?_⟩ | refine ⟨_, w4 _, ?_⟩ | refine p_var rfl ?_ | refine p_c ?_ | refine p_bin ?_ | refine p_cons ?_ | refine p_nil ?_ | refine p_seq ?_ | refine p_asg ?_ | refine p_sif ?_ | refine p_ret ?_ | refine p_bM ?_ | refine p_tM ?_ | refine p_cb ?_ | refine p_andM ?_ | refine p_orM ?_ | refine p_notM ?_ | refine p_chain ?_ | refine p_andV ?_ | refine p_orV ?_ | refine p_notV ?_ | refine p_ifM ?_ | refine p_tup ?_ | refine p_lst ?_ | refine p_call ?_ | refine p_callK ?_ | refine ⟨⟨⟨rfl, rfl⟩, rfl, rfl⟩, ⟨rfl, rfl⟩, ?_⟩ | refine p_setB ?_ | refine p_sl ?_ | refine p_osome ?_ | refine p_onone ?_ | refine p_snil ?_ | refine p_sexpr ?_ | refine p_retN ?_ | refine p_par ?_ | refine p_sh ?_ | refine p_brt rfl ?_ | refine p_brf rfl ?_ | refine ⟨_, rfl, ?_⟩ | refine ⟨⟨rfl, rfl⟩, ?_⟩ | refine ⟨⟨rfl, Nat.le_of_ble_eq_true rfl⟩, ?_⟩ | refine ⟨_, _, _, _, rfl, hn, rfl, rfl, ?_⟩ | (refine ⟨_, _, rfl, ⟨rfl, rfl⟩, ?_⟩; try dsimp only [wipeE, List.set_cons_succ, List.set_cons_zero]) | (refine ⟨rfl, ?_⟩; try dsimp only [wipeE, List.set_cons_succ, List.set_cons_zero])))
  refine p_spec (init_spec k) fun v h2 z => ?_
  obtain ⟨rfl, rfl⟩ := z
  refine ⟨rfl, p.fs, rfl, rfl, ?_⟩
  (repeat (first | refine p_var rfl ?_ | refine p_c ?_ | refine p_bin ?_ | refine p_cons ?_ | refine p_nil ?_ | refine p_seq ?_ | refine p_asg ?_ | refine p_sif ?_ | refine p_ret ?_ | refine p_bM ?_ | refine p_tM ?_ | refine p_cb ?_ | refine p_andM ?_ | refine p_orM ?_ | refine p_notM ?_ | refine p_chain ?_ | refine p_andV ?_ | refine p_orV ?_ | refine p_notV ?_ | refine p_ifM ?_ | refine p_tup ?_ | refine p_lst ?_ | refine p_call ?_ | refine p_callK ?_ | refine ⟨⟨⟨rfl, rfl⟩, rfl, rfl⟩, ⟨rfl, rfl⟩, ?_⟩ | refine p_setB ?_ | refine p_sl ?_ | refine p_osome ?_ | refine p_onone ?_ | refine p_snil ?_ | refine p_sexpr ?_ | refine p_retN ?_ | refine p_par ?_ | refine p_sh ?_ | refine p_brt rfl ?_ | refine p_brf rfl ?_ | refine ⟨_, rfl, ?_⟩ | refine ⟨⟨rfl, rfl⟩, ?_⟩ | refine ⟨⟨rfl, Nat.le_of_ble_eq_true rfl⟩, ?_⟩ | refine ⟨_, _, _, _, rfl, hn, rfl, rfl, ?_⟩ | (refine ⟨_, _, rfl, ⟨rfl, rfl⟩, ?_⟩; try dsimp only [wipeE, List.set_cons_succ, List.set_cons_zero]) | (refine ⟨rfl, ?_⟩; try dsimp only [wipeE, List.set_cons_succ, List.set_cons_zero]) | refine p_meA ?_))
  refine p_spec (text_spec k) fun v h' w => ?_
  obtain ⟨rfl, rfl⟩ := w
  (repeat (first | refine p_var rfl ?_ | refine p_c ?_ | refine p_bin ?_ | refine p_cons ?_ | refine p_nil ?_ | refine p_seq ?_ | refine p_asg ?_ | refine p_sif ?_ | refine p_ret ?_ | refine p_bM ?_ | refine p_tM ?_ | refine p_cb ?_ | refine p_andM ?_ | refine p_orM ?_ | refine p_notM ?_ | refine p_chain ?_ | refine p_andV ?_ | refine p_orV ?_ | refine p_notV ?_ | refine p_ifM ?_ | refine p_tup ?_ | refine p_lst ?_ | refine p_call ?_ | refine p_callK ?_ | refine ⟨⟨⟨rfl, rfl⟩, rfl, rfl⟩, ⟨rfl, rfl⟩, ?_⟩ | refine p_setB ?_ | refine p_sl ?_ | refine p_osome ?_ | refine p_onone ?_ | refine p_snil ?_ | refine p_sexpr ?_ | refine p_retN ?_ | refine p_par ?_ | refine p_sh ?_ | refine p_brt rfl ?_ | refine p_brf rfl ?_ | refine ⟨_, rfl, ?_⟩ | refine ⟨⟨rfl, rfl⟩, ?_⟩ | refine ⟨⟨rfl, Nat.le_of_ble_eq_true rfl⟩, ?_⟩ | refine ⟨_, _, _, _, rfl, hn, rfl, rfl, ?_⟩ | (refine ⟨_, _, rfl, ⟨rfl, rfl⟩, ?_⟩; try dsimp only [wipeE, List.set_cons_succ, List.set_cons_zero]) | (refine ⟨rfl, ?_⟩; try dsimp only [wipeE, List.set_cons_succ, List.set_cons_zero])))
  refine p_brf (by rw [eqv_str, decide_eq_true rfl]; rfl) ?_
  (repeat (first | refine p_var rfl ?_ | refine p_c ?_ | refine p_bin ?_ | refine p_cons ?_ | refine p_nil ?_ | refine p_seq ?_ | refine p_asg ?_ | refine p_sif ?_ | refine p_ret ?_ | refine p_bM ?_ | refine p_tM ?_ | refine p_cb ?_ | refine p_andM ?_ | refine p_orM ?_ | refine p_notM ?_ | refine p_chain ?_ | refine p_andV ?_ | refine p_orV ?_ | refine p_notV ?_ | refine p_ifM ?_ | refine p_tup ?_ | refine p_lst ?_ | refine p_call ?_ | refine p_callK ?_ | refine ⟨⟨⟨rfl, rfl⟩, rfl, rfl⟩, ⟨rfl, rfl⟩, ?_⟩ | refine p_setB ?_ | refine p_sl ?_ | refine p_osome ?_ | refine p_onone ?_ | refine p_snil ?_ | refine p_sexpr ?_ | refine p_retN ?_ | refine p_par ?_ | refine p_sh ?_ | refine p_brt rfl ?_ | refine p_brf rfl ?_ | refine ⟨_, rfl, ?_⟩ | refine ⟨⟨rfl, rfl⟩, ?_⟩ | refine ⟨⟨rfl, Nat.le_of_ble_eq_true rfl⟩, ?_⟩ | refine ⟨_, _, _, _, rfl, hn, rfl, rfl, ?_⟩ | (refine ⟨_, _, rfl, ⟨rfl, rfl⟩, ?_⟩; try dsimp only [wipeE, List.set_cons_succ, List.set_cons_zero]) | (refine ⟨rfl, ?_⟩; try dsimp only [wipeE, List.set_cons_succ, List.set_cons_zero])))
/-- all looks answered -/
theorem tup_sp (p : SpecW) : p.v = .tup [.str (mkS p.d), .str (mkS p.n), .bl p.s, .bl p.h, .str p.l] := rfl
def wAt (cs : List Nat) (v : PV) : PV := match v with
  | .int k => .str (wordC (ltr cs k.toNat))
  | _ => .non
def wOf (v : PV) : PV := match v with
  | .str x => .str (wordC (x.cps.toList.headD 0))
  | _ => .non
theorem answers_spec {p : SpecW} {h : AH} (k : p.Ok) : (m__law_answers_so [wayV p, p.v] h).post (fun v h' => v = .bl true ∧ h' = h) NE := by
  unfold m__law_answers_so
  rw [xe__law_answers_so]
  unfold xb__law_answers_so
  rw [like_eq]
  refine p_mkF [some (wayV p), some p.v, none, none, none] rfl ?_
  (repeat (first | refine p_var rfl ?_ | refine p_c ?_ | refine p_bin ?_ | refine p_cons ?_ | refine p_nil ?_ | refine p_seq ?_ | refine p_asg ?_ | refine p_sif ?_ | refine p_ret ?_ | refine p_bM ?_ | refine p_tM ?_ | refine p_cb ?_ | refine p_andM ?_ | refine p_orM ?_ | refine p_notM ?_ | refine p_chain ?_ | refine p_andV ?_ | refine p_orV ?_ | refine p_notV ?_ | refine p_ifM ?_ | refine p_tup ?_ | refine p_lst ?_ | refine p_call ?_ | refine p_callK ?_ | refine ⟨⟨⟨rfl, rfl⟩, rfl, rfl⟩, ⟨rfl, rfl⟩, ?_⟩ | refine p_setB ?_ | refine p_sl ?_ | refine p_osome ?_ | refine p_onone ?_ | refine p_snil ?_ | refine p_sexpr ?_ | refine p_retN ?_ | refine p_par ?_ | refine p_sh ?_ | refine p_brt rfl ?_ | refine p_brf rfl ?_ | refine ⟨_, rfl, ?_⟩ | refine ⟨⟨rfl, rfl⟩, ?_⟩ | refine ⟨⟨rfl, Nat.le_of_ble_eq_true rfl⟩, ?_⟩ | refine ⟨_, _, _, _, rfl, hn, rfl, rfl, ?_⟩ | (refine ⟨_, _, rfl, ⟨rfl, rfl⟩, ?_⟩; try dsimp only [wipeE, List.set_cons_succ, List.set_cons_zero]) | (refine ⟨rfl, ?_⟩; try dsimp only [wipeE, List.set_cons_succ, List.set_cons_zero])))
  refine p_compMap (p_rng1 ?_)
  (repeat (first | refine p_var rfl ?_ | refine p_c ?_ | refine p_bin ?_ | refine p_cons ?_ | refine p_nil ?_ | refine p_seq ?_ | refine p_asg ?_ | refine p_sif ?_ | refine p_ret ?_ | refine p_bM ?_ | refine p_tM ?_ | refine p_cb ?_ | refine p_andM ?_ | refine p_orM ?_ | refine p_notM ?_ | refine p_chain ?_ | refine p_andV ?_ | refine p_orV ?_ | refine p_notV ?_ | refine p_ifM ?_ | refine p_tup ?_ | refine p_lst ?_ | refine p_call ?_ | refine p_callK ?_ | refine ⟨⟨⟨rfl, rfl⟩, rfl, rfl⟩, ⟨rfl, rfl⟩, ?_⟩ | refine p_setB ?_ | refine p_sl ?_ | refine p_osome ?_ | refine p_onone ?_ | refine p_snil ?_ | refine p_sexpr ?_ | refine p_retN ?_ | refine p_par ?_ | refine p_sh ?_ | refine p_brt rfl ?_ | refine p_brf rfl ?_ | refine ⟨_, rfl, ?_⟩ | refine ⟨⟨rfl, rfl⟩, ?_⟩ | refine ⟨⟨rfl, Nat.le_of_ble_eq_true rfl⟩, ?_⟩ | refine ⟨_, _, _, _, rfl, hn, rfl, rfl, ?_⟩ | (refine ⟨_, _, rfl, ⟨rfl, rfl⟩, ?_⟩; try dsimp only [wipeE, List.set_cons_succ, List.set_cons_zero]) | (refine ⟨rfl, ?_⟩; try dsimp only [wipeE, List.set_cons_succ, List.set_cons_zero])))
  refine ⟨by decide, rfl, wAt p.d, fun v hv => ?_, ?_⟩
  · obtain ⟨j, hj, rfl⟩ := List.mem_map.mp hv
    have hj : j < 8 := List.mem_range.mp hj
    obtain rfl | rfl | rfl | rfl | rfl | rfl | rfl | rfl : j = 0 ∨ j = 1 ∨ j = 2 ∨ j = 3 ∨ j = 4 ∨ j = 5 ∨ j = 6 ∨ j = 7 := by omega
    all_goals
      refine ⟨_, rfl, ?_⟩
      (repeat (first | refine p_var rfl ?_ | refine p_c ?_ | refine p_bin ?_ | refine p_cons ?_ | refine p_nil ?_ | refine p_seq ?_ | refine p_asg ?_ | refine p_sif ?_ | refine p_ret ?_ | refine p_bM ?_ | refine p_tM ?_ | refine p_cb ?_ | refine p_andM ?_ | refine p_orM ?_ | refine p_notM ?_ | refine p_chain ?_ | refine p_andV ?_ | refine p_orV ?_ | refine p_notV ?_ | refine p_ifM ?_ | refine p_tup ?_ | refine p_lst ?_ | refine p_call ?_ | refine p_callK ?_ | refine ⟨⟨⟨rfl, rfl⟩, rfl, rfl⟩, ⟨rfl, rfl⟩, ?_⟩ | refine p_setB ?_ | refine p_sl ?_ | refine p_osome ?_ | refine p_onone ?_ | refine p_snil ?_ | refine p_sexpr ?_ | refine p_retN ?_ | refine p_par ?_ | refine p_sh ?_ | refine p_brt rfl ?_ | refine p_brf rfl ?_ | refine ⟨_, rfl, ?_⟩ | refine ⟨⟨rfl, rfl⟩, ?_⟩ | refine ⟨⟨rfl, Nat.le_of_ble_eq_true rfl⟩, ?_⟩ | refine ⟨_, _, _, _, rfl, hn, rfl, rfl, ?_⟩ | (refine ⟨_, _, rfl, ⟨rfl, rfl⟩, ?_⟩; try dsimp only [wipeE, List.set_cons_succ, List.set_cons_zero]) | (refine ⟨rfl, ?_⟩; try dsimp only [wipeE, List.set_cons_succ, List.set_cons_zero]) | refine p_meA ?_))
      refine p_spec (drop_spec k _ _ _) fun v h' w => ?_
      obtain ⟨rfl, rfl⟩ := w
      exact ⟨rfl, rfl, rfl, rfl⟩
  (repeat (first | refine p_var rfl ?_ | refine p_c ?_ | refine p_bin ?_ | refine p_cons ?_ | refine p_nil ?_ | refine p_seq ?_ | refine p_asg ?_ | refine p_sif ?_ | refine p_ret ?_ | refine p_bM ?_ | refine p_tM ?_ | refine p_cb ?_ | refine p_andM ?_ | refine p_orM ?_ | refine p_notM ?_ | refine p_chain ?_ | refine p_andV ?_ | refine p_orV ?_ | refine p_notV ?_ | refine p_ifM ?_ | refine p_tup ?_ | refine p_lst ?_ | refine p_call ?_ | refine p_callK ?_ | refine ⟨⟨⟨rfl, rfl⟩, rfl, rfl⟩, ⟨rfl, rfl⟩, ?_⟩ | refine p_setB ?_ | refine p_sl ?_ | refine p_osome ?_ | refine p_onone ?_ | refine p_snil ?_ | refine p_sexpr ?_ | refine p_retN ?_ | refine p_par ?_ | refine p_sh ?_ | refine p_brt rfl ?_ | refine p_brf rfl ?_ | refine ⟨_, rfl, ?_⟩ | refine ⟨⟨rfl, rfl⟩, ?_⟩ | refine ⟨⟨rfl, Nat.le_of_ble_eq_true rfl⟩, ?_⟩ | refine ⟨_, _, _, _, rfl, hn, rfl, rfl, ?_⟩ | (refine ⟨_, _, rfl, ⟨rfl, rfl⟩, ?_⟩; try dsimp only [wipeE, List.set_cons_succ, List.set_cons_zero]) | (refine ⟨rfl, ?_⟩; try dsimp only [wipeE, List.set_cons_succ, List.set_cons_zero])))
  refine p_compMap (p_rng1 ?_)
  (repeat (first | refine p_var rfl ?_ | refine p_c ?_ | refine p_bin ?_ | refine p_cons ?_ | refine p_nil ?_ | refine p_seq ?_ | refine p_asg ?_ | refine p_sif ?_ | refine p_ret ?_ | refine p_bM ?_ | refine p_tM ?_ | refine p_cb ?_ | refine p_andM ?_ | refine p_orM ?_ | refine p_notM ?_ | refine p_chain ?_ | refine p_andV ?_ | refine p_orV ?_ | refine p_notV ?_ | refine p_ifM ?_ | refine p_tup ?_ | refine p_lst ?_ | refine p_call ?_ | refine p_callK ?_ | refine ⟨⟨⟨rfl, rfl⟩, rfl, rfl⟩, ⟨rfl, rfl⟩, ?_⟩ | refine p_setB ?_ | refine p_sl ?_ | refine p_osome ?_ | refine p_onone ?_ | refine p_snil ?_ | refine p_sexpr ?_ | refine p_retN ?_ | refine p_par ?_ | refine p_sh ?_ | refine p_brt rfl ?_ | refine p_brf rfl ?_ | refine ⟨_, rfl, ?_⟩ | refine ⟨⟨rfl, rfl⟩, ?_⟩ | refine ⟨⟨rfl, Nat.le_of_ble_eq_true rfl⟩, ?_⟩ | refine ⟨_, _, _, _, rfl, hn, rfl, rfl, ?_⟩ | (refine ⟨_, _, rfl, ⟨rfl, rfl⟩, ?_⟩; try dsimp only [wipeE, List.set_cons_succ, List.set_cons_zero]) | (refine ⟨rfl, ?_⟩; try dsimp only [wipeE, List.set_cons_succ, List.set_cons_zero])))
  refine ⟨by decide, rfl, wAt p.n, fun v hv => ?_, ?_⟩
  · obtain ⟨j, hj, rfl⟩ := List.mem_map.mp hv
    have hj : j < 4 := List.mem_range.mp hj
    obtain rfl | rfl | rfl | rfl : j = 0 ∨ j = 1 ∨ j = 2 ∨ j = 3 := by omega
    all_goals
      refine ⟨_, rfl, ?_⟩
      (repeat (first | refine p_var rfl ?_ | refine p_c ?_ | refine p_bin ?_ | refine p_cons ?_ | refine p_nil ?_ | refine p_seq ?_ | refine p_asg ?_ | refine p_sif ?_ | refine p_ret ?_ | refine p_bM ?_ | refine p_tM ?_ | refine p_cb ?_ | refine p_andM ?_ | refine p_orM ?_ | refine p_notM ?_ | refine p_chain ?_ | refine p_andV ?_ | refine p_orV ?_ | refine p_notV ?_ | refine p_ifM ?_ | refine p_tup ?_ | refine p_lst ?_ | refine p_call ?_ | refine p_callK ?_ | refine ⟨⟨⟨rfl, rfl⟩, rfl, rfl⟩, ⟨rfl, rfl⟩, ?_⟩ | refine p_setB ?_ | refine p_sl ?_ | refine p_osome ?_ | refine p_onone ?_ | refine p_snil ?_ | refine p_sexpr ?_ | refine p_retN ?_ | refine p_par ?_ | refine p_sh ?_ | refine p_brt rfl ?_ | refine p_brf rfl ?_ | refine ⟨_, rfl, ?_⟩ | refine ⟨⟨rfl, rfl⟩, ?_⟩ | refine ⟨⟨rfl, Nat.le_of_ble_eq_true rfl⟩, ?_⟩ | refine ⟨_, _, _, _, rfl, hn, rfl, rfl, ?_⟩ | (refine ⟨_, _, rfl, ⟨rfl, rfl⟩, ?_⟩; try dsimp only [wipeE, List.set_cons_succ, List.set_cons_zero]) | (refine ⟨rfl, ?_⟩; try dsimp only [wipeE, List.set_cons_succ, List.set_cons_zero]) | refine p_meA ?_))
      refine p_spec (number_spec k _ _) fun v h' w => ?_
      obtain ⟨rfl, rfl⟩ := w
      exact ⟨rfl, rfl, rfl, rfl⟩
  have at_eq : ∀ {cs : List Nat} {n : Nat}, cs.length = n → ((List.range n).map fun (k : Nat) => PV.int k).map (wAt cs) = cs.map fun c => .str (wordC c) := fun {cs n} hl => by
    conv => rhs; rw [tab_range hl]
    rw [List.map_map, List.map_map]
    rfl
  have eL : ∀ h, fAdd h (.lst (((List.range (Int.toNat 8)).map fun (k : Nat) => PV.int k).map (wAt p.d))) (.lst (((List.range (Int.toNat 4)).map fun (k : Nat) => PV.int k).map (wAt p.n))) = some (.lst ((p.d ++ p.n).map fun c => .str (wordC c))) := fun h => by
    rw [show Int.toNat 8 = 8 from rfl, show Int.toNat 4 = 4 from rfl, at_eq k.d.1, at_eq k.n.1, fAdd_lst (by
      have := (show 100 ≤ sizeLine by decide)
      rw [List.length_map, List.length_map, k.d.1, k.n.1]; omega), List.map_append]
  have eS : ∀ h, fAdd h (.str (mkS p.d)) (.str (mkS p.n)) = some (.str (mkS (p.d ++ p.n))) := fun h => fAdd_mk (by
    have := (show 100 ≤ sizeLine by decide)
    rw [k.d.1, k.n.1]; omega)
  (repeat (first | refine ⟨_, eL _, ?_⟩ | refine ⟨_, eS _, ?_⟩ | refine p_var rfl ?_ | refine p_c ?_ | refine p_bin ?_ | refine p_cons ?_ | refine p_nil ?_ | refine p_seq ?_ | refine p_asg ?_ | refine p_sif ?_ | refine p_ret ?_ | refine p_bM ?_ | refine p_tM ?_ | refine p_cb ?_ | refine p_andM ?_ | refine p_orM ?_ | refine p_notM ?_ | refine p_chain ?_ | refine p_andV ?_ | refine p_orV ?_ | refine p_notV ?_ | refine p_ifM ?_ | refine p_tup ?_ | refine p_lst ?_ | refine p_call ?_ | refine p_callK ?_ | refine ⟨⟨⟨rfl, rfl⟩, rfl, rfl⟩, ⟨rfl, rfl⟩, ?_⟩ | refine p_setB ?_ | refine p_sl ?_ | refine p_osome ?_ | refine p_onone ?_ | refine p_snil ?_ | refine p_sexpr ?_ | refine p_retN ?_ | refine p_par ?_ | refine p_sh ?_ | refine p_brt rfl ?_ | refine p_brf rfl ?_ | refine ⟨_, rfl, ?_⟩ | refine ⟨⟨rfl, rfl⟩, ?_⟩ | refine ⟨⟨rfl, Nat.le_of_ble_eq_true rfl⟩, ?_⟩ | refine ⟨_, _, _, _, rfl, hn, rfl, rfl, ?_⟩ | (refine ⟨_, _, rfl, ⟨rfl, rfl⟩, ?_⟩; try dsimp only [wipeE, List.set_cons_succ, List.set_cons_zero]) | (refine ⟨rfl, ?_⟩; try dsimp only [wipeE, List.set_cons_succ, List.set_cons_zero])))
  refine p_compMap (p_any ?_)
  (repeat (first | refine ⟨_, eS _, ?_⟩ | refine p_var rfl ?_ | refine p_c ?_ | refine p_bin ?_ | refine p_cons ?_ | refine p_nil ?_ | refine p_seq ?_ | refine p_asg ?_ | refine p_sif ?_ | refine p_ret ?_ | refine p_bM ?_ | refine p_tM ?_ | refine p_cb ?_ | refine p_andM ?_ | refine p_orM ?_ | refine p_notM ?_ | refine p_chain ?_ | refine p_andV ?_ | refine p_orV ?_ | refine p_notV ?_ | refine p_ifM ?_ | refine p_tup ?_ | refine p_lst ?_ | refine p_call ?_ | refine p_callK ?_ | refine ⟨⟨⟨rfl, rfl⟩, rfl, rfl⟩, ⟨rfl, rfl⟩, ?_⟩ | refine p_setB ?_ | refine p_sl ?_ | refine p_osome ?_ | refine p_onone ?_ | refine p_snil ?_ | refine p_sexpr ?_ | refine p_retN ?_ | refine p_par ?_ | refine p_sh ?_ | refine p_brt rfl ?_ | refine p_brf rfl ?_ | refine ⟨_, rfl, ?_⟩ | refine ⟨⟨rfl, rfl⟩, ?_⟩ | refine ⟨⟨rfl, Nat.le_of_ble_eq_true rfl⟩, ?_⟩ | refine ⟨_, _, _, _, rfl, hn, rfl, rfl, ?_⟩ | (refine ⟨_, _, rfl, ⟨rfl, rfl⟩, ?_⟩; try dsimp only [wipeE, List.set_cons_succ, List.set_cons_zero]) | (refine ⟨rfl, ?_⟩; try dsimp only [wipeE, List.set_cons_succ, List.set_cons_zero])))
  refine ⟨wOf, fun v hv => ?_, ?_⟩
  · obtain ⟨c, hc, rfl⟩ := List.mem_map.mp hv
    have tc : TrC c := by
      rcases List.mem_append.mp (show c ∈ p.d ++ p.n from hc) with hc | hc
      · exact k.d.2.2 c hc
      · exact k.n.2.2 c hc
    refine ⟨_, rfl, ?_⟩
    (repeat (first | refine p_var rfl ?_ | refine p_c ?_ | refine p_bin ?_ | refine p_cons ?_ | refine p_nil ?_ | refine p_seq ?_ | refine p_asg ?_ | refine p_sif ?_ | refine p_ret ?_ | refine p_bM ?_ | refine p_tM ?_ | refine p_cb ?_ | refine p_andM ?_ | refine p_orM ?_ | refine p_notM ?_ | refine p_chain ?_ | refine p_andV ?_ | refine p_orV ?_ | refine p_notV ?_ | refine p_ifM ?_ | refine p_tup ?_ | refine p_lst ?_ | refine p_call ?_ | refine p_callK ?_ | refine ⟨⟨⟨rfl, rfl⟩, rfl, rfl⟩, ⟨rfl, rfl⟩, ?_⟩ | refine p_setB ?_ | refine p_sl ?_ | refine p_osome ?_ | refine p_onone ?_ | refine p_snil ?_ | refine p_sexpr ?_ | refine p_retN ?_ | refine p_par ?_ | refine p_sh ?_ | refine p_brt rfl ?_ | refine p_brf rfl ?_ | refine ⟨_, rfl, ?_⟩ | refine ⟨⟨rfl, rfl⟩, ?_⟩ | refine ⟨⟨rfl, Nat.le_of_ble_eq_true rfl⟩, ?_⟩ | refine ⟨_, _, _, _, rfl, hn, rfl, rfl, ?_⟩ | (refine ⟨_, _, rfl, ⟨rfl, rfl⟩, ?_⟩; try dsimp only [wipeE, List.set_cons_succ, List.set_cons_zero]) | (refine ⟨rfl, ?_⟩; try dsimp only [wipeE, List.set_cons_succ, List.set_cons_zero])))
    refine p_spec (word_spec tc) fun v h' w => ?_
    obtain ⟨rfl, rfl⟩ := w
    exact ⟨rfl, rfl, rfl, rfl⟩
  have eW : ((mkS (p.d ++ p.n)).cps.toList.map fun c => PV.str ⟨#[c]⟩).map wOf = (p.d ++ p.n).map fun c => .str (wordC c) := by
    rw [mkS_cps, List.map_map]; rfl
  rw [eW]
  (repeat (first | refine p_var rfl ?_ | refine p_c ?_ | refine p_bin ?_ | refine p_cons ?_ | refine p_nil ?_ | refine p_seq ?_ | refine p_asg ?_ | refine p_sif ?_ | refine p_ret ?_ | refine p_bM ?_ | refine p_tM ?_ | refine p_cb ?_ | refine p_andM ?_ | refine p_orM ?_ | refine p_notM ?_ | refine p_chain ?_ | refine p_andV ?_ | refine p_orV ?_ | refine p_notV ?_ | refine p_ifM ?_ | refine p_tup ?_ | refine p_lst ?_ | refine p_call ?_ | refine p_callK ?_ | refine ⟨⟨⟨rfl, rfl⟩, rfl, rfl⟩, ⟨rfl, rfl⟩, ?_⟩ | refine p_setB ?_ | refine p_sl ?_ | refine p_osome ?_ | refine p_onone ?_ | refine p_snil ?_ | refine p_sexpr ?_ | refine p_retN ?_ | refine p_par ?_ | refine p_sh ?_ | refine p_brt rfl ?_ | refine p_brf rfl ?_ | refine ⟨_, rfl, ?_⟩ | refine ⟨⟨rfl, rfl⟩, ?_⟩ | refine ⟨⟨rfl, Nat.le_of_ble_eq_true rfl⟩, ?_⟩ | refine ⟨_, _, _, _, rfl, hn, rfl, rfl, ?_⟩ | (refine ⟨_, _, rfl, ⟨rfl, rfl⟩, ?_⟩; try dsimp only [wipeE, List.set_cons_succ, List.set_cons_zero]) | (refine ⟨rfl, ?_⟩; try dsimp only [wipeE, List.set_cons_succ, List.set_cons_zero])))
  refine p_spec (like_eqv (n := 7) (b := .lst ((p.d ++ p.n).map fun c => .str (wordC c))) rfl ?_) fun v h' w => ?_
  · intro x hx
    obtain ⟨c, _, rfl⟩ := List.mem_map.mp hx
    trivial
  obtain ⟨rfl, rfl⟩ := w
  (repeat (first | refine p_var rfl ?_ | refine p_c ?_ | refine p_bin ?_ | refine p_cons ?_ | refine p_nil ?_ | refine p_seq ?_ | refine p_asg ?_ | refine p_sif ?_ | refine p_ret ?_ | refine p_bM ?_ | refine p_tM ?_ | refine p_cb ?_ | refine p_andM ?_ | refine p_orM ?_ | refine p_notM ?_ | refine p_chain ?_ | refine p_andV ?_ | refine p_orV ?_ | refine p_notV ?_ | refine p_ifM ?_ | refine p_tup ?_ | refine p_lst ?_ | refine p_call ?_ | refine p_callK ?_ | refine ⟨⟨⟨rfl, rfl⟩, rfl, rfl⟩, ⟨rfl, rfl⟩, ?_⟩ | refine p_setB ?_ | refine p_sl ?_ | refine p_osome ?_ | refine p_onone ?_ | refine p_snil ?_ | refine p_sexpr ?_ | refine p_retN ?_ | refine p_par ?_ | refine p_sh ?_ | refine p_brt rfl ?_ | refine p_brf rfl ?_ | refine ⟨_, rfl, ?_⟩ | refine ⟨⟨rfl, rfl⟩, ?_⟩ | refine ⟨⟨rfl, Nat.le_of_ble_eq_true rfl⟩, ?_⟩ | refine ⟨_, _, _, _, rfl, hn, rfl, rfl, ?_⟩ | (refine ⟨_, _, rfl, ⟨rfl, rfl⟩, ?_⟩; try dsimp only [wipeE, List.set_cons_succ, List.set_cons_zero]) | (refine ⟨rfl, ?_⟩; try dsimp only [wipeE, List.set_cons_succ, List.set_cons_zero])))
end
end LW

set_option Elab.async false
set_option linter.all false
set_option maxRecDepth 100000
set_option maxHeartbeats 4000000
namespace LW
open PySem PySem.Spec PyProof.Rows L2 Lp
section
def nearS (p o : SpecW) : Nat → SpecW
  | 0 => bw p (some o.d) none none none none
  | 1 => bw p none (some o.n) none none none
  | 2 => bw p none none (some o.s) none none
  | 3 => bw p none none none (some o.h) none
  | _ => bw p none none none none (some o.l)
theorem near_ok {p o : SpecW} (kp : p.Ok) (ko : o.Ok) (i : Nat) : (nearS p o i).Ok := by
  match i with
  | 0 => exact ⟨ko.d, kp.n, kp.l⟩
  | 1 => exact ⟨kp.d, ko.n, kp.l⟩
  | 2 => exact ⟨kp.d, kp.n, kp.l⟩
  | 3 => exact ⟨kp.d, kp.n, kp.l⟩
  | _ + 4 => exact ⟨kp.d, kp.n, ko.l⟩
theorem p_near {P : PV → S → Prop} {E : PV → S → Prop} {s : S} {p o : SpecW} {i : Nat} (h3 : s.e[3]? = some (some p.v)) (h4 : s.e[4]? = some (some o.v)) (h9 : s.e[9]? = some (some (.int i))) (hi : i < 5) (h : P (nearS p o i).v s) :
    (xEBin fAdd (xEBin fAdd (xESl (xEVar 3) xONone (xOSome (xEVar 9))) (xETup (xACons (xEBin fIx (xEVar 4) (xEVar 9)) xANil))) (xESl (xEVar 3) (xOSome (xEBin fAdd (xEVar 9) (xEC (.int 1)))) xONone) s).post P E := by
  obtain rfl | rfl | rfl | rfl | rfl : i = 0 ∨ i = 1 ∨ i = 2 ∨ i = 3 ∨ i = 4 := by omega
  all_goals exact p_bin (p_bin (p_sl (p_var h3 (p_onone (p_osome (p_var h9 ⟨_, rfl, _, rfl, p_tup (p_cons (p_bin (p_var h4 (p_var h9 ⟨_, rfl, p_nil ⟨⟨rfl, Nat.le_of_ble_eq_true rfl⟩, _, rfl, p_sl (p_var h3 (p_osome (p_bin (p_var h9 (p_c ⟨_, rfl, _, rfl, p_onone ⟨_, rfl, _, rfl, h⟩⟩)))))⟩⟩))))⟩))))))
def partsV (p o : SpecW) : List PV := [wayV (nearS p o 0), wayV (nearS p o 1), wayV (nearS p o 2), wayV (nearS p o 3), wayV (nearS p o 4)]
theorem parts_at {p o : SpecW} {i : Nat} {h : AH} (hi : i < 5) : fIx h (.lst (partsV p o)) (.int i) = some (wayV (nearS p o i)) := by
  obtain rfl | rfl | rfl | rfl | rfl : i = 0 ∨ i = 1 ∨ i = 2 ∨ i = 3 ∨ i = 4 := by omega
  all_goals rfl
theorem spec_eqv {p q : SpecW} (kp : p.Ok) (kq : q.Ok) : PyData.eqv (.tuple [.str (mkS q.d), .str (mkS q.n), .bool q.s, .bool q.h, .str q.l]) (.tuple [.str (mkS p.d), .str (mkS p.n), .bool p.s, .bool p.h, .str p.l]) = decide (txt p = txt q) := by
  have c : ∀ x y : List Nat, decide (mkS x = mkS y) = decide (y = x) := fun x y => by
    by_cases h : x = y
    · subst h; simp
    · have : ¬ mkS x = mkS y := fun e => h (mkS_inj e)
      have h2 : ¬ y = x := fun e => h e.symm
      simp [this, h2]
  have cb : ∀ x y : Bool, decide (x = y) = decide (y = x) := fun x y => by cases x <;> cases y <;> rfl
  have cs : ∀ x y : Str, decide (x = y) = decide (y = x) := fun x y => by
    by_cases h : x = y
    · subst h; rfl
    · have h2 : ¬ y = x := fun e => h e.symm
      rw [decide_eq_false h, decide_eq_false h2]
  rw [dec_txt kp kq]
  show (PyData.eqv (.str (mkS q.d)) (.str (mkS p.d)) && (PyData.eqv (.str (mkS q.n)) (.str (mkS p.n)) && (PyData.eqv (.bool q.s) (.bool p.s) && (PyData.eqv (.bool q.h) (.bool p.h) && (PyData.eqv (.str q.l) (.str p.l) && true))))) = _
  rw [eqv_str, eqv_str, eqv_str, eqv_bool, eqv_bool, c, c, cb q.s, cb q.h, cs q.l, Bool.and_true]
theorem fAdd_str {h : AH} {a b : Str} (z : a.length + b.length ≤ sizeLine) : fAdd h (.str a) (.str b) = some (.str (a ++ b)) := by
  show (if a.length + b.length ≤ sizeLine then some (PV.str (a ++ b)) else none) = _
  rw [if_pos z]
def InvL (ns : List Int) (s : S) : Prop := (∃ ys : List (Option PV), ys.length = 13 ∧ s.e = some (.scr (ns.map .int)) :: some (.cel 0) :: ys) ∧ BagAt [none] 0 s.h
theorem exp13 (ys : List (Option PV)) (h : ys.length = 13) : ∃ a b c d e f g i j k l m n, ys = [a, b, c, d, e, f, g, i, j, k, l, m, n] :=
  match ys, h with
  | [a, b, c, d, e, f, g, i, j, k, l, m, n], _ => ⟨a, b, c, d, e, f, g, i, j, k, l, m, n, rfl⟩
theorem law_true (ns : List Int) (h63 : ns.length ≤ 63) (hb : ∀ z ∈ ns, Builtin.Int.intBits z ≤ 1048576) : ∃ h', m_law [.scr (ns.map .int)] [] = .ok (.bl true) h' := by
  suffices H : (m_law [.scr (ns.map .int)] []).post (fun v h' => v = .bl true) NE by
    obtain ⟨v, h', e, rfl⟩ := p_ex H
    exact ⟨h', e⟩
  unfold m_law
  rw [xe_law]
  unfold xb_law
  rw [draw_eq, like_eq]
  refine p_mkF (some (.scr (ns.map .int)) :: List.replicate 14 none) rfl ?_
  (repeat (first | refine p_var rfl ?_ | refine p_c ?_ | refine p_bin ?_ | refine p_cons ?_ | refine p_nil ?_ | refine p_seq ?_ | refine p_asg ?_ | refine p_sif ?_ | refine p_ret ?_ | refine p_bM ?_ | refine p_tM ?_ | refine p_cb ?_ | refine p_andM ?_ | refine p_orM ?_ | refine p_notM ?_ | refine p_chain ?_ | refine p_andV ?_ | refine p_orV ?_ | refine p_notV ?_ | refine p_ifM ?_ | refine p_tup ?_ | refine p_lst ?_ | refine p_call ?_ | refine p_callK ?_ | refine ⟨⟨⟨rfl, rfl⟩, rfl, rfl⟩, ⟨rfl, rfl⟩, ?_⟩ | refine p_setB ?_ | refine p_sl ?_ | refine p_osome ?_ | refine p_onone ?_ | refine p_snil ?_ | refine p_sexpr ?_ | refine p_retN ?_ | refine p_par ?_ | refine p_sh ?_ | refine p_brt rfl ?_ | refine p_brf rfl ?_ | refine ⟨_, rfl, ?_⟩ | refine ⟨⟨rfl, rfl⟩, ?_⟩ | refine ⟨⟨rfl, Nat.le_of_ble_eq_true rfl⟩, ?_⟩ | refine ⟨_, _, _, _, rfl, hn, rfl, rfl, ?_⟩ | (refine ⟨_, _, rfl, ⟨rfl, rfl⟩, ?_⟩; try dsimp only [wipeE, List.set_cons_succ, List.set_cons_zero]) | (refine ⟨rfl, ?_⟩; try dsimp only [wipeE, List.set_cons_succ, List.set_cons_zero])))
  refine p_spec (open_spec h63) fun v h' z => ?_
  obtain ⟨rfl, b⟩ := z
  (repeat (first | refine p_var rfl ?_ | refine p_c ?_ | refine p_bin ?_ | refine p_cons ?_ | refine p_nil ?_ | refine p_seq ?_ | refine p_asg ?_ | refine p_sif ?_ | refine p_ret ?_ | refine p_bM ?_ | refine p_tM ?_ | refine p_cb ?_ | refine p_andM ?_ | refine p_orM ?_ | refine p_notM ?_ | refine p_chain ?_ | refine p_andV ?_ | refine p_orV ?_ | refine p_notV ?_ | refine p_ifM ?_ | refine p_tup ?_ | refine p_lst ?_ | refine p_call ?_ | refine p_callK ?_ | refine ⟨⟨⟨rfl, rfl⟩, rfl, rfl⟩, ⟨rfl, rfl⟩, ?_⟩ | refine p_setB ?_ | refine p_sl ?_ | refine p_osome ?_ | refine p_onone ?_ | refine p_snil ?_ | refine p_sexpr ?_ | refine p_retN ?_ | refine p_par ?_ | refine p_sh ?_ | refine p_brt rfl ?_ | refine p_brf rfl ?_ | refine ⟨_, rfl, ?_⟩ | refine ⟨⟨rfl, rfl⟩, ?_⟩ | refine ⟨⟨rfl, Nat.le_of_ble_eq_true rfl⟩, ?_⟩ | refine ⟨_, _, _, _, rfl, hn, rfl, rfl, ?_⟩ | (refine ⟨_, _, rfl, ⟨rfl, rfl⟩, ?_⟩; try dsimp only [wipeE, List.set_cons_succ, List.set_cons_zero]) | (refine ⟨rfl, ?_⟩; try dsimp only [wipeE, List.set_cons_succ, List.set_cons_zero])))
  refine p_for (p_rng1 ?_)
  (repeat (first | refine p_var rfl ?_ | refine p_c ?_ | refine p_bin ?_ | refine p_cons ?_ | refine p_nil ?_ | refine p_seq ?_ | refine p_asg ?_ | refine p_sif ?_ | refine p_ret ?_ | refine p_bM ?_ | refine p_tM ?_ | refine p_cb ?_ | refine p_andM ?_ | refine p_orM ?_ | refine p_notM ?_ | refine p_chain ?_ | refine p_andV ?_ | refine p_orV ?_ | refine p_notV ?_ | refine p_ifM ?_ | refine p_tup ?_ | refine p_lst ?_ | refine p_call ?_ | refine p_callK ?_ | refine ⟨⟨⟨rfl, rfl⟩, rfl, rfl⟩, ⟨rfl, rfl⟩, ?_⟩ | refine p_setB ?_ | refine p_sl ?_ | refine p_osome ?_ | refine p_onone ?_ | refine p_snil ?_ | refine p_sexpr ?_ | refine p_retN ?_ | refine p_par ?_ | refine p_sh ?_ | refine p_brt rfl ?_ | refine p_brf rfl ?_ | refine ⟨_, rfl, ?_⟩ | refine ⟨⟨rfl, rfl⟩, ?_⟩ | refine ⟨⟨rfl, Nat.le_of_ble_eq_true rfl⟩, ?_⟩ | refine ⟨_, _, _, _, rfl, hn, rfl, rfl, ?_⟩ | (refine ⟨_, _, rfl, ⟨rfl, rfl⟩, ?_⟩; try dsimp only [wipeE, List.set_cons_succ, List.set_cons_zero]) | (refine ⟨rfl, ?_⟩; try dsimp only [wipeE, List.set_cons_succ, List.set_cons_zero])))
  refine ⟨by decide, rfl, rfl, by decide, p_loop (fun _ s => InvL ns s) ?_ (fun j v s e i => ?_) fun s i => ?_⟩
  · exact ⟨⟨_, by decide, rfl⟩, b⟩
  · obtain ⟨turn, _, rfl⟩ := List.mem_map.mp (List.mem_of_getElem? e)
    obtain ⟨⟨ys, hl, he⟩, bg⟩ := i
    obtain ⟨y2, y3, y4, y5, y6, y7, y8, y9, y10, y11, y12, y13, y14, rfl⟩ := exp13 ys hl
    obtain ⟨e0, h0⟩ := s
    simp only at he bg
    subst he
    refine ⟨_, rfl, ?_⟩
    dsimp only [List.set_cons_succ, List.set_cons_zero]
    (repeat (first | refine p_var rfl ?_ | refine p_c ?_ | refine p_bin ?_ | refine p_cons ?_ | refine p_nil ?_ | refine p_seq ?_ | refine p_asg ?_ | refine p_sif ?_ | refine p_ret ?_ | refine p_bM ?_ | refine p_tM ?_ | refine p_cb ?_ | refine p_andM ?_ | refine p_orM ?_ | refine p_notM ?_ | refine p_chain ?_ | refine p_andV ?_ | refine p_orV ?_ | refine p_notV ?_ | refine p_ifM ?_ | refine p_tup ?_ | refine p_lst ?_ | refine p_call ?_ | refine p_callK ?_ | refine ⟨⟨⟨rfl, rfl⟩, rfl, rfl⟩, ⟨rfl, rfl⟩, ?_⟩ | refine p_setB ?_ | refine p_sl ?_ | refine p_osome ?_ | refine p_onone ?_ | refine p_snil ?_ | refine p_sexpr ?_ | refine p_retN ?_ | refine p_par ?_ | refine p_sh ?_ | refine p_brt rfl ?_ | refine p_brf rfl ?_ | refine ⟨_, rfl, ?_⟩ | refine ⟨⟨rfl, rfl⟩, ?_⟩ | refine ⟨⟨rfl, Nat.le_of_ble_eq_true rfl⟩, ?_⟩ | refine ⟨_, _, _, _, rfl, hn, rfl, rfl, ?_⟩ | (refine ⟨_, _, rfl, ⟨rfl, rfl⟩, ?_⟩; try dsimp only [wipeE, List.set_cons_succ, List.set_cons_zero]) | (refine ⟨rfl, ?_⟩; try dsimp only [wipeE, List.set_cons_succ, List.set_cons_zero])))
    refine p_spec (some_spec (by decide) bg) fun v h' z => ?_
    obtain ⟨⟨p, kp, rfl⟩, bg⟩ := z
    (repeat (first | refine p_var rfl ?_ | refine p_c ?_ | refine p_bin ?_ | refine p_cons ?_ | refine p_nil ?_ | refine p_seq ?_ | refine p_asg ?_ | refine p_sif ?_ | refine p_ret ?_ | refine p_bM ?_ | refine p_tM ?_ | refine p_cb ?_ | refine p_andM ?_ | refine p_orM ?_ | refine p_notM ?_ | refine p_chain ?_ | refine p_andV ?_ | refine p_orV ?_ | refine p_notV ?_ | refine p_ifM ?_ | refine p_tup ?_ | refine p_lst ?_ | refine p_call ?_ | refine p_callK ?_ | refine ⟨⟨⟨rfl, rfl⟩, rfl, rfl⟩, ⟨rfl, rfl⟩, ?_⟩ | refine p_setB ?_ | refine p_sl ?_ | refine p_osome ?_ | refine p_onone ?_ | refine p_snil ?_ | refine p_sexpr ?_ | refine p_retN ?_ | refine p_par ?_ | refine p_sh ?_ | refine p_brt rfl ?_ | refine p_brf rfl ?_ | refine ⟨_, rfl, ?_⟩ | refine ⟨⟨rfl, rfl⟩, ?_⟩ | refine ⟨⟨rfl, Nat.le_of_ble_eq_true rfl⟩, ?_⟩ | refine ⟨_, _, _, _, rfl, hn, rfl, rfl, ?_⟩ | (refine ⟨_, _, rfl, ⟨rfl, rfl⟩, ?_⟩; try dsimp only [wipeE, List.set_cons_succ, List.set_cons_zero]) | (refine ⟨rfl, ?_⟩; try dsimp only [wipeE, List.set_cons_succ, List.set_cons_zero])))
    refine p_spec (some_spec (by decide) bg) fun v h' z => ?_
    obtain ⟨⟨o, ko, rfl⟩, bg⟩ := z
    (repeat (first | refine p_var rfl ?_ | refine p_c ?_ | refine p_bin ?_ | refine p_cons ?_ | refine p_nil ?_ | refine p_seq ?_ | refine p_asg ?_ | refine p_sif ?_ | refine p_ret ?_ | refine p_bM ?_ | refine p_tM ?_ | refine p_cb ?_ | refine p_andM ?_ | refine p_orM ?_ | refine p_notM ?_ | refine p_chain ?_ | refine p_andV ?_ | refine p_orV ?_ | refine p_notV ?_ | refine p_ifM ?_ | refine p_tup ?_ | refine p_lst ?_ | refine p_call ?_ | refine p_callK ?_ | refine ⟨⟨⟨rfl, rfl⟩, rfl, rfl⟩, ⟨rfl, rfl⟩, ?_⟩ | refine p_setB ?_ | refine p_sl ?_ | refine p_osome ?_ | refine p_onone ?_ | refine p_snil ?_ | refine p_sexpr ?_ | refine p_retN ?_ | refine p_par ?_ | refine p_sh ?_ | refine p_brt rfl ?_ | refine p_brf rfl ?_ | refine ⟨_, rfl, ?_⟩ | refine ⟨⟨rfl, rfl⟩, ?_⟩ | refine ⟨⟨rfl, Nat.le_of_ble_eq_true rfl⟩, ?_⟩ | refine ⟨_, _, _, _, rfl, hn, rfl, rfl, ?_⟩ | (refine ⟨_, _, rfl, ⟨rfl, rfl⟩, ?_⟩; try dsimp only [wipeE, List.set_cons_succ, List.set_cons_zero]) | (refine ⟨rfl, ?_⟩; try dsimp only [wipeE, List.set_cons_succ, List.set_cons_zero])))
    refine p_spec (way_spec kp) fun v h'' z => ?_
    obtain ⟨rfl, rfl⟩ := z
    (repeat (first | refine p_var rfl ?_ | refine p_c ?_ | refine p_bin ?_ | refine p_cons ?_ | refine p_nil ?_ | refine p_seq ?_ | refine p_asg ?_ | refine p_sif ?_ | refine p_ret ?_ | refine p_bM ?_ | refine p_tM ?_ | refine p_cb ?_ | refine p_andM ?_ | refine p_orM ?_ | refine p_notM ?_ | refine p_chain ?_ | refine p_andV ?_ | refine p_orV ?_ | refine p_notV ?_ | refine p_ifM ?_ | refine p_tup ?_ | refine p_lst ?_ | refine p_call ?_ | refine p_callK ?_ | refine ⟨⟨⟨rfl, rfl⟩, rfl, rfl⟩, ⟨rfl, rfl⟩, ?_⟩ | refine p_setB ?_ | refine p_sl ?_ | refine p_osome ?_ | refine p_onone ?_ | refine p_snil ?_ | refine p_sexpr ?_ | refine p_retN ?_ | refine p_par ?_ | refine p_sh ?_ | refine p_brt rfl ?_ | refine p_brf rfl ?_ | refine ⟨_, rfl, ?_⟩ | refine ⟨⟨rfl, rfl⟩, ?_⟩ | refine ⟨⟨rfl, Nat.le_of_ble_eq_true rfl⟩, ?_⟩ | refine ⟨_, _, _, _, rfl, hn, rfl, rfl, ?_⟩ | (refine ⟨_, _, rfl, ⟨rfl, rfl⟩, ?_⟩; try dsimp only [wipeE, List.set_cons_succ, List.set_cons_zero]) | (refine ⟨rfl, ?_⟩; try dsimp only [wipeE, List.set_cons_succ, List.set_cons_zero])))
    refine p_spec (wtext_spec kp) fun v h'' z => ?_
    obtain ⟨rfl, rfl⟩ := z
    have tl := txt_len kp
    have hs := (show 10000 ≤ sizeLine by decide)
    have l2 : (("Way(" : Str)).length = 4 := by decide +kernel
    have l3 : ((")" : Str)).length = 1 := by decide +kernel
    have la : ∀ a b : Str, (a ++ b).length = a.length + b.length := fun a b => by
      rw [mkS_eta a, mkS_eta b, mkS_app, mkS_len, mkS_len, mkS_len, List.length_append]
    have a1 : ∀ h, fAdd h (.str "Way(") (.str (txt p)) = some (.str ("Way(" ++ txt p)) := fun h => fAdd_str (by rw [l2]; omega)
    have a2 : ∀ h, fAdd h (.str ("Way(" ++ txt p)) (.str ")") = some (.str (("Way(" ++ txt p) ++ ")")) := fun h => fAdd_str (by rw [la, l2, l3]; omega)
    (repeat (first | refine p_var rfl ?_ | refine p_c ?_ | refine p_bin ?_ | refine p_cons ?_ | refine p_nil ?_ | refine p_seq ?_ | refine p_asg ?_ | refine p_sif ?_ | refine p_ret ?_ | refine p_bM ?_ | refine p_tM ?_ | refine p_cb ?_ | refine p_andM ?_ | refine p_orM ?_ | refine p_notM ?_ | refine p_chain ?_ | refine p_andV ?_ | refine p_orV ?_ | refine p_notV ?_ | refine p_ifM ?_ | refine p_tup ?_ | refine p_lst ?_ | refine p_call ?_ | refine p_callK ?_ | refine ⟨⟨⟨rfl, rfl⟩, rfl, rfl⟩, ⟨rfl, rfl⟩, ?_⟩ | refine p_setB ?_ | refine p_sl ?_ | refine p_osome ?_ | refine p_onone ?_ | refine p_snil ?_ | refine p_sexpr ?_ | refine p_retN ?_ | refine p_par ?_ | refine p_sh ?_ | refine p_brt rfl ?_ | refine p_brf rfl ?_ | refine ⟨_, rfl, ?_⟩ | refine ⟨⟨rfl, rfl⟩, ?_⟩ | refine ⟨⟨rfl, Nat.le_of_ble_eq_true rfl⟩, ?_⟩ | refine ⟨_, _, _, _, rfl, hn, rfl, rfl, ?_⟩ | (refine ⟨_, _, rfl, ⟨rfl, rfl⟩, ?_⟩; try dsimp only [wipeE, List.set_cons_succ, List.set_cons_zero]) | (refine ⟨rfl, ?_⟩; try dsimp only [wipeE, List.set_cons_succ, List.set_cons_zero])))
    refine p_for (p_rng1 ?_)
    (repeat (first | refine p_var rfl ?_ | refine p_c ?_ | refine p_bin ?_ | refine p_cons ?_ | refine p_nil ?_ | refine p_seq ?_ | refine p_asg ?_ | refine p_sif ?_ | refine p_ret ?_ | refine p_bM ?_ | refine p_tM ?_ | refine p_cb ?_ | refine p_andM ?_ | refine p_orM ?_ | refine p_notM ?_ | refine p_chain ?_ | refine p_andV ?_ | refine p_orV ?_ | refine p_notV ?_ | refine p_ifM ?_ | refine p_tup ?_ | refine p_lst ?_ | refine p_call ?_ | refine p_callK ?_ | refine ⟨⟨⟨rfl, rfl⟩, rfl, rfl⟩, ⟨rfl, rfl⟩, ?_⟩ | refine p_setB ?_ | refine p_sl ?_ | refine p_osome ?_ | refine p_onone ?_ | refine p_snil ?_ | refine p_sexpr ?_ | refine p_retN ?_ | refine p_par ?_ | refine p_sh ?_ | refine p_brt rfl ?_ | refine p_brf rfl ?_ | refine ⟨_, rfl, ?_⟩ | refine ⟨⟨rfl, rfl⟩, ?_⟩ | refine ⟨⟨rfl, Nat.le_of_ble_eq_true rfl⟩, ?_⟩ | refine ⟨_, _, _, _, rfl, hn, rfl, rfl, ?_⟩ | (refine ⟨_, _, rfl, ⟨rfl, rfl⟩, ?_⟩; try dsimp only [wipeE, List.set_cons_succ, List.set_cons_zero]) | (refine ⟨rfl, ?_⟩; try dsimp only [wipeE, List.set_cons_succ, List.set_cons_zero])))
    refine ⟨by decide, rfl, rfl, by decide, p_loop (fun _ s => ∃ z7 z8, s = ⟨[some (.scr (ns.map .int)), some (.cel 0), some (.int turn), some p.v, some o.v, some (wayV p), some (.str (txt p)), z7, z8, y9, y10, y11, y12, y13, y14], h''⟩) ⟨_, _, rfl⟩ (fun j v s e i => ?_) fun s i => ?_⟩
    · obtain ⟨z7, z8, rfl⟩ := i
      obtain ⟨q, _, rfl⟩ := List.mem_map.mp (List.mem_of_getElem? e)
      refine ⟨_, rfl, ?_⟩
      dsimp only [List.set_cons_succ, List.set_cons_zero]
      (repeat (first | refine p_var rfl ?_ | refine p_c ?_ | refine p_bin ?_ | refine p_cons ?_ | refine p_nil ?_ | refine p_seq ?_ | refine p_asg ?_ | refine p_sif ?_ | refine p_ret ?_ | refine p_bM ?_ | refine p_tM ?_ | refine p_cb ?_ | refine p_andM ?_ | refine p_orM ?_ | refine p_notM ?_ | refine p_chain ?_ | refine p_andV ?_ | refine p_orV ?_ | refine p_notV ?_ | refine p_ifM ?_ | refine p_tup ?_ | refine p_lst ?_ | refine p_call ?_ | refine p_callK ?_ | refine ⟨⟨⟨rfl, rfl⟩, rfl, rfl⟩, ⟨rfl, rfl⟩, ?_⟩ | refine p_setB ?_ | refine p_sl ?_ | refine p_osome ?_ | refine p_onone ?_ | refine p_snil ?_ | refine p_sexpr ?_ | refine p_retN ?_ | refine p_par ?_ | refine p_sh ?_ | refine p_brt rfl ?_ | refine p_brf rfl ?_ | refine ⟨_, rfl, ?_⟩ | refine ⟨⟨rfl, rfl⟩, ?_⟩ | refine ⟨⟨rfl, Nat.le_of_ble_eq_true rfl⟩, ?_⟩ | refine ⟨_, _, _, _, rfl, hn, rfl, rfl, ?_⟩ | (refine ⟨_, _, rfl, ⟨rfl, rfl⟩, ?_⟩; try dsimp only [wipeE, List.set_cons_succ, List.set_cons_zero]) | (refine ⟨rfl, ?_⟩; try dsimp only [wipeE, List.set_cons_succ, List.set_cons_zero]) | refine p_fld ?_ | refine p_meA ?_))
      refine p_spec (text_spec kp) fun v h' w => ?_
      obtain ⟨rfl, rfl⟩ := w
      (repeat (first | refine p_var rfl ?_ | refine p_c ?_ | refine p_bin ?_ | refine p_cons ?_ | refine p_nil ?_ | refine p_seq ?_ | refine p_asg ?_ | refine p_sif ?_ | refine p_ret ?_ | refine p_bM ?_ | refine p_tM ?_ | refine p_cb ?_ | refine p_andM ?_ | refine p_orM ?_ | refine p_notM ?_ | refine p_chain ?_ | refine p_andV ?_ | refine p_orV ?_ | refine p_notV ?_ | refine p_ifM ?_ | refine p_tup ?_ | refine p_lst ?_ | refine p_call ?_ | refine p_callK ?_ | refine ⟨⟨⟨rfl, rfl⟩, rfl, rfl⟩, ⟨rfl, rfl⟩, ?_⟩ | refine p_setB ?_ | refine p_sl ?_ | refine p_osome ?_ | refine p_onone ?_ | refine p_snil ?_ | refine p_sexpr ?_ | refine p_retN ?_ | refine p_par ?_ | refine p_sh ?_ | refine p_brt rfl ?_ | refine p_brf rfl ?_ | refine ⟨_, rfl, ?_⟩ | refine ⟨⟨rfl, rfl⟩, ?_⟩ | refine ⟨⟨rfl, Nat.le_of_ble_eq_true rfl⟩, ?_⟩ | refine ⟨_, _, _, _, rfl, hn, rfl, rfl, ?_⟩ | (refine ⟨_, _, rfl, ⟨rfl, rfl⟩, ?_⟩; try dsimp only [wipeE, List.set_cons_succ, List.set_cons_zero]) | (refine ⟨rfl, ?_⟩; try dsimp only [wipeE, List.set_cons_succ, List.set_cons_zero]) | refine p_repr ?_))
      refine p_spec (repr_spec kp) fun v h' w => ?_
      obtain ⟨rfl, rfl⟩ := w
      (repeat (first | refine ⟨_, a1 _, ?_⟩ | refine ⟨_, a2 _, ?_⟩ | refine p_var rfl ?_ | refine p_c ?_ | refine p_bin ?_ | refine p_cons ?_ | refine p_nil ?_ | refine p_seq ?_ | refine p_asg ?_ | refine p_sif ?_ | refine p_ret ?_ | refine p_bM ?_ | refine p_tM ?_ | refine p_cb ?_ | refine p_andM ?_ | refine p_orM ?_ | refine p_notM ?_ | refine p_chain ?_ | refine p_andV ?_ | refine p_orV ?_ | refine p_notV ?_ | refine p_ifM ?_ | refine p_tup ?_ | refine p_lst ?_ | refine p_call ?_ | refine p_callK ?_ | refine ⟨⟨⟨rfl, rfl⟩, rfl, rfl⟩, ⟨rfl, rfl⟩, ?_⟩ | refine p_setB ?_ | refine p_sl ?_ | refine p_osome ?_ | refine p_onone ?_ | refine p_snil ?_ | refine p_sexpr ?_ | refine p_retN ?_ | refine p_par ?_ | refine p_sh ?_ | refine p_brt rfl ?_ | refine p_brf rfl ?_ | refine ⟨_, rfl, ?_⟩ | refine ⟨⟨rfl, rfl⟩, ?_⟩ | refine ⟨⟨rfl, Nat.le_of_ble_eq_true rfl⟩, ?_⟩ | refine ⟨_, _, _, _, rfl, hn, rfl, rfl, ?_⟩ | (refine ⟨_, _, rfl, ⟨rfl, rfl⟩, ?_⟩; try dsimp only [wipeE, List.set_cons_succ, List.set_cons_zero]) | (refine ⟨rfl, ?_⟩; try dsimp only [wipeE, List.set_cons_succ, List.set_cons_zero])))
      refine p_spec (like_eqv (n := 7) (b := .lst (p.fs ++ [.str (txt p), .str ("Way(" ++ txt p ++ ")")])) rfl (dpl_of rfl)) fun v h2 w => ?_
      obtain ⟨rfl, rfl⟩ := w
      (repeat (first | refine p_var rfl ?_ | refine p_c ?_ | refine p_bin ?_ | refine p_cons ?_ | refine p_nil ?_ | refine p_seq ?_ | refine p_asg ?_ | refine p_sif ?_ | refine p_ret ?_ | refine p_bM ?_ | refine p_tM ?_ | refine p_cb ?_ | refine p_andM ?_ | refine p_orM ?_ | refine p_notM ?_ | refine p_chain ?_ | refine p_andV ?_ | refine p_orV ?_ | refine p_notV ?_ | refine p_ifM ?_ | refine p_tup ?_ | refine p_lst ?_ | refine p_call ?_ | refine p_callK ?_ | refine ⟨⟨⟨rfl, rfl⟩, rfl, rfl⟩, ⟨rfl, rfl⟩, ?_⟩ | refine p_setB ?_ | refine p_sl ?_ | refine p_osome ?_ | refine p_onone ?_ | refine p_snil ?_ | refine p_sexpr ?_ | refine p_retN ?_ | refine p_par ?_ | refine p_sh ?_ | refine p_brt rfl ?_ | refine p_brf rfl ?_ | refine ⟨_, rfl, ?_⟩ | refine ⟨⟨rfl, rfl⟩, ?_⟩ | refine ⟨⟨rfl, Nat.le_of_ble_eq_true rfl⟩, ?_⟩ | refine ⟨_, _, _, _, rfl, hn, rfl, rfl, ?_⟩ | (refine ⟨_, _, rfl, ⟨rfl, rfl⟩, ?_⟩; try dsimp only [wipeE, List.set_cons_succ, List.set_cons_zero]) | (refine ⟨rfl, ?_⟩; try dsimp only [wipeE, List.set_cons_succ, List.set_cons_zero])))
      exact ⟨_, _, rfl⟩
    · obtain ⟨z7, z8, rfl⟩ := i
      (repeat (first | refine p_var rfl ?_ | refine p_c ?_ | refine p_bin ?_ | refine p_cons ?_ | refine p_nil ?_ | refine p_seq ?_ | refine p_asg ?_ | refine p_sif ?_ | refine p_ret ?_ | refine p_bM ?_ | refine p_tM ?_ | refine p_cb ?_ | refine p_andM ?_ | refine p_orM ?_ | refine p_notM ?_ | refine p_chain ?_ | refine p_andV ?_ | refine p_orV ?_ | refine p_notV ?_ | refine p_ifM ?_ | refine p_tup ?_ | refine p_lst ?_ | refine p_call ?_ | refine p_callK ?_ | refine ⟨⟨⟨rfl, rfl⟩, rfl, rfl⟩, ⟨rfl, rfl⟩, ?_⟩ | refine p_setB ?_ | refine p_sl ?_ | refine p_osome ?_ | refine p_onone ?_ | refine p_snil ?_ | refine p_sexpr ?_ | refine p_retN ?_ | refine p_par ?_ | refine p_sh ?_ | refine p_brt rfl ?_ | refine p_brf rfl ?_ | refine ⟨_, rfl, ?_⟩ | refine ⟨⟨rfl, rfl⟩, ?_⟩ | refine ⟨⟨rfl, Nat.le_of_ble_eq_true rfl⟩, ?_⟩ | refine ⟨_, _, _, _, rfl, hn, rfl, rfl, ?_⟩ | (refine ⟨_, _, rfl, ⟨rfl, rfl⟩, ?_⟩; try dsimp only [wipeE, List.set_cons_succ, List.set_cons_zero]) | (refine ⟨rfl, ?_⟩; try dsimp only [wipeE, List.set_cons_succ, List.set_cons_zero])))
      refine p_spec (answers_spec kp) fun v h2 w => ?_
      obtain ⟨rfl, rfl⟩ := w
      (repeat (first | refine p_var rfl ?_ | refine p_c ?_ | refine p_bin ?_ | refine p_cons ?_ | refine p_nil ?_ | refine p_seq ?_ | refine p_asg ?_ | refine p_sif ?_ | refine p_ret ?_ | refine p_bM ?_ | refine p_tM ?_ | refine p_cb ?_ | refine p_andM ?_ | refine p_orM ?_ | refine p_notM ?_ | refine p_chain ?_ | refine p_andV ?_ | refine p_orV ?_ | refine p_notV ?_ | refine p_ifM ?_ | refine p_tup ?_ | refine p_lst ?_ | refine p_call ?_ | refine p_callK ?_ | refine ⟨⟨⟨rfl, rfl⟩, rfl, rfl⟩, ⟨rfl, rfl⟩, ?_⟩ | refine p_setB ?_ | refine p_sl ?_ | refine p_osome ?_ | refine p_onone ?_ | refine p_snil ?_ | refine p_sexpr ?_ | refine p_retN ?_ | refine p_par ?_ | refine p_sh ?_ | refine p_brt rfl ?_ | refine p_brf rfl ?_ | refine ⟨_, rfl, ?_⟩ | refine ⟨⟨rfl, rfl⟩, ?_⟩ | refine ⟨⟨rfl, Nat.le_of_ble_eq_true rfl⟩, ?_⟩ | refine ⟨_, _, _, _, rfl, hn, rfl, rfl, ?_⟩ | (refine ⟨_, _, rfl, ⟨rfl, rfl⟩, ?_⟩; try dsimp only [wipeE, List.set_cons_succ, List.set_cons_zero]) | (refine ⟨rfl, ?_⟩; try dsimp only [wipeE, List.set_cons_succ, List.set_cons_zero])))
      refine p_spec (draw_at (by decide) bg (by decide) (by decide)) fun v h' z => ?_
      obtain ⟨⟨d, rfl, d0, d5⟩, bg⟩ := z
      obtain ⟨i, rfl⟩ := Int.eq_ofNat_of_zero_le d0
      have hi : i < 5 := by omega
      refine ⟨rfl, p_seq (p_asg (p_near rfl rfl rfl hi ⟨rfl, ?_⟩))⟩
      dsimp only [List.set_cons_succ, List.set_cons_zero]
      have kq := near_ok kp ko i
      have hx := fun h => parts_at (p := p) (o := o) (h := h) hi
      have k0 := near_ok kp ko 0
      have k1 := near_ok kp ko 1
      have k2 := near_ok kp ko 2
      have k3 := near_ok kp ko 3
      have k4 := near_ok kp ko 4
      generalize nearS p o i = q at kq hx
      (repeat (first | refine p_var rfl ?_ | refine p_c ?_ | refine p_bin ?_ | refine p_cons ?_ | refine p_nil ?_ | refine p_seq ?_ | refine p_asg ?_ | refine p_sif ?_ | refine p_ret ?_ | refine p_bM ?_ | refine p_tM ?_ | refine p_cb ?_ | refine p_andM ?_ | refine p_orM ?_ | refine p_notM ?_ | refine p_chain ?_ | refine p_andV ?_ | refine p_orV ?_ | refine p_notV ?_ | refine p_ifM ?_ | refine p_tup ?_ | refine p_lst ?_ | refine p_call ?_ | refine p_callK ?_ | refine ⟨⟨⟨rfl, rfl⟩, rfl, rfl⟩, ⟨rfl, rfl⟩, ?_⟩ | refine p_setB ?_ | refine p_sl ?_ | refine p_osome ?_ | refine p_onone ?_ | refine p_snil ?_ | refine p_sexpr ?_ | refine p_retN ?_ | refine p_par ?_ | refine p_sh ?_ | refine p_brt rfl ?_ | refine p_brf rfl ?_ | refine ⟨_, rfl, ?_⟩ | refine ⟨⟨rfl, rfl⟩, ?_⟩ | refine ⟨⟨rfl, Nat.le_of_ble_eq_true rfl⟩, ?_⟩ | refine ⟨_, _, _, _, rfl, hn, rfl, rfl, ?_⟩ | (refine ⟨_, _, rfl, ⟨rfl, rfl⟩, ?_⟩; try dsimp only [wipeE, List.set_cons_succ, List.set_cons_zero]) | (refine ⟨rfl, ?_⟩; try dsimp only [wipeE, List.set_cons_succ, List.set_cons_zero]) | refine p_meA ?_))
      refine p_spec (but_spec (od := none) (on := none) (os := none) (oh := none) (ol := none) (show (bw p none none none none none).Ok from kp)) fun v h'' z => ?_
      obtain ⟨rfl, rfl⟩ := z
      rw [show wayV (bw p none none none none none) = wayV p from rfl]
      (repeat (first | refine p_var rfl ?_ | refine p_c ?_ | refine p_bin ?_ | refine p_cons ?_ | refine p_nil ?_ | refine p_seq ?_ | refine p_asg ?_ | refine p_sif ?_ | refine p_ret ?_ | refine p_bM ?_ | refine p_tM ?_ | refine p_cb ?_ | refine p_andM ?_ | refine p_orM ?_ | refine p_notM ?_ | refine p_chain ?_ | refine p_andV ?_ | refine p_orV ?_ | refine p_notV ?_ | refine p_ifM ?_ | refine p_tup ?_ | refine p_lst ?_ | refine p_call ?_ | refine p_callK ?_ | refine ⟨⟨⟨rfl, rfl⟩, rfl, rfl⟩, ⟨rfl, rfl⟩, ?_⟩ | refine p_setB ?_ | refine p_sl ?_ | refine p_osome ?_ | refine p_onone ?_ | refine p_snil ?_ | refine p_sexpr ?_ | refine p_retN ?_ | refine p_par ?_ | refine p_sh ?_ | refine p_brt rfl ?_ | refine p_brf rfl ?_ | refine ⟨_, rfl, ?_⟩ | refine ⟨⟨rfl, rfl⟩, ?_⟩ | refine ⟨⟨rfl, Nat.le_of_ble_eq_true rfl⟩, ?_⟩ | refine ⟨_, _, _, _, rfl, hn, rfl, rfl, ?_⟩ | (refine ⟨_, _, rfl, ⟨rfl, rfl⟩, ?_⟩; try dsimp only [wipeE, List.set_cons_succ, List.set_cons_zero]) | (refine ⟨rfl, ?_⟩; try dsimp only [wipeE, List.set_cons_succ, List.set_cons_zero]) | refine p_meA ?_))
      refine p_spec (but_spec (od := some q.d) (on := some q.n) (os := some q.s) (oh := some q.h) (ol := some q.l) (show (bw p (some q.d) (some q.n) (some q.s) (some q.h) (some q.l)).Ok from kq)) fun v h'' z => ?_
      obtain ⟨rfl, rfl⟩ := z
      rw [show wayV (bw p (some q.d) (some q.n) (some q.s) (some q.h) (some q.l)) = wayV q from rfl]
      (repeat (first | refine p_var rfl ?_ | refine p_c ?_ | refine p_bin ?_ | refine p_cons ?_ | refine p_nil ?_ | refine p_seq ?_ | refine p_asg ?_ | refine p_sif ?_ | refine p_ret ?_ | refine p_bM ?_ | refine p_tM ?_ | refine p_cb ?_ | refine p_andM ?_ | refine p_orM ?_ | refine p_notM ?_ | refine p_chain ?_ | refine p_andV ?_ | refine p_orV ?_ | refine p_notV ?_ | refine p_ifM ?_ | refine p_tup ?_ | refine p_lst ?_ | refine p_call ?_ | refine p_callK ?_ | refine ⟨⟨⟨rfl, rfl⟩, rfl, rfl⟩, ⟨rfl, rfl⟩, ?_⟩ | refine p_setB ?_ | refine p_sl ?_ | refine p_osome ?_ | refine p_onone ?_ | refine p_snil ?_ | refine p_sexpr ?_ | refine p_retN ?_ | refine p_par ?_ | refine p_sh ?_ | refine p_brt rfl ?_ | refine p_brf rfl ?_ | refine ⟨_, rfl, ?_⟩ | refine ⟨⟨rfl, rfl⟩, ?_⟩ | refine ⟨⟨rfl, Nat.le_of_ble_eq_true rfl⟩, ?_⟩ | refine ⟨_, _, _, _, rfl, hn, rfl, rfl, ?_⟩ | (refine ⟨_, _, rfl, ⟨rfl, rfl⟩, ?_⟩; try dsimp only [wipeE, List.set_cons_succ, List.set_cons_zero]) | (refine ⟨rfl, ?_⟩; try dsimp only [wipeE, List.set_cons_succ, List.set_cons_zero]) | refine p_meA ?_))
      refine p_spec (but_spec (od := some o.d) (on := none) (os := none) (oh := none) (ol := none) k0) fun v h'' z => ?_
      obtain ⟨rfl, rfl⟩ := z
      (repeat (first | refine p_var rfl ?_ | refine p_c ?_ | refine p_bin ?_ | refine p_cons ?_ | refine p_nil ?_ | refine p_seq ?_ | refine p_asg ?_ | refine p_sif ?_ | refine p_ret ?_ | refine p_bM ?_ | refine p_tM ?_ | refine p_cb ?_ | refine p_andM ?_ | refine p_orM ?_ | refine p_notM ?_ | refine p_chain ?_ | refine p_andV ?_ | refine p_orV ?_ | refine p_notV ?_ | refine p_ifM ?_ | refine p_tup ?_ | refine p_lst ?_ | refine p_call ?_ | refine p_callK ?_ | refine ⟨⟨⟨rfl, rfl⟩, rfl, rfl⟩, ⟨rfl, rfl⟩, ?_⟩ | refine p_setB ?_ | refine p_sl ?_ | refine p_osome ?_ | refine p_onone ?_ | refine p_snil ?_ | refine p_sexpr ?_ | refine p_retN ?_ | refine p_par ?_ | refine p_sh ?_ | refine p_brt rfl ?_ | refine p_brf rfl ?_ | refine ⟨_, rfl, ?_⟩ | refine ⟨⟨rfl, rfl⟩, ?_⟩ | refine ⟨⟨rfl, Nat.le_of_ble_eq_true rfl⟩, ?_⟩ | refine ⟨_, _, _, _, rfl, hn, rfl, rfl, ?_⟩ | (refine ⟨_, _, rfl, ⟨rfl, rfl⟩, ?_⟩; try dsimp only [wipeE, List.set_cons_succ, List.set_cons_zero]) | (refine ⟨rfl, ?_⟩; try dsimp only [wipeE, List.set_cons_succ, List.set_cons_zero]) | refine p_meA ?_))
      refine p_spec (but_spec (od := none) (on := some o.n) (os := none) (oh := none) (ol := none) k1) fun v h'' z => ?_
      obtain ⟨rfl, rfl⟩ := z
      (repeat (first | refine p_var rfl ?_ | refine p_c ?_ | refine p_bin ?_ | refine p_cons ?_ | refine p_nil ?_ | refine p_seq ?_ | refine p_asg ?_ | refine p_sif ?_ | refine p_ret ?_ | refine p_bM ?_ | refine p_tM ?_ | refine p_cb ?_ | refine p_andM ?_ | refine p_orM ?_ | refine p_notM ?_ | refine p_chain ?_ | refine p_andV ?_ | refine p_orV ?_ | refine p_notV ?_ | refine p_ifM ?_ | refine p_tup ?_ | refine p_lst ?_ | refine p_call ?_ | refine p_callK ?_ | refine ⟨⟨⟨rfl, rfl⟩, rfl, rfl⟩, ⟨rfl, rfl⟩, ?_⟩ | refine p_setB ?_ | refine p_sl ?_ | refine p_osome ?_ | refine p_onone ?_ | refine p_snil ?_ | refine p_sexpr ?_ | refine p_retN ?_ | refine p_par ?_ | refine p_sh ?_ | refine p_brt rfl ?_ | refine p_brf rfl ?_ | refine ⟨_, rfl, ?_⟩ | refine ⟨⟨rfl, rfl⟩, ?_⟩ | refine ⟨⟨rfl, Nat.le_of_ble_eq_true rfl⟩, ?_⟩ | refine ⟨_, _, _, _, rfl, hn, rfl, rfl, ?_⟩ | (refine ⟨_, _, rfl, ⟨rfl, rfl⟩, ?_⟩; try dsimp only [wipeE, List.set_cons_succ, List.set_cons_zero]) | (refine ⟨rfl, ?_⟩; try dsimp only [wipeE, List.set_cons_succ, List.set_cons_zero]) | refine p_meA ?_))
      refine p_spec (but_spec (od := none) (on := none) (os := some o.s) (oh := none) (ol := none) k2) fun v h'' z => ?_
      obtain ⟨rfl, rfl⟩ := z
      (repeat (first | refine p_var rfl ?_ | refine p_c ?_ | refine p_bin ?_ | refine p_cons ?_ | refine p_nil ?_ | refine p_seq ?_ | refine p_asg ?_ | refine p_sif ?_ | refine p_ret ?_ | refine p_bM ?_ | refine p_tM ?_ | refine p_cb ?_ | refine p_andM ?_ | refine p_orM ?_ | refine p_notM ?_ | refine p_chain ?_ | refine p_andV ?_ | refine p_orV ?_ | refine p_notV ?_ | refine p_ifM ?_ | refine p_tup ?_ | refine p_lst ?_ | refine p_call ?_ | refine p_callK ?_ | refine ⟨⟨⟨rfl, rfl⟩, rfl, rfl⟩, ⟨rfl, rfl⟩, ?_⟩ | refine p_setB ?_ | refine p_sl ?_ | refine p_osome ?_ | refine p_onone ?_ | refine p_snil ?_ | refine p_sexpr ?_ | refine p_retN ?_ | refine p_par ?_ | refine p_sh ?_ | refine p_brt rfl ?_ | refine p_brf rfl ?_ | refine ⟨_, rfl, ?_⟩ | refine ⟨⟨rfl, rfl⟩, ?_⟩ | refine ⟨⟨rfl, Nat.le_of_ble_eq_true rfl⟩, ?_⟩ | refine ⟨_, _, _, _, rfl, hn, rfl, rfl, ?_⟩ | (refine ⟨_, _, rfl, ⟨rfl, rfl⟩, ?_⟩; try dsimp only [wipeE, List.set_cons_succ, List.set_cons_zero]) | (refine ⟨rfl, ?_⟩; try dsimp only [wipeE, List.set_cons_succ, List.set_cons_zero]) | refine p_meA ?_))
      refine p_spec (but_spec (od := none) (on := none) (os := none) (oh := some o.h) (ol := none) k3) fun v h'' z => ?_
      obtain ⟨rfl, rfl⟩ := z
      (repeat (first | refine p_var rfl ?_ | refine p_c ?_ | refine p_bin ?_ | refine p_cons ?_ | refine p_nil ?_ | refine p_seq ?_ | refine p_asg ?_ | refine p_sif ?_ | refine p_ret ?_ | refine p_bM ?_ | refine p_tM ?_ | refine p_cb ?_ | refine p_andM ?_ | refine p_orM ?_ | refine p_notM ?_ | refine p_chain ?_ | refine p_andV ?_ | refine p_orV ?_ | refine p_notV ?_ | refine p_ifM ?_ | refine p_tup ?_ | refine p_lst ?_ | refine p_call ?_ | refine p_callK ?_ | refine ⟨⟨⟨rfl, rfl⟩, rfl, rfl⟩, ⟨rfl, rfl⟩, ?_⟩ | refine p_setB ?_ | refine p_sl ?_ | refine p_osome ?_ | refine p_onone ?_ | refine p_snil ?_ | refine p_sexpr ?_ | refine p_retN ?_ | refine p_par ?_ | refine p_sh ?_ | refine p_brt rfl ?_ | refine p_brf rfl ?_ | refine ⟨_, rfl, ?_⟩ | refine ⟨⟨rfl, rfl⟩, ?_⟩ | refine ⟨⟨rfl, Nat.le_of_ble_eq_true rfl⟩, ?_⟩ | refine ⟨_, _, _, _, rfl, hn, rfl, rfl, ?_⟩ | (refine ⟨_, _, rfl, ⟨rfl, rfl⟩, ?_⟩; try dsimp only [wipeE, List.set_cons_succ, List.set_cons_zero]) | (refine ⟨rfl, ?_⟩; try dsimp only [wipeE, List.set_cons_succ, List.set_cons_zero]) | refine p_meA ?_))
      refine p_spec (but_spec (od := none) (on := none) (os := none) (oh := none) (ol := some o.l) k4) fun v h'' z => ?_
      obtain ⟨rfl, rfl⟩ := z
      have hx : ∀ h, fIx h (.lst [wayV (bw p (some o.d) none none none none), wayV (bw p none (some o.n) none none none), wayV (bw p none none (some o.s) none none), wayV (bw p none none none (some o.h) none), wayV (bw p none none none none (some o.l))]) (.int i) = some (wayV q) := hx
      (repeat (first | refine p_var rfl ?_ | refine p_c ?_ | refine p_bin ?_ | refine p_cons ?_ | refine p_nil ?_ | refine p_seq ?_ | refine p_asg ?_ | refine p_sif ?_ | refine p_ret ?_ | refine p_bM ?_ | refine p_tM ?_ | refine p_cb ?_ | refine p_andM ?_ | refine p_orM ?_ | refine p_notM ?_ | refine p_chain ?_ | refine p_andV ?_ | refine p_orV ?_ | refine p_notV ?_ | refine p_ifM ?_ | refine p_tup ?_ | refine p_lst ?_ | refine p_call ?_ | refine p_callK ?_ | refine ⟨⟨⟨rfl, rfl⟩, rfl, rfl⟩, ⟨rfl, rfl⟩, ?_⟩ | refine p_setB ?_ | refine p_sl ?_ | refine p_osome ?_ | refine p_onone ?_ | refine p_snil ?_ | refine p_sexpr ?_ | refine p_retN ?_ | refine p_par ?_ | refine p_sh ?_ | refine p_brt rfl ?_ | refine p_brf rfl ?_ | refine ⟨_, rfl, ?_⟩ | refine ⟨⟨rfl, rfl⟩, ?_⟩ | refine ⟨⟨rfl, Nat.le_of_ble_eq_true rfl⟩, ?_⟩ | refine ⟨_, _, _, _, rfl, hn, rfl, rfl, ?_⟩ | (refine ⟨_, _, rfl, ⟨rfl, rfl⟩, ?_⟩; try dsimp only [wipeE, List.set_cons_succ, List.set_cons_zero]) | (refine ⟨rfl, ?_⟩; try dsimp only [wipeE, List.set_cons_succ, List.set_cons_zero])))
      refine p_compN (p_any (p_var rfl ⟨_, rfl, rfl, fun j acc hh => acc = ([.str (txt p), .str (txt q)] : List PV).take j ∧ BagAt [none] 0 hh, ⟨rfl, bg⟩, fun j v acc hh ej i' => ?_, fun acc hh i' => ?_⟩))
      · obtain ⟨rfl, bgh⟩ := i'
        match j, ej with
        | 0, ej =>
          cases ej
          refine ⟨_, rfl, p_ok (p_brt rfl ?_)⟩
          (repeat (first | refine p_var rfl ?_ | refine p_c ?_ | refine p_bin ?_ | refine p_cons ?_ | refine p_nil ?_ | refine p_seq ?_ | refine p_asg ?_ | refine p_sif ?_ | refine p_ret ?_ | refine p_bM ?_ | refine p_tM ?_ | refine p_cb ?_ | refine p_andM ?_ | refine p_orM ?_ | refine p_notM ?_ | refine p_chain ?_ | refine p_andV ?_ | refine p_orV ?_ | refine p_notV ?_ | refine p_ifM ?_ | refine p_tup ?_ | refine p_lst ?_ | refine p_call ?_ | refine p_callK ?_ | refine ⟨⟨⟨rfl, rfl⟩, rfl, rfl⟩, ⟨rfl, rfl⟩, ?_⟩ | refine p_setB ?_ | refine p_sl ?_ | refine p_osome ?_ | refine p_onone ?_ | refine p_snil ?_ | refine p_sexpr ?_ | refine p_retN ?_ | refine p_par ?_ | refine p_sh ?_ | refine p_brt rfl ?_ | refine p_brf rfl ?_ | refine ⟨_, rfl, ?_⟩ | refine ⟨⟨rfl, rfl⟩, ?_⟩ | refine ⟨⟨rfl, Nat.le_of_ble_eq_true rfl⟩, ?_⟩ | refine ⟨_, _, _, _, rfl, hn, rfl, rfl, ?_⟩ | (refine ⟨_, _, rfl, ⟨rfl, rfl⟩, ?_⟩; try dsimp only [wipeE, List.set_cons_succ, List.set_cons_zero]) | (refine ⟨rfl, ?_⟩; try dsimp only [wipeE, List.set_cons_succ, List.set_cons_zero]) | refine p_meA ?_))
          refine p_spec (text_spec kp) fun v h' w => ?_
          obtain ⟨rfl, rfl⟩ := w
          exact ⟨rfl, rfl, rfl, bgh⟩
        | 1, ej =>
          cases ej
          refine ⟨_, rfl, p_ok (p_brt rfl ?_)⟩
          (repeat (first | refine p_var rfl ?_ | refine p_c ?_ | refine p_bin ?_ | refine p_cons ?_ | refine p_nil ?_ | refine p_seq ?_ | refine p_asg ?_ | refine p_sif ?_ | refine p_ret ?_ | refine p_bM ?_ | refine p_tM ?_ | refine p_cb ?_ | refine p_andM ?_ | refine p_orM ?_ | refine p_notM ?_ | refine p_chain ?_ | refine p_andV ?_ | refine p_orV ?_ | refine p_notV ?_ | refine p_ifM ?_ | refine p_tup ?_ | refine p_lst ?_ | refine p_call ?_ | refine p_callK ?_ | refine ⟨⟨⟨rfl, rfl⟩, rfl, rfl⟩, ⟨rfl, rfl⟩, ?_⟩ | refine p_setB ?_ | refine p_sl ?_ | refine p_osome ?_ | refine p_onone ?_ | refine p_snil ?_ | refine p_sexpr ?_ | refine p_retN ?_ | refine p_par ?_ | refine p_sh ?_ | refine p_brt rfl ?_ | refine p_brf rfl ?_ | refine ⟨_, rfl, ?_⟩ | refine ⟨⟨rfl, rfl⟩, ?_⟩ | refine ⟨⟨rfl, Nat.le_of_ble_eq_true rfl⟩, ?_⟩ | refine ⟨_, _, _, _, rfl, hn, rfl, rfl, ?_⟩ | (refine ⟨_, _, rfl, ⟨rfl, rfl⟩, ?_⟩; try dsimp only [wipeE, List.set_cons_succ, List.set_cons_zero]) | (refine ⟨rfl, ?_⟩; try dsimp only [wipeE, List.set_cons_succ, List.set_cons_zero]) | refine p_meA ?_))
          refine p_spec (text_spec kq) fun v h' w => ?_
          obtain ⟨rfl, rfl⟩ := w
          exact ⟨rfl, rfl, rfl, bgh⟩
        | n + 2, ej => exact absurd ej (by simp)
      obtain ⟨rfl, bg⟩ := i'
      try dsimp only [wipeE, List.set_cons_succ, List.set_cons_zero]
      (repeat (first | refine p_var rfl ?_ | refine p_c ?_ | refine p_bin ?_ | refine p_cons ?_ | refine p_nil ?_ | refine p_seq ?_ | refine p_asg ?_ | refine p_sif ?_ | refine p_ret ?_ | refine p_bM ?_ | refine p_tM ?_ | refine p_cb ?_ | refine p_andM ?_ | refine p_orM ?_ | refine p_notM ?_ | refine p_chain ?_ | refine p_andV ?_ | refine p_orV ?_ | refine p_notV ?_ | refine p_ifM ?_ | refine p_tup ?_ | refine p_lst ?_ | refine p_call ?_ | refine p_callK ?_ | refine ⟨⟨⟨rfl, rfl⟩, rfl, rfl⟩, ⟨rfl, rfl⟩, ?_⟩ | refine p_setB ?_ | refine p_sl ?_ | refine p_osome ?_ | refine p_onone ?_ | refine p_snil ?_ | refine p_sexpr ?_ | refine p_retN ?_ | refine p_par ?_ | refine p_sh ?_ | refine p_brt rfl ?_ | refine p_brf rfl ?_ | refine ⟨_, rfl, ?_⟩ | refine ⟨⟨rfl, rfl⟩, ?_⟩ | refine ⟨⟨rfl, Nat.le_of_ble_eq_true rfl⟩, ?_⟩ | refine ⟨_, _, _, _, rfl, hn, rfl, rfl, ?_⟩ | (refine ⟨_, _, rfl, ⟨rfl, rfl⟩, ?_⟩; try dsimp only [wipeE, List.set_cons_succ, List.set_cons_zero]) | (refine ⟨rfl, ?_⟩; try dsimp only [wipeE, List.set_cons_succ, List.set_cons_zero])))
      refine p_spec (wtext_spec kq) fun v h' w => ?_
      obtain ⟨rfl, rfl⟩ := w
      (repeat (first | refine p_var rfl ?_ | refine p_c ?_ | refine p_bin ?_ | refine p_cons ?_ | refine p_nil ?_ | refine p_seq ?_ | refine p_asg ?_ | refine p_sif ?_ | refine p_ret ?_ | refine p_bM ?_ | refine p_tM ?_ | refine p_cb ?_ | refine p_andM ?_ | refine p_orM ?_ | refine p_notM ?_ | refine p_chain ?_ | refine p_andV ?_ | refine p_orV ?_ | refine p_notV ?_ | refine p_ifM ?_ | refine p_tup ?_ | refine p_lst ?_ | refine p_call ?_ | refine p_callK ?_ | refine ⟨⟨⟨rfl, rfl⟩, rfl, rfl⟩, ⟨rfl, rfl⟩, ?_⟩ | refine p_setB ?_ | refine p_sl ?_ | refine p_osome ?_ | refine p_onone ?_ | refine p_snil ?_ | refine p_sexpr ?_ | refine p_retN ?_ | refine p_par ?_ | refine p_sh ?_ | refine p_brt rfl ?_ | refine p_brf rfl ?_ | refine ⟨_, rfl, ?_⟩ | refine ⟨⟨rfl, rfl⟩, ?_⟩ | refine ⟨⟨rfl, Nat.le_of_ble_eq_true rfl⟩, ?_⟩ | refine ⟨_, _, _, _, rfl, hn, rfl, rfl, ?_⟩ | (refine ⟨_, _, rfl, ⟨rfl, rfl⟩, ?_⟩; try dsimp only [wipeE, List.set_cons_succ, List.set_cons_zero]) | (refine ⟨rfl, ?_⟩; try dsimp only [wipeE, List.set_cons_succ, List.set_cons_zero])))
      refine p_spec (like_eqv (n := 7) (b := .lst [.str (txt p), .str (txt q)]) rfl (dpl_of rfl)) fun v h3 w => ?_
      obtain ⟨rfl, rfl⟩ := w
      (repeat (first | refine p_var rfl ?_ | refine p_c ?_ | refine p_bin ?_ | refine p_cons ?_ | refine p_nil ?_ | refine p_seq ?_ | refine p_asg ?_ | refine p_sif ?_ | refine p_ret ?_ | refine p_bM ?_ | refine p_tM ?_ | refine p_cb ?_ | refine p_andM ?_ | refine p_orM ?_ | refine p_notM ?_ | refine p_chain ?_ | refine p_andV ?_ | refine p_orV ?_ | refine p_notV ?_ | refine p_ifM ?_ | refine p_tup ?_ | refine p_lst ?_ | refine p_call ?_ | refine p_callK ?_ | refine ⟨⟨⟨rfl, rfl⟩, rfl, rfl⟩, ⟨rfl, rfl⟩, ?_⟩ | refine p_setB ?_ | refine p_sl ?_ | refine p_osome ?_ | refine p_onone ?_ | refine p_snil ?_ | refine p_sexpr ?_ | refine p_retN ?_ | refine p_par ?_ | refine p_sh ?_ | refine p_brt rfl ?_ | refine p_brf rfl ?_ | refine ⟨_, rfl, ?_⟩ | refine ⟨⟨rfl, rfl⟩, ?_⟩ | refine ⟨⟨rfl, Nat.le_of_ble_eq_true rfl⟩, ?_⟩ | refine ⟨_, _, _, _, rfl, hn, rfl, rfl, ?_⟩ | (refine ⟨_, _, rfl, ⟨rfl, rfl⟩, ?_⟩; try dsimp only [wipeE, List.set_cons_succ, List.set_cons_zero]) | (refine ⟨rfl, ?_⟩; try dsimp only [wipeE, List.set_cons_succ, List.set_cons_zero])))
      refine p_cmpI ?_
      (repeat (first | refine p_var rfl ?_ | refine p_c ?_ | refine p_bin ?_ | refine p_cons ?_ | refine p_nil ?_ | refine p_seq ?_ | refine p_asg ?_ | refine p_sif ?_ | refine p_ret ?_ | refine p_bM ?_ | refine p_tM ?_ | refine p_cb ?_ | refine p_andM ?_ | refine p_orM ?_ | refine p_notM ?_ | refine p_chain ?_ | refine p_andV ?_ | refine p_orV ?_ | refine p_notV ?_ | refine p_ifM ?_ | refine p_tup ?_ | refine p_lst ?_ | refine p_call ?_ | refine p_callK ?_ | refine ⟨⟨⟨rfl, rfl⟩, rfl, rfl⟩, ⟨rfl, rfl⟩, ?_⟩ | refine p_setB ?_ | refine p_sl ?_ | refine p_osome ?_ | refine p_onone ?_ | refine p_snil ?_ | refine p_sexpr ?_ | refine p_retN ?_ | refine p_par ?_ | refine p_sh ?_ | refine p_brt rfl ?_ | refine p_brf rfl ?_ | refine ⟨_, rfl, ?_⟩ | refine ⟨⟨rfl, rfl⟩, ?_⟩ | refine ⟨⟨rfl, Nat.le_of_ble_eq_true rfl⟩, ?_⟩ | refine ⟨_, _, _, _, rfl, hn, rfl, rfl, ?_⟩ | (refine ⟨_, _, rfl, ⟨rfl, rfl⟩, ?_⟩; try dsimp only [wipeE, List.set_cons_succ, List.set_cons_zero]) | (refine ⟨rfl, ?_⟩; try dsimp only [wipeE, List.set_cons_succ, List.set_cons_zero])))
      refine ⟨⟨rfl, rfl, rfl⟩, p_spec (eq_way kp kp) fun v h3 w => ?_⟩
      obtain ⟨rfl, rfl⟩ := w
      refine ⟨_, rfl, _, rfl, p_brf (by rw [decide_eq_true rfl]; rfl) ?_⟩
      (repeat (first | refine p_var rfl ?_ | refine p_c ?_ | refine p_bin ?_ | refine p_cons ?_ | refine p_nil ?_ | refine p_seq ?_ | refine p_asg ?_ | refine p_sif ?_ | refine p_ret ?_ | refine p_bM ?_ | refine p_tM ?_ | refine p_cb ?_ | refine p_andM ?_ | refine p_orM ?_ | refine p_notM ?_ | refine p_chain ?_ | refine p_andV ?_ | refine p_orV ?_ | refine p_notV ?_ | refine p_ifM ?_ | refine p_tup ?_ | refine p_lst ?_ | refine p_call ?_ | refine p_callK ?_ | refine ⟨⟨⟨rfl, rfl⟩, rfl, rfl⟩, ⟨rfl, rfl⟩, ?_⟩ | refine p_setB ?_ | refine p_sl ?_ | refine p_osome ?_ | refine p_onone ?_ | refine p_snil ?_ | refine p_sexpr ?_ | refine p_retN ?_ | refine p_par ?_ | refine p_sh ?_ | refine p_brt rfl ?_ | refine p_brf rfl ?_ | refine ⟨_, rfl, ?_⟩ | refine ⟨⟨rfl, rfl⟩, ?_⟩ | refine ⟨⟨rfl, Nat.le_of_ble_eq_true rfl⟩, ?_⟩ | refine ⟨_, _, _, _, rfl, hn, rfl, rfl, ?_⟩ | (refine ⟨_, _, rfl, ⟨rfl, rfl⟩, ?_⟩; try dsimp only [wipeE, List.set_cons_succ, List.set_cons_zero]) | (refine ⟨rfl, ?_⟩; try dsimp only [wipeE, List.set_cons_succ, List.set_cons_zero])))
      refine p_cmpI ?_
      (repeat (first | refine ⟨_, hx _, ?_⟩ | refine p_var rfl ?_ | refine p_c ?_ | refine p_bin ?_ | refine p_cons ?_ | refine p_nil ?_ | refine p_seq ?_ | refine p_asg ?_ | refine p_sif ?_ | refine p_ret ?_ | refine p_bM ?_ | refine p_tM ?_ | refine p_cb ?_ | refine p_andM ?_ | refine p_orM ?_ | refine p_notM ?_ | refine p_chain ?_ | refine p_andV ?_ | refine p_orV ?_ | refine p_notV ?_ | refine p_ifM ?_ | refine p_tup ?_ | refine p_lst ?_ | refine p_call ?_ | refine p_callK ?_ | refine ⟨⟨⟨rfl, rfl⟩, rfl, rfl⟩, ⟨rfl, rfl⟩, ?_⟩ | refine p_setB ?_ | refine p_sl ?_ | refine p_osome ?_ | refine p_onone ?_ | refine p_snil ?_ | refine p_sexpr ?_ | refine p_retN ?_ | refine p_par ?_ | refine p_sh ?_ | refine p_brt rfl ?_ | refine p_brf rfl ?_ | refine ⟨_, rfl, ?_⟩ | refine ⟨⟨rfl, rfl⟩, ?_⟩ | refine ⟨⟨rfl, Nat.le_of_ble_eq_true rfl⟩, ?_⟩ | refine ⟨_, _, _, _, rfl, hn, rfl, rfl, ?_⟩ | (refine ⟨_, _, rfl, ⟨rfl, rfl⟩, ?_⟩; try dsimp only [wipeE, List.set_cons_succ, List.set_cons_zero]) | (refine ⟨rfl, ?_⟩; try dsimp only [wipeE, List.set_cons_succ, List.set_cons_zero])))
      refine ⟨⟨rfl, rfl, rfl⟩, p_spec (eq_way kq kq) fun v h3 w => ?_⟩
      obtain ⟨rfl, rfl⟩ := w
      refine ⟨_, rfl, _, rfl, p_brf (by rw [decide_eq_true rfl]; rfl) ?_⟩
      (repeat (first | refine p_var rfl ?_ | refine p_c ?_ | refine p_bin ?_ | refine p_cons ?_ | refine p_nil ?_ | refine p_seq ?_ | refine p_asg ?_ | refine p_sif ?_ | refine p_ret ?_ | refine p_bM ?_ | refine p_tM ?_ | refine p_cb ?_ | refine p_andM ?_ | refine p_orM ?_ | refine p_notM ?_ | refine p_chain ?_ | refine p_andV ?_ | refine p_orV ?_ | refine p_notV ?_ | refine p_ifM ?_ | refine p_tup ?_ | refine p_lst ?_ | refine p_call ?_ | refine p_callK ?_ | refine ⟨⟨⟨rfl, rfl⟩, rfl, rfl⟩, ⟨rfl, rfl⟩, ?_⟩ | refine p_setB ?_ | refine p_sl ?_ | refine p_osome ?_ | refine p_onone ?_ | refine p_snil ?_ | refine p_sexpr ?_ | refine p_retN ?_ | refine p_par ?_ | refine p_sh ?_ | refine p_brt rfl ?_ | refine p_brf rfl ?_ | refine ⟨_, rfl, ?_⟩ | refine ⟨⟨rfl, rfl⟩, ?_⟩ | refine ⟨⟨rfl, Nat.le_of_ble_eq_true rfl⟩, ?_⟩ | refine ⟨_, _, _, _, rfl, hn, rfl, rfl, ?_⟩ | (refine ⟨_, _, rfl, ⟨rfl, rfl⟩, ?_⟩; try dsimp only [wipeE, List.set_cons_succ, List.set_cons_zero]) | (refine ⟨rfl, ?_⟩; try dsimp only [wipeE, List.set_cons_succ, List.set_cons_zero])))
      refine p_cmpD (p_cmpI ?_)
      (repeat (first | refine p_var rfl ?_ | refine p_c ?_ | refine p_bin ?_ | refine p_cons ?_ | refine p_nil ?_ | refine p_seq ?_ | refine p_asg ?_ | refine p_sif ?_ | refine p_ret ?_ | refine p_bM ?_ | refine p_tM ?_ | refine p_cb ?_ | refine p_andM ?_ | refine p_orM ?_ | refine p_notM ?_ | refine p_chain ?_ | refine p_andV ?_ | refine p_orV ?_ | refine p_notV ?_ | refine p_ifM ?_ | refine p_tup ?_ | refine p_lst ?_ | refine p_call ?_ | refine p_callK ?_ | refine ⟨⟨⟨rfl, rfl⟩, rfl, rfl⟩, ⟨rfl, rfl⟩, ?_⟩ | refine p_setB ?_ | refine p_sl ?_ | refine p_osome ?_ | refine p_onone ?_ | refine p_snil ?_ | refine p_sexpr ?_ | refine p_retN ?_ | refine p_par ?_ | refine p_sh ?_ | refine p_brt rfl ?_ | refine p_brf rfl ?_ | refine ⟨_, rfl, ?_⟩ | refine ⟨⟨rfl, rfl⟩, ?_⟩ | refine ⟨⟨rfl, Nat.le_of_ble_eq_true rfl⟩, ?_⟩ | refine ⟨_, _, _, _, rfl, hn, rfl, rfl, ?_⟩ | (refine ⟨_, _, rfl, ⟨rfl, rfl⟩, ?_⟩; try dsimp only [wipeE, List.set_cons_succ, List.set_cons_zero]) | (refine ⟨rfl, ?_⟩; try dsimp only [wipeE, List.set_cons_succ, List.set_cons_zero])))
      refine ⟨⟨rfl, rfl, rfl⟩, p_spec (eq_way kp kq) fun v h3 w => ?_⟩
      obtain ⟨rfl, rfl⟩ := w
      refine ⟨_, rfl, p_cmpD ?_⟩
      (repeat (first | refine p_var rfl ?_ | refine p_c ?_ | refine p_bin ?_ | refine p_cons ?_ | refine p_nil ?_ | refine p_seq ?_ | refine p_asg ?_ | refine p_sif ?_ | refine p_ret ?_ | refine p_bM ?_ | refine p_tM ?_ | refine p_cb ?_ | refine p_andM ?_ | refine p_orM ?_ | refine p_notM ?_ | refine p_chain ?_ | refine p_andV ?_ | refine p_orV ?_ | refine p_notV ?_ | refine p_ifM ?_ | refine p_tup ?_ | refine p_lst ?_ | refine p_call ?_ | refine p_callK ?_ | refine ⟨⟨⟨rfl, rfl⟩, rfl, rfl⟩, ⟨rfl, rfl⟩, ?_⟩ | refine p_setB ?_ | refine p_sl ?_ | refine p_osome ?_ | refine p_onone ?_ | refine p_snil ?_ | refine p_sexpr ?_ | refine p_retN ?_ | refine p_par ?_ | refine p_sh ?_ | refine p_brt rfl ?_ | refine p_brf rfl ?_ | refine ⟨_, rfl, ?_⟩ | refine ⟨⟨rfl, rfl⟩, ?_⟩ | refine ⟨⟨rfl, Nat.le_of_ble_eq_true rfl⟩, ?_⟩ | refine ⟨_, _, _, _, rfl, hn, rfl, rfl, ?_⟩ | (refine ⟨_, _, rfl, ⟨rfl, rfl⟩, ?_⟩; try dsimp only [wipeE, List.set_cons_succ, List.set_cons_zero]) | (refine ⟨rfl, ?_⟩; try dsimp only [wipeE, List.set_cons_succ, List.set_cons_zero])))
      refine p_brf ?_ ?_
      · show (!PyData.eqv (.bool (decide (txt p = txt q))) (.bool (PyData.eqv (.tuple [.str (mkS q.d), .str (mkS q.n), .bool q.s, .bool q.h, .str q.l]) (.tuple [.str (mkS p.d), .str (mkS p.n), .bool p.s, .bool p.h, .str p.l])))) = false
        rw [spec_eqv kp kq, eqv_bool, decide_eq_true rfl]; rfl
      (repeat (first | refine p_var rfl ?_ | refine p_c ?_ | refine p_bin ?_ | refine p_cons ?_ | refine p_nil ?_ | refine p_seq ?_ | refine p_asg ?_ | refine p_sif ?_ | refine p_ret ?_ | refine p_bM ?_ | refine p_tM ?_ | refine p_cb ?_ | refine p_andM ?_ | refine p_orM ?_ | refine p_notM ?_ | refine p_chain ?_ | refine p_andV ?_ | refine p_orV ?_ | refine p_notV ?_ | refine p_ifM ?_ | refine p_tup ?_ | refine p_lst ?_ | refine p_call ?_ | refine p_callK ?_ | refine ⟨⟨⟨rfl, rfl⟩, rfl, rfl⟩, ⟨rfl, rfl⟩, ?_⟩ | refine p_setB ?_ | refine p_sl ?_ | refine p_osome ?_ | refine p_onone ?_ | refine p_snil ?_ | refine p_sexpr ?_ | refine p_retN ?_ | refine p_par ?_ | refine p_sh ?_ | refine p_brt rfl ?_ | refine p_brf rfl ?_ | refine ⟨_, rfl, ?_⟩ | refine ⟨⟨rfl, rfl⟩, ?_⟩ | refine ⟨⟨rfl, Nat.le_of_ble_eq_true rfl⟩, ?_⟩ | refine ⟨_, _, _, _, rfl, hn, rfl, rfl, ?_⟩ | (refine ⟨_, _, rfl, ⟨rfl, rfl⟩, ?_⟩; try dsimp only [wipeE, List.set_cons_succ, List.set_cons_zero]) | (refine ⟨rfl, ?_⟩; try dsimp only [wipeE, List.set_cons_succ, List.set_cons_zero])))
      refine p_cmpI ?_
      (repeat (first | refine p_var rfl ?_ | refine p_c ?_ | refine p_bin ?_ | refine p_cons ?_ | refine p_nil ?_ | refine p_seq ?_ | refine p_asg ?_ | refine p_sif ?_ | refine p_ret ?_ | refine p_bM ?_ | refine p_tM ?_ | refine p_cb ?_ | refine p_andM ?_ | refine p_orM ?_ | refine p_notM ?_ | refine p_chain ?_ | refine p_andV ?_ | refine p_orV ?_ | refine p_notV ?_ | refine p_ifM ?_ | refine p_tup ?_ | refine p_lst ?_ | refine p_call ?_ | refine p_callK ?_ | refine ⟨⟨⟨rfl, rfl⟩, rfl, rfl⟩, ⟨rfl, rfl⟩, ?_⟩ | refine p_setB ?_ | refine p_sl ?_ | refine p_osome ?_ | refine p_onone ?_ | refine p_snil ?_ | refine p_sexpr ?_ | refine p_retN ?_ | refine p_par ?_ | refine p_sh ?_ | refine p_brt rfl ?_ | refine p_brf rfl ?_ | refine ⟨_, rfl, ?_⟩ | refine ⟨⟨rfl, rfl⟩, ?_⟩ | refine ⟨⟨rfl, Nat.le_of_ble_eq_true rfl⟩, ?_⟩ | refine ⟨_, _, _, _, rfl, hn, rfl, rfl, ?_⟩ | (refine ⟨_, _, rfl, ⟨rfl, rfl⟩, ?_⟩; try dsimp only [wipeE, List.set_cons_succ, List.set_cons_zero]) | (refine ⟨rfl, ?_⟩; try dsimp only [wipeE, List.set_cons_succ, List.set_cons_zero])))
      refine ⟨⟨rfl, rfl, rfl⟩, p_spec (eq_oth (.inr ⟨_, rfl⟩)) fun v h3 w => ?_⟩
      obtain ⟨rfl, rfl⟩ := w
      refine ⟨_, rfl, _, rfl, p_brf rfl ?_⟩
      (repeat (first | refine p_var rfl ?_ | refine p_c ?_ | refine p_bin ?_ | refine p_cons ?_ | refine p_nil ?_ | refine p_seq ?_ | refine p_asg ?_ | refine p_sif ?_ | refine p_ret ?_ | refine p_bM ?_ | refine p_tM ?_ | refine p_cb ?_ | refine p_andM ?_ | refine p_orM ?_ | refine p_notM ?_ | refine p_chain ?_ | refine p_andV ?_ | refine p_orV ?_ | refine p_notV ?_ | refine p_ifM ?_ | refine p_tup ?_ | refine p_lst ?_ | refine p_call ?_ | refine p_callK ?_ | refine ⟨⟨⟨rfl, rfl⟩, rfl, rfl⟩, ⟨rfl, rfl⟩, ?_⟩ | refine p_setB ?_ | refine p_sl ?_ | refine p_osome ?_ | refine p_onone ?_ | refine p_snil ?_ | refine p_sexpr ?_ | refine p_retN ?_ | refine p_par ?_ | refine p_sh ?_ | refine p_brt rfl ?_ | refine p_brf rfl ?_ | refine ⟨_, rfl, ?_⟩ | refine ⟨⟨rfl, rfl⟩, ?_⟩ | refine ⟨⟨rfl, Nat.le_of_ble_eq_true rfl⟩, ?_⟩ | refine ⟨_, _, _, _, rfl, hn, rfl, rfl, ?_⟩ | (refine ⟨_, _, rfl, ⟨rfl, rfl⟩, ?_⟩; try dsimp only [wipeE, List.set_cons_succ, List.set_cons_zero]) | (refine ⟨rfl, ?_⟩; try dsimp only [wipeE, List.set_cons_succ, List.set_cons_zero])))
      refine p_cmpI ?_
      (repeat (first | refine p_var rfl ?_ | refine p_c ?_ | refine p_bin ?_ | refine p_cons ?_ | refine p_nil ?_ | refine p_seq ?_ | refine p_asg ?_ | refine p_sif ?_ | refine p_ret ?_ | refine p_bM ?_ | refine p_tM ?_ | refine p_cb ?_ | refine p_andM ?_ | refine p_orM ?_ | refine p_notM ?_ | refine p_chain ?_ | refine p_andV ?_ | refine p_orV ?_ | refine p_notV ?_ | refine p_ifM ?_ | refine p_tup ?_ | refine p_lst ?_ | refine p_call ?_ | refine p_callK ?_ | refine ⟨⟨⟨rfl, rfl⟩, rfl, rfl⟩, ⟨rfl, rfl⟩, ?_⟩ | refine p_setB ?_ | refine p_sl ?_ | refine p_osome ?_ | refine p_onone ?_ | refine p_snil ?_ | refine p_sexpr ?_ | refine p_retN ?_ | refine p_par ?_ | refine p_sh ?_ | refine p_brt rfl ?_ | refine p_brf rfl ?_ | refine ⟨_, rfl, ?_⟩ | refine ⟨⟨rfl, rfl⟩, ?_⟩ | refine ⟨⟨rfl, Nat.le_of_ble_eq_true rfl⟩, ?_⟩ | refine ⟨_, _, _, _, rfl, hn, rfl, rfl, ?_⟩ | (refine ⟨_, _, rfl, ⟨rfl, rfl⟩, ?_⟩; try dsimp only [wipeE, List.set_cons_succ, List.set_cons_zero]) | (refine ⟨rfl, ?_⟩; try dsimp only [wipeE, List.set_cons_succ, List.set_cons_zero])))
      refine ⟨⟨rfl, rfl, rfl⟩, p_spec (eq_oth (.inl rfl)) fun v h3 w => ?_⟩
      obtain ⟨rfl, rfl⟩ := w
      refine ⟨_, rfl, _, rfl, ?_⟩
      (repeat (first | refine p_var rfl ?_ | refine p_c ?_ | refine p_bin ?_ | refine p_cons ?_ | refine p_nil ?_ | refine p_seq ?_ | refine p_asg ?_ | refine p_sif ?_ | refine p_ret ?_ | refine p_bM ?_ | refine p_tM ?_ | refine p_cb ?_ | refine p_andM ?_ | refine p_orM ?_ | refine p_notM ?_ | refine p_chain ?_ | refine p_andV ?_ | refine p_orV ?_ | refine p_notV ?_ | refine p_ifM ?_ | refine p_tup ?_ | refine p_lst ?_ | refine p_call ?_ | refine p_callK ?_ | refine ⟨⟨⟨rfl, rfl⟩, rfl, rfl⟩, ⟨rfl, rfl⟩, ?_⟩ | refine p_setB ?_ | refine p_sl ?_ | refine p_osome ?_ | refine p_onone ?_ | refine p_snil ?_ | refine p_sexpr ?_ | refine p_retN ?_ | refine p_par ?_ | refine p_sh ?_ | refine p_brt rfl ?_ | refine p_brf rfl ?_ | refine ⟨_, rfl, ?_⟩ | refine ⟨⟨rfl, rfl⟩, ?_⟩ | refine ⟨⟨rfl, Nat.le_of_ble_eq_true rfl⟩, ?_⟩ | refine ⟨_, _, _, _, rfl, hn, rfl, rfl, ?_⟩ | (refine ⟨_, _, rfl, ⟨rfl, rfl⟩, ?_⟩; try dsimp only [wipeE, List.set_cons_succ, List.set_cons_zero]) | (refine ⟨rfl, ?_⟩; try dsimp only [wipeE, List.set_cons_succ, List.set_cons_zero])))
      refine p_cmpI ?_
      (repeat (first | refine p_var rfl ?_ | refine p_c ?_ | refine p_bin ?_ | refine p_cons ?_ | refine p_nil ?_ | refine p_seq ?_ | refine p_asg ?_ | refine p_sif ?_ | refine p_ret ?_ | refine p_bM ?_ | refine p_tM ?_ | refine p_cb ?_ | refine p_andM ?_ | refine p_orM ?_ | refine p_notM ?_ | refine p_chain ?_ | refine p_andV ?_ | refine p_orV ?_ | refine p_notV ?_ | refine p_ifM ?_ | refine p_tup ?_ | refine p_lst ?_ | refine p_call ?_ | refine p_callK ?_ | refine ⟨⟨⟨rfl, rfl⟩, rfl, rfl⟩, ⟨rfl, rfl⟩, ?_⟩ | refine p_setB ?_ | refine p_sl ?_ | refine p_osome ?_ | refine p_onone ?_ | refine p_snil ?_ | refine p_sexpr ?_ | refine p_retN ?_ | refine p_par ?_ | refine p_sh ?_ | refine p_brt rfl ?_ | refine p_brf rfl ?_ | refine ⟨_, rfl, ?_⟩ | refine ⟨⟨rfl, rfl⟩, ?_⟩ | refine ⟨⟨rfl, Nat.le_of_ble_eq_true rfl⟩, ?_⟩ | refine ⟨_, _, _, _, rfl, hn, rfl, rfl, ?_⟩ | (refine ⟨_, _, rfl, ⟨rfl, rfl⟩, ?_⟩; try dsimp only [wipeE, List.set_cons_succ, List.set_cons_zero]) | (refine ⟨rfl, ?_⟩; try dsimp only [wipeE, List.set_cons_succ, List.set_cons_zero])))
      refine p_spec (read_spec kp) fun v h3 w => ?_
      obtain ⟨rfl, rfl⟩ := w
      (repeat (first | refine p_var rfl ?_ | refine p_c ?_ | refine p_bin ?_ | refine p_cons ?_ | refine p_nil ?_ | refine p_seq ?_ | refine p_asg ?_ | refine p_sif ?_ | refine p_ret ?_ | refine p_bM ?_ | refine p_tM ?_ | refine p_cb ?_ | refine p_andM ?_ | refine p_orM ?_ | refine p_notM ?_ | refine p_chain ?_ | refine p_andV ?_ | refine p_orV ?_ | refine p_notV ?_ | refine p_ifM ?_ | refine p_tup ?_ | refine p_lst ?_ | refine p_call ?_ | refine p_callK ?_ | refine ⟨⟨⟨rfl, rfl⟩, rfl, rfl⟩, ⟨rfl, rfl⟩, ?_⟩ | refine p_setB ?_ | refine p_sl ?_ | refine p_osome ?_ | refine p_onone ?_ | refine p_snil ?_ | refine p_sexpr ?_ | refine p_retN ?_ | refine p_par ?_ | refine p_sh ?_ | refine p_brt rfl ?_ | refine p_brf rfl ?_ | refine ⟨_, rfl, ?_⟩ | refine ⟨⟨rfl, rfl⟩, ?_⟩ | refine ⟨⟨rfl, Nat.le_of_ble_eq_true rfl⟩, ?_⟩ | refine ⟨_, _, _, _, rfl, hn, rfl, rfl, ?_⟩ | (refine ⟨_, _, rfl, ⟨rfl, rfl⟩, ?_⟩; try dsimp only [wipeE, List.set_cons_succ, List.set_cons_zero]) | (refine ⟨rfl, ?_⟩; try dsimp only [wipeE, List.set_cons_succ, List.set_cons_zero])))
      refine ⟨⟨rfl, rfl, rfl⟩, p_spec (eq_way kp kp) fun v h3 w => ?_⟩
      obtain ⟨rfl, rfl⟩ := w
      refine ⟨_, rfl, _, rfl, p_brf (by rw [decide_eq_true rfl]; rfl) ?_⟩
      (repeat (first | refine p_var rfl ?_ | refine p_c ?_ | refine p_bin ?_ | refine p_cons ?_ | refine p_nil ?_ | refine p_seq ?_ | refine p_asg ?_ | refine p_sif ?_ | refine p_ret ?_ | refine p_bM ?_ | refine p_tM ?_ | refine p_cb ?_ | refine p_andM ?_ | refine p_orM ?_ | refine p_notM ?_ | refine p_chain ?_ | refine p_andV ?_ | refine p_orV ?_ | refine p_notV ?_ | refine p_ifM ?_ | refine p_tup ?_ | refine p_lst ?_ | refine p_call ?_ | refine p_callK ?_ | refine ⟨⟨⟨rfl, rfl⟩, rfl, rfl⟩, ⟨rfl, rfl⟩, ?_⟩ | refine p_setB ?_ | refine p_sl ?_ | refine p_osome ?_ | refine p_onone ?_ | refine p_snil ?_ | refine p_sexpr ?_ | refine p_retN ?_ | refine p_par ?_ | refine p_sh ?_ | refine p_brt rfl ?_ | refine p_brf rfl ?_ | refine ⟨_, rfl, ?_⟩ | refine ⟨⟨rfl, rfl⟩, ?_⟩ | refine ⟨⟨rfl, Nat.le_of_ble_eq_true rfl⟩, ?_⟩ | refine ⟨_, _, _, _, rfl, hn, rfl, rfl, ?_⟩ | (refine ⟨_, _, rfl, ⟨rfl, rfl⟩, ?_⟩; try dsimp only [wipeE, List.set_cons_succ, List.set_cons_zero]) | (refine ⟨rfl, ?_⟩; try dsimp only [wipeE, List.set_cons_succ, List.set_cons_zero]) | refine p_meA ?_))
      refine p_spec (wtext_spec ko) fun v h3 w => ?_
      obtain ⟨rfl, rfl⟩ := w
      (repeat (first | refine p_var rfl ?_ | refine p_c ?_ | refine p_bin ?_ | refine p_cons ?_ | refine p_nil ?_ | refine p_seq ?_ | refine p_asg ?_ | refine p_sif ?_ | refine p_ret ?_ | refine p_bM ?_ | refine p_tM ?_ | refine p_cb ?_ | refine p_andM ?_ | refine p_orM ?_ | refine p_notM ?_ | refine p_chain ?_ | refine p_andV ?_ | refine p_orV ?_ | refine p_notV ?_ | refine p_ifM ?_ | refine p_tup ?_ | refine p_lst ?_ | refine p_call ?_ | refine p_callK ?_ | refine ⟨⟨⟨rfl, rfl⟩, rfl, rfl⟩, ⟨rfl, rfl⟩, ?_⟩ | refine p_setB ?_ | refine p_sl ?_ | refine p_osome ?_ | refine p_onone ?_ | refine p_snil ?_ | refine p_sexpr ?_ | refine p_retN ?_ | refine p_par ?_ | refine p_sh ?_ | refine p_brt rfl ?_ | refine p_brf rfl ?_ | refine ⟨_, rfl, ?_⟩ | refine ⟨⟨rfl, rfl⟩, ?_⟩ | refine ⟨⟨rfl, Nat.le_of_ble_eq_true rfl⟩, ?_⟩ | refine ⟨_, _, _, _, rfl, hn, rfl, rfl, ?_⟩ | (refine ⟨_, _, rfl, ⟨rfl, rfl⟩, ?_⟩; try dsimp only [wipeE, List.set_cons_succ, List.set_cons_zero]) | (refine ⟨rfl, ?_⟩; try dsimp only [wipeE, List.set_cons_succ, List.set_cons_zero])))
      refine p_spec (read_spec ko) fun v h3 w => ?_
      obtain ⟨rfl, rfl⟩ := w
      (repeat (first | refine p_var rfl ?_ | refine p_c ?_ | refine p_bin ?_ | refine p_cons ?_ | refine p_nil ?_ | refine p_seq ?_ | refine p_asg ?_ | refine p_sif ?_ | refine p_ret ?_ | refine p_bM ?_ | refine p_tM ?_ | refine p_cb ?_ | refine p_andM ?_ | refine p_orM ?_ | refine p_notM ?_ | refine p_chain ?_ | refine p_andV ?_ | refine p_orV ?_ | refine p_notV ?_ | refine p_ifM ?_ | refine p_tup ?_ | refine p_lst ?_ | refine p_call ?_ | refine p_callK ?_ | refine ⟨⟨⟨rfl, rfl⟩, rfl, rfl⟩, ⟨rfl, rfl⟩, ?_⟩ | refine p_setB ?_ | refine p_sl ?_ | refine p_osome ?_ | refine p_onone ?_ | refine p_snil ?_ | refine p_sexpr ?_ | refine p_retN ?_ | refine p_par ?_ | refine p_sh ?_ | refine p_brt rfl ?_ | refine p_brf rfl ?_ | refine ⟨_, rfl, ?_⟩ | refine ⟨⟨rfl, rfl⟩, ?_⟩ | refine ⟨⟨rfl, Nat.le_of_ble_eq_true rfl⟩, ?_⟩ | refine ⟨_, _, _, _, rfl, hn, rfl, rfl, ?_⟩ | (refine ⟨_, _, rfl, ⟨rfl, rfl⟩, ?_⟩; try dsimp only [wipeE, List.set_cons_succ, List.set_cons_zero]) | (refine ⟨rfl, ?_⟩; try dsimp only [wipeE, List.set_cons_succ, List.set_cons_zero])))
      refine p_spec (text_spec ko) fun v h3 w => ?_
      obtain ⟨rfl, rfl⟩ := w
      (repeat (first | refine p_var rfl ?_ | refine p_c ?_ | refine p_bin ?_ | refine p_cons ?_ | refine p_nil ?_ | refine p_seq ?_ | refine p_asg ?_ | refine p_sif ?_ | refine p_ret ?_ | refine p_bM ?_ | refine p_tM ?_ | refine p_cb ?_ | refine p_andM ?_ | refine p_orM ?_ | refine p_notM ?_ | refine p_chain ?_ | refine p_andV ?_ | refine p_orV ?_ | refine p_notV ?_ | refine p_ifM ?_ | refine p_tup ?_ | refine p_lst ?_ | refine p_call ?_ | refine p_callK ?_ | refine ⟨⟨⟨rfl, rfl⟩, rfl, rfl⟩, ⟨rfl, rfl⟩, ?_⟩ | refine p_setB ?_ | refine p_sl ?_ | refine p_osome ?_ | refine p_onone ?_ | refine p_snil ?_ | refine p_sexpr ?_ | refine p_retN ?_ | refine p_par ?_ | refine p_sh ?_ | refine p_brt rfl ?_ | refine p_brf rfl ?_ | refine ⟨_, rfl, ?_⟩ | refine ⟨⟨rfl, rfl⟩, ?_⟩ | refine ⟨⟨rfl, Nat.le_of_ble_eq_true rfl⟩, ?_⟩ | refine ⟨_, _, _, _, rfl, hn, rfl, rfl, ?_⟩ | (refine ⟨_, _, rfl, ⟨rfl, rfl⟩, ?_⟩; try dsimp only [wipeE, List.set_cons_succ, List.set_cons_zero]) | (refine ⟨rfl, ?_⟩; try dsimp only [wipeE, List.set_cons_succ, List.set_cons_zero])))
      refine p_spec (wtext_spec ko) fun v h3 w => ?_
      obtain ⟨rfl, rfl⟩ := w
      (repeat (first | refine p_var rfl ?_ | refine p_c ?_ | refine p_bin ?_ | refine p_cons ?_ | refine p_nil ?_ | refine p_seq ?_ | refine p_asg ?_ | refine p_sif ?_ | refine p_ret ?_ | refine p_bM ?_ | refine p_tM ?_ | refine p_cb ?_ | refine p_andM ?_ | refine p_orM ?_ | refine p_notM ?_ | refine p_chain ?_ | refine p_andV ?_ | refine p_orV ?_ | refine p_notV ?_ | refine p_ifM ?_ | refine p_tup ?_ | refine p_lst ?_ | refine p_call ?_ | refine p_callK ?_ | refine ⟨⟨⟨rfl, rfl⟩, rfl, rfl⟩, ⟨rfl, rfl⟩, ?_⟩ | refine p_setB ?_ | refine p_sl ?_ | refine p_osome ?_ | refine p_onone ?_ | refine p_snil ?_ | refine p_sexpr ?_ | refine p_retN ?_ | refine p_par ?_ | refine p_sh ?_ | refine p_brt rfl ?_ | refine p_brf rfl ?_ | refine ⟨_, rfl, ?_⟩ | refine ⟨⟨rfl, rfl⟩, ?_⟩ | refine ⟨⟨rfl, Nat.le_of_ble_eq_true rfl⟩, ?_⟩ | refine ⟨_, _, _, _, rfl, hn, rfl, rfl, ?_⟩ | (refine ⟨_, _, rfl, ⟨rfl, rfl⟩, ?_⟩; try dsimp only [wipeE, List.set_cons_succ, List.set_cons_zero]) | (refine ⟨rfl, ?_⟩; try dsimp only [wipeE, List.set_cons_succ, List.set_cons_zero])))
      refine p_spec (like_eqv (n := 7) (b := .str (txt o)) rfl trivial) fun v h3 w => ?_
      obtain ⟨rfl, rfl⟩ := w
      (repeat (first | refine p_var rfl ?_ | refine p_c ?_ | refine p_bin ?_ | refine p_cons ?_ | refine p_nil ?_ | refine p_seq ?_ | refine p_asg ?_ | refine p_sif ?_ | refine p_ret ?_ | refine p_bM ?_ | refine p_tM ?_ | refine p_cb ?_ | refine p_andM ?_ | refine p_orM ?_ | refine p_notM ?_ | refine p_chain ?_ | refine p_andV ?_ | refine p_orV ?_ | refine p_notV ?_ | refine p_ifM ?_ | refine p_tup ?_ | refine p_lst ?_ | refine p_call ?_ | refine p_callK ?_ | refine ⟨⟨⟨rfl, rfl⟩, rfl, rfl⟩, ⟨rfl, rfl⟩, ?_⟩ | refine p_setB ?_ | refine p_sl ?_ | refine p_osome ?_ | refine p_onone ?_ | refine p_snil ?_ | refine p_sexpr ?_ | refine p_retN ?_ | refine p_par ?_ | refine p_sh ?_ | refine p_brt rfl ?_ | refine p_brf rfl ?_ | refine ⟨_, rfl, ?_⟩ | refine ⟨⟨rfl, rfl⟩, ?_⟩ | refine ⟨⟨rfl, Nat.le_of_ble_eq_true rfl⟩, ?_⟩ | refine ⟨_, _, _, _, rfl, hn, rfl, rfl, ?_⟩ | (refine ⟨_, _, rfl, ⟨rfl, rfl⟩, ?_⟩; try dsimp only [wipeE, List.set_cons_succ, List.set_cons_zero]) | (refine ⟨rfl, ?_⟩; try dsimp only [wipeE, List.set_cons_succ, List.set_cons_zero])))
      exact ⟨⟨_, rfl, rfl⟩, bg⟩
  · obtain ⟨⟨ys, hl, he⟩, bg⟩ := i
    obtain ⟨y2, y3, y4, y5, y6, y7, y8, y9, y10, y11, y12, y13, y14, rfl⟩ := exp13 ys hl
    obtain ⟨e0, h0⟩ := s
    simp only at he bg
    subst he
    have e8 : ("tttttttt" : Str) = mkS [116, 116, 116, 116, 116, 116, 116, 116] := by decide +kernel
    have e4 : ("tttt" : Str) = mkS [116, 116, 116, 116] := by decide +kernel
    have em : ("tttttttm" : Str) = mkS [116, 116, 116, 116, 116, 116, 116, 109] := by decide +kernel
    have er : ("trrr" : Str) = mkS [116, 114, 114, 114] := by decide +kernel
    have t8 : TabC [116, 116, 116, 116, 116, 116, 116, 116] 8 := ⟨rfl, rfl, fun c hc => by simp at hc; exact .inl hc⟩
    have t4 : TabC [116, 116, 116, 116] 4 := ⟨rfl, rfl, fun c hc => by simp at hc; exact .inl hc⟩
    have tm : TabC [116, 116, 116, 116, 116, 116, 116, 109] 8 := ⟨rfl, rfl, fun c hc => by simp at hc; rcases hc with hc | hc; exact .inl hc; exact .inr (.inr hc)⟩
    have tr : TabC [116, 114, 114, 114] 4 := ⟨rfl, rfl, fun c hc => by simp at hc; rcases hc with hc | hc; exact .inl hc; exact .inr (.inl hc)⟩
    have p0 : (SpecW.mk [116, 116, 116, 116, 116, 116, 116, 116] [116, 116, 116, 116] false false "none").Ok := ⟨t8, t4, .inl rfl⟩
    have pm : (SpecW.mk [116, 116, 116, 116, 116, 116, 116, 109] [116, 116, 116, 116] false false "none").Ok := ⟨tm, t4, .inl rfl⟩
    have pr : (SpecW.mk [116, 116, 116, 116, 116, 116, 116, 116] [116, 114, 114, 114] false false "none").Ok := ⟨t8, tr, .inl rfl⟩
    have et : txt (SpecW.mk [116, 116, 116, 116, 116, 116, 116, 116] [116, 116, 116, 116] false false "none") = "drops tttttttt numbers tttt lock none" := by decide +kernel
    rw [e8, e4]
    (repeat (first | refine p_var rfl ?_ | refine p_c ?_ | refine p_bin ?_ | refine p_cons ?_ | refine p_nil ?_ | refine p_seq ?_ | refine p_asg ?_ | refine p_sif ?_ | refine p_ret ?_ | refine p_bM ?_ | refine p_tM ?_ | refine p_cb ?_ | refine p_andM ?_ | refine p_orM ?_ | refine p_notM ?_ | refine p_chain ?_ | refine p_andV ?_ | refine p_orV ?_ | refine p_notV ?_ | refine p_ifM ?_ | refine p_tup ?_ | refine p_lst ?_ | refine p_call ?_ | refine p_callK ?_ | refine ⟨⟨⟨rfl, rfl⟩, rfl, rfl⟩, ⟨rfl, rfl⟩, ?_⟩ | refine p_setB ?_ | refine p_sl ?_ | refine p_osome ?_ | refine p_onone ?_ | refine p_snil ?_ | refine p_sexpr ?_ | refine p_retN ?_ | refine p_par ?_ | refine p_sh ?_ | refine p_brt rfl ?_ | refine p_brf rfl ?_ | refine ⟨_, rfl, ?_⟩ | refine ⟨⟨rfl, rfl⟩, ?_⟩ | refine ⟨⟨rfl, Nat.le_of_ble_eq_true rfl⟩, ?_⟩ | refine ⟨_, _, _, _, rfl, hn, rfl, rfl, ?_⟩ | (refine ⟨_, _, rfl, ⟨rfl, rfl⟩, ?_⟩; try dsimp only [wipeE, List.set_cons_succ, List.set_cons_zero]) | (refine ⟨rfl, ?_⟩; try dsimp only [wipeE, List.set_cons_succ, List.set_cons_zero]) | refine p_mkA ?_))
    refine p_spec (init_spec p0) fun v h2 z => ?_
    obtain ⟨rfl, rfl⟩ := z
    refine ⟨rfl, _, rfl, rfl, ?_⟩
    (repeat (first | refine p_var rfl ?_ | refine p_c ?_ | refine p_bin ?_ | refine p_cons ?_ | refine p_nil ?_ | refine p_seq ?_ | refine p_asg ?_ | refine p_sif ?_ | refine p_ret ?_ | refine p_bM ?_ | refine p_tM ?_ | refine p_cb ?_ | refine p_andM ?_ | refine p_orM ?_ | refine p_notM ?_ | refine p_chain ?_ | refine p_andV ?_ | refine p_orV ?_ | refine p_notV ?_ | refine p_ifM ?_ | refine p_tup ?_ | refine p_lst ?_ | refine p_call ?_ | refine p_callK ?_ | refine ⟨⟨⟨rfl, rfl⟩, rfl, rfl⟩, ⟨rfl, rfl⟩, ?_⟩ | refine p_setB ?_ | refine p_sl ?_ | refine p_osome ?_ | refine p_onone ?_ | refine p_snil ?_ | refine p_sexpr ?_ | refine p_retN ?_ | refine p_par ?_ | refine p_sh ?_ | refine p_brt rfl ?_ | refine p_brf rfl ?_ | refine ⟨_, rfl, ?_⟩ | refine ⟨⟨rfl, rfl⟩, ?_⟩ | refine ⟨⟨rfl, Nat.le_of_ble_eq_true rfl⟩, ?_⟩ | refine ⟨_, _, _, _, rfl, hn, rfl, rfl, ?_⟩ | (refine ⟨_, _, rfl, ⟨rfl, rfl⟩, ?_⟩; try dsimp only [wipeE, List.set_cons_succ, List.set_cons_zero]) | (refine ⟨rfl, ?_⟩; try dsimp only [wipeE, List.set_cons_succ, List.set_cons_zero]) | refine p_meA ?_))
    refine p_spec (text_spec p0) fun v h2 z => ?_
    obtain ⟨rfl, rfl⟩ := z
    rw [et, em, er]
    (repeat (first | refine p_var rfl ?_ | refine p_c ?_ | refine p_bin ?_ | refine p_cons ?_ | refine p_nil ?_ | refine p_seq ?_ | refine p_asg ?_ | refine p_sif ?_ | refine p_ret ?_ | refine p_bM ?_ | refine p_tM ?_ | refine p_cb ?_ | refine p_andM ?_ | refine p_orM ?_ | refine p_notM ?_ | refine p_chain ?_ | refine p_andV ?_ | refine p_orV ?_ | refine p_notV ?_ | refine p_ifM ?_ | refine p_tup ?_ | refine p_lst ?_ | refine p_call ?_ | refine p_callK ?_ | refine ⟨⟨⟨rfl, rfl⟩, rfl, rfl⟩, ⟨rfl, rfl⟩, ?_⟩ | refine p_setB ?_ | refine p_sl ?_ | refine p_osome ?_ | refine p_onone ?_ | refine p_snil ?_ | refine p_sexpr ?_ | refine p_retN ?_ | refine p_par ?_ | refine p_sh ?_ | refine p_brt rfl ?_ | refine p_brf rfl ?_ | refine ⟨_, rfl, ?_⟩ | refine ⟨⟨rfl, rfl⟩, ?_⟩ | refine ⟨⟨rfl, Nat.le_of_ble_eq_true rfl⟩, ?_⟩ | refine ⟨_, _, _, _, rfl, hn, rfl, rfl, ?_⟩ | (refine ⟨_, _, rfl, ⟨rfl, rfl⟩, ?_⟩; try dsimp only [wipeE, List.set_cons_succ, List.set_cons_zero]) | (refine ⟨rfl, ?_⟩; try dsimp only [wipeE, List.set_cons_succ, List.set_cons_zero]) | refine p_fld ?_ | refine p_mkA ?_))
    refine p_spec (init_spec pm) fun v h2 z => ?_
    obtain ⟨rfl, rfl⟩ := z
    refine ⟨rfl, _, rfl, rfl, ?_⟩
    (repeat (first | refine p_var rfl ?_ | refine p_c ?_ | refine p_bin ?_ | refine p_cons ?_ | refine p_nil ?_ | refine p_seq ?_ | refine p_asg ?_ | refine p_sif ?_ | refine p_ret ?_ | refine p_bM ?_ | refine p_tM ?_ | refine p_cb ?_ | refine p_andM ?_ | refine p_orM ?_ | refine p_notM ?_ | refine p_chain ?_ | refine p_andV ?_ | refine p_orV ?_ | refine p_notV ?_ | refine p_ifM ?_ | refine p_tup ?_ | refine p_lst ?_ | refine p_call ?_ | refine p_callK ?_ | refine ⟨⟨⟨rfl, rfl⟩, rfl, rfl⟩, ⟨rfl, rfl⟩, ?_⟩ | refine p_setB ?_ | refine p_sl ?_ | refine p_osome ?_ | refine p_onone ?_ | refine p_snil ?_ | refine p_sexpr ?_ | refine p_retN ?_ | refine p_par ?_ | refine p_sh ?_ | refine p_brt rfl ?_ | refine p_brf rfl ?_ | refine ⟨_, rfl, ?_⟩ | refine ⟨⟨rfl, rfl⟩, ?_⟩ | refine ⟨⟨rfl, Nat.le_of_ble_eq_true rfl⟩, ?_⟩ | refine ⟨_, _, _, _, rfl, hn, rfl, rfl, ?_⟩ | (refine ⟨_, _, rfl, ⟨rfl, rfl⟩, ?_⟩; try dsimp only [wipeE, List.set_cons_succ, List.set_cons_zero]) | (refine ⟨rfl, ?_⟩; try dsimp only [wipeE, List.set_cons_succ, List.set_cons_zero]) | refine p_fld ?_ | refine p_mkA ?_))
    refine p_spec (init_spec pr) fun v h2 z => ?_
    obtain ⟨rfl, rfl⟩ := z
    refine ⟨rfl, _, rfl, rfl, ?_⟩
    (repeat (first | refine p_var rfl ?_ | refine p_c ?_ | refine p_bin ?_ | refine p_cons ?_ | refine p_nil ?_ | refine p_seq ?_ | refine p_asg ?_ | refine p_sif ?_ | refine p_ret ?_ | refine p_bM ?_ | refine p_tM ?_ | refine p_cb ?_ | refine p_andM ?_ | refine p_orM ?_ | refine p_notM ?_ | refine p_chain ?_ | refine p_andV ?_ | refine p_orV ?_ | refine p_notV ?_ | refine p_ifM ?_ | refine p_tup ?_ | refine p_lst ?_ | refine p_call ?_ | refine p_callK ?_ | refine ⟨⟨⟨rfl, rfl⟩, rfl, rfl⟩, ⟨rfl, rfl⟩, ?_⟩ | refine p_setB ?_ | refine p_sl ?_ | refine p_osome ?_ | refine p_onone ?_ | refine p_snil ?_ | refine p_sexpr ?_ | refine p_retN ?_ | refine p_par ?_ | refine p_sh ?_ | refine p_brt rfl ?_ | refine p_brf rfl ?_ | refine ⟨_, rfl, ?_⟩ | refine ⟨⟨rfl, rfl⟩, ?_⟩ | refine ⟨⟨rfl, Nat.le_of_ble_eq_true rfl⟩, ?_⟩ | refine ⟨_, _, _, _, rfl, hn, rfl, rfl, ?_⟩ | (refine ⟨_, _, rfl, ⟨rfl, rfl⟩, ?_⟩; try dsimp only [wipeE, List.set_cons_succ, List.set_cons_zero]) | (refine ⟨rfl, ?_⟩; try dsimp only [wipeE, List.set_cons_succ, List.set_cons_zero])))
    refine p_spec (like_eqv (n := 7) rfl (dpl_of rfl)) fun v h3 w => ?_
    obtain ⟨rfl, rfl⟩ := w
    (repeat (first | refine p_var rfl ?_ | refine p_c ?_ | refine p_bin ?_ | refine p_cons ?_ | refine p_nil ?_ | refine p_seq ?_ | refine p_asg ?_ | refine p_sif ?_ | refine p_ret ?_ | refine p_bM ?_ | refine p_tM ?_ | refine p_cb ?_ | refine p_andM ?_ | refine p_orM ?_ | refine p_notM ?_ | refine p_chain ?_ | refine p_andV ?_ | refine p_orV ?_ | refine p_notV ?_ | refine p_ifM ?_ | refine p_tup ?_ | refine p_lst ?_ | refine p_call ?_ | refine p_callK ?_ | refine ⟨⟨⟨rfl, rfl⟩, rfl, rfl⟩, ⟨rfl, rfl⟩, ?_⟩ | refine p_setB ?_ | refine p_sl ?_ | refine p_osome ?_ | refine p_onone ?_ | refine p_snil ?_ | refine p_sexpr ?_ | refine p_retN ?_ | refine p_par ?_ | refine p_sh ?_ | refine p_brt rfl ?_ | refine p_brf rfl ?_ | refine ⟨_, rfl, ?_⟩ | refine ⟨⟨rfl, rfl⟩, ?_⟩ | refine ⟨⟨rfl, Nat.le_of_ble_eq_true rfl⟩, ?_⟩ | refine ⟨_, _, _, _, rfl, hn, rfl, rfl, ?_⟩ | (refine ⟨_, _, rfl, ⟨rfl, rfl⟩, ?_⟩; try dsimp only [wipeE, List.set_cons_succ, List.set_cons_zero]) | (refine ⟨rfl, ?_⟩; try dsimp only [wipeE, List.set_cons_succ, List.set_cons_zero])))
end
end LW

set_option Elab.async false
set_option linter.all false
set_option maxRecDepth 100000
set_option maxHeartbeats 0
open PySem PySem.W PySem.Calls PyProof.Rows
theorem PySem.Challenge.cw_latedrops_k04_ways_told_holds : PySem.Challenge.rw_latedrops_k04_ways_told.Holds := by
  w_on; o_law
  refine HandSHeadRun.head_any (r := OpenLaw.row PySem.Challenge.rw_latedrops_k04_ways_told) (q := view (OpenLaw.row PySem.Challenge.rw_latedrops_k04_ways_told).prog [19]) (H := LW.hkT) (ob := LW.obT) (M := 8000) (loose := LW.namesT) (d := HandSHeadRun.topDef (OpenLaw.row PySem.Challenge.rw_latedrops_k04_ways_told).prog 19) (kwd := []) LW.ob_eqT
    (by kernel_rfl) (fun s => by kernel_rfl) LW.runT (by kernel_rfl) (by kernel_rfl) (by kernel_rfl) (by rfl) (by first | assumption | decide +kernel) (by decide +kernel) ⟨rfl, rfl, rfl, rfl, rfl, by decide +kernel⟩ ?hw ?hc
  case hw => w_witness2
  case hc =>
    refine Lp.walkL (l := PySem.Challenge.rw_latedrops_k04_ways_told) (n := 63) (k := 11) (x := "_law_script") (B := LW.BkT) (m := LW.m_law) (fa := LW.faT) (fn := LW.fnT) (ts := LW.tsT) (ls := LW.lsT) rfl (by decide) (by kernel_rfl) ⟨rfl, by decide, by decide⟩ (fun _ _ y => y) (fun _ => rfl) (fun _ => rfl) LW.tabsT ?F LW.law_true
    intro w mg fa h K T KX G hmg0 c
    have hmg : mg ("law" : PySem.Str) = some (.ref fa) := by
      have e : (HandSHeadRun.topDef (OpenLaw.row PySem.Challenge.rw_latedrops_k04_ways_told).prog 19).name = ("law" : PySem.Str) := by kernel_rfl
      rw [← e]
      exact hmg0
    exact LW.factsT (w := w) KX G hmg c
