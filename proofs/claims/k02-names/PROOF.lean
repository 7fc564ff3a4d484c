import PyProof.Rows.All
import Wide.All
import OpenK.AllK
import Wide.FinOn
import HandS.ForMost
import HandS.Defaults
import HandS.MakeKw
import HandS.MakeKwOnly
import HandS.Exc
import HandS.IsInst
import HandS.TupAny
import HandS.TupMul
import HandS.TupLe
import HandS.Style
import HandS.Deep
import HandS.Star
import HandS.Text
import HandS.Zip
import HandS.ExcOwn
import HandS.EndBits
import HandS.Head0
import HandS.Head1
import HandS.Head2
import HandS.HeadEnd
import HandS.HeadHook1
import HandS.HeadHook2
import KE.KStateDown
import PySem.Challenge.RW_latedrops_k02_names_numbers_and_keys

set_option Elab.async false
set_option linter.all false
set_option maxRecDepth 100000
set_option maxHeartbeats 4000000
/-! Lp0: values with their contents (PV), cells, states, and how the layer's heap bears them. -/
namespace Lp
open PySem PySem.Spec PyProof.Rows L2

inductive PV where
  | non | bl (b : Bool) | int (i : Int) | str (x : Str)
  | tup (xs : List PV) | lst (xs : List PV) | scr (xs : List PV) | own (xs : List PV)
  | dic (ks : List (PV × PV)) | don (ks : List (PV × PV))
  | ins (c : Nat) (fs : List PV) | cel (n : Nat)
  | ty (n : String) | cls (c : Nat)

inductive Cell where
  | lst (xs : List PV) | dic (ks : List (PV × PV)) | ins (c : Nat) (fs : List PV)

abbrev AH := List (Option Cell)
structure S where
  e : List (Option PV)
  h : AH

/-- a run's end -/
inductive R (τ : Type) (α : Type) where
  | ok (a : α) (s : τ) | exc (x : PV) (s : τ) | bad
def R.bind {τ α β : Type} (r : R τ α) (f : α → τ → R τ β) : R τ β := match r with
  | .ok a s => f a s
  | .exc x s => .exc x s
  | .bad => .bad
@[simp] theorem R.bind_ok {τ α β : Type} (a : α) (s : τ) (f : α → τ → R τ β) : (R.ok a s).bind f = f a s := rfl
@[simp] theorem R.bind_exc {τ α β : Type} (x : PV) (s : τ) (f : α → τ → R τ β) : (R.exc x s : R τ α).bind f = .exc x s := rfl
@[simp] theorem R.bind_bad {τ α β : Type} (f : α → τ → R τ β) : (R.bad : R τ α).bind f = .bad := rfl
def R.post {τ α : Type} (r : R τ α) (P : α → τ → Prop) (E : PV → τ → Prop) : Prop := match r with
  | .ok a s => P a s
  | .exc x s => E x s
  | .bad => False
theorem R.post_bind {τ α β : Type} {r : R τ α} {f : α → τ → R τ β} {P : β → τ → Prop} {E : PV → τ → Prop} (h : (r.bind f).post P E) : r.post (fun a s => (f a s).post P E) E := by
  cases r with
  | ok a s => exact h
  | exc x s => exact h
  | bad => exact h
theorem R.post_mono {τ α : Type} {r : R τ α} {P P' : α → τ → Prop} {E E' : PV → τ → Prop} (h : r.post P E) (hp : ∀ a s, P a s → P' a s) (he : ∀ x s, E x s → E' x s) : r.post P' E' := by
  cases r with
  | ok a s => exact hp _ _ h
  | exc x s => exact he _ _ h
  | bad => exact h

/-! ### what bears a value -/
/-- the classes by number: where each stands, its fields in order -/
structure Bs where
  K : PySem.W.Frag
  cad : Nat → Addr
  fld : Nat → List Str
/-- what stands still, by content; where the cells stand -/
structure Wd where
  F : Hp
  m : List Addr
def TupAt (B : Bs) (W : Wd) (a : Addr) (vs : List V) : Prop := W.F a = some (.tup vs) ∨
  ∃ (o : Obj) (its : Array Value) (n : Nat), B.K.lookup a = some o ∧ o.cls = .type "tuple" ∧ o.data = .seq its n ∧ its.size ≤ sizeLine ∧ Vals vs its.toList
/-- the script's list: locked, or of the written part -/
def ScrAt (B : Bs) (W : Wd) (a : Addr) (vs : List V) : Prop := ((∃ o, W.F a = some (.frz o (.lst vs))) ∧ vs.length ≤ sizeLine) ∨
  ∃ (o : Obj) (its : Array Value) (n : Nat), B.K.lookup a = some o ∧ o.cls = .type "list" ∧ o.dict = none ∧ o.data = .seq its n ∧ its.size ≤ sizeLine ∧ Vals vs its.toList
/-- a text of signs that are signs, not over the line -/
def SOk (x : Str) : Prop := PyData.strOk x = true ∧ x.length ≤ sizeLine
mutual
inductive Rep (B : Bs) (W : Wd) : PV → V → Prop where
  | non : Rep B W .non .non
  | bl (b : Bool) : Rep B W (.bl b) (.bl b)
  | int (i : Int) : Rep B W (.int i) (.int i)
  | str (x : Str) (h : SOk x) : Rep B W (.str x) (.str x)
  | ty (n : String) : Rep B W (.ty n) (.ty n)
  | cls (c : Nat) : Rep B W (.cls c) (.ref (B.cad c))
  | cel {n : Nat} {a : Addr} (h : W.m[n]? = some a) : Rep B W (.cel n) (.ref a)
  | tup {xs : List PV} {a : Addr} {vs : List V} (h : TupAt B W a vs) (r : Reps B W xs vs) : Rep B W (.tup xs) (.ref a)
  | lst {xs : List PV} {a : Addr} {vs : List V} (h : W.F a = some (.lst vs)) (r : Reps B W xs vs) : Rep B W (.lst xs) (.ref a)
  | scr {xs : List PV} {a : Addr} {vs : List V} (h : ScrAt B W a vs) (r : Reps B W xs vs) : Rep B W (.scr xs) (.ref a)
  | ins {c : Nat} {fs : List PV} {a dx : Addr} {vs : List V} (h : W.F a = some (.ins (B.cad c) dx ((B.fld c).zip vs))) (hl : vs.length ≤ (B.fld c).length) (r : Reps B W fs vs) : Rep B W (.ins c fs) (.ref a)
inductive Reps (B : Bs) (W : Wd) : List PV → List V → Prop where
  | nil : Reps B W [] []
  | cons {x : PV} {v : V} {xs : List PV} {vs : List V} (h : Rep B W x v) (t : Reps B W xs vs) : Reps B W (x :: xs) (v :: vs)
end
/-- worlds grow -/
structure Wd.Le (W W' : Wd) : Prop where
  F : ∀ a o, W.F a = some o → W'.F a = some o
  m : W.m <+: W'.m
theorem Wd.Le.refl (W : Wd) : W.Le W := ⟨fun _ _ h => h, List.prefix_refl _⟩
theorem Wd.Le.trans {W W1 W2 : Wd} (a : W.Le W1) (b : W1.Le W2) : W.Le W2 := ⟨fun c o h => b.F c o (a.F c o h), a.m.trans b.m⟩
theorem Wd.Le.at {W W' : Wd} (l : W.Le W') {n : Nat} {a : Addr} (h : W.m[n]? = some a) : W'.m[n]? = some a := by
  obtain ⟨t, e⟩ := l.m
  rw [← e, List.getElem?_append_left (List.getElem?_eq_some_iff.mp h).1]
  exact h
mutual
theorem Rep.mono {B : Bs} {W W' : Wd} (l : W.Le W') : ∀ {x : PV} {v : V}, Rep B W x v → Rep B W' x v
  | _, _, .non => .non
  | _, _, .bl b => .bl b
  | _, _, .int i => .int i
  | _, _, .str x h => .str x h
  | _, _, .ty n => .ty n
  | _, _, .cls c => .cls c
  | _, _, .cel h => .cel (l.at h)
  | _, _, .tup h r => .tup (h.imp (l.F _ _) fun z => z) (Reps.mono l r)
  | _, _, .lst h r => .lst (l.F _ _ h) (Reps.mono l r)
  | _, _, .scr h r => .scr (h.imp (fun ⟨⟨o, e⟩, z⟩ => ⟨⟨o, l.F _ _ e⟩, z⟩) fun z => z) (Reps.mono l r)
  | _, _, .ins h hl r => .ins (l.F _ _ h) hl (Reps.mono l r)
theorem Reps.mono {B : Bs} {W W' : Wd} (l : W.Le W') : ∀ {xs : List PV} {vs : List V}, Reps B W xs vs → Reps B W' xs vs
  | _, _, .nil => .nil
  | _, _, .cons h t => .cons (Rep.mono l h) (Reps.mono l t)
end
section
variable {B : Bs} {W : Wd}
theorem Reps.length : ∀ {xs : List PV} {vs : List V}, Reps B W xs vs → xs.length = vs.length
  | _, _, .nil => rfl
  | _, _, .cons _ t => congrArg Nat.succ (Reps.length t)
theorem Reps.append : ∀ {xs ys : List PV} {vs ws : List V}, Reps B W xs vs → Reps B W ys ws → Reps B W (xs ++ ys) (vs ++ ws)
  | _, _, _, _, .nil, s => s
  | _, _, _, _, .cons r t, s => .cons r (Reps.append t s)
theorem Reps.get : ∀ {xs : List PV} {vs : List V} {i : Nat} {x : PV}, Reps B W xs vs → xs[i]? = some x → ∃ v, vs[i]? = some v ∧ Rep B W x v
  | _, _, _, _, .nil, e => by simp at e
  | _, _, 0, _, .cons r _, e => by simp at e; subst e; exact ⟨_, rfl, r⟩
  | _, _, i + 1, x, .cons _ t, e => by
    obtain ⟨u, h1, h2⟩ := Reps.get (i := i) (x := x) t (by simpa using e)
    exact ⟨u, by simpa using h1, h2⟩
theorem Reps.get' {xs : List PV} {vs : List V} {i : Nat} {v : V} (r : Reps B W xs vs) (e : vs[i]? = some v) : ∃ x, xs[i]? = some x ∧ Rep B W x v := by
  have hi : i < xs.length := by rw [r.length]; exact (List.getElem?_eq_some_iff.mp e).1
  obtain ⟨v', e', h⟩ := r.get (List.getElem?_eq_getElem hi)
  rw [e] at e'; cases e'
  exact ⟨_, List.getElem?_eq_getElem hi, h⟩
theorem Reps.set {x : PV} {v : V} (r : Rep B W x v) : ∀ {xs : List PV} {vs : List V} (i : Nat), Reps B W xs vs → Reps B W (xs.set i x) (vs.set i v)
  | _, _, _, .nil => .nil
  | _, _, 0, .cons _ t => .cons r t
  | _, _, i + 1, .cons q t => .cons q (Reps.set r i t)
theorem Reps.take : ∀ {xs : List PV} {vs : List V} (n : Nat), Reps B W xs vs → Reps B W (xs.take n) (vs.take n)
  | _, _, 0, _ => .nil
  | _, _, _ + 1, .nil => .nil
  | _, _, n + 1, .cons r t => .cons r (Reps.take n t)
theorem Reps.drop : ∀ {xs : List PV} {vs : List V} (n : Nat), Reps B W xs vs → Reps B W (xs.drop n) (vs.drop n)
  | _, _, 0, r => r
  | _, _, _ + 1, .nil => .nil
  | _, _, n + 1, .cons _ t => Reps.drop n t
theorem Reps.one {x : PV} {v : V} (r : Rep B W x v) : Reps B W [x] [v] := .cons r .nil
theorem Reps.rep {xs : List PV} {vs : List V} (h : Reps B W xs vs) : ∀ k : Nat, Reps B W (List.replicate k xs).flatten (List.replicate k vs).flatten
  | 0 => .nil
  | k + 1 => by
    rw [List.replicate_succ, List.replicate_succ, List.flatten_cons, List.flatten_cons]
    exact h.append (Reps.rep h k)
theorem Reps.reverse : ∀ {xs : List PV} {vs : List V}, Reps B W xs vs → Reps B W xs.reverse vs.reverse
  | _, _, .nil => .nil
  | _, _, .cons r t => by rw [List.reverse_cons, List.reverse_cons]; exact (Reps.reverse t).append (.one r)
end

/-! ### the heap -/
def Live (W : Wd) (h : AH) (a : Addr) : Prop := ∃ (n : Nat) (c : Cell), h[n]? = some (some c) ∧ W.m[n]? = some a
def CellR (B : Bs) (W : Wd) (H : Hp) (a : Addr) : Cell → Prop
  | .lst xs => ∃ vs, H a = some (.lst vs) ∧ Reps B W xs vs
  | .dic _ => False
  | .ins c fs => ∃ dx vs, H a = some (.ins (B.cad c) dx ((B.fld c).zip vs)) ∧ vs.length ≤ (B.fld c).length ∧ Reps B W fs vs
/-- an object within the line -/
def SzO : HO → Prop
  | .lst vs => vs.length ≤ sizeLine
  | .tup vs => vs.length ≤ sizeLine
  | _ => True
structure HRel (B : Bs) (W : Wd) (h : AH) (H : Hp) : Prop where
  agree : ∀ a o, W.F a = some o → H a = some o
  len : W.m.length = h.length
  nd : W.m.Nodup
  mt : ∀ a ∈ W.m, H a ≠ none
  hz : ∀ a o, H a = some o → SzO o
  cell : ∀ (n : Nat) (c : Cell) (a : Addr), h[n]? = some (some c) → W.m[n]? = some a → W.F a = none ∧ CellR B W H a c
structure Step (W : Wd) (h : AH) (H : Hp) (W' : Wd) (h' : AH) (H' : Hp) : Prop where
  le : W.Le W'
  hl : h.length ≤ h'.length
  dead : ∀ (n : Nat) (c : Cell), n < h.length → h'[n]? = some (some c) → ∃ c0, h[n]? = some (some c0)
  keep : ∀ a o, H a = some o → ¬ Live W h a → H' a = some o
  tr : ∀ a, H' a = none → H a = none
  fgrow : ∀ a, W.F a = none → H a ≠ none → ¬ Live W h a → W'.F a = none
  hm : W'.m.length = h'.length
  mnew : ∀ (n : Nat) (a : Addr), h.length ≤ n → W'.m[n]? = some a → H a = none
section
variable {B : Bs} {W W' W1 : Wd} {h h' h1 : AH} {H H' H1 : Hp}
theorem Step.refl (r : HRel B W h H) : Step W h H W h H := ⟨.refl W, Nat.le_refl _, fun n c _ e => ⟨c, e⟩, fun _ _ e _ => e, fun _ e => e, fun _ e _ _ => e, r.len, fun n a hn e => by
  have := (List.getElem?_eq_some_iff.mp e).1
  rw [r.len] at this; omega⟩
theorem Live.back (s : Step W h H W1 h1 H1) (r : W.m.length = h.length) {a : Addr} (l : Live W1 h1 a) (e : H a ≠ none) : Live W h a := by
  obtain ⟨n, c, e1, e2⟩ := l
  by_cases hn : n < h.length
  · obtain ⟨c0, e0⟩ := s.dead n c hn e1
    have hm : n < W.m.length := by omega
    have q := s.le.at (List.getElem?_eq_getElem hm)
    rw [e2] at q
    cases q
    exact ⟨n, c0, e0, List.getElem?_eq_getElem hm⟩
  · exact absurd (s.mnew n a (by omega) e2) e
theorem Step.trans (r : W.m.length = h.length) (a : Step W h H W1 h1 H1) (b : Step W1 h1 H1 W' h' H') : Step W h H W' h' H' where
  le := a.le.trans b.le
  hl := Nat.le_trans a.hl b.hl
  dead := fun n c hn e => by
    obtain ⟨c1, e1⟩ := b.dead n c (Nat.lt_of_lt_of_le hn a.hl) e
    exact a.dead n c1 hn e1
  keep := fun x o e nl => b.keep x o (a.keep x o e nl) fun l => nl (l.back a r (by rw [e]; exact fun z => nomatch z))
  tr := fun x e => a.tr x (b.tr x e)
  fgrow := fun x e ne nl => b.fgrow x (a.fgrow x e ne nl) (fun z => ne (a.tr x z)) fun l => nl (l.back a r ne)
  hm := b.hm
  mnew := fun n x hn e => by
    by_cases h1' : h1.length ≤ n
    · exact a.tr x (b.mnew n x h1' e)
    · have hm : n < W1.m.length := by rw [a.hm]; omega
      have q := b.le.at (List.getElem?_eq_getElem hm)
      rw [e] at q
      cases q
      exact a.mnew n _ hn (List.getElem?_eq_getElem hm)
end
end Lp

set_option Elab.async false
set_option linter.all false
set_option maxRecDepth 100000
set_option maxHeartbeats 4000000
/-! Lp1: the judgements, names, constants, operators, tests. -/
namespace Lp
open PySem PySem.Spec PyProof.Rows L2

/-! ### a def's state -/
def isOwn : PV → Bool
  | .own _ => true
  | .don _ => true
  | _ => false
def SlotR (B : Bs) (W : Wd) (H H0 : Hp) (x : PV) (v : V) : Prop := match x with
  | .own xs => ∃ a vs, v = .ref a ∧ H a = some (.lst vs) ∧ Reps B W xs vs ∧ W.F a = none ∧ a ∉ W.m ∧ H0 a = none
  | .don _ => False
  | x => Rep B W x v
/-- a value in hand: a list of a slot's own may be read -/
def RepT (B : Bs) (W : Wd) (H : Hp) (x : PV) (v : V) : Prop := match x with
  | .own xs => ∃ a vs, v = .ref a ∧ H a = some (.lst vs) ∧ Reps B W xs vs ∧ a ∉ W.m
  | .don _ => False
  | x => Rep B W x v
/-- several values in hand -/
def RepTs (B : Bs) (W : Wd) (H : Hp) : List PV → List V → Prop
  | [], [] => True
  | x :: xs, v :: vs => RepT B W H x v ∧ RepTs B W H xs vs
  | _, _ => False
structure Ent where
  W : Wd
  h : AH
  H : Hp
  len : W.m.length = h.length
  P : Wd
structure Rel (B : Bs) (N : Ent) (W : Wd) (s : S) (σ : L2.St) (H : Hp) : Prop where
  hr : HRel B W s.h H
  st : Step N.W N.h N.H W s.h H
  len : σ.length = s.e.length
  env : ∀ (i : Nat) (x : PV), s.e[i]? = some (some x) → ∃ v, σ[i]? = some (some v) ∧ SlotR B W H N.H x v
  dis : ∀ (i j : Nat) (x y : PV) (a : Addr), i ≠ j → s.e[i]? = some (some x) → s.e[j]? = some (some y) → isOwn x = true → isOwn y = true → σ[i]? = some (some (.ref a)) → σ[j]? = some (some (.ref a)) → False
  pin : N.P.Le W
theorem Rep.slot {B : Bs} {W : Wd} {H H0 : Hp} {x : PV} {v : V} (r : Rep B W x v) : SlotR B W H H0 x v := by
  cases r <;> (first | exact .non | exact .bl _ | exact .int _ | (rename_i h; exact .str _ h) | exact .ty _ | exact .cls _ | (rename_i h; exact .cel h) | skip)
  · rename_i h r; exact Rep.tup h r
  · rename_i h r; exact Rep.lst h r
  · rename_i h r; exact Rep.scr h r
  · rename_i h hl r; exact Rep.ins h hl r
theorem Rep.hand {B : Bs} {W : Wd} {H : Hp} {x : PV} {v : V} (r : Rep B W x v) : RepT B W H x v := by
  cases r <;> (first | exact .non | exact .bl _ | exact .int _ | (rename_i h; exact .str _ h) | exact .ty _ | exact .cls _ | (rename_i h; exact .cel h) | skip)
  · rename_i h r; exact Rep.tup h r
  · rename_i h r; exact Rep.lst h r
  · rename_i h r; exact Rep.scr h r
  · rename_i h hl r; exact Rep.ins h hl r
theorem SlotR.hand {B : Bs} {W : Wd} {H H0 : Hp} {x : PV} {v : V} (r : SlotR B W H H0 x v) : RepT B W H x v := by
  cases x with
  | own xs =>
    obtain ⟨a, vs, e, h, r, _, nm, _⟩ := r
    exact ⟨a, vs, e, h, r, nm⟩
  | don ks => exact r
  | _ => exact r
theorem RepT.rep {B : Bs} {W : Wd} {H : Hp} {x : PV} {v : V} (r : RepT B W H x v) (o : isOwn x = false) : Rep B W x v := by
  cases x with
  | own xs => cases o
  | don ks => cases o
  | _ => exact r

section
variable {B : Bs} {N : Ent} {W W' : Wd} {s s' : S} {σ : L2.St} {H H' : Hp}
theorem Rel.slen (r : Rel B N W s σ H) : W.m.length = s.h.length := r.hr.len
theorem Live.mem {W : Wd} {h : AH} {a : Addr} (l : Live W h a) : a ∈ W.m := let ⟨_, _, _, e⟩ := l; List.mem_of_getElem? e
theorem Step.notm {W W' : Wd} {h h' : AH} {H H' : Hp} {a : Addr} (st : Step W h H W' h' H') (hl : W.m.length = h.length) (n : a ∉ W.m) (e : H a ≠ none) : a ∉ W'.m := fun z => by
  obtain ⟨k, e1⟩ := List.mem_iff_getElem?.mp z
  by_cases hk : h.length ≤ k
  · exact e (st.mnew k a hk e1)
  · have hm : k < W.m.length := by omega
    have q := st.le.at (List.getElem?_eq_getElem hm)
    rw [e1] at q
    cases q
    exact n (List.getElem_mem hm)
theorem RepT.on {x : PV} {v : V} (hl : W.m.length = s.h.length) (st : Step W s.h H W' s'.h H') (r : RepT B W H x v) : RepT B W' H' x v := by
  cases x with
  | own xs =>
    obtain ⟨a, vs, e, h, r, n⟩ := r
    exact ⟨a, vs, e, st.keep _ _ h fun l => n l.mem, r.mono st.le, st.notm hl n (by rw [h]; exact fun z => nomatch z)⟩
  | don ks => exact r
  | _ => exact Rep.mono st.le r
theorem RepTs.on (hl : W.m.length = s.h.length) (st : Step W s.h H W' s'.h H') : ∀ {xs : List PV} {vs : List V}, RepTs B W H xs vs → RepTs B W' H' xs vs
  | [], [], _ => trivial
  | x :: xs, v :: vs, ⟨h, t⟩ => ⟨h.on hl st, RepTs.on hl st t⟩
  | [], _ :: _, h => h.elim
  | _ :: _, [], h => h.elim
end

/-! ### judgements -/
def ExcR (B : Bs) (W : Wd) (H : Hp) (x : PV) (cls : Value) (d : Option Addr) : Prop :=
  ∃ (c : Nat) (fs : List PV) (dd : Addr) (vs : List V), x = .ins c fs ∧ cls = .ref (B.cad c) ∧ d = some dd ∧ H dd = some (.xd ((B.fld c).zip vs)) ∧ vs.length = (B.fld c).length ∧ Reps B W fs vs
abbrev ME := S → R S PV
/-- a step of an expression: no slot gets a list of its own -/
structure StepE (W : Wd) (s : S) (H : Hp) (W' : Wd) (s' : S) (H' : Hp) : Prop where
  st : Step W s.h H W' s'.h H'
  eo : ∀ (i : Nat) (x : PV), s'.e[i]? = some (some x) → isOwn x = true → s.e[i]? = some (some x)
theorem StepE.refl {B : Bs} {W : Wd} {s : S} {H : Hp} (r : HRel B W s.h H) : StepE W s H W s H := ⟨Step.refl r, fun _ _ e _ => e⟩
theorem StepE.trans {W W1 W2 : Wd} {s s1 s2 : S} {H H1 H2 : Hp} (hl : W.m.length = s.h.length) (a : StepE W s H W1 s1 H1) (b : StepE W1 s1 H1 W2 s2 H2) : StepE W s H W2 s2 H2 := ⟨a.st.trans hl b.st, fun i x e o => a.eo i x (b.eo i x e o) o⟩
/-- what is wanted behind a run that began at W, s, H: of its value at each state that bears it; of an exception -/
def Post (B : Bs) (N : Ent) (WX : WX) {α : Type} (W : Wd) (s : S) (H : Hp) (σ : L2.St) (r : R S α) (P : α → Wd → S → Hp → Prop) : Prop := r.post
  (fun v s' => ∀ W' H', Rel B N W' s' σ H' → StepE W s H W' s' H' → P v W' s' H')
  (fun x s' => ∀ W' H' cls d, Rel B N W' s' σ H' → StepE W s H W' s' H' → ExcR B W' H' x cls d → WX cls d σ H')
section
variable {B : Bs} {N : Ent} {WX : WX} {α β : Type} {W W1 : Wd} {s s1 : S} {H H1 : Hp} {σ : L2.St}
theorem Post.from {r : R S α} {P : α → Wd → S → Hp → Prop} (hl : W.m.length = s.h.length) (st : StepE W s H W1 s1 H1) (q : Post B N WX W s H σ r P) : Post B N WX W1 s1 H1 σ r P :=
  R.post_mono q (fun _ _ q W' H' r' st' => q W' H' r' (st.trans hl st')) fun _ _ q W' H' cls d r' st' => q W' H' cls d r' (st.trans hl st')
theorem Post.mono {r : R S α} {P P' : α → Wd → S → Hp → Prop} (q : Post B N WX W s H σ r P) (k : ∀ v W' s' H', Rel B N W' s' σ H' → StepE W s H W' s' H' → P v W' s' H' → P' v W' s' H') : Post B N WX W s H σ r P' :=
  R.post_mono q (fun _ _ q W' H' r' st' => k _ _ _ _ r' st' (q W' H' r' st')) fun _ _ q => q
theorem Post.bind {r : R S α} {f : α → S → R S β} {P : β → Wd → S → Hp → Prop} (hl : W.m.length = s.h.length) (q : Post B N WX W s H σ (r.bind f) P) : Post B N WX W s H σ r fun v W' s' H' => Post B N WX W' s' H' σ (f v s') P :=
  R.post_mono (R.post_bind q) (fun _ _ q W' H' r' st' => Post.from hl st' q) fun _ _ q => q
theorem Post.ok {v : α} {P : α → Wd → S → Hp → Prop} (r : Rel B N W s σ H) (q : Post B N WX W s H σ (.ok v s) P) : P v W s H := q W H r (StepE.refl r.hr)
end
def tE (B : Bs) (N : Ent) (WX : WX) (m : ME) : TE := fun σ H Q => ∃ W s, Rel B N W s σ H ∧ Post B N WX W s H σ (m s) fun v W' _ H' => ∀ v', RepT B W' H' v v' → Q v' H'
def tT (B : Bs) (N : Ent) (WX : WX) (m : S → R S Bool) : TT := fun σ H Q => ∃ W s, Rel B N W s σ H ∧ Post B N WX W s H σ (m s) fun v _ _ H' => Q v H'
def tA (B : Bs) (N : Ent) (WX : WX) (m : S → R S (List PV)) : TA := fun σ H Q => ∃ W s, Rel B N W s σ H ∧ Post B N WX W s H σ (m s) fun v W' _ H' => ∀ v', RepTs B W' H' v v' → Q v' H'
abbrev SimE (X : Cx) (B : Bs) (N : Ent) (WX : WX) (e : Expr) (m : ME) : Prop := PE X e (tE B N WX m)
abbrev SimT (X : Cx) (B : Bs) (N : Ent) (WX : WX) (e : Expr) (m : S → R S Bool) : Prop := PT X e (tT B N WX m)
abbrev SimW (X : Cx) (B : Bs) (N : Ent) (WX : WX) (e : Expr) (m : S → R S Bool) : Prop := PW X e (tT B N WX m)
abbrev SimA (X : Cx) (B : Bs) (N : Ent) (WX : WX) (es : List Expr) (m : S → R S (List PV)) : Prop := PA X es (tA B N WX m)
theorem _root_.L2.PE.imp {X : Cx} {e : Expr} {t t' : TE} (h : PE X e t) (w : ∀ σ H Q, t' σ H Q → t σ H Q) : PE X e t' := ⟨fun pins s σ H Q I q => h.run pins s σ H Q I (w _ _ _ q)⟩
theorem _root_.L2.PT.imp {X : Cx} {e : Expr} {t t' : TT} (h : PT X e t) (w : ∀ σ H Q, t' σ H Q → t σ H Q) : PT X e t' := ⟨fun pins s σ H Q I q => h.run pins s σ H Q I (w _ _ _ q)⟩
theorem _root_.L2.PW.imp {X : Cx} {e : Expr} {t t' : TT} (h : PW X e t) (w : ∀ σ H Q, t' σ H Q → t σ H Q) : PW X e t' := ⟨fun wh pins s σ H Q I q => h.run wh pins s σ H Q I (w _ _ _ q)⟩
theorem _root_.L2.PA.imp {X : Cx} {e : List Expr} {t t' : TA} (h : PA X e t) (w : ∀ σ H Q, t' σ H Q → t σ H Q) : PA X e t' := ⟨fun p pins s σ H Q I q => h.run p pins s σ H Q I (w _ _ _ q)⟩
theorem _root_.L2.PS.imp {X : Cx} {e : Stmt} {t t' : TS} (h : PS X e t) (w : ∀ D σ H, t' D σ H → t D σ H) : PS X e t' := ⟨fun pins s σ H D I q => h.run pins s σ H D I (w _ _ _ q)⟩
theorem _root_.L2.PSs.imp {X : Cx} {e : List Stmt} {t t' : TS} (h : PSs X e t) (w : ∀ D σ H, t' D σ H → t D σ H) : PSs X e t' := ⟨fun pins s σ H D I q => h.run pins s σ H D I (w _ _ _ q)⟩

/-! ### names, constants -/
def eVar (i : Nat) : ME := fun s => match s.e[i]? with
  | some (some v) => .ok v s
  | _ => .bad
def eC (v : PV) : ME := fun s => .ok v s
section
variable {X : Cx} {B : Bs} {N : Ent} {WX : WX}
theorem sim_var {i : Nat} {x : Str} {pos : Pos} (hN : X.N[i]? = some x) (hv : Vis X.env.scope x) (hd : (x == ("__debug__" : Str)) = false) (hcd : (x == ("__classdict__" : Str)) = false) : SimE X B N WX (.Name x pos) (eVar i) :=
  (pe_var hN hv hd hcd).imp fun σ H Q ⟨W, s, r, h⟩ => by
    unfold eVar at h
    split at h
    · rename_i v e
      obtain ⟨v', e', sl⟩ := r.env i v e
      exact ⟨v', e', h.ok r v' sl.hand⟩
    · exact h.elim
theorem sim_c {e : Expr} {x : PV} {v : V} (h : PE X e (tC v)) (rx : ∀ W, Rep B W x v) : SimE X B N WX e (eC x) :=
  h.imp fun σ H Q ⟨W, s, r, h⟩ => h.ok r v (rx W).hand
theorem sim_int {i : Int} {j pos} : SimE X B N WX (.Constant (.int i) j pos) (eC (.int i)) := sim_c pe_int fun _ => .int i
theorem sim_bl {b : Bool} {j pos} : SimE X B N WX (.Constant (.bool b) j pos) (eC (.bl b)) := sim_c pe_bl fun _ => .bl b
theorem sim_non {j pos} : SimE X B N WX (.Constant .none j pos) (eC .non) := sim_c pe_non fun _ => .non
theorem sim_str {x : Str} {j pos} (h : SOk x) : SimE X B N WX (.Constant (.str x) j pos) (eC (.str x)) := sim_c pe_str fun _ => .str x h
end

/-! ### two-place operations by values -/
/-- a pure operation that a rule of the layer bears -/
def BinSem (X : Cx) (B : Bs) (f : AH → PV → PV → Option PV) (r : R2) : Prop := ∀ (W : Wd) (h : AH) (H : Hp) (x y z : PV) (x' y' : V) (Q : VK), HRel B W h H → RepT B W H x x' → RepT B W H y y' → f h x y = some z →
  (∀ z', RepT B W H z z' → Q z' H) → r x' y' H Q
def eBin (f : AH → PV → PV → Option PV) (a b : ME) : ME := fun s => (a s).bind fun x s1 => (b s1).bind fun y s2 => match f s2.h x y with
  | some z => .ok z s2
  | none => .bad
section
variable {X : Cx} {B : Bs} {N : Ent} {WX : WX} {a b : Expr} {ma mb : ME} {pos : Pos}
/-- two expressions in a row: what is known behind both -/
theorem two {f : PV → PV → S → R S PV} {σ : L2.St} {H : Hp} {Q : VK} (h : tE B N WX (fun s => (ma s).bind fun x s1 => (mb s1).bind fun y s2 => f x y s2) σ H Q) {k : V → V → Hp → Prop}
    (hk : ∀ W2 s2 H2 x y x' y', Rel B N W2 s2 σ H2 → RepT B W2 H2 x x' → RepT B W2 H2 y y' → Post B N WX W2 s2 H2 σ (f x y s2) (fun u W' _ H' => ∀ u', RepT B W' H' u u' → Q u' H') → k x' y' H2) :
    tE B N WX ma σ H fun x' H1 => tE B N WX mb σ H1 fun y' H2 => k x' y' H2 := by
  obtain ⟨W, s, r, h⟩ := h
  refine ⟨W, s, r, (h.bind r.slen).mono fun x W1 s1 H1 r1 _ q x' rx => ⟨W1, s1, r1, (q.bind r1.slen).mono fun y W2 s2 H2 r2 st2 q y' ry => ?_⟩⟩
  exact hk W2 s2 H2 x y x' y' r2 (rx.on r1.slen st2.st) ry q
theorem sim_bin {op : Operator} {r : R2} {f : AH → PV → PV → Option PV} (ho : OpR X (binaryOp op) r) (hf : BinSem X B f r) (ha : SimE X B N WX a ma) (hb : SimE X B N WX b mb) : SimE X B N WX (.BinOp a op b pos) (eBin f ma mb) :=
  (pe_op ho ha hb).imp fun σ H Q h => two h fun W2 s2 H2 x y x' y' r2 rx ry q => by
    split at q
    · rename_i z e
      exact hf W2 s2.h H2 x y z x' y' Q r2.hr rx ry e fun z' rz => q.ok r2 z' rz
    · exact q.elim
theorem sim_cmp {op : CmpOp} {r : R2} {f : AH → PV → PV → Option PV} (ho : OpR X (compareOp op) r) (hf : BinSem X B f r) (ha : SimE X B N WX a ma) (hb : SimE X B N WX b mb) (hm : behindInMarks op b = false) : SimE X B N WX (.Compare a [op] [b] pos) (eBin f ma mb) :=
  (pe_cmpR ho ha hb hm).imp fun σ H Q h => two h fun W2 s2 H2 x y x' y' r2 rx ry q => by
    split at q
    · rename_i z e
      exact hf W2 s2.h H2 x y z x' y' Q r2.hr rx ry e fun z' rz => q.ok r2 z' rz
    · exact q.elim
end

/-! ### tests -/
def asL (h : AH) : PV → Option (List PV)
  | .lst xs => some xs
  | .own xs => some xs
  | .scr xs => some xs
  | .cel n => match h[n]? with
    | some (some (.lst xs)) => some xs
    | _ => none
  | _ => none
def tru (h : AH) : PV → Option Bool
  | .non => some false
  | .bl b => some b
  | .int i => some (i != 0)
  | .str x => some ((x.length : Int) != 0)
  | .tup xs => some (!xs.isEmpty)
  | x => (asL h x).map fun xs => !xs.isEmpty
section
variable {X : Cx} {B : Bs} {N : Ent} {WX : WX} {W : Wd} {h : AH} {H : Hp}
theorem asL_ok (hr : HRel B W h H) {x : PV} {x' : V} {xs : List PV} (rx : RepT B W H x x') (e : asL h x = some xs) : ∃ a vs, x' = .ref a ∧ SqL B.K H a vs ∧ Reps B W xs vs := by
  cases x with
  | lst ys =>
    cases e
    cases (show Rep B W (.lst _) x' from rx) with
    | lst h r => exact ⟨_, _, rfl, .inl (.inl (hr.agree _ _ h)), r⟩
  | scr ys =>
    cases e
    cases (show Rep B W (.scr _) x' from rx) with
    | scr h r => exact ⟨_, _, rfl, h.imp (fun ⟨⟨o, e⟩, _⟩ => .inr ⟨o, hr.agree _ _ e⟩) fun z => z, r⟩
  | own ys =>
    cases e
    obtain ⟨a, vs, rfl, h, r, _⟩ := rx
    exact ⟨a, vs, rfl, .inl (.inl h), r⟩
  | cel n =>
    cases (show Rep B W (.cel n) x' from rx) with
    | cel h1 =>
      unfold asL at e
      dsimp only at e
      split at e
      · rename_i ys q
        cases e
        obtain ⟨_, vs, h2, r⟩ := hr.cell n _ _ q h1
        exact ⟨_, vs, rfl, .inl (.inl h2), r⟩
      · cases e
  | _ => cases e
theorem asL_sz (hr : HRel B W h H) {x : PV} {x' : V} {xs : List PV} (rx : RepT B W H x x') (e : asL h x = some xs) : xs.length ≤ sizeLine := by
  cases x with
  | lst ys =>
    cases e
    cases (show Rep B W (.lst _) x' from rx) with
    | lst h r => rw [r.length]; exact hr.hz _ _ (hr.agree _ _ h)
  | scr ys =>
    cases e
    cases (show Rep B W (.scr _) x' from rx) with
    | scr h r =>
      rw [r.length]
      rcases h with ⟨_, z⟩ | ⟨o, its, n, _, _, _, _, z, q⟩
      · exact z
      · rw [q.length, Array.length_toList]; exact z
  | own ys =>
    cases e
    obtain ⟨a, vs, rfl, h, r, _⟩ := rx
    rw [r.length]; exact hr.hz _ _ h
  | cel n =>
    cases (show Rep B W (.cel n) x' from rx) with
    | cel h1 =>
      unfold asL at e
      dsimp only at e
      split at e
      · rename_i ys q
        cases e
        obtain ⟨_, vs, h2, r⟩ := hr.cell n _ _ q h1
        rw [r.length]; exact hr.hz _ _ h2
      · cases e
  | _ => cases e
theorem rd_sql (hK : X.K = B.K) {a : Addr} {vs : List V} (h : SqL B.K H a vs) : SqL X.K H a vs := hK ▸ h
theorem tup_ok (hK : X.K = B.K) (hr : HRel B W h H) {x' : V} {xs : List PV} (rx : Rep B W (.tup xs) x') : ∃ a vs, x' = .ref a ∧ SqT X.K H a vs ∧ Reps B W xs vs := by
  cases rx with
  | tup h r =>
    refine ⟨_, _, rfl, ?_, r⟩
    rcases h with h | ⟨o, its, n, h1, h2, h3, h4, h5⟩
    · exact .inl (.inl (hr.agree _ _ h))
    · exact .inr ⟨o, its, n, hK ▸ h1, h2, h3, h4, h5⟩
theorem reps_emp {xs : List PV} {vs : List V} (r : Reps B W xs vs) : (!xs.isEmpty) = !vs.isEmpty := by
  cases r <;> rfl
theorem tru_sem (hK : X.K = B.K) (hr : HRel B W h H) {x : PV} {x' : V} {b : Bool} (rx : RepT B W H x x') (e : tru h x = some b) : TruV X.K x' H b := by
  have fin : ∀ xs, asL h x = some xs → b = !xs.isEmpty → TruV X.K x' H b := fun xs e1 e2 => by
    obtain ⟨a, vs, rfl, h1, r⟩ := asL_ok hr rx e1
    exact .inl ⟨vs, rd_sql hK h1, by rw [e2, reps_emp r]⟩
  cases x with
  | non => cases (show Rep B W .non x' from rx); cases e; exact rfl
  | bl c => cases (show Rep B W (.bl c) x' from rx); cases e; exact rfl
  | int i => cases (show Rep B W (.int i) x' from rx); cases e; exact rfl
  | str y =>
    cases (show Rep B W (.str y) x' from rx) with
    | str _ hy =>
      cases e
      exact ⟨hy.2, rfl⟩
  | tup xs =>
    obtain ⟨a, vs, rfl, h1, r⟩ := tup_ok hK hr (show Rep B W (.tup xs) x' from rx)
    cases e
    exact .inr (.inl ⟨vs, h1, reps_emp r⟩)
  | lst ys => cases e; exact fin ys rfl rfl
  | scr ys => cases e; exact fin ys rfl rfl
  | own ys => cases e; exact fin ys rfl rfl
  | cel n =>
    have e' : (asL h (.cel n)).map (fun xs => !xs.isEmpty) = some b := e
    cases q : asL h (.cel n) with
    | none => rw [q] at e'; cases e'
    | some xs =>
      rw [q] at e'
      cases e'
      exact fin xs q rfl
  | _ => cases e
end
def tM (m : ME) : S → R S Bool := fun s => (m s).bind fun v s1 => match tru s1.h v with
  | some b => .ok b s1
  | none => .bad
def andM (a b : S → R S Bool) : S → R S Bool := fun s => (a s).bind fun c s1 => if c = true then b s1 else .ok false s1
def orM (a b : S → R S Bool) : S → R S Bool := fun s => (a s).bind fun c s1 => if c = true then .ok true s1 else b s1
def notM (a : S → R S Bool) : S → R S Bool := fun s => (a s).bind fun c s1 => .ok (!c) s1
def blM (a : S → R S Bool) : ME := fun s => (a s).bind fun c s1 => .ok (.bl c) s1
def ifM (c : S → R S Bool) (a b : ME) : ME := fun s => (c s).bind fun k s1 => if k = true then a s1 else b s1
/-- a value that is True or False -/
def bM (m : ME) : S → R S Bool := fun s => (m s).bind fun v s1 => match v with
  | .bl b => .ok b s1
  | _ => .bad
section
variable {X : Cx} {B : Bs} {N : Ent} {WX : WX} {a b c : Expr} {rest : List Expr} {ma mb : ME} {ta tb : S → R S Bool} {pos : Pos}
theorem sim_truth (hK : X.K = B.K) (ha : SimE X B N WX a ma) (he : ∀ whole, isTrue a X.env whole = (do let v ← whole; standAt a.pos; holding [v] (truthy v))) : SimT X B N WX a (tM ma) :=
  (pt_truth ha he).imp fun σ H Q ⟨W, s, r, h⟩ => ⟨W, s, r, (h.bind r.slen).mono fun v W1 s1 H1 r1 _ q v' rv => by
    split at q
    · rename_i k e
      exact ⟨k, tru_sem hK r1.hr rv e, q.ok r1⟩
    · exact q.elim⟩
theorem tB_of {ma : ME} {σ : L2.St} {H : Hp} {Q : Bool → Hp → Prop} (h : tT B N WX (bM ma) σ H Q) : tE B N WX ma σ H fun x H1 => ∃ c, x = .bl c ∧ Q c H1 := by
  obtain ⟨W, s, r, h⟩ := h
  refine ⟨W, s, r, (h.bind r.slen).mono fun v W1 s1 H1 r1 _ q v' rv => ?_⟩
  cases v with
  | bl c =>
    cases (show Rep B W1 (.bl c) v' from rv)
    exact ⟨c, rfl, q.ok r1⟩
  | _ => exact q.elim
/-- a comparison as a test -/
theorem sim_tcmp {op : CmpOp} {r : R2} {f : AH → PV → PV → Option PV} (ho : OpR X (compareOp op) r) (hf : BinSem X B f r) (ha : SimE X B N WX a ma) (hb : SimE X B N WX b mb) (hm : behindInMarks op b = false) : SimT X B N WX (.Compare a [op] [b] pos) (bM (eBin f ma mb)) :=
  (pt_cmpR ho ha hb hm).imp fun σ H Q h => two (tB_of h) fun W2 s2 H2 x y x' y' r2 rx ry q => by
    split at q
    · rename_i z e
      exact hf W2 s2.h H2 x y z x' y' _ r2.hr rx ry e fun z' rz => q.ok r2 z' rz
    · exact q.elim
theorem tAnd_of {σ : L2.St} {H : Hp} {Q : Bool → Hp → Prop} (h : tT B N WX (andM ta tb) σ H Q) : tAnd (tT B N WX ta) (tT B N WX tb) σ H Q := by
  obtain ⟨W, s, r, h⟩ := h
  refine ⟨W, s, r, (h.bind r.slen).mono fun c W1 s1 H1 r1 _ q => ?_⟩
  cases c with
  | true => exact iteT ⟨W1, s1, r1, q⟩
  | false => exact iteF (q.ok r1)
theorem tOr_of {σ : L2.St} {H : Hp} {Q : Bool → Hp → Prop} (h : tT B N WX (orM ta tb) σ H Q) : tOr (tT B N WX ta) (tT B N WX tb) σ H Q := by
  obtain ⟨W, s, r, h⟩ := h
  refine ⟨W, s, r, (h.bind r.slen).mono fun c W1 s1 H1 r1 _ q => ?_⟩
  cases c with
  | true => exact iteT (q.ok r1)
  | false => exact iteF ⟨W1, s1, r1, q⟩
theorem simw_and1 (ha : SimT X B N WX a ta) : SimW X B N WX (.BoolOp .And [a] pos) ta := pw_and1 ha
theorem simw_or1 (ha : SimT X B N WX a ta) : SimW X B N WX (.BoolOp .Or [a] pos) ta := pw_or1 ha
theorem simw_and (ha : SimT X B N WX a ta) (hb : SimW X B N WX (.BoolOp .And (b :: rest) pos) tb) : SimW X B N WX (.BoolOp .And (a :: b :: rest) pos) (andM ta tb) := (pw_and ha hb).imp fun _ _ _ h => tAnd_of h
theorem simw_or (ha : SimT X B N WX a ta) (hb : SimW X B N WX (.BoolOp .Or (b :: rest) pos) tb) : SimW X B N WX (.BoolOp .Or (a :: b :: rest) pos) (orM ta tb) := (pw_or ha hb).imp fun _ _ _ h => tOr_of h
theorem sim_tbool {op : BoolOp} {es : List Expr} (h : SimW X B N WX (.BoolOp op es pos) ta) : SimT X B N WX (.BoolOp op es pos) ta := h.pt
theorem sim_tnot (ha : SimT X B N WX a ta) : SimT X B N WX (.UnaryOp .Not a pos) (notM ta) := (pt_not ha).imp fun σ H Q ⟨W, s, r, h⟩ => ⟨W, s, r, (h.bind r.slen).mono fun c W1 s1 H1 r1 _ q => q.ok r1⟩
theorem sim_ifexp (hc : SimT X B N WX c ta) (ha : SimE X B N WX a ma) (hb : SimE X B N WX b mb) : SimE X B N WX (.IfExp c a b pos) (ifM ta ma mb) :=
  (pe_ifExp hc ha hb).imp fun σ H Q ⟨W, s, r, h⟩ => ⟨W, s, r, (h.bind r.slen).mono fun k W1 s1 H1 r1 _ q => by
    cases k with
    | true => exact iteT ⟨W1, s1, r1, q⟩
    | false => exact iteF ⟨W1, s1, r1, q⟩⟩
/-! as values -/
def andV (a b : ME) : ME := fun s => (a s).bind fun v s1 => match v with
  | .bl true => b s1
  | .bl false => .ok (.bl false) s1
  | _ => .bad
def orV (a b : ME) : ME := fun s => (a s).bind fun v s1 => match v with
  | .bl true => .ok (.bl true) s1
  | .bl false => b s1
  | _ => .bad
def notV (a : ME) : ME := fun s => (a s).bind fun v s1 => match v with
  | .bl k => .ok (.bl (!k)) s1
  | _ => .bad
theorem sim_one {op : BoolOp} (ha : SimE X B N WX a ma) : SimE X B N WX (.BoolOp op [a] pos) ma := pe_one ha
theorem sim_and (ha : SimE X B N WX a ma) (hb : SimE X B N WX (.BoolOp .And (b :: rest) pos) mb) : SimE X B N WX (.BoolOp .And (a :: b :: rest) pos) (andV ma mb) :=
  (pe_and ha hb).imp fun σ H Q ⟨W, s, r, h⟩ => ⟨W, s, r, (h.bind r.slen).mono fun v W1 s1 H1 r1 _ q v' rv => by
    cases v with
    | bl k =>
      cases (show Rep B W1 (.bl k) v' from rv)
      cases k with
      | true => exact ⟨true, rfl, iteT ⟨W1, s1, r1, q⟩⟩
      | false => exact ⟨false, rfl, iteF (q.ok r1 _ (Rep.bl false).hand)⟩
    | _ => exact q.elim⟩
theorem sim_or (ha : SimE X B N WX a ma) (hb : SimE X B N WX (.BoolOp .Or (b :: rest) pos) mb) : SimE X B N WX (.BoolOp .Or (a :: b :: rest) pos) (orV ma mb) :=
  (pe_or ha hb).imp fun σ H Q ⟨W, s, r, h⟩ => ⟨W, s, r, (h.bind r.slen).mono fun v W1 s1 H1 r1 _ q v' rv => by
    cases v with
    | bl k =>
      cases (show Rep B W1 (.bl k) v' from rv)
      cases k with
      | true => exact ⟨true, rfl, iteT (q.ok r1 _ (Rep.bl true).hand)⟩
      | false => exact ⟨false, rfl, iteF ⟨W1, s1, r1, q⟩⟩
    | _ => exact q.elim⟩
theorem sim_not (ha : SimE X B N WX a ma) : SimE X B N WX (.UnaryOp .Not a pos) (notV ma) :=
  (pe_not ha).imp fun σ H Q ⟨W, s, r, h⟩ => ⟨W, s, r, (h.bind r.slen).mono fun v W1 s1 H1 r1 _ q v' rv => by
    cases v with
    | bl k =>
      cases (show Rep B W1 (.bl k) v' from rv)
      exact ⟨k, rfl, q.ok r1 _ (Rep.bl (!k)).hand⟩
    | _ => exact q.elim⟩
end
end Lp

set_option Elab.async false
set_option linter.all false
set_option maxRecDepth 100000
set_option maxHeartbeats 4000000
/-! Lp2: operations on values, with new objects. -/
namespace Lp
open PySem PySem.Spec PyProof.Rows L2

/-! ### a new object that stands still -/
inductive Grow : Wd → Hp → Wd → Hp → Prop where
  | refl (W : Wd) (H : Hp) : Grow W H W H
  | new {W : Wd} {H : Hp} {p : Addr} {o : HO} (hp : H p = none) (ho : SzO o) : Grow W H ⟨upd W.F p o, W.m⟩ (upd H p o)
section
variable {B : Bs} {N : Ent} {W W' : Wd} {h : AH} {s : S} {σ : L2.St} {H H' : Hp} {p : Addr} {o : HO}
theorem HRel.fnone (r : HRel B W h H) (hp : H p = none) : W.F p = none := by
  cases e : W.F p with
  | none => rfl
  | some o => rw [r.agree _ _ e] at hp; cases hp
theorem le_new (hF : W.F p = none) : W.Le ⟨upd W.F p o, W.m⟩ := ⟨fun a u e => by
  show upd W.F p o a = some u
  rw [upd_ne (ne_of_none e hF)]; exact e, List.prefix_refl _⟩
theorem CellR.mono {c : Cell} {a : Addr} (l : W.Le W') (hH : ∀ u, H a = some u → H' a = some u) (r : CellR B W H a c) : CellR B W' H' a c := by
  cases c with
  | lst xs => obtain ⟨vs, h1, h2⟩ := r; exact ⟨vs, hH _ h1, h2.mono l⟩
  | dic ks => exact r
  | ins c fs => obtain ⟨dx, vs, h1, h2, h3⟩ := r; exact ⟨dx, vs, hH _ h1, h2, h3.mono l⟩
theorem hrel_new (r : HRel B W h H) (hp : H p = none) (ho : SzO o) : HRel B ⟨upd W.F p o, W.m⟩ h (upd H p o) := by
  have hF := r.fnone hp
  refine ⟨fun a u e => ?_, r.len, r.nd, fun a hm => ?_, fun a u e => ?_, fun n c a e1 e2 => ?_⟩
  · by_cases ha : a = p
    · subst ha
      have e : upd W.F a o a = some u := e
      rw [upd_same] at e
      rw [upd_same]; exact e
    · have e : upd W.F p o a = some u := e
      rw [upd_ne ha] at e
      rw [upd_ne ha]; exact r.agree _ _ e
  · have ha : a ≠ p := fun z => r.mt a hm (by rw [z]; exact hp)
    rw [upd_ne ha]; exact r.mt a hm
  · by_cases ha : a = p
    · rw [ha, upd_same] at e
      cases e
      exact ho
    · rw [upd_ne ha] at e
      exact r.hz a u e
  · obtain ⟨h1, h2⟩ := r.cell n c a e1 e2
    have ha : a ≠ p := by
      cases c with
      | lst xs => obtain ⟨vs, h, _⟩ := h2; exact ne_of_none h hp
      | dic ks => exact h2.elim
      | ins c fs => obtain ⟨dx, vs, h, _⟩ := h2; exact ne_of_none h hp
    exact ⟨by show upd W.F p o a = none; rw [upd_ne ha]; exact h1, h2.mono (le_new hF) fun u e => by rw [upd_ne ha]; exact e⟩
theorem step_new (r : HRel B W h H) (hp : H p = none) : Step W h H ⟨upd W.F p o, W.m⟩ h (upd H p o) := by
  have hF := r.fnone hp
  refine ⟨le_new hF, Nat.le_refl _, fun n c _ e => ⟨c, e⟩, fun a u e _ => by rw [upd_ne (ne_of_none e hp)]; exact e, fun a e => ?_, fun a e ne _ => ?_, r.len, fun n a hn e => ?_⟩
  · by_cases ha : a = p
    · subst ha; exact hp
    · rw [upd_ne ha] at e; exact e
  · have ha : a ≠ p := fun z => ne (z ▸ hp)
    show upd W.F p o a = none
    rw [upd_ne ha]; exact e
  · have e : W.m[n]? = some a := e
    have := (List.getElem?_eq_some_iff.mp e).1
    rw [r.len] at this
    omega
theorem SlotR.mono {x : PV} {v : V} {H0 : Hp} (l : W.Le W') (hm : W'.m = W.m) (hH : ∀ a u, H a = some u → H' a = some u) (hF : ∀ a, W.F a = none → H a ≠ none → W'.F a = none) (r : SlotR B W H H0 x v) : SlotR B W' H' H0 x v := by
  cases x with
  | own xs =>
    obtain ⟨a, vs, e, h, r, f, nm, h0⟩ := r
    exact ⟨a, vs, e, hH _ _ h, r.mono l, hF a f (by rw [h]; exact fun z => nomatch z), by rw [hm]; exact nm, h0⟩
  | don ks => exact r
  | _ => exact Rep.mono l r
theorem rel_new (r : Rel B N W s σ H) (hp : H p = none) (ho : SzO o) : Rel B N ⟨upd W.F p o, W.m⟩ s σ (upd H p o) :=
  ⟨hrel_new r.hr hp ho, r.st.trans N.len (step_new r.hr hp), r.len, fun i x e => by
    obtain ⟨v, e', sl⟩ := r.env i x e
    refine ⟨v, e', sl.mono (le_new (r.hr.fnone hp)) rfl (fun a u q => by rw [upd_ne (ne_of_none q hp)]; exact q) fun a q ne => ?_⟩
    show upd W.F p o a = none
    have ha : a ≠ p := fun z => ne (by rw [z]; exact hp)
    rw [upd_ne ha]; exact q, r.dis, r.pin.trans (le_new (r.hr.fnone hp))⟩
theorem Grow.rel (g : Grow W H W' H') (r : Rel B N W s σ H) : Rel B N W' s σ H' := by
  cases g with
  | refl => exact r
  | new hp ho => exact rel_new r hp ho
theorem Grow.step (g : Grow W H W' H') (r : HRel B W h H) : Step W h H W' h H' := by
  cases g with
  | refl => exact Step.refl r
  | new hp _ => exact step_new r hp
theorem Grow.stepE (g : Grow W H W' H') (r : HRel B W s.h H) : StepE W s H W' s H' := ⟨g.step r, fun _ _ e _ => e⟩
theorem rep_tup_new {xs : List PV} {vs : List V} (hF : W.F p = none) (r : Reps B W xs vs) : Rep B ⟨upd W.F p (.tup vs), W.m⟩ (.tup xs) (.ref p) := .tup (.inl upd_same) (r.mono (le_new hF))
theorem rep_lst_new {xs : List PV} {vs : List V} (hF : W.F p = none) (r : Reps B W xs vs) : Rep B ⟨upd W.F p (.lst vs), W.m⟩ (.lst xs) (.ref p) := .lst upd_same (r.mono (le_new hF))
end
/-- an operation that a rule of the layer bears -/
def OpSem (X : Cx) (B : Bs) (f : AH → PV → PV → Option PV) (r : R2) : Prop := ∀ (W : Wd) (h : AH) (H : Hp) (x y z : PV) (x' y' : V) (Q : VK), HRel B W h H → RepT B W H x x' → RepT B W H y y' → f h x y = some z →
  (∀ W' H' z', Grow W H W' H' → RepT B W' H' z z' → Q z' H') → r x' y' H Q
theorem OpSem.or {X : Cx} {B : Bs} {f g : AH → PV → PV → Option PV} {r r' : R2} (a : OpSem X B f r) (b : OpSem X B g r') : OpSem X B (fun h x y => (f h x y).or (g h x y)) (fun x y H Q => r x y H Q ∨ r' x y H Q) := by
  intro W h H x y z x' y' Q hr rx ry e q
  have e : (f h x y).or (g h x y) = some z := e
  cases ef : f h x y with
  | some z' =>
    rw [ef] at e
    cases e
    exact .inl (a W h H x y z x' y' Q hr rx ry ef q)
  | none =>
    rw [ef] at e
    exact .inr (b W h H x y z x' y' Q hr rx ry e q)
section
variable {X : Cx} {B : Bs} {N : Ent} {WX : WX} {a b : Expr} {ma mb : ME} {pos : Pos}
theorem op_fin {f : AH → PV → PV → Option PV} {r : R2} (hf : OpSem X B f r) {W2 : Wd} {s2 : S} {σ : L2.St} {H2 : Hp} {x y : PV} {x' y' : V} {Q : VK} (r2 : Rel B N W2 s2 σ H2) (rx : RepT B W2 H2 x x') (ry : RepT B W2 H2 y y')
    (q : Post B N WX W2 s2 H2 σ (match f s2.h x y with | some z => R.ok z s2 | none => .bad) fun u W' _ H' => ∀ u', RepT B W' H' u u' → Q u' H') : r x' y' H2 Q := by
  split at q
  · rename_i z e
    exact hf W2 s2.h H2 x y z x' y' Q r2.hr rx ry e fun W' H' z' g rz => q W' H' (g.rel r2) (g.stepE r2.hr) z' rz
  · exact q.elim
theorem sim_op {op : Operator} {r : R2} {f : AH → PV → PV → Option PV} (ho : OpR X (binaryOp op) r) (hf : OpSem X B f r) (ha : SimE X B N WX a ma) (hb : SimE X B N WX b mb) : SimE X B N WX (.BinOp a op b pos) (eBin f ma mb) :=
  (pe_op ho ha hb).imp fun σ H Q h => two h fun W2 s2 H2 x y x' y' r2 rx ry q => op_fin hf r2 rx ry q
theorem sim_cmpO {op : CmpOp} {r : R2} {f : AH → PV → PV → Option PV} (ho : OpR X (compareOp op) r) (hf : OpSem X B f r) (ha : SimE X B N WX a ma) (hb : SimE X B N WX b mb) (hm : behindInMarks op b = false) : SimE X B N WX (.Compare a [op] [b] pos) (eBin f ma mb) :=
  (pe_cmpR ho ha hb hm).imp fun σ H Q h => two h fun W2 s2 H2 x y x' y' r2 rx ry q => op_fin hf r2 rx ry q
theorem op_finT {f : AH → PV → PV → Option PV} {r : R2} (hf : OpSem X B f r) {W2 : Wd} {s2 : S} {σ : L2.St} {H2 : Hp} {x y : PV} {x' y' : V} {Q : VK} (r2 : Rel B N W2 s2 σ H2) (rx : RepT B W2 H2 x x') (ry : RepT B W2 H2 y y')
    (q : Post B N WX W2 s2 H2 σ (match f s2.h x y with | some z => R.ok z s2 | none => .bad) fun u W' _ H' => ∀ u', RepT B W' H' u u' → Q u' H') : r x' y' H2 Q := op_fin hf r2 rx ry q
theorem sim_tcmpO {op : CmpOp} {r : R2} {f : AH → PV → PV → Option PV} (ho : OpR X (compareOp op) r) (hf : OpSem X B f r) (ha : SimE X B N WX a ma) (hb : SimE X B N WX b mb) (hm : behindInMarks op b = false) : SimT X B N WX (.Compare a [op] [b] pos) (bM (eBin f ma mb)) :=
  (pt_cmpR ho ha hb hm).imp fun σ H Q h => two (tB_of h) fun W2 s2 H2 x y x' y' r2 rx ry q => op_fin hf r2 rx ry q
end

/-! ### arithmetic -/
def fI (g : Int → Int → Option Int) : AH → PV → PV → Option PV := fun _ x y => match x, y with
  | .int i, .int j => (g i j).map .int
  | _, _ => none
def fIB (g : Int → Int → Bool) : AH → PV → PV → Option PV := fun _ x y => match x, y with
  | .int i, .int j => some (.bl (g i j))
  | _, _ => none
section
variable {X : Cx} {B : Bs} {W : Wd} {H : Hp}
theorem rep_int {i : Int} {v : V} (r : RepT B W H (.int i) v) : v = .int i := by cases (show Rep B W (.int i) v from r); rfl
theorem rep_bl {b : Bool} {v : V} (r : RepT B W H (.bl b) v) : v = .bl b := by cases (show Rep B W (.bl b) v from r); rfl
theorem rep_non {v : V} (r : RepT B W H .non v) : v = .non := by cases (show Rep B W .non v from r); rfl
theorem rep_str {x : Str} {v : V} (r : RepT B W H (.str x) v) : v = .str x ∧ SOk x := by
  cases (show Rep B W (.str x) v from r) with
  | str _ h => exact ⟨rfl, h⟩
theorem sem_I {g : Int → Int → Option Int} {C : Int → Int → Prop} {f : Int → Int → Int} (hg : ∀ i j k, g i j = some k → C i j ∧ f i j = k) : OpSem X B (fI g) (rI C fun i j => .int (f i j)) := by
  intro W h H x y z x' y' Q hr rx ry e q
  unfold fI at e
  split at e
  · rename_i i j
    cases eg : g i j with
    | none => rw [eg] at e; cases e
    | some k =>
      rw [eg] at e
      cases e
      obtain ⟨c, ek⟩ := hg i j k eg
      exact ⟨i, j, rep_int rx, rep_int ry, c, q W H _ (.refl W H) (by show RepT B W H (.int k) (.int (f i j)); rw [ek]; exact (Rep.int k).hand)⟩
  · cases e
theorem sem_I0 {f : Int → Int → Int} : OpSem X B (fI fun i j => some (f i j)) (rI0 fun i j => .int (f i j)) := by
  intro W h H x y z x' y' Q hr rx ry e q
  unfold fI at e
  split at e
  · rename_i i j
    cases e
    exact ⟨i, j, rep_int rx, rep_int ry, q W H _ (.refl W H) (Rep.int _).hand⟩
  · cases e
theorem sem_IB {g : Int → Int → Bool} : OpSem X B (fIB g) (rI0 fun i j => .bl (g i j)) := by
  intro W h H x y z x' y' Q hr rx ry e q
  unfold fIB at e
  split at e
  · rename_i i j
    cases e
    exact ⟨i, j, rep_int rx, rep_int ry, q W H _ (.refl W H) (Rep.bl _).hand⟩
  · cases e
end
/-- a product with one factor below 2^64 -/
def mulG (i j : Int) : Option Int := if (i.natAbs < 18446744073709551616) ∨ (j.natAbs < 18446744073709551616) then some (i * j) else none
def fdivG (i j : Int) : Option Int := if j ≠ 0 ∧ j.natAbs < 1073741824 then some (i.fdiv j) else none
def modG (i j : Int) : Option Int := if j ≠ 0 then some (i.fmod j) else none
def powG (i j : Int) : Option Int := if 0 ≤ j ∧ j ≤ 1000 ∧ i.natAbs < 18446744073709551616 then some (i ^ j.toNat) else none
theorem mulG_ok : ∀ i j k, mulG i j = some k → CMul i j ∧ i * j = k := fun i j k e => by
  unfold mulG at e
  split at e
  · rename_i h
    refine ⟨?_, Option.some.inj e⟩
    unfold CMul
    rcases h with h | h
    · exact .inl (by omega)
    · exact .inr (by omega)
  · cases e
theorem fdivG_ok : ∀ i j k, fdivG i j = some k → CDivN i j ∧ i.fdiv j = k := fun i j k e => by
  unfold fdivG at e
  split at e
  · rename_i h
    exact ⟨h, Option.some.inj e⟩
  · cases e
theorem modG_ok : ∀ i j k, modG i j = some k → j ≠ 0 ∧ i.fmod j = k := fun i j k e => by
  unfold modG at e
  split at e
  · rename_i h
    exact ⟨h, Option.some.inj e⟩
  · cases e
theorem powG_ok : ∀ i j k, powG i j = some k → CPow i j ∧ i ^ j.toNat = k := fun i j k e => by
  unfold powG at e
  split at e
  · rename_i h
    exact ⟨⟨h.1, by omega, by have := h.2.2; omega⟩, Option.some.inj e⟩
  · cases e

/-! ### texts, lists, tuples joined -/
def strOkL (x : Str) : Bool := decide (x.length ≤ sizeLine)
def fAddS : AH → PV → PV → Option PV := fun _ x y => match x, y with
  | .str i, .str j => if i.length + j.length ≤ sizeLine then some (.str (i ++ j)) else none
  | _, _ => none
/-- a list that stands by itself -/
def asM (h : AH) : PV → Option (List PV)
  | .lst xs => some xs
  | .own xs => some xs
  | .cel n => match h[n]? with
    | some (some (.lst xs)) => some xs
    | _ => none
  | _ => none
def fAddL : AH → PV → PV → Option PV := fun h x y => match asM h x, asM h y with
  | some xs, some ys => if xs.length + ys.length ≤ sizeLine then some (.lst (xs ++ ys)) else none
  | _, _ => none
def fAddT : AH → PV → PV → Option PV := fun _ x y => match x, y with
  | .tup xs, .tup ys => if xs.length + ys.length ≤ sizeLine then some (.tup (xs ++ ys)) else none
  | _, _ => none
def fRepL : AH → PV → PV → Option PV := fun h x y => match asM h x, y with
  | some xs, .int k => if k.natAbs < 1000000 ∧ xs.length * k.toNat ≤ sizeLine then some (.lst (List.replicate k.toNat xs).flatten) else none
  | _, _ => none
section
variable {X : Cx} {B : Bs} {W : Wd} {h : AH} {H : Hp}
theorem asM_ok (hr : HRel B W h H) {x : PV} {x' : V} {xs : List PV} (rx : RepT B W H x x') (e : asM h x = some xs) : ∃ a vs, x' = .ref a ∧ H a = some (.lst vs) ∧ Reps B W xs vs := by
  cases x with
  | lst ys =>
    cases e
    cases (show Rep B W (.lst _) x' from rx) with
    | lst h r => exact ⟨_, _, rfl, hr.agree _ _ h, r⟩
  | own ys =>
    cases e
    obtain ⟨a, vs, rfl, h, r, _⟩ := rx
    exact ⟨a, vs, rfl, h, r⟩
  | cel n =>
    cases (show Rep B W (.cel n) x' from rx) with
    | cel h1 =>
      unfold asM at e
      dsimp only at e
      split at e
      · rename_i ys q
        cases e
        obtain ⟨_, vs, h2, r⟩ := hr.cell n _ _ q h1
        exact ⟨_, vs, rfl, h2, r⟩
      · cases e
  | _ => cases e
theorem sok_append {i j : Str} (a : SOk i) (b : SOk j) (h : i.length + j.length ≤ sizeLine) : SOk (i ++ j) := by
  have e : (i ++ j).cps = i.cps ++ j.cps := rfl
  refine ⟨?_, ?_⟩
  · show (i ++ j).cps.all (· < 0x110000) = true
    rw [e, Array.all_append]
    rw [show i.cps.all (· < 0x110000) = true from a.1, show j.cps.all (· < 0x110000) = true from b.1]
    rfl
  · show (i ++ j).cps.size ≤ sizeLine
    rw [e, Array.size_append]
    exact h
theorem sem_addS : OpSem X B fAddS (fun x y H Q => ∃ i j, x = .str i ∧ y = .str j ∧ i.length + j.length ≤ sizeLine ∧ Q (.str (i ++ j)) H) := by
  intro W h H x y z x' y' Q hr rx ry e q
  unfold fAddS at e
  split at e
  · rename_i i j
    split at e
    · rename_i hz
      cases e
      obtain ⟨e1, k1⟩ := rep_str rx
      obtain ⟨e2, k2⟩ := rep_str ry
      exact ⟨i, j, e1, e2, hz, q W H _ (.refl W H) (Rep.str _ (sok_append k1 k2 hz)).hand⟩
    · cases e
  · cases e
theorem sem_addL : OpSem X B fAddL rCat := by
  intro W h H x y z x' y' Q hr rx ry e q
  unfold fAddL at e
  split at e
  · rename_i xs ys ex ey
    split at e
    · rename_i hz
      cases e
      obtain ⟨a, vs, rfl, ha, ra⟩ := asM_ok hr rx ex
      obtain ⟨b, ws, rfl, hb, rb⟩ := asM_ok hr ry ey
      refine ⟨a, b, vs, ws, rfl, rfl, ha, hb, by rw [← ra.length, ← rb.length]; exact hz, fun p hp => q _ _ _ (.new hp (by show (vs ++ ws).length ≤ sizeLine; rw [List.length_append, ← ra.length, ← rb.length]; exact hz)) ?_⟩
      exact (rep_lst_new (hr.fnone hp) (ra.append rb)).hand
    · cases e
  · cases e
theorem sem_addT (hK : X.K = B.K) : OpSem X B fAddT (rCatA X.K) := by
  intro W h H x y z x' y' Q hr rx ry e q
  unfold fAddT at e
  split at e
  · rename_i xs ys
    split at e
    · rename_i hz
      cases e
      obtain ⟨a, vs, rfl, ha, ra⟩ := tup_ok hK hr (show Rep B W (.tup xs) x' from rx)
      obtain ⟨b, ws, rfl, hb, rb⟩ := tup_ok hK hr (show Rep B W (.tup ys) y' from ry)
      refine ⟨a, b, vs, ws, rfl, rfl, ha, hb, by rw [← ra.length, ← rb.length]; exact hz, fun z => ?_, fun _ z => ?_, fun _ _ p hp => q _ _ _ (.new hp (by show (vs ++ ws).length ≤ sizeLine; rw [List.length_append, ← ra.length, ← rb.length]; exact hz)) ?_⟩
      · subst z
        have e0 : xs = [] := List.length_eq_zero_iff.mp ra.length
        subst e0
        exact q W H _ (.refl W H) ry
      · subst z
        have e0 : ys = [] := List.length_eq_zero_iff.mp rb.length
        subst e0
        rw [List.append_nil] at q
        exact q W H _ (.refl W H) rx
      · exact (rep_tup_new (hr.fnone hp) (ra.append rb)).hand
    · cases e
  · cases e
theorem flat_len {α : Type} (xs : List α) (k : Nat) : (List.replicate k xs).flatten.length = xs.length * k := by
  rw [List.length_flatten, List.map_replicate, List.sum_replicate_nat, Nat.mul_comm]
theorem sem_repL : OpSem X B fRepL rRep := by
  intro W h H x y z x' y' Q hr rx ry e q
  unfold fRepL at e
  split at e
  · rename_i xs k ex
    split at e
    · rename_i hz
      cases e
      obtain ⟨a, vs, rfl, ha, ra⟩ := asM_ok hr rx ex
      refine ⟨a, k, vs, rfl, rep_int ry, ha, by omega, by omega, by rw [← ra.length]; exact hz.2, fun p hp => q _ _ _ (.new hp (by show (List.replicate k.toNat vs).flatten.length ≤ sizeLine; rw [flat_len, ← ra.length]; exact hz.2)) ?_⟩
      exact (rep_lst_new (hr.fnone hp) (ra.rep _)).hand
    · cases e
  · cases e
end

/-! ### == and != of data -/
mutual
def toD : PV → Option PyData
  | .non => some .none
  | .bl b => some (.bool b)
  | .int i => some (.int i)
  | .str x => some (.str x)
  | .tup xs => (toDs xs).map .tuple
  | .lst xs => (toDs xs).map .list
  | _ => none
def toDs : List PV → Option (List PyData)
  | [] => some []
  | x :: xs => match toD x, toDs xs with
    | some d, some ds => some (d :: ds)
    | _, _ => none
end
def toDh (h : AH) (x : PV) : Option PyData := match x with
  | .own xs => (toDs xs).map .list
  | .cel n => match h[n]? with
    | some (some (.lst xs)) => (toDs xs).map .list
    | _ => none
  | x => toD x
/-- data that are not nested too deep -/
def dOk (d : PyData) : Bool := decide (d.depth ≤ 64)
def fEq : AH → PV → PV → Option PV := fun h x y => match toDh h x, toDh h y with
  | some d, some e => if dOk d && dOk e then some (.bl (PyData.eqv d e)) else none
  | _, _ => none
def fNe : AH → PV → PV → Option PV := fun h x y => match toDh h x, toDh h y with
  | some d, some e => if dOk d && dOk e then some (.bl (!PyData.eqv d e)) else none
  | _, _ => none
section
variable {X : Cx} {B : Bs} {W : Wd} {h : AH} {H : Hp}
mutual
theorem toD_dp (hK : X.K = B.K) (hr : HRel B W h H) : ∀ {x : PV} {v : V} {d : PyData}, Rep B W x v → toD x = some d → Dp X.K H v d ∧ d.canLay0 = true
  | _, _, _, .non, e => by cases e; exact ⟨.non, rfl⟩
  | _, _, _, .bl b, e => by cases e; exact ⟨.bl b, rfl⟩
  | _, _, _, .int i, e => by cases e; exact ⟨.int i, rfl⟩
  | _, _, _, .str x k, e => by cases e; exact ⟨.str x, by simpa [PyData.canLay0] using k.1⟩
  | _, _, _, .ty n, e => by simp [toD] at e
  | _, _, _, .cls c, e => by simp [toD] at e
  | _, _, _, .cel h, e => by simp [toD] at e
  | _, _, _, .ins h1 h2 h3, e => by simp [toD] at e
  | .tup xs, _, _, .tup h1 r, e => by
    rw [toD] at e
    cases q : toDs xs with
    | none => rw [q] at e; cases e
    | some ds =>
      rw [q] at e
      cases e
      obtain ⟨h2, h3⟩ := toDs_dp hK hr r q
      refine ⟨.tup ?_ h2, by simpa [PyData.canLay0] using h3⟩
      rcases h1 with h1 | ⟨o, its, n, k1, k2, k3, k4, k5⟩
      · exact .inl (.inl (hr.agree _ _ h1))
      · exact .inr ⟨o, its, n, hK ▸ k1, k2, k3, k4, k5⟩
  | .lst xs, _, _, .lst h1 r, e => by
    rw [toD] at e
    cases q : toDs xs with
    | none => rw [q] at e; cases e
    | some ds =>
      rw [q] at e
      cases e
      obtain ⟨h2, h3⟩ := toDs_dp hK hr r q
      exact ⟨.lst (.inl (.inl (hr.agree _ _ h1))) h2, by simpa [PyData.canLay0] using h3⟩
  | .scr xs, _, _, .scr h1 r, e => by simp [toD] at e
theorem toDs_dp (hK : X.K = B.K) (hr : HRel B W h H) : ∀ {xs : List PV} {vs : List V} {ds : List PyData}, Reps B W xs vs → toDs xs = some ds → DpAll X.K H vs ds ∧ PyData.canLayAll0 ds = true
  | _, _, _, .nil, e => by cases e; exact ⟨.nil, rfl⟩
  | x :: xs, _, _, .cons r t, e => by
    rw [toDs] at e
    cases q1 : toD x with
    | none => rw [q1] at e; cases e
    | some d =>
      cases q2 : toDs xs with
      | none => rw [q1, q2] at e; cases e
      | some ds =>
        rw [q1, q2] at e
        cases e
        obtain ⟨a1, a2⟩ := toD_dp hK hr r q1
        obtain ⟨b1, b2⟩ := toDs_dp hK hr t q2
        exact ⟨.cons a1 b1, by simp [PyData.canLayAll0, a2, b2]⟩
end
theorem toDh_dp (hK : X.K = B.K) (hr : HRel B W h H) {x : PV} {v : V} {d : PyData} (r : RepT B W H x v) (e : toDh h x = some d) : Dp X.K H v d ∧ d.canLay0 = true := by
  have fin : ∀ (xs : List PV) (a : Addr) (vs : List V), v = .ref a → H a = some (.lst vs) → Reps B W xs vs → (toDs xs).map PyData.list = some d → Dp X.K H v d ∧ d.canLay0 = true := fun xs a vs ev ha ra e => by
    cases q : toDs xs with
    | none => rw [q] at e; cases e
    | some ds =>
      rw [q] at e
      cases e
      obtain ⟨h2, h3⟩ := toDs_dp hK hr ra q
      rw [ev]
      exact ⟨.lst (.inl (.inl ha)) h2, by simpa [PyData.canLay0] using h3⟩
  cases x with
  | own xs =>
    obtain ⟨a, vs, ev, ha, ra, _⟩ := r
    exact fin xs a vs ev ha ra e
  | cel n =>
    unfold toDh at e
    dsimp only at e
    split at e
    · rename_i xs q
      obtain ⟨a, vs, ev, ha, ra⟩ := asM_ok (x := .cel n) (xs := xs) hr r (by unfold asM; dsimp only; rw [q])
      exact fin xs a vs ev ha ra e
    · cases e
  | don ks => exact r.elim
  | _ => exact toD_dp hK hr r e
theorem shaped_of {d : PyData} (a : d.canLay0 = true) (b : dOk d = true) : SeqAt.shaped d = true := by
  unfold SeqAt.shaped
  rw [a]
  exact b
theorem sem_eq (hK : X.K = B.K) : OpSem X B fEq (rEqD X.K) := by
  intro W h H x y z x' y' Q hr rx ry e q
  unfold fEq at e
  split at e
  · rename_i d f ed ef
    split at e
    · rename_i hz
      cases e
      obtain ⟨z1, z2⟩ := Bool.and_eq_true_iff.mp hz
      obtain ⟨a1, a2⟩ := toDh_dp hK hr rx ed
      obtain ⟨b1, b2⟩ := toDh_dp hK hr ry ef
      exact ⟨d, f, a1, b1, shaped_of a2 z1, shaped_of b2 z2, q W H _ (.refl W H) (Rep.bl _).hand⟩
    · cases e
  · cases e
theorem sem_ne (hK : X.K = B.K) : OpSem X B fNe (rNeD X.K) := by
  intro W h H x y z x' y' Q hr rx ry e q
  unfold fNe at e
  split at e
  · rename_i d f ed ef
    split at e
    · rename_i hz
      cases e
      obtain ⟨z1, z2⟩ := Bool.and_eq_true_iff.mp hz
      obtain ⟨a1, a2⟩ := toDh_dp hK hr rx ed
      obtain ⟨b1, b2⟩ := toDh_dp hK hr ry ef
      exact ⟨d, f, a1, b1, shaped_of a2 z1, shaped_of b2 z2, q W H _ (.refl W H) (Rep.bl _).hand⟩
    · cases e
  · cases e
end
/-! is None -/
def isNon : PV → Bool
  | .non => true
  | _ => false
def fIsN : AH → PV → PV → Option PV := fun _ x y => match y with
  | .non => some (.bl (isNon x))
  | _ => none
def fNotN : AH → PV → PV → Option PV := fun _ x y => match y with
  | .non => some (.bl (!isNon x))
  | _ => none
section
variable {X : Cx} {B : Bs} {W : Wd} {h : AH} {H : Hp}
theorem rep_isnon {x : PV} {v : V} (r : RepT B W H x v) : decide (v = .non) = isNon x := by
  cases x with
  | own xs => obtain ⟨a, vs, rfl, _⟩ := r; rfl
  | don ks => exact r.elim
  | _ => cases r <;> rfl
theorem sem_isN : OpSem X B fIsN (fun x y H Q => y = .non ∧ Q (.bl (decide (x = .non))) H) := by
  intro W h H x y z x' y' Q hr rx ry e q
  unfold fIsN at e
  split at e
  · cases e
    refine ⟨rep_non ry, ?_⟩
    rw [rep_isnon rx]
    exact q W H _ (.refl W H) (Rep.bl _).hand
  · cases e
theorem sem_notN : OpSem X B fNotN (fun x y H Q => y = .non ∧ Q (.bl (!decide (x = .non))) H) := by
  intro W h H x y z x' y' Q hr rx ry e q
  unfold fNotN at e
  split at e
  · cases e
    refine ⟨rep_non ry, ?_⟩
    rw [rep_isnon rx]
    exact q W H _ (.refl W H) (Rep.bl _).hand
  · cases e
end
end Lp

set_option Elab.async false
set_option linter.all false
set_option maxRecDepth 100000
set_option maxHeartbeats 4000000
/-! Lp3: arguments, displays, subscripts, chains, in, calls of built-ins. -/
namespace Lp
open PySem PySem.Spec PyProof.Rows L2

abbrev MA := S → R S (List PV)
def aNil : MA := fun s => .ok [] s
def aCons (m : ME) (r : MA) : MA := fun s => (m s).bind fun v s1 => (r s1).bind fun vs s2 => .ok (v :: vs) s2
def sOk : PV → Option (List PV)
  | .tup xs => some xs
  | _ => none
/-- what a star or a walk takes from -/
def asS (h : AH) (x : PV) : Option (List PV) := match x with
  | .tup xs => some xs
  | x => asL h x
def aStar (m : ME) (r : MA) : MA := fun s => (m s).bind fun v s1 => match asS s1.h v with
  | some xs => (r s1).bind fun vs s2 => .ok (xs ++ vs) s2
  | none => .bad
section
variable {X : Cx} {B : Bs} {N : Ent} {WX : WX} {W : Wd} {h : AH} {H : Hp} {e : Expr} {es : List Expr} {m : ME} {ma : MA}
theorem RepTs.append : ∀ {xs ys : List PV} {vs ws : List V}, RepTs B W H xs vs → RepTs B W H ys ws → RepTs B W H (xs ++ ys) (vs ++ ws)
  | [], _, [], _, _, s => s
  | _ :: _, _, _ :: _, _, ⟨r, t⟩, s => ⟨r, RepTs.append t s⟩
  | [], _, _ :: _, _, h, _ => h.elim
  | _ :: _, _, [], _, h, _ => h.elim
theorem Reps.hand : ∀ {xs : List PV} {vs : List V}, Reps B W xs vs → RepTs B W H xs vs
  | _, _, .nil => trivial
  | _, _, .cons r t => ⟨r.hand, Reps.hand t⟩
theorem RepTs.length : ∀ {xs : List PV} {vs : List V}, RepTs B W H xs vs → xs.length = vs.length
  | [], [], _ => rfl
  | _ :: _, _ :: _, ⟨_, t⟩ => congrArg Nat.succ (RepTs.length t)
  | [], _ :: _, h => h.elim
  | _ :: _, [], h => h.elim
/-- none of them is a list of a slot's own -/
def allSh (xs : List PV) : Bool := xs.all fun x => !isOwn x
theorem RepTs.reps : ∀ {xs : List PV} {vs : List V}, RepTs B W H xs vs → allSh xs = true → Reps B W xs vs
  | [], [], _, _ => .nil
  | x :: xs, _ :: _, ⟨r, t⟩, o => by
    unfold allSh at o
    rw [List.all_cons] at o
    obtain ⟨o1, o2⟩ := Bool.and_eq_true_iff.mp o
    exact .cons (r.rep (by simpa using o1)) (RepTs.reps t o2)
  | [], _ :: _, h, _ => h.elim
  | _ :: _, [], h, _ => h.elim
theorem simA_nil : SimA X B N WX [] aNil := pa_nil.imp fun σ H Q ⟨W, s, r, h⟩ => h.ok r [] trivial
theorem simA_cons (he : SimE X B N WX e m) (hr : SimA X B N WX es ma) (hs : starEach (e :: es) X.env = (false, eval e X.env) :: starEach es X.env) : SimA X B N WX (e :: es) (aCons m ma) :=
  (pa_cons he hr hs).imp fun σ H Q ⟨W, s, r, h⟩ => ⟨W, s, r, (h.bind r.slen).mono fun v W1 s1 H1 r1 _ q v' rv => ⟨W1, s1, r1, (q.bind r1.slen).mono fun vs W2 s2 H2 r2 st2 q vs' rvs =>
    q.ok r2 (v' :: vs') ⟨rv.on r1.slen st2.st, rvs⟩⟩⟩
theorem asS_ok (hK : X.K = B.K) (hr : HRel B W h H) {x : PV} {x' : V} {xs : List PV} (rx : RepT B W H x x') (e : asS h x = some xs) : ∃ a vs, x' = .ref a ∧ (SqT X.K H a vs ∨ SqL X.K H a vs) ∧ Reps B W xs vs := by
  have fin : asL h x = some xs → ∃ a vs, x' = .ref a ∧ (SqT X.K H a vs ∨ SqL X.K H a vs) ∧ Reps B W xs vs := fun e => by
    obtain ⟨a, vs, e1, h1, r1⟩ := asL_ok hr rx e
    exact ⟨a, vs, e1, .inr (rd_sql hK h1), r1⟩
  cases x with
  | tup ys =>
    cases e
    obtain ⟨a, vs, e1, h1, r1⟩ := tup_ok hK hr (show Rep B W (.tup _) x' from rx)
    exact ⟨a, vs, e1, .inl h1, r1⟩
  | _ => exact fin e
theorem simA_star {p : Pos} (hK : X.K = B.K) (he : SimE X B N WX e m) (hr : SimA X B N WX es ma) (hs : starEach (.Starred e p :: es) X.env = (true, eval e X.env) :: starEach es X.env) : SimA X B N WX (.Starred e p :: es) (aStar m ma) :=
  (StX.pa_star he hr hs).imp fun σ H Q ⟨W, s, r, h⟩ => ⟨W, s, r, (h.bind r.slen).mono fun v W1 s1 H1 r1 _ q v' rv => by
    split at q
    · rename_i xs ex
      obtain ⟨a, vs, rfl, h1, r2⟩ := asS_ok hK r1.hr rv ex
      exact ⟨a, vs, rfl, h1, W1, s1, r1, (q.bind r1.slen).mono fun us W2 s2 H2 r3 st2 q us' rus => q.ok r3 (vs ++ us') ((r2.mono st2.st.le).hand.append rus)⟩
    · exact q.elim⟩

/-! ### displays -/
def eTup (ma : MA) : ME := fun s => (ma s).bind fun vs s1 => if allSh vs && decide (vs.length ≤ 16777216) then .ok (.tup vs) s1 else .bad
def eLst (ma : MA) : ME := fun s => (ma s).bind fun vs s1 => if allSh vs && decide (vs.length ≤ 16777216) then .ok (.lst vs) s1 else .bad
theorem sim_tup {x1 pos} (ha : SimA X B N WX es ma) : SimE X B N WX (.Tuple es x1 pos) (eTup ma) :=
  (pe_tup ha).imp fun σ H Q ⟨W, s, r, h⟩ => ⟨W, s, r, (h.bind r.slen).mono fun vs W1 s1 H1 r1 _ q vs' rvs => by
    split at q
    · rename_i c
      obtain ⟨c1, c2⟩ := Bool.and_eq_true_iff.mp c
      have rr := rvs.reps c1
      refine ⟨by rw [← rr.length, sizeLine_eq]; exact of_decide_eq_true c2, fun p hp => ?_⟩
      have hsz : vs'.length ≤ sizeLine := by rw [← rr.length, sizeLine_eq]; exact of_decide_eq_true c2
      exact q _ _ (rel_new (o := .tup vs') r1 hp hsz) ⟨step_new r1.hr hp, fun _ _ e _ => e⟩ _ (rep_tup_new (r1.hr.fnone hp) rr).hand
    · exact q.elim⟩
theorem sim_lst {pos} (ha : SimA X B N WX es ma) : SimE X B N WX (.List es pos) (eLst ma) :=
  (pe_lst ha).imp fun σ H Q ⟨W, s, r, h⟩ => ⟨W, s, r, (h.bind r.slen).mono fun vs W1 s1 H1 r1 _ q vs' rvs => by
    split at q
    · rename_i c
      obtain ⟨c1, c2⟩ := Bool.and_eq_true_iff.mp c
      have rr := rvs.reps c1
      refine ⟨by rw [← rr.length, sizeLine_eq]; exact of_decide_eq_true c2, fun p hp => ?_⟩
      have hsz : vs'.length ≤ sizeLine := by rw [← rr.length, sizeLine_eq]; exact of_decide_eq_true c2
      exact q _ _ (rel_new (o := .lst vs') r1 hp hsz) ⟨step_new r1.hr hp, fun _ _ e _ => e⟩ _ (rep_lst_new (r1.hr.fnone hp) rr).hand
    · exact q.elim⟩
end

/-! ### subscripts -/
def fIx : AH → PV → PV → Option PV := fun h x y => match x, y with
  | .str z, .int i => (atI z.cps.toList i).map fun c => .str ⟨#[c]⟩
  | x, .int i => match asS h x with
    | some xs => atI xs i
    | none => none
  | _, _ => none
section
variable {X : Cx} {B : Bs} {N : Ent} {WX : WX} {W : Wd} {h : AH} {H : Hp} {a b c : Expr} {ma mb mc : ME} {pos : Pos}
theorem atI_rep {xs : List PV} {vs : List V} {i : Int} {x : PV} (r : Reps B W xs vs) (e : atI xs i = some x) : ∃ v, atI vs i = some v ∧ Rep B W x v := by
  unfold atI at e ⊢
  rw [← r.length]
  cases q : ixN xs.length i with
  | none => rw [q] at e; cases e
  | some j =>
    rw [q] at e
    obtain ⟨v, e1, r1⟩ := r.get (show xs[j]? = some x from e)
    exact ⟨v, e1, r1⟩
theorem sok_sub {z w : Str} (k : SOk z) (hl : w.length ≤ z.length) (hm : ∀ c ∈ w.cps.toList, c ∈ z.cps.toList) : SOk w := by
  refine ⟨?_, Nat.le_trans hl k.2⟩
  have k1 : z.cps.all (· < 0x110000) = true := k.1
  show w.cps.all (· < 0x110000) = true
  rw [← Array.all_toList, List.all_eq_true] at k1 ⊢
  exact fun c hc => k1 c (hm c hc)
theorem atI_mem {α : Type} {xs : List α} {i : Int} {x : α} (e : atI xs i = some x) : x ∈ xs := by
  unfold atI at e
  cases q : ixN xs.length i with
  | none => rw [q] at e; cases e
  | some j =>
    rw [q] at e
    exact List.mem_of_getElem? (show xs[j]? = some x from e)
theorem sem_ix (hK : X.K = B.K) : OpSem X B fIx (rIx X.K) := by
  intro W h H x y z x' y' Q hr rx ry e q
  have go : ∀ (i : Int) (xs : List PV), asS h x = some xs → y = .int i → atI xs i = some z → rIx X.K x' y' H Q := fun i xs ex ey ea => by
    obtain ⟨a, vs, rfl, h1, r1⟩ := asS_ok hK hr rx ex
    obtain ⟨v, e1, rv⟩ := atI_rep r1 ea
    subst ey
    rcases h1 with h1 | h1
    · exact .inr (.inl ⟨a, vs, i, v, rfl, rep_int ry, h1, e1, q W H v (.refl W H) rv.hand⟩)
    · exact .inl ⟨a, vs, i, v, rfl, rep_int ry, h1, e1, q W H v (.refl W H) rv.hand⟩
  unfold fIx at e
  split at e
  · rename_i z0 i
    cases ea : atI z0.cps.toList i with
    | none => rw [ea] at e; cases e
    | some c =>
      rw [ea] at e
      cases e
      obtain ⟨e1, k⟩ := rep_str rx
      refine .inr (.inr ⟨z0, i, c, e1, rep_int ry, k.2, ea, q W H _ (.refl W H) (Rep.str _ ?_).hand⟩)
      have hm := atI_mem ea
      refine sok_sub k ?_ fun d hd => by
        have : d = c := by simpa using hd
        rw [this]; exact hm
      show (#[c] : Array Nat).size ≤ z0.cps.size
      have := List.length_pos_of_mem hm
      simp only [Array.length_toList] at this
      show 1 ≤ z0.cps.size
      omega
  · rename_i i _
    split at e
    · rename_i xs ex
      exact go i xs ex rfl e
    · cases e
  · cases e
theorem sim_ix (hK : X.K = B.K) (ha : SimE X B N WX a ma) (hb : SimE X B N WX b mb) (hs : PlainIx b) : SimE X B N WX (.Subscript a b pos) (eBin fIx ma mb) :=
  (pe_ix ix_seq ha hb hs).imp fun σ H Q h => two h fun W2 s2 H2 x y x' y' r2 rx ry q => op_fin (sem_ix hK) r2 rx ry q
/-! slices -/
def cutP {α : Type} (xs : List α) (lo hi : Option Int) : List α := (xs.drop (HT.sIx xs.length 0 lo)).take (HT.sIx xs.length xs.length hi - HT.sIx xs.length 0 lo)
def cutStr (z : Str) (lo hi : Option Int) : Str := ⟨(cutP z.cps.toList lo hi).toArray⟩
def fSl (h : AH) (x : PV) (lo hi : Option Int) : Option PV := match x with
  | .str z => some (.str (cutStr z lo hi))
  | .tup xs => some (.tup (cutP xs lo hi))
  | x => (asL h x).map fun xs => .lst (cutP xs lo hi)
def oNone : S → R S (Option Int) := fun s => .ok none s
def oSome (m : ME) : S → R S (Option Int) := fun s => (m s).bind fun v s1 => match v with
  | .int i => .ok (some i) s1
  | _ => .bad
def eSl (m : ME) (lo hi : S → R S (Option Int)) : ME := fun s => (m s).bind fun v s1 => (lo s1).bind fun l s2 => (hi s2).bind fun u s3 => match fSl s3.h v l u with
  | some z => .ok z s3
  | none => .bad
def tO (B : Bs) (N : Ent) (WX : L2.WX) (m : S → R S (Option Int)) : TO := fun σ H Q => ∃ W s, Rel B N W s σ H ∧ Post B N WX W s H σ (m s) fun v _ _ H' => Q v H'
abbrev SimO (X : Cx) (B : Bs) (N : Ent) (WX : L2.WX) (e : Option Expr) (m : S → R S (Option Int)) : Prop := PO X e (tO B N WX m)
theorem PO_imp {e : Option Expr} {t t' : TO} (h : PO X e t) (w : ∀ σ H Q, t' σ H Q → t σ H Q) : PO X e t' := by
  constructor
  intro pins s σ H Q I q
  exact h.run pins s σ H Q I (w _ _ _ q)
theorem simO_none : SimO X B N WX none oNone := PO_imp po_none fun σ H Q ⟨W, s, r, h⟩ => h.ok r
theorem simO_some (ha : SimE X B N WX a ma) : SimO X B N WX (some a) (oSome ma) := PO_imp (po_some ha) fun σ H Q ⟨W, s, r, h⟩ => ⟨W, s, r, (h.bind r.slen).mono fun v W1 s1 H1 r1 _ q v' rv => by
  cases v with
  | int i => exact ⟨i, rep_int rv, q.ok r1⟩
  | _ => exact q.elim⟩
theorem tup_sz (hr : HRel B W h H) {x' : V} {xs : List PV} (rx : Rep B W (.tup xs) x') : xs.length ≤ sizeLine := by
  cases rx with
  | tup h r =>
    rw [r.length]
    rcases h with h | ⟨o, its, n, _, _, _, z, q⟩
    · exact hr.hz _ _ (hr.agree _ _ h)
    · rw [q.length, Array.length_toList]; exact z
theorem asS_sz (hr : HRel B W h H) {x : PV} {x' : V} {xs : List PV} (rx : RepT B W H x x') (e : asS h x = some xs) : xs.length ≤ sizeLine := by
  cases x with
  | tup ys => cases e; exact tup_sz hr (show Rep B W (.tup _) x' from rx)
  | _ => exact asL_sz hr rx e
theorem cutP_reps {xs : List PV} {vs : List V} (r : Reps B W xs vs) (lo hi : Option Int) : Reps B W (cutP xs lo hi) (cutV vs lo hi) := by
  unfold cutP cutV
  rw [r.length]
  exact (r.drop _).take _
theorem cutP_all {α : Type} {xs : List α} {lo hi : Option Int} (h : HT.sIx xs.length 0 lo = 0 ∧ HT.sIx xs.length xs.length hi = xs.length) : cutP xs lo hi = xs := by
  unfold cutP
  rw [h.1, h.2]
  simp
theorem cutS_eq (z : Str) (lo hi : Option Int) : cutS z lo hi = cutStr z lo hi := by
  unfold cutS cutStr cutP
  first | rfl | simp
theorem sl_fin (hK : X.K = B.K) {x z : PV} {x' : V} {lo hi : Option Int} {Q : VK} (hr : HRel B W h H) (rx : RepT B W H x x') (e : fSl h x lo hi = some z) (q : ∀ W' H' z', Grow W H W' H' → RepT B W' H' z z' → Q z' H') :
    rSlL X.K x' lo hi H Q ∨ rSlA X.K x' lo hi H Q ∨ rSlS x' lo hi H Q := by
  have go : ∀ xs, asL h x = some xs → z = .lst (cutP xs lo hi) → rSlL X.K x' lo hi H Q := fun xs ex ez => by
    obtain ⟨a, vs, rfl, h1, r1⟩ := asL_ok hr rx ex
    subst ez
    exact ⟨a, vs, rfl, rd_sql hK h1, fun p hp => q _ _ _ (.new hp (Nat.le_trans (cutV_length _ _ _) (by rw [← r1.length]; exact asL_sz hr rx ex))) (rep_lst_new (hr.fnone hp) (cutP_reps r1 lo hi)).hand⟩
  unfold fSl at e
  split at e
  · rename_i y
    cases e
    obtain ⟨e1, k⟩ := rep_str rx
    refine .inr (.inr ⟨y, e1, k.2, ?_⟩)
    rw [cutS_eq]
    refine q W H _ (.refl W H) (Rep.str _ (sok_sub k ?_ fun c hc => ?_)).hand
    · show (cutP y.cps.toList lo hi).toArray.size ≤ y.cps.size
      unfold cutP
      simp only [List.size_toArray, List.length_take, List.length_drop, Array.length_toList]
      omega
    · have hc : c ∈ cutP y.cps.toList lo hi := by simpa [cutStr] using hc
      unfold cutP at hc
      exact List.mem_of_mem_drop (List.mem_of_mem_take hc)
  · rename_i xs
    cases e
    obtain ⟨a, vs, rfl, h1, r1⟩ := tup_ok hK hr (show Rep B W (.tup xs) x' from rx)
    refine .inr (.inl ⟨a, vs, rfl, h1, fun z => ?_, fun _ p hp => q _ _ _ (.new hp (Nat.le_trans (cutV_length _ _ _) (by rw [← r1.length]; exact tup_sz hr (show Rep B W (.tup xs) _ from rx)))) (rep_tup_new (hr.fnone hp) (cutP_reps r1 lo hi)).hand⟩)
    rw [cutP_all (by rw [r1.length]; exact z)] at q
    exact q W H _ (.refl W H) rx
  · cases ex : asL h x with
    | none => rw [ex] at e; cases e
    | some xs =>
      rw [ex] at e
      exact .inl (go xs ex (Option.some.inj e).symm)
theorem sim_sl {lo hi : Option Expr} {ml mh : S → R S (Option Int)} {p2 : Pos} (hK : X.K = B.K) (ha : SimE X B N WX a ma) (hl : SimO X B N WX lo ml) (hh : SimO X B N WX hi mh) : SimE X B N WX (.Subscript a (.Slice lo hi none p2) pos) (eSl ma ml mh) :=
  (pe_slice (sl_list.or (sl_tupA.or sl_str)) ha hl hh).imp fun σ H Q ⟨W, s, r, h⟩ => ⟨W, s, r, (h.bind r.slen).mono fun v W1 s1 H1 r1 _ q v' rv => ⟨W1, s1, r1, (q.bind r1.slen).mono fun l W2 s2 H2 r2 st2 q =>
    ⟨W2, s2, r2, (q.bind r2.slen).mono fun u W3 s3 H3 r3 st3 q => by
      split at q
      · rename_i z ez
        exact sl_fin hK r3.hr ((rv.on r1.slen st2.st).on r2.slen st3.st) ez fun W' H' z' g rz => q W' H' (g.rel r3) (g.stepE r3.hr) z' rz
      · exact q.elim⟩⟩⟩

/-! ### a < b < c -/
def eChain (f g : AH → PV → PV → Option PV) (a b c : ME) : ME := fun s => (a s).bind fun x s1 => (b s1).bind fun y s2 => match f s2.h x y with
  | some (.bl true) => (c s2).bind fun w s3 => match g s3.h y w with
    | some z => .ok z s3
    | none => .bad
  | some (.bl false) => .ok (.bl false) s2
  | _ => .bad
theorem chain_of {f g : AH → PV → PV → Option PV} {r r' : R2} (hf : OpSem X B f r) (hg : OpSem X B g r') {σ : L2.St} {H : Hp} {Q : VK} (h : tE B N WX (eChain f g ma mb mc) σ H Q) :
    tChain r r' (tE B N WX ma) (tE B N WX mb) (tE B N WX mc) σ H Q := by
  obtain ⟨W, s, r, h⟩ := h
  refine ⟨W, s, r, (h.bind r.slen).mono fun x W1 s1 H1 r1 _ q x' rx => ⟨W1, s1, r1, (q.bind r1.slen).mono fun y W2 s2 H2 r2 st2 q y' ry => ?_⟩⟩
  have rx2 := rx.on r1.slen st2.st
  have h0 : ∃ b, f s2.h x y = some (.bl b) := by
    split at q
    · rename_i e; exact ⟨true, e⟩
    · rename_i e; exact ⟨false, e⟩
    · exact q.elim
  obtain ⟨b, eb⟩ := h0
  refine hf W2 s2.h H2 x y _ x' y' _ r2.hr rx2 ry eb fun W3 H3 z' g3 rz => ?_
  refine ⟨b, rep_bl rz, ?_⟩
  have r3 := g3.rel r2
  have st3 := g3.stepE (s := s2) r2.hr
  cases b with
  | false =>
    rw [eb] at q
    exact iteF ((Post.from r2.slen st3 q).ok r3 _ (Rep.bl false).hand)
  | true =>
    rw [eb] at q
    refine iteT ⟨W3, s2, r3, ((Post.from r2.slen st3 q).bind r3.slen).mono fun w W4 s4 H4 r4 st4 q w' rw' => ?_⟩
    exact op_fin hg r4 ((ry.on r2.slen st3.st).on r3.slen st4.st) rw' q
theorem sim_chain {op op' : CmpOp} {r r' : R2} {f g : AH → PV → PV → Option PV} (ho : OpR X (compareOp op) r) (ho' : OpR X (compareOp op') r') (hf : OpSem X B f r) (hg : OpSem X B g r') (ha : SimE X B N WX a ma) (hb : SimE X B N WX b mb) (hc : SimE X B N WX c mc)
    (hm : lastMarks [op, op'] [b, c] = false) : SimE X B N WX (.Compare a [op, op'] [b, c] pos) (eChain f g ma mb mc) :=
  (pe_chain ho ho' ha hb hc hm).imp fun σ H Q h => chain_of hf hg h
theorem sim_tchain {op op' : CmpOp} {r r' : R2} {f g : AH → PV → PV → Option PV} (ho : OpR X (compareOp op) r) (ho' : OpR X (compareOp op') r') (hf : OpSem X B f r) (hg : OpSem X B g r') (ha : SimE X B N WX a ma) (hb : SimE X B N WX b mb) (hc : SimE X B N WX c mc)
    (hm : lastMarks [op, op'] [b, c] = false) : SimT X B N WX (.Compare a [op, op'] [b, c] pos) (bM (eChain f g ma mb mc)) :=
  (pt_chain ho ho' ha hb hc hm).imp fun σ H Q h => chain_of hf hg (tB_of h)
end
end Lp

set_option Elab.async false
set_option linter.all false
set_option maxRecDepth 100000
set_option maxHeartbeats 4000000
/-! Lp4: in, built-ins, targets, walks, comprehensions. -/
namespace Lp
open PySem PySem.Spec PyProof.Rows L2

/-! ### in -/
def fInL (neg : Bool) : AH → PV → PV → Option PV := fun h x y => match toDh h x, toDh h y with
  | some d, some (.list ds) => if dOk d && dOk (.list ds) then some (.bl (neg ^^ ds.any fun z => PyData.eqv z d)) else none
  | some d, some (.tuple ds) => if dOk d && dOk (.tuple ds) then some (.bl (neg ^^ ds.any fun z => PyData.eqv z d)) else none
  | _, _ => none
def rInT (K : PySem.W.Frag) (neg : Bool) : R2 := fun x y H Q => ∃ d ds, Dp K H x d ∧ Dp K H y (.tuple ds) ∧ SeqAt.shaped d = true ∧ SeqAt.shaped (.tuple ds) = true ∧ Q (.bl (neg ^^ ds.any fun z => PyData.eqv z d)) H
section
variable {X : Cx} {B : Bs}
theorem room_tup {A : Around} {ds : List PyData} {d : PyData} (h : SeqAt.shaped (.tuple ds) = true) (hu : A.units + 66 < cLine) : A.units + 1 + min (PyData.depthAll ds) d.depth < cLine := by
  have h1 := SeqAt.depth_of_shaped h
  simp only [PyData.depth] at h1
  have h2 : min (PyData.depthAll ds) d.depth ≤ PyData.depthAll ds := Nat.min_le_left _ _
  omega
theorem op_inT (hu : X.A.units + 66 < cLine) : OpR X (compareOp .In) (rInT X.K false) := by
  intro pins s σ H x y v u Q I rx ry h
  obtain ⟨d, ds, hd, he, sd, se, q⟩ := h
  obtain ⟨as, r1⟩ := Dp.reads I d x v hd rx
  obtain ⟨bs, r2⟩ := Dp.reads I (.tuple ds) y u he ry
  exact SeqAt.in_tuple_reads r2 r1 (SeqAt.canLay_of_shaped se) (SeqAt.canLay_of_shaped sd) (room_tup se hu) ⟨.bl _, H, I, by simp; rfl, q⟩
theorem op_ninT (hu : X.A.units + 66 < cLine) : OpR X (compareOp .NotIn) (rInT X.K true) := by
  intro pins s σ H x y v u Q I rx ry h
  obtain ⟨d, ds, hd, he, sd, se, q⟩ := h
  obtain ⟨as, r1⟩ := Dp.reads I d x v hd rx
  obtain ⟨bs, r2⟩ := Dp.reads I (.tuple ds) y u he ry
  exact SeqAt.notIn_tuple_reads r2 r1 (SeqAt.canLay_of_shaped se) (SeqAt.canLay_of_shaped sd) (room_tup se hu) ⟨.bl _, H, I, by simp; rfl, q⟩
/-- a text in a text -/
def fInS (neg : Bool) : AH → PV → PV → Option PV := fun _ x y => match x, y with
  | .str i, .str j => match i.cps.toList with
    | [c] => some (.bl (neg ^^ decide (c ∈ j.cps.toList)))
    | _ => some (.bl (neg ^^ !(Builtin.Str.occurrences j i 0 j.length 1).isEmpty))
  | _, _ => none
theorem sem_inL (hK : X.K = B.K) : OpSem X B (fInL false) (fun x y H Q => rInD X.K x y H Q ∨ rInT X.K false x y H Q) := by
  intro W h H x y z x' y' Q hr rx ry e q
  unfold fInL at e
  split at e
  · rename_i d ds ed ef
    split at e
    · rename_i hz
      cases e
      obtain ⟨z1, z2⟩ := Bool.and_eq_true_iff.mp hz
      obtain ⟨a1, a2⟩ := toDh_dp hK hr rx ed
      obtain ⟨b1, b2⟩ := toDh_dp hK hr ry ef
      exact .inl ⟨d, ds, a1, b1, shaped_of a2 z1, shaped_of b2 z2, q W H _ (.refl W H) (by simp only [Bool.false_xor]; exact (Rep.bl _).hand)⟩
    · cases e
  · rename_i d ds ed ef
    split at e
    · rename_i hz
      cases e
      obtain ⟨z1, z2⟩ := Bool.and_eq_true_iff.mp hz
      obtain ⟨a1, a2⟩ := toDh_dp hK hr rx ed
      obtain ⟨b1, b2⟩ := toDh_dp hK hr ry ef
      exact .inr ⟨d, ds, a1, b1, shaped_of a2 z1, shaped_of b2 z2, q W H _ (.refl W H) (Rep.bl _).hand⟩
    · cases e
  · cases e
theorem sem_ninL (hK : X.K = B.K) : OpSem X B (fInL true) (fun x y H Q => rNotInD X.K x y H Q ∨ rInT X.K true x y H Q) := by
  intro W h H x y z x' y' Q hr rx ry e q
  unfold fInL at e
  split at e
  · rename_i d ds ed ef
    split at e
    · rename_i hz
      cases e
      obtain ⟨z1, z2⟩ := Bool.and_eq_true_iff.mp hz
      obtain ⟨a1, a2⟩ := toDh_dp hK hr rx ed
      obtain ⟨b1, b2⟩ := toDh_dp hK hr ry ef
      exact .inl ⟨d, ds, a1, b1, shaped_of a2 z1, shaped_of b2 z2, q W H _ (.refl W H) (by simp only [Bool.true_xor]; exact (Rep.bl _).hand)⟩
    · cases e
  · rename_i d ds ed ef
    split at e
    · rename_i hz
      cases e
      obtain ⟨z1, z2⟩ := Bool.and_eq_true_iff.mp hz
      obtain ⟨a1, a2⟩ := toDh_dp hK hr rx ed
      obtain ⟨b1, b2⟩ := toDh_dp hK hr ry ef
      exact .inr ⟨d, ds, a1, b1, shaped_of a2 z1, shaped_of b2 z2, q W H _ (.refl W H) (Rep.bl _).hand⟩
    · cases e
  · cases e
def rInS (neg : Bool) : R2 := fun x y H Q => ∃ i j : Str, x = .str i ∧ y = .str j ∧ Q (.bl (neg ^^ !(Builtin.Str.occurrences j i 0 j.length 1).isEmpty)) H
theorem op_inS : OpR X (compareOp .In) (rInS false) := by
  intro pins s σ H x y v u Q I rx ry h
  obtain ⟨i, j, e1, e2, q⟩ := h
  exact op_in_str pins s σ H x y v u Q I rx ry ⟨i, j, e1, e2, by simpa using q⟩
theorem op_ninS : OpR X (compareOp .NotIn) (rInS true) := by
  intro pins s σ H x y v u Q I rx ry h
  obtain ⟨i, j, e1, e2, q⟩ := h
  exact L2.op_notin_str pins s σ H x y v u Q I rx ry ⟨i, j, e1, e2, by simpa using q⟩
theorem sem_inS {neg : Bool} : OpSem X B (fInS neg) (rInS neg) := by
  intro W h H x y z x' y' Q hr rx ry e q
  unfold fInS at e
  split at e
  · rename_i i j
    refine ⟨i, j, (rep_str rx).1, (rep_str ry).1, ?_⟩
    split at e
    · rename_i c ec
      cases e
      have ei : i = ⟨#[c]⟩ := by
        obtain ⟨a⟩ := i
        congr 1
        exact Array.toList_inj.mp ec
      subst ei
      have := PySem.StrLaws.found_one j c
      rw [this]
      exact q W H _ (.refl W H) (Rep.bl _).hand
    · cases e
      exact q W H _ (.refl W H) (Rep.bl _).hand
  · cases e
end
def fIn : AH → PV → PV → Option PV := fun h x y => (fInS false h x y).or (fInL false h x y)
def fNin : AH → PV → PV → Option PV := fun h x y => (fInS true h x y).or (fInL true h x y)
section
variable {X : Cx} {B : Bs}
theorem op_in (hu : X.A.units + 66 < cLine) : OpR X (compareOp .In) (fun x y H Q => rInS false x y H Q ∨ (rInD X.K x y H Q ∨ rInT X.K false x y H Q)) := op_inS.or ((op_inD (by omega)).or (op_inT hu))
theorem op_nin (hu : X.A.units + 66 < cLine) : OpR X (compareOp .NotIn) (fun x y H Q => rInS true x y H Q ∨ (rNotInD X.K x y H Q ∨ rInT X.K true x y H Q)) := op_ninS.or ((op_notInD (by omega)).or (op_ninT hu))
theorem sem_in (hK : X.K = B.K) : OpSem X B fIn (fun x y H Q => rInS false x y H Q ∨ (rInD X.K x y H Q ∨ rInT X.K false x y H Q)) := sem_inS.or (sem_inL hK)
theorem sem_nin (hK : X.K = B.K) : OpSem X B fNin (fun x y H Q => rInS true x y H Q ∨ (rNotInD X.K x y H Q ∨ rInT X.K true x y H Q)) := sem_inS.or (sem_ninL hK)
end

/-! ### built-ins by values -/
def CallSem (X : Cx) (B : Bs) (f : AH → List PV → Option PV) (r : List V → Hp → VK → Prop) : Prop := ∀ (W : Wd) (h : AH) (H : Hp) (xs : List PV) (z : PV) (xs' : List V) (Q : VK), HRel B W h H → RepTs B W H xs xs' → f h xs = some z →
  (∀ W' H' z', Grow W H W' H' → RepT B W' H' z z' → Q z' H') → r xs' H Q
def eCB (f : AH → List PV → Option PV) (ma : MA) : ME := fun s => (ma s).bind fun vs s1 => match f s1.h vs with
  | some z => .ok z s1
  | none => .bad
section
variable {X : Cx} {B : Bs} {N : Ent} {WX : L2.WX} {x : Str} {p pos : Pos} {e : Expr} {es : List Expr} {ma : MA} {id T : String} {f : AH → List PV → Option PV} {r : List V → Hp → VK → Prop}
theorem cb_fin (hf : CallSem X B f r) {σ : L2.St} {H : Hp} {Q : VK} (h : tE B N WX (eCB f ma) σ H Q) : tCB r (tA B N WX ma) σ H Q := by
  obtain ⟨W, s, r0, h⟩ := h
  refine ⟨W, s, r0, (h.bind r0.slen).mono fun vs W1 s1 H1 r1 _ q vs' rvs => ?_⟩
  split at q
  · rename_i z ez
    exact hf W1 s1.h H1 vs z vs' Q r1.hr rvs ez fun W' H' z' g rz => q W' H' (g.rel r1) (g.stepE r1.hr) z' rz
  · exact q.elim
theorem sim_callB (hc : CallR X (.builtin id) r) (hf : CallSem X B f r) (hg : Gl X x) (hm : X.mg x = none) (hv : bootBuiltins x = some (.builtin id)) (ha : SimA X B N WX (e :: es) ma) (hn : x ≠ "__name__") (hdb : (x == ("__debug__" : Str)) = false)
    (he : starEach (e :: es) X.env = (false, eval e X.env) :: starEach es X.env) (hpl : (backTo pos (starEach es X.env)).any (·.1) = false) : SimE X B N WX (.Call (.Name x p) (e :: es) [] pos) (eCB f ma) :=
  (pe_callB hc hg hm hv ha hn hdb he hpl).imp fun σ H Q h => cb_fin hf h
theorem sim_callTy (hc : CallR X (.type T) r) (hf : CallSem X B f r) (hg : Gl X x) (hm : X.mg x = none) (hv : bootBuiltins x = some (.type T)) (ha : SimA X B N WX (e :: es) ma) (hn : x ≠ "__name__") (hdb : (x == ("__debug__" : Str)) = false)
    (he : starEach (e :: es) X.env = (false, eval e X.env) :: starEach es X.env) (hpl : (backTo pos (starEach es X.env)).any (·.1) = false) : SimE X B N WX (.Call (.Name x p) (e :: es) [] pos) (eCB f ma) :=
  (pe_callTy hc hg hm hv ha hn hdb he hpl).imp fun σ H Q h => cb_fin hf h
end
def bLen : AH → List PV → Option PV := fun h xs => match xs with
  | [.str x] => some (.int x.length)
  | [x] => (asS h x).map fun ys => .int ys.length
  | _ => none
def bInt : AH → List PV → Option PV := fun _ xs => match xs with
  | [.int i] => some (.int i)
  | [.bl k] => some (.int (if k then 1 else 0))
  | _ => none
def blOf : PV → Option Bool
  | .bl b => some b
  | _ => none
def bAll : AH → List PV → Option PV := fun h xs => match xs with
  | [x] => match asL h x with
    | some ys => (ys.mapM blOf).map fun bs => .bl (bs.all fun b => b)
    | none => none
  | _ => none
def bAny : AH → List PV → Option PV := fun h xs => match xs with
  | [x] => match asL h x with
    | some ys => (ys.mapM blOf).map fun bs => .bl (bs.any fun b => b)
    | none => none
  | _ => none
def bList : AH → List PV → Option PV := fun h xs => match xs with
  | [x] => (asS h x).map .lst
  | _ => none
def bTuple : AH → List PV → Option PV := fun h xs => match xs with
  | [x] => (asS h x).map .tup
  | _ => none
section
variable {X : Cx} {B : Bs} {W : Wd} {h : AH} {H : Hp}
theorem repts1 {x : PV} {vs : List V} (r : RepTs B W H [x] vs) : ∃ v, vs = [v] ∧ RepT B W H x v := by
  cases vs with
  | nil => exact r.elim
  | cons v t =>
    obtain ⟨r1, r2⟩ := r
    cases t with
    | nil => exact ⟨v, rfl, r1⟩
    | cons _ _ => exact r2.elim
theorem repts2 {x y : PV} {vs : List V} (r : RepTs B W H [x, y] vs) : ∃ v w, vs = [v, w] ∧ RepT B W H x v ∧ RepT B W H y w := by
  cases vs with
  | nil => exact r.elim
  | cons v t =>
    obtain ⟨r1, r2⟩ := r
    obtain ⟨w, rfl, r3⟩ := repts1 r2
    exact ⟨v, w, rfl, r1, r3⟩
theorem sem_len (hK : X.K = B.K) : CallSem X B bLen (fun xs H Q => ∃ x n, xs = [x] ∧ LenV X.K x H n ∧ Q (.int n) H) := by
  intro W h H xs z xs' Q hr rx e q
  unfold bLen at e
  split at e
  · rename_i x
    cases e
    obtain ⟨v, rfl, r1⟩ := repts1 rx
    obtain ⟨rfl, k⟩ := rep_str r1
    exact ⟨_, x.length, rfl, ⟨k.2, rfl⟩, q W H _ (.refl W H) (Rep.int _).hand⟩
  · rename_i x _
    obtain ⟨v, rfl, r1⟩ := repts1 rx
    cases ex : asS h x with
    | none => rw [ex] at e; cases e
    | some ys =>
      rw [ex] at e
      cases e
      obtain ⟨a, vs, rfl, h1, r2⟩ := asS_ok hK hr r1 ex
      refine ⟨_, ys.length, rfl, ?_, q W H _ (.refl W H) (Rep.int _).hand⟩
      rcases h1 with h1 | h1
      · exact .inr ⟨vs, h1, r2.length⟩
      · exact .inl ⟨vs, h1, r2.length⟩
  · cases e
theorem sem_int1 : CallSem X B bInt (fun xs H Q => (∃ i, xs = [.int i] ∧ Q (.int i) H) ∨ ∃ k, xs = [.bl k] ∧ Q (.int (if k then 1 else 0)) H) := by
  intro W h H xs z xs' Q hr rx e q
  unfold bInt at e
  split at e
  · rename_i i
    cases e
    obtain ⟨v, rfl, r1⟩ := repts1 rx
    exact .inl ⟨i, by rw [rep_int r1], q W H _ (.refl W H) (Rep.int _).hand⟩
  · rename_i k
    cases e
    obtain ⟨v, rfl, r1⟩ := repts1 rx
    exact .inr ⟨k, by rw [rep_bl r1], q W H _ (.refl W H) (Rep.int _).hand⟩
  · cases e
theorem reps_bls : ∀ {ys : List PV} {vs : List V} {bs : List Bool}, Reps B W ys vs → ys.mapM blOf = some bs → vs = bs.map V.bl
  | [], _, _, .nil, e => by cases e; rfl
  | y :: ys, _, bs, .cons r t, e => by
    rw [List.mapM_cons] at e
    cases y with
    | bl b =>
      cases eq : ys.mapM blOf with
      | none => rw [eq] at e; cases e
      | some cs =>
        rw [eq] at e
        cases e
        cases r
        rw [reps_bls t eq]
        rfl
    | _ => cases e
theorem sem_all (hK : X.K = B.K) : CallSem X B bAll (rAll X.K) := by
  intro W h H xs z xs' Q hr rx e q
  unfold bAll at e
  split at e
  · rename_i x
    obtain ⟨v, rfl, r1⟩ := repts1 rx
    split at e
    · rename_i ys ex
      obtain ⟨a, vs, rfl, h1, r2⟩ := asL_ok hr r1 ex
      cases eb : ys.mapM blOf with
      | none => rw [eb] at e; cases e
      | some bs =>
        rw [eb] at e
        cases e
        refine ⟨a, bs, rfl, by rw [← reps_bls r2 eb]; exact rd_sql hK h1, ?_⟩
        have : (bs.all id) = (bs.all fun b => b) := rfl
        rw [this]
        exact q W H _ (.refl W H) (Rep.bl _).hand
    · cases e
  · cases e
theorem sem_any (hK : X.K = B.K) : CallSem X B bAny (rAny X.K) := by
  intro W h H xs z xs' Q hr rx e q
  unfold bAny at e
  split at e
  · rename_i x
    obtain ⟨v, rfl, r1⟩ := repts1 rx
    split at e
    · rename_i ys ex
      obtain ⟨a, vs, rfl, h1, r2⟩ := asL_ok hr r1 ex
      cases eb : ys.mapM blOf with
      | none => rw [eb] at e; cases e
      | some bs =>
        rw [eb] at e
        cases e
        refine ⟨a, bs, rfl, by rw [← reps_bls r2 eb]; exact rd_sql hK h1, ?_⟩
        have : (bs.any id) = (bs.any fun b => b) := rfl
        rw [this]
        exact q W H _ (.refl W H) (Rep.bl _).hand
    · cases e
  · cases e
theorem sem_list (hK : X.K = B.K) : CallSem X B bList (fun xs H Q => ∃ p ys, xs = [.ref p] ∧ (SqL X.K H p ys ∨ SqT X.K H p ys) ∧ ∀ l, H l = none → Q (.ref l) (upd H l (.lst ys))) := by
  intro W h H xs z xs' Q hr rx e q
  unfold bList at e
  split at e
  · rename_i x
    obtain ⟨v, rfl, r1⟩ := repts1 rx
    cases ex : asS h x with
    | none => rw [ex] at e; cases e
    | some ys =>
      rw [ex] at e
      cases e
      obtain ⟨a, vs, rfl, h1, r2⟩ := asS_ok hK hr r1 ex
      exact ⟨a, vs, rfl, h1.symm, fun p hp => q _ _ _ (.new hp (show vs.length ≤ sizeLine from by rw [← r2.length]; exact asS_sz hr r1 ex)) (rep_lst_new (hr.fnone hp) r2).hand⟩
  · cases e
theorem sem_tuple (hK : X.K = B.K) : CallSem X B bTuple (fun xs H Q => ∃ p ys, xs = [.ref p] ∧ ((SqL X.K H p ys ∧ ∀ l, H l = none → Q (.ref l) (upd H l (.tup ys))) ∨ (SqT X.K H p ys ∧ Q (.ref p) H))) := by
  intro W h H xs z xs' Q hr rx e q
  unfold bTuple at e
  split at e
  · rename_i x
    obtain ⟨v, rfl, r1⟩ := repts1 rx
    cases ex : asS h x with
    | none => rw [ex] at e; cases e
    | some ys =>
      rw [ex] at e
      cases e
      have go : asL h x = some ys → ∃ p zs, [v] = [.ref p] ∧ ((SqL X.K H p zs ∧ ∀ l, H l = none → Q (.ref l) (upd H l (.tup zs))) ∨ (SqT X.K H p zs ∧ Q (.ref p) H)) := fun ex => by
        obtain ⟨a, vs, rfl, h1, r2⟩ := asL_ok hr r1 ex
        exact ⟨a, vs, rfl, .inl ⟨rd_sql hK h1, fun p hp => q _ _ _ (.new hp (show SzO (.tup vs) from by show vs.length ≤ sizeLine; rw [← r2.length]; exact asL_sz hr r1 ex)) (rep_tup_new (hr.fnone hp) r2).hand⟩⟩
      cases x with
      | tup xs =>
        cases ex
        obtain ⟨a, vs, rfl, h1, r2⟩ := tup_ok hK hr (show Rep B W (.tup _) v from r1)
        exact ⟨a, vs, rfl, .inr ⟨h1, q W H _ (.refl W H) r1⟩⟩
      | _ => exact go ex
  · cases e
end
end Lp

set_option Elab.async false
set_option linter.all false
set_option maxRecDepth 100000
set_option maxHeartbeats 4000000
/-! Lp5: targets, walks, comprehensions. -/
namespace Lp
open PySem PySem.Spec PyProof.Rows L2

/-! ### what a state bears of an object that nothing names -/
/-- nothing that the state tells stands at p; it is younger than the entry -/
structure Loose (N : Ent) (W : Wd) (s : S) (σ : L2.St) (p : Addr) : Prop where
  F : W.F p = none
  m : p ∉ W.m
  o : ∀ (i : Nat) (x : PV), s.e[i]? = some (some x) → isOwn x = true → σ[i]? ≠ some (some (.ref p))
  e : N.H p = none
section
variable {B : Bs} {N : Ent} {W W' : Wd} {s s' : S} {σ : L2.St} {H H' : Hp} {p : Addr} {o : HO}
theorem CellR.off {c : Cell} {a : Addr} (r : CellR B W H a c) (ne : a ≠ p) : CellR B W (upd H p o) a c := r.mono (.refl W) (fun u e => by rw [upd_ne ne]; exact e) 
theorem rel_put (r : Rel B N W s σ H) (l : Loose N W s σ p) (ho : SzO o) : Rel B N W s σ (upd H p o) := by
  refine ⟨⟨fun a u e => ?_, r.hr.len, r.hr.nd, fun a hm => ?_, fun a u e => ?_, fun n c a e1 e2 => ?_⟩, ?_, r.len, fun i x e => ?_, r.dis, r.pin⟩
  · have ne : a ≠ p := fun z => by rw [z, l.F] at e; cases e
    rw [upd_ne ne]; exact r.hr.agree _ _ e
  · have ne : a ≠ p := fun z => l.m (z ▸ hm)
    rw [upd_ne ne]; exact r.hr.mt a hm
  · by_cases ha : a = p
    · rw [ha, upd_same] at e
      cases e
      exact ho
    · rw [upd_ne ha] at e
      exact r.hr.hz a u e
  · obtain ⟨h1, h2⟩ := r.hr.cell n c a e1 e2
    exact ⟨h1, h2.off fun z => l.m (z ▸ List.mem_of_getElem? e2)⟩
  · have st := r.st
    refine ⟨st.le, st.hl, st.dead, fun a u e nl => ?_, fun a e => ?_, fun a e ne nl => ?_, st.hm, st.mnew⟩
    · have ne : a ≠ p := fun z => by rw [z, l.e] at e; cases e
      rw [upd_ne ne]; exact st.keep a u e nl
    · by_cases ha : a = p
      · rw [ha, upd_same] at e; cases e
      · rw [upd_ne ha] at e; exact st.tr a e
    · exact st.fgrow a e ne nl
  · obtain ⟨v, e1, sl⟩ := r.env i x e
    refine ⟨v, e1, ?_⟩
    cases x with
    | own xs =>
      obtain ⟨a, vs, rfl, h1, h2, h3, h4, h5⟩ := sl
      have ne : a ≠ p := fun z => l.o i _ e rfl (by rw [e1, z])
      exact ⟨a, vs, rfl, by rw [upd_ne ne]; exact h1, h2, h3, h4, h5⟩
    | don ks => exact sl
    | _ => exact sl
/-- it is put up for good -/
theorem rel_keep (r : Rel B N W s σ H) (l : Loose N W s σ p) (hp : H p = some o) : Rel B N ⟨upd W.F p o, W.m⟩ s σ H := by
  have le : W.Le ⟨upd W.F p o, W.m⟩ := le_new l.F
  refine ⟨⟨fun a u e => ?_, r.hr.len, r.hr.nd, r.hr.mt, r.hr.hz, fun n c a e1 e2 => ?_⟩, ?_, r.len, fun i x e => ?_, r.dis, r.pin.trans le⟩
  · by_cases ha : a = p
    · have e : upd W.F p o a = some u := e
      rw [ha, upd_same] at e
      rw [ha, hp]; exact e
    · have e : upd W.F p o a = some u := e
      rw [upd_ne ha] at e
      exact r.hr.agree _ _ e
  · obtain ⟨h1, h2⟩ := r.hr.cell n c a e1 e2
    have ne : a ≠ p := fun z => l.m (z ▸ List.mem_of_getElem? e2)
    exact ⟨by show upd W.F p o a = none; rw [upd_ne ne]; exact h1, h2.mono le fun _ z => z⟩
  · have st := r.st
    refine ⟨st.le.trans le, st.hl, st.dead, st.keep, st.tr, fun a e ne nl => ?_, st.hm, st.mnew⟩
    have ha : a ≠ p := fun z => ne (z ▸ l.e)
    show upd W.F p o a = none
    rw [upd_ne ha]; exact st.fgrow a e ne nl
  · obtain ⟨v, e1, sl⟩ := r.env i x e
    refine ⟨v, e1, ?_⟩
    cases x with
    | own xs =>
      obtain ⟨a, vs, rfl, h1, h2, h3, h4, h5⟩ := sl
      have ne : a ≠ p := fun z => l.o i _ e rfl (by rw [e1, z])
      exact ⟨a, vs, rfl, h1, h2.mono le, by show upd W.F p o a = none; rw [upd_ne ne]; exact h3, h4, h5⟩
    | don ks => exact sl
    | _ => exact Rep.mono le sl
/-- from a state ahead of the object: it is loose, and stays so -/
theorem Rel.loose (r : Rel B N W s σ H) (hp : H p = none) : Loose N W s σ p := by
  refine ⟨r.hr.fnone hp, fun z => r.hr.mt p z hp, fun i x e o q => ?_, r.st.tr _ hp⟩
  · obtain ⟨v, e1, sl⟩ := r.env i x e
    rw [q] at e1
    cases e1
    cases x with
    | own xs =>
      obtain ⟨a, vs, e2, h1, _⟩ := sl
      cases e2
      rw [hp] at h1
      cases h1
    | don ks => exact sl
    | _ => cases o
theorem Loose.on (l : Loose N W s σ p) (hl : W.m.length = s.h.length) (st : StepE W s H W' s' H') (hp : H p ≠ none) : Loose N W' s' σ p :=
  ⟨st.st.fgrow p l.F hp fun z => l.m z.mem, st.st.notm hl l.m hp, fun i x e o => l.o i x (st.eo i x e o) o, l.e⟩
theorem Loose.held (l : Loose N W s σ p) (st : StepE W s H W' s' H') (hp : H p = some o) : H' p = some o := st.st.keep p o hp fun z => l.m z.mem
/-- a step told of the heap without the loose object -/
theorem StepE.put (st : StepE W s H W' s' H') (hp : H p = none) (hm : p ∉ W'.m) : StepE W s H W' s' (upd H' p o) := by
  refine ⟨⟨st.st.le, st.st.hl, st.st.dead, fun a u e nl => ?_, fun a e => ?_, st.st.fgrow, st.st.hm, st.st.mnew⟩, st.eo⟩
  · rw [upd_ne (ne_of_none e hp)]; exact st.st.keep a u e nl
  · by_cases ha : a = p
    · rw [ha, upd_same] at e; cases e
    · rw [upd_ne ha] at e; exact st.st.tr a e
theorem StepE.keepNew (st : StepE W s H W' s' H') (hp : H p = none) (hF : W'.F p = none) : StepE W s H ⟨upd W'.F p o, W'.m⟩ s' H' := by
  refine ⟨⟨st.st.le.trans (le_new hF), st.st.hl, st.st.dead, st.st.keep, st.st.tr, fun a e ne nl => ?_, st.st.hm, st.st.mnew⟩, st.eo⟩
  have ha : a ≠ p := fun z => ne (z ▸ hp)
  show upd W'.F p o a = none
  rw [upd_ne ha]; exact st.st.fgrow a e ne nl
end

/-! ### slots written, slots wiped -/
def wipeE (e : List (Option PV)) : List Nat → List (Option PV)
  | [] => e
  | v :: vs => (wipeE e vs).set v none
section
variable {B : Bs} {N : Ent} {W W' : Wd} {s s' : S} {σ : L2.St} {H H' : Hp} {p : Addr} {o : HO}
theorem wipeE_length (e : List (Option PV)) : ∀ vs : List Nat, (wipeE e vs).length = e.length
  | [] => rfl
  | v :: vs => by unfold wipeE; rw [List.length_set, wipeE_length e vs]
theorem wipeE_get {e : List (Option PV)} {i : Nat} {x : PV} : ∀ {vs : List Nat}, (wipeE e vs)[i]? = some (some x) → e[i]? = some (some x) ∧ i ∉ vs
  | [], h => ⟨h, by simp⟩
  | v :: vs, h => by
    unfold wipeE at h
    by_cases hi : v = i
    · subst hi
      by_cases hv : v < (wipeE e vs).length
      · rw [List.getElem?_set_self hv] at h; cases h
      · rw [List.getElem?_eq_none (by simpa using hv)] at h; cases h
    · rw [List.getElem?_set_ne hi] at h
      obtain ⟨h1, h2⟩ := wipeE_get h
      exact ⟨h1, by simp only [List.mem_cons, not_or]; exact ⟨fun e => hi e.symm, h2⟩⟩
theorem wipe_at {σ : L2.St} {i : Nat} : ∀ {vs : List Nat}, i ∉ vs → (wipe σ vs)[i]? = σ[i]?
  | [], _ => rfl
  | v :: vs, h => by
    simp only [List.mem_cons, not_or] at h
    unfold wipe
    rw [List.getElem?_set_ne (fun e => h.1 e.symm)]
    exact wipe_at h.2
theorem wipe_set {σ : L2.St} {i : Nat} {x : Option V} : ∀ {vs : List Nat}, i ∈ vs → wipe (σ.set i x) vs = wipe σ vs
  | [], h => by cases h
  | v :: vs, h => by
    unfold wipe
    by_cases hm : i ∈ vs
    · rw [wipe_set hm]
    · have hv : i = v := by
        rcases List.mem_cons.mp h with z | z
        · exact z
        · exact absurd z hm
      subst hv
      have go : ∀ ws : List Nat, i ∉ ws → wipe (σ.set i x) ws = (wipe σ ws).set i x := by
        intro ws
        induction ws with
        | nil => intro _; rfl
        | cons w ws ih =>
          intro hw
          simp only [List.mem_cons, not_or] at hw
          unfold wipe
          rw [ih hw.2, List.set_comm _ _ hw.1]
      rw [go vs hm, List.set_set]
theorem rel_set {i : Nat} {x : PV} {v : V} (r : Rel B N W s σ H) (rx : Rep B W x v) : Rel B N W ⟨s.e.set i (some x), s.h⟩ (σ.set i (some v)) H := by
  have nx : isOwn x = false := by cases rx <;> rfl
  refine ⟨r.hr, r.st, by simp only [List.length_set]; exact r.len, fun j y e => ?_, fun j k y z a hjk e1 e2 o1 o2 s1 s2 => ?_, r.pin⟩
  · by_cases hj : i = j
    · subst hj
      by_cases hi : i < s.e.length
      · have e : (s.e.set i (some x))[i]? = some (some y) := e
        rw [List.getElem?_set_self hi] at e
        cases e
        exact ⟨v, List.getElem?_set_self (by rw [r.len]; exact hi), rx.slot⟩
      · have e : (s.e.set i (some x))[i]? = some (some y) := e
        rw [List.getElem?_eq_none (by rw [List.length_set]; omega)] at e
        cases e
    · have e : (s.e.set i (some x))[j]? = some (some y) := e
      rw [List.getElem?_set_ne hj] at e
      rw [List.getElem?_set_ne hj]
      exact r.env j y e
  · have g : ∀ (j : Nat) (y : PV), (s.e.set i (some x))[j]? = some (some y) → isOwn y = true → j ≠ i := fun j y e o z => by
      subst z
      by_cases hi : j < s.e.length
      · rw [List.getElem?_set_self hi] at e
        cases e
        rw [nx] at o
        cases o
      · rw [List.getElem?_eq_none (by rw [List.length_set]; omega)] at e
        cases e
    have hj := g j y e1 o1
    have hk := g k z e2 o2
    have e1 : (s.e.set i (some x))[j]? = some (some y) := e1
    have e2 : (s.e.set i (some x))[k]? = some (some z) := e2
    rw [List.getElem?_set_ne (Ne.symm hj)] at e1 s1
    rw [List.getElem?_set_ne (Ne.symm hk)] at e2 s2
    exact r.dis j k y z a hjk e1 e2 o1 o2 s1 s2
theorem rel_wipe {vs : List Nat} (r : Rel B N W s σ H) : Rel B N W ⟨wipeE s.e vs, s.h⟩ (wipe σ vs) H := by
  refine ⟨r.hr, r.st, by simp only [wipeE_length, wipe_length]; exact r.len, fun j y e => ?_, fun j k y z a hjk e1 e2 o1 o2 s1 s2 => ?_, r.pin⟩
  · obtain ⟨e1, hj⟩ := wipeE_get e
    rw [wipe_at hj]
    exact r.env j y e1
  · obtain ⟨f1, hj⟩ := wipeE_get e1
    obtain ⟨f2, hk⟩ := wipeE_get e2
    rw [wipe_at hj] at s1
    rw [wipe_at hk] at s2
    exact r.dis j k y z a hjk f1 f2 o1 o2 s1 s2
/-- back from a state whose slots agree but for the wiped ones -/
theorem rel_back {σ2 : L2.St} {vs : List Nat} (r : Rel B N W s σ2 H) (e : wipe σ2 vs = wipe σ vs) : Rel B N W ⟨wipeE s.e vs, s.h⟩ σ H := by
  have hlen : σ2.length = σ.length := by
    have := congrArg List.length e
    rw [wipe_length, wipe_length] at this
    exact this
  have g : ∀ j, j ∉ vs → σ2[j]? = σ[j]? := fun j hj => by rw [← wipe_at (σ := σ2) hj, e, wipe_at hj]
  refine ⟨r.hr, r.st, by simp only [wipeE_length]; rw [← hlen]; exact r.len, fun j y e => ?_, fun j k y z a hjk e1 e2 o1 o2 s1 s2 => ?_, r.pin⟩
  · obtain ⟨e1, hj⟩ := wipeE_get e
    rw [← g j hj]
    exact r.env j y e1
  · obtain ⟨f1, hj⟩ := wipeE_get e1
    obtain ⟨f2, hk⟩ := wipeE_get e2
    rw [← g j hj] at s1
    rw [← g k hk] at s2
    exact r.dis j k y z a hjk f1 f2 o1 o2 s1 s2
end

/-! ### targets: names, and tuples of them -/
inductive Tg where
  | n (i : Nat) | t (ts : List Tg)
mutual
def gT (K : PySem.W.Frag) : Tg → TG
  | .n i => gName i
  | .t ts => gTup K ts.length (gTs K ts)
def gTs (K : PySem.W.Frag) : List Tg → TGs
  | [] => gNil
  | t :: ts => gCons (gT K t) (gTs K ts)
end
mutual
def bindT : Tg → PV → List (Option PV) → Option (List (Option PV))
  | .n i, v, e => if isOwn v then none else some (e.set i (some v))
  | .t ts, .tup xs, e => bindTs ts xs e
  | .t _, _, _ => none
def bindTs : List Tg → List PV → List (Option PV) → Option (List (Option PV))
  | [], [], e => some e
  | t :: ts, x :: xs, e => match bindT t x e with
    | some e1 => bindTs ts xs e1
    | none => none
  | _, _, _ => none
end
mutual
def Tg.sl : Tg → List Nat
  | .n i => [i]
  | .t ts => Tg.sls ts
def Tg.sls : List Tg → List Nat
  | [] => []
  | g :: gs => g.sl ++ Tg.sls gs
end
section
variable {X : Cx} {B : Bs} {N : Ent} {W W' : Wd} {s s' : S} {σ : L2.St} {H H' : Hp} {vs : List Nat}
theorem Reps.len_of {xs : List PV} {us : List V} (r : Reps B W xs us) {n : Nat} (h : xs.length = n) : us.length = n := by rw [← r.length]; exact h
mutual
theorem bindTs_len : ∀ {ts : List Tg} {xs : List PV} {e e' : List (Option PV)}, bindTs ts xs e = some e' → xs.length = ts.length
  | [], [], _, _, _ => rfl
  | [], _ :: _, _, _, h => by simp [bindTs] at h
  | _ :: _, [], _, _, h => by simp [bindTs] at h
  | t :: ts, x :: xs, e, e', h => by
    rw [bindTs] at h
    cases q : bindT t x e with
    | none => rw [q] at h; cases h
    | some e1 =>
      rw [q] at h
      exact congrArg Nat.succ (bindTs_len h)
end
mutual
theorem gT_ok (hK : X.K = B.K) : ∀ {t : Tg} {x : PV} {v : V} {s : S} {σ : L2.St} {e' : List (Option PV)} {Q : L2.St → Hp → Prop}, (∀ i ∈ t.sl, i ∈ vs) → Rel B N W s σ H → Rep B W x v → bindT t x s.e = some e' →
    (∀ σ', Rel B N W ⟨e', s.h⟩ σ' H → wipe σ' vs = wipe σ vs → Q σ' H) → gT X.K t v σ H Q
  | .n i, x, v, s, σ, e', Q, hv, r, rx, hb, k => by
    rw [bindT] at hb
    split at hb
    · cases hb
    · cases hb
      exact k _ (rel_set r rx) (wipe_set (hv i (by simp [Tg.sl])))
  | .t ts, x, v, s, σ, e', Q, hv, r, rx, hb, k => by
    cases x with
    | tup xs =>
      rw [bindT] at hb
      obtain ⟨a, us, rfl, h1, ru⟩ := tup_ok hK r.hr rx
      exact ⟨a, us, rfl, h1, ru.len_of (bindTs_len hb), gTs_ok hK (by rw [Tg.sl] at hv; exact hv) r ru hb k⟩
    | _ => simp [bindT] at hb
theorem gTs_ok (hK : X.K = B.K) : ∀ {ts : List Tg} {xs : List PV} {us : List V} {s : S} {σ : L2.St} {e' : List (Option PV)} {Q : L2.St → Hp → Prop}, (∀ i ∈ Tg.sls ts, i ∈ vs) → Rel B N W s σ H → Reps B W xs us → bindTs ts xs s.e = some e' →
    (∀ σ', Rel B N W ⟨e', s.h⟩ σ' H → wipe σ' vs = wipe σ vs → Q σ' H) → gTs X.K ts us σ H Q
  | [], [], _, s, σ, e', Q, _, r, .nil, hb, k => by
    rw [bindTs] at hb
    cases hb
    exact ⟨rfl, k σ r rfl⟩
  | [], _ :: _, _, _, _, _, _, _, _, _, hb, _ => by simp [bindTs] at hb
  | _ :: _, [], _, _, _, _, _, _, _, _, hb, _ => by simp [bindTs] at hb
  | t :: ts, x :: xs, _, s, σ, e', Q, hv, r, .cons rx rt, hb, k => by
    rw [bindTs] at hb
    cases q : bindT t x s.e with
    | none => rw [q] at hb; cases hb
    | some e1 =>
      rw [q] at hb
      refine ⟨_, _, rfl, gT_ok hK (fun i hi => hv i (by rw [Tg.sls]; exact List.mem_append_left _ hi)) r rx q fun σ1 r1 w1 => ?_⟩
      exact gTs_ok hK (s := ⟨e1, s.h⟩) (fun i hi => hv i (by rw [Tg.sls]; exact List.mem_append_right _ hi)) r1 rt hb fun σ2 r2 w2 => k σ2 r2 (w2.trans w1)
end
end
end Lp

set_option Elab.async false
set_option linter.all false
set_option maxRecDepth 100000
set_option maxHeartbeats 4000000
/-! Lp6: walks, comprehensions. -/
namespace Lp
open PySem PySem.Spec PyProof.Rows L2

/-- what is walked: the items; the cells whose lists are walked; whether it is a slot's own list -/
structure Sr where
  xs : List PV
  w : List (Nat × List PV)
  o : Bool
def stillS (h : AH) (r : Sr) : Prop := ∀ p ∈ r.w, h[p.1]? = some (some (.lst p.2))
structure Walks (B : Bs) (J : It) (r : Sr) (W : Wd) (s : S) (H : Hp) : Prop where
  go : ∀ (W' : Wd) (s' : S) (H' : Hp), HRel B W' s'.h H' → W.Le W' → stillS s'.h r → (r.o = true → Step W s.h H W' s'.h H') → ∀ (i : Nat) (x : PV), r.xs[i]? = some x → J.go i H' ∧ ∀ v H'', J.yld i H' v H'' → ∃ W'', Grow W' H' W'' H'' ∧ Rep B W'' x v
  stop : ∀ (W' : Wd) (s' : S) (H' : Hp), HRel B W' s'.h H' → W.Le W' → stillS s'.h r → (r.o = true → Step W s.h H W' s'.h H') → ∀ i : Nat, r.xs.length ≤ i → J.stop i H'
def tI (B : Bs) (N : Ent) (WX : L2.WX) (m : S → R S Sr) : TI := fun σ H R => ∃ W s, Rel B N W s σ H ∧ Post B N WX W s H σ (m s) fun r W' s' H' => stillS s'.h r → r.xs.length ≤ sizeLine → ∀ J, Walks B J r W' s' H' → R J H'
abbrev SimI (X : Cx) (B : Bs) (N : Ent) (WX : L2.WX) (tg : Expr) (e : Expr) (m : S → R S Sr) : Prop := PI X tg e (tI B N WX m)
theorem PI_imp {X : Cx} {tg e : Expr} {t t' : TI} (h : PI X tg e t) (w : ∀ σ H Q, t' σ H Q → t σ H Q) : PI X tg e t' := ⟨fun pins s σ H Q I q => h.run pins s σ H Q I (w _ _ _ q)⟩
def srcOf (h : AH) : PV → Option Sr
  | .str x => some ⟨x.cps.toList.map fun c => .str ⟨#[c]⟩, [], false⟩
  | .tup xs => some ⟨xs, [], false⟩
  | .lst xs => some ⟨xs, [], false⟩
  | .own xs => some ⟨xs, [], true⟩
  | .cel n => match h[n]? with
    | some (some (.lst xs)) => some ⟨xs, [(n, xs)], false⟩
    | _ => none
  | _ => none
def sAny (m : ME) : S → R S Sr := fun s => (m s).bind fun v s1 => match srcOf s1.h v with
  | some r => .ok r s1
  | none => .bad
def sRng1 (m : MA) : S → R S Sr := fun s => (m s).bind fun v s1 => match v with
  | [.int j] => if j.natAbs ≤ 16777216 then .ok ⟨(List.range j.toNat).map fun (k : Nat) => .int k, [], false⟩ s1 else .bad
  | _ => .bad
def sRng2 (m : MA) : S → R S Sr := fun s => (m s).bind fun v s1 => match v with
  | [.int i, .int j] => if i.natAbs < 4611686018427387904 ∧ j.natAbs < 4611686018427387904 ∧ j - i ≤ 16777216 then .ok ⟨(List.range (j - i).toNat).map fun (k : Nat) => .int (i + k), [], false⟩ s1 else .bad
  | _ => .bad
def zipP (xs ys : List PV) : List PV := List.zipWith (fun x y => .tup [x, y]) xs ys
def enumP : Nat → List PV → List PV
  | _, [] => []
  | n, x :: xs => .tup [.int (n : Int), x] :: enumP (n + 1) xs
/-- .. of lists alone -/
def lsrc (h : AH) : PV → Option Sr
  | .tup _ => none
  | .str _ => none
  | x => srcOf h x
def tupOf : PV → Option (List PV)
  | .tup xs => some xs
  | _ => none
def sZip (m : MA) : S → R S Sr := fun s => (m s).bind fun v s1 => match v with
  | [x, y] => match tupOf x, tupOf y with
    | some xs, some ys => .ok ⟨zipP xs ys, [], false⟩ s1
    | _, _ => match lsrc s1.h x, lsrc s1.h y with
      | some a, some b => .ok ⟨zipP a.xs b.xs, a.w ++ b.w, a.o || b.o⟩ s1
      | _, _ => .bad
  | _ => .bad
def sEnum (m : MA) : S → R S Sr := fun s => (m s).bind fun v s1 => match v with
  | [x] => match lsrc s1.h x with
    | some a => .ok ⟨enumP 0 a.xs, a.w, a.o⟩ s1
    | none => .bad
  | _ => .bad
theorem lsrc_ok {h : AH} {x : PV} {r : Sr} (e : lsrc h x = some r) : srcOf h x = some r ∧ (∀ xs, x ≠ .tup xs) ∧ ∀ y, x ≠ .str y := by
  cases x with
  | tup xs => cases e
  | str x => cases e
  | _ => exact ⟨e, (fun _ z => nomatch z), (fun _ z => nomatch z)⟩
theorem tupOf_ok {x : PV} {xs : List PV} (e : tupOf x = some xs) : x = .tup xs := by
  cases x with
  | tup ys => cases e; rfl
  | _ => cases e
section
variable {X : Cx} {B : Bs} {N : Ent} {WX : L2.WX} {W W' : Wd} {s s' : S} {σ : L2.St} {H H' : Hp} {tg e : Expr} {m : ME} {ma : MA}
theorem srcOf_still {h : AH} {v : PV} {r : Sr} (e : srcOf h v = some r) : stillS h r := by
  intro p hp
  cases v with
  | cel n =>
    unfold srcOf at e
    dsimp only at e
    split at e
    · rename_i xs q
      cases e
      simp only [List.mem_singleton] at hp
      rw [hp]; exact q
    · cases e
  | str x => cases e; cases hp
  | tup x => cases e; cases hp
  | lst x => cases e; cases hp
  | own x => cases e; cases hp
  | _ => cases e
theorem src_sz {x : PV} {x' : V} {r : Sr} {Wq : Wd} {hq : AH} {Hq : Hp} (hr : HRel B Wq hq Hq) (rx : RepT B Wq Hq x x') (e : srcOf hq x = some r) (nt : ∀ xs, x ≠ .tup xs) (ns : ∀ y, x ≠ .str y) : r.xs.length ≤ sizeLine := by
  refine asL_sz hr rx (xs := r.xs) ?_
  cases x with
  | tup xs => exact absurd rfl (nt xs)
  | str y => exact absurd rfl (ns y)
  | lst xs => cases e; rfl
  | own xs => cases e; rfl
  | cel n =>
    unfold srcOf at e
    unfold asL
    dsimp only at e ⊢
    split at e
    · cases e; rename_i q; first | rw [q] | rfl
    · cases e
  | _ => cases e
/-- a list's items, wherever it stands, at every later state -/
theorem srcL {v : PV} {v' : V} {r : Sr} (rx : RepT B W H v v') (e : srcOf s.h v = some r) (nt : ∀ xs, v ≠ .tup xs) (ns : ∀ x, v ≠ .str x) (hr0 : HRel B W s.h H) :
    ∃ a, v' = .ref a ∧ ∀ (W' : Wd) (s' : S) (H' : Hp), HRel B W' s'.h H' → W.Le W' → stillS s'.h r → (r.o = true → Step W s.h H W' s'.h H') → ∃ vs, SqL X.K H' a vs ∧ Reps B W' r.xs vs := by
  cases v with
  | tup xs => exact absurd rfl (nt xs)
  | str x => exact absurd rfl (ns x)
  | lst xs =>
    cases e
    cases (show Rep B W (.lst xs) v' from rx) with
    | lst h r => exact ⟨_, rfl, fun W' s' H' hr le _ _ => ⟨_, .inl (.inl (hr.agree _ _ (le.F _ _ h))), r.mono le⟩⟩
  | own xs =>
    cases e
    obtain ⟨a, vs, rfl, h, r, nm⟩ := rx
    exact ⟨a, rfl, fun W' s' H' hr le _ st => ⟨vs, .inl (.inl ((st rfl).keep _ _ h fun z => nm z.mem)), r.mono le⟩⟩
  | cel n =>
    cases (show Rep B W (.cel n) v' from rx) with
    | @cel _ a h =>
      unfold srcOf at e
      dsimp only at e
      split at e
      · rename_i xs q
        cases e
        refine ⟨a, rfl, fun W' s' H' hr le st _ => ?_⟩
        obtain ⟨_, vs, h2, r2⟩ := hr.cell n _ a (st (n, xs) (by simp)) (le.at h)
        exact ⟨vs, .inl (.inl h2), r2⟩
      · cases e
  | _ => cases e
theorem reps_stop {xs : List PV} {vs : List V} (r : Reps B W xs vs) {i : Nat} (h : xs.length ≤ i) : vs.length ≤ i := by rw [← r.length]; exact h
theorem sim_any (hK : X.K = B.K) (he : SimE X B N WX e m) : SimI X B N WX tg e (sAny m) := by
  refine ⟨fun pins sp σ H RR I h => ?_⟩
  obtain ⟨W, s, r, h⟩ := h
  have q := h.bind r.slen
  cases em : m s with
  | bad => rw [em] at q; exact q.elim
  | exc x s' =>
    refine (pi_list he).run pins sp σ H RR I ⟨W, s, r, ?_⟩
    rw [em] at q ⊢
    exact q
  | ok v s1 =>
    rw [em] at q
    have done : ∀ (P : V → Hp → Prop), (∀ W1 H1, Rel B N W1 s1 σ H1 → StepE W s H W1 s1 H1 → Post B N WX W1 s1 H1 σ (match srcOf s1.h v with | some r => R.ok r s1 | none => .bad) (fun r W' s' H' => stillS s'.h r → r.xs.length ≤ sizeLine → ∀ J, Walks B J r W' s' H' → RR J H') → ∀ v', RepT B W1 H1 v v' → P v' H1) → tE B N WX m σ H P := fun P k => by
      refine ⟨W, s, r, ?_⟩
      rw [em]
      exact fun W1 H1 r1 st v' rv => k W1 H1 r1 st (q W1 H1 r1 st) v' rv
    have lst : (∀ xs, v ≠ .tup xs) → (∀ x, v ≠ .str x) → iList X.K (tE B N WX m) σ H RR := fun nt ns => done _ fun W1 H1 r1 st q v' rv => by
      split at q
      · rename_i rr er
        obtain ⟨a, rfl, hl⟩ := srcL (X := X) rv er nt ns r1.hr
        obtain ⟨vs, h1, hrv⟩ := hl W1 s1 H1 r1.hr (.refl _) (srcOf_still er) fun _ => Step.refl r1.hr
        have k := q.ok r1 (srcOf_still er) (src_sz r1.hr rv er nt ns)
        refine ⟨a, rfl, ⟨vs, h1⟩, k _ ⟨fun W' s' H' hr le st2 so i x ex => ?_, fun W' s' H' hr le st2 so i hi => ?_⟩⟩
        · obtain ⟨vs, h1, h2⟩ := hl W' s' H' hr le st2 so
          obtain ⟨u, e1, ru⟩ := h2.get ex
          refine ⟨⟨vs, u, h1, e1⟩, fun w H'' y => ?_⟩
          obtain ⟨rfl, y⟩ := y
          have := y vs h1
          rw [e1] at this
          cases this
          exact ⟨W', .refl _ _, ru⟩
        · obtain ⟨vs, h1, h2⟩ := hl W' s' H' hr le st2 so
          exact ⟨vs, h1, reps_stop h2 hi⟩
      · exact q.elim
    cases v with
    | tup xs =>
      refine (pi_tup he).run pins sp σ H RR I (done _ fun W1 H1 r1 st q v' rv => ?_)
      have k0 := (show Post B N WX W1 s1 H1 σ (R.ok (Sr.mk xs [] false) s1) (fun r W' s' H' => stillS s'.h r → r.xs.length ≤ sizeLine → ∀ J, Walks B J r W' s' H' → RR J H') from q).ok r1 (fun _ hp => nomatch hp)
      cases (show Rep B W1 (.tup xs) v' from rv) with
      | @tup _ a vs h1 h2 =>
        have hl : ∀ W' s' H', HRel B W' s' H' → W1.Le W' → SqT X.K H' a vs := fun W' s' H' hr le => by
          rcases h1 with h1 | ⟨o, its, n, k1, k2, k3, k4, k5⟩
          · exact .inl (.inl (hr.agree _ _ (le.F _ _ h1)))
          · exact .inr ⟨o, its, n, hK ▸ k1, k2, k3, k4, k5⟩
        have k := k0 (by show xs.length ≤ sizeLine; exact tup_sz r1.hr (.tup h1 h2))
        refine ⟨a, rfl, ⟨vs, hl W1 s1.h H1 r1.hr (.refl _)⟩, k _ ⟨fun W' s' H' hr le st2 so i x ex => ?_, fun W' s' H' hr le st2 so i hi => ?_⟩⟩
        · obtain ⟨u, e1, ru⟩ := (h2.mono le).get ex
          refine ⟨⟨vs, u, hl W' s'.h H' hr le, e1⟩, fun w H'' y => ?_⟩
          obtain ⟨rfl, y⟩ := y
          have := y vs (hl W' s'.h _ hr le)
          rw [e1] at this
          cases this
          exact ⟨W', .refl _ _, ru⟩
        · exact ⟨vs, hl W' s'.h H' hr le, reps_stop h2 hi⟩
    | str x =>
      refine (pi_str he).run pins sp σ H RR I (done _ fun W1 H1 r1 st q v' rv => ?_)
      have k0 := (show Post B N WX W1 s1 H1 σ (R.ok (Sr.mk (x.cps.toList.map fun c => .str ⟨#[c]⟩) [] false) s1) (fun r W' s' H' => stillS s'.h r → r.xs.length ≤ sizeLine → ∀ J, Walks B J r W' s' H' → RR J H') from q).ok r1 (fun _ hp => nomatch hp)
      obtain ⟨e1, kx⟩ := rep_str rv
      have k := k0 (by show (x.cps.toList.map fun c => PV.str ⟨#[c]⟩).length ≤ sizeLine; rw [List.length_map, Array.length_toList]; exact kx.2)
      refine ⟨x, e1, k _ ⟨fun W' s' H' hr le st2 so i y ey => ?_, fun W' s' H' hr le st2 so i hi => ?_⟩⟩
      · have ey : (x.cps.toList.map fun c => PV.str ⟨#[c]⟩)[i]? = some y := ey
        rw [List.getElem?_map] at ey
        cases ec : x.cps.toList[i]? with
        | none => rw [ec] at ey; cases ey
        | some c =>
          rw [ec] at ey
          cases ey
          have hi : i < x.cps.size := by simpa using (List.getElem?_eq_some_iff.mp ec).1
          refine ⟨hi, fun w H'' y => ?_⟩
          obtain ⟨rfl, d, e2, rfl⟩ := y
          have ed : d = c := by
            have e3 : x.cps.toList[i]? = x.cps[i]? := by simp
            rw [e3, e2] at ec
            exact Option.some.inj ec
          subst ed
          refine ⟨W', .refl _ _, .str _ (sok_sub kx ?_ fun z hz => ?_)⟩
          · show 1 ≤ x.cps.size
            omega
          · have : z = d := by simpa using hz
            rw [this]; exact List.mem_of_getElem? ec
      · have hi : (x.cps.toList.map fun c => PV.str ⟨#[c]⟩).length ≤ i := hi
        rw [List.length_map, Array.length_toList] at hi
        exact hi
    | lst xs => exact (pi_list he).run pins sp σ H RR I (lst (by intro _ z; cases z) (by intro _ z; cases z))
    | scr xs => exact (pi_list he).run pins sp σ H RR I (lst (by intro _ z; cases z) (by intro _ z; cases z))
    | own xs => exact (pi_list he).run pins sp σ H RR I (lst (by intro _ z; cases z) (by intro _ z; cases z))
    | cel xs => exact (pi_list he).run pins sp σ H RR I (lst (by intro _ z; cases z) (by intro _ z; cases z))
    | _ => exact (pi_list he).run pins sp σ H RR I (lst (by intro _ z; cases z) (by intro _ z; cases z))
theorem sim_rng1 {a : Expr} {p pos : Pos} (hg : Gl X "range") (hm : X.mg "range" = none) (ha : SimA X B N WX [a] ma) (hs : starEach [a] X.env = [(false, eval a X.env)]) : SimI X B N WX tg (.Call (.Name "range" p) [a] [] pos) (sRng1 ma) :=
  PI_imp (pi_range1 hg hm ha hs) fun σ H Q ⟨W, s, r, h⟩ => ⟨W, s, r, (h.bind r.slen).mono fun v W1 s1 H1 r1 _ q v' rv => by
    split at q
    · rename_i j
      split at q
      · rename_i hj
        obtain ⟨u, rfl, ru⟩ := repts1 rv
        have k := q.ok r1 (fun _ hp => nomatch hp) (by show ((List.range j.toNat).map fun (k : Nat) => PV.int k).length ≤ sizeLine; rw [List.length_map, List.length_range, sizeLine_eq]; omega)
        refine ⟨j, by rw [rep_int ru], by omega, by omega, k _ ⟨fun W' s' H' hr le st2 so i x ex => ?_, fun W' s' H' hr le st2 so i hi => ?_⟩⟩
        · have ex : ((List.range j.toNat).map fun (k : Nat) => PV.int k)[i]? = some x := ex
          rw [List.getElem?_map] at ex
          cases ei : (List.range j.toNat)[i]? with
          | none => rw [ei] at ex; cases ex
          | some k =>
            rw [ei] at ex
            cases ex
            obtain ⟨h1, h2⟩ := List.getElem?_eq_some_iff.mp ei
            simp only [List.getElem_range] at h2
            simp only [List.length_range] at h1
            refine ⟨h1, fun w H'' y => ?_⟩
            obtain ⟨rfl, rfl⟩ := y
            exact ⟨W', .refl _ _, by rw [← h2]; simpa using Rep.int (i : Int)⟩
        · have hi : ((List.range j.toNat).map fun (k : Nat) => PV.int k).length ≤ i := hi
          rw [List.length_map, List.length_range] at hi
          exact hi
      · exact q.elim
    · exact q.elim⟩
theorem sim_rng2 {a b : Expr} {p pos : Pos} (hg : Gl X "range") (hm : X.mg "range" = none) (ha : SimA X B N WX [a, b] ma) (hs : starEach [a, b] X.env = [(false, eval a X.env), (false, eval b X.env)]) (hs2 : starEach [b] X.env = [(false, eval b X.env)]) : SimI X B N WX tg (.Call (.Name "range" p) [a, b] [] pos) (sRng2 ma) :=
  PI_imp (pi_range2 hg hm ha hs hs2) fun σ H Q ⟨W, s, r, h⟩ => ⟨W, s, r, (h.bind r.slen).mono fun v W1 s1 H1 r1 _ q v' rv => by
    split at q
    · rename_i i0 j
      split at q
      · rename_i hj
        obtain ⟨u, u2, rfl, ru, ru2⟩ := repts2 rv
        have k := q.ok r1 (fun _ hp => nomatch hp) (by show ((List.range (j - i0).toNat).map fun (k : Nat) => PV.int (i0 + k)).length ≤ sizeLine; rw [List.length_map, List.length_range, sizeLine_eq]; omega)
        refine ⟨i0, j, by rw [rep_int ru, rep_int ru2], by omega, k _ ⟨fun W' s' H' hr le st2 so i x ex => ?_, fun W' s' H' hr le st2 so i hi => ?_⟩⟩
        · have ex : ((List.range (j - i0).toNat).map fun (k : Nat) => PV.int (i0 + k))[i]? = some x := ex
          rw [List.getElem?_map] at ex
          cases ei : (List.range (j - i0).toNat)[i]? with
          | none => rw [ei] at ex; cases ex
          | some k =>
            rw [ei] at ex
            cases ex
            obtain ⟨h1, h2⟩ := List.getElem?_eq_some_iff.mp ei
            simp only [List.getElem_range] at h2
            simp only [List.length_range] at h1
            refine ⟨h1, fun w H'' y => ?_⟩
            obtain ⟨rfl, rfl⟩ := y
            exact ⟨W', .refl _ _, by rw [← h2]; exact Rep.int _⟩
        · have hi : ((List.range (j - i0).toNat).map fun (k : Nat) => PV.int (i0 + k)).length ≤ i := hi
          rw [List.length_map, List.length_range] at hi
          exact hi
      · exact q.elim
    · exact q.elim⟩
theorem enumP_get : ∀ {xs : List PV} {n i : Nat} {z : PV}, (enumP n xs)[i]? = some z → ∃ x, xs[i]? = some x ∧ z = .tup [.int ((n + i : Nat) : Int), x]
  | [], _, _, _, h => by simp [enumP] at h
  | x :: xs, n, 0, z, h => by
    simp only [enumP, List.getElem?_cons_zero, Option.some.injEq] at h
    exact ⟨x, rfl, by rw [← h]; rfl⟩
  | x :: xs, n, i + 1, z, h => by
    simp only [enumP, List.getElem?_cons_succ] at h
    obtain ⟨y, e1, e2⟩ := enumP_get h
    exact ⟨y, by simpa using e1, by rw [e2]; congr 3; congr 1; omega⟩
theorem enumP_len : ∀ {xs : List PV} {n : Nat}, (enumP n xs).length = xs.length
  | [], _ => rfl
  | _ :: xs, n => by simp only [enumP, List.length_cons, enumP_len]
theorem grow_pair {T : Addr} {x y : PV} {u v : V} {Wq : Wd} {Hq : Hp} {hq : AH} (hr : HRel B Wq hq Hq) (hT : Hq T = none) (rx : Rep B Wq x u) (ry : Rep B Wq y v) : ∃ W'', Grow Wq Hq W'' (upd Hq T (.tup [u, v])) ∧ Rep B W'' (.tup [x, y]) (.ref T) :=
  ⟨_, .new hT (by show 2 ≤ sizeLine; decide), rep_tup_new (hr.fnone hT) (.cons rx (.cons ry .nil))⟩
theorem sim_enum {a : Expr} {p pos tpos : Pos} {elts : List Expr} {kk : Nat} (hg : Gl X "enumerate") (hm : X.mg "enumerate" = none) (ha : SimA X B N WX [a] ma) (hs : starEach [a] X.env = [(false, eval a X.env)]) : SimI X B N WX (.Tuple elts kk tpos) (.Call (.Name "enumerate" p) [a] [] pos) (sEnum ma) :=
  PI_imp (pi_enum hg hm ha hs) fun σ H Q ⟨W, s, r, h⟩ => ⟨W, s, r, (h.bind r.slen).mono fun v W1 s1 H1 r1 _ q v' rv => by
    split at q
    · rename_i x
      obtain ⟨u, rfl, ru⟩ := repts1 rv
      split at q
      · rename_i rr er0
        obtain ⟨er, nt, ns⟩ := lsrc_ok er0
        obtain ⟨a, rfl, hl⟩ := srcL (X := X) ru er nt ns r1.hr
        obtain ⟨vs, h1, hrv⟩ := hl W1 s1 H1 r1.hr (.refl _) (srcOf_still er) fun _ => Step.refl r1.hr
        have k := q.ok r1 (fun p hp => srcOf_still er p hp) (by show (enumP 0 rr.xs).length ≤ sizeLine; rw [enumP_len]; exact src_sz r1.hr ru er nt ns)
        refine ⟨a, vs, rfl, h1, k _ ⟨fun W' s' H' hr le st2 so i z ez => ?_, fun W' s' H' hr le st2 so i hi => ?_⟩⟩
        · obtain ⟨vs, h1, h2⟩ := hl W' s' H' hr le st2 so
          obtain ⟨y, ey, rfl⟩ := enumP_get ez
          obtain ⟨u, e1, ru⟩ := h2.get ey
          refine ⟨⟨vs, u, h1, e1⟩, fun w H'' yl => ?_⟩
          obtain ⟨T, w1, rfl, hT, rfl, y3⟩ := yl
          have := y3 vs h1
          rw [e1] at this
          cases this
          rw [Nat.zero_add]
          exact grow_pair hr hT (.int _) ru
        · obtain ⟨vs, h1, h2⟩ := hl W' s' H' hr le st2 so
          have hi : (enumP 0 rr.xs).length ≤ i := hi
          rw [enumP_len] at hi
          exact ⟨vs, h1, reps_stop h2 hi⟩
      · exact q.elim
    · exact q.elim⟩
theorem still_l {h : AH} {a b : Sr} {zs : List PV} {o : Bool} (st : stillS h ⟨zs, a.w ++ b.w, o⟩) : stillS h a := fun p hp => st p (List.mem_append_left _ hp)
theorem still_r {h : AH} {a b : Sr} {zs : List PV} {o : Bool} (st : stillS h ⟨zs, a.w ++ b.w, o⟩) : stillS h b := fun p hp => st p (List.mem_append_right _ hp)
theorem zip_go {xs ys : List PV} {vs ws : List V} {Wq : Wd} {Hq : Hp} {hq : AH} {i : Nat} {z : PV} (hr : HRel B Wq hq Hq) (h2 : Reps B Wq xs vs) (h4 : Reps B Wq ys ws) (ez : (zipP xs ys)[i]? = some z) :
    ∃ x y u v, xs[i]? = some x ∧ ys[i]? = some y ∧ vs[i]? = some u ∧ ws[i]? = some v ∧ Rep B Wq x u ∧ Rep B Wq y v ∧ z = .tup [x, y] := by
  unfold zipP at ez
  rw [List.getElem?_zipWith] at ez
  cases ex : xs[i]? with
  | none => rw [ex] at ez; cases ez
  | some x =>
    cases ey : ys[i]? with
    | none => rw [ex, ey] at ez; cases ez
    | some y =>
      rw [ex, ey] at ez
      cases ez
      obtain ⟨u, e1, ru⟩ := h2.get ex
      obtain ⟨v, e2, rv⟩ := h4.get ey
      exact ⟨x, y, u, v, rfl, rfl, e1, e2, ru, rv, rfl⟩
theorem sim_zip {a b : Expr} {p pos tpos : Pos} {elts : List Expr} {kk : Nat} (hK : X.K = B.K) (hg : Gl X "zip") (hm : X.mg "zip" = none) (ha : SimA X B N WX [a, b] ma) (hs : starEach [a, b] X.env = [(false, eval a X.env), (false, eval b X.env)]) (hs2 : starEach [b] X.env = [(false, eval b X.env)]) (hpl : (backTo pos (starEach [b] X.env)).any (·.1) = false) : SimI X B N WX (.Tuple elts kk tpos) (.Call (.Name "zip" p) [a, b] [] pos) (sZip ma) :=
  PI_imp (RZ.pi_zipA hg hm ha (by rw [hs, hs2]) hpl) fun σ H Q ⟨W, s, r, h⟩ => ⟨W, s, r, (h.bind r.slen).mono fun v W1 s1 H1 r1 _ q v' rv => by
    split at q
    · rename_i x y
      obtain ⟨u, u2, rfl, ru, ru2⟩ := repts2 rv
      split at q
      · rename_i xs ys ex ey
        have ex := tupOf_ok ex
        have ey := tupOf_ok ey
        subst ex ey
        have k0 := q.ok r1 (fun _ hp => nomatch hp)
        cases (show Rep B W1 (.tup xs) u from ru) with
        | @tup _ a vs h1 h2 =>
          cases (show Rep B W1 (.tup ys) u2 from ru2) with
          | @tup _ b ws h3 h4 =>
            have hl : ∀ {a : Addr} {vs : List V}, TupAt B W1 a vs → ∀ W' s' H', HRel B W' s' H' → W1.Le W' → SqT X.K H' a vs := fun h1 W' s' H' hr le => by
              rcases h1 with h1 | ⟨o, its, n, k1, k2, k3, k4, k5⟩
              · exact .inl (.inl (hr.agree _ _ (le.F _ _ h1)))
              · exact .inr ⟨o, its, n, hK ▸ k1, k2, k3, k4, k5⟩
            have k := k0 (by
              have := tup_sz r1.hr (.tup h1 h2)
              show (zipP xs ys).length ≤ sizeLine
              unfold zipP
              rw [List.length_zipWith]
              omega)
            refine ⟨a, b, vs, ws, rfl, .inr ⟨hl h1 _ _ _ r1.hr (.refl _), hl h3 _ _ _ r1.hr (.refl _), k _ ⟨fun W' s' H' hr le st2 so i z ez => ?_, fun W' s' H' hr le st2 so i hi => ?_⟩⟩⟩
            · obtain ⟨x, y, u, v, e1, e2, e3, e4, rx, ry, rfl⟩ := zip_go hr (h2.mono le) (h4.mono le) ez
              refine ⟨⟨vs, ws, u, v, hl h1 _ _ _ hr le, hl h3 _ _ _ hr le, e3, e4⟩, fun w H'' yl => ?_⟩
              obtain ⟨T, w1, w2, rfl, hT, rfl, y3, y4⟩ := yl
              have t1 := y3 vs (hl h1 _ _ _ hr le)
              have t2 := y4 ws (hl h3 _ _ _ hr le)
              rw [e3] at t1
              rw [e4] at t2
              cases t1
              cases t2
              exact grow_pair hr hT rx ry
            · refine ⟨vs, ws, hl h1 _ _ _ hr le, hl h3 _ _ _ hr le, ?_⟩
              have hi : (zipP xs ys).length ≤ i := hi
              unfold zipP at hi
              rw [List.length_zipWith, h2.length, h4.length] at hi
              omega
      · split at q
        · rename_i ra rb ea eb
          obtain ⟨ea, nt, ns⟩ := lsrc_ok ea
          obtain ⟨eb, nt2, ns2⟩ := lsrc_ok eb
          obtain ⟨a, rfl, hl⟩ := srcL (X := X) ru ea nt ns r1.hr
          obtain ⟨b, rfl, hl2⟩ := srcL (X := X) ru2 eb nt2 ns2 r1.hr
          have oa : ∀ {Z : Prop}, ((ra.o || rb.o) = true → Z) → ra.o = true → Z := fun f e => f (by rw [e]; rfl)
          have ob : ∀ {Z : Prop}, ((ra.o || rb.o) = true → Z) → rb.o = true → Z := fun f e => f (by rw [e, Bool.or_true])
          obtain ⟨vs0, h10, hr10⟩ := hl W1 s1 H1 r1.hr (.refl _) (srcOf_still ea) fun _ => Step.refl r1.hr
          obtain ⟨ws0, h30, _⟩ := hl2 W1 s1 H1 r1.hr (.refl _) (srcOf_still eb) fun _ => Step.refl r1.hr
          have k := q.ok r1 (fun p hp => (List.mem_append.mp hp).elim (srcOf_still ea p) (srcOf_still eb p)) (by
            have := src_sz r1.hr ru ea nt ns
            show (zipP ra.xs rb.xs).length ≤ sizeLine
            unfold zipP
            rw [List.length_zipWith]
            omega)
          refine ⟨a, b, vs0, ws0, rfl, .inl ⟨h10, h30, k _ ⟨fun W' s' H' hr le st2 so i z ez => ?_, fun W' s' H' hr le st2 so i hi => ?_⟩⟩⟩
          · obtain ⟨vs, h1, h2⟩ := hl W' s' H' hr le (still_l st2) (oa so)
            obtain ⟨ws, h3, h4⟩ := hl2 W' s' H' hr le (still_r st2) (ob so)
            obtain ⟨x, y, u, v, e1, e2, e3, e4, rx, ry, rfl⟩ := zip_go hr h2 h4 ez
            refine ⟨⟨vs, ws, u, v, h1, h3, e3, e4⟩, fun w H'' yl => ?_⟩
            obtain ⟨T, w1, w2, rfl, hT, rfl, y3, y4⟩ := yl
            have t1 := y3 vs h1
            have t2 := y4 ws h3
            rw [e3] at t1
            rw [e4] at t2
            cases t1
            cases t2
            exact grow_pair hr hT rx ry
          · obtain ⟨vs, h1, h2⟩ := hl W' s' H' hr le (still_l st2) (oa so)
            obtain ⟨ws, h3, h4⟩ := hl2 W' s' H' hr le (still_r st2) (ob so)
            refine ⟨vs, ws, h1, h3, ?_⟩
            have hi : (zipP ra.xs rb.xs).length ≤ i := hi
            unfold zipP at hi
            rw [List.length_zipWith, h2.length, h4.length] at hi
            omega
        · exact q.elim
    · exact q.elim⟩
end

/-! ### comprehensions -/
def testY : S → R S Bool := fun s => .ok true s
section
variable {X : Cx} {B : Bs} {N : Ent} {WX : L2.WX}
def SimTs (X : Cx) (B : Bs) (N : Ent) (WX : L2.WX) (ifs : List Expr) (m : S → R S Bool) : Prop := PTs X ifs (tT B N WX m)
theorem PTs_imp {ifs : List Expr} {t t' : TT} (h : PTs X ifs t) (w : ∀ σ H Q, t' σ H Q → t σ H Q) : PTs X ifs t' := ⟨fun pins s σ H Q I q => h.run pins s σ H Q I (w _ _ _ q)⟩
theorem simTs_nil : SimTs X B N WX [] testY := PTs_imp pts_nil fun σ H Q ⟨W, s, r, h⟩ => h.ok r
theorem simTs_one {c : Expr} {m : S → R S Bool} (h : SimT X B N WX c m) : SimTs X B N WX [c] m := pts_one h
end
/-- nothing is raised within a comprehension -/
def R.nx {τ α : Type} (r : R τ α) : R τ α := match r with
  | .ok a s => .ok a s
  | _ => .bad
@[simp] theorem R.nx_ok {τ α : Type} (a : α) (s : τ) : (R.ok a s).nx = .ok a s := rfl
@[simp] theorem R.nx_bad {τ α : Type} : (R.bad : R τ α).nx = .bad := rfl
theorem R.post_nx {τ α : Type} {r : R τ α} {P : α → τ → Prop} {E E' : PV → τ → Prop} (h : r.nx.post P E) : r.post P E' := by
  cases r with
  | ok a s => exact h
  | exc x s => exact h.elim
  | bad => exact h
/-- one turn: the item x, what is made so far acc -/
def stepC (t : Tg) (tt : S → R S Bool) (te : ME) (vs : List Nat) (x : PV) (acc : List PV) : S → R S (List PV) := fun s => match bindT t x (wipeE s.e vs) with
  | some e1 => (tt ⟨e1, s.h⟩).nx.bind fun b s2 => if b = true then (te s2).nx.bind fun y s3 => if isOwn y = true then .bad else .ok (acc ++ [y]) ⟨wipeE s3.e vs, s3.h⟩ else .ok acc ⟨wipeE s2.e vs, s2.h⟩
  | none => .bad
open Classical in
noncomputable def loopC (r : Sr) (t : Tg) (tt : S → R S Bool) (te : ME) (vs : List Nat) : List PV → List PV → S → R S (List PV)
  | [], acc, s => .ok acc s
  | x :: xs, acc, s => (stepC t tt te vs x acc s).bind fun acc' s' => if stillS s'.h r then loopC r t tt te vs xs acc' s' else .bad
noncomputable def eCompN (src : S → R S Sr) (t : Tg) (tt : S → R S Bool) (te : ME) (vs : List Nat) : S → R S (List PV) := fun s => (src s).bind fun r s1 => loopC r t tt te vs r.xs [] ⟨wipeE s1.e vs, s1.h⟩
noncomputable def eComp (src : S → R S Sr) (t : Tg) (tt : S → R S Bool) (te : ME) (vs : List Nat) : ME := fun s => (eCompN src t tt te vs s).bind fun acc s1 => .ok (.lst acc) s1
/-- it raises nothing -/
def R.Nx {τ α : Type} : R τ α → Prop
  | .exc _ _ => False
  | _ => True
theorem R.Nx.bind {τ α β : Type} {r : R τ α} {f : α → τ → R τ β} (h : r.Nx) (k : ∀ a s, (f a s).Nx) : (r.bind f).Nx := by
  cases r with
  | ok a s => exact k a s
  | exc x s => exact h
  | bad => exact trivial
theorem R.nx_Nx {τ α : Type} (r : R τ α) : r.nx.Nx := by cases r <;> exact trivial
theorem R.post_of_nx {τ α : Type} {r : R τ α} {P : α → τ → Prop} {E E' : PV → τ → Prop} (n : r.Nx) (h : r.post P E) : r.post P E' := by
  cases r with
  | ok a s => exact h
  | exc x s => exact n.elim
  | bad => exact h
theorem stepC_nx (t : Tg) (tt : S → R S Bool) (te : ME) (vs : List Nat) (x : PV) (acc : List PV) (s : S) : (stepC t tt te vs x acc s).Nx := by
  unfold stepC
  split
  · refine (R.nx_Nx _).bind fun b s2 => ?_
    split
    · refine (R.nx_Nx _).bind fun y s3 => ?_
      split <;> exact trivial
    · exact trivial
  · exact trivial
theorem loopC_nx (r : Sr) (t : Tg) (tt : S → R S Bool) (te : ME) (vs : List Nat) : ∀ (xs acc : List PV) (s : S), (loopC r t tt te vs xs acc s).Nx
  | [], _, _ => trivial
  | x :: xs, acc, s => by
    unfold loopC
    refine (stepC_nx t tt te vs x acc s).bind fun acc' s' => ?_
    split
    · exact loopC_nx r t tt te vs xs acc' s'
    · exact trivial
section
variable {X : Cx} {B : Bs} {N : Ent} {WX : L2.WX} {W W' : Wd} {s s' : S} {σ : L2.St} {H H' : Hp}
/-- a new list, not yet put anywhere: what is wanted of it -/
def tN (B : Bs) (N : Ent) (WX : L2.WX) (m : S → R S (List PV)) : TE := fun σ H Q => ∃ W s, Rel B N W s σ H ∧ Post B N WX W s H σ (m s) fun xs W' s' H' => ∀ p vs, H p = none → Loose N W' s' σ p → H' p = some (.lst vs) → Reps B W' xs vs → Q (.ref p) H'
abbrev SimN (X : Cx) (B : Bs) (N : Ent) (WX : L2.WX) (e : Expr) (m : S → R S (List PV)) : Prop := PE X e (tN B N WX m)
def shN (m : S → R S (List PV)) : ME := fun s => (m s).bind fun xs s1 => .ok (.lst xs) s1
/-- it is put up for good: a list as a value -/
theorem tE_sh {m : S → R S (List PV)} {Q : VK} (h : tE B N WX (shN m) σ H Q) : tN B N WX m σ H Q := by
  obtain ⟨W, s, r, h⟩ := h
  refine ⟨W, s, r, R.post_mono (R.post_bind h) (fun xs s1 q W1 H1 r1 st p vs hp l hH rv => ?_) fun x s1 q => q⟩
  exact q _ H1 (rel_keep r1 l hH) (st.keepNew hp l.F) _ (Rep.lst upd_same (rv.mono (le_new l.F))).hand
theorem SimN.sh {e : Expr} {m : S → R S (List PV)} (h : SimN X B N WX e m) : SimE X B N WX e (shN m) := h.imp fun _ _ _ h => tE_sh h
theorem cmp_wipe {σ : L2.St} : ∀ vs : List Nat, wipe (wipe σ vs) vs = wipe σ vs := fun vs => by
  have key : ∀ (us : List Nat), (∀ u ∈ us, u ∈ vs) → wipe (wipe σ us) vs = wipe σ vs := by
    intro us
    induction us with
    | nil => intro _; rfl
    | cons u us ih =>
      intro h
      show wipe ((wipe σ us).set u none) vs = wipe σ vs
      rw [wipe_set (h u (by simp))]
      exact ih fun w hw => h w (List.mem_cons_of_mem _ hw)
  exact key vs fun _ h => h
mutual
theorem bindT_own : ∀ {t : Tg} {x : PV} {e e' : List (Option PV)}, bindT t x e = some e' → ∀ (i : Nat) (y : PV), e'[i]? = some (some y) → isOwn y = true → e[i]? = some (some y)
  | .n j, x, e, e', h, i, y, e1, o => by
    rw [bindT] at h
    split at h
    · cases h
    · rename_i hx
      cases h
      by_cases hj : j = i
      · subst hj
        by_cases hl : j < e.length
        · rw [List.getElem?_set_self hl] at e1
          cases e1
          exact absurd o hx
        · rw [List.getElem?_eq_none (by rw [List.length_set]; omega)] at e1
          cases e1
      · rw [List.getElem?_set_ne hj] at e1
        exact e1
  | .t ts, x, e, e', h, i, y, e1, o => by
    cases x with
    | tup xs => rw [bindT] at h; exact bindTs_own h i y e1 o
    | _ => simp [bindT] at h
theorem bindTs_own : ∀ {ts : List Tg} {xs : List PV} {e e' : List (Option PV)}, bindTs ts xs e = some e' → ∀ (i : Nat) (y : PV), e'[i]? = some (some y) → isOwn y = true → e[i]? = some (some y)
  | [], [], e, e', h, i, y, e1, o => by rw [bindTs] at h; cases h; exact e1
  | [], _ :: _, _, _, h, _, _, _, _ => by simp [bindTs] at h
  | _ :: _, [], _, _, h, _, _, _, _ => by simp [bindTs] at h
  | t :: ts, x :: xs, e, e', h, i, y, e1, o => by
    rw [bindTs] at h
    cases q : bindT t x e with
    | none => rw [q] at h; cases h
    | some e2 =>
      rw [q] at h
      exact bindT_own q i y (bindTs_own h i y e1 o) o
end
theorem stepE_wipe {vs : List Nat} (st : StepE W s H W' s' H') : StepE W s H W' ⟨wipeE s'.e vs, s'.h⟩ H' := ⟨st.st, fun i x e o => st.eo i x (wipeE_get e).1 o⟩
theorem stepE_bind {t : Tg} {x : PV} {vs : List Nat} {e1 : List (Option PV)} (st : StepE W s H W' s' H') (hb : bindT t x (wipeE s'.e vs) = some e1) : StepE W s H W' ⟨e1, s'.h⟩ H' := ⟨st.st, fun i x e o => st.eo i x (wipeE_get (bindT_own hb i x e o)).1 o⟩
theorem loose_bind {t : Tg} {x : PV} {vs : List Nat} {e1 : List (Option PV)} {p : Addr} {σ2 : L2.St} (l : Loose N W s σ p) (hb : bindT t x (wipeE s.e vs) = some e1) (hw : wipe σ2 vs = wipe σ vs) : Loose N W ⟨e1, s.h⟩ σ2 p :=
  ⟨l.F, l.m, fun i x e o z => by
    obtain ⟨e2, hi⟩ := wipeE_get (bindT_own hb i x e o)
    have : σ2[i]? = σ[i]? := by rw [← wipe_at (σ := σ2) hi, hw, wipe_at hi]
    rw [this] at z
    exact l.o i x e2 o z, l.e⟩
theorem loose_back {vs : List Nat} {p : Addr} {σ2 : L2.St} (l : Loose N W s σ2 p) (hw : wipe σ2 vs = wipe σ vs) : Loose N W ⟨wipeE s.e vs, s.h⟩ σ p :=
  ⟨l.F, l.m, fun i x e o z => by
    obtain ⟨e2, hi⟩ := wipeE_get e
    have : σ2[i]? = σ[i]? := by rw [← wipe_at (σ := σ2) hi, hw, wipe_at hi]
    rw [← this] at z
    exact l.o i x e2 o z, l.e⟩
theorem loose_put {p : Addr} (l : Loose N W s σ p) : Loose N W s σ p := l
abbrev WF : L2.WX := fun _ _ _ _ => False
theorem comp_core {r : Sr} {t : Tg} {tt : S → R S Bool} {te : ME} {vs : List Nat} {J : It} {W1 : Wd} {s0 s1 : S} {H1 : Hp} {D : Addr} {Q : VK} {Pf : List PV → Wd → S → Hp → Prop} (hK : X.K = B.K) (hv : ∀ i ∈ t.sl, i ∈ vs)
    (r1 : Rel B N W1 s1 σ H1) (wk : Walks B J r W1 s0 H1) (e0 : s0.h = s1.h) (st0 : stillS s1.h r) (hD : H1 D = none) (hline : r.xs.length ≤ sizeLine)
    (q : Post B N WF W1 s1 H1 σ (loopC r t tt te vs r.xs [] s1) Pf) (fin : ∀ xs av W' s' H', Rel B N W' s' σ H' → StepE W1 s1 H1 W' s' H' → Pf xs W' s' H' → Loose N W' s' σ D → H' D = some (.lst av) → Reps B W' xs av → Q (.ref D) H') :
    ∃ Wm : Nat → Nat → Hp → Prop, (∃ m, Wm 0 m (upd H1 D (.lst []))) ∧ ∀ i m H, Wm i m H →
      (J.stop i H ∧ Q (.ref D) H) ∨ (J.go i H ∧ ∃ Nx : Hp → Prop, (∀ H', Nx H' → ∃ m', m' < m ∧ Wm (i + 1) m' H') ∧ ∀ x H', J.yld i H x H' → gT X.K t x (wipe σ vs) H' fun σ2 H2 => wipe σ2 vs = wipe σ vs ∧ tT B N WF tt σ2 H2 fun b H3 =>
        if b = true then tE B N WF te σ2 H3 fun y H4 => ∃ acc, H4 D = some (.lst acc) ∧ acc.length < sizeLine ∧ Nx (upd H4 D (.lst (acc ++ [y]))) else Nx H3) := by
  -- what holds ahead of turn i
  let Iv : Nat → Hp → Prop := fun i H => ∃ W' s' acc av, Rel B N W' s' σ H ∧ StepE W1 s1 H1 W' s' H ∧ Loose N W' s' σ D ∧ H D = some (.lst av) ∧ Reps B W' acc av ∧ acc.length ≤ i ∧ i ≤ r.xs.length ∧ stillS s'.h r ∧
    Post B N WF W1 s1 H1 σ (loopC r t tt te vs (r.xs.drop i) acc s') Pf
  refine ⟨fun i m H => m = r.xs.length - i ∧ Iv i H, ⟨r.xs.length, rfl, W1, s1, [], [], rel_put r1 (r1.loose hD) (Nat.zero_le _), (StepE.refl r1.hr).put hD (r1.loose hD).m, r1.loose hD, upd_same, .nil, Nat.le_refl _, Nat.zero_le _, st0, by simpa using q⟩, ?_⟩
  rintro i m H ⟨rfl, W', s', acc, av, r', st', l', hDv, ra, hacc, hi, sl', q'⟩
  have own_st : r.o = true → Step W1 s0.h H1 W' s'.h H := fun _ => by rw [e0]; exact st'.st
  by_cases hlt : i < r.xs.length
  · refine .inr ?_
    have ex := List.getElem?_eq_getElem hlt
    obtain ⟨g1, g2⟩ := wk.go W' s' H r'.hr st'.st.le sl' own_st i _ ex
    refine ⟨g1, fun H' => Iv (i + 1) H', fun H' hv' => ⟨r.xs.length - (i + 1), by omega, rfl, hv'⟩, fun v H2 y => ?_⟩
    obtain ⟨W2, gr, rx⟩ := g2 v H2 y
    rw [List.drop_eq_getElem_cons hlt] at q'
    have q2 := R.post_bind (show ((stepC t tt te vs r.xs[i] acc s').bind fun acc' s' => @ite _ (stillS s'.h r) (Classical.propDecidable _) (loopC r t tt te vs (r.xs.drop (i + 1)) acc' s') .bad).post _ _ from q')
    have r2 := gr.rel r'
    have st2 := st'.trans r1.slen (gr.stepE r'.hr)
    have l2 := l'.on r'.slen (gr.stepE r'.hr) (by rw [hDv]; exact fun z => nomatch z)
    have d2 := l'.held (gr.stepE r'.hr) hDv
    unfold stepC at q2
    cases eb : bindT t r.xs[i] (wipeE s'.e vs) with
    | none => rw [eb] at q2; exact q2.elim
    | some e1 =>
      rw [eb] at q2
      refine gT_ok hK (vs := vs) (s := ⟨wipeE s'.e vs, s'.h⟩) hv (rel_wipe r2) rx eb fun σ2 r3 w3 => ?_
      have w3 : wipe σ2 vs = wipe σ vs := w3.trans (cmp_wipe vs)
      have st3 : StepE W1 s1 H1 W2 ⟨e1, s'.h⟩ H2 := stepE_bind st2 eb
      have l3 : Loose N W2 ⟨e1, s'.h⟩ σ2 D := loose_bind l2 eb w3
      refine ⟨w3, W2, ⟨e1, s'.h⟩, r3, R.post_mono (R.post_nx (E' := fun _ _ => False) (R.post_bind q2)) (fun b s4 q4 W4 H4 r4 st4 => ?_) fun x s4 q4 => q4.elim⟩
      have l4 := l3.on r3.slen st4 (by rw [d2]; exact fun z => nomatch z)
      have d4 := l3.held st4 d2
      have st14 := st3.trans r1.slen st4
      have go : ∀ {acc' : List PV} {av' : List V} {W5 : Wd} {s5 : S} {H5 : Hp}, Rel B N W5 s5 σ2 H5 → StepE W1 s1 H1 W5 s5 H5 → Loose N W5 s5 σ2 D → H5 D = some (.lst av') → Reps B W5 acc' av' → acc'.length ≤ i + 1 →
          (@ite _ (stillS s5.h r) (Classical.propDecidable _) (loopC r t tt te vs (r.xs.drop (i + 1)) acc' ⟨wipeE s5.e vs, s5.h⟩) .bad).post (fun v s' => ∀ W' H', Rel B N W' s' σ H' → StepE W1 s1 H1 W' s' H' → Pf v W' s' H') (fun x s' => ∀ W' H' cls d, Rel B N W' s' σ H' → StepE W1 s1 H1 W' s' H' → ExcR B W' H' x cls d → WF cls d σ H') →
          Iv (i + 1) H5 := fun {acc' av' W5 s5 H5} r5 st5 l5 d5 ra5 h5 q5 => by
        split at q5
        · rename_i hst
          exact ⟨W5, ⟨wipeE s5.e vs, s5.h⟩, acc', av', rel_back r5 w3, stepE_wipe st5, loose_back l5 w3, d5, ra5, h5, hlt, hst, q5⟩
        · exact q5.elim
      cases b with
      | false =>
        refine iteF (go r4 st14 l4 d4 (ra.mono (gr.stepE r'.hr).st.le |>.mono st4.st.le) (by omega) ?_)
        exact q4
      | true =>
        refine iteT ⟨W4, s4, r4, R.post_mono (R.post_nx (E' := fun _ _ => False) (R.post_bind (show ((te s4).nx.bind fun y s3 => if isOwn y = true then R.bad else R.ok (acc ++ [y]) ⟨wipeE s3.e vs, s3.h⟩).post _ _ from q4))) (fun y s5 q5 W5 H5 r5 st5 y' ry => ?_) fun x s5 q5 => q5.elim⟩
        · split at q5
          · exact q5.elim
          · rename_i oy
            have l5 := l4.on r4.slen st5 (by rw [d4]; exact fun z => nomatch z)
            have d5 := l4.held st5 d4
            have ra5 : Reps B W5 acc av := ((ra.mono (gr.stepE r'.hr).st.le).mono st4.st.le).mono st5.st.le
            refine ⟨av, d5, by rw [← ra5.length]; omega, ?_⟩
            have st15 := st14.trans r1.slen st5
            exact go (rel_put r5 l5 (by show (av ++ [y']).length ≤ sizeLine; rw [List.length_append, List.length_singleton, ← ra5.length]; omega)) (st15.put hD l5.m) l5 upd_same (ra5.append (.one (ry.rep (by simpa using oy)))) (by rw [List.length_append, List.length_singleton]; omega) q5
  · refine .inl ⟨wk.stop W' s' H r'.hr st'.st.le sl' own_st i (by omega), ?_⟩
    have hn : r.xs.drop i = [] := List.drop_eq_nil_of_le (by omega)
    rw [hn] at q'
    exact fin acc av W' s' H r' st' (q' W' H r' st') l' hDv ra
theorem lc_read {src : S → R S Sr} {t : Tg} {tt : S → R S Bool} {te : ME} {vs : List Nat} {Q : VK} (hK : X.K = B.K) (hv : ∀ i ∈ t.sl, i ∈ vs) (h : tN B N WX (eCompN src t tt te vs) σ H Q) :
    tLc (tI B N WX src) (gT X.K t) (tT B N WF tt) (tE B N WF te) vs σ H Q := by
  obtain ⟨W, s, r0, h⟩ := h
  refine ⟨W, s, r0, R.post_mono (R.post_bind h) (fun r s1 q W1 H1 r1 st1 still hline J wk D hD => ?_) fun x s1 q => q⟩
  have rw1 : Rel B N W1 ⟨wipeE s1.e vs, s1.h⟩ σ H1 := rel_back r1 rfl
  have q' : Post B N WF W1 ⟨wipeE s1.e vs, s1.h⟩ H1 σ (loopC r t tt te vs r.xs [] ⟨wipeE s1.e vs, s1.h⟩) fun xs W' s' H' => ∀ p us, H p = none → Loose N W' s' σ p → H' p = some (.lst us) → Reps B W' xs us → Q (.ref p) H' := by
    have nx := loopC_nx r t tt te vs r.xs [] ⟨wipeE s1.e vs, s1.h⟩
    refine R.post_of_nx nx (R.post_mono q (fun xs s2 q W2 H2 r2 st2 => q W2 H2 r2 ((stepE_wipe st1).trans r0.slen st2)) fun x s2 q => trivial)
  exact comp_core hK hv rw1 wk rfl still hD hline q' fun xs av W' s' H' r' st' k l hH rv => k D av (st1.st.tr _ hD) l hH rv
theorem sim_lc {elt tg iter : Expr} {ifs : List Expr} {scope : Scope} {own : List (Str × Nat)} {pos : Pos} {src : S → R S Sr} {t : Tg} {tt : S → R S Bool} {te : ME} (hK : X.K = B.K) (hc : X.calm = true) (hN : X.N.Nodup) (hi : SimI X B N WX tg iter src) (ok : BlkOk X.N X.env.scope scope own)
    (hv : ∀ i ∈ t.sl, i ∈ own.map (·.2))
    (hg : ∀ (s : Shared) (H : Hp) (C : Addr) (cl : List (Str × Addr)) (fp : List Addr), PG (X.blk s H scope (compEnvC scope cl C X.env) fp) tg (gT X.K t)) (ht : ∀ (s : Shared) (H : Hp) (C : Addr) (cl : List (Str × Addr)) (fp : List Addr), SimTs (X.blk s H scope (compEnvC scope cl C X.env) fp) B N WF ifs tt)
    (he : ∀ (s : Shared) (H : Hp) (C : Addr) (cl : List (Str × Addr)) (fp : List Addr), SimE (X.blk s H scope (compEnvC scope cl C X.env) fp) B N WF elt te) (hs : ∀ x, foldedSetIterable iter X.env x = pure x) :
    SimN X B N WX (.ListComp elt [⟨tg, iter, ifs, 0⟩] scope pos) (eCompN src t tt te (own.map (·.2))) :=
  (pe_lc hc hN hi ok hg ht he hs).imp fun σ H Q h => lc_read hK hv h
theorem pgT_n {K : PySem.W.Frag} {e : Expr} {i : Nat} (h : PG X e (gName i)) : PG X e (gT K (.n i)) := by
  rw [gT]; exact h
theorem pgT_t {es : List Expr} {k : Nat} {ts : List Tg} {pos : Pos} (hc : X.calm = true) (h : PGs X es (gTs X.K ts)) (hn : (assignEach es X.env).length = ts.length) (hst : (assignEach es X.env).findIdx? (·.1) = none) : PG X (.Tuple es k pos) (gT X.K (.t ts)) := by
  rw [gT]; exact pg_tup hc h hn hst
theorem pgTs_nil {K : PySem.W.Frag} : PGs X [] (gTs K []) := by
  rw [gTs]; exact pgs_nil
theorem pgTs_cons {K : PySem.W.Frag} {e : Expr} {es : List Expr} {t : Tg} {ts : List Tg} (h1 : PG X e (gT K t)) (h2 : PGs X es (gTs K ts)) (hs : (assignEach (e :: es) X.env).map (·.2) = assign e X.env :: (assignEach es X.env).map (·.2)) : PGs X (e :: es) (gTs K (t :: ts)) := by
  rw [gTs]; exact pgs_cons h1 h2 hs
end
end Lp

set_option Elab.async false
set_option linter.all false
set_option maxRecDepth 100000
set_option maxHeartbeats 4000000
/-! Lp7: statements. -/
namespace Lp
open PySem PySem.Spec PyProof.Rows L2

inductive Fl where
  | nx | rt (v : PV) | bk | ct
abbrev MS := S → R S Fl
/-- what is wanted behind a statement -/
def PostS (B : Bs) (N : Ent) (WX : L2.WX) (D : Ends) (r : R S Fl) : Prop := r.post
  (fun f s' => match f with
    | .nx => ∀ W' σ' H', Rel B N W' s' σ' H' → D.nx σ' H'
    | .rt v => ∀ W' σ' H' v', Rel B N W' s' σ' H' → Rep B W' v v' → D.rt v' H'
    | .bk => ∀ W' σ' H', Rel B N W' s' σ' H' → D.bk σ' H'
    | .ct => ∀ W' σ' H', Rel B N W' s' σ' H' → D.ct σ' H')
  (fun x s' => ∀ W' σ' H' cls d, Rel B N W' s' σ' H' → ExcR B W' H' x cls d → WX cls d σ' H')
def tS (B : Bs) (N : Ent) (WX : L2.WX) (m : MS) : TS := fun D σ H => ∃ W s, Rel B N W s σ H ∧ PostS B N WX D (m s)
abbrev SimS (X : Cx) (B : Bs) (N : Ent) (WX : L2.WX) (st : Stmt) (m : MS) : Prop := PS X st (tS B N WX m)
abbrev SimSs (X : Cx) (B : Bs) (N : Ent) (WX : L2.WX) (st : List Stmt) (m : MS) : Prop := PSs X st (tS B N WX m)
section
variable {X : Cx} {B : Bs} {N : Ent} {WX : L2.WX} {W W' : Wd} {s s' : S} {σ : L2.St} {H H' : Hp} {D : Ends} {α : Type}
/-- an expression first -/
theorem PostS.bindE {r : R S α} {f : α → S → R S Fl} (h : PostS B N WX D (r.bind f)) : Post B N WX W s H σ r fun v W' s' H' => PostS B N WX D (f v s') :=
  R.post_mono (R.post_bind h) (fun _ _ q W' H' _ _ => q) fun _ _ q W' H' cls d r' _ e => q W' σ H' cls d r' e
end
def sNil : MS := fun s => .ok .nx s
def sSeq (a b : MS) : MS := fun s => (a s).bind fun f s1 => match f with
  | .nx => b s1
  | f => .ok f s1
def sExpr (m : ME) : MS := fun s => (m s).bind fun _ s1 => .ok .nx s1
def sRet (m : ME) : MS := fun s => (m s).bind fun v s1 => if isOwn v = true then .bad else .ok (.rt v) s1
def sRetN : MS := fun s => .ok (.rt .non) s
def sIf (c : S → R S Bool) (a b : MS) : MS := fun s => (c s).bind fun k s1 => if k = true then a s1 else b s1
def sAsg (i : Nat) (m : ME) : MS := fun s => (m s).bind fun v s1 => if isOwn v = true then .bad else .ok .nx ⟨s1.e.set i (some v), s1.h⟩
def sAsgN (i : Nat) (m : S → R S (List PV)) : MS := fun s => (m s).bind fun xs s1 => .ok .nx ⟨s1.e.set i (some (.own xs)), s1.h⟩
def sAsgT (t : Tg) (m : ME) : MS := fun s => (m s).bind fun v s1 => match bindT t v s1.e with
  | some e1 => if isOwn v = true then .bad else .ok .nx ⟨e1, s1.h⟩
  | none => .bad
def sBk : MS := fun s => .ok .bk s
def sCt : MS := fun s => .ok .ct s
section
variable {X : Cx} {B : Bs} {N : Ent} {WX : L2.WX} {W W' : Wd} {s s' : S} {σ : L2.St} {H H' : Hp} {st : Stmt} {rest : List Stmt} {ma mb : MS} {e c : Expr} {m : ME} {mc : S → R S Bool} {pos : Pos}
theorem simss_nil : SimSs X B N WX [] sNil := pss_nil.imp fun D σ H ⟨W, s, r, h⟩ => h W σ H r
theorem simss_one (h : SimS X B N WX st ma) : SimSs X B N WX [st] ma := pss_one h
theorem simss_cons (h1 : SimS X B N WX st ma) (h2 : SimSs X B N WX rest mb) : SimSs X B N WX (st :: rest) (sSeq ma mb) :=
  (pss_cons h1 h2).imp fun D σ H ⟨W, s, r, h⟩ => ⟨W, s, r, R.post_mono (R.post_bind h) (fun f s1 q => by
    cases f with
    | nx => exact fun W' σ' H' r' => ⟨W', s1, r', q⟩
    | rt v => exact q
    | bk => exact q
    | ct => exact q) fun x s1 q => q⟩
theorem sims_pass : SimS X B N WX (.Pass pos) sNil := ps_pass.imp fun D σ H ⟨W, s, r, h⟩ => h W σ H r
theorem sims_break : SimS X B N WX (.Break pos) sBk := ps_break.imp fun D σ H ⟨W, s, r, h⟩ => h W σ H r
theorem sims_cont : SimS X B N WX (.Continue pos) sCt := ps_continue.imp fun D σ H ⟨W, s, r, h⟩ => h W σ H r
theorem sims_expr (he : SimE X B N WX e m) (hs : swapsWith e none pos.line X.env = pure false) : SimS X B N WX (.Expr e pos) (sExpr m) :=
  (ps_expr he hs).imp fun D σ H ⟨W, s, r, h⟩ => ⟨W, s, r, h.bindE.mono fun v W1 s1 H1 r1 _ q v' rv => q W1 σ H1 r1⟩
theorem sims_ret (he : SimE X B N WX e m) : SimS X B N WX (.Return (some e) pos) (sRet m) :=
  (ps_ret he).imp fun D σ H ⟨W, s, r, h⟩ => ⟨W, s, r, h.bindE.mono fun v W1 s1 H1 r1 _ q v' rv => by
    split at q
    · exact q.elim
    · rename_i o
      exact q W1 σ H1 v' r1 (rv.rep (by simpa using o))⟩
theorem sims_retN : SimS X B N WX (.Return none pos) sRetN := ps_retN.imp fun D σ H ⟨W, s, r, h⟩ => h W σ H .non r .non
theorem sims_if {a b : List Stmt} (hc : SimT X B N WX c mc) (ha : SimSs X B N WX a ma) (hb : SimSs X B N WX b mb) : SimS X B N WX (.If c a b pos) (sIf mc ma mb) :=
  (ps_if hc ha hb).imp fun D σ H ⟨W, s, r, h⟩ => ⟨W, s, r, h.bindE.mono fun k W1 s1 H1 r1 _ q => by
    cases k with
    | true => exact iteT ⟨W1, s1, r1, q⟩
    | false => exact iteF ⟨W1, s1, r1, q⟩⟩
theorem asg_fin {i : Nat} {D : Ends} {v : PV} {v' : V} {W1 : Wd} {s1 : S} {H1 : Hp} (r1 : Rel B N W1 s1 σ H1) (rv : RepT B W1 H1 v v') (q : PostS B N WX D (if isOwn v = true then R.bad else R.ok Fl.nx ⟨s1.e.set i (some v), s1.h⟩)) : D.nx (σ.set i (some v')) H1 := by
  split at q
  · exact q.elim
  · rename_i o
    exact q W1 _ H1 (rel_set r1 (rv.rep (by simpa using o)))
theorem sims_asg {i : Nat} {x : Str} {pos' : Pos} (hN : X.N.Nodup) (hi : X.N[i]? = some x) (hx : Loc X.env.scope x) (he : SimE X B N WX e m) (hs : swapsWith e (some (.Name x pos')) pos.line X.env = pure false) (hf : X.fn x = true ∨ X.env.scope.names.lookup x = some .local) :
    SimS X B N WX (.Assign [.Name x pos'] e pos) (sAsg i m) :=
  (ps_set hN hi hx he hs hf).imp fun D σ H ⟨W, s, r, h⟩ => ⟨W, s, r, h.bindE.mono fun v W1 s1 H1 r1 _ q v' rv => asg_fin r1 rv q⟩
/-- a slot takes a list of its own -/
theorem rel_own {i : Nat} {p : Addr} {xs : List PV} {vs : List V} {σ' : L2.St} (r : Rel B N W s σ H) (hl : σ'.length = σ.length) (hj : ∀ j, j ≠ i → σ'[j]? = σ[j]?) (hi : σ'[i]? = some (some (.ref p)) ∨ s.e.length ≤ i)
    (l : W.F p = none ∧ p ∉ W.m ∧ (∀ (j : Nat) (x : PV), j ≠ i → s.e[j]? = some (some x) → isOwn x = true → σ[j]? ≠ some (some (.ref p))) ∧ N.H p = none) (hp : H p = some (.lst vs)) (rv : Reps B W xs vs) : Rel B N W ⟨s.e.set i (some (.own xs)), s.h⟩ σ' H := by
  obtain ⟨l1, l2, l3, l4⟩ := l
  have at_ : ∀ (j : Nat) (y : PV), (s.e.set i (some (.own xs)))[j]? = some (some y) → (j = i ∧ y = .own xs ∧ i < s.e.length) ∨ (j ≠ i ∧ s.e[j]? = some (some y)) := fun j y e => by
    by_cases hji : i = j
    · subst hji
      by_cases hb : i < s.e.length
      · rw [List.getElem?_set_self hb] at e
        cases e
        exact .inl ⟨rfl, rfl, hb⟩
      · rw [List.getElem?_eq_none (by rw [List.length_set]; omega)] at e
        cases e
    · rw [List.getElem?_set_ne hji] at e
      exact .inr ⟨fun z => hji z.symm, e⟩
  refine ⟨r.hr, r.st, by rw [hl, r.len]; simp, fun j y e => ?_, fun j k y z a hjk e1 e2 o1 o2 s1 s2 => ?_, r.pin⟩
  · rcases at_ j y e with ⟨rfl, rfl, hb⟩ | ⟨ne, e⟩
    · rcases hi with hi | hi
      · exact ⟨_, hi, p, vs, rfl, hp, rv, l1, l2, l4⟩
      · omega
    · rw [hj j ne]
      exact r.env j y e
  · rcases at_ j y e1 with ⟨rfl, rfl, hb⟩ | ⟨ne, f1⟩
    · rcases at_ k z e2 with ⟨rfl, _, _⟩ | ⟨ne2, f2⟩
      · exact hjk rfl
      · rcases hi with hi | hi
        · rw [hi] at s1
          cases s1
          rw [hj k ne2] at s2
          exact l3 k z ne2 f2 o2 s2
        · omega
    · rcases at_ k z e2 with ⟨rfl, rfl, hb⟩ | ⟨ne2, f2⟩
      · rcases hi with hi | hi
        · rw [hi] at s2
          cases s2
          rw [hj j ne] at s1
          exact l3 j y ne f1 o1 s1
        · omega
      · rw [hj j ne] at s1
        rw [hj k ne2] at s2
        exact r.dis j k y z a hjk f1 f2 o1 o2 s1 s2
theorem asgN_read {i : Nat} {mn : S → R S (List PV)} {D : Ends} (h : tS B N WX (sAsgN i mn) D σ H) : tN B N WX mn σ H fun x H1 => D.nx (σ.set i (some x)) H1 := by
  obtain ⟨W, s, r, h⟩ := h
  refine ⟨W, s, r, h.bindE.mono fun xs W1 s1 H1 r1 _ q p vs hp l hH rv => q W1 _ H1 (rel_own r1 (by simp) (fun j hj => by rw [List.getElem?_set_ne (Ne.symm hj)]) ?_ ⟨l.F, l.m, fun j x _ e o => l.o j x e o, l.e⟩ hH rv)⟩
  by_cases hb : i < s1.e.length
  · exact .inl (List.getElem?_set_self (by rw [r1.len]; exact hb))
  · exact .inr (by omega)
theorem sims_asgN {i : Nat} {x : Str} {pos' : Pos} {mn : S → R S (List PV)} (hN : X.N.Nodup) (hi : X.N[i]? = some x) (hx : Loc X.env.scope x) (he : SimN X B N WX e mn) (hs : swapsWith e (some (.Name x pos')) pos.line X.env = pure false) (hf : X.fn x = true ∨ X.env.scope.names.lookup x = some .local) :
    SimS X B N WX (.Assign [.Name x pos'] e pos) (sAsgN i mn) :=
  (ps_set hN hi hx he hs hf).imp fun D σ H h => asgN_read h
/-- y = [.. for ..] -/
theorem sims_asgLcN {i : Nat} {y : Str} {py : Pos} {elt tg iter : Expr} {ifs : List Expr} {scope : Scope} {own : List (Str × Nat)} {spos : Pos} {src : S → R S Sr} {t : Tg} {tt : S → R S Bool} {te : ME} (hK : X.K = B.K) (hc : X.calm = true) (hN : X.N.Nodup) (hy : X.N[i]? = some y) (hyl : X.env.scope.names.lookup y = some .local)
    (hsw : swapsWith (.ListComp elt [⟨tg, iter, ifs, 0⟩] scope pos) (some (.Name y py)) spos.line X.env = pure true) (hi : SimI X B N WX tg iter src) (ok : BlkOk X.N X.env.scope scope own) (hv : ∀ i ∈ t.sl, i ∈ own.map (·.2))
    (hg : ∀ (s : Shared) (H : Hp) (C : Addr) (cl : List (Str × Addr)) (fp : List Addr), PG (X.blk s H scope (compEnvC scope cl C X.env) fp) tg (gT X.K t)) (ht : ∀ (s : Shared) (H : Hp) (C : Addr) (cl : List (Str × Addr)) (fp : List Addr), SimTs (X.blk s H scope (compEnvC scope cl C X.env) fp) B N WF ifs tt)
    (he : ∀ (s : Shared) (H : Hp) (C : Addr) (cl : List (Str × Addr)) (fp : List Addr), SimE (X.blk s H scope (compEnvC scope cl C X.env) fp) B N WF elt te) (hs : ∀ x, foldedSetIterable iter X.env x = pure x) :
    SimS X B N WX (.Assign [.Name y py] (.ListComp elt [⟨tg, iter, ifs, 0⟩] scope pos) spos) (sAsgN i (eCompN src t tt te (own.map (·.2)))) :=
  (ps_setLc hc hN hy hyl hsw hi ok hg ht he hs).imp fun D σ H h => lc_read hK hv (asgN_read h)
theorem asg_sh {i : Nat} {mn : S → R S (List PV)} {D : Ends} (h : tS B N WX (sAsg i (shN mn)) D σ H) : tE B N WX (shN mn) σ H fun x H1 => D.nx (σ.set i (some x)) H1 := by
  obtain ⟨W, s, r, h⟩ := h
  exact ⟨W, s, r, h.bindE.mono fun v W1 s1 H1 r1 _ q v' rv => asg_fin r1 rv q⟩
theorem sims_asgLc {i : Nat} {y : Str} {py : Pos} {elt tg iter : Expr} {ifs : List Expr} {scope : Scope} {own : List (Str × Nat)} {spos : Pos} {src : S → R S Sr} {t : Tg} {tt : S → R S Bool} {te : ME} (hK : X.K = B.K) (hc : X.calm = true) (hN : X.N.Nodup) (hy : X.N[i]? = some y) (hyl : X.env.scope.names.lookup y = some .local)
    (hsw : swapsWith (.ListComp elt [⟨tg, iter, ifs, 0⟩] scope pos) (some (.Name y py)) spos.line X.env = pure true) (hi : SimI X B N WX tg iter src) (ok : BlkOk X.N X.env.scope scope own) (hv : ∀ i ∈ t.sl, i ∈ own.map (·.2))
    (hg : ∀ (s : Shared) (H : Hp) (C : Addr) (cl : List (Str × Addr)) (fp : List Addr), PG (X.blk s H scope (compEnvC scope cl C X.env) fp) tg (gT X.K t)) (ht : ∀ (s : Shared) (H : Hp) (C : Addr) (cl : List (Str × Addr)) (fp : List Addr), SimTs (X.blk s H scope (compEnvC scope cl C X.env) fp) B N WF ifs tt)
    (he : ∀ (s : Shared) (H : Hp) (C : Addr) (cl : List (Str × Addr)) (fp : List Addr), SimE (X.blk s H scope (compEnvC scope cl C X.env) fp) B N WF elt te) (hs : ∀ x, foldedSetIterable iter X.env x = pure x) :
    SimS X B N WX (.Assign [.Name y py] (.ListComp elt [⟨tg, iter, ifs, 0⟩] scope pos) spos) (sAsg i (shN (eCompN src t tt te (own.map (·.2))))) :=
  (ps_setLc hc hN hy hyl hsw hi ok hg ht he hs).imp fun D σ H h => lc_read hK hv (tE_sh (asg_sh h))
/-- a, b = e; targets of names -/
theorem sims_asgT {tg : Expr} {t : Tg} (hK : X.K = B.K) (he : SimE X B N WX e m) (hg : PG X tg (gT X.K t)) (hs : swapsWithSole [tg] e pos.line X.env = pure false) (hw : swappedStores [tg] e X.env = pure none) (h1 : (assignEach [tg] X.env).map (·.2) = [assign tg X.env]) :
    SimS X B N WX (.Assign [tg] e pos) (sAsgT t m) :=
  (ps_asg he hg hs hw h1).imp fun D σ H ⟨W, s, r, h⟩ => ⟨W, s, r, h.bindE.mono fun v W1 s1 H1 r1 _ q v' rv => by
    split at q
    · rename_i e1 eb
      split at q
      · exact q.elim
      · rename_i o
        exact gT_ok hK (vs := t.sl) (fun i hi => hi) r1 (rv.rep (by simpa using o)) eb fun σ' r' _ => q W1 σ' H1 r'
    · exact q.elim⟩
/-- a, b = e1, e2 -/
def sPar (i j : Nat) (ma : MA) : MS := fun s => (ma s).bind fun vs s1 => match vs with
  | [v, w] => if isOwn v = true ∨ isOwn w = true then .bad else .ok .nx ⟨(s1.e.set i (some v)).set j (some w), s1.h⟩
  | _ => .bad
theorem sims_par {i j : Nat} {x y : Str} {a b : Expr} {mz : MA} {px py pt : Pos} {kt k2 pt2} (hc : X.calm = true) (hN : X.N.Nodup) (hi : X.N[i]? = some x) (hj : X.N[j]? = some y) (hij : i ≠ j)
    (hx : X.env.scope.names.lookup x = some .local) (hy : X.env.scope.names.lookup y = some .local) (ha : SimA X B N WX [a, b] mz)
    (hw : swappedStores [.Tuple [.Name x px, .Name y py] kt pt] (.Tuple [a, b] k2 pt2) X.env = pure (some [x, y]))
    (hs : swapsWithSole [.Tuple [.Name x px, .Name y py] kt pt] (.Tuple [a, b] k2 pt2) pos.line X.env = pure false) :
    SimS X B N WX (.Assign [.Tuple [.Name x px, .Name y py] kt pt] (.Tuple [a, b] k2 pt2) pos) (sPar i j mz) :=
  (ps_par hc hN hi hj hij hx hy ha hw hs).imp fun D σ H ⟨W, s, r, h⟩ => ⟨W, s, r, h.bindE.mono fun vs W1 s1 H1 r1 _ q vs' rv => by
    split at q
    · rename_i v w
      obtain ⟨v', w', rfl, rv1, rv2⟩ := repts2 rv
      split at q
      · exact q.elim
      · rename_i o
        simp only [not_or] at o
        refine ⟨v', w', rfl, q W1 _ H1 (rel_set (rel_set r1 (rv1.rep (by simpa using o.1))) (rv2.rep (by simpa using o.2)))⟩
    · exact q.elim⟩
/-- the slot's list is given out for good -/
def eFrz (i : Nat) : ME := fun s => match s.e[i]? with
  | some (some (.own xs)) => .ok (.lst xs) ⟨s.e.set i (some (.lst xs)), s.h⟩
  | some (some v) => .ok v s
  | _ => .bad
theorem rel_frz {i : Nat} {xs : List PV} (r : Rel B N W s σ H) (e : s.e[i]? = some (some (.own xs))) : ∃ p vs, σ[i]? = some (some (.ref p)) ∧ H p = some (.lst vs) ∧ Reps B W xs vs ∧ W.F p = none ∧ p ∉ W.m ∧ N.H p = none ∧
    Rel B N ⟨upd W.F p (.lst vs), W.m⟩ ⟨s.e.set i (some (.lst xs)), s.h⟩ σ H := by
  obtain ⟨v, e1, p, vs, rfl, hH, rv, hF, hm, h0⟩ := r.env i _ e
  have hi : i < s.e.length := (List.getElem?_eq_some_iff.mp e).1
  refine ⟨p, vs, e1, hH, rv, hF, hm, h0, ?_⟩
  -- first the slot is cleared
  have rc : Rel B N W ⟨s.e.set i none, s.h⟩ σ H := by
    refine ⟨r.hr, r.st, by rw [r.len]; simp, fun j y ej => ?_, fun j k y z a hjk f1 f2 o1 o2 s1 s2 => ?_, r.pin⟩
    · by_cases hj : i = j
      · subst hj
        rw [List.getElem?_set_self hi] at ej
        cases ej
      · rw [List.getElem?_set_ne hj] at ej
        exact r.env j y ej
    · have g : ∀ (j : Nat) (y : PV), (s.e.set i none)[j]? = some (some y) → s.e[j]? = some (some y) := fun j y f => by
        by_cases hj : i = j
        · subst hj
          rw [List.getElem?_set_self hi] at f
          cases f
        · rw [List.getElem?_set_ne hj] at f
          exact f
      exact r.dis j k y z a hjk (g j y f1) (g k z f2) o1 o2 s1 s2
  have lc : Loose N W ⟨s.e.set i none, s.h⟩ σ p := ⟨hF, hm, fun j y f o z => by
    by_cases hj : i = j
    · subst hj
      have f : (s.e.set i none)[i]? = some (some y) := f
      rw [List.getElem?_set_self hi] at f
      cases f
    · have f : (s.e.set i none)[j]? = some (some y) := f
      rw [List.getElem?_set_ne hj] at f
      exact r.dis i j _ y p hj e f rfl o e1 z, h0⟩
  have rk := rel_keep rc lc hH
  have rs := rel_set (i := i) rk (Rep.lst (xs := xs) (vs := vs) upd_same (rv.mono (le_new hF)))
  have es : σ.set i (some (.ref p)) = σ := by
    apply List.ext_getElem?
    intro j
    by_cases hj : i = j
    · subst hj
      rw [List.getElem?_set_self (by rw [r.len]; exact hi), e1]
    · rw [List.getElem?_set_ne hj]
  rw [es] at rs
  simpa using rs
end
end Lp

set_option Elab.async false
set_option linter.all false
set_option maxRecDepth 100000
set_option maxHeartbeats 4000000
/-! Lp8: defs, calls, walks as statements, cells. -/
namespace Lp
open PySem PySem.Spec PyProof.Rows L2

section
variable {B : Bs} {N : Ent} {W W' : Wd} {s s' : S} {σ : L2.St} {H H' : Hp} {h' : AH}
theorem rel_step (r : Rel B N W s σ H) (hr' : HRel B W' h' H') (st : Step W s.h H W' h' H') : Rel B N W' ⟨s.e, h'⟩ σ H' := by
  refine ⟨hr', r.st.trans N.len st, r.len, fun i x e => ?_, r.dis, r.pin.trans st.le⟩
  obtain ⟨v, e1, sl⟩ := r.env i x e
  refine ⟨v, e1, ?_⟩
  cases x with
  | own xs =>
    obtain ⟨a, vs, rfl, hH, rv, hF, hm, h0⟩ := sl
    have nl : ¬ Live W s.h a := fun l => hm l.mem
    have ne : H a ≠ none := by rw [hH]; exact fun z => nomatch z
    exact ⟨a, vs, rfl, st.keep _ _ hH nl, rv.mono st.le, st.fgrow a hF ne nl, st.notm r.slen hm ne, h0⟩
  | don ks => exact sl
  | _ => exact Rep.mono st.le sl
theorem stepE_of {s : S} (st : Step W s.h H W' h' H') : StepE W s H W' ⟨s.e, h'⟩ H' := ⟨st, fun _ _ e _ => e⟩
end

/-! ### defs -/
abbrev MF := List PV → AH → R AH PV
def spF (B : Bs) (n : Nat) (m : MF) : Sp := fun vs H Q E => ∃ W h xs, HRel B W h H ∧ Reps B W xs vs ∧ xs.length = n ∧ (m xs h).post
  (fun v h' => ∀ W' H' v', HRel B W' h' H' → Step W h H W' h' H' → Rep B W' v v' → Q v' H')
  (fun x h' => ∀ W' H' cls d, HRel B W' h' H' → Step W h H W' h' H' → ExcR B W' H' x cls d → E cls d H')
/-- a def's reading from its body's: k names behind the parameters -/
def mkF (k : Nat) (mb : MS) : MF := fun xs h => match mb ⟨xs.map some ++ List.replicate k none, h⟩ with
  | .ok (.rt v) s => .ok v s.h
  | .ok .nx s => .ok .non s.h
  | .ok _ _ => .bad
  | .exc x s => .exc x s.h
  | .bad => .bad
theorem Rep.no {B : Bs} {W : Wd} {x : PV} {v : V} (r : Rep B W x v) : isOwn x = false := by cases r <;> rfl
theorem Reps.no {B : Bs} {W : Wd} : ∀ {xs : List PV} {vs : List V}, Reps B W xs vs → ∀ x ∈ xs, isOwn x = false
  | _, _, .nil, _, h => by cases h
  | _, _, .cons r t, x, h => by
    rcases List.mem_cons.mp h with rfl | h
    · exact r.no
    · exact Reps.no t x h
theorem rel_start {B : Bs} {W : Wd} {h : AH} {H : Hp} {xs : List PV} {vs : List V} {k : Nat} (hr : HRel B W h H) (r : Reps B W xs vs) :
    Rel B ⟨W, h, H, hr.len, W⟩ W ⟨xs.map some ++ List.replicate k none, h⟩ (vs.map some ++ List.replicate k none) H := by
  have at_ : ∀ (i : Nat) (x : PV), (xs.map some ++ List.replicate k none)[i]? = some (some x) → xs[i]? = some x := fun i x e => by
    by_cases hi : i < (xs.map some).length
    · rw [List.getElem?_append_left hi, List.getElem?_map] at e
      cases q : xs[i]? with
      | none => rw [q] at e; cases e
      | some y => rw [q] at e; cases e; rfl
    · rw [List.getElem?_append_right (by omega)] at e
      rw [List.getElem?_replicate] at e
      split at e <;> cases e
  refine ⟨hr, Step.refl hr, by simp [r.length], fun i x e => ?_, fun i j x y a hij e1 e2 o1 o2 s1 s2 => ?_, .refl W⟩
  · obtain ⟨v, ev, rv⟩ := r.get (at_ i x e)
    refine ⟨v, ?_, rv.slot⟩
    rw [List.getElem?_append_left (by rw [List.length_map]; exact (List.getElem?_eq_some_iff.mp ev).1), List.getElem?_map, ev]
    rfl
  · rw [r.no x (List.mem_of_getElem? (at_ i x e1))] at o1
    cases o1
/-- what a body's proof may lean on -/
structure Bdy (X : Cx) (E : XK) (k : Nat) : Prop where
  tk : Takes X fun c d _ H => E c d H
  pa : PassesOwn (model X.prog X.w) X.A X.env X.xe
  rm : Room k X.A
theorem fn_ok {P : Program} {w : World} {K : PySem.W.Frag} {mg : Str → Option Value} {base : Heap} {x qual : Str} {params : Arguments} {body : List Stmt} {scope : Scope} {dvs : List V} {kws : List (Str × V)} {f : Addr} {fd : FuncData} {names ps : List Str} {k n kk : Nat} {B : Bs} {mb : MS}
    (F : FunD K x qual params body scope dvs kws f fd) (S : FnScope names ps scope) (hn : ps.length = n) (hk : names.length - n = kk)
    (hb : ∀ (cdv : Value) (A : Around) (outer : List Env) (s : Shared) (H : Hp) (E : XK) (N : Ent), Bdy (cxOf (L2.CX P w) P w K mg base names qual scope f cdv A outer s H E) E k →
      SimSs (cxOf (L2.CX P w) P w K mg base names qual scope f cdv A outer s H E) B N (fun c d _ H => E c d H) body mb) : FnOk P w K mg base (L2.CX P w) (k + 1) f fd ps (spF B n (mkF kk mb)) := by
  refine F.ok S (fun vs H Q E ⟨W, h, xs, hr, r, e, _⟩ => by rw [hn, ← e, r.length]) fun cdv A outer s H vs Q E hr ⟨W, h, xs, hrel, r, e, q⟩ => ?_
  have bd : Bdy (cxOf (L2.CX P w) P w K mg base names qual scope f cdv A outer s H E) E k := ⟨takes_of rfl rfl rfl rfl, passes_of rfl, hr⟩
  refine ⟨_, hb cdv A outer s H E ⟨W, h, H, hrel.len, W⟩ bd, W, ⟨xs.map some ++ List.replicate kk none, h⟩, ?_, ?_⟩
  · have := rel_start (k := kk) hrel r
    unfold L2.start
    rw [show names.length - vs.length = kk by rw [← r.length, e, hk]]
    exact this
  · unfold PostS
    unfold mkF at q
    split at q
    · rename_i v s1 e1
      rw [e1]
      exact fun W' σ' H' v' r' rv => q W' H' v' r'.hr r'.st rv
    · rename_i s1 e1
      rw [e1]
      exact fun W' σ' H' r' => q W' H' .non r'.hr r'.st .non
    · exact q.elim
    · rename_i x1 s1 e1
      rw [e1]
      exact fun W' σ' H' cls d r' ex => q W' H' cls d r'.hr r'.st ex
    · exact q.elim

/-! ### calls -/
def lift (r : R AH PV) (e : List (Option PV)) : R S PV := match r with
  | .ok v h => .ok v ⟨e, h⟩
  | .exc x h => .exc x ⟨e, h⟩
  | .bad => .bad
def callH (n : Nat) (m : MF) (vs : List PV) : ME := fun s => if vs.length = n ∧ allSh vs = true then lift (m vs s.h) s.e else .bad
def eCall (n : Nat) (m : MF) (ma : MA) : ME := fun s => (ma s).bind fun vs s1 => callH n m vs s1
def pick {α : Type} (ix : List Nat) (l : List α) : List α := ix.filterMap (l[·]?)
/-- a def of the text by its name: its reading -/
structure Fn (P : Program) (w : World) (K : PySem.W.Frag) (mg : Str → Option Value) (base : Heap) (B : Bs) (k : Nat) (x : Str) (n : Nat) (m : MF) : Prop where
  ex : ∃ f fd ps, FnOk P w K mg base (L2.CX P w) k f fd ps (spF B n m) ∧ mg x = some (.ref f) ∧ PySem.W.keepIn K (.ref f) = true ∧ Binds K fd ps []
/-- .. called with keywords: n0 values by place, then those of ks, picked into the parameters' order -/
structure FnK (P : Program) (w : World) (K : PySem.W.Frag) (mg : Str → Option Value) (base : Heap) (B : Bs) (k : Nat) (x : Str) (n0 : Nat) (ks : List Str) (ix : List Nat) (n : Nat) (m : MF) : Prop where
  ex : ∃ f fd ps, FnOk P w K mg base (L2.CX P w) k f fd ps (spF B n m) ∧ mg x = some (.ref f) ∧ PySem.W.keepIn K (.ref f) = true ∧ KBn K fd ps n0 ks (fun us ws => pick ix (us ++ ws)) fun vs zs => pick ix (vs ++ zs)
section
variable {P : Program} {w : World} {K : PySem.W.Frag} {mg : Str → Option Value} {base : Heap} {B : Bs} {j k n n0 : Nat} {x : Str} {m : MF} {ks : List Str} {ix : List Nat}
theorem Fn.mono (F : Fn P w K mg base B j x n m) (h : j ≤ k) : Fn P w K mg base B k x n m :=
  let ⟨f, fd, ps, a, b⟩ := F.ex
  ⟨f, fd, ps, a.mono h, b⟩
theorem FnK.mono (F : FnK P w K mg base B j x n0 ks ix n m) (h : j ≤ k) : FnK P w K mg base B k x n0 ks ix n m :=
  let ⟨f, fd, ps, a, b⟩ := F.ex
  ⟨f, fd, ps, a.mono h, b⟩
theorem vals_get : ∀ {vs : List V} {us : List Value} {i : Nat}, Vals vs us → (∃ v u, vs[i]? = some v ∧ us[i]? = some u ∧ RelV v u) ∨ (vs[i]? = none ∧ us[i]? = none)
  | _, _, _, .nil => .inr ⟨rfl, rfl⟩
  | _, _, 0, .cons r _ => .inl ⟨_, _, rfl, rfl, r⟩
  | _, _, i + 1, .cons _ t => by simpa using vals_get (i := i) t
theorem vals_pick {vs : List V} {us : List Value} (r : Vals vs us) : ∀ ix : List Nat, Vals (pick ix vs) (pick ix us)
  | [] => .nil
  | i :: ix => by
    unfold pick
    rcases vals_get (i := i) r with ⟨v, u, e1, e2, q⟩ | ⟨e1, e2⟩
    · rw [List.filterMap_cons_some e1, List.filterMap_cons_some e2]
      exact .cons q (vals_pick r ix)
    · rw [List.filterMap_cons_none e1, List.filterMap_cons_none e2]
      exact vals_pick r ix
theorem reps_pick {W : Wd} {xs : List PV} {vs : List V} (r : Reps B W xs vs) : ∀ ix : List Nat, Reps B W (pick ix xs) (pick ix vs)
  | [] => .nil
  | i :: ix => by
    unfold pick
    cases e1 : xs[i]? with
    | some x =>
      obtain ⟨v, e2, q⟩ := r.get e1
      rw [List.filterMap_cons_some e1, List.filterMap_cons_some e2]
      exact .cons q (reps_pick r ix)
    | none =>
      have e2 : vs[i]? = none := by
        rw [List.getElem?_eq_none_iff] at e1 ⊢
        rw [← r.length]; exact e1
      rw [List.filterMap_cons_none e1, List.filterMap_cons_none e2]
      exact reps_pick r ix
/-- keywords of a def without defaults -/
theorem kbn_of {qual : Str} {params : Arguments} {body : List Stmt} {scope : Scope} {kws : List (Str × V)} {f : Addr} {fd : FuncData} {ps : List Str} (F : FunD K x qual params body scope [] kws f fd)
    (h : ∀ (kV doc pm : Value) (an : Option Addr) (cdv ct : Value) (us ws : List Value), us.length = n0 → ws.length = ks.length → bindArgs (PySem.W.fnOf x qual params body scope .none kV doc pm an cdv ct) ⟨us, ks.zip ws⟩ = pure (ps.zip (pick ix (us ++ ws)))) :
    KBn K fd ps n0 ks (fun us ws => pick ix (us ++ ws)) fun vs zs => pick ix (vs ++ zs) := by
  obtain ⟨oc, od, dV, kV, doc, pm, an, cdv, ct, osl, rfl, lk, hcd, hD, hK⟩ := F.ex
  rcases hD with ⟨_, rfl⟩ | ⟨e, _⟩
  · exact ⟨fun s us ws _ l1 l2 => .of_eq (h kV doc pm an cdv ct us ws l1 l2), fun r1 r2 => vals_pick (r1.append r2) ix⟩
  · exact absurd rfl e
end
section
variable {X : Cx} {B : Bs} {N : Ent} {WX : L2.WX} {W W' : Wd} {s s' : S} {σ : L2.St} {H H' : Hp} {e : Expr} {es : List Expr} {ma mk : MA} {me : ME} {p pos kpos : Pos} {x : Str} {k n n0 : Nat} {m : MF} {kws : List Keyword} {nm : Option Str} {ks : List Str} {ix : List Nat} {E : XK}
theorem call_fin {vs : List PV} {vs' : List V} {Q : VK} (r : Rel B N W s σ H) (rv : Reps B W vs vs') (q : Post B N WX W s H σ (callH n m vs s) fun u W' _ H' => ∀ u', RepT B W' H' u u' → Q u' H') :
    spF B n m vs' H Q fun c d H => WX c d σ H := by
  unfold callH at q
  split at q
  · rename_i hc
    refine ⟨W, s.h, vs, r.hr, rv, hc.1, ?_⟩
    unfold lift at q
    split at q
    · rename_i v h e
      rw [e]
      exact fun W' H' v' hr' st ru => q W' H' (rel_step r hr' st) (stepE_of st) v' ru.hand
    · rename_i y h e
      rw [e]
      exact fun W' H' cls d hr' st ex => q W' H' cls d (rel_step r hr' st) (stepE_of st) ex
    · exact q.elim
  · exact q.elim
theorem callH_sh {vs : List PV} {P : PV → Wd → S → Hp → Prop} (q : Post B N WX W s H σ (callH n m vs s) P) : allSh vs = true := by
  unfold callH at q
  split at q
  · rename_i hc; exact hc.2
  · exact q.elim
theorem sim_call (F : Fn X.prog X.w X.K X.mg X.base B k x n m) (tk : Takes X WX) (hr : Room k X.A) (hg : Gl X x) (ha : SimA X B N WX (e :: es) ma) (hdb : (x == ("__debug__" : Str)) = false)
    (he : starEach (e :: es) X.env = (false, eval e X.env) :: starEach es X.env) (hpl : (backTo pos (starEach es X.env)).any (·.1) = false) : SimE X B N WX (.Call (.Name x p) (e :: es) [] pos) (eCall n m ma) := by
  obtain ⟨f, fd, ps, F1, hm, hk, hb⟩ := F.ex
  exact (pe_callS (E := WE WX) F1 hr hg hm hk hb (fun σ => passAt tk σ) ha hdb he hpl).imp fun σ H Q ⟨W, s, r, h⟩ => ⟨W, s, r, (h.bind r.slen).mono fun vs W1 s1 H1 r1 _ q vs' rv => call_fin r1 (rv.reps (callH_sh q)) q⟩
/-- f() -/
theorem sim_call0 (F : Fn X.prog X.w X.K X.mg X.base B k x n m) (tk : Takes X fun c d _ H => E c d H) (hr : Room k X.A) (hg : Gl X x) (hdb : (x == ("__debug__" : Str)) = false) : SimE X B N (fun c d _ H => E c d H) (.Call (.Name x p) [] [] pos) (callH n m []) := by
  obtain ⟨f, fd, ps, F1, hm, hk, hb⟩ := F.ex
  exact (pe_call0 (E := E) F1 hr hg hm hk hb .nil (passes_call tk fun _ _ _ _ h => h) hdb).imp fun σ H Q ⟨W, s, r, h⟩ => call_fin (vs := []) r .nil h
/-- keywords' values -/
abbrev SimK (X : Cx) (B : Bs) (N : Ent) (WX : L2.WX) (kws : List Keyword) (m : MA) : Prop := PK X kws (tA B N WX m)
theorem _root_.L2.PK.imp {X : Cx} {e : List Keyword} {t t' : TA} (h : PK X e t) (w : ∀ σ H Q, t' σ H Q → t σ H Q) : PK X e t' := ⟨fun p pins s σ H Q I q => h.run p pins s σ H Q I (w _ _ _ q)⟩
theorem simK_nil : SimK X B N WX [] aNil := pk_nil.imp fun σ H Q ⟨W, s, r, h⟩ => h.ok r [] trivial
theorem simK_cons (he : SimE X B N WX e me) (hr : SimK X B N WX kws mk) : SimK X B N WX (⟨nm, e, kpos⟩ :: kws) (aCons me mk) :=
  (pk_cons he hr).imp fun σ H Q ⟨W, s, r, h⟩ => ⟨W, s, r, (h.bind r.slen).mono fun v W1 s1 H1 r1 _ q v' rv => ⟨W1, s1, r1, (q.bind r1.slen).mono fun vs W2 s2 H2 r2 st2 q2 vs' rvs => q2.ok r2 (v' :: vs') ⟨rv.on r1.slen st2.st, rvs⟩⟩⟩
def eCallK (n0 nk : Nat) (ix : List Nat) (n : Nat) (m : MF) (ma mk : MA) : ME := fun s => (ma s).bind fun vs s1 => (mk s1).bind fun zs s2 => if (vs.length = n0 ∧ zs.length = nk) ∧ allSh vs = true ∧ allSh zs = true then callH n m (pick ix (vs ++ zs)) s2 else .bad
theorem callK_fin {nk : Nat} (hl : ks.length = nk) {σ : L2.St} {H : Hp} {Q : VK} (h : tE B N (fun c d _ H => E c d H) (eCallK n0 nk ix n m ma mk) σ H Q) : tCallN n0 ks.length (spF B n m) (fun vs zs => pick ix (vs ++ zs)) E (tA B N (fun c d _ H => E c d H) ma) (tA B N (fun c d _ H => E c d H) mk) σ H Q := by
  obtain ⟨W, s, r, h⟩ := h
  refine ⟨W, s, r, (h.bind r.slen).mono fun vs W1 s1 H1 r1 _ q vs' rv => ⟨W1, s1, r1, (q.bind r1.slen).mono fun zs W2 s2 H2 r2 st2 q2 zs' rz => ?_⟩⟩
  split at q2
  · rename_i hc
    have r1' := (rv.reps hc.2.1).mono st2.st.le
    have r2' := rz.reps hc.2.2
    exact ⟨by rw [← r1'.length]; exact hc.1.1, by rw [← r2'.length, hl]; exact hc.1.2, call_fin r2 (reps_pick (r1'.append r2') ix) q2⟩
  · exact q2.elim
theorem sim_callK {nk : Nat} (F : FnK X.prog X.w X.K X.mg X.base B k x n0 ks ix n m) (tk : Takes X fun c d _ H => E c d H) (hr : Room k X.A) (hg : Gl X x) (ha : SimA X B N (fun c d _ H => E c d H) (e :: es) ma) (hkw : SimK X B N (fun c d _ H => E c d H) kws mk)
    (hl : ks.length = nk) (hall : (backToKw pos (keywordEach kws X.env)).all (·.1.isSome) = true) (hks : (backToKw pos (keywordEach kws X.env)).filterMap (·.1) = ks) (hdb : (x == ("__debug__" : Str)) = false)
    (he : starEach (e :: es) X.env = (false, eval e X.env) :: starEach es X.env) (hpl : ((backTo pos (starEach (e :: es) X.env)).any (·.1) || (backToKw pos (keywordEach kws X.env)).any (·.1.isNone)) = false) :
    SimE X B N (fun c d _ H => E c d H) (.Call (.Name x p) (e :: es) kws pos) (eCallK n0 nk ix n m ma mk) := by
  obtain ⟨f, fd, ps, F1, hm, hk, hb⟩ := F.ex
  exact (pe_callN (E := E) F1 hr hg hm hk hb (passes_call tk fun _ _ _ _ h => h) ha hkw hall hks hdb he hpl).imp fun σ H Q h => callK_fin hl h
theorem sim_callK0 {nk : Nat} (F : FnK X.prog X.w X.K X.mg X.base B k x 0 ks ix n m) (tk : Takes X fun c d _ H => E c d H) (hr : Room k X.A) (hg : Gl X x) (hkw : SimK X B N (fun c d _ H => E c d H) kws mk)
    (hl : ks.length = nk) (hall : (backToKw pos (keywordEach kws X.env)).all (·.1.isSome) = true) (hks : (backToKw pos (keywordEach kws X.env)).filterMap (·.1) = ks) (hdb : (x == ("__debug__" : Str)) = false)
    (hpl : ((backTo pos (starEach [] X.env)).any (·.1) || (backToKw pos (keywordEach kws X.env)).any (·.1.isNone)) = false) :
    SimE X B N (fun c d _ H => E c d H) (.Call (.Name x p) [] kws pos) (eCallK 0 nk ix n m aNil mk) := by
  obtain ⟨f, fd, ps, F1, hm, hk, hb⟩ := F.ex
  refine ⟨fun pins s σ H Q I h => ?_⟩
  refine wpAny_Call_Name_kw (ld_glob I hg hm ?_ hdb)
  obtain ⟨W, s1, r, h⟩ := callK_fin hl h
  have h := h.ok r [] trivial
  refine PySem.W.callWith_KW0 (h₀ := X.base) I.ok.mod.kin hk hall ?_ hpl
  refine thn (hkw.run pos pins s σ H _ I h) fun ws s2 ⟨zs, H2, I2, rz, l1, l2, q2⟩ => ⟨I2.kIn, ?_⟩
  rw [hks]
  exact run_fnN (us := []) (vs := []) F1 hr hb (passes_call tk fun _ _ _ _ h => h) I2 .nil rz rfl l2 q2
end
end Lp

set_option Elab.async false
set_option linter.all false
set_option maxRecDepth 100000
set_option maxHeartbeats 4000000
/-! Lp9: walks as statements, cells, lists of a slot's own. -/
namespace Lp
open PySem PySem.Spec PyProof.Rows L2

/-! ### for -/
def Ent.at (N : Ent) (W : Wd) : Ent := ⟨N.W, N.h, N.H, N.len, W⟩
section
variable {B : Bs} {N : Ent} {W W' : Wd} {s s' : S} {σ : L2.St} {H H' : Hp}
theorem Rel.pinAt (r : Rel B N W s σ H) : Rel B (N.at W) W s σ H := ⟨r.hr, r.st, r.len, r.env, r.dis, .refl W⟩
theorem Rel.unpin (r : Rel B (N.at W) W' s σ H) (l : N.P.Le W) : Rel B N W' s σ H := ⟨r.hr, r.st, r.len, r.env, r.dis, l.trans r.pin⟩
end
open Classical in
noncomputable def loopF (r : Sr) (t : Tg) (body : MS) : List PV → MS
  | [], s => if stillS s.h r then .ok .nx s else .bad
  | x :: xs, s => if stillS s.h r then match bindT t x s.e with
      | some e1 => (body ⟨e1, s.h⟩).bind fun f s' => match f with
        | .nx => loopF r t body xs s'
        | .ct => loopF r t body xs s'
        | .bk => .ok .nx s'
        | .rt v => .ok (.rt v) s'
      | none => .bad
    else .bad
noncomputable def sFor (src : S → R S Sr) (t : Tg) (body : MS) : MS := fun s => (src s).bind fun r s1 => if r.o = true ∨ sizeLine < r.xs.length then .bad else loopF r t body r.xs s1
section
variable {X : Cx} {B : Bs} {N : Ent} {WX : L2.WX} {W W' : Wd} {s s' : S} {σ : L2.St} {H H' : Hp} {tg iter : Expr} {body : List Stmt} {mb : MS} {src : S → R S Sr} {t : Tg} {pos : Pos}
/-- statements whose entry is told later -/
theorem pss_any {st : List Stmt} (h : ∀ N, SimSs X B N WX st mb) : PSs X st (fun D σ H => ∃ N, tS B N WX mb D σ H) := ⟨fun pins s σ H D I ⟨N, q⟩ => (h N).run pins s σ H D I q⟩
theorem PostS.unpin {D : Ends} {r : R S Fl} (l : N.P.Le W) (q : PostS B N WX D r) : PostS B (N.at W) WX D r := R.post_mono q (fun f s' q => by
    cases f with
    | nx => exact fun W' σ' H' r' => q W' σ' H' (r'.unpin l)
    | rt v => exact fun W' σ' H' v' r' => q W' σ' H' v' (r'.unpin l)
    | bk => exact fun W' σ' H' r' => q W' σ' H' (r'.unpin l)
    | ct => exact fun W' σ' H' r' => q W' σ' H' (r'.unpin l)) fun x s' q W' σ' H' cls d r' => q W' σ' H' cls d (r'.unpin l)
theorem sims_for (hp : PassesOwn (model X.prog X.w) X.A X.env X.xe) (hK : X.K = B.K) (hc : X.calm = true) (hi : SimI X B N WX tg iter src) (hg : PG X tg (gT X.K t)) (hb : ∀ N, SimSs X B N WX body mb) (hs : ∀ x, foldedSetIterable iter X.env x = pure x) :
    SimS X B N WX (.For tg iter body [] pos) (sFor src t mb) :=
  (ps_for hp hc hi hg (pss_any hb) hs).imp fun D σ H ⟨W, s, r, h⟩ => by
    refine ⟨W, s, r, h.bindE.mono fun rr W1 s1 H1 r1 _ q st hz J wk => ?_⟩
    split at q
    · exact q.elim
    · rename_i ho
      simp only [not_or] at ho
      have no : rr.o = true → ∀ {P : Prop}, P := fun z => absurd z ho.1
      refine ⟨fun i m σ' H' => m = rr.xs.length - i ∧ i ≤ rr.xs.length ∧ ∃ W' s', Rel B (N.at W1) W' s' σ' H' ∧ PostS B (N.at W1) WX D (loopF rr t mb (rr.xs.drop i) s'), ⟨_, rfl, Nat.zero_le _, W1, s1, r1.pinAt, q.unpin r1.pin⟩, ?_⟩
      rintro i m σ' H' ⟨rfl, hi, W', s', r', q'⟩
      by_cases hl : i < rr.xs.length
      · right
        rw [List.drop_eq_getElem_cons hl] at q'
        unfold loopF at q'
        split at q'
        · rename_i st'
          obtain ⟨g1, g2⟩ := wk.go W' s' H' r'.hr r'.pin st' (fun z => no z) i rr.xs[i] (List.getElem?_eq_getElem hl)
          refine ⟨g1, fun σ2 H2 => (rr.xs.length - (i + 1) = rr.xs.length - (i + 1)) ∧ i + 1 ≤ rr.xs.length ∧ ∃ W' s', Rel B (N.at W1) W' s' σ2 H2 ∧ PostS B (N.at W1) WX D (loopF rr t mb (rr.xs.drop (i + 1)) s'), fun σ2 H2 z => ⟨_, by omega, z⟩, fun x H2 y => ?_⟩
          obtain ⟨W2, gr, rx⟩ := g2 x H2 y
          split at q'
          · rename_i e1 eb
            refine gT_ok hK (vs := t.sl) (fun i hi => hi) (gr.rel r') rx eb fun σ3 r3 _ => ⟨N.at W1, W2, ⟨e1, s'.h⟩, r3, R.post_mono (R.post_bind q') (fun f s4 q4 => ?_) fun x s4 q4 => q4⟩
            cases f with
            | nx => exact fun W5 σ5 H5 r5 => ⟨rfl, hl, W5, s4, r5, q4⟩
            | ct => exact fun W5 σ5 H5 r5 => ⟨rfl, hl, W5, s4, r5, q4⟩
            | bk => exact q4
            | rt v => exact q4
          · exact q'.elim
        · exact q'.elim
      · left
        rw [List.drop_eq_nil_of_le (by omega)] at q'
        unfold loopF at q'
        split at q'
        · rename_i st'
          exact ⟨wk.stop W' s' H' r'.hr r'.pin st' (fun z => no z) i (by omega), q' W' σ' H' r'⟩
        · exact q'.elim
end

/-! ### cells -/
section
variable {B : Bs} {N : Ent} {W W' : Wd} {s s' : S} {σ : L2.St} {h h' : AH} {H H' : Hp} {n : Nat} {c c' : Cell} {a p : Addr} {o : HO}
theorem set_at {α : Type} {l : List (Option α)} {n m : Nat} {c : α} {x : α} (e : (l.set n (some c))[m]? = some (some x)) : (m = n ∧ x = c) ∨ (m ≠ n ∧ l[m]? = some (some x)) := by
  by_cases hm : n = m
  · subst hm
    by_cases hl : n < l.length
    · rw [List.getElem?_set_self hl] at e
      cases e
      exact .inl ⟨rfl, rfl⟩
    · rw [List.getElem?_eq_none (by rw [List.length_set]; omega)] at e
      cases e
  · rw [List.getElem?_set_ne hm] at e
    exact .inr ⟨fun z => hm z.symm, e⟩
theorem hrel_cell (hr : HRel B W h H) (e : h[n]? = some (some c)) (em : W.m[n]? = some a) (ho : SzO o) (hc : CellR B W (upd H a o) a c') : HRel B W (h.set n (some c')) (upd H a o) := by
  have hF := (hr.cell n c a e em).1
  refine ⟨fun b u e1 => ?_, by rw [List.length_set]; exact hr.len, hr.nd, fun b hb => ?_, fun b u e1 => ?_, fun m c1 b e1 e2 => ?_⟩
  · have ne : b ≠ a := fun z => by rw [z, hF] at e1; cases e1
    rw [upd_ne ne]; exact hr.agree _ _ e1
  · by_cases hba : b = a
    · rw [hba, upd_same]; exact fun z => nomatch z
    · rw [upd_ne hba]; exact hr.mt b hb
  · by_cases hba : b = a
    · rw [hba, upd_same] at e1; cases e1; exact ho
    · rw [upd_ne hba] at e1; exact hr.hz b u e1
  · rcases set_at e1 with ⟨rfl, rfl⟩ | ⟨hm, e3⟩
    · rw [em] at e2; cases e2
      exact ⟨hF, hc⟩
    · have ne : b ≠ a := fun z => by
        subst z
        have i1 := (List.getElem?_eq_some_iff.mp e2).1
        have i2 := (List.getElem?_eq_some_iff.mp em).1
        exact hm ((List.getElem?_inj i1 hr.nd).mp (e2.trans em.symm))
      obtain ⟨h1, h2⟩ := hr.cell m c1 b e3 e2
      exact ⟨h1, h2.off ne⟩
theorem step_cell (hr : HRel B W h H) (e : h[n]? = some (some c)) (em : W.m[n]? = some a) : Step W h H W (h.set n (some c')) (upd H a o) := by
  refine ⟨.refl W, by rw [List.length_set]; exact Nat.le_refl _, fun m c1 hm e1 => ?_, fun b u e1 nl => ?_, fun b e1 => ?_, fun b e1 _ _ => e1, by rw [List.length_set]; exact hr.len, fun m b hm e1 => ?_⟩
  · rcases set_at e1 with ⟨rfl, rfl⟩ | ⟨_, e3⟩
    · exact ⟨_, e⟩
    · exact ⟨_, e3⟩
  · have ne : b ≠ a := fun z => nl (z ▸ ⟨n, c, e, em⟩)
    rw [upd_ne ne]; exact e1
  · by_cases hba : b = a
    · rw [hba, upd_same] at e1; cases e1
    · rw [upd_ne hba] at e1; exact e1
  · have := (List.getElem?_eq_some_iff.mp e1).1
    rw [hr.len] at this; omega
/-- a new cell at p -/
theorem le_cell : W.Le ⟨W.F, W.m ++ [p]⟩ := ⟨fun _ _ e => e, List.prefix_append _ _⟩
theorem snoc_at {α : Type} {l : List α} {x y : α} {n : Nat} (e : (l ++ [x])[n]? = some y) : (n < l.length ∧ l[n]? = some y) ∨ (n = l.length ∧ y = x) := by
  by_cases hn : n < l.length
  · rw [List.getElem?_append_left hn] at e
    exact .inl ⟨hn, e⟩
  · rw [List.getElem?_append_right (by omega)] at e
    by_cases h0 : n - l.length = 0
    · rw [h0] at e
      cases e
      exact .inr ⟨by omega, rfl⟩
    · obtain ⟨m, hm⟩ := Nat.exists_eq_succ_of_ne_zero h0
      rw [hm] at e
      simp at e
theorem hrel_snoc (hr : HRel B W h H) (hF : W.F p = none) (hm : p ∉ W.m) (hp : H p ≠ none) (hc : CellR B W H p c) : HRel B ⟨W.F, W.m ++ [p]⟩ (h ++ [some c]) H := by
  refine ⟨hr.agree, by simp [hr.len], ?_, fun b hb => ?_, hr.hz, fun m c1 b e1 e2 => ?_⟩
  · rw [List.nodup_append]
    exact ⟨hr.nd, by simp, fun x hx y hy e => hm (by simp at hy; rw [← hy, ← e]; exact hx)⟩
  · rcases List.mem_append.mp hb with hb | hb
    · exact hr.mt b hb
    · simp at hb; rw [hb]; exact hp
  · have e2 : (W.m ++ [p])[m]? = some b := e2
    rcases snoc_at e1 with ⟨hn, e3⟩ | ⟨rfl, e3⟩
    · rcases snoc_at e2 with ⟨_, e4⟩ | ⟨e4, _⟩
      · obtain ⟨h1, h2⟩ := hr.cell m c1 b e3 e4
        exact ⟨h1, h2.mono le_cell fun _ z => z⟩
      · rw [hr.len] at e4; omega
    · cases e3
      rcases snoc_at e2 with ⟨hn, _⟩ | ⟨_, rfl⟩
      · rw [hr.len] at hn; omega
      · exact ⟨hF, hc.mono le_cell fun _ z => z⟩
theorem Step.snoc {H0 : Hp} {W0 : Wd} {h0 : AH} (st : Step W0 h0 H0 W h H) (hp : H0 p = none) : Step W0 h0 H0 ⟨W.F, W.m ++ [p]⟩ (h ++ [some c]) H := by
  refine ⟨st.le.trans le_cell, by rw [List.length_append]; exact Nat.le_trans st.hl (Nat.le_add_right _ _), fun m c1 hm e => ?_, st.keep, st.tr, st.fgrow, by simp [st.hm], fun m b hm e => ?_⟩
  · rw [List.getElem?_append_left (Nat.lt_of_lt_of_le hm st.hl)] at e
    exact st.dead m c1 hm e
  · rcases snoc_at e with ⟨_, e4⟩ | ⟨_, rfl⟩
    · exact st.mnew m b hm e4
    · exact hp
theorem rel_snoc (r : Rel B N W s σ H) (l : Loose N W s σ p) (hp : H p ≠ none) (hc : CellR B W H p c) : Rel B N ⟨W.F, W.m ++ [p]⟩ ⟨s.e, s.h ++ [some c]⟩ σ H := by
  refine ⟨hrel_snoc r.hr l.F l.m hp hc, r.st.snoc l.e, r.len, fun i x e => ?_, r.dis, r.pin.trans le_cell⟩
  obtain ⟨v, e1, sl⟩ := r.env i x e
  refine ⟨v, e1, ?_⟩
  cases x with
  | own xs =>
    obtain ⟨b, vs, rfl, h1, h2, h3, h4, h5⟩ := sl
    refine ⟨b, vs, rfl, h1, h2.mono le_cell, h3, fun z => ?_, h5⟩
    rcases List.mem_append.mp z with z | z
    · exact h4 z
    · simp at z
      subst z
      exact l.o i _ e rfl e1
  | don ks => exact sl
  | _ => exact Rep.mono le_cell sl
end
def eCel (mn : S → R S (List PV)) : ME := fun s => (mn s).bind fun xs s1 => .ok (.cel s1.h.length) ⟨s1.e, s1.h ++ [some (.lst xs)]⟩
section
variable {X : Cx} {B : Bs} {N : Ent} {WX : L2.WX} {W W' : Wd} {s s' : S} {σ : L2.St} {H H' : Hp} {e o i : Expr} {es : List Expr} {mn : S → R S (List PV)} {ma : MA} {m mo mi : ME} {pos : Pos}
theorem sim_cel (h : SimN X B N WX e mn) : SimE X B N WX e (eCel mn) := h.imp fun σ H Q ⟨W, s, r, h⟩ => ⟨W, s, r, R.post_mono (R.post_bind h) (fun xs s1 q W1 H1 r1 st p vs hp l hH rv => by
  have ne : H1 p ≠ none := by rw [hH]; exact fun z => nomatch z
  have r2 := rel_snoc (c := .lst xs) r1 l ne ⟨vs, hH, rv⟩
  exact q _ H1 r2 ⟨st.st.snoc hp, st.eo⟩ _ (Rep.cel (by show (W1.m ++ [p])[s1.h.length]? = some p; rw [← r1.hr.len]; simp)).hand) fun x s1 q => q⟩
/-- a list display, not yet put anywhere -/
def nLst (ma : MA) : S → R S (List PV) := fun s => (ma s).bind fun vs s1 => if allSh vs = true ∧ vs.length ≤ sizeLine then .ok vs s1 else .bad
theorem sim_lstN (ha : SimA X B N WX es ma) : SimN X B N WX (.List es pos) (nLst ma) :=
  (pe_lst ha).imp fun σ H Q ⟨W, s, r, h⟩ => ⟨W, s, r, R.post_mono (R.post_bind h) (fun vs s1 q W1 H1 r1 st vs' rv => by
    split at q
    · rename_i hc
      have rv' := rv.reps hc.1
      have hz : vs'.length ≤ sizeLine := by rw [← rv'.length]; exact hc.2
      refine ⟨hz, fun p hp => ?_⟩
      have l := r1.loose hp
      have hp0 : H p = none := st.st.tr _ hp
      exact q W1 _ (rel_put r1 l (o := .lst vs') hz) (st.put hp0 l.m) p vs' hp0 l upd_same rv'
    · exact q.elim) fun x s1 q => q⟩
end
end Lp

set_option Elab.async false
set_option linter.all false
set_option maxRecDepth 100000
set_option maxHeartbeats 4000000
/-! Lp10: stores into lists, append, methods of texts, isinstance. -/
namespace Lp
open PySem PySem.Spec PyProof.Rows L2

section
variable {B : Bs} {N : Ent} {W W' : Wd} {s s' : S} {σ : L2.St} {H H' : Hp} {i : Nat} {xs : List PV}
/-- a slot's own list: the state without it -/
theorem rel_clear (r : Rel B N W s σ H) (e : s.e[i]? = some (some (.own xs))) : ∃ p vs, σ[i]? = some (some (.ref p)) ∧ H p = some (.lst vs) ∧ Reps B W xs vs ∧ Rel B N W ⟨s.e.set i none, s.h⟩ σ H ∧ Loose N W ⟨s.e.set i none, s.h⟩ σ p := by
  obtain ⟨v, e1, p, vs, rfl, hH, rv, hF, hm, h0⟩ := r.env i _ e
  have g : ∀ (j : Nat) (y : PV), (s.e.set i none)[j]? = some (some y) → j ≠ i ∧ s.e[j]? = some (some y) := fun j y f => by
    by_cases hj : i = j
    · subst hj
      by_cases hl : i < s.e.length
      · rw [List.getElem?_set_self hl] at f; cases f
      · rw [List.getElem?_eq_none (by rw [List.length_set]; omega)] at f; cases f
    · rw [List.getElem?_set_ne hj] at f
      exact ⟨fun z => hj z.symm, f⟩
  refine ⟨p, vs, e1, hH, rv, ⟨r.hr, r.st, by rw [r.len]; simp, fun j y ej => r.env j y (g j y ej).2, fun j k y z a hjk f1 f2 o1 o2 s1 s2 => r.dis j k y z a hjk (g j y f1).2 (g k z f2).2 o1 o2 s1 s2, r.pin⟩, hF, hm, fun j y f o z => ?_, h0⟩
  obtain ⟨ne, f'⟩ := g j y f
  exact r.dis i j _ y p (Ne.symm ne) e f' rfl o e1 z
/-- .. gets another content -/
theorem rel_ownset (r : Rel B N W s σ H) (e : s.e[i]? = some (some (.own xs))) : ∃ p vs, σ[i]? = some (some (.ref p)) ∧ H p = some (.lst vs) ∧ Reps B W xs vs ∧
    ∀ ys us, Reps B W ys us → us.length ≤ sizeLine → Rel B N W ⟨s.e.set i (some (.own ys)), s.h⟩ σ (upd H p (.lst us)) := by
  obtain ⟨p, vs, e1, hH, rv, rc, lc⟩ := rel_clear r e
  refine ⟨p, vs, e1, hH, rv, fun ys us ru hz => ?_⟩
  have r2 := rel_put rc lc (o := .lst us) hz
  have := rel_own (i := i) (p := p) (xs := ys) (vs := us) (σ' := σ) r2 rfl (fun _ _ => rfl) (.inl e1) ⟨lc.F, lc.m, fun j x _ f o => lc.o j x f o, lc.e⟩ upd_same ru
  simpa using this
end
/-- xs[k] = v -/
def setL (xs : List PV) (k : PV) (v : PV) : Option (List PV) := match k with
  | .int j => if isOwn v = true then none else (ixN xs.length j).map fun q => xs.set q v
  | _ => none
def cellL (h : AH) (n : Nat) : Option (List PV) := match h[n]? with
  | some (some (.lst xs)) => some xs
  | _ => none
def celN : PV → Option Nat
  | .cel n => some n
  | _ => none
def sSetC (mv mo mi : ME) : MS := fun s => (mv s).bind fun v s1 => (mo s1).bind fun o s2 => (mi s2).bind fun k s3 => match celN o with
  | some n => match cellL s3.h n with
    | some xs => match setL xs k v with
      | some ys => .ok .nx ⟨s3.e, s3.h.set n (some (.lst ys))⟩
      | none => .bad
    | none => .bad
  | none => .bad
def ownAt (e : List (Option PV)) (i : Nat) : Option (List PV) := match e[i]? with
  | some (some (.own xs)) => some xs
  | _ => none
def sSetN (i : Nat) (mv mi : ME) : MS := fun s => (mv s).bind fun v s1 => match ownAt s1.e i with
  | some _ => (mi s1).bind fun k s2 => match ownAt s2.e i with
    | some xs => match setL xs k v with
      | some ys => .ok .nx ⟨s2.e.set i (some (.own ys)), s2.h⟩
      | none => .bad
    | none => .bad
  | none => .bad
def addL (xs : List PV) (v : PV) : Option (List PV) := if isOwn v = true ∨ sizeLine ≤ xs.length then none else some (xs ++ [v])
def eAppC (mo me : ME) : ME := fun s => (mo s).bind fun o s1 => match celN o with
  | some n => match cellL s1.h n with
    | some _ => (me s1).bind fun v s2 => match cellL s2.h n with
      | some xs => match addL xs v with
        | some ys => .ok .non ⟨s2.e, s2.h.set n (some (.lst ys))⟩
        | none => .bad
      | none => .bad
    | none => .bad
  | none => .bad
def sAppN (i : Nat) (me : ME) : MS := fun s => match ownAt s.e i with
  | some _ => (me s).bind fun v s1 => match ownAt s1.e i with
    | some xs => match addL xs v with
      | some ys => .ok .nx ⟨s1.e.set i (some (.own ys)), s1.h⟩
      | none => .bad
    | none => .bad
  | none => .bad
theorem cellL_ok {h : AH} {n : Nat} {xs : List PV} (e : cellL h n = some xs) : h[n]? = some (some (.lst xs)) := by
  unfold cellL at e
  split at e
  · rename_i ys q; cases e; exact q
  · cases e
theorem celN_ok {x : PV} {n : Nat} (e : celN x = some n) : x = .cel n := by
  unfold celN at e
  split at e
  · cases e; rfl
  · cases e
theorem ownAt_ok {e : List (Option PV)} {i : Nat} {xs : List PV} (h : ownAt e i = some xs) : e[i]? = some (some (.own xs)) := by
  unfold ownAt at h
  split at h
  · rename_i ys q; cases h; exact q
  · cases h
theorem setL_ok {xs ys : List PV} {k v : PV} (e : setL xs k v = some ys) : ∃ j q, k = .int j ∧ isOwn v = false ∧ ixN xs.length j = some q ∧ ys = xs.set q v := by
  unfold setL at e
  split at e
  · rename_i j
    split at e
    · cases e
    · rename_i o
      cases q : ixN xs.length j with
      | none => rw [q] at e; cases e
      | some m => rw [q] at e; cases e; exact ⟨j, m, rfl, by simpa using o, q, rfl⟩
  · cases e
theorem addL_ok {xs ys : List PV} {v : PV} (e : addL xs v = some ys) : isOwn v = false ∧ xs.length < sizeLine ∧ ys = xs ++ [v] := by
  unfold addL at e
  split at e
  · cases e
  · rename_i o
    cases e
    simp only [not_or] at o
    exact ⟨by simpa using o.1, by omega, rfl⟩
section
variable {X : Cx} {B : Bs} {N : Ent} {WX : L2.WX} {W W' : Wd} {s s' : S} {σ : L2.St} {H H' : Hp} {e o ie : Expr} {mv mo mi me : ME} {pos tpos apos cpos npos : Pos} {x : Str} {i : Nat}
theorem rep_cel {n : Nat} {v : V} (r : RepT B W H (.cel n) v) : ∃ a, v = .ref a ∧ W.m[n]? = some a := by
  cases (show Rep B W (.cel n) v from r) with
  | cel h => exact ⟨_, rfl, h⟩
theorem cell_put {n : Nat} {a : Addr} {xs ys : List PV} {us : List V} (r : Rel B N W s σ H) (e : cellL s.h n = some xs) (em : W.m[n]? = some a) (ru : Reps B W ys us) (hz : us.length ≤ sizeLine) : Rel B N W ⟨s.e, s.h.set n (some (.lst ys))⟩ σ (upd H a (.lst us)) ∧ StepE W s H W ⟨s.e, s.h.set n (some (.lst ys))⟩ (upd H a (.lst us)) := by
  have hr2 := hrel_cell (c' := .lst ys) r.hr (cellL_ok e) em (o := .lst us) hz ⟨us, upd_same, ru⟩
  have st := step_cell (c' := .lst ys) (o := .lst us) r.hr (cellL_ok e) em
  exact ⟨rel_step r hr2 st, stepE_of st⟩
theorem sims_setC (hv : SimE X B N WX e mv) (ho : SimE X B N WX o mo) (hi : SimE X B N WX ie mi)
    (ha : ∀ v, assign (.Subscript o ie tpos) X.env v = (do
      let ov ← holding [v] (eval o X.env)
      let iv ← holding [v, ov] (eval ie X.env)
      standAt tpos
      holding [v, ov, iv] (setItem ov iv v)
      release [v, ov, iv] []))
    (hs : swapsWithSole [.Subscript o ie tpos] e pos.line X.env = pure false) (hw : swappedStores [.Subscript o ie tpos] e X.env = pure none) (h1 : (assignEach [.Subscript o ie tpos] X.env).map (·.2) = [assign (.Subscript o ie tpos) X.env]) :
    SimS X B N WX (.Assign [.Subscript o ie tpos] e pos) (sSetC mv mo mi) :=
  (ps_asg hv (pg_sub ho hi set_list ha) hs hw h1).imp fun D σ H ⟨W, s, r, h⟩ => ⟨W, s, r, h.bindE.mono fun v W1 s1 H1 r1 _ q v' rv => ⟨W1, s1, r1, q.bindE.mono fun ov W2 s2 H2 r2 st2 q o' ro => ⟨W2, s2, r2, q.bindE.mono fun k W3 s3 H3 r3 st3 q3 k' rk => by
    split at q3
    · rename_i n en
      split at q3
      · rename_i xs ex
        split at q3
        · rename_i ys ey
          obtain ⟨j, m, rfl, ov1, e3, rfl⟩ := setL_ok ey
          obtain rfl := celN_ok en
          obtain ⟨a, rfl, em⟩ := rep_cel (ro.on r2.slen st3.st)
          obtain ⟨_, vs, hH, rvs⟩ := r3.hr.cell n _ a (cellL_ok ex) em
          have rv3 := ((rv.on r1.slen st2.st).on r2.slen st3.st).rep ov1
          have hz : (vs.set m v').length ≤ sizeLine := by rw [List.length_set]; exact r3.hr.hz a _ hH
          refine ⟨a, vs, j, m, rfl, rep_int rk, hH, by rw [← rvs.length]; exact e3, ?_⟩
          exact q3 W3 σ _ (cell_put r3 ex em (rvs.set rv3 m) hz).1
        · exact q3.elim
      · exact q3.elim
    · exact q3.elim⟩⟩⟩
theorem own_back {W' : Wd} {s' : S} {xs : List PV} (r : Rel B N W s σ H) (st : StepE W s H W' s' H') (e : ownAt s'.e i = some xs) : s.e[i]? = some (some (.own xs)) := st.eo i _ (ownAt_ok e) rfl
theorem sims_setN (hN : X.N[i]? = some x) (hx : Vis X.env.scope x) (hd : (x == ("__debug__" : Str)) = false) (hcd : (x == ("__classdict__" : Str)) = false) (hv : SimE X B N WX e mv) (hi : SimE X B N WX ie mi)
    (ha : ∀ v, assign (.Subscript (.Name x npos) ie tpos) X.env v = (do
      let ov ← holding [v] (eval (.Name x npos) X.env)
      let iv ← holding [v, ov] (eval ie X.env)
      standAt tpos
      holding [v, ov, iv] (setItem ov iv v)
      release [v, ov, iv] []))
    (hs : swapsWithSole [.Subscript (.Name x npos) ie tpos] e pos.line X.env = pure false) (hw : swappedStores [.Subscript (.Name x npos) ie tpos] e X.env = pure none) (h1 : (assignEach [.Subscript (.Name x npos) ie tpos] X.env).map (·.2) = [assign (.Subscript (.Name x npos) ie tpos) X.env]) :
    SimS X B N WX (.Assign [.Subscript (.Name x npos) ie tpos] e pos) (sSetN i mv mi) :=
  (ps_asg hv (pg_sub (pe_var hN hx hd hcd) hi set_list ha) hs hw h1).imp fun D σ H ⟨W, s, r, h⟩ => ⟨W, s, r, h.bindE.mono fun v W1 s1 H1 r1 _ q v' rv => by
    split at q
    · rename_i xs0 e0
      obtain ⟨ov, eo, _⟩ := r1.env i _ (ownAt_ok e0)
      refine ⟨ov, eo, W1, s1, r1, q.bindE.mono fun k W2 s2 H2 r2 st2 q k' rk => ?_⟩
      split at q
      · rename_i xs ex
        split at q
        · rename_i ys ey
          obtain ⟨j, m, rfl, ov1, e3, rfl⟩ := setL_ok ey
          obtain ⟨p, vs, e1, hH, rvs, fin⟩ := rel_ownset r2 (ownAt_ok ex)
          rw [e1] at eo
          cases eo
          have rv2 := (rv.on r1.slen st2.st).rep ov1
          have hz : (vs.set m v').length ≤ sizeLine := by rw [List.length_set]; exact r2.hr.hz p _ hH
          refine ⟨p, vs, j, m, rfl, rep_int rk, hH, by rw [← rvs.length]; exact e3, ?_⟩
          exact q W2 σ _ (fin _ _ (rvs.set rv2 m) hz)
        · exact q.elim
      · exact q.elim
    · exact q.elim⟩
theorem sim_appC (ho : SimE X B N WX o mo) (he : SimE X B N WX e me) (hbase : attributeBase o "append" X.env (eval o X.env) = eval o X.env)
    (hfew : ((backTo cpos (starEach [e] X.env)).all (fun x => !x.1) && (backToKw cpos (keywordEach [] X.env)).all (fun x => x.1.isSome) && decide (([e] : List Expr).length + ([] : List Keyword).length + (if ([] : List Keyword).isEmpty then 0 else 1) < 30)) = true)
    (hline : (apos.endLine == cpos.line) = true) (hs : starEach [e] X.env = (false, eval e X.env) :: starEach [] X.env) (hplain : (backTo cpos (starEach [] X.env)).any (·.1) = false) :
    SimE X B N WX (.Call (.Attribute o "append" apos) [e] [] cpos) (eAppC mo me) :=
  (pe_bm PySem.F.plainAttrs_list PySem.F.slot_list_append PySem.F.type_list_append mt_append ho (pa_cons he pa_nil hs) hbase hfew hline hs hplain).imp fun σ H Q ⟨W, s, r, h⟩ => ⟨W, s, r, (h.bind r.slen).mono fun o1 W1 s1 H1 r1 _ q o' ro => by
    split at q
    · rename_i n en
      obtain rfl := celN_ok en
      obtain ⟨a, rfl, em⟩ := rep_cel ro
      split at q
      · rename_i xs0 e0
        obtain ⟨_, vs0, hH0, _⟩ := r1.hr.cell n _ a (cellL_ok e0) em
        refine ⟨.inl ⟨rfl, vs0, .inl (.inl hH0)⟩, W1, s1, r1, (q.bind r1.slen).mono fun v W2 s2 H2 r2 st2 q v' rv => ?_⟩
        split at q
        · rename_i xs ex
          split at q
          · rename_i ys ey
            obtain ⟨ov1, hz, rfl⟩ := addL_ok ey
            have em2 := st2.st.le.at em
            obtain ⟨_, vs, hH, rvs⟩ := r2.hr.cell n _ a (cellL_ok ex) em2
            have hz' : vs.length < sizeLine := by rw [← rvs.length]; exact hz
            refine ⟨a, vs, v', rfl, rfl, hH, hz', ?_⟩
            obtain ⟨r3, st3⟩ := cell_put r2 ex em2 (rvs.append (.one (rv.rep ov1))) (by rw [List.length_append]; exact hz')
            exact q W2 _ r3 st3 .non Rep.non.hand
          · exact q.elim
        · exact q.elim
      · exact q.elim
    · exact q.elim⟩
theorem sims_appN (hN : X.N[i]? = some x) (hx : Vis X.env.scope x) (hd : (x == ("__debug__" : Str)) = false) (hcd : (x == ("__classdict__" : Str)) = false) (he : SimE X B N WX e me) (hbase : attributeBase (.Name x npos) "append" X.env (eval (.Name x npos) X.env) = eval (.Name x npos) X.env)
    (hfew : ((backTo cpos (starEach [e] X.env)).all (fun x => !x.1) && (backToKw cpos (keywordEach [] X.env)).all (fun x => x.1.isSome) && decide (([e] : List Expr).length + ([] : List Keyword).length + (if ([] : List Keyword).isEmpty then 0 else 1) < 30)) = true)
    (hline : (apos.endLine == cpos.line) = true) (hs : starEach [e] X.env = (false, eval e X.env) :: starEach [] X.env) (hplain : (backTo cpos (starEach [] X.env)).any (·.1) = false)
    (hsw : swapsWith (.Call (.Attribute (.Name x npos) "append" apos) [e] [] cpos) none pos.line X.env = pure false) :
    SimS X B N WX (.Expr (.Call (.Attribute (.Name x npos) "append" apos) [e] [] cpos) pos) (sAppN i me) :=
  (ps_expr (pe_bm PySem.F.plainAttrs_list PySem.F.slot_list_append PySem.F.type_list_append mt_append (pe_var hN hx hd hcd) (pa_cons he pa_nil hs) hbase hfew hline hs hplain) hsw).imp fun D σ H ⟨W, s, r, h⟩ => by
    unfold sAppN at h
    split at h
    · rename_i xs0 e0
      obtain ⟨ov, eo, p0, vs0, rfl, hH0, _⟩ := r.env i _ (ownAt_ok e0)
      refine ⟨_, eo, .inl ⟨rfl, vs0, .inl (.inl hH0)⟩, W, s, r, h.bindE.mono fun v W2 s2 H2 r2 st2 q v' rv => ?_⟩
      split at q
      · rename_i xs ex
        split at q
        · rename_i ys ey
          obtain ⟨ov1, hz, rfl⟩ := addL_ok ey
          obtain ⟨p, vs, e1, hH, rvs, fin⟩ := rel_ownset r2 (ownAt_ok ex)
          rw [e1] at eo
          cases eo
          have hz' : vs.length < sizeLine := by rw [← rvs.length]; exact hz
          exact ⟨_, vs, v', rfl, rfl, hH, hz', q W2 σ _ (fin _ _ (rvs.append (.one (rv.rep ov1))) (by rw [List.length_append]; exact hz'))⟩
        · exact q.elim
      · exact q.elim
    · exact h.elim
end

/-! ### the slot's list is given out, ahead of a statement -/
def sFrz (i : Nat) (m : MS) : MS := fun s => match ownAt s.e i with
  | some xs => m ⟨s.e.set i (some (.lst xs)), s.h⟩
  | none => m s
section
variable {X : Cx} {B : Bs} {N : Ent} {WX : L2.WX} {st : Stmt} {m : MS} {i : Nat}
theorem sims_frz (i : Nat) (h : SimS X B N WX st m) : SimS X B N WX st (sFrz i m) := h.imp fun D σ H ⟨W, s, r, q⟩ => by
  unfold sFrz at q
  split at q
  · rename_i xs e
    obtain ⟨p, vs, _, _, _, _, _, _, r2⟩ := rel_frz r (ownAt_ok e)
    exact ⟨_, _, r2, q⟩
  · exact ⟨W, s, r, q⟩
end

/-! ### methods of texts -/
def MethS (X : Cx) (B : Bs) (f : AH → Str → List PV → Option PV) (r : V → List V → Hp → VK → Prop) : Prop := ∀ (W : Wd) (h : AH) (H : Hp) (x : Str) (xs : List PV) (z : PV) (xs' : List V) (Q : VK), HRel B W h H → SOk x → RepTs B W H xs xs' → f h x xs = some z →
  (∀ W' H' z', Grow W H W' H' → RepT B W' H' z z' → Q z' H') → r (.str x) xs' H Q
def strN : PV → Option Str
  | .str x => some x
  | _ => none
def eMS (f : AH → Str → List PV → Option PV) (mo : ME) (ma : MA) : ME := fun s => (mo s).bind fun o s1 => match strN o with
  | some x => (ma s1).bind fun vs s2 => match f s2.h x vs with
    | some z => .ok z s2
    | none => .bad
  | none => .bad
section
variable {X : Cx} {B : Bs} {N : Ent} {WX : L2.WX} {W W' : Wd} {s s' : S} {σ : L2.St} {H H' : Hp} {o e : Expr} {es : List Expr} {mo : ME} {ma : MA} {name : Str} {apos cpos : Pos} {id : String} {r : V → List V → Hp → VK → Prop} {f : AH → Str → List PV → Option PV}
theorem strN_ok {x : PV} {y : Str} (e : strN x = some y) : x = .str y := by
  unfold strN at e
  split at e
  · cases e; rfl
  · cases e
theorem sim_ms (slot : Slot "str" name id) (hty : typeOf (.builtin id) = pure (.type "method_descriptor")) (hm : MtR X id r) (hf : MethS X B f r) (ho : SimE X B N WX o mo) (ha : SimA X B N WX (e :: es) ma) (hbase : attributeBase o name X.env (eval o X.env) = eval o X.env)
    (hfew : ((backTo cpos (starEach (e :: es) X.env)).all (fun x => !x.1) && (backToKw cpos (keywordEach [] X.env)).all (fun x => x.1.isSome)
      && decide ((e :: es).length + ([] : List Keyword).length + (if ([] : List Keyword).isEmpty then 0 else 1) < 30)) = true)
    (hline : (apos.endLine == cpos.line) = true) (hs : starEach (e :: es) X.env = (false, eval e X.env) :: starEach es X.env) (hplain : (backTo cpos (starEach es X.env)).any (·.1) = false) :
    SimE X B N WX (.Call (.Attribute o name apos) (e :: es) [] cpos) (eMS f mo ma) :=
  (pe_bm PySem.F.plainAttrs_str slot hty hm ho ha hbase hfew hline hs hplain).imp fun σ H Q ⟨W, s, r0, h⟩ => ⟨W, s, r0, (h.bind r0.slen).mono fun o1 W1 s1 H1 r1 _ q o' ro => by
    split at q
    · rename_i x ex
      obtain rfl := strN_ok ex
      obtain ⟨rfl, hx⟩ := rep_str ro
      refine ⟨rfl, W1, s1, r1, (q.bind r1.slen).mono fun vs W2 s2 H2 r2 st2 q vs' rvs => ?_⟩
      split at q
      · rename_i z ez
        exact hf W2 s2.h H2 x vs z vs' Q r2.hr hx rvs ez fun W' H' z' g rz => q W' H' (g.rel r2) (g.stepE r2.hr) z' rz
      · exact q.elim
    · exact q.elim⟩
theorem sim_ms0 (slot : Slot "str" name id) (hty : typeOf (.builtin id) = pure (.type "method_descriptor")) (hm : MtR X id r) (hf : MethS X B f r) (ho : SimE X B N WX o mo) (hbase : attributeBase o name X.env (eval o X.env) = eval o X.env) (hline : (apos.endLine == cpos.line) = true) :
    SimE X B N WX (.Call (.Attribute o name apos) [] [] cpos) (eMS f mo aNil) :=
  (pe_bm0 PySem.F.plainAttrs_str slot hty hm ho hbase hline).imp fun σ H Q ⟨W, s, r0, h⟩ => ⟨W, s, r0, (h.bind r0.slen).mono fun o1 W1 s1 H1 r1 _ q o' ro => by
    split at q
    · rename_i x ex
      obtain rfl := strN_ok ex
      obtain ⟨rfl, hx⟩ := rep_str ro
      refine ⟨rfl, ?_⟩
      have q := (q.bind r1.slen).ok r1
      split at q
      · rename_i z ez
        exact hf W1 s1.h H1 x [] z [] Q r1.hr hx trivial ez fun W' H' z' g rz => q W' H' (g.rel r1) (g.stepE r1.hr) z' rz
      · exact q.elim
    · exact q.elim⟩
end
/-- sep.join(..) -/
def strsOf (xs : List PV) : Option (List Str) := xs.mapM strN
def mJoin : AH → Str → List PV → Option PV := fun h x xs => match xs with
  | [y] => (asS h y).bind fun zs => (strsOf zs).bind fun ys => if (ys.map (·.length)).sum + ys.length * x.length ≤ 16777216 ∧ PyData.strOk (Txt.join x ys) = true ∧ (Txt.join x ys).length ≤ sizeLine then some (.str (Txt.join x ys)) else none
  | _ => none
theorem strs_reps {B : Bs} {W : Wd} : ∀ {ys : List PV} {vs : List V} {bs : List Str}, Reps B W ys vs → strsOf ys = some bs → vs = bs.map V.str
  | _, _, bs, .nil, e => by
    simp [strsOf] at e; subst e; rfl
  | x :: xs, _, bs, .cons (v := v) r t, e => by
    unfold strsOf at e
    rw [List.mapM_cons] at e
    cases q : strN x with
    | none => rw [q] at e; cases e
    | some y =>
      rw [q] at e
      cases q2 : xs.mapM strN with
      | none => rw [q2] at e; cases e
      | some zs =>
        rw [q2] at e
        cases e
        obtain rfl := strN_ok q
        rw [strs_reps t (show strsOf xs = some zs from q2)]
        cases r
        rfl
theorem sem_join {X : Cx} {B : Bs} (hK : X.K = B.K) : MethS X B mJoin (fun x xs H Q => ∃ a p, ∃ ys : List Str, x = .str a ∧ xs = [.ref p] ∧ (SqL X.K H p (ys.map V.str) ∨ SqT X.K H p (ys.map V.str)) ∧ (ys.map (·.length)).sum + ys.length * a.length ≤ 16777216 ∧ Q (.str (Txt.join a ys)) H) := by
  intro W h H x xs z xs' Q hr hx rxs e q
  unfold mJoin at e
  split at e
  · rename_i y
    obtain ⟨v, rfl, rv⟩ := repts1 rxs
    cases q1 : asS h y with
    | none => rw [q1] at e; cases e
    | some zs =>
      rw [q1] at e
      cases q2 : strsOf zs with
      | none =>
        have e : (strsOf zs).bind _ = some z := e
        rw [q2] at e; cases e
      | some ys =>
        have e : (strsOf zs).bind _ = some z := e
        rw [q2] at e
        have e : (if _ then _ else _) = some z := e
        split at e
        · rename_i hz
          cases e
          obtain ⟨a, vs, rfl, hs, rvs⟩ := asS_ok hK hr rv q1
          have := strs_reps rvs q2
          subst this
          exact ⟨x, a, ys, rfl, rfl, hs.symm, hz.1, q W H _ (.refl W H) (Rep.str _ ⟨hz.2.1, hz.2.2⟩).hand⟩
        · cases e
  · cases e

/-! ### isinstance, by built-in types -/
inductive BT where
  | non | bl | int | str | tup | lst | dic
  deriving DecidableEq
def BT.nm : BT → String
  | .non => "NoneType" | .bl => "bool" | .int => "int" | .str => "str" | .tup => "tuple" | .lst => "list" | .dic => "dict"
def BT.of (n : String) : Option BT := if n = "bool" then some .bl else if n = "int" then some .int else if n = "str" then some .str else if n = "tuple" then some .tup else if n = "list" then some .lst else if n = "dict" then some .dic else none
@[simp] theorem BT.of_bool : BT.of "bool" = some .bl := rfl
@[simp] theorem BT.of_int : BT.of "int" = some .int := rfl
@[simp] theorem BT.of_str : BT.of "str" = some .str := rfl
@[simp] theorem BT.of_tuple : BT.of "tuple" = some .tup := rfl
@[simp] theorem BT.of_list : BT.of "list" = some .lst := rfl
@[simp] theorem BT.of_dict : BT.of "dict" = some .dic := rfl
def subT : BT → BT → Bool
  | .bl, .int => true
  | .non, .non => true
  | .bl, .bl => true
  | .int, .int => true
  | .str, .str => true
  | .tup, .tup => true
  | .lst, .lst => true
  | .dic, .dic => true
  | _, _ => false
theorem BT.of_nm {n : String} {t : BT} (e : BT.of n = some t) : n = t.nm := by
  unfold BT.of at e
  repeat (split at e; · (rename_i h; cases e; exact h))
  cases e
theorem kit_sub : ∀ {a b : BT}, b ≠ .non → kitB a.nm b.nm = some (subT a b) := fun {a b} h => by
  cases b <;> (first | exact absurd rfl h | skip) <;> cases a <;> decide +kernel
theorem BT.of_ne {n : String} {t : BT} (e : BT.of n = some t) : t ≠ .non := by
  unfold BT.of at e
  repeat (split at e; · (cases e; exact fun z => nomatch z))
  cases e
def tyN (h : AH) : PV → Option BT
  | .non => some .non
  | .bl _ => some .bl
  | .int _ => some .int
  | .str _ => some .str
  | .tup _ => some .tup
  | x => (asL h x).map fun _ => .lst
def tysOf : List PV → Option (List BT)
  | [] => some []
  | .ty n :: xs => (BT.of n).bind fun t => (tysOf xs).map fun ts => t :: ts
  | _ => none
def bIsi : AH → List PV → Option PV := fun h xs => match xs with
  | [x, .ty n] => (tyN h x).bind fun t => (BT.of n).map fun u => .bl (subT t u)
  | [x, .tup cs] => (tyN h x).bind fun t => (tysOf cs).map fun us => .bl (us.any (subT t))
  | _ => none
section
variable {X : Cx} {B : Bs} {W : Wd} {h : AH} {H : Hp}
theorem tyN_ok (hK : X.K = B.K) (hr : HRel B W h H) {x : PV} {x' : V} {t : BT} (rx : RepT B W H x x') (e : tyN h x = some t) : TyX X.K H x' (.type t.nm) := by
  have fin : (asL h x).map (fun _ => BT.lst) = some t → TyX X.K H x' (.type t.nm) := fun e => by
    cases q : asL h x with
    | none => rw [q] at e; cases e
    | some xs =>
      rw [q] at e; cases e
      obtain ⟨a, vs, rfl, h1, _⟩ := asL_ok hr rx q
      rcases h1 with (h1 | ⟨o, h1⟩) | ⟨o, its, n, h1, h2, _⟩
      · exact .base (.lst h1)
      · exact .base (.frz h1)
      · exact .kList (hK ▸ h1) h2
  cases x with
  | non => cases e; rw [rep_non rx]; exact .base .non
  | bl b => cases e; rw [rep_bl rx]; exact .base (.bl b)
  | int i => cases e; rw [rep_int rx]; exact .base (.int i)
  | str y => cases e; rw [(rep_str rx).1]; exact .base (.str y)
  | tup xs =>
    cases e
    cases (show Rep B W (.tup xs) x' from rx) with
    | tup h1 r =>
      rcases h1 with h1 | ⟨o, its, n, h1, h2, _⟩
      · exact .base (.tup (hr.agree _ _ h1))
      · exact .kTuple (hK ▸ h1) h2
  | _ => exact fin e
theorem tysOf_ok : ∀ {cs : List PV} {vs : List V} {us : List BT}, Reps B W cs vs → tysOf cs = some us → (∀ u ∈ us, u ≠ .non) ∧ Paired ClsV vs (us.map fun u => .type u.nm)
  | _, _, us, .nil, e => by cases e; exact ⟨fun _ h => (by cases h), .nil⟩
  | .ty n :: cs, _, us, .cons r t, e => by
    rw [tysOf] at e
    cases q : BT.of n with
    | none => rw [q] at e; cases e
    | some b =>
      rw [q] at e
      cases q2 : tysOf cs with
      | none => have e : (tysOf cs).map _ = some us := e; rw [q2] at e; cases e
      | some bs =>
        have e : (tysOf cs).map _ = some us := e
        rw [q2] at e
        cases e
        obtain ⟨h1, h2⟩ := tysOf_ok t q2
        cases r
        refine ⟨fun u hu => ?_, ?_⟩
        · rcases List.mem_cons.mp hu with rfl | hu
          · exact BT.of_ne q
          · exact h1 u hu
        · rw [BT.of_nm q]
          exact .cons (.ty _) h2
  | .non :: _, _, _, .cons _ _, e => by cases e
  | .bl _ :: _, _, _, .cons _ _, e => by cases e
  | .int _ :: _, _, _, .cons _ _, e => by cases e
  | .str _ :: _, _, _, .cons _ _, e => by cases e
  | .tup _ :: _, _, _, .cons _ _, e => by cases e
  | .lst _ :: _, _, _, .cons _ _, e => by cases e
  | .scr _ :: _, _, _, .cons _ _, e => by cases e
  | .own _ :: _, _, _, .cons _ _, e => by cases e
  | .dic _ :: _, _, _, .cons _ _, e => by cases e
  | .don _ :: _, _, _, .cons _ _, e => by cases e
  | .ins _ _ :: _, _, _, .cons _ _, e => by cases e
  | .cel _ :: _, _, _, .cons _ _, e => by cases e
  | .cls _ :: _, _, _, .cons _ _, e => by cases e
theorem kitAny_of {K : PySem.W.Frag} {t : BT} : ∀ {us : List BT}, (∀ u ∈ us, u ≠ .non) → PySem.W.kitAny K (.type t.nm) (us.map fun u => .type u.nm) = some (us.any (subT t))
  | [], _ => rfl
  | u :: us, h => by
    have h1 : PySem.W.kitOne K (.type t.nm) (.type u.nm) = some (subT t u) := kit_ty (kit_sub (h u (by simp)))
    have h2 := kitAny_of (K := K) (t := t) (us := us) fun v hv => h v (List.mem_cons_of_mem _ hv)
    rw [List.map_cons, List.any_cons]
    exact kitAny_cons h1 (fun e => by rw [e, Bool.false_or]; exact h2) (fun e => by rw [e, Bool.true_or])
theorem vals_ty {us : List BT} : ∀ {vs : List V} {ws : List Value}, Paired ClsV vs (us.map fun u => .type u.nm) → Vals vs ws → ws = us.map fun u => .type u.nm := fun a b => ClsV.all a b
abbrev rIsiB (K : PySem.W.Frag) : List V → Hp → VK → Prop := fun xs H Q => rIsi K xs H Q ∨ rIsiT K xs H Q ∨ rIsiK K xs H Q
theorem call_isiB : CallR X (.builtin "isinstance") (rIsiB X.K) := fun pins s σ H xs us Q I r h => h.elim (call_isi pins s σ H xs us Q I r) fun h => h.elim (call_isiT pins s σ H xs us Q I r) (call_isiK pins s σ H xs us Q I r)
theorem sem_isi (hK : X.K = B.K) : CallSem X B bIsi (rIsiB X.K) := by
  intro W h H xs z xs' Q hr rxs e q
  unfold bIsi at e
  split at e
  · rename_i x n
    obtain ⟨v, w, rfl, rv, rw'⟩ := repts2 rxs
    cases q1 : tyN h x with
    | none => rw [q1] at e; cases e
    | some t =>
      rw [q1] at e
      have e : (BT.of n).map _ = some z := e
      cases q2 : BT.of n with
      | none => rw [q2] at e; cases e
      | some u =>
        rw [q2] at e
        cases e
        cases (show Rep B W (.ty n) w from rw')
        refine .inl ⟨v, .ty n, _, .type n, subT t u, rfl, .ty n, tyN_ok hK hr rv q1, ?_, q W H _ (.refl W H) (Rep.bl _).hand⟩
        rw [BT.of_nm q2]
        exact kit_ty (kit_sub (BT.of_ne q2))
  · rename_i x cs
    obtain ⟨v, w, rfl, rv, rw'⟩ := repts2 rxs
    cases q1 : tyN h x with
    | none => rw [q1] at e; cases e
    | some t =>
      rw [q1] at e
      have e : (tysOf cs).map _ = some z := e
      cases q2 : tysOf cs with
      | none => rw [q2] at e; cases e
      | some us =>
        rw [q2] at e
        cases e
        cases (show Rep B W (.tup cs) w from rw') with
        | tup h1 r =>
          obtain ⟨k1, k2⟩ := tysOf_ok r q2
          rcases h1 with h1 | ⟨o, its, m, h1, h2, h3, h4, h5⟩
          · exact .inr (.inl ⟨v, _, _, _, us.map fun u => .type u.nm, _, rfl, hr.agree _ _ h1, k2, tyN_ok hK hr rv q1, kitAny_of k1, q W H _ (.refl W H) (Rep.bl _).hand⟩)
          · have e5 := vals_ty k2 h5
            obtain ⟨oc, od, dt, sl⟩ := o
            simp only at h2 h3
            subst h2 h3
            refine .inr (.inr ⟨v, _, od, us.map fun u => .type u.nm, m, sl, _, _, rfl, ?_, tyN_ok hK hr rv q1, kitAny_of k1, q W H _ (.refl W H) (Rep.bl _).hand⟩)
            rw [hK, h1, ← e5]
  · cases e
/-- a built-in type's name -/
theorem sim_ty {N : Ent} {WX : L2.WX} {x : Str} {T : String} {pos : Pos} (hg : Gl X x) (hm : X.mg x = none) (hv : bootBuiltins x = some (.type T)) (hn : x ≠ "__name__") (hdb : (x == ("__debug__" : Str)) = false) : SimE X B N WX (.Name x pos) (eC (.ty T)) :=
  sim_c (pe_bltn (v := .ty T) hg hm hv rfl hn hdb) fun _ => .ty T
end
end Lp

set_option Elab.async false
set_option linter.all false
set_option maxRecDepth 100000
set_option maxHeartbeats 4000000
/-! Lp11: the operators, each by one rule; names of the module. -/
namespace Lp
open PySem PySem.Spec PyProof.Rows L2

/-- ascending by the list of ints -/
def intsOf (xs : List PV) : Option (List Int) := xs.mapM fun x => match x with
  | .int i => some i
  | _ => none
theorem ints_reps {B : Bs} {W : Wd} : ∀ {ys : List PV} {vs : List V} {bs : List Int}, Reps B W ys vs → intsOf ys = some bs → vs = bs.map V.int
  | _, _, bs, .nil, e => by
    simp [intsOf] at e; subst e; rfl
  | x :: xs, _, bs, .cons (v := v) r t, e => by
    unfold intsOf at e
    rw [List.mapM_cons] at e
    cases x with
    | int i =>
      cases q2 : xs.mapM (fun x => match x with | PV.int i => some i | _ => none) with
      | none => rw [q2] at e; cases e
      | some zs =>
        rw [q2] at e
        cases e
        rw [ints_reps t (show intsOf xs = some zs from q2)]
        cases r
        rfl
    | _ => cases e
def fTupI (g : List Int → List Int → Bool) : AH → PV → PV → Option PV := fun _ x y => match x, y with
  | .tup xs, .tup ys => match intsOf xs, intsOf ys with
    | some ns, some ms => some (.bl (g ns ms))
    | _, _ => none
  | _, _ => none
def fRepT : AH → PV → PV → Option PV := fun _ x y => match x, y with
  | .tup xs, .int k => if xs ≠ [] ∧ 2 ≤ k ∧ k ≤ 1000 ∧ xs.length ≤ 1000 then some (.tup (List.replicate k.toNat xs).flatten) else none
  | _, _ => none
section
variable {X : Cx} {B : Bs}
theorem sem_tupLt (hK : X.K = B.K) : OpSem X B (fTupI HT.lexLt) (rLtT X.K) := by
  intro W h H x y z x' y' Q hr rx ry e q
  unfold fTupI at e
  split at e
  · rename_i xs ys
    split at e
    · rename_i ns ms e1 e2
      cases e
      obtain ⟨a, vs, rfl, h1, r1⟩ := tup_ok hK hr (show Rep B W (.tup xs) x' from rx)
      obtain ⟨b, us, rfl, h2, r2⟩ := tup_ok hK hr (show Rep B W (.tup ys) y' from ry)
      rw [ints_reps r1 e1] at h1
      rw [ints_reps r2 e2] at h2
      exact ⟨a, b, ns, ms, rfl, rfl, h1, h2, q W H _ (.refl W H) (Rep.bl _).hand⟩
    · cases e
  · cases e
theorem sem_repT (hK : X.K = B.K) : OpSem X B fRepT (rRepT X.K) := by
  intro W h H x y z x' y' Q hr rx ry e q
  unfold fRepT at e
  split at e
  · rename_i xs k
    split at e
    · rename_i hz
      cases e
      obtain ⟨a, vs, rfl, h1, r1⟩ := tup_ok hK hr (show Rep B W (.tup xs) x' from rx)
      have hl := r1.length
      have l2 : vs.length ≤ 1000 := by omega
      refine ⟨a, k, vs, rfl, rep_int ry, h1, fun z => hz.1 (by rw [z] at hl; exact List.length_eq_zero_iff.mp hl), hz.2.1, hz.2.2.1, l2, fun p hp => ?_⟩
      refine q _ _ _ (.new hp ?_) (rep_tup_new (hr.fnone hp) (r1.rep k.toNat)).hand
      show (List.replicate k.toNat vs).flatten.length ≤ sizeLine
      rw [flat_len]
      have h3 : k.toNat ≤ 1000 := by have := hz.2.2.1; omega
      have h4 : vs.length * k.toNat ≤ 1000 * 1000 := Nat.mul_le_mul l2 h3
      have h5 : 1000 * 1000 ≤ sizeLine := by decide
      omega
    · cases e
  · cases e
def orR (r r' : R2) : R2 := fun x y H Q => r x y H Q ∨ r' x y H Q
def fAdd : AH → PV → PV → Option PV := fun h x y => match x, y with
  | .int i, .int j => some (.int (i + j))
  | .str _, _ => fAddS h x y
  | .tup _, _ => fAddT h x y
  | _, _ => fAddL h x y
def rAdd (K : PySem.W.Frag) : R2 := fun x y H Q => rI0 (fun i j => .int (i + j)) x y H Q ∨ (∃ i j, x = .str i ∧ y = .str j ∧ i.length + j.length ≤ sizeLine ∧ Q (.str (i ++ j)) H) ∨ rCatA K x y H Q ∨ rCat x y H Q
theorem opAdd : OpR X (binaryOp .Add) (rAdd X.K) := op_add.or (op_add_str.or (op_catA.or op_cat))
theorem semAdd (hK : X.K = B.K) : OpSem X B fAdd (rAdd X.K) := by
  intro W h H x y z x' y' Q hr rx ry e q
  unfold fAdd at e
  split at e
  · exact .inl (sem_I0 (X := X) (f := fun i j => i + j) W h H _ _ z x' y' Q hr rx ry e q)
  · exact .inr (.inl (sem_addS (X := X) (B := B) W h H _ _ z x' y' Q hr rx ry e q))
  · exact .inr (.inr (.inl (sem_addT hK W h H _ _ z x' y' Q hr rx ry e q)))
  · exact .inr (.inr (.inr (sem_addL (X := X) W h H _ _ z x' y' Q hr rx ry e q)))
def fSub : AH → PV → PV → Option PV := fI fun i j => some (i - j)
def fMul : AH → PV → PV → Option PV := fun h x y => match x, y with
  | .int _, _ => fI mulG h x y
  | .tup _, _ => fRepT h x y
  | _, _ => fRepL h x y
def rMul (K : PySem.W.Frag) : R2 := fun x y H Q => rI CMul (fun i j => .int (i * j)) x y H Q ∨ rRepT K x y H Q ∨ rRep x y H Q
theorem opMul : OpR X (binaryOp .Mult) (rMul X.K) := op_mul.or (op_repT.or op_rep)
theorem semMul (hK : X.K = B.K) : OpSem X B fMul (rMul X.K) := by
  intro W h H x y z x' y' Q hr rx ry e q
  unfold fMul at e
  split at e
  · exact .inl (sem_I (X := X) mulG_ok W h H _ _ z x' y' Q hr rx ry e q)
  · exact .inr (.inl (sem_repT hK W h H _ _ z x' y' Q hr rx ry e q))
  · exact .inr (.inr (sem_repL (X := X) W h H _ _ z x' y' Q hr rx ry e q))
def fFdv : AH → PV → PV → Option PV := fI fdivG
def fMod : AH → PV → PV → Option PV := fI modG
def fPow : AH → PV → PV → Option PV := fI powG
def fLt : AH → PV → PV → Option PV := fun h x y => match x, y with
  | .int i, .int j => some (.bl (decide (i < j)))
  | _, _ => fTupI HT.lexLt h x y
def rLt (K : PySem.W.Frag) : R2 := fun x y H Q => rI0 (fun i j => .bl (decide (i < j))) x y H Q ∨ rLtT K x y H Q
theorem opLt (hu : X.A.units < cLine) : OpR X (compareOp .Lt) (rLt X.K) := op_lt.or (op_ltT hu)
theorem semLt (hK : X.K = B.K) : OpSem X B fLt (rLt X.K) := by
  intro W h H x y z x' y' Q hr rx ry e q
  unfold fLt at e
  split at e
  · exact .inl (sem_IB (X := X) (g := fun i j => decide (i < j)) W h H _ _ z x' y' Q hr rx ry e q)
  · exact .inr (sem_tupLt hK W h H _ _ z x' y' Q hr rx ry e q)
def fLe : AH → PV → PV → Option PV := fIB fun i j => decide (i ≤ j)
def fGt : AH → PV → PV → Option PV := fIB fun i j => decide (j < i)
def fGe : AH → PV → PV → Option PV := fIB fun i j => decide (j ≤ i)
end
section
variable {X : Cx} {B : Bs} {N : Ent} {WX : L2.WX} {a b : Expr} {ma mb : ME} {pos : Pos} {k : Nat}
theorem sim_add (hK : X.K = B.K) (ha : SimE X B N WX a ma) (hb : SimE X B N WX b mb) : SimE X B N WX (.BinOp a .Add b pos) (eBin fAdd ma mb) := sim_op opAdd (semAdd hK) ha hb
theorem sim_sub (ha : SimE X B N WX a ma) (hb : SimE X B N WX b mb) : SimE X B N WX (.BinOp a .Sub b pos) (eBin fSub ma mb) := sim_op op_sub (sem_I0 (f := fun i j => i - j)) ha hb
theorem sim_mul (hK : X.K = B.K) (ha : SimE X B N WX a ma) (hb : SimE X B N WX b mb) : SimE X B N WX (.BinOp a .Mult b pos) (eBin fMul ma mb) := sim_op opMul (semMul hK) ha hb
theorem sim_fdv (ha : SimE X B N WX a ma) (hb : SimE X B N WX b mb) : SimE X B N WX (.BinOp a .FloorDiv b pos) (eBin fFdv ma mb) := sim_op op_fdivN (sem_I fdivG_ok) ha hb
theorem sim_mod (ha : SimE X B N WX a ma) (hb : SimE X B N WX b mb) : SimE X B N WX (.BinOp a .Mod b pos) (eBin fMod ma mb) := sim_op op_modN (sem_I (f := fun i j => i.fmod j) modG_ok) ha hb
theorem sim_pow (ha : SimE X B N WX a ma) (hb : SimE X B N WX b mb) : SimE X B N WX (.BinOp a .Pow b pos) (eBin fPow ma mb) := sim_op op_pow (sem_I powG_ok) ha hb
/-- a comparison's rule with its reading -/
structure CmpOk (X : Cx) (B : Bs) (op : CmpOp) (f : AH → PV → PV → Option PV) : Prop where
  ex : ∃ r : R2, OpR X (compareOp op) r ∧ OpSem X B f r
theorem co_eq (hK : X.K = B.K) (hr : Room k X.A) : CmpOk X B .Eq fEq := ⟨_, op_eqD hr.units, sem_eq hK⟩
theorem co_ne (hK : X.K = B.K) (hr : Room k X.A) : CmpOk X B .NotEq fNe := ⟨_, op_neD hr.units, sem_ne hK⟩
theorem co_lt (hK : X.K = B.K) (hr : Room k X.A) : CmpOk X B .Lt fLt := ⟨_, opLt hr.units0, semLt hK⟩
theorem co_le : CmpOk X B .LtE fLe := ⟨_, op_le, sem_IB⟩
theorem co_gt : CmpOk X B .Gt fGt := ⟨_, op_gt, sem_IB⟩
theorem co_ge : CmpOk X B .GtE fGe := ⟨_, op_ge, sem_IB⟩
theorem co_isN : CmpOk X B .Is fIsN := ⟨_, op_isN, sem_isN⟩
theorem co_notN : CmpOk X B .IsNot fNotN := ⟨_, op_notN, sem_notN⟩
theorem co_in (hK : X.K = B.K) (hr : Room k X.A) : CmpOk X B .In fIn := ⟨_, op_in (by have := hr.un; omega), sem_in hK⟩
theorem co_nin (hK : X.K = B.K) (hr : Room k X.A) : CmpOk X B .NotIn fNin := ⟨_, op_nin (by have := hr.un; omega), sem_nin hK⟩
variable {op op' : CmpOp} {f g : AH → PV → PV → Option PV} {c : Expr} {mc : ME}
theorem sim_cm (o : CmpOk X B op f) (ha : SimE X B N WX a ma) (hb : SimE X B N WX b mb) (hm : behindInMarks op b = false) : SimE X B N WX (.Compare a [op] [b] pos) (eBin f ma mb) := by
  obtain ⟨r, h1, h2⟩ := o.ex
  exact sim_cmpO h1 h2 ha hb hm
theorem sim_tcm (o : CmpOk X B op f) (ha : SimE X B N WX a ma) (hb : SimE X B N WX b mb) (hm : behindInMarks op b = false) : SimT X B N WX (.Compare a [op] [b] pos) (bM (eBin f ma mb)) := by
  obtain ⟨r, h1, h2⟩ := o.ex
  exact sim_tcmpO h1 h2 ha hb hm
theorem sim_ch (o : CmpOk X B op f) (o' : CmpOk X B op' g) (ha : SimE X B N WX a ma) (hb : SimE X B N WX b mb) (hc : SimE X B N WX c mc) (hm : lastMarks [op, op'] [b, c] = false) : SimE X B N WX (.Compare a [op, op'] [b, c] pos) (eChain f g ma mb mc) := by
  obtain ⟨r, h1, h2⟩ := o.ex
  obtain ⟨r', h3, h4⟩ := o'.ex
  exact sim_chain h1 h3 h2 h4 ha hb hc hm
theorem sim_tch (o : CmpOk X B op f) (o' : CmpOk X B op' g) (ha : SimE X B N WX a ma) (hb : SimE X B N WX b mb) (hc : SimE X B N WX c mc) (hm : lastMarks [op, op'] [b, c] = false) : SimT X B N WX (.Compare a [op, op'] [b, c] pos) (bM (eChain f g ma mb mc)) := by
  obtain ⟨r, h1, h2⟩ := o.ex
  obtain ⟨r', h3, h4⟩ := o'.ex
  exact sim_tchain h1 h3 h2 h4 ha hb hc hm

/-! built-ins -/
/-- a call of a built-in -/
structure BiOk (X : Cx) (B : Bs) (x : Str) (f : AH → List PV → Option PV) : Prop where
  ex : ∃ (v : Value) (r : List V → Hp → VK → Prop), bootBuiltins x = some v ∧ CallR X v r ∧ CallSem X B f r ∧ ((∃ id, v = .builtin id) ∨ ∃ T, v = .type T)
variable {x : Str} {p : Pos} {e : Expr} {es : List Expr} {ma : MA} {fb : AH → List PV → Option PV}
theorem sim_bi (o : BiOk X B x fb) (hg : Gl X x) (hm : X.mg x = none) (ha : SimA X B N WX (e :: es) ma) (hn : x ≠ "__name__") (hdb : (x == ("__debug__" : Str)) = false)
    (he : starEach (e :: es) X.env = (false, eval e X.env) :: starEach es X.env) (hpl : (backTo pos (starEach es X.env)).any (·.1) = false) : SimE X B N WX (.Call (.Name x p) (e :: es) [] pos) (eCB fb ma) := by
  obtain ⟨v, r, h1, h2, h3, h4⟩ := o.ex
  rcases h4 with ⟨id, rfl⟩ | ⟨T, rfl⟩
  · exact sim_callB h2 h3 hg hm h1 ha hn hdb he hpl
  · exact sim_callTy h2 h3 hg hm h1 ha hn hdb he hpl
theorem boot_all : bootBuiltins "all" = some (.builtin "all") := by decide +kernel
theorem boot_any : bootBuiltins "any" = some (.builtin "any") := by decide +kernel
theorem bi_isi (hK : X.K = B.K) : BiOk X B "isinstance" bIsi := ⟨_, _, PyProof.Rows.boot_isinstance, call_isiB, sem_isi hK, .inl ⟨_, rfl⟩⟩
theorem bi_len (hK : X.K = B.K) : BiOk X B "len" bLen := ⟨_, _, PySem.boot_len, call_len, sem_len hK, .inl ⟨_, rfl⟩⟩
theorem bi_all (hK : X.K = B.K) (hc : X.calm = true) : BiOk X B "all" bAll := ⟨_, _, boot_all, cr_all hc, sem_all hK, .inl ⟨_, rfl⟩⟩
theorem bi_any (hK : X.K = B.K) (hc : X.calm = true) : BiOk X B "any" bAny := ⟨_, _, boot_any, cr_any hc, sem_any hK, .inl ⟨_, rfl⟩⟩
theorem bi_int : BiOk X B "int" bInt := ⟨_, _, PyProof.Rows.boot_int, call_int1, sem_int1, .inr ⟨_, rfl⟩⟩
theorem bi_list (hK : X.K = B.K) : BiOk X B "list" bList := ⟨_, _, PyProof.Rows.boot_list, call_list_of, sem_list hK, .inr ⟨_, rfl⟩⟩
theorem bi_tuple (hK : X.K = B.K) : BiOk X B "tuple" bTuple := ⟨_, _, PyProof.Rows.boot_tuple, call_tuple_of, sem_tuple hK, .inr ⟨_, rfl⟩⟩
end
end Lp

set_option Elab.async false
set_option linter.all false
set_option maxRecDepth 100000
set_option maxHeartbeats 4000000
/-! Lp12: what printed derivations use. -/
namespace Lp
open PySem PySem.Spec PyProof.Rows L2
def sokB (x : Str) : Bool := PyData.strOk x && decide (x.length ≤ sizeLine)
theorem sok_of {x : Str} (h : sokB x = true) : SOk x := by
  obtain ⟨a, b⟩ := Bool.and_eq_true_iff.mp h
  exact ⟨a, of_decide_eq_true b⟩
def kindEq (a b : NameKind) : Bool := match a, b with
  | .local, .local => true
  | .cell, .cell => true
  | .free, .free => true
  | _, _ => false
theorem kindEq_ok {a b : NameKind} (h : kindEq a b = true) : a = b := by cases a <;> cases b <;> first | rfl | cases h
theorem takesWF (X : Cx) (u : Value) (s : Shared) (x : XE X WF u s) : X.xe u s := by
  obtain ⟨a, B, sI, pins, σ, H, cls, d, e, I, nb, up, sky, na, os, ag, w⟩ := x
  exact w.elim
section
variable {X : Cx} {B : Bs} {N : Ent} {WX : L2.WX} {x : Str} {pos : Pos} {v : V} {y : PV}
theorem sim_gl (hg : Gl X x) (h : ∃ u, X.mg x = some u ∧ RelV v u) (rx : ∀ W, Rep B W y v) (hd : (x == ("__debug__" : Str)) = false := by rfl) : SimE X B N WX (.Name x pos) (eC y) := by
  obtain ⟨u, hm, r⟩ := h
  exact sim_c (pe_glob hg hm r hd) rx
end
def blkB (N : List Str) (sc scope : Scope) (own : List (Str × Nat)) : Bool := (match scope.kind with | .function => true | _ => false) && (scope.names.all (fun y => decide (scope.names.lookup y.1 = some y.2)) && (own.all (fun p => decide (N[p.2]? = some p.1)) &&
  (scope.names.all (fun y => !decide (y.2 = .free) || (decide (sc.names.lookup y.1 = some .cell) || decide (sc.names.lookup y.1 = some .free))) && scope.names.all fun y => !(decide (y.2 = .local) || decide (y.2 = .cell)) || (decide (y.1 ∈ own.map (·.1)) || !decide (y.1 ∈ N)))))
theorem blk_of {N : List Str} {sc scope : Scope} {own : List (Str × Nat)} (h : blkB N sc scope own = true) : BlkOk N sc scope own := by
  unfold blkB at h
  simp only [Bool.and_eq_true, List.all_eq_true, Bool.or_eq_true, Bool.not_eq_true', decide_eq_true_eq, decide_eq_false_iff_not] at h
  obtain ⟨h1, h2, h3, h4, h5⟩ := h
  refine ⟨?_, h2, h3, fun y hy e => ?_, fun y hy e => ?_⟩
  · split at h1
    · assumption
    · cases h1
  · exact (h4 y hy).resolve_left fun z => z e
  · exact (h5 y hy).resolve_left fun z => by rcases e with e | e <;> rw [e] at z <;> simp at z
end Lp

set_option Elab.async false
set_option linter.all false
set_option maxRecDepth 100000
set_option maxHeartbeats 4000000
/-! Lp13: a law's end. -/
namespace Lp
open PySem PySem.Spec PyProof.Rows L2
theorem reps_ints {B : Bs} {W : Wd} : ∀ ns : List Int, Reps B W (ns.map PV.int) (ns.map V.int)
  | [] => .nil
  | n :: ns => .cons (.int n) (reps_ints ns)
theorem law_sp {B : Bs} {m : MF} {ns : List Int} {H : Hp} {a : Addr} (hO : Only H) (hl : ns.length ≤ sizeLine) (hS : SqL B.K H a (ns.map V.int)) (h : ∃ h', m [.scr (ns.map .int)] [] = .ok (.bl true) h') :
    spF B 1 m [.ref a] H (fun v _ => v = .bl true) fun _ _ _ => False := by
  refine ⟨⟨fun b => if b = a then H a else none, []⟩, [], [.scr (ns.map .int)], ⟨fun b o e => ?_, rfl, List.nodup_nil, fun _ z => (by cases z), fun b o e => ?_, fun n c b e => (by cases e)⟩, .cons (.scr ?_ (reps_ints ns)) .nil, rfl, ?_⟩
  · by_cases hb : b = a
    · subst hb
      have e : (if b = b then H b else none) = some o := e
      rw [if_pos rfl] at e
      exact e
    · have e : (if b = a then H a else none) = some o := e
      rw [if_neg hb] at e; cases e
  · rcases hO b with q | ⟨ob, xs, q⟩
    · rw [e] at q; cases q
    · rw [e] at q; cases q; trivial
  · rcases hS with (q | ⟨o, q⟩) | q
    · rcases hO a with z | ⟨ob, xs, z⟩
      · rw [z] at q; cases q
      · rw [z] at q; cases q
    · exact .inl ⟨⟨o, by show (if a = a then H a else none) = _; rw [if_pos rfl]; exact q⟩, by rw [List.length_map]; exact hl⟩
    · exact .inr q
  · obtain ⟨h', e⟩ := h
    rw [e]
    intro W' H' v' _ _ rv
    cases rv
    rfl
theorem fn_bad {P : Program} {w : World} {K : PySem.W.Frag} {mg : Str → Option Value} {base : Heap} {x qual : Str} {params : Arguments} {body : List Stmt} {scope : Scope} {dvs : List V} {kws : List (Str × V)} {f : Addr} {fd : FuncData} {names ps : List Str} {k n : Nat} {B : Bs}
    (F : FunD K x qual params body scope dvs kws f fd) (S : FnScope names ps scope) : FnOk P w K mg base (L2.CX P w) (k + 1) f fd ps (spF B n fun _ _ => .bad) :=
  F.ok S (fun vs H Q E ⟨_, _, _, _, _, _, z⟩ => z.elim) fun _ _ _ _ _ _ _ _ _ ⟨_, _, _, _, _, _, z⟩ => z.elim
/-- the law's promise, of its reading -/
theorem walkW {l : PySem.W.OpenLaw} {n k : Nat} {q : Program} {loose : List Str} {XP : (Str → Option Value) → Heap → Prop} {YP : World → Heap → Prop} {d : DefRec} {x : Str} {fa : List He.Fa} {fn : List He.DefD} {B : PySem.W.Frag → Bs} {m : MF}
    (hn : l.most = some n) (hn2 : n ≤ sizeLine) (hdf : d.params.defaults = []) (hr : Room k callerA) (hY : ∀ w h, YP w h → ∃ K : PySem.W.Frag, K.In h ∧ He.SaysD fa fn K) (hB : ∀ K, (B K).K = K)
    (F : ∀ (w : World) (mg : Str → Option Value) (f : Addr) (h : Heap) (K : PySem.W.Frag), K.In h → h.Ns mainGlobals mg → mg d.name = some (.ref f) → He.SaysD fa fn K →
      ∃ fd : FuncData, (∀ (s : Shared) (u : Value), BindsTo s fd ⟨[u], []⟩ [(x, u)]) ∧ ∀ base : Heap, K.In base → base.Ns mainGlobals mg → FnOk l.prog w K mg base (L2.CX l.prog w) k f fd [x] (spF (B K) 1 m))
    (law : ∀ ns : List Int, ns.length ≤ n → (∀ z ∈ ns, Builtin.Int.intBits z ≤ 1048576) → ∃ h', m [.scr (ns.map .int)] [] = .ok (.bl true) h') :
    PySem.W.WalkO q loose XP YP l.row.toRowW d [] (fun f vs => PySem.call f vs) := by
  refine Att.attach_callB hn hdf fun w s0 s1 mg mb f o pm cd doc a vs ns G Y _ _ _ hmg hobj hints hlen hbits hg => ?_
  obtain ⟨K, KX, c⟩ := hY w _ Y
  obtain ⟨fd, hb, hF⟩ := F w mg f _ K KX G.T.g hmg c
  refine law_call (sp := spF (B K) 1 m) KX G.T.g G.T.b G.T.builtins G.T.nolimit hg hobj hints (Nat.le_trans hlen hn2) hr hF hb (fun H hO hS => ?_) fun H e s' z => ?_
  · exact law_sp hO (Nat.le_trans hlen hn2) (by rw [hB]; exact hS) (law ns hlen hbits)
  · obtain ⟨_, _, _, _, _, _, _, _, _, _, _, _, z⟩ := z
    exact z
end Lp

set_option Elab.async false
set_option linter.all false
set_option maxRecDepth 100000
set_option maxHeartbeats 4000000
/-! Lq1: what a reading does, step by step. -/
namespace Lp
open PySem PySem.Spec PyProof.Rows L2
section
variable {τ α β : Type} {P : α → τ → Prop} {E : PV → τ → Prop}
theorem p_ok {a : α} {s : τ} (h : P a s) : (R.ok a s).post P E := h
theorem p_exc {x : PV} {s : τ} (h : E x s) : (R.exc x s : R τ α).post P E := h
theorem p_bind {r : R τ α} {f : α → τ → R τ β} {Q : β → τ → Prop} (h : r.post (fun a s => (f a s).post Q E) E) : (r.bind f).post Q E := by
  cases r with
  | ok a s => exact h
  | exc x s => exact h
  | bad => exact h
theorem p_eq {r : R τ α} {a : α} {s : τ} (e : r = .ok a s) (h : P a s) : r.post P E := by rw [e]; exact h
theorem p_mono {r : R τ α} {P' : α → τ → Prop} {E' : PV → τ → Prop} (h : r.post P' E') (k : ∀ a s, P' a s → P a s) (k' : ∀ x s, E' x s → E x s) : r.post P E := R.post_mono h k k'
/-- .. that raises nothing -/
def NE {τ : Type} : PV → τ → Prop := fun _ _ => False
theorem p_spec {r : R τ α} {P' : α → τ → Prop} (h : r.post P' NE) (k : ∀ a s, P' a s → P a s) : r.post P E := R.post_mono h k fun _ _ z => z.elim
theorem p_ex {r : R τ α} (h : r.post P NE) : ∃ a s, r = .ok a s ∧ P a s := by
  cases r with
  | ok a s => exact ⟨a, s, rfl, h⟩
  | exc x s => exact h.elim
  | bad => exact h.elim
theorem p_and {r : R τ α} {P' : α → τ → Prop} (h : r.post P NE) (h' : r.post P' NE) : r.post (fun a s => P a s ∧ P' a s) NE := by
  cases r with
  | ok a s => exact ⟨h, h'⟩
  | exc x s => exact h.elim
  | bad => exact h.elim
end
/-- a branch -/
def br0 (c : Bool) (A C : Prop) : Prop := match c with
  | true => A
  | false => C
@[irreducible] def br (c : Bool) (A C : Prop) : Prop := br0 c A C
theorem br_eq : br = br0 := by
  funext c A C
  unfold br
  rfl
theorem p_br {c : Bool} {A C : Prop} (h1 : c = true → A) (h2 : c = false → C) : br c A C := by
  rw [br_eq]
  cases c
  · exact h2 rfl
  · exact h1 rfl
theorem p_brt {c : Bool} {A C : Prop} (e : c = true) (h : A) : br c A C := by rw [br_eq]; subst e; exact h
theorem p_brf {c : Bool} {A C : Prop} (e : c = false) (h : C) : br c A C := by rw [br_eq]; subst e; exact h
section
variable {P : PV → S → Prop} {PB : Bool → S → Prop} {PA : List PV → S → Prop} {PO : Option Int → S → Prop} {PF : Fl → S → Prop} {E : PV → S → Prop} {s : S}
variable {a b c m : ME} {ma : MA} {ta tb : S → R S Bool} {f g : AH → PV → PV → Option PV} {v : PV} {i : Nat}
theorem p0_var (e : s.e[i]? = some (some v)) (h : P v s) : (eVar i s).post P E := by unfold eVar; rw [e]; exact h
theorem p0_c (h : P v s) : (eC v s).post P E := h
theorem p0_bin (h : (a s).post (fun x s1 => (b s1).post (fun y s2 => ∃ z, f s2.h x y = some z ∧ P z s2) E) E) : (eBin f a b s).post P E :=
  p_bind (p_mono h (fun x s1 q => p_bind (p_mono q (fun y s2 ⟨z, e, q⟩ => by simp only [e]; exact q) fun _ _ z => z)) fun _ _ z => z)
theorem p0_nil (h : PA [] s) : (aNil s).post PA E := h
theorem p0_cons (h : (a s).post (fun v s1 => (ma s1).post (fun vs s2 => PA (v :: vs) s2) E) E) : (aCons a ma s).post PA E :=
  p_bind (p_mono h (fun x s1 q => p_bind q) fun _ _ z => z)
theorem p0_star (h : (a s).post (fun v s1 => ∃ xs, asS s1.h v = some xs ∧ (ma s1).post (fun vs s2 => PA (xs ++ vs) s2) E) E) : (aStar a ma s).post PA E :=
  p_bind (p_mono h (fun x s1 ⟨xs, e, q⟩ => by simp only [e]; exact p_bind q) fun _ _ z => z)
theorem p0_tup (h : (ma s).post (fun vs s1 => (allSh vs = true ∧ vs.length ≤ 16777216) ∧ P (.tup vs) s1) E) : (eTup ma s).post P E :=
  p_bind (p_mono h (fun vs s1 ⟨⟨h1, h2⟩, q⟩ => by rw [h1, decide_eq_true h2]; exact q) fun _ _ z => z)
theorem p0_lst (h : (ma s).post (fun vs s1 => (allSh vs = true ∧ vs.length ≤ 16777216) ∧ P (.lst vs) s1) E) : (eLst ma s).post P E :=
  p_bind (p_mono h (fun vs s1 ⟨⟨h1, h2⟩, q⟩ => by rw [h1, decide_eq_true h2]; exact q) fun _ _ z => z)
theorem p0_nlst (h : (ma s).post (fun vs s1 => (allSh vs = true ∧ vs.length ≤ sizeLine) ∧ PA vs s1) E) : (nLst ma s).post PA E :=
  p_bind (p_mono h (fun vs s1 ⟨h1, q⟩ => by simp only [if_pos h1]; exact q) fun _ _ z => z)
theorem p0_sh {mn : S → R S (List PV)} (h : (mn s).post (fun xs s1 => P (.lst xs) s1) E) : (shN mn s).post P E := p_bind h
theorem p0_cel {mn : S → R S (List PV)} (h : (mn s).post (fun xs s1 => P (.cel s1.h.length) ⟨s1.e, s1.h ++ [some (.lst xs)]⟩) E) : (eCel mn s).post P E := p_bind h
theorem p0_cb {fb : AH → List PV → Option PV} (h : (ma s).post (fun vs s1 => ∃ z, fb s1.h vs = some z ∧ P z s1) E) : (eCB fb ma s).post P E :=
  p_bind (p_mono h (fun vs s1 ⟨z, e, q⟩ => by simp only [e]; exact q) fun _ _ z => z)
theorem p0_chain (h : (a s).post (fun x s1 => (b s1).post (fun y s2 => ∃ k, f s2.h x y = some (.bl k) ∧ br0 k ((c s2).post (fun w s3 => ∃ z, g s3.h y w = some z ∧ P z s3) E) (P (.bl false) s2)) E) E) : (eChain f g a b c s).post P E :=
  p_bind (p_mono h (fun x s1 q => p_bind (p_mono q (fun y s2 ⟨k, e, q⟩ => by
    simp only [e]
    cases k with
    | true => exact p_bind (p_mono q (fun w s3 ⟨z, e, q⟩ => by simp only [e]; exact q) fun _ _ z => z)
    | false => exact q) fun _ _ z => z)) fun _ _ z => z)
theorem p0_onone (h : PO none s) : (oNone s).post PO E := h
theorem p0_osome (h : (a s).post (fun v s1 => ∃ i, v = .int i ∧ PO (some i) s1) E) : (oSome a s).post PO E :=
  p_bind (p_mono h (fun v s1 ⟨i, e, q⟩ => by subst e; exact q) fun _ _ z => z)
theorem p0_sl {lo hi : S → R S (Option Int)} (h : (a s).post (fun v s1 => (lo s1).post (fun l s2 => (hi s2).post (fun u s3 => ∃ z, fSl s3.h v l u = some z ∧ P z s3) E) E) E) : (eSl a lo hi s).post P E :=
  p_bind (p_mono h (fun x s1 q => p_bind (p_mono q (fun y s2 q => p_bind (p_mono q (fun u s3 ⟨z, e, q⟩ => by simp only [e]; exact q) fun _ _ z => z)) fun _ _ z => z)) fun _ _ z => z)
theorem p0_callH {n : Nat} {mf : MF} {vs : List PV} (h : (vs.length = n ∧ allSh vs = true) ∧ (mf vs s.h).post (fun v h => P v ⟨s.e, h⟩) (fun x h => E x ⟨s.e, h⟩)) : (callH n mf vs s).post P E := by
  unfold callH
  rw [if_pos h.1]
  unfold lift
  have q := h.2
  split <;> rename_i e <;> rw [e] at q <;> exact q
theorem p0_call {n : Nat} {mf : MF} (h : (ma s).post (fun vs s1 => (vs.length = n ∧ allSh vs = true) ∧ (mf vs s1.h).post (fun v h => P v ⟨s1.e, h⟩) (fun x h => E x ⟨s1.e, h⟩)) E) : (eCall n mf ma s).post P E :=
  p_bind (p_mono h (fun vs s1 q => p0_callH q) fun _ _ z => z)
theorem p0_callK {n0 nk n : Nat} {ix : List Nat} {mf : MF} {mk : MA} (h : (ma s).post (fun vs s1 => (mk s1).post (fun zs s2 => ((vs.length = n0 ∧ zs.length = nk) ∧ allSh vs = true ∧ allSh zs = true) ∧ ((pick ix (vs ++ zs)).length = n ∧ allSh (pick ix (vs ++ zs)) = true) ∧
    (mf (pick ix (vs ++ zs)) s2.h).post (fun v h => P v ⟨s2.e, h⟩) (fun x h => E x ⟨s2.e, h⟩)) E) E) : (eCallK n0 nk ix n mf ma mk s).post P E :=
  p_bind (p_mono h (fun vs s1 q => p_bind (p_mono q (fun zs s2 q => by simp only [if_pos q.1]; exact p0_callH q.2) fun _ _ z => z)) fun _ _ z => z)
theorem p_if {k : Nat} : True := trivial
theorem p0_andV (h : (a s).post (fun v s1 => ∃ k, v = .bl k ∧ br0 k ((b s1).post P E) (P (.bl false) s1)) E) : (andV a b s).post P E :=
  p_bind (p_mono h (fun v s1 ⟨k, e, q⟩ => by subst e; cases k <;> exact q) fun _ _ z => z)
theorem p0_orV (h : (a s).post (fun v s1 => ∃ k, v = .bl k ∧ br0 k (P (.bl true) s1) ((b s1).post P E)) E) : (orV a b s).post P E :=
  p_bind (p_mono h (fun v s1 ⟨k, e, q⟩ => by subst e; cases k <;> exact q) fun _ _ z => z)
theorem p0_notV (h : (a s).post (fun v s1 => ∃ k, v = .bl k ∧ P (.bl (!k)) s1) E) : (notV a s).post P E :=
  p_bind (p_mono h (fun v s1 ⟨k, e, q⟩ => by subst e; exact q) fun _ _ z => z)
theorem p0_ifM (h : (ta s).post (fun k s1 => br0 k ((a s1).post P E) ((b s1).post P E)) E) : (ifM ta a b s).post P E :=
  p_bind (p_mono h (fun k s1 q => by cases k <;> exact q) fun _ _ z => z)
theorem p0_tM (h : (a s).post (fun v s1 => ∃ k, tru s1.h v = some k ∧ PB k s1) E) : (tM a s).post PB E :=
  p_bind (p_mono h (fun v s1 ⟨k, e, q⟩ => by simp only [e]; exact q) fun _ _ z => z)
theorem p0_bM (h : (a s).post (fun v s1 => ∃ k, v = .bl k ∧ PB k s1) E) : (bM a s).post PB E :=
  p_bind (p_mono h (fun v s1 ⟨k, e, q⟩ => by subst e; exact q) fun _ _ z => z)
theorem p0_blM (h : (ta s).post (fun k s1 => P (.bl k) s1) E) : (blM ta s).post P E := p_bind h
theorem p0_andM (h : (ta s).post (fun k s1 => br0 k ((tb s1).post PB E) (PB false s1)) E) : (andM ta tb s).post PB E :=
  p_bind (p_mono h (fun k s1 q => by cases k <;> exact q) fun _ _ z => z)
theorem p0_orM (h : (ta s).post (fun k s1 => br0 k (PB true s1) ((tb s1).post PB E)) E) : (orM ta tb s).post PB E :=
  p_bind (p_mono h (fun k s1 q => by cases k <;> exact q) fun _ _ z => z)
theorem p0_notM (h : (ta s).post (fun k s1 => PB (!k) s1) E) : (notM ta s).post PB E := p_bind h
theorem p0_ms {fm : AH → Str → List PV → Option PV} (h : (a s).post (fun o s1 => ∃ x, o = .str x ∧ (ma s1).post (fun vs s2 => ∃ z, fm s2.h x vs = some z ∧ P z s2) E) E) : (eMS fm a ma s).post P E :=
  p_bind (p_mono h (fun o s1 ⟨x, e, q⟩ => by subst e; exact p_bind (p_mono q (fun vs s2 ⟨z, e, q⟩ => by simp only [e]; exact q) fun _ _ z => z)) fun _ _ z => z)
/-! statements -/
variable {x y : MS}
theorem p0_snil (h : PF .nx s) : (sNil s).post PF E := h
theorem p0_seq (h : (x s).post (fun fl s1 => match fl with | .nx => (y s1).post PF E | fl => PF fl s1) E) : (sSeq x y s).post PF E :=
  p_bind (p_mono h (fun fl s1 q => by cases fl <;> exact q) fun _ _ z => z)
theorem p0_sexpr (h : (a s).post (fun _ s1 => PF .nx s1) E) : (sExpr a s).post PF E := p_bind h
theorem p0_ret (h : (a s).post (fun v s1 => isOwn v = false ∧ PF (.rt v) s1) E) : (sRet a s).post PF E :=
  p_bind (p_mono h (fun v s1 ⟨e, q⟩ => by rw [e]; exact q) fun _ _ z => z)
theorem p0_retN (h : PF (.rt .non) s) : (sRetN s).post PF E := h
theorem p0_sif (h : (ta s).post (fun k s1 => br0 k ((x s1).post PF E) ((y s1).post PF E)) E) : (sIf ta x y s).post PF E :=
  p_bind (p_mono h (fun k s1 q => by cases k <;> exact q) fun _ _ z => z)
theorem p0_asg (h : (a s).post (fun v s1 => isOwn v = false ∧ PF .nx ⟨s1.e.set i (some v), s1.h⟩) E) : (sAsg i a s).post PF E :=
  p_bind (p_mono h (fun v s1 ⟨e, q⟩ => by rw [e]; exact q) fun _ _ z => z)
theorem p0_asgN {mn : S → R S (List PV)} (h : (mn s).post (fun v s1 => PF .nx ⟨s1.e.set i (some (.own v)), s1.h⟩) E) : (sAsgN i mn s).post PF E := p_bind h
theorem p0_asgT {t : Tg} (h : (a s).post (fun v s1 => isOwn v = false ∧ ∃ e1, bindT t v s1.e = some e1 ∧ PF .nx ⟨e1, s1.h⟩) E) : (sAsgT t a s).post PF E :=
  p_bind (p_mono h (fun v s1 ⟨e, e1, e2, q⟩ => by simp only [e2, e]; exact q) fun _ _ z => z)
theorem p0_par {j : Nat} (h : (ma s).post (fun vs s1 => ∃ v w, vs = [v, w] ∧ (isOwn v = false ∧ isOwn w = false) ∧ PF .nx ⟨(s1.e.set i (some v)).set j (some w), s1.h⟩) E) : (sPar i j ma s).post PF E :=
  p_bind (p_mono h (fun vs s1 ⟨v, w, e, ⟨e1, e2⟩, q⟩ => by subst e; simp only [e1, e2]; exact q) fun _ _ z => z)
theorem p0_setC (h : (a s).post (fun v s1 => (b s1).post (fun o s2 => (c s2).post (fun k s3 => ∃ n xs ys, o = .cel n ∧ cellL s3.h n = some xs ∧ setL xs k v = some ys ∧ PF .nx ⟨s3.e, s3.h.set n (some (.lst ys))⟩) E) E) E) : (sSetC a b c s).post PF E :=
  p_bind (p_mono h (fun v s1 q => p_bind (p_mono q (fun o s2 q2 => p_bind (p_mono q2 (fun k s3 ⟨n, xs, ys, e1, e2, e3, q3⟩ => by subst e1; simp only [celN, e2, e3]; exact q3) fun _ _ z => z)) fun _ _ z => z)) fun _ _ z => z)
theorem p_mkF {k : Nat} {mb : MS} {xs : List PV} {h : AH} (e0 : List (Option PV)) (he : xs.map some ++ List.replicate k none = e0) {Q : PV → AH → Prop} {E : PV → AH → Prop} (q : (mb ⟨e0, h⟩).post (fun fl s => match fl with
    | .rt v => Q v s.h
    | .nx => Q .non s.h
    | _ => False) (fun x s => E x s.h)) : (mkF k mb xs h).post Q E := by
  subst he
  unfold mkF
  cases e : mb ⟨xs.map some ++ List.replicate k none, h⟩ with
  | ok fl s =>
    rw [e] at q
    cases fl <;> exact q
  | exc x s => rw [e] at q; exact q
  | bad => rw [e] at q; exact q
/-! walks -/
theorem still_w {h : AH} {r : Sr} (hr : r.w = []) : stillS h r := fun p hp => by rw [hr] at hp; cases hp
theorem still_nil {h : AH} {xs : List PV} {o : Bool} : stillS h ⟨xs, [], o⟩ := fun _ hp => by cases hp
/-- a walk over what does not change, by an invariant -/
theorem p_loop {xs : List PV} {t : Tg} (I : Nat → S → Prop) (h0 : I 0 s) (hs : ∀ (j : Nat) (v : PV) (s : S), xs[j]? = some v → I j s → ∃ e1, bindT t v s.e = some e1 ∧ (x ⟨e1, s.h⟩).post (fun fl s' => match fl with
    | .nx => I (j + 1) s'
    | .ct => I (j + 1) s'
    | .bk => PF .nx s'
    | .rt v => PF (.rt v) s') E) (hn : ∀ s, I xs.length s → PF .nx s) {o : Bool} : (loopF ⟨xs, [], o⟩ t x xs s).post PF E := by
  have go : ∀ (ys : List PV) (r : Sr) (j : Nat) (s : S), r.w = [] → (∀ k, ys[k]? = xs[j + k]?) → j + ys.length = xs.length → I j s → (loopF r t x ys s).post PF E := by
    intro ys
    induction ys with
    | nil =>
      intro r j s hr hy hl hI
      unfold loopF
      rw [if_pos (still_w hr)]
      exact hn s (by rw [← hl]; exact hI)
    | cons y ys ih =>
      intro r j s hr hy hl hI
      unfold loopF
      rw [if_pos (still_w hr)]
      obtain ⟨e1, eb, q⟩ := hs j y s (by have := hy 0; simpa using this.symm) hI
      rw [eb]
      refine p_bind (p_mono q (fun fl s' q => ?_) fun _ _ z => z)
      have nxt : I (j + 1) s' → (loopF r t x ys s').post PF E := fun hI => ih r (j + 1) s' hr (fun k => by have := hy (k + 1); simp only [List.getElem?_cons_succ] at this; rw [this]; congr 1; omega) (by simp only [List.length_cons] at hl; omega) hI
      cases fl with
      | nx => exact nxt q
      | ct => exact nxt q
      | bk => exact q
      | rt v => exact q
  exact go xs _ 0 s rfl (fun k => by simp) (by simp) h0
theorem p0_for {src : S → R S Sr} {t : Tg} (h : (src s).post (fun r s1 => r.w = [] ∧ r.o = false ∧ r.xs.length ≤ sizeLine ∧ (loopF ⟨r.xs, [], false⟩ t x r.xs s1).post PF E) E) : (sFor src t x s).post PF E :=
  p_bind (p_mono h (fun r s1 ⟨e1, e2, e3, q⟩ => by
    obtain ⟨xs, w, o⟩ := r
    simp only at e1 e2 e3 q
    subst e1 e2
    simp only [Bool.false_eq_true, false_or, if_neg (Nat.not_lt.mpr e3)]
    exact q) fun _ _ z => z)
theorem p0_any {m : ME} {PS : Sr → S → Prop} (h : (m s).post (fun v s1 => ∃ r, srcOf s1.h v = some r ∧ PS r s1) E) : (sAny m s).post PS E :=
  p_bind (p_mono h (fun v s1 ⟨z, e, q⟩ => by simp only [e]; exact q) fun _ _ z => z)
/-- a comprehension, by an invariant over what is made so far -/
theorem p0_compN {src : S → R S Sr} {t : Tg} {tt : S → R S Bool} {te : ME} {vs : List Nat}
    (h : (src s).post (fun r s1 => r.w = [] ∧ ∃ I : Nat → List PV → AH → Prop, I 0 [] s1.h ∧ (∀ (j : Nat) (v : PV) (acc : List PV) (h : AH), r.xs[j]? = some v → I j acc h → ∃ e1, bindT t v (wipeE s1.e vs) = some e1 ∧
      (tt ⟨e1, h⟩).post (fun k s2 => br0 k ((te s2).post (fun y s3 => isOwn y = false ∧ wipeE s3.e vs = wipeE s1.e vs ∧ I (j + 1) (acc ++ [y]) s3.h) NE) (wipeE s2.e vs = wipeE s1.e vs ∧ I (j + 1) acc s2.h)) NE) ∧ ∀ acc h, I r.xs.length acc h → PA acc ⟨wipeE s1.e vs, h⟩) E) : (eCompN src t tt te vs s).post PA E := by
  refine p_bind (p_mono h (fun r s1 ⟨hw, I, h0, hs, hn⟩ => ?_) fun _ _ z => z)
  have ww : wipeE (wipeE s1.e vs) vs = wipeE s1.e vs := by
    have key : ∀ (us : List Nat) (e : List (Option PV)), (∀ u ∈ us, u ∈ vs) → wipeE (wipeE e us) vs = wipeE e vs := by
      intro us e
      induction us with
      | nil => intro _; rfl
      | cons u us ih =>
        intro hu
        show wipeE ((wipeE e us).set u none) vs = wipeE e vs
        have : ∀ (l : List (Option PV)) (ws : List Nat), u ∈ ws → wipeE (l.set u none) ws = wipeE l ws := by
          intro l ws
          induction ws with
          | nil => intro z; cases z
          | cons w ws ih2 =>
            intro z
            show (wipeE (l.set u none) ws).set w none = (wipeE l ws).set w none
            by_cases hm : u ∈ ws
            · rw [ih2 hm]
            · have hw : u = w := by
                rcases List.mem_cons.mp z with z | z
                · exact z
                · exact absurd z hm
              subst hw
              have go : ∀ zs : List Nat, u ∉ zs → wipeE (l.set u none) zs = (wipeE l zs).set u none := by
                intro zs
                induction zs with
                | nil => intro _; rfl
                | cons y zs ih3 =>
                  intro hy
                  simp only [List.mem_cons, not_or] at hy
                  show (wipeE (l.set u none) zs).set y none = ((wipeE l zs).set y none).set u none
                  rw [ih3 hy.2, List.set_comm _ _ hy.1]
              rw [go ws hm, List.set_set]
        rw [this _ _ (hu u (by simp))]
        exact ih fun w hw => hu w (List.mem_cons_of_mem _ hw)
    exact key vs _ fun _ h => h
  have go : ∀ (ys : List PV) (j : Nat) (acc : List PV) (h : AH) (e : List (Option PV)), wipeE e vs = wipeE s1.e vs → (∀ k, ys[k]? = r.xs[j + k]?) → j + ys.length = r.xs.length → I j acc h → (ys = [] → e = wipeE s1.e vs) → (loopC r t tt te vs ys acc ⟨e, h⟩).post PA E := by
    intro ys
    induction ys with
    | nil =>
      intro j acc h e he hy hl hI hz
      unfold loopC
      rw [hz rfl]
      exact hn acc h (by rw [← hl]; exact hI)
    | cons y ys ih =>
      intro j acc h e he hy hl hI hz
      unfold loopC
      obtain ⟨e1, eb, q⟩ := hs j y acc h (by have := hy 0; simpa using this.symm) hI
      unfold stepC
      simp only [he, eb]
      have nx : ∀ {α : Type} {r : R S α} {P : α → S → Prop}, r.post P NE → r.nx.post P NE := fun {α r P} z => by
        cases r with
        | ok a s => exact z
        | exc x s => exact z.elim
        | bad => exact z.elim
      refine p_bind (p_spec (P' := fun acc' s' => s'.e = wipeE s1.e vs ∧ I (j + 1) acc' s'.h) (p_bind (p_mono (nx q) (fun k s2 q => ?_) fun _ _ z => z)) fun acc' s' ⟨q1, q2⟩ => ?_)
      · cases k with
        | true =>
          rw [if_pos rfl]
          refine p_bind (p_mono (nx q) (fun v s3 ⟨o, q1, q2⟩ => ?_) fun _ _ z => z)
          rw [o]
          exact ⟨q1, q2⟩
        | false =>
          rw [if_neg (by decide)]
          exact q
      · rw [if_pos (still_w hw)]
        obtain ⟨e', h'⟩ := s'
        simp only at q1 q2
        subst q1
        exact ih (j + 1) acc' h' _ ww (fun k => by have := hy (k + 1); simp only [List.getElem?_cons_succ] at this; rw [this]; congr 1; omega) (by simp only [List.length_cons] at hl; omega) q2 fun _ => rfl
  exact go r.xs 0 [] s1.h _ ww (fun k => by simp) (by simp) h0 fun _ => rfl
end
/-! the readings' words, closed -/
@[irreducible] def xEVar (i : Nat) : ME := eVar i
@[irreducible] def xEC (v : PV) : ME := eC v
@[irreducible] def xEBin (f : AH → PV → PV → Option PV) (a b : ME) : ME := eBin f a b
@[irreducible] def xANil : MA := aNil 
@[irreducible] def xACons (m : ME) (r : MA) : MA := aCons m r
@[irreducible] def xAStar (m : ME) (r : MA) : MA := aStar m r
@[irreducible] def xETup (ma : MA) : ME := eTup ma
@[irreducible] def xELst (ma : MA) : ME := eLst ma
@[irreducible] def xNLst (ma : MA) : S → R S (List PV) := nLst ma
@[irreducible] def xShN (m : S → R S (List PV)) : ME := shN m
@[irreducible] def xECel (m : S → R S (List PV)) : ME := eCel m
@[irreducible] def xECB (f : AH → List PV → Option PV) (ma : MA) : ME := eCB f ma
@[irreducible] def xEChain (f g : AH → PV → PV → Option PV) (a b c : ME) : ME := eChain f g a b c
@[irreducible] def xONone : S → R S (Option Int) := oNone 
@[irreducible] def xOSome (m : ME) : S → R S (Option Int) := oSome m
@[irreducible] def xESl (m : ME) (lo hi : S → R S (Option Int)) : ME := eSl m lo hi
@[irreducible] def xCallH (n : Nat) (m : MF) (vs : List PV) : ME := callH n m vs
@[irreducible] def xECall (n : Nat) (m : MF) (ma : MA) : ME := eCall n m ma
@[irreducible] def xECallK (n0 nk : Nat) (ix : List Nat) (n : Nat) (m : MF) (ma mk : MA) : ME := eCallK n0 nk ix n m ma mk
@[irreducible] def xAndV (a b : ME) : ME := andV a b
@[irreducible] def xOrV (a b : ME) : ME := orV a b
@[irreducible] def xNotV (a : ME) : ME := notV a
@[irreducible] def xIfM (c : S → R S Bool) (a b : ME) : ME := ifM c a b
@[irreducible] def xTM (m : ME) : S → R S Bool := tM m
@[irreducible] def xBM (m : ME) : S → R S Bool := bM m
@[irreducible] def xBlM (a : S → R S Bool) : ME := blM a
@[irreducible] def xAndM (a b : S → R S Bool) : S → R S Bool := Lp.andM a b
@[irreducible] def xOrM (a b : S → R S Bool) : S → R S Bool := Lp.orM a b
@[irreducible] def xNotM (a : S → R S Bool) : S → R S Bool := Lp.notM a
@[irreducible] def xEMS (f : AH → Str → List PV → Option PV) (mo : ME) (ma : MA) : ME := eMS f mo ma
@[irreducible] def xSNil : MS := sNil 
@[irreducible] def xSSeq (a b : MS) : MS := sSeq a b
@[irreducible] def xSExpr (m : ME) : MS := sExpr m
@[irreducible] def xSRet (m : ME) : MS := sRet m
@[irreducible] def xSRetN : MS := sRetN 
@[irreducible] def xSIf (c : S → R S Bool) (a b : MS) : MS := sIf c a b
@[irreducible] def xSAsg (i : Nat) (m : ME) : MS := sAsg i m
@[irreducible] def xSAsgN (i : Nat) (m : S → R S (List PV)) : MS := sAsgN i m
@[irreducible] def xSAsgT (t : Tg) (m : ME) : MS := sAsgT t m
@[irreducible] def xSPar (i j : Nat) (ma : MA) : MS := sPar i j ma
@[irreducible] def xSSetC (mv mo mi : ME) : MS := sSetC mv mo mi
@[irreducible] noncomputable def xSFor (src : S → R S Sr) (t : Tg) (body : MS) : MS := sFor src t body
@[irreducible] def xSAny (m : ME) : S → R S Sr := sAny m
@[irreducible] noncomputable def xECompN (src : S → R S Sr) (t : Tg) (tt : S → R S Bool) (te : ME) (vs : List Nat) : S → R S (List PV) := eCompN src t tt te vs
section
variable {P : PV → S → Prop} {PB : Bool → S → Prop} {PA : List PV → S → Prop} {PO : Option Int → S → Prop} {PF : Fl → S → Prop} {E : PV → S → Prop} {s : S}
variable {a b c m : ME} {ma : MA} {ta tb : S → R S Bool} {f g : AH → PV → PV → Option PV} {v : PV} {i : Nat} {x y : MS}
theorem p_var (e : s.e[i]? = some (some v)) (h : P v s) : (xEVar i s).post P E := by
  unfold xEVar
  exact p0_var e h
theorem p_c (h : P v s) : (xEC v s).post P E := by
  unfold xEC
  exact p0_c h
theorem p_bin (h : (a s).post (fun x s1 => (b s1).post (fun y s2 => ∃ z, f s2.h x y = some z ∧ P z s2) E) E) : (xEBin f a b s).post P E := by
  unfold xEBin
  exact p0_bin h
theorem p_nil (h : PA [] s) : (xANil s).post PA E := by
  unfold xANil
  exact p0_nil h
theorem p_cons (h : (a s).post (fun v s1 => (ma s1).post (fun vs s2 => PA (v :: vs) s2) E) E) : (xACons a ma s).post PA E := by
  unfold xACons
  exact p0_cons h
theorem p_star (h : (a s).post (fun v s1 => ∃ xs, asS s1.h v = some xs ∧ (ma s1).post (fun vs s2 => PA (xs ++ vs) s2) E) E) : (xAStar a ma s).post PA E := by
  unfold xAStar
  exact p0_star h
theorem p_tup (h : (ma s).post (fun vs s1 => (allSh vs = true ∧ vs.length ≤ 16777216) ∧ P (.tup vs) s1) E) : (xETup ma s).post P E := by
  unfold xETup
  exact p0_tup h
theorem p_lst (h : (ma s).post (fun vs s1 => (allSh vs = true ∧ vs.length ≤ 16777216) ∧ P (.lst vs) s1) E) : (xELst ma s).post P E := by
  unfold xELst
  exact p0_lst h
theorem p_nlst (h : (ma s).post (fun vs s1 => (allSh vs = true ∧ vs.length ≤ sizeLine) ∧ PA vs s1) E) : (xNLst ma s).post PA E := by
  unfold xNLst
  exact p0_nlst h
theorem p_sh {mn : S → R S (List PV)} (h : (mn s).post (fun xs s1 => P (.lst xs) s1) E) : (xShN mn s).post P E := by
  unfold xShN
  exact p0_sh h
theorem p_cel {mn : S → R S (List PV)} (h : (mn s).post (fun xs s1 => P (.cel s1.h.length) ⟨s1.e, s1.h ++ [some (.lst xs)]⟩) E) : (xECel mn s).post P E := by
  unfold xECel
  exact p0_cel h
theorem p_cb {fb : AH → List PV → Option PV} (h : (ma s).post (fun vs s1 => ∃ z, fb s1.h vs = some z ∧ P z s1) E) : (xECB fb ma s).post P E := by
  unfold xECB
  exact p0_cb h
theorem p_chain (h : (a s).post (fun x s1 => (b s1).post (fun y s2 => ∃ k, f s2.h x y = some (.bl k) ∧ br k ((c s2).post (fun w s3 => ∃ z, g s3.h y w = some z ∧ P z s3) E) (P (.bl false) s2)) E) E) : (xEChain f g a b c s).post P E := by
  unfold xEChain
  simp only [br_eq] at h
  exact p0_chain h
theorem p_onone (h : PO none s) : (xONone s).post PO E := by
  unfold xONone
  exact p0_onone h
theorem p_osome (h : (a s).post (fun v s1 => ∃ i, v = .int i ∧ PO (some i) s1) E) : (xOSome a s).post PO E := by
  unfold xOSome
  exact p0_osome h
theorem p_sl {lo hi : S → R S (Option Int)} (h : (a s).post (fun v s1 => (lo s1).post (fun l s2 => (hi s2).post (fun u s3 => ∃ z, fSl s3.h v l u = some z ∧ P z s3) E) E) E) : (xESl a lo hi s).post P E := by
  unfold xESl
  exact p0_sl h
theorem p_callH {n : Nat} {mf : MF} {vs : List PV} (h : (vs.length = n ∧ allSh vs = true) ∧ (mf vs s.h).post (fun v h => P v ⟨s.e, h⟩) (fun x h => E x ⟨s.e, h⟩)) : (xCallH n mf vs s).post P E := by
  unfold xCallH
  exact p0_callH h
theorem p_call {n : Nat} {mf : MF} (h : (ma s).post (fun vs s1 => (vs.length = n ∧ allSh vs = true) ∧ (mf vs s1.h).post (fun v h => P v ⟨s1.e, h⟩) (fun x h => E x ⟨s1.e, h⟩)) E) : (xECall n mf ma s).post P E := by
  unfold xECall
  exact p0_call h
theorem p_callK {n0 nk n : Nat} {ix : List Nat} {mf : MF} {mk : MA} (h : (ma s).post (fun vs s1 => (mk s1).post (fun zs s2 => ((vs.length = n0 ∧ zs.length = nk) ∧ allSh vs = true ∧ allSh zs = true) ∧ ((pick ix (vs ++ zs)).length = n ∧ allSh (pick ix (vs ++ zs)) = true) ∧
    (mf (pick ix (vs ++ zs)) s2.h).post (fun v h => P v ⟨s2.e, h⟩) (fun x h => E x ⟨s2.e, h⟩)) E) E) : (xECallK n0 nk ix n mf ma mk s).post P E := by
  unfold xECallK
  exact p0_callK h
theorem p_andV (h : (a s).post (fun v s1 => ∃ k, v = .bl k ∧ br k ((b s1).post P E) (P (.bl false) s1)) E) : (xAndV a b s).post P E := by
  unfold xAndV
  simp only [br_eq] at h
  exact p0_andV h
theorem p_orV (h : (a s).post (fun v s1 => ∃ k, v = .bl k ∧ br k (P (.bl true) s1) ((b s1).post P E)) E) : (xOrV a b s).post P E := by
  unfold xOrV
  simp only [br_eq] at h
  exact p0_orV h
theorem p_notV (h : (a s).post (fun v s1 => ∃ k, v = .bl k ∧ P (.bl (!k)) s1) E) : (xNotV a s).post P E := by
  unfold xNotV
  exact p0_notV h
theorem p_ifM (h : (ta s).post (fun k s1 => br k ((a s1).post P E) ((b s1).post P E)) E) : (xIfM ta a b s).post P E := by
  unfold xIfM
  simp only [br_eq] at h
  exact p0_ifM h
theorem p_tM (h : (a s).post (fun v s1 => ∃ k, tru s1.h v = some k ∧ PB k s1) E) : (xTM a s).post PB E := by
  unfold xTM
  exact p0_tM h
theorem p_bM (h : (a s).post (fun v s1 => ∃ k, v = .bl k ∧ PB k s1) E) : (xBM a s).post PB E := by
  unfold xBM
  exact p0_bM h
theorem p_blM (h : (ta s).post (fun k s1 => P (.bl k) s1) E) : (xBlM ta s).post P E := by
  unfold xBlM
  exact p0_blM h
theorem p_andM (h : (ta s).post (fun k s1 => br k ((tb s1).post PB E) (PB false s1)) E) : (xAndM ta tb s).post PB E := by
  unfold xAndM
  simp only [br_eq] at h
  exact p0_andM h
theorem p_orM (h : (ta s).post (fun k s1 => br k (PB true s1) ((tb s1).post PB E)) E) : (xOrM ta tb s).post PB E := by
  unfold xOrM
  simp only [br_eq] at h
  exact p0_orM h
theorem p_notM (h : (ta s).post (fun k s1 => PB (!k) s1) E) : (xNotM ta s).post PB E := by
  unfold xNotM
  exact p0_notM h
theorem p_ms {fm : AH → Str → List PV → Option PV} (h : (a s).post (fun o s1 => ∃ x, o = .str x ∧ (ma s1).post (fun vs s2 => ∃ z, fm s2.h x vs = some z ∧ P z s2) E) E) : (xEMS fm a ma s).post P E := by
  unfold xEMS
  exact p0_ms h
theorem p_snil (h : PF .nx s) : (xSNil s).post PF E := by
  unfold xSNil
  exact p0_snil h
theorem p_seq (h : (x s).post (fun fl s1 => match fl with | .nx => (y s1).post PF E | fl => PF fl s1) E) : (xSSeq x y s).post PF E := by
  unfold xSSeq
  exact p0_seq h
theorem p_sexpr (h : (a s).post (fun _ s1 => PF .nx s1) E) : (xSExpr a s).post PF E := by
  unfold xSExpr
  exact p0_sexpr h
theorem p_ret (h : (a s).post (fun v s1 => isOwn v = false ∧ PF (.rt v) s1) E) : (xSRet a s).post PF E := by
  unfold xSRet
  exact p0_ret h
theorem p_retN (h : PF (.rt .non) s) : (xSRetN s).post PF E := by
  unfold xSRetN
  exact p0_retN h
theorem p_sif (h : (ta s).post (fun k s1 => br k ((x s1).post PF E) ((y s1).post PF E)) E) : (xSIf ta x y s).post PF E := by
  unfold xSIf
  simp only [br_eq] at h
  exact p0_sif h
theorem p_asg (h : (a s).post (fun v s1 => isOwn v = false ∧ PF .nx ⟨s1.e.set i (some v), s1.h⟩) E) : (xSAsg i a s).post PF E := by
  unfold xSAsg
  exact p0_asg h
theorem p_asgN {mn : S → R S (List PV)} (h : (mn s).post (fun v s1 => PF .nx ⟨s1.e.set i (some (.own v)), s1.h⟩) E) : (xSAsgN i mn s).post PF E := by
  unfold xSAsgN
  exact p0_asgN h
theorem p_asgT {t : Tg} (h : (a s).post (fun v s1 => isOwn v = false ∧ ∃ e1, bindT t v s1.e = some e1 ∧ PF .nx ⟨e1, s1.h⟩) E) : (xSAsgT t a s).post PF E := by
  unfold xSAsgT
  exact p0_asgT h
theorem p_par {j : Nat} (h : (ma s).post (fun vs s1 => ∃ v w, vs = [v, w] ∧ (isOwn v = false ∧ isOwn w = false) ∧ PF .nx ⟨(s1.e.set i (some v)).set j (some w), s1.h⟩) E) : (xSPar i j ma s).post PF E := by
  unfold xSPar
  exact p0_par h
theorem p_setC (h : (a s).post (fun v s1 => (b s1).post (fun o s2 => (c s2).post (fun k s3 => ∃ n xs ys, o = .cel n ∧ cellL s3.h n = some xs ∧ setL xs k v = some ys ∧ PF .nx ⟨s3.e, s3.h.set n (some (.lst ys))⟩) E) E) E) : (xSSetC a b c s).post PF E := by
  unfold xSSetC
  exact p0_setC h
theorem p_for {src : S → R S Sr} {t : Tg} (h : (src s).post (fun r s1 => r.w = [] ∧ r.o = false ∧ r.xs.length ≤ sizeLine ∧ (loopF ⟨r.xs, [], false⟩ t x r.xs s1).post PF E) E) : (xSFor src t x s).post PF E := by
  unfold xSFor
  exact p0_for h
theorem p_any {m : ME} {PS : Sr → S → Prop} (h : (m s).post (fun v s1 => ∃ r, srcOf s1.h v = some r ∧ PS r s1) E) : (xSAny m s).post PS E := by
  unfold xSAny
  exact p0_any h
theorem p_compN {src : S → R S Sr} {t : Tg} {tt : S → R S Bool} {te : ME} {vs : List Nat}
    (h : (src s).post (fun r s1 => r.w = [] ∧ ∃ I : Nat → List PV → AH → Prop, I 0 [] s1.h ∧ (∀ (j : Nat) (v : PV) (acc : List PV) (h : AH), r.xs[j]? = some v → I j acc h → ∃ e1, bindT t v (wipeE s1.e vs) = some e1 ∧
      (tt ⟨e1, h⟩).post (fun k s2 => br k ((te s2).post (fun y s3 => isOwn y = false ∧ wipeE s3.e vs = wipeE s1.e vs ∧ I (j + 1) (acc ++ [y]) s3.h) NE) (wipeE s2.e vs = wipeE s1.e vs ∧ I (j + 1) acc s2.h)) NE) ∧ ∀ acc h, I r.xs.length acc h → PA acc ⟨wipeE s1.e vs, h⟩) E) : (xECompN src t tt te vs s).post PA E := by
  unfold xECompN
  simp only [br_eq] at h
  exact p0_compN h
end
end Lp

set_option Elab.async false
set_option linter.all false
set_option maxRecDepth 100000
set_option maxHeartbeats 4000000
/-! Lq2: the bag of draws. -/
namespace Lp
open PySem PySem.Spec PyProof.Rows L2
/-- a bag's list -/
def Bag (l : List PV) : Prop := ∃ (ns : List Int) (i c sd t : Int), l = [.lst (ns.map .int), .int i, .int c, .int sd, .int t] ∧ 0 ≤ i ∧ 0 ≤ c ∧ 0 ≤ sd ∧ sd < 2147483587
theorem cellL_set {h : AH} {n : Nat} {l : List PV} (hn : n < h.length) : cellL (h.set n (some (.lst l))) n = some l := by
  unfold cellL
  rw [List.getElem?_set_self hn]
theorem fIx_cel {h : AH} {n : Nat} {l : List PV} {i : Int} {z : PV} (e : cellL h n = some l) (e2 : atI l i = some z) : fIx h (.cel n) (.int i) = some z := by
  have q := cellL_ok e
  unfold fIx
  show (match asS h (.cel n) with | some xs => atI xs i | none => none) = some z
  have : asS h (.cel n) = some l := by
    unfold asS asL
    simp only [q]
  rw [this]
  exact e2
theorem p_setB {PF : Fl → S → Prop} {E : PV → S → Prop} {a b c : ME} {s : S} (q : (a s).post (fun v s1 => (b s1).post (fun o s2 => (c s2).post (fun k s3 => ∃ (n : Nat) (h : AH) (l ys : List PV), o = .cel n ∧ n < h.length ∧ s3.h = h.set n (some (.lst l)) ∧ setL l k v = some ys ∧ PF .nx ⟨s3.e, h.set n (some (.lst ys))⟩) E) E) E) :
    (xSSetC a b c s).post PF E :=
  p_setC (p_mono q (fun v s1 q => p_mono q (fun o s2 q => p_mono q (fun k s3 ⟨n, h, l, ys, e1, e2, e3, e4, q⟩ => ⟨n, l, ys, e1, by rw [e3]; exact cellL_set e2, e4, by rw [e3, List.set_set]; exact q⟩) fun _ _ z => z) fun _ _ z => z) fun _ _ z => z)
theorem atI_ints {ns : List Int} {i : Int} (h0 : 0 ≤ i) (h1 : i < ns.length) : ∃ k, atI (ns.map PV.int) i = some (.int k) := by
  unfold atI ixN
  rw [if_pos h0, List.length_map, if_pos h1]
  show ∃ k, (ns.map PV.int)[i.toNat]? = some (.int k)
  rw [List.getElem?_map, List.getElem?_eq_getElem (by omega)]
  exact ⟨_, rfl⟩
theorem eq_int {h : AH} {i j : Int} : fEq h (.int i) (.int j) = some (.bl (PyData.eqv (.int i) (.int j))) := rfl
theorem mulG_r {i j : Int} (h : j.natAbs < 18446744073709551616) : mulG i j = some (i * j) := if_pos (.inr h)
theorem mulG_l {i j : Int} (h : i.natAbs < 18446744073709551616) : mulG i j = some (i * j) := if_pos (.inl h)
theorem fMul_r {h : AH} {i j : Int} (hj : j.natAbs < 18446744073709551616) : fMul h (.int i) (.int j) = some (.int (i * j)) := by
  show (mulG i j).map PV.int = _
  rw [mulG_r hj]; rfl
theorem fMul_l {h : AH} {i j : Int} (hj : i.natAbs < 18446744073709551616) : fMul h (.int i) (.int j) = some (.int (i * j)) := by
  show (mulG i j).map PV.int = _
  rw [mulG_l hj]; rfl
theorem fMod_i {h : AH} {i j : Int} (hj : j ≠ 0) : fMod h (.int i) (.int j) = some (.int (i.fmod j)) := by
  show (modG i j).map PV.int = _
  unfold modG
  rw [if_pos hj]; rfl
theorem fFdv_i {h : AH} {i j : Int} (hj : j ≠ 0) (h2 : j.natAbs < 1073741824) : fFdv h (.int i) (.int j) = some (.int (i.fdiv j)) := by
  show (fdivG i j).map PV.int = _
  unfold fdivG
  rw [if_pos ⟨hj, h2⟩]; rfl
theorem eqv_int (i j : Int) : PyData.eqv (.int i) (.int j) = decide (i = j) := rfl
theorem fmod_lt {a b : Int} (h : 0 < b) : 0 ≤ a.fmod b ∧ a.fmod b < b := ⟨Int.fmod_nonneg_of_pos a h, Int.fmod_lt_of_pos a h⟩
noncomputable def drawMb : MS := (sSeq (sIf (andM (bM (eBin fEq (eBin fIx (eVar 0) (eC (.int 2))) (eC (.int 0)))) (bM (eBin fLt (eBin fIx (eVar 0) (eC (.int 1))) (eCB bLen (aCons (eBin fIx (eVar 0) (eC (.int 0))) aNil))))) (sSeq (sAsg 2 (eBin fIx (eBin fIx (eVar 0) (eC (.int 0))) (eBin fIx (eVar 0) (eC (.int 1)))))
  (sSeq (sSetC (eBin fAdd (eBin fIx (eVar 0) (eC (.int 1))) (eC (.int 1))) (eVar 0) (eC (.int 1)))
  (sSeq (sSetC (ifM (bM (eBin fGe (eVar 2) (eBin fPow (eC (.int 10)) (eC (.int 18))))) (eVar 2) (eC (.int 0))) (eVar 0) (eC (.int 2)))
  (sSetC (eBin fMod (eCB bInt (aCons (eBin fAdd (eBin fAdd (eBin fMul (eBin fIx (eVar 0) (eC (.int 3))) (eC (.int 40031))) (eBin fMul (eBin fMod (eCB bInt (aCons (eVar 2) aNil)) (eC (.int 2147483549))) (eC (.int 331)))) (eC (.int 2011))) aNil)) (eC (.int 2147483587))) (eVar 0) (eC (.int 3)))))) sNil)
  (sSeq (sIf (bM (eBin fGt (eBin fIx (eVar 0) (eC (.int 2))) (eC (.int 0)))) (sSeq (sAsg 3 (eBin fMod (eCB bInt (aCons (eBin fIx (eVar 0) (eC (.int 2))) aNil)) (eVar 1)))
  (sSeq (sSetC (eBin fFdv (eBin fIx (eVar 0) (eC (.int 2))) (eVar 1)) (eVar 0) (eC (.int 2)))
  (sRet (eVar 3)))) sNil)
  (sSeq (sSetC (eBin fAdd (eBin fIx (eVar 0) (eC (.int 4))) (eC (.int 1))) (eVar 0) (eC (.int 4)))
  (sSeq (sAsg 4 (eBin fIx (eVar 0) (eC (.int 3))))
  (sSeq (sSetC (eBin fMod (eCB bInt (aCons (eBin fAdd (eBin fAdd (eBin fAdd (eBin fMul (eVar 4) (eVar 4)) (eBin fMul (eC (.int 65071)) (eVar 4))) (eBin fMul (eC (.int 6673)) (eBin fIx (eVar 0) (eC (.int 4))))) (eC (.int 40013))) aNil)) (eC (.int 2147483587))) (eVar 0) (eC (.int 3)))
  (sRet (eBin fMod (eCB bInt (aCons (eBin fAdd (eBin fAdd (eBin fFdv (eBin fIx (eVar 0) (eC (.int 3))) (eC (.int 61))) (eBin fMul (eVar 4) (eC (.int 32009)))) (eBin fIx (eVar 0) (eC (.int 4)))) aNil)) (eVar 1))))))))
noncomputable def drawMx : MS := (xSSeq (xSIf (xAndM (xBM (xEBin fEq (xEBin fIx (xEVar 0) (xEC (.int 2))) (xEC (.int 0)))) (xBM (xEBin fLt (xEBin fIx (xEVar 0) (xEC (.int 1))) (xECB bLen (xACons (xEBin fIx (xEVar 0) (xEC (.int 0))) xANil))))) (xSSeq (xSAsg 2 (xEBin fIx (xEBin fIx (xEVar 0) (xEC (.int 0))) (xEBin fIx (xEVar 0) (xEC (.int 1)))))
  (xSSeq (xSSetC (xEBin fAdd (xEBin fIx (xEVar 0) (xEC (.int 1))) (xEC (.int 1))) (xEVar 0) (xEC (.int 1)))
  (xSSeq (xSSetC (xIfM (xBM (xEBin fGe (xEVar 2) (xEBin fPow (xEC (.int 10)) (xEC (.int 18))))) (xEVar 2) (xEC (.int 0))) (xEVar 0) (xEC (.int 2)))
  (xSSetC (xEBin fMod (xECB bInt (xACons (xEBin fAdd (xEBin fAdd (xEBin fMul (xEBin fIx (xEVar 0) (xEC (.int 3))) (xEC (.int 40031))) (xEBin fMul (xEBin fMod (xECB bInt (xACons (xEVar 2) xANil)) (xEC (.int 2147483549))) (xEC (.int 331)))) (xEC (.int 2011))) xANil)) (xEC (.int 2147483587))) (xEVar 0) (xEC (.int 3)))))) xSNil)
  (xSSeq (xSIf (xBM (xEBin fGt (xEBin fIx (xEVar 0) (xEC (.int 2))) (xEC (.int 0)))) (xSSeq (xSAsg 3 (xEBin fMod (xECB bInt (xACons (xEBin fIx (xEVar 0) (xEC (.int 2))) xANil)) (xEVar 1)))
  (xSSeq (xSSetC (xEBin fFdv (xEBin fIx (xEVar 0) (xEC (.int 2))) (xEVar 1)) (xEVar 0) (xEC (.int 2)))
  (xSRet (xEVar 3)))) xSNil)
  (xSSeq (xSSetC (xEBin fAdd (xEBin fIx (xEVar 0) (xEC (.int 4))) (xEC (.int 1))) (xEVar 0) (xEC (.int 4)))
  (xSSeq (xSAsg 4 (xEBin fIx (xEVar 0) (xEC (.int 3))))
  (xSSeq (xSSetC (xEBin fMod (xECB bInt (xACons (xEBin fAdd (xEBin fAdd (xEBin fAdd (xEBin fMul (xEVar 4) (xEVar 4)) (xEBin fMul (xEC (.int 65071)) (xEVar 4))) (xEBin fMul (xEC (.int 6673)) (xEBin fIx (xEVar 0) (xEC (.int 4))))) (xEC (.int 40013))) xANil)) (xEC (.int 2147483587))) (xEVar 0) (xEC (.int 3)))
  (xSRet (xEBin fMod (xECB bInt (xACons (xEBin fAdd (xEBin fAdd (xEBin fFdv (xEBin fIx (xEVar 0) (xEC (.int 3))) (xEC (.int 61))) (xEBin fMul (xEVar 4) (xEC (.int 32009)))) (xEBin fIx (xEVar 0) (xEC (.int 4)))) xANil)) (xEVar 1))))))))
theorem drawM_x : drawMb = drawMx := by kernel_rfl
@[irreducible] noncomputable def drawM : MF := mkF 3 drawMb
section
theorem draw_spec {h : AH} {n : Nat} {l : List PV} (hn : n < h.length) (b : Bag l) {k : Int} (hk : 1 ≤ k) (hk2 : k < 1073741824) :
    (drawM [.cel n, .int k] (h.set n (some (.lst l)))).post (fun v h' => ∃ d l', v = .int d ∧ 0 ≤ d ∧ d < k ∧ Bag l' ∧ h' = h.set n (some (.lst l'))) NE := by
  obtain ⟨ns, i, c, sd, t, rfl, h1, h2, h3, h4⟩ := b
  unfold drawM
  rw [drawM_x]
  unfold drawMx
  refine p_mkF [some (.cel n), some (.int k), none, none, none] rfl (p_seq (p_spec (P' := fun fl s1 => fl = .nx ∧ ∃ l' x, Bag l' ∧ s1 = ⟨[some (.cel n), some (.int k), x, none, none], h.set n (some (.lst l'))⟩) ?_ ?_))
  · (repeat (first | refine p_var rfl ?_ | refine p_c ?_ | refine p_bin ?_ | refine p_cons ?_ | refine p_nil ?_ | refine p_seq ?_ | refine p_asg ?_ | refine p_sif ?_ | refine p_ret ?_ | refine p_bM ?_ | refine p_tM ?_ | refine p_cb ?_ | refine p_andM ?_ | refine p_orM ?_ | refine p_notM ?_ | refine p_chain ?_ | refine p_andV ?_ | refine p_orV ?_ | refine p_notV ?_ | refine p_ifM ?_ | refine p_tup ?_ | refine p_lst ?_ | refine p_call ?_ | refine p_callK ?_ | refine ⟨⟨⟨rfl, rfl⟩, rfl, rfl⟩, ⟨rfl, rfl⟩, ?_⟩ | refine p_setB ?_ | refine p_sl ?_ | refine p_osome ?_ | refine p_onone ?_ | refine p_snil ?_ | refine p_sexpr ?_ | refine p_retN ?_ | refine p_par ?_ | refine p_sh ?_ | refine p_brt rfl ?_ | refine p_brf rfl ?_ | refine ⟨_, rfl, ?_⟩ | refine ⟨⟨rfl, rfl⟩, ?_⟩ | refine ⟨⟨rfl, Nat.le_of_ble_eq_true rfl⟩, ?_⟩ | refine ⟨_, _, _, _, rfl, hn, rfl, rfl, ?_⟩ | (refine ⟨_, _, rfl, ⟨rfl, rfl⟩, ?_⟩; try dsimp only [wipeE, List.set_cons_succ, List.set_cons_zero]) | (refine ⟨rfl, ?_⟩; try dsimp only [wipeE, List.set_cons_succ, List.set_cons_zero]) | refine ⟨_, fIx_cel (cellL_set hn) rfl, ?_⟩))
    refine p_br (fun hc => ?_) fun hc => ?_
    · (repeat (first | refine p_var rfl ?_ | refine p_c ?_ | refine p_bin ?_ | refine p_cons ?_ | refine p_nil ?_ | refine p_seq ?_ | refine p_asg ?_ | refine p_sif ?_ | refine p_ret ?_ | refine p_bM ?_ | refine p_tM ?_ | refine p_cb ?_ | refine p_andM ?_ | refine p_orM ?_ | refine p_notM ?_ | refine p_chain ?_ | refine p_andV ?_ | refine p_orV ?_ | refine p_notV ?_ | refine p_ifM ?_ | refine p_tup ?_ | refine p_lst ?_ | refine p_call ?_ | refine p_callK ?_ | refine ⟨⟨⟨rfl, rfl⟩, rfl, rfl⟩, ⟨rfl, rfl⟩, ?_⟩ | refine p_setB ?_ | refine p_sl ?_ | refine p_osome ?_ | refine p_onone ?_ | refine p_snil ?_ | refine p_sexpr ?_ | refine p_retN ?_ | refine p_par ?_ | refine p_sh ?_ | refine p_brt rfl ?_ | refine p_brf rfl ?_ | refine ⟨_, rfl, ?_⟩ | refine ⟨⟨rfl, rfl⟩, ?_⟩ | refine ⟨⟨rfl, Nat.le_of_ble_eq_true rfl⟩, ?_⟩ | refine ⟨_, _, _, _, rfl, hn, rfl, rfl, ?_⟩ | (refine ⟨_, _, rfl, ⟨rfl, rfl⟩, ?_⟩; try dsimp only [wipeE, List.set_cons_succ, List.set_cons_zero]) | (refine ⟨rfl, ?_⟩; try dsimp only [wipeE, List.set_cons_succ, List.set_cons_zero]) | refine ⟨_, fIx_cel (cellL_set hn) rfl, ?_⟩))
      refine p_br (fun hi => ?_) fun hi => ?_
      · have hi : i < (((ns.map PV.int).length : Nat) : Int) := of_decide_eq_true hi
        obtain ⟨q, eq⟩ := atI_ints h1 (by simpa using hi)
        (repeat (first | refine p_var rfl ?_ | refine p_c ?_ | refine p_bin ?_ | refine p_cons ?_ | refine p_nil ?_ | refine p_seq ?_ | refine p_asg ?_ | refine p_sif ?_ | refine p_ret ?_ | refine p_bM ?_ | refine p_tM ?_ | refine p_cb ?_ | refine p_andM ?_ | refine p_orM ?_ | refine p_notM ?_ | refine p_chain ?_ | refine p_andV ?_ | refine p_orV ?_ | refine p_notV ?_ | refine p_ifM ?_ | refine p_tup ?_ | refine p_lst ?_ | refine p_call ?_ | refine p_callK ?_ | refine ⟨⟨⟨rfl, rfl⟩, rfl, rfl⟩, ⟨rfl, rfl⟩, ?_⟩ | refine p_setB ?_ | refine p_sl ?_ | refine p_osome ?_ | refine p_onone ?_ | refine p_snil ?_ | refine p_sexpr ?_ | refine p_retN ?_ | refine p_par ?_ | refine p_sh ?_ | refine p_brt rfl ?_ | refine p_brf rfl ?_ | refine ⟨_, rfl, ?_⟩ | refine ⟨⟨rfl, rfl⟩, ?_⟩ | refine ⟨⟨rfl, Nat.le_of_ble_eq_true rfl⟩, ?_⟩ | refine ⟨_, _, _, _, rfl, hn, rfl, rfl, ?_⟩ | (refine ⟨_, _, rfl, ⟨rfl, rfl⟩, ?_⟩; try dsimp only [wipeE, List.set_cons_succ, List.set_cons_zero]) | (refine ⟨rfl, ?_⟩; try dsimp only [wipeE, List.set_cons_succ, List.set_cons_zero]) | refine ⟨_, fIx_cel (cellL_set hn) rfl, ?_⟩ | refine ⟨_, eq, ?_⟩))
        have fin := @fmod_lt
        refine p_br (fun hq => ?_) fun hq => ?_
        · have hq : (10 : Int) ^ 18 ≤ q := of_decide_eq_true hq
          (repeat (first | refine p_var rfl ?_ | refine p_c ?_ | refine p_bin ?_ | refine p_cons ?_ | refine p_nil ?_ | refine p_seq ?_ | refine p_asg ?_ | refine p_sif ?_ | refine p_ret ?_ | refine p_bM ?_ | refine p_tM ?_ | refine p_cb ?_ | refine p_andM ?_ | refine p_orM ?_ | refine p_notM ?_ | refine p_chain ?_ | refine p_andV ?_ | refine p_orV ?_ | refine p_notV ?_ | refine p_ifM ?_ | refine p_tup ?_ | refine p_lst ?_ | refine p_call ?_ | refine p_callK ?_ | refine ⟨⟨⟨rfl, rfl⟩, rfl, rfl⟩, ⟨rfl, rfl⟩, ?_⟩ | refine p_setB ?_ | refine p_sl ?_ | refine p_osome ?_ | refine p_onone ?_ | refine p_snil ?_ | refine p_sexpr ?_ | refine p_retN ?_ | refine p_par ?_ | refine p_sh ?_ | refine p_brt rfl ?_ | refine p_brf rfl ?_ | refine ⟨_, rfl, ?_⟩ | refine ⟨⟨rfl, rfl⟩, ?_⟩ | refine ⟨⟨rfl, Nat.le_of_ble_eq_true rfl⟩, ?_⟩ | refine ⟨_, _, _, _, rfl, hn, rfl, rfl, ?_⟩ | (refine ⟨_, _, rfl, ⟨rfl, rfl⟩, ?_⟩; try dsimp only [wipeE, List.set_cons_succ, List.set_cons_zero]) | (refine ⟨rfl, ?_⟩; try dsimp only [wipeE, List.set_cons_succ, List.set_cons_zero]) | refine ⟨_, fIx_cel (cellL_set hn) rfl, ?_⟩ | refine ⟨_, eq, ?_⟩ | refine ⟨_, fMul_r (by decide), ?_⟩ | refine ⟨_, fMod_i (by decide), ?_⟩))
          refine ⟨_, some _, ⟨ns, i + 1, q, _, t, rfl, by omega, by omega, (fin (by decide)).1, (fin (by decide)).2⟩, rfl⟩
        · (repeat (first | refine p_var rfl ?_ | refine p_c ?_ | refine p_bin ?_ | refine p_cons ?_ | refine p_nil ?_ | refine p_seq ?_ | refine p_asg ?_ | refine p_sif ?_ | refine p_ret ?_ | refine p_bM ?_ | refine p_tM ?_ | refine p_cb ?_ | refine p_andM ?_ | refine p_orM ?_ | refine p_notM ?_ | refine p_chain ?_ | refine p_andV ?_ | refine p_orV ?_ | refine p_notV ?_ | refine p_ifM ?_ | refine p_tup ?_ | refine p_lst ?_ | refine p_call ?_ | refine p_callK ?_ | refine ⟨⟨⟨rfl, rfl⟩, rfl, rfl⟩, ⟨rfl, rfl⟩, ?_⟩ | refine p_setB ?_ | refine p_sl ?_ | refine p_osome ?_ | refine p_onone ?_ | refine p_snil ?_ | refine p_sexpr ?_ | refine p_retN ?_ | refine p_par ?_ | refine p_sh ?_ | refine p_brt rfl ?_ | refine p_brf rfl ?_ | refine ⟨_, rfl, ?_⟩ | refine ⟨⟨rfl, rfl⟩, ?_⟩ | refine ⟨⟨rfl, Nat.le_of_ble_eq_true rfl⟩, ?_⟩ | refine ⟨_, _, _, _, rfl, hn, rfl, rfl, ?_⟩ | (refine ⟨_, _, rfl, ⟨rfl, rfl⟩, ?_⟩; try dsimp only [wipeE, List.set_cons_succ, List.set_cons_zero]) | (refine ⟨rfl, ?_⟩; try dsimp only [wipeE, List.set_cons_succ, List.set_cons_zero]) | refine ⟨_, fIx_cel (cellL_set hn) rfl, ?_⟩ | refine ⟨_, eq, ?_⟩ | refine ⟨_, fMul_r (by decide), ?_⟩ | refine ⟨_, fMod_i (by decide), ?_⟩))
          refine ⟨_, some _, ⟨ns, i + 1, 0, _, t, rfl, by omega, by omega, (fin (by decide)).1, (fin (by decide)).2⟩, rfl⟩
      · (repeat (first | refine p_var rfl ?_ | refine p_c ?_ | refine p_bin ?_ | refine p_cons ?_ | refine p_nil ?_ | refine p_seq ?_ | refine p_asg ?_ | refine p_sif ?_ | refine p_ret ?_ | refine p_bM ?_ | refine p_tM ?_ | refine p_cb ?_ | refine p_andM ?_ | refine p_orM ?_ | refine p_notM ?_ | refine p_chain ?_ | refine p_andV ?_ | refine p_orV ?_ | refine p_notV ?_ | refine p_ifM ?_ | refine p_tup ?_ | refine p_lst ?_ | refine p_call ?_ | refine p_callK ?_ | refine ⟨⟨⟨rfl, rfl⟩, rfl, rfl⟩, ⟨rfl, rfl⟩, ?_⟩ | refine p_setB ?_ | refine p_sl ?_ | refine p_osome ?_ | refine p_onone ?_ | refine p_snil ?_ | refine p_sexpr ?_ | refine p_retN ?_ | refine p_par ?_ | refine p_sh ?_ | refine p_brt rfl ?_ | refine p_brf rfl ?_ | refine ⟨_, rfl, ?_⟩ | refine ⟨⟨rfl, rfl⟩, ?_⟩ | refine ⟨⟨rfl, Nat.le_of_ble_eq_true rfl⟩, ?_⟩ | refine ⟨_, _, _, _, rfl, hn, rfl, rfl, ?_⟩ | (refine ⟨_, _, rfl, ⟨rfl, rfl⟩, ?_⟩; try dsimp only [wipeE, List.set_cons_succ, List.set_cons_zero]) | (refine ⟨rfl, ?_⟩; try dsimp only [wipeE, List.set_cons_succ, List.set_cons_zero])))
        exact ⟨_, none, ⟨ns, i, c, sd, t, rfl, h1, h2, h3, h4⟩, rfl⟩
    · (repeat (first | refine p_var rfl ?_ | refine p_c ?_ | refine p_bin ?_ | refine p_cons ?_ | refine p_nil ?_ | refine p_seq ?_ | refine p_asg ?_ | refine p_sif ?_ | refine p_ret ?_ | refine p_bM ?_ | refine p_tM ?_ | refine p_cb ?_ | refine p_andM ?_ | refine p_orM ?_ | refine p_notM ?_ | refine p_chain ?_ | refine p_andV ?_ | refine p_orV ?_ | refine p_notV ?_ | refine p_ifM ?_ | refine p_tup ?_ | refine p_lst ?_ | refine p_call ?_ | refine p_callK ?_ | refine ⟨⟨⟨rfl, rfl⟩, rfl, rfl⟩, ⟨rfl, rfl⟩, ?_⟩ | refine p_setB ?_ | refine p_sl ?_ | refine p_osome ?_ | refine p_onone ?_ | refine p_snil ?_ | refine p_sexpr ?_ | refine p_retN ?_ | refine p_par ?_ | refine p_sh ?_ | refine p_brt rfl ?_ | refine p_brf rfl ?_ | refine ⟨_, rfl, ?_⟩ | refine ⟨⟨rfl, rfl⟩, ?_⟩ | refine ⟨⟨rfl, Nat.le_of_ble_eq_true rfl⟩, ?_⟩ | refine ⟨_, _, _, _, rfl, hn, rfl, rfl, ?_⟩ | (refine ⟨_, _, rfl, ⟨rfl, rfl⟩, ?_⟩; try dsimp only [wipeE, List.set_cons_succ, List.set_cons_zero]) | (refine ⟨rfl, ?_⟩; try dsimp only [wipeE, List.set_cons_succ, List.set_cons_zero])))
      exact ⟨_, none, ⟨ns, i, c, sd, t, rfl, h1, h2, h3, h4⟩, rfl⟩
  · rintro fl s1 ⟨rfl, l', x, ⟨ns, i, c, sd, t, rfl, h1, h2, h3, h4⟩, rfl⟩
    dsimp only
    (repeat (first | refine p_var rfl ?_ | refine p_c ?_ | refine p_bin ?_ | refine p_cons ?_ | refine p_nil ?_ | refine p_seq ?_ | refine p_asg ?_ | refine p_sif ?_ | refine p_ret ?_ | refine p_bM ?_ | refine p_tM ?_ | refine p_cb ?_ | refine p_andM ?_ | refine p_orM ?_ | refine p_notM ?_ | refine p_chain ?_ | refine p_andV ?_ | refine p_orV ?_ | refine p_notV ?_ | refine p_ifM ?_ | refine p_tup ?_ | refine p_lst ?_ | refine p_call ?_ | refine p_callK ?_ | refine ⟨⟨⟨rfl, rfl⟩, rfl, rfl⟩, ⟨rfl, rfl⟩, ?_⟩ | refine p_setB ?_ | refine p_sl ?_ | refine p_osome ?_ | refine p_onone ?_ | refine p_snil ?_ | refine p_sexpr ?_ | refine p_retN ?_ | refine p_par ?_ | refine p_sh ?_ | refine p_brt rfl ?_ | refine p_brf rfl ?_ | refine ⟨_, rfl, ?_⟩ | refine ⟨⟨rfl, rfl⟩, ?_⟩ | refine ⟨⟨rfl, Nat.le_of_ble_eq_true rfl⟩, ?_⟩ | refine ⟨_, _, _, _, rfl, hn, rfl, rfl, ?_⟩ | (refine ⟨_, _, rfl, ⟨rfl, rfl⟩, ?_⟩; try dsimp only [wipeE, List.set_cons_succ, List.set_cons_zero]) | (refine ⟨rfl, ?_⟩; try dsimp only [wipeE, List.set_cons_succ, List.set_cons_zero]) | refine ⟨_, fIx_cel (cellL_set hn) rfl, ?_⟩))
    refine p_br (fun hc => ?_) fun hc => ?_
    · have hc : (0 : Int) < c := of_decide_eq_true hc
      (repeat (first | refine p_var rfl ?_ | refine p_c ?_ | refine p_bin ?_ | refine p_cons ?_ | refine p_nil ?_ | refine p_seq ?_ | refine p_asg ?_ | refine p_sif ?_ | refine p_ret ?_ | refine p_bM ?_ | refine p_tM ?_ | refine p_cb ?_ | refine p_andM ?_ | refine p_orM ?_ | refine p_notM ?_ | refine p_chain ?_ | refine p_andV ?_ | refine p_orV ?_ | refine p_notV ?_ | refine p_ifM ?_ | refine p_tup ?_ | refine p_lst ?_ | refine p_call ?_ | refine p_callK ?_ | refine ⟨⟨⟨rfl, rfl⟩, rfl, rfl⟩, ⟨rfl, rfl⟩, ?_⟩ | refine p_setB ?_ | refine p_sl ?_ | refine p_osome ?_ | refine p_onone ?_ | refine p_snil ?_ | refine p_sexpr ?_ | refine p_retN ?_ | refine p_par ?_ | refine p_sh ?_ | refine p_brt rfl ?_ | refine p_brf rfl ?_ | refine ⟨_, rfl, ?_⟩ | refine ⟨⟨rfl, rfl⟩, ?_⟩ | refine ⟨⟨rfl, Nat.le_of_ble_eq_true rfl⟩, ?_⟩ | refine ⟨_, _, _, _, rfl, hn, rfl, rfl, ?_⟩ | (refine ⟨_, _, rfl, ⟨rfl, rfl⟩, ?_⟩; try dsimp only [wipeE, List.set_cons_succ, List.set_cons_zero]) | (refine ⟨rfl, ?_⟩; try dsimp only [wipeE, List.set_cons_succ, List.set_cons_zero]) | refine ⟨_, fIx_cel (cellL_set hn) rfl, ?_⟩ | refine ⟨_, fMod_i (by omega), ?_⟩ | refine ⟨_, fFdv_i (by omega) (by omega), ?_⟩))
      refine ⟨_, _, rfl, (fmod_lt (by omega)).1, (fmod_lt (by omega)).2, ⟨ns, i, _, sd, t, rfl, h1, ?_, h3, h4⟩, rfl⟩
      exact Int.fdiv_nonneg (by omega) (by omega)
    · (repeat (first | refine p_var rfl ?_ | refine p_c ?_ | refine p_bin ?_ | refine p_cons ?_ | refine p_nil ?_ | refine p_seq ?_ | refine p_asg ?_ | refine p_sif ?_ | refine p_ret ?_ | refine p_bM ?_ | refine p_tM ?_ | refine p_cb ?_ | refine p_andM ?_ | refine p_orM ?_ | refine p_notM ?_ | refine p_chain ?_ | refine p_andV ?_ | refine p_orV ?_ | refine p_notV ?_ | refine p_ifM ?_ | refine p_tup ?_ | refine p_lst ?_ | refine p_call ?_ | refine p_callK ?_ | refine ⟨⟨⟨rfl, rfl⟩, rfl, rfl⟩, ⟨rfl, rfl⟩, ?_⟩ | refine p_setB ?_ | refine p_sl ?_ | refine p_osome ?_ | refine p_onone ?_ | refine p_snil ?_ | refine p_sexpr ?_ | refine p_retN ?_ | refine p_par ?_ | refine p_sh ?_ | refine p_brt rfl ?_ | refine p_brf rfl ?_ | refine ⟨_, rfl, ?_⟩ | refine ⟨⟨rfl, rfl⟩, ?_⟩ | refine ⟨⟨rfl, Nat.le_of_ble_eq_true rfl⟩, ?_⟩ | refine ⟨_, _, _, _, rfl, hn, rfl, rfl, ?_⟩ | (refine ⟨_, _, rfl, ⟨rfl, rfl⟩, ?_⟩; try dsimp only [wipeE, List.set_cons_succ, List.set_cons_zero]) | (refine ⟨rfl, ?_⟩; try dsimp only [wipeE, List.set_cons_succ, List.set_cons_zero]) | refine ⟨_, fIx_cel (cellL_set hn) rfl, ?_⟩ | refine ⟨_, fMod_i (by omega), ?_⟩ | refine ⟨_, fFdv_i (by omega) (by omega), ?_⟩ | refine ⟨_, fMul_l (by omega), ?_⟩ | refine ⟨_, fMul_r (by omega), ?_⟩))
      exact ⟨_, _, rfl, (fmod_lt (by omega)).1, (fmod_lt (by omega)).2, ⟨ns, i, c, _, _, rfl, h1, h2, (fmod_lt (by decide)).1, (fmod_lt (by decide)).2⟩, rfl⟩
end
end Lp

set_option Elab.async false
set_option linter.all false
set_option maxRecDepth 100000
set_option maxHeartbeats 4000000
/-! Lq3: choices from the bag. -/
namespace Lp
open PySem PySem.Spec PyProof.Rows L2
noncomputable def ofMb : MS := (sRet (eBin fIx (eVar 1) (eCall 2 drawM (aCons (eVar 0) (aCons (eCB bLen (aCons (eVar 1) aNil)) aNil)))))
noncomputable def ofMx : MS := (xSRet (xEBin fIx (xEVar 1) (xECall 2 drawM (xACons (xEVar 0) (xACons (xECB bLen (xACons (xEVar 1) xANil)) xANil)))))
theorem ofM_x : ofMb = ofMx := by kernel_rfl
@[irreducible] noncomputable def ofM : MF := mkF 0 ofMb
/-- the bag stands at n -/
def BagAt (h : AH) (n : Nat) (h' : AH) : Prop := ∃ l, Bag l ∧ h' = h.set n (some (.lst l))
section
theorem draw_at {h h1 : AH} {n : Nat} (hn : n < h.length) (b : BagAt h n h1) {k : Int} (hk : 1 ≤ k) (hk2 : k < 1073741824) : (drawM [.cel n, .int k] h1).post (fun v h' => (∃ d, v = .int d ∧ 0 ≤ d ∧ d < k) ∧ BagAt h n h') NE := by
  obtain ⟨l, b, rfl⟩ := b
  exact p_mono (draw_spec hn b hk hk2) (fun v h' ⟨d, l', e, h1, h2, b, e'⟩ => ⟨⟨d, e, h1, h2⟩, l', b, e'⟩) fun _ _ z => z
theorem atI_of {α : Type} {xs : List α} {d : Int} (h0 : 0 ≤ d) (h1 : d < xs.length) : ∃ x, atI xs d = some x ∧ x ∈ xs := by
  unfold atI ixN
  rw [if_pos h0, if_pos h1]
  have : d.toNat < xs.length := by omega
  exact ⟨xs[d.toNat], by show xs[d.toNat]? = _; exact List.getElem?_eq_getElem this, List.getElem_mem this⟩
theorem fIx_lst {h : AH} {xs : List PV} {i : Int} : fIx h (.lst xs) (.int i) = atI xs i := rfl
theorem fIx_tup {h : AH} {xs : List PV} {i : Int} : fIx h (.tup xs) (.int i) = atI xs i := rfl
theorem fIx_str {h : AH} {x : Str} {i : Int} : fIx h (.str x) (.int i) = (atI x.cps.toList i).map fun c => .str ⟨#[c]⟩ := rfl
theorem of_lst {h h1 : AH} {n : Nat} (hn : n < h.length) (b : BagAt h n h1) {xs : List PV} (h0 : 1 ≤ xs.length) (h2 : xs.length < 1073741824) (hs : allSh xs = true) :
    (ofM [.cel n, .lst xs] h1).post (fun v h' => v ∈ xs ∧ BagAt h n h') NE := by
  unfold ofM
  rw [ofM_x]
  unfold ofMx
  refine p_mkF [some (.cel n), some (.lst xs)] rfl ?_
  (repeat (first | refine p_var rfl ?_ | refine p_c ?_ | refine p_bin ?_ | refine p_cons ?_ | refine p_nil ?_ | refine p_seq ?_ | refine p_asg ?_ | refine p_sif ?_ | refine p_ret ?_ | refine p_bM ?_ | refine p_tM ?_ | refine p_cb ?_ | refine p_andM ?_ | refine p_orM ?_ | refine p_notM ?_ | refine p_chain ?_ | refine p_andV ?_ | refine p_orV ?_ | refine p_notV ?_ | refine p_ifM ?_ | refine p_tup ?_ | refine p_lst ?_ | refine p_call ?_ | refine p_callK ?_ | refine ⟨⟨⟨rfl, rfl⟩, rfl, rfl⟩, ⟨rfl, rfl⟩, ?_⟩ | refine p_setB ?_ | refine p_sl ?_ | refine p_osome ?_ | refine p_onone ?_ | refine p_snil ?_ | refine p_sexpr ?_ | refine p_retN ?_ | refine p_par ?_ | refine p_sh ?_ | refine p_brt rfl ?_ | refine p_brf rfl ?_ | refine ⟨_, rfl, ?_⟩ | refine ⟨⟨rfl, rfl⟩, ?_⟩ | refine ⟨⟨rfl, Nat.le_of_ble_eq_true rfl⟩, ?_⟩ | refine ⟨_, _, _, _, rfl, hn, rfl, rfl, ?_⟩ | (refine ⟨_, _, rfl, ⟨rfl, rfl⟩, ?_⟩; try dsimp only [wipeE, List.set_cons_succ, List.set_cons_zero]) | (refine ⟨rfl, ?_⟩; try dsimp only [wipeE, List.set_cons_succ, List.set_cons_zero])))
  refine p_spec (draw_at hn b (k := (xs.length : Int)) (by omega) (by omega)) fun v h' ⟨⟨d, e, d0, d1⟩, b'⟩ => ?_
  subst e
  obtain ⟨x, ex, hx⟩ := atI_of (xs := xs) d0 (by simpa using d1)
  refine ⟨x, ex, ?_, hx, b'⟩
  unfold allSh at hs
  have := List.all_eq_true.mp hs x hx
  simpa using this
theorem of_str {h h1 : AH} {n : Nat} (hn : n < h.length) (b : BagAt h n h1) {x : Str} (h0 : 1 ≤ x.length) (h2 : x.length < 1073741824) :
    (ofM [.cel n, .str x] h1).post (fun v h' => (∃ c ∈ x.cps.toList, v = .str ⟨#[c]⟩) ∧ BagAt h n h') NE := by
  unfold ofM
  rw [ofM_x]
  unfold ofMx
  refine p_mkF [some (.cel n), some (.str x)] rfl ?_
  (repeat (first | refine p_var rfl ?_ | refine p_c ?_ | refine p_bin ?_ | refine p_cons ?_ | refine p_nil ?_ | refine p_seq ?_ | refine p_asg ?_ | refine p_sif ?_ | refine p_ret ?_ | refine p_bM ?_ | refine p_tM ?_ | refine p_cb ?_ | refine p_andM ?_ | refine p_orM ?_ | refine p_notM ?_ | refine p_chain ?_ | refine p_andV ?_ | refine p_orV ?_ | refine p_notV ?_ | refine p_ifM ?_ | refine p_tup ?_ | refine p_lst ?_ | refine p_call ?_ | refine p_callK ?_ | refine ⟨⟨⟨rfl, rfl⟩, rfl, rfl⟩, ⟨rfl, rfl⟩, ?_⟩ | refine p_setB ?_ | refine p_sl ?_ | refine p_osome ?_ | refine p_onone ?_ | refine p_snil ?_ | refine p_sexpr ?_ | refine p_retN ?_ | refine p_par ?_ | refine p_sh ?_ | refine p_brt rfl ?_ | refine p_brf rfl ?_ | refine ⟨_, rfl, ?_⟩ | refine ⟨⟨rfl, rfl⟩, ?_⟩ | refine ⟨⟨rfl, Nat.le_of_ble_eq_true rfl⟩, ?_⟩ | refine ⟨_, _, _, _, rfl, hn, rfl, rfl, ?_⟩ | (refine ⟨_, _, rfl, ⟨rfl, rfl⟩, ?_⟩; try dsimp only [wipeE, List.set_cons_succ, List.set_cons_zero]) | (refine ⟨rfl, ?_⟩; try dsimp only [wipeE, List.set_cons_succ, List.set_cons_zero])))
  refine p_spec (draw_at hn b (k := (x.length : Int)) (by omega) (by omega)) fun v h' ⟨⟨d, e, d0, d1⟩, b'⟩ => ?_
  subst e
  obtain ⟨c, ec, hc⟩ := atI_of (xs := x.cps.toList) d0 (by simpa [Str.length] using d1)
  refine ⟨.str ⟨#[c]⟩, by rw [fIx_str, ec]; rfl, rfl, ⟨c, hc, rfl⟩, b'⟩
end
end Lp

set_option Elab.async false
set_option linter.all false
set_option maxRecDepth 100000
set_option maxHeartbeats 4000000
/-! Lq4: plain data. -/
namespace Lp
open PySem PySem.Spec PyProof.Rows L2
/-- plain values: None, bools, ints, texts, tuples, lists (frozen) -/
def Pl : PV → Prop
  | .non => True
  | .bl _ => True
  | .int _ => True
  | .str _ => True
  | .tup _ => True
  | .lst _ => True
  | _ => False
def tyP : PV → BT
  | .non => .non
  | .bl _ => .bl
  | .int _ => .int
  | .str _ => .str
  | .tup _ => .tup
  | _ => .lst
theorem tyN_pl {v : PV} (p : Pl v) (h : AH) : tyN h v = some (tyP v) := by cases v <;> first | rfl | exact p.elim
theorem pl_own {v : PV} (p : Pl v) : isOwn v = false := by cases v <;> first | rfl | exact p.elim
theorem isi_p {h : AH} {v : PV} {u : BT} {n : String} (p : Pl v) (e2 : BT.of n = some u) : bIsi h [v, .ty n] = some (.bl (subT (tyP v) u)) := by
  show ((tyN h v).bind fun t => (BT.of n).map fun u => PV.bl (subT t u)) = _
  rw [tyN_pl p, e2]; rfl
theorem isi_t {h : AH} {v : PV} {us : List BT} {cs : List PV} (p : Pl v) (e2 : tysOf cs = some us) : bIsi h [v, .tup cs] = some (.bl (us.any (subT (tyP v)))) := by
  show ((tyN h v).bind fun t => (tysOf cs).map fun us => PV.bl (us.any (subT t))) = _
  rw [tyN_pl p, e2]; rfl
/-- items told one by one -/
theorem take_step {α : Type} {xs : List α} {j : Nat} {x : α} (e : xs[j]? = some x) : xs.take (j + 1) = xs.take j ++ [x] := by
  obtain ⟨h, rfl⟩ := List.getElem?_eq_some_iff.mp e
  rw [List.take_succ, List.getElem?_eq_getElem h]; rfl
theorem mapM_bls (bs : List Bool) : (bs.map PV.bl).mapM blOf = some bs := by
  induction bs with
  | nil => rfl
  | cons b bs ih => rw [List.map_cons, List.mapM_cons, ih]; rfl
theorem all_bls {h : AH} (bs : List Bool) : bAll h [.lst (bs.map PV.bl)] = some (.bl (bs.all fun b => b)) := by
  show ((bs.map PV.bl).mapM blOf).map _ = _
  rw [mapM_bls]; rfl
theorem any_bls {h : AH} (bs : List Bool) : bAny h [.lst (bs.map PV.bl)] = some (.bl (bs.any fun b => b)) := by
  show ((bs.map PV.bl).mapM blOf).map _ = _
  rw [mapM_bls]; rfl
theorem all_map {h : AH} {xs : List PV} (f : PV → Bool) : bAll h [.lst (xs.map fun v => .bl (f v))] = some (.bl ((xs.map f).all fun b => b)) := by
  rw [show (xs.map fun v => PV.bl (f v)) = (xs.map f).map PV.bl by rw [List.map_map]; rfl]
  exact all_bls _
/-! a comprehension without conditions whose elements are told by a function -/
section
variable {PA : List PV → S → Prop} {E : PV → S → Prop} {s : S}
theorem p_compMap {src : S → R S Sr} {t : Tg} {te : ME} {vs : List Nat}
    (h : (src s).post (fun r s1 => r.w = [] ∧ ∃ f : PV → PV, (∀ v ∈ r.xs, ∃ e1, bindT t v (wipeE s1.e vs) = some e1 ∧ (te ⟨e1, s1.h⟩).post (fun y s3 => y = f v ∧ isOwn y = false ∧ wipeE s3.e vs = wipeE s1.e vs ∧ s3.h = s1.h) NE) ∧ PA (r.xs.map f) ⟨wipeE s1.e vs, s1.h⟩) E) :
    (xECompN src t testY te vs s).post PA E := by
  refine p_compN (p_mono h (fun r s1 ⟨hw, f, hs, hn⟩ => ⟨hw, fun j acc h => acc = (r.xs.take j).map f ∧ h = s1.h, ⟨rfl, rfl⟩, fun j v acc h e ⟨i1, i2⟩ => ?_, fun acc h ⟨i1, i2⟩ => ?_⟩) fun _ _ z => z)
  · obtain ⟨e1, eb, q⟩ := hs v (List.mem_of_getElem? e)
    subst i2
    refine ⟨e1, eb, p_ok (p_brt rfl (p_mono q (fun y s3 ⟨ey, o, w, eh⟩ => ⟨o, w, ?_, eh⟩) fun _ _ z => z))⟩
    rw [take_step e, List.map_append, i1, ey]; rfl
  · rw [i1, i2, List.take_length]; exact hn
end
end Lp

set_option Elab.async false
set_option linter.all false
set_option maxRecDepth 100000
set_option maxHeartbeats 4000000
/-! Lq5: alike. -/
namespace Lp
open PySem PySem.Spec PyProof.Rows L2
@[irreducible] def xSRng1 (m : MA) : S → R S Sr := sRng1 m
@[irreducible] def xSRng2 (m : MA) : S → R S Sr := sRng2 m
@[irreducible] def xSZip (m : MA) : S → R S Sr := sZip m
noncomputable def likeB (m : MF) : MS := (sSeq (sIf (tM (eCB bIsi (aCons (eVar 1) (aCons (eTup (aCons (eC (.ty "list")) (aCons (eC (.ty "tuple")) aNil))) aNil)))) (sSeq (sIf (orM (bM (eBin fNe (eCB bIsi (aCons (eVar 0) (aCons (eC (.ty "list")) aNil))) (eCB bIsi (aCons (eVar 1) (aCons (eC (.ty "list")) aNil))))) (bM (eBin fNe (eCB bIsi (aCons (eVar 0) (aCons (eC (.ty "tuple")) aNil))) (eCB bIsi (aCons (eVar 1) (aCons (eC (.ty "tuple")) aNil)))))) (sRet (eC (.bl false))) sNil)
  (sRet (andV (eBin fEq (eCB bLen (aCons (eVar 0) aNil)) (eCB bLen (aCons (eVar 1) aNil))) (eCB bAll (aCons (shN (eCompN (sZip (aCons (eVar 0) (aCons (eVar 1) aNil))) (.t [(.n 2), (.n 3)]) testY (eCall 2 m (aCons (eVar 2) (aCons (eVar 3) aNil))) [2, 3])) aNil))))) sNil)
  (sSeq (sIf (orM (bM (eBin fIsN (eVar 1) (eC .non))) (bM (eBin fIsN (eVar 0) (eC .non)))) (sRet (andV (eBin fIsN (eVar 1) (eC .non)) (eBin fIsN (eVar 0) (eC .non)))) sNil)
  (sSeq (sIf (orM (bM (eBin fNe (eCB bIsi (aCons (eVar 0) (aCons (eC (.ty "bool")) aNil))) (eCB bIsi (aCons (eVar 1) (aCons (eC (.ty "bool")) aNil))))) (bM (eBin fNe (eCB bIsi (aCons (eVar 0) (aCons (eC (.ty "int")) aNil))) (eCB bIsi (aCons (eVar 1) (aCons (eC (.ty "int")) aNil)))))) (sRet (eC (.bl false))) sNil)
  (sRet (andV (eBin fEq (eCB bIsi (aCons (eVar 0) (aCons (eC (.ty "str")) aNil))) (eCB bIsi (aCons (eVar 1) (aCons (eC (.ty "str")) aNil)))) (eBin fEq (eVar 0) (eVar 1)))))))
noncomputable def likeX (m : MF) : MS := (xSSeq (xSIf (xTM (xECB bIsi (xACons (xEVar 1) (xACons (xETup (xACons (xEC (.ty "list")) (xACons (xEC (.ty "tuple")) xANil))) xANil)))) (xSSeq (xSIf (xOrM (xBM (xEBin fNe (xECB bIsi (xACons (xEVar 0) (xACons (xEC (.ty "list")) xANil))) (xECB bIsi (xACons (xEVar 1) (xACons (xEC (.ty "list")) xANil))))) (xBM (xEBin fNe (xECB bIsi (xACons (xEVar 0) (xACons (xEC (.ty "tuple")) xANil))) (xECB bIsi (xACons (xEVar 1) (xACons (xEC (.ty "tuple")) xANil)))))) (xSRet (xEC (.bl false))) xSNil)
  (xSRet (xAndV (xEBin fEq (xECB bLen (xACons (xEVar 0) xANil)) (xECB bLen (xACons (xEVar 1) xANil))) (xECB bAll (xACons (xShN (xECompN (xSZip (xACons (xEVar 0) (xACons (xEVar 1) xANil))) (.t [(.n 2), (.n 3)]) testY (xECall 2 m (xACons (xEVar 2) (xACons (xEVar 3) xANil))) [2, 3])) xANil))))) xSNil)
  (xSSeq (xSIf (xOrM (xBM (xEBin fIsN (xEVar 1) (xEC .non))) (xBM (xEBin fIsN (xEVar 0) (xEC .non)))) (xSRet (xAndV (xEBin fIsN (xEVar 1) (xEC .non)) (xEBin fIsN (xEVar 0) (xEC .non)))) xSNil)
  (xSSeq (xSIf (xOrM (xBM (xEBin fNe (xECB bIsi (xACons (xEVar 0) (xACons (xEC (.ty "bool")) xANil))) (xECB bIsi (xACons (xEVar 1) (xACons (xEC (.ty "bool")) xANil))))) (xBM (xEBin fNe (xECB bIsi (xACons (xEVar 0) (xACons (xEC (.ty "int")) xANil))) (xECB bIsi (xACons (xEVar 1) (xACons (xEC (.ty "int")) xANil)))))) (xSRet (xEC (.bl false))) xSNil)
  (xSRet (xAndV (xEBin fEq (xECB bIsi (xACons (xEVar 0) (xACons (xEC (.ty "str")) xANil))) (xECB bIsi (xACons (xEVar 1) (xACons (xEC (.ty "str")) xANil)))) (xEBin fEq (xEVar 0) (xEVar 1)))))))
theorem likeB_x (m : MF) : likeB m = likeX m := by kernel_rfl
noncomputable def likeM0 : Nat → MF
  | 0 => fun _ _ => .bad
  | n + 1 => mkF 2 (likeB (likeM0 n))
@[irreducible] noncomputable def likeM (n : Nat) : MF := likeM0 n
/-- plain through and through, nested at most so deep -/
def DPl : Nat → PV → Prop
  | _, .non => True
  | _, .bl _ => True
  | _, .int _ => True
  | _, .str _ => True
  | n + 1, .tup xs => ∀ x ∈ xs, DPl n x
  | n + 1, .lst xs => ∀ x ∈ xs, DPl n x
  | _, _ => False
def plB : PV → Bool
  | .non => true
  | .bl _ => true
  | .int _ => true
  | .str _ => true
  | .tup _ => true
  | .lst _ => true
  | _ => false
theorem pl_of {v : PV} (h : plB v = true) : Pl v := by cases v <;> first | trivial | cases h
theorem pl_all {xs : List PV} (h : xs.all plB = true) : ∀ v ∈ xs, Pl v := fun v hv => pl_of (List.all_eq_true.mp h v hv)
def dplB : Nat → PV → Bool
  | _, .non => true
  | _, .bl _ => true
  | _, .int _ => true
  | _, .str _ => true
  | n + 1, .tup xs => xs.all (dplB n)
  | n + 1, .lst xs => xs.all (dplB n)
  | _, _ => false
theorem dpl_of : ∀ {n : Nat} {v : PV}, dplB n v = true → DPl n v
  | 0, v, h => by cases v <;> first | trivial | cases h
  | n + 1, v, h => by
    cases v with
    | tup xs => exact fun x hx => dpl_of (List.all_eq_true.mp h x hx)
    | lst xs => exact fun x hx => dpl_of (List.all_eq_true.mp h x hx)
    | _ => first | trivial | cases h
theorem DPl.pl : ∀ {n : Nat} {v : PV}, DPl n v → Pl v := fun {n v} h => by
  cases n <;> cases v <;> first | trivial | exact h.elim
theorem eqv_refl_int (i : Int) : PyData.eqv (.int i) (.int i) = true := by rw [eqv_int]; simp
theorem eqv_str (x y : Str) : PyData.eqv (.str x) (.str y) = decide (x = y) := by
  first | rfl | (simp [PyData.eqv]; done) | (show (x == y) = _; rfl)
theorem eqv_bool (x y : Bool) : PyData.eqv (.bool x) (.bool y) = decide (x = y) := by
  cases x <;> cases y <;> rfl
section
variable {P : PV → S → Prop} {PS : Sr → S → Prop} {E : PV → S → Prop} {s : S} {ma : MA}
theorem p_zip (h : (ma s).post (fun vs s1 => (∃ xs ys, vs = [.tup xs, .tup ys] ∧ PS ⟨zipP xs ys, [], false⟩ s1) ∨ ∃ xs ys, vs = [.lst xs, .lst ys] ∧ PS ⟨zipP xs ys, [], false⟩ s1) E) : (xSZip ma s).post PS E := by
  unfold xSZip
  exact p_bind (p_mono h (fun vs s1 q => by
    rcases q with ⟨xs, ys, rfl, q⟩ | ⟨xs, ys, rfl, q⟩
    · exact q
    · exact q) fun _ _ z => z)
theorem p_rng1 (h : (ma s).post (fun vs s1 => ∃ j, vs = [.int j] ∧ j.natAbs ≤ 16777216 ∧ PS ⟨(List.range j.toNat).map fun (k : Nat) => .int k, [], false⟩ s1) E) : (xSRng1 ma s).post PS E := by
  unfold xSRng1
  exact p_bind (p_mono h (fun vs s1 ⟨j, e, hj, q⟩ => by subst e; simp only [if_pos hj]; exact q) fun _ _ z => z)
theorem p_rng2 (h : (ma s).post (fun vs s1 => ∃ i j, vs = [.int i, .int j] ∧ (i.natAbs < 4611686018427387904 ∧ j.natAbs < 4611686018427387904 ∧ j - i ≤ 16777216) ∧ PS ⟨(List.range (j - i).toNat).map fun (k : Nat) => .int (i + k), [], false⟩ s1) E) : (xSRng2 ma s).post PS E := by
  unfold xSRng2
  exact p_bind (p_mono h (fun vs s1 ⟨i, j, e, hj, q⟩ => by subst e; simp only [if_pos hj]; exact q) fun _ _ z => z)
theorem p_loopS {x : MS} {PF : Fl → S → Prop} {xs : List PV} {i : Nat} {o : Bool} (hi : i < s.e.length) (hs : ∀ v ∈ xs, isOwn v = false ∧ (x ⟨s.e.set i (some v), s.h⟩).post (fun fl s' => fl = .nx ∧ s' = ⟨s.e.set i (some v), s.h⟩) E) (hn : ∀ z, PF .nx ⟨s.e.set i z, s.h⟩) : (loopF ⟨xs, [], o⟩ (.n i) x xs s).post PF E := by
  refine p_loop (fun _ s' => ∃ z, s' = ⟨s.e.set i z, s.h⟩) ⟨s.e[i], by rw [List.set_getElem_self]⟩ (fun j v s' e ⟨z, es⟩ => ?_) fun s' ⟨z, es⟩ => ?_
  · obtain ⟨h1, h2⟩ := hs v (List.mem_of_getElem? e)
    subst es
    refine ⟨s.e.set i (some v), by show (if isOwn v = true then none else some ((s.e.set i z).set i (some v))) = _; rw [h1, List.set_set]; rfl, ?_⟩
    refine p_mono h2 (fun fl s'' ⟨q1, q2⟩ => ?_) fun _ _ z => z
    subst q1
    exact ⟨_, q2⟩
  · subst es
    exact hn z
theorem zip_self {xs : List PV} {v : PV} (h : v ∈ zipP xs xs) : ∃ x ∈ xs, v = .tup [x, x] := by
  unfold zipP at h
  induction xs with
  | nil => cases h
  | cons y ys ih =>
    rw [List.zipWith_cons_cons] at h
    rcases List.mem_cons.mp h with h | h
    · exact ⟨y, by simp, h⟩
    · obtain ⟨x, hx, e⟩ := ih h
      exact ⟨x, List.mem_cons_of_mem _ hx, e⟩
end
section
theorem all_true {h : AH} (xs : List PV) : bAll h [.lst (xs.map fun _ => PV.bl true)] = some (.bl true) := by
  rw [all_map fun _ => true]
  congr 2
  rw [List.all_eq_true]
  intro x hx
  obtain ⟨_, _, rfl⟩ := List.mem_map.mp hx
  rfl
theorem like_sc {m : MF} {v : PV} {h : AH} (d : DPl 0 v) : (mkF 2 (likeB m) [v, v] h).post (fun r h' => r = .bl true ∧ h' = h) NE := by
  rw [likeB_x]
  unfold likeX
  refine p_mkF [some v, some v, none, none] rfl ?_
  cases v with
  | non => (repeat (first | refine p_var rfl ?_ | refine p_c ?_ | refine p_bin ?_ | refine p_cons ?_ | refine p_nil ?_ | refine p_seq ?_ | refine p_asg ?_ | refine p_sif ?_ | refine p_ret ?_ | refine p_bM ?_ | refine p_tM ?_ | refine p_cb ?_ | refine p_andM ?_ | refine p_orM ?_ | refine p_notM ?_ | refine p_chain ?_ | refine p_andV ?_ | refine p_orV ?_ | refine p_notV ?_ | refine p_ifM ?_ | refine p_tup ?_ | refine p_lst ?_ | refine p_call ?_ | refine p_callK ?_ | refine ⟨⟨⟨rfl, rfl⟩, rfl, rfl⟩, ⟨rfl, rfl⟩, ?_⟩ | refine p_setB ?_ | refine p_sl ?_ | refine p_osome ?_ | refine p_onone ?_ | refine p_snil ?_ | refine p_sexpr ?_ | refine p_retN ?_ | refine p_par ?_ | refine p_sh ?_ | refine p_brt rfl ?_ | refine p_brf rfl ?_ | refine ⟨_, rfl, ?_⟩ | refine ⟨⟨rfl, rfl⟩, ?_⟩ | refine ⟨⟨rfl, Nat.le_of_ble_eq_true rfl⟩, ?_⟩ | refine ⟨_, _, _, _, rfl, hn, rfl, rfl, ?_⟩ | (refine ⟨_, _, rfl, ⟨rfl, rfl⟩, ?_⟩; try dsimp only [wipeE, List.set_cons_succ, List.set_cons_zero]) | (refine ⟨rfl, ?_⟩; try dsimp only [wipeE, List.set_cons_succ, List.set_cons_zero])))
  | bl b =>
    (repeat (first | refine p_var rfl ?_ | refine p_c ?_ | refine p_bin ?_ | refine p_cons ?_ | refine p_nil ?_ | refine p_seq ?_ | refine p_asg ?_ | refine p_sif ?_ | refine p_ret ?_ | refine p_bM ?_ | refine p_tM ?_ | refine p_cb ?_ | refine p_andM ?_ | refine p_orM ?_ | refine p_notM ?_ | refine p_chain ?_ | refine p_andV ?_ | refine p_orV ?_ | refine p_notV ?_ | refine p_ifM ?_ | refine p_tup ?_ | refine p_lst ?_ | refine p_call ?_ | refine p_callK ?_ | refine ⟨⟨⟨rfl, rfl⟩, rfl, rfl⟩, ⟨rfl, rfl⟩, ?_⟩ | refine p_setB ?_ | refine p_sl ?_ | refine p_osome ?_ | refine p_onone ?_ | refine p_snil ?_ | refine p_sexpr ?_ | refine p_retN ?_ | refine p_par ?_ | refine p_sh ?_ | refine p_brt rfl ?_ | refine p_brf rfl ?_ | refine ⟨_, rfl, ?_⟩ | refine ⟨⟨rfl, rfl⟩, ?_⟩ | refine ⟨⟨rfl, Nat.le_of_ble_eq_true rfl⟩, ?_⟩ | refine ⟨_, _, _, _, rfl, hn, rfl, rfl, ?_⟩ | (refine ⟨_, _, rfl, ⟨rfl, rfl⟩, ?_⟩; try dsimp only [wipeE, List.set_cons_succ, List.set_cons_zero]) | (refine ⟨rfl, ?_⟩; try dsimp only [wipeE, List.set_cons_succ, List.set_cons_zero])))
    exact ⟨by rw [eqv_bool, decide_eq_true rfl], rfl⟩
  | int i =>
    (repeat (first | refine p_var rfl ?_ | refine p_c ?_ | refine p_bin ?_ | refine p_cons ?_ | refine p_nil ?_ | refine p_seq ?_ | refine p_asg ?_ | refine p_sif ?_ | refine p_ret ?_ | refine p_bM ?_ | refine p_tM ?_ | refine p_cb ?_ | refine p_andM ?_ | refine p_orM ?_ | refine p_notM ?_ | refine p_chain ?_ | refine p_andV ?_ | refine p_orV ?_ | refine p_notV ?_ | refine p_ifM ?_ | refine p_tup ?_ | refine p_lst ?_ | refine p_call ?_ | refine p_callK ?_ | refine ⟨⟨⟨rfl, rfl⟩, rfl, rfl⟩, ⟨rfl, rfl⟩, ?_⟩ | refine p_setB ?_ | refine p_sl ?_ | refine p_osome ?_ | refine p_onone ?_ | refine p_snil ?_ | refine p_sexpr ?_ | refine p_retN ?_ | refine p_par ?_ | refine p_sh ?_ | refine p_brt rfl ?_ | refine p_brf rfl ?_ | refine ⟨_, rfl, ?_⟩ | refine ⟨⟨rfl, rfl⟩, ?_⟩ | refine ⟨⟨rfl, Nat.le_of_ble_eq_true rfl⟩, ?_⟩ | refine ⟨_, _, _, _, rfl, hn, rfl, rfl, ?_⟩ | (refine ⟨_, _, rfl, ⟨rfl, rfl⟩, ?_⟩; try dsimp only [wipeE, List.set_cons_succ, List.set_cons_zero]) | (refine ⟨rfl, ?_⟩; try dsimp only [wipeE, List.set_cons_succ, List.set_cons_zero])))
    exact ⟨by rw [eqv_int, decide_eq_true rfl], rfl⟩
  | str x =>
    (repeat (first | refine p_var rfl ?_ | refine p_c ?_ | refine p_bin ?_ | refine p_cons ?_ | refine p_nil ?_ | refine p_seq ?_ | refine p_asg ?_ | refine p_sif ?_ | refine p_ret ?_ | refine p_bM ?_ | refine p_tM ?_ | refine p_cb ?_ | refine p_andM ?_ | refine p_orM ?_ | refine p_notM ?_ | refine p_chain ?_ | refine p_andV ?_ | refine p_orV ?_ | refine p_notV ?_ | refine p_ifM ?_ | refine p_tup ?_ | refine p_lst ?_ | refine p_call ?_ | refine p_callK ?_ | refine ⟨⟨⟨rfl, rfl⟩, rfl, rfl⟩, ⟨rfl, rfl⟩, ?_⟩ | refine p_setB ?_ | refine p_sl ?_ | refine p_osome ?_ | refine p_onone ?_ | refine p_snil ?_ | refine p_sexpr ?_ | refine p_retN ?_ | refine p_par ?_ | refine p_sh ?_ | refine p_brt rfl ?_ | refine p_brf rfl ?_ | refine ⟨_, rfl, ?_⟩ | refine ⟨⟨rfl, rfl⟩, ?_⟩ | refine ⟨⟨rfl, Nat.le_of_ble_eq_true rfl⟩, ?_⟩ | refine ⟨_, _, _, _, rfl, hn, rfl, rfl, ?_⟩ | (refine ⟨_, _, rfl, ⟨rfl, rfl⟩, ?_⟩; try dsimp only [wipeE, List.set_cons_succ, List.set_cons_zero]) | (refine ⟨rfl, ?_⟩; try dsimp only [wipeE, List.set_cons_succ, List.set_cons_zero])))
    exact ⟨by rw [eqv_str, decide_eq_true rfl], rfl⟩
  | _ => exact d.elim
theorem like_sq {m : MF} {v : PV} {xs : List PV} {h : AH} (hv : v = .tup xs ∨ v = .lst xs) (hp : ∀ x ∈ xs, Pl x) (ih : ∀ x ∈ xs, (m [x, x] h).post (fun r h' => r = .bl true ∧ h' = h) NE) :
    (mkF 2 (likeB m) [v, v] h).post (fun r h' => r = .bl true ∧ h' = h) NE := by
  have item : ∀ (w : PV), w ∈ zipP xs xs → ∀ (u : PV), Pl u → ∃ e1, bindT (.t [(.n 2), (.n 3)]) w (wipeE [some u, some u, none, none] [2, 3]) = some e1 ∧
      (xECall 2 m (xACons (xEVar 2) (xACons (xEVar 3) xANil)) ⟨e1, h⟩).post (fun y s3 => y = (fun _ => PV.bl true) w ∧ isOwn y = false ∧ wipeE s3.e [2, 3] = wipeE [some u, some u, none, none] [2, 3] ∧ s3.h = h) NE := fun w hw u pu => by
    obtain ⟨x, hx, rfl⟩ := zip_self hw
    have ox : isOwn x = false := pl_own (hp x hx)
    refine ⟨[some u, some u, some x, some x], by simp [bindT, bindTs, wipeE, ox], ?_⟩
    (repeat (first | refine p_var rfl ?_ | refine p_c ?_ | refine p_bin ?_ | refine p_cons ?_ | refine p_nil ?_ | refine p_seq ?_ | refine p_asg ?_ | refine p_sif ?_ | refine p_ret ?_ | refine p_bM ?_ | refine p_tM ?_ | refine p_cb ?_ | refine p_andM ?_ | refine p_orM ?_ | refine p_notM ?_ | refine p_chain ?_ | refine p_andV ?_ | refine p_orV ?_ | refine p_notV ?_ | refine p_ifM ?_ | refine p_tup ?_ | refine p_lst ?_ | refine p_call ?_ | refine p_callK ?_ | refine ⟨⟨⟨rfl, rfl⟩, rfl, rfl⟩, ⟨rfl, rfl⟩, ?_⟩ | refine p_setB ?_ | refine p_sl ?_ | refine p_osome ?_ | refine p_onone ?_ | refine p_snil ?_ | refine p_sexpr ?_ | refine p_retN ?_ | refine p_par ?_ | refine p_sh ?_ | refine p_brt rfl ?_ | refine p_brf rfl ?_ | refine ⟨_, rfl, ?_⟩ | refine ⟨⟨rfl, rfl⟩, ?_⟩ | refine ⟨⟨rfl, Nat.le_of_ble_eq_true rfl⟩, ?_⟩ | refine ⟨_, _, _, _, rfl, hn, rfl, rfl, ?_⟩ | (refine ⟨_, _, rfl, ⟨rfl, rfl⟩, ?_⟩; try dsimp only [wipeE, List.set_cons_succ, List.set_cons_zero]) | (refine ⟨rfl, ?_⟩; try dsimp only [wipeE, List.set_cons_succ, List.set_cons_zero]) | refine ⟨⟨rfl, by simp [allSh, ox]⟩, p_spec (ih x hx) fun r h' z => ?_⟩))
    obtain ⟨rfl, rfl⟩ := z
    exact ⟨rfl, rfl, rfl, rfl⟩
  rw [likeB_x]
  unfold likeX
  refine p_mkF [some v, some v, none, none] rfl ?_
  rcases hv with rfl | rfl
  · (repeat (first | refine p_var rfl ?_ | refine p_c ?_ | refine p_bin ?_ | refine p_cons ?_ | refine p_nil ?_ | refine p_seq ?_ | refine p_asg ?_ | refine p_sif ?_ | refine p_ret ?_ | refine p_bM ?_ | refine p_tM ?_ | refine p_cb ?_ | refine p_andM ?_ | refine p_orM ?_ | refine p_notM ?_ | refine p_chain ?_ | refine p_andV ?_ | refine p_orV ?_ | refine p_notV ?_ | refine p_ifM ?_ | refine p_tup ?_ | refine p_lst ?_ | refine p_call ?_ | refine p_callK ?_ | refine ⟨⟨⟨rfl, rfl⟩, rfl, rfl⟩, ⟨rfl, rfl⟩, ?_⟩ | refine p_setB ?_ | refine p_sl ?_ | refine p_osome ?_ | refine p_onone ?_ | refine p_snil ?_ | refine p_sexpr ?_ | refine p_retN ?_ | refine p_par ?_ | refine p_sh ?_ | refine p_brt rfl ?_ | refine p_brf rfl ?_ | refine ⟨_, rfl, ?_⟩ | refine ⟨⟨rfl, rfl⟩, ?_⟩ | refine ⟨⟨rfl, Nat.le_of_ble_eq_true rfl⟩, ?_⟩ | refine ⟨_, _, _, _, rfl, hn, rfl, rfl, ?_⟩ | (refine ⟨_, _, rfl, ⟨rfl, rfl⟩, ?_⟩; try dsimp only [wipeE, List.set_cons_succ, List.set_cons_zero]) | (refine ⟨rfl, ?_⟩; try dsimp only [wipeE, List.set_cons_succ, List.set_cons_zero])))
    refine p_brt (by show PyData.eqv (.int _) (.int _) = true; rw [eqv_int, decide_eq_true rfl]) ?_
    (repeat (first | refine p_var rfl ?_ | refine p_c ?_ | refine p_bin ?_ | refine p_cons ?_ | refine p_nil ?_ | refine p_seq ?_ | refine p_asg ?_ | refine p_sif ?_ | refine p_ret ?_ | refine p_bM ?_ | refine p_tM ?_ | refine p_cb ?_ | refine p_andM ?_ | refine p_orM ?_ | refine p_notM ?_ | refine p_chain ?_ | refine p_andV ?_ | refine p_orV ?_ | refine p_notV ?_ | refine p_ifM ?_ | refine p_tup ?_ | refine p_lst ?_ | refine p_call ?_ | refine p_callK ?_ | refine ⟨⟨⟨rfl, rfl⟩, rfl, rfl⟩, ⟨rfl, rfl⟩, ?_⟩ | refine p_setB ?_ | refine p_sl ?_ | refine p_osome ?_ | refine p_onone ?_ | refine p_snil ?_ | refine p_sexpr ?_ | refine p_retN ?_ | refine p_par ?_ | refine p_sh ?_ | refine p_brt rfl ?_ | refine p_brf rfl ?_ | refine ⟨_, rfl, ?_⟩ | refine ⟨⟨rfl, rfl⟩, ?_⟩ | refine ⟨⟨rfl, Nat.le_of_ble_eq_true rfl⟩, ?_⟩ | refine ⟨_, _, _, _, rfl, hn, rfl, rfl, ?_⟩ | (refine ⟨_, _, rfl, ⟨rfl, rfl⟩, ?_⟩; try dsimp only [wipeE, List.set_cons_succ, List.set_cons_zero]) | (refine ⟨rfl, ?_⟩; try dsimp only [wipeE, List.set_cons_succ, List.set_cons_zero])))
    refine p_compMap (p_zip (p_cons (p_var rfl (p_cons (p_var rfl (p_nil (.inl ⟨xs, xs, rfl, rfl, fun _ => .bl true, fun w hw => item w hw _ trivial, ?_⟩)))))))
    (repeat (first | refine p_var rfl ?_ | refine p_c ?_ | refine p_bin ?_ | refine p_cons ?_ | refine p_nil ?_ | refine p_seq ?_ | refine p_asg ?_ | refine p_sif ?_ | refine p_ret ?_ | refine p_bM ?_ | refine p_tM ?_ | refine p_cb ?_ | refine p_andM ?_ | refine p_orM ?_ | refine p_notM ?_ | refine p_chain ?_ | refine p_andV ?_ | refine p_orV ?_ | refine p_notV ?_ | refine p_ifM ?_ | refine p_tup ?_ | refine p_lst ?_ | refine p_call ?_ | refine p_callK ?_ | refine ⟨⟨⟨rfl, rfl⟩, rfl, rfl⟩, ⟨rfl, rfl⟩, ?_⟩ | refine p_setB ?_ | refine p_sl ?_ | refine p_osome ?_ | refine p_onone ?_ | refine p_snil ?_ | refine p_sexpr ?_ | refine p_retN ?_ | refine p_par ?_ | refine p_sh ?_ | refine p_brt rfl ?_ | refine p_brf rfl ?_ | refine ⟨_, rfl, ?_⟩ | refine ⟨⟨rfl, rfl⟩, ?_⟩ | refine ⟨⟨rfl, Nat.le_of_ble_eq_true rfl⟩, ?_⟩ | refine ⟨_, _, _, _, rfl, hn, rfl, rfl, ?_⟩ | (refine ⟨_, _, rfl, ⟨rfl, rfl⟩, ?_⟩; try dsimp only [wipeE, List.set_cons_succ, List.set_cons_zero]) | (refine ⟨rfl, ?_⟩; try dsimp only [wipeE, List.set_cons_succ, List.set_cons_zero]) | refine ⟨_, all_true _, ?_⟩))
  · (repeat (first | refine p_var rfl ?_ | refine p_c ?_ | refine p_bin ?_ | refine p_cons ?_ | refine p_nil ?_ | refine p_seq ?_ | refine p_asg ?_ | refine p_sif ?_ | refine p_ret ?_ | refine p_bM ?_ | refine p_tM ?_ | refine p_cb ?_ | refine p_andM ?_ | refine p_orM ?_ | refine p_notM ?_ | refine p_chain ?_ | refine p_andV ?_ | refine p_orV ?_ | refine p_notV ?_ | refine p_ifM ?_ | refine p_tup ?_ | refine p_lst ?_ | refine p_call ?_ | refine p_callK ?_ | refine ⟨⟨⟨rfl, rfl⟩, rfl, rfl⟩, ⟨rfl, rfl⟩, ?_⟩ | refine p_setB ?_ | refine p_sl ?_ | refine p_osome ?_ | refine p_onone ?_ | refine p_snil ?_ | refine p_sexpr ?_ | refine p_retN ?_ | refine p_par ?_ | refine p_sh ?_ | refine p_brt rfl ?_ | refine p_brf rfl ?_ | refine ⟨_, rfl, ?_⟩ | refine ⟨⟨rfl, rfl⟩, ?_⟩ | refine ⟨⟨rfl, Nat.le_of_ble_eq_true rfl⟩, ?_⟩ | refine ⟨_, _, _, _, rfl, hn, rfl, rfl, ?_⟩ | (refine ⟨_, _, rfl, ⟨rfl, rfl⟩, ?_⟩; try dsimp only [wipeE, List.set_cons_succ, List.set_cons_zero]) | (refine ⟨rfl, ?_⟩; try dsimp only [wipeE, List.set_cons_succ, List.set_cons_zero])))
    refine p_brt (by show PyData.eqv (.int _) (.int _) = true; rw [eqv_int, decide_eq_true rfl]) ?_
    (repeat (first | refine p_var rfl ?_ | refine p_c ?_ | refine p_bin ?_ | refine p_cons ?_ | refine p_nil ?_ | refine p_seq ?_ | refine p_asg ?_ | refine p_sif ?_ | refine p_ret ?_ | refine p_bM ?_ | refine p_tM ?_ | refine p_cb ?_ | refine p_andM ?_ | refine p_orM ?_ | refine p_notM ?_ | refine p_chain ?_ | refine p_andV ?_ | refine p_orV ?_ | refine p_notV ?_ | refine p_ifM ?_ | refine p_tup ?_ | refine p_lst ?_ | refine p_call ?_ | refine p_callK ?_ | refine ⟨⟨⟨rfl, rfl⟩, rfl, rfl⟩, ⟨rfl, rfl⟩, ?_⟩ | refine p_setB ?_ | refine p_sl ?_ | refine p_osome ?_ | refine p_onone ?_ | refine p_snil ?_ | refine p_sexpr ?_ | refine p_retN ?_ | refine p_par ?_ | refine p_sh ?_ | refine p_brt rfl ?_ | refine p_brf rfl ?_ | refine ⟨_, rfl, ?_⟩ | refine ⟨⟨rfl, rfl⟩, ?_⟩ | refine ⟨⟨rfl, Nat.le_of_ble_eq_true rfl⟩, ?_⟩ | refine ⟨_, _, _, _, rfl, hn, rfl, rfl, ?_⟩ | (refine ⟨_, _, rfl, ⟨rfl, rfl⟩, ?_⟩; try dsimp only [wipeE, List.set_cons_succ, List.set_cons_zero]) | (refine ⟨rfl, ?_⟩; try dsimp only [wipeE, List.set_cons_succ, List.set_cons_zero])))
    refine p_compMap (p_zip (p_cons (p_var rfl (p_cons (p_var rfl (p_nil (.inr ⟨xs, xs, rfl, rfl, fun _ => .bl true, fun w hw => item w hw _ trivial, ?_⟩)))))))
    (repeat (first | refine p_var rfl ?_ | refine p_c ?_ | refine p_bin ?_ | refine p_cons ?_ | refine p_nil ?_ | refine p_seq ?_ | refine p_asg ?_ | refine p_sif ?_ | refine p_ret ?_ | refine p_bM ?_ | refine p_tM ?_ | refine p_cb ?_ | refine p_andM ?_ | refine p_orM ?_ | refine p_notM ?_ | refine p_chain ?_ | refine p_andV ?_ | refine p_orV ?_ | refine p_notV ?_ | refine p_ifM ?_ | refine p_tup ?_ | refine p_lst ?_ | refine p_call ?_ | refine p_callK ?_ | refine ⟨⟨⟨rfl, rfl⟩, rfl, rfl⟩, ⟨rfl, rfl⟩, ?_⟩ | refine p_setB ?_ | refine p_sl ?_ | refine p_osome ?_ | refine p_onone ?_ | refine p_snil ?_ | refine p_sexpr ?_ | refine p_retN ?_ | refine p_par ?_ | refine p_sh ?_ | refine p_brt rfl ?_ | refine p_brf rfl ?_ | refine ⟨_, rfl, ?_⟩ | refine ⟨⟨rfl, rfl⟩, ?_⟩ | refine ⟨⟨rfl, Nat.le_of_ble_eq_true rfl⟩, ?_⟩ | refine ⟨_, _, _, _, rfl, hn, rfl, rfl, ?_⟩ | (refine ⟨_, _, rfl, ⟨rfl, rfl⟩, ?_⟩; try dsimp only [wipeE, List.set_cons_succ, List.set_cons_zero]) | (refine ⟨rfl, ?_⟩; try dsimp only [wipeE, List.set_cons_succ, List.set_cons_zero]) | refine ⟨_, all_true _, ?_⟩))
theorem like_refl0 : ∀ (n : Nat) {v : PV} {h : AH}, DPl n v → (likeM0 (n + 1) [v, v] h).post (fun r h' => r = .bl true ∧ h' = h) NE
  | 0, v, h, d => like_sc d
  | n + 1, v, h, d => by
    cases v with
    | tup xs => exact like_sq (.inl rfl) (fun x hx => DPl.pl (d x hx)) fun x hx => like_refl0 n (d x hx)
    | lst xs => exact like_sq (.inr rfl) (fun x hx => DPl.pl (d x hx)) fun x hx => like_refl0 n (d x hx)
    | non => exact like_sc trivial
    | bl b => exact like_sc trivial
    | int i => exact like_sc trivial
    | str x => exact like_sc trivial
    | _ => exact d.elim
theorem like_refl {n : Nat} {v : PV} {h : AH} (d : DPl n v) : (likeM (n + 1) [v, v] h).post (fun r h' => r = .bl true ∧ h' = h) NE := by
  unfold likeM
  exact like_refl0 n d
theorem like_eqv {n : Nat} {a b : PV} {h : AH} (e : a = b) (d : DPl n b) : (likeM (n + 1) [a, b] h).post (fun r h' => r = .bl true ∧ h' = h) NE := by
  subst e; exact like_refl d
end
end Lp

set_option Elab.async false
set_option linter.all false
set_option maxRecDepth 100000
set_option maxHeartbeats 4000000
namespace LW
open PySem PySem.Spec PyProof.Rows L2 Lp
abbrev Rw : PySem.W.OpenRow := PySem.W.OpenLaw.row PySem.Challenge.rw_latedrops_k02_names_numbers_and_keys
def top (i : Nat) : Stmt := PySem.Challenge.pw_latedrops_k02_names_numbers_and_keys.main.body.getD i (.Pass ⟨0, 0, 0, 0⟩)
structure Gm (mg : Str → Option Value) : Prop where
  n_all : mg "all" = none
  n_bool : mg "bool" = none
  n_int : mg "int" = none
  n_isinstance : mg "isinstance" = none
  n_len : mg "len" = none
  n_list : mg "list" = none
  n_range : mg "range" = none
  n_str : mg "str" = none
  n_tuple : mg "tuple" = none
  n_zip : mg "zip" = none
  c_LETTERS : ∃ u, mg "LETTERS" = some u ∧ L2.RelV (.str "abcdefghijklmnopqrstuvwxyz") u
  c_MOST_LETTERS : ∃ u, mg "MOST_LETTERS" = some u ∧ L2.RelV (.int 8) u
  c_MOST_NUMBER : ∃ u, mg "MOST_NUMBER" = some u ∧ L2.RelV (.int 1000000000000000000) u
  c_MOST_NUMBERS : ∃ u, mg "MOST_NUMBERS" = some u ∧ L2.RelV (.int 40) u

/-! is_number -/
abbrev st_is_number : Stmt := top 5
def nm_is_number : List Str := ["value", "least", "most"]
theorem sc_is_number : FnScope nm_is_number ["value", "least", "most"] (defScope st_is_number) := ⟨rfl, rfl, rfl, by decide +kernel, rfl, by decide +kernel, by decide +kernel⟩
noncomputable def mb_is_number : MS := (sRet (andV (eCB bIsi (aCons (eVar 0) (aCons (eC (.ty "int")) aNil))) (andV (notV (eCB bIsi (aCons (eVar 0) (aCons (eC (.ty "bool")) aNil)))) (eChain fLe fLe (eVar 1) (eVar 0) (eVar 2)))))
noncomputable def xb_is_number : MS := (xSRet (xAndV (xECB bIsi (xACons (xEVar 0) (xACons (xEC (.ty "int")) xANil))) (xAndV (xNotV (xECB bIsi (xACons (xEVar 0) (xACons (xEC (.ty "bool")) xANil)))) (xEChain fLe fLe (xEVar 1) (xEVar 0) (xEVar 2)))))
theorem xe_is_number : mb_is_number = xb_is_number := by kernel_rfl
@[irreducible] noncomputable def m_is_number : MF := mkF 0 mb_is_number
theorem b_is_number {P : Program} {w : World} {K : PySem.W.Frag} {mg : Str → Option Value} {base : Heap} {B : Bs} {f : Addr} {cdv : Value} {A : Around} {outer : List Env} {s : Shared} {H : Hp} {E : XK} {k : Nat} {N : Ent} (hK : K = B.K) (g : Gm mg)
    (D : Bdy (cxOf (L2.CX P w) P w K mg base nm_is_number "is_number" (defScope st_is_number) f cdv A outer s H E) E k)  :
    SimSs (cxOf (L2.CX P w) P w K mg base nm_is_number "is_number" (defScope st_is_number) f cdv A outer s H E) B N (fun c d _ H => E c d H) (defBody st_is_number) (mb_is_number) :=
  (simss_one (sims_ret (sim_and (sim_bi (bi_isi hK) rfl g.n_isinstance (simA_cons (sim_var (i := 0) rfl (.inl rfl) rfl rfl) (simA_cons (sim_ty rfl g.n_int PyProof.Rows.boot_int (by decide) rfl) simA_nil rfl) rfl) (by decide) rfl rfl rfl) (sim_and (sim_not (sim_bi (bi_isi hK) rfl g.n_isinstance (simA_cons (sim_var (i := 0) rfl (.inl rfl) rfl rfl) (simA_cons (sim_ty rfl g.n_bool PyProof.Rows.boot_bool (by decide) rfl) simA_nil rfl) rfl) (by decide) rfl rfl rfl)) (sim_one (sim_ch (co_le) (co_le) (sim_var (i := 1) rfl (.inl rfl) rfl rfl) (sim_var (i := 0) rfl (.inl rfl) rfl rfl) (sim_var (i := 2) rfl (.inl rfl) rfl rfl) rfl))))))

/-! is_name -/
abbrev st_is_name : Stmt := top 6
def nm_is_name : List Str := ["value", "letter"]
theorem sc_is_name : FnScope nm_is_name ["value"] (defScope st_is_name) := ⟨rfl, rfl, rfl, by decide +kernel, rfl, by decide +kernel, by decide +kernel⟩
noncomputable def mb_is_name : MS := (sSeq (sIf (orM (notM (tM (eCB bIsi (aCons (eVar 0) (aCons (eC (.ty "str")) aNil))))) (notM (bM (eChain fLe fLe (eC (.int 1)) (eCB bLen (aCons (eVar 0) aNil)) (eC (.int 8)))))) (sRet (eC (.bl false))) sNil)
  (sRet (eCB bAll (aCons (shN (eCompN (sAny (eVar 0)) (.n 1) testY (eBin fIn (eVar 1) (eC (.str "abcdefghijklmnopqrstuvwxyz"))) [1])) aNil))))
noncomputable def xb_is_name : MS := (xSSeq (xSIf (xOrM (xNotM (xTM (xECB bIsi (xACons (xEVar 0) (xACons (xEC (.ty "str")) xANil))))) (xNotM (xBM (xEChain fLe fLe (xEC (.int 1)) (xECB bLen (xACons (xEVar 0) xANil)) (xEC (.int 8)))))) (xSRet (xEC (.bl false))) xSNil)
  (xSRet (xECB bAll (xACons (xShN (xECompN (xSAny (xEVar 0)) (.n 1) testY (xEBin fIn (xEVar 1) (xEC (.str "abcdefghijklmnopqrstuvwxyz"))) [1])) xANil))))
theorem xe_is_name : mb_is_name = xb_is_name := by kernel_rfl
@[irreducible] noncomputable def m_is_name : MF := mkF 1 mb_is_name
theorem b_is_name {P : Program} {w : World} {K : PySem.W.Frag} {mg : Str → Option Value} {base : Heap} {B : Bs} {f : Addr} {cdv : Value} {A : Around} {outer : List Env} {s : Shared} {H : Hp} {E : XK} {k : Nat} {N : Ent} (hK : K = B.K) (g : Gm mg)
    (D : Bdy (cxOf (L2.CX P w) P w K mg base nm_is_name "is_name" (defScope st_is_name) f cdv A outer s H E) E k)  :
    SimSs (cxOf (L2.CX P w) P w K mg base nm_is_name "is_name" (defScope st_is_name) f cdv A outer s H E) B N (fun c d _ H => E c d H) (defBody st_is_name) (mb_is_name) :=
  (simss_cons (sims_if (sim_tbool (simw_or (sim_tnot (sim_truth hK (sim_bi (bi_isi hK) rfl g.n_isinstance (simA_cons (sim_var (i := 0) rfl (.inl rfl) rfl rfl) (simA_cons (sim_ty rfl g.n_str PyProof.Rows.boot_str (by decide) rfl) simA_nil rfl) rfl) (by decide) rfl rfl rfl) (fun _ => rfl))) (simw_or1 (sim_tnot (sim_tch (co_le) (co_le) sim_int (sim_bi (bi_len hK) rfl g.n_len (simA_cons (sim_var (i := 0) rfl (.inl rfl) rfl rfl) simA_nil rfl) (by decide) rfl rfl rfl) (sim_gl rfl g.c_MOST_LETTERS fun _ => .int _) rfl))))) (simss_one (sims_ret sim_bl)) simss_nil)
  (simss_one (sims_ret (sim_bi (bi_all hK rfl) rfl g.n_all (simA_cons (SimN.sh (sim_lc (own := [("letter", 1)]) hK rfl sc_is_name.nd (sim_any hK (sim_var (i := 0) rfl (.inl rfl) rfl rfl)) (blk_of (by kernel_rfl)) (by decide) (fun _ _ _ _ _ => (pgT_n (pg_name sc_is_name.nd rfl (.inl rfl) (.inr rfl)))) (fun _ _ _ _ _ => simTs_nil) (fun _ _ _ _ _ => (sim_cm (co_in hK D.rm) (sim_var (i := 1) rfl (.inl rfl) rfl rfl) (sim_gl rfl g.c_LETTERS fun _ => .str _ (sok_of (by decide +kernel))) rfl)) (fun _ => rfl))) simA_nil rfl) (by decide) rfl rfl rfl))))

/-! is_key -/
abbrev st_is_key : Stmt := top 7
def nm_is_key : List Str := ["value", "number"]
theorem sc_is_key : FnScope nm_is_key ["value"] (defScope st_is_key) := ⟨rfl, rfl, rfl, by decide +kernel, rfl, by decide +kernel, by decide +kernel⟩
noncomputable def mb_is_key : MS := (sSeq (sIf (orM (notM (tM (eCB bIsi (aCons (eVar 0) (aCons (eC (.ty "tuple")) aNil))))) (notM (bM (eChain fLe fLe (eC (.int 1)) (eCB bLen (aCons (eVar 0) aNil)) (eC (.int 40)))))) (sRet (eC (.bl false))) sNil)
  (sRet (eCB bAll (aCons (shN (eCompN (sAny (eVar 0)) (.n 1) testY (eCall 3 m_is_number (aCons (eVar 1) (aCons (eBin fSub (eC (.int 0)) (eC (.int 1000000000000000000))) (aCons (eC (.int 1000000000000000000)) aNil)))) [1])) aNil))))
noncomputable def xb_is_key : MS := (xSSeq (xSIf (xOrM (xNotM (xTM (xECB bIsi (xACons (xEVar 0) (xACons (xEC (.ty "tuple")) xANil))))) (xNotM (xBM (xEChain fLe fLe (xEC (.int 1)) (xECB bLen (xACons (xEVar 0) xANil)) (xEC (.int 40)))))) (xSRet (xEC (.bl false))) xSNil)
  (xSRet (xECB bAll (xACons (xShN (xECompN (xSAny (xEVar 0)) (.n 1) testY (xECall 3 m_is_number (xACons (xEVar 1) (xACons (xEBin fSub (xEC (.int 0)) (xEC (.int 1000000000000000000))) (xACons (xEC (.int 1000000000000000000)) xANil)))) [1])) xANil))))
theorem xe_is_key : mb_is_key = xb_is_key := by kernel_rfl
@[irreducible] noncomputable def m_is_key : MF := mkF 1 mb_is_key
theorem b_is_key {P : Program} {w : World} {K : PySem.W.Frag} {mg : Str → Option Value} {base : Heap} {B : Bs} {f : Addr} {cdv : Value} {A : Around} {outer : List Env} {s : Shared} {H : Hp} {E : XK} {k : Nat} {N : Ent} (hK : K = B.K) (g : Gm mg)
    (D : Bdy (cxOf (L2.CX P w) P w K mg base nm_is_key "is_key" (defScope st_is_key) f cdv A outer s H E) E k) (F_is_number : Fn P w K mg base B k "is_number" 3 m_is_number) :
    SimSs (cxOf (L2.CX P w) P w K mg base nm_is_key "is_key" (defScope st_is_key) f cdv A outer s H E) B N (fun c d _ H => E c d H) (defBody st_is_key) (mb_is_key) :=
  (simss_cons (sims_if (sim_tbool (simw_or (sim_tnot (sim_truth hK (sim_bi (bi_isi hK) rfl g.n_isinstance (simA_cons (sim_var (i := 0) rfl (.inl rfl) rfl rfl) (simA_cons (sim_ty rfl g.n_tuple PyProof.Rows.boot_tuple (by decide) rfl) simA_nil rfl) rfl) (by decide) rfl rfl rfl) (fun _ => rfl))) (simw_or1 (sim_tnot (sim_tch (co_le) (co_le) sim_int (sim_bi (bi_len hK) rfl g.n_len (simA_cons (sim_var (i := 0) rfl (.inl rfl) rfl rfl) simA_nil rfl) (by decide) rfl rfl rfl) (sim_gl rfl g.c_MOST_NUMBERS fun _ => .int _) rfl))))) (simss_one (sims_ret sim_bl)) simss_nil)
  (simss_one (sims_ret (sim_bi (bi_all hK rfl) rfl g.n_all (simA_cons (SimN.sh (sim_lc (own := [("number", 1)]) hK rfl sc_is_key.nd (sim_any hK (sim_var (i := 0) rfl (.inl rfl) rfl rfl)) (blk_of (by kernel_rfl)) (by decide) (fun _ _ _ _ _ => (pgT_n (pg_name sc_is_key.nd rfl (.inl rfl) (.inr rfl)))) (fun _ _ _ _ _ => simTs_nil) (fun _ _ _ _ _ => (sim_call F_is_number (takesWF _) D.rm rfl (simA_cons (sim_var (i := 1) rfl (.inl rfl) rfl rfl) (simA_cons (sim_sub sim_int (sim_gl rfl g.c_MOST_NUMBER fun _ => .int _)) (simA_cons (sim_gl rfl g.c_MOST_NUMBER fun _ => .int _) simA_nil rfl) rfl) rfl) rfl rfl rfl)) (fun _ => rfl))) simA_nil rfl) (by decide) rfl rfl rfl))))

/-! _law_open -/
abbrev st__law_open : Stmt := top 9
def nm__law_open : List Str := ["_law_script"]
theorem sc__law_open : FnScope nm__law_open ["_law_script"] (defScope st__law_open) := ⟨rfl, rfl, rfl, by decide +kernel, rfl, by decide +kernel, by decide +kernel⟩
noncomputable def mb__law_open : MS := (sRet (eCel (nLst (aCons (eCB bList (aCons (eSl (eVar 0) oNone (oSome (eC (.int 63)))) aNil)) (aCons (eC (.int 0)) (aCons (eC (.int 0)) (aCons (eC (.int 100201)) (aCons (eC (.int 0)) aNil))))))))
noncomputable def xb__law_open : MS := (xSRet (xECel (xNLst (xACons (xECB bList (xACons (xESl (xEVar 0) xONone (xOSome (xEC (.int 63)))) xANil)) (xACons (xEC (.int 0)) (xACons (xEC (.int 0)) (xACons (xEC (.int 100201)) (xACons (xEC (.int 0)) xANil))))))))
theorem xe__law_open : mb__law_open = xb__law_open := by kernel_rfl
@[irreducible] noncomputable def m__law_open : MF := mkF 0 mb__law_open
theorem b__law_open {P : Program} {w : World} {K : PySem.W.Frag} {mg : Str → Option Value} {base : Heap} {B : Bs} {f : Addr} {cdv : Value} {A : Around} {outer : List Env} {s : Shared} {H : Hp} {E : XK} {k : Nat} {N : Ent} (hK : K = B.K) (g : Gm mg)
    (D : Bdy (cxOf (L2.CX P w) P w K mg base nm__law_open "_law_open" (defScope st__law_open) f cdv A outer s H E) E k)  :
    SimSs (cxOf (L2.CX P w) P w K mg base nm__law_open "_law_open" (defScope st__law_open) f cdv A outer s H E) B N (fun c d _ H => E c d H) (defBody st__law_open) (mb__law_open) :=
  (simss_one (sims_ret (sim_cel (sim_lstN (simA_cons (sim_bi (bi_list hK) rfl g.n_list (simA_cons (sim_sl hK (sim_var (i := 0) rfl (.inl rfl) rfl rfl) simO_none (simO_some sim_int)) simA_nil rfl) (by decide) rfl rfl rfl) (simA_cons sim_int (simA_cons sim_int (simA_cons sim_int (simA_cons sim_int simA_nil rfl) rfl) rfl) rfl) rfl)))))

/-! _law_draw -/
abbrev st__law_draw : Stmt := top 10
def nm__law_draw : List Str := ["_law_bag", "_law_many", "_law_cell", "_law_digit", "_law_seed"]
theorem sc__law_draw : FnScope nm__law_draw ["_law_bag", "_law_many"] (defScope st__law_draw) := ⟨rfl, rfl, rfl, by decide +kernel, rfl, by decide +kernel, by decide +kernel⟩
noncomputable def mb__law_draw : MS := (sSeq (sIf (andM (bM (eBin fEq (eBin fIx (eVar 0) (eC (.int 2))) (eC (.int 0)))) (bM (eBin fLt (eBin fIx (eVar 0) (eC (.int 1))) (eCB bLen (aCons (eBin fIx (eVar 0) (eC (.int 0))) aNil))))) (sSeq (sAsg 2 (eBin fIx (eBin fIx (eVar 0) (eC (.int 0))) (eBin fIx (eVar 0) (eC (.int 1)))))
  (sSeq (sSetC (eBin fAdd (eBin fIx (eVar 0) (eC (.int 1))) (eC (.int 1))) (eVar 0) (eC (.int 1)))
  (sSeq (sSetC (ifM (bM (eBin fGe (eVar 2) (eBin fPow (eC (.int 10)) (eC (.int 18))))) (eVar 2) (eC (.int 0))) (eVar 0) (eC (.int 2)))
  (sSetC (eBin fMod (eCB bInt (aCons (eBin fAdd (eBin fAdd (eBin fMul (eBin fIx (eVar 0) (eC (.int 3))) (eC (.int 40031))) (eBin fMul (eBin fMod (eCB bInt (aCons (eVar 2) aNil)) (eC (.int 2147483549))) (eC (.int 331)))) (eC (.int 2011))) aNil)) (eC (.int 2147483587))) (eVar 0) (eC (.int 3)))))) sNil)
  (sSeq (sIf (bM (eBin fGt (eBin fIx (eVar 0) (eC (.int 2))) (eC (.int 0)))) (sSeq (sAsg 3 (eBin fMod (eCB bInt (aCons (eBin fIx (eVar 0) (eC (.int 2))) aNil)) (eVar 1)))
  (sSeq (sSetC (eBin fFdv (eBin fIx (eVar 0) (eC (.int 2))) (eVar 1)) (eVar 0) (eC (.int 2)))
  (sRet (eVar 3)))) sNil)
  (sSeq (sSetC (eBin fAdd (eBin fIx (eVar 0) (eC (.int 4))) (eC (.int 1))) (eVar 0) (eC (.int 4)))
  (sSeq (sAsg 4 (eBin fIx (eVar 0) (eC (.int 3))))
  (sSeq (sSetC (eBin fMod (eCB bInt (aCons (eBin fAdd (eBin fAdd (eBin fAdd (eBin fMul (eVar 4) (eVar 4)) (eBin fMul (eC (.int 65071)) (eVar 4))) (eBin fMul (eC (.int 6673)) (eBin fIx (eVar 0) (eC (.int 4))))) (eC (.int 40013))) aNil)) (eC (.int 2147483587))) (eVar 0) (eC (.int 3)))
  (sRet (eBin fMod (eCB bInt (aCons (eBin fAdd (eBin fAdd (eBin fFdv (eBin fIx (eVar 0) (eC (.int 3))) (eC (.int 61))) (eBin fMul (eVar 4) (eC (.int 32009)))) (eBin fIx (eVar 0) (eC (.int 4)))) aNil)) (eVar 1))))))))
noncomputable def xb__law_draw : MS := (xSSeq (xSIf (xAndM (xBM (xEBin fEq (xEBin fIx (xEVar 0) (xEC (.int 2))) (xEC (.int 0)))) (xBM (xEBin fLt (xEBin fIx (xEVar 0) (xEC (.int 1))) (xECB bLen (xACons (xEBin fIx (xEVar 0) (xEC (.int 0))) xANil))))) (xSSeq (xSAsg 2 (xEBin fIx (xEBin fIx (xEVar 0) (xEC (.int 0))) (xEBin fIx (xEVar 0) (xEC (.int 1)))))
  (xSSeq (xSSetC (xEBin fAdd (xEBin fIx (xEVar 0) (xEC (.int 1))) (xEC (.int 1))) (xEVar 0) (xEC (.int 1)))
  (xSSeq (xSSetC (xIfM (xBM (xEBin fGe (xEVar 2) (xEBin fPow (xEC (.int 10)) (xEC (.int 18))))) (xEVar 2) (xEC (.int 0))) (xEVar 0) (xEC (.int 2)))
  (xSSetC (xEBin fMod (xECB bInt (xACons (xEBin fAdd (xEBin fAdd (xEBin fMul (xEBin fIx (xEVar 0) (xEC (.int 3))) (xEC (.int 40031))) (xEBin fMul (xEBin fMod (xECB bInt (xACons (xEVar 2) xANil)) (xEC (.int 2147483549))) (xEC (.int 331)))) (xEC (.int 2011))) xANil)) (xEC (.int 2147483587))) (xEVar 0) (xEC (.int 3)))))) xSNil)
  (xSSeq (xSIf (xBM (xEBin fGt (xEBin fIx (xEVar 0) (xEC (.int 2))) (xEC (.int 0)))) (xSSeq (xSAsg 3 (xEBin fMod (xECB bInt (xACons (xEBin fIx (xEVar 0) (xEC (.int 2))) xANil)) (xEVar 1)))
  (xSSeq (xSSetC (xEBin fFdv (xEBin fIx (xEVar 0) (xEC (.int 2))) (xEVar 1)) (xEVar 0) (xEC (.int 2)))
  (xSRet (xEVar 3)))) xSNil)
  (xSSeq (xSSetC (xEBin fAdd (xEBin fIx (xEVar 0) (xEC (.int 4))) (xEC (.int 1))) (xEVar 0) (xEC (.int 4)))
  (xSSeq (xSAsg 4 (xEBin fIx (xEVar 0) (xEC (.int 3))))
  (xSSeq (xSSetC (xEBin fMod (xECB bInt (xACons (xEBin fAdd (xEBin fAdd (xEBin fAdd (xEBin fMul (xEVar 4) (xEVar 4)) (xEBin fMul (xEC (.int 65071)) (xEVar 4))) (xEBin fMul (xEC (.int 6673)) (xEBin fIx (xEVar 0) (xEC (.int 4))))) (xEC (.int 40013))) xANil)) (xEC (.int 2147483587))) (xEVar 0) (xEC (.int 3)))
  (xSRet (xEBin fMod (xECB bInt (xACons (xEBin fAdd (xEBin fAdd (xEBin fFdv (xEBin fIx (xEVar 0) (xEC (.int 3))) (xEC (.int 61))) (xEBin fMul (xEVar 4) (xEC (.int 32009)))) (xEBin fIx (xEVar 0) (xEC (.int 4)))) xANil)) (xEVar 1))))))))
theorem xe__law_draw : mb__law_draw = xb__law_draw := by kernel_rfl
@[irreducible] noncomputable def m__law_draw : MF := mkF 3 mb__law_draw
theorem b__law_draw {P : Program} {w : World} {K : PySem.W.Frag} {mg : Str → Option Value} {base : Heap} {B : Bs} {f : Addr} {cdv : Value} {A : Around} {outer : List Env} {s : Shared} {H : Hp} {E : XK} {k : Nat} {N : Ent} (hK : K = B.K) (g : Gm mg)
    (D : Bdy (cxOf (L2.CX P w) P w K mg base nm__law_draw "_law_draw" (defScope st__law_draw) f cdv A outer s H E) E k)  :
    SimSs (cxOf (L2.CX P w) P w K mg base nm__law_draw "_law_draw" (defScope st__law_draw) f cdv A outer s H E) B N (fun c d _ H => E c d H) (defBody st__law_draw) (mb__law_draw) :=
  (simss_cons (sims_if (sim_tbool (simw_and (sim_tcm (co_eq hK D.rm) (sim_ix hK (sim_var (i := 0) rfl (.inl rfl) rfl rfl) sim_int (fun _ _ => rfl)) sim_int rfl) (simw_and1 (sim_tcm (co_lt hK D.rm) (sim_ix hK (sim_var (i := 0) rfl (.inl rfl) rfl rfl) sim_int (fun _ _ => rfl)) (sim_bi (bi_len hK) rfl g.n_len (simA_cons (sim_ix hK (sim_var (i := 0) rfl (.inl rfl) rfl rfl) sim_int (fun _ _ => rfl)) simA_nil rfl) (by decide) rfl rfl rfl) rfl)))) (simss_cons (sims_asg sc__law_draw.nd rfl (.inl rfl) (sim_ix hK (sim_ix hK (sim_var (i := 0) rfl (.inl rfl) rfl rfl) sim_int (fun _ _ => rfl)) (sim_ix hK (sim_var (i := 0) rfl (.inl rfl) rfl rfl) sim_int (fun _ _ => rfl)) (fun _ _ => rfl)) rfl (.inl rfl))
  (simss_cons (sims_setC (sim_add hK (sim_ix hK (sim_var (i := 0) rfl (.inl rfl) rfl rfl) sim_int (fun _ _ => rfl)) sim_int) (sim_var (i := 0) rfl (.inl rfl) rfl rfl) sim_int (fun _ => rfl) rfl rfl rfl)
  (simss_cons (sims_setC (sim_ifexp (sim_tcm (co_ge) (sim_var (i := 2) rfl (.inl rfl) rfl rfl) (sim_pow sim_int sim_int) rfl) (sim_var (i := 2) rfl (.inl rfl) rfl rfl) sim_int) (sim_var (i := 0) rfl (.inl rfl) rfl rfl) sim_int (fun _ => rfl) rfl rfl rfl)
  (simss_one (sims_setC (sim_mod (sim_bi (bi_int) rfl g.n_int (simA_cons (sim_add hK (sim_add hK (sim_mul hK (sim_ix hK (sim_var (i := 0) rfl (.inl rfl) rfl rfl) sim_int (fun _ _ => rfl)) sim_int) (sim_mul hK (sim_mod (sim_bi (bi_int) rfl g.n_int (simA_cons (sim_var (i := 2) rfl (.inl rfl) rfl rfl) simA_nil rfl) (by decide) rfl rfl rfl) sim_int) sim_int)) sim_int) simA_nil rfl) (by decide) rfl rfl rfl) sim_int) (sim_var (i := 0) rfl (.inl rfl) rfl rfl) sim_int (fun _ => rfl) rfl rfl rfl))))) simss_nil)
  (simss_cons (sims_if (sim_tcm (co_gt) (sim_ix hK (sim_var (i := 0) rfl (.inl rfl) rfl rfl) sim_int (fun _ _ => rfl)) sim_int rfl) (simss_cons (sims_asg sc__law_draw.nd rfl (.inl rfl) (sim_mod (sim_bi (bi_int) rfl g.n_int (simA_cons (sim_ix hK (sim_var (i := 0) rfl (.inl rfl) rfl rfl) sim_int (fun _ _ => rfl)) simA_nil rfl) (by decide) rfl rfl rfl) (sim_var (i := 1) rfl (.inl rfl) rfl rfl)) rfl (.inl rfl))
  (simss_cons (sims_setC (sim_fdv (sim_ix hK (sim_var (i := 0) rfl (.inl rfl) rfl rfl) sim_int (fun _ _ => rfl)) (sim_var (i := 1) rfl (.inl rfl) rfl rfl)) (sim_var (i := 0) rfl (.inl rfl) rfl rfl) sim_int (fun _ => rfl) rfl rfl rfl)
  (simss_one (sims_ret (sim_var (i := 3) rfl (.inl rfl) rfl rfl))))) simss_nil)
  (simss_cons (sims_setC (sim_add hK (sim_ix hK (sim_var (i := 0) rfl (.inl rfl) rfl rfl) sim_int (fun _ _ => rfl)) sim_int) (sim_var (i := 0) rfl (.inl rfl) rfl rfl) sim_int (fun _ => rfl) rfl rfl rfl)
  (simss_cons (sims_asg sc__law_draw.nd rfl (.inl rfl) (sim_ix hK (sim_var (i := 0) rfl (.inl rfl) rfl rfl) sim_int (fun _ _ => rfl)) rfl (.inl rfl))
  (simss_cons (sims_setC (sim_mod (sim_bi (bi_int) rfl g.n_int (simA_cons (sim_add hK (sim_add hK (sim_add hK (sim_mul hK (sim_var (i := 4) rfl (.inl rfl) rfl rfl) (sim_var (i := 4) rfl (.inl rfl) rfl rfl)) (sim_mul hK sim_int (sim_var (i := 4) rfl (.inl rfl) rfl rfl))) (sim_mul hK sim_int (sim_ix hK (sim_var (i := 0) rfl (.inl rfl) rfl rfl) sim_int (fun _ _ => rfl)))) sim_int) simA_nil rfl) (by decide) rfl rfl rfl) sim_int) (sim_var (i := 0) rfl (.inl rfl) rfl rfl) sim_int (fun _ => rfl) rfl rfl rfl)
  (simss_one (sims_ret (sim_mod (sim_bi (bi_int) rfl g.n_int (simA_cons (sim_add hK (sim_add hK (sim_fdv (sim_ix hK (sim_var (i := 0) rfl (.inl rfl) rfl rfl) sim_int (fun _ _ => rfl)) sim_int) (sim_mul hK (sim_var (i := 4) rfl (.inl rfl) rfl rfl) sim_int)) (sim_ix hK (sim_var (i := 0) rfl (.inl rfl) rfl rfl) sim_int (fun _ _ => rfl))) simA_nil rfl) (by decide) rfl rfl rfl) (sim_var (i := 1) rfl (.inl rfl) rfl rfl)))))))))

/-! _law_of -/
abbrev st__law_of : Stmt := top 11
def nm__law_of : List Str := ["_law_bag", "_law_things"]
theorem sc__law_of : FnScope nm__law_of ["_law_bag", "_law_things"] (defScope st__law_of) := ⟨rfl, rfl, rfl, by decide +kernel, rfl, by decide +kernel, by decide +kernel⟩
noncomputable def mb__law_of : MS := (sRet (eBin fIx (eVar 1) (eCall 2 m__law_draw (aCons (eVar 0) (aCons (eCB bLen (aCons (eVar 1) aNil)) aNil)))))
noncomputable def xb__law_of : MS := (xSRet (xEBin fIx (xEVar 1) (xECall 2 m__law_draw (xACons (xEVar 0) (xACons (xECB bLen (xACons (xEVar 1) xANil)) xANil)))))
theorem xe__law_of : mb__law_of = xb__law_of := by kernel_rfl
@[irreducible] noncomputable def m__law_of : MF := mkF 0 mb__law_of
theorem b__law_of {P : Program} {w : World} {K : PySem.W.Frag} {mg : Str → Option Value} {base : Heap} {B : Bs} {f : Addr} {cdv : Value} {A : Around} {outer : List Env} {s : Shared} {H : Hp} {E : XK} {k : Nat} {N : Ent} (hK : K = B.K) (g : Gm mg)
    (D : Bdy (cxOf (L2.CX P w) P w K mg base nm__law_of "_law_of" (defScope st__law_of) f cdv A outer s H E) E k) (F__law_draw : Fn P w K mg base B k "_law_draw" 2 m__law_draw) :
    SimSs (cxOf (L2.CX P w) P w K mg base nm__law_of "_law_of" (defScope st__law_of) f cdv A outer s H E) B N (fun c d _ H => E c d H) (defBody st__law_of) (mb__law_of) :=
  (simss_one (sims_ret (sim_ix hK (sim_var (i := 1) rfl (.inl rfl) rfl rfl) (sim_call F__law_draw D.tk D.rm rfl (simA_cons (sim_var (i := 0) rfl (.inl rfl) rfl rfl) (simA_cons (sim_bi (bi_len hK) rfl g.n_len (simA_cons (sim_var (i := 1) rfl (.inl rfl) rfl rfl) simA_nil rfl) (by decide) rfl rfl rfl) simA_nil rfl) rfl) rfl rfl rfl) (fun _ _ => rfl))))

/-! _law_like -/
abbrev st__law_like : Stmt := top 12
def nm__law_like : List Str := ["_law_found", "_law_due", "_law_one", "_law_other"]
theorem sc__law_like : FnScope nm__law_like ["_law_found", "_law_due"] (defScope st__law_like) := ⟨rfl, rfl, rfl, by decide +kernel, rfl, by decide +kernel, by decide +kernel⟩
noncomputable def mb__law_like (m : MF) : MS := (sSeq (sIf (tM (eCB bIsi (aCons (eVar 1) (aCons (eTup (aCons (eC (.ty "list")) (aCons (eC (.ty "tuple")) aNil))) aNil)))) (sSeq (sIf (orM (bM (eBin fNe (eCB bIsi (aCons (eVar 0) (aCons (eC (.ty "list")) aNil))) (eCB bIsi (aCons (eVar 1) (aCons (eC (.ty "list")) aNil))))) (bM (eBin fNe (eCB bIsi (aCons (eVar 0) (aCons (eC (.ty "tuple")) aNil))) (eCB bIsi (aCons (eVar 1) (aCons (eC (.ty "tuple")) aNil)))))) (sRet (eC (.bl false))) sNil)
  (sRet (andV (eBin fEq (eCB bLen (aCons (eVar 0) aNil)) (eCB bLen (aCons (eVar 1) aNil))) (eCB bAll (aCons (shN (eCompN (sZip (aCons (eVar 0) (aCons (eVar 1) aNil))) (.t [(.n 2), (.n 3)]) testY (eCall 2 m (aCons (eVar 2) (aCons (eVar 3) aNil))) [2, 3])) aNil))))) sNil)
  (sSeq (sIf (orM (bM (eBin fIsN (eVar 1) (eC .non))) (bM (eBin fIsN (eVar 0) (eC .non)))) (sRet (andV (eBin fIsN (eVar 1) (eC .non)) (eBin fIsN (eVar 0) (eC .non)))) sNil)
  (sSeq (sIf (orM (bM (eBin fNe (eCB bIsi (aCons (eVar 0) (aCons (eC (.ty "bool")) aNil))) (eCB bIsi (aCons (eVar 1) (aCons (eC (.ty "bool")) aNil))))) (bM (eBin fNe (eCB bIsi (aCons (eVar 0) (aCons (eC (.ty "int")) aNil))) (eCB bIsi (aCons (eVar 1) (aCons (eC (.ty "int")) aNil)))))) (sRet (eC (.bl false))) sNil)
  (sRet (andV (eBin fEq (eCB bIsi (aCons (eVar 0) (aCons (eC (.ty "str")) aNil))) (eCB bIsi (aCons (eVar 1) (aCons (eC (.ty "str")) aNil)))) (eBin fEq (eVar 0) (eVar 1)))))))
noncomputable def xb__law_like (m : MF) : MS := (xSSeq (xSIf (xTM (xECB bIsi (xACons (xEVar 1) (xACons (xETup (xACons (xEC (.ty "list")) (xACons (xEC (.ty "tuple")) xANil))) xANil)))) (xSSeq (xSIf (xOrM (xBM (xEBin fNe (xECB bIsi (xACons (xEVar 0) (xACons (xEC (.ty "list")) xANil))) (xECB bIsi (xACons (xEVar 1) (xACons (xEC (.ty "list")) xANil))))) (xBM (xEBin fNe (xECB bIsi (xACons (xEVar 0) (xACons (xEC (.ty "tuple")) xANil))) (xECB bIsi (xACons (xEVar 1) (xACons (xEC (.ty "tuple")) xANil)))))) (xSRet (xEC (.bl false))) xSNil)
  (xSRet (xAndV (xEBin fEq (xECB bLen (xACons (xEVar 0) xANil)) (xECB bLen (xACons (xEVar 1) xANil))) (xECB bAll (xACons (xShN (xECompN (xSZip (xACons (xEVar 0) (xACons (xEVar 1) xANil))) (.t [(.n 2), (.n 3)]) testY (xECall 2 m (xACons (xEVar 2) (xACons (xEVar 3) xANil))) [2, 3])) xANil))))) xSNil)
  (xSSeq (xSIf (xOrM (xBM (xEBin fIsN (xEVar 1) (xEC .non))) (xBM (xEBin fIsN (xEVar 0) (xEC .non)))) (xSRet (xAndV (xEBin fIsN (xEVar 1) (xEC .non)) (xEBin fIsN (xEVar 0) (xEC .non)))) xSNil)
  (xSSeq (xSIf (xOrM (xBM (xEBin fNe (xECB bIsi (xACons (xEVar 0) (xACons (xEC (.ty "bool")) xANil))) (xECB bIsi (xACons (xEVar 1) (xACons (xEC (.ty "bool")) xANil))))) (xBM (xEBin fNe (xECB bIsi (xACons (xEVar 0) (xACons (xEC (.ty "int")) xANil))) (xECB bIsi (xACons (xEVar 1) (xACons (xEC (.ty "int")) xANil)))))) (xSRet (xEC (.bl false))) xSNil)
  (xSRet (xAndV (xEBin fEq (xECB bIsi (xACons (xEVar 0) (xACons (xEC (.ty "str")) xANil))) (xECB bIsi (xACons (xEVar 1) (xACons (xEC (.ty "str")) xANil)))) (xEBin fEq (xEVar 0) (xEVar 1)))))))
theorem xe__law_like (m : MF) : mb__law_like m = xb__law_like m := by kernel_rfl
noncomputable def mr__law_like : Nat → MF
  | 0 => fun _ _ => .bad
  | n + 1 => mkF 2 (mb__law_like (mr__law_like n))
@[irreducible] noncomputable def m__law_like : MF := mr__law_like 8
theorem b__law_like {P : Program} {w : World} {K : PySem.W.Frag} {mg : Str → Option Value} {base : Heap} {B : Bs} {f : Addr} {cdv : Value} {A : Around} {outer : List Env} {s : Shared} {H : Hp} {E : XK} {k : Nat} {N : Ent} (hK : K = B.K) (g : Gm mg)
    (D : Bdy (cxOf (L2.CX P w) P w K mg base nm__law_like "_law_like" (defScope st__law_like) f cdv A outer s H E) E k) {m : MF} (F__law_like : Fn P w K mg base B k "_law_like" 2 m) :
    SimSs (cxOf (L2.CX P w) P w K mg base nm__law_like "_law_like" (defScope st__law_like) f cdv A outer s H E) B N (fun c d _ H => E c d H) (defBody st__law_like) (mb__law_like m) :=
  (simss_cons (sims_if (sim_truth hK (sim_bi (bi_isi hK) rfl g.n_isinstance (simA_cons (sim_var (i := 1) rfl (.inl rfl) rfl rfl) (simA_cons (sim_tup (simA_cons (sim_ty rfl g.n_list PyProof.Rows.boot_list (by decide) rfl) (simA_cons (sim_ty rfl g.n_tuple PyProof.Rows.boot_tuple (by decide) rfl) simA_nil rfl) rfl)) simA_nil rfl) rfl) (by decide) rfl rfl rfl) (fun _ => rfl)) (simss_cons (sims_if (sim_tbool (simw_or (sim_tcm (co_ne hK D.rm) (sim_bi (bi_isi hK) rfl g.n_isinstance (simA_cons (sim_var (i := 0) rfl (.inl rfl) rfl rfl) (simA_cons (sim_ty rfl g.n_list PyProof.Rows.boot_list (by decide) rfl) simA_nil rfl) rfl) (by decide) rfl rfl rfl) (sim_bi (bi_isi hK) rfl g.n_isinstance (simA_cons (sim_var (i := 1) rfl (.inl rfl) rfl rfl) (simA_cons (sim_ty rfl g.n_list PyProof.Rows.boot_list (by decide) rfl) simA_nil rfl) rfl) (by decide) rfl rfl rfl) rfl) (simw_or1 (sim_tcm (co_ne hK D.rm) (sim_bi (bi_isi hK) rfl g.n_isinstance (simA_cons (sim_var (i := 0) rfl (.inl rfl) rfl rfl) (simA_cons (sim_ty rfl g.n_tuple PyProof.Rows.boot_tuple (by decide) rfl) simA_nil rfl) rfl) (by decide) rfl rfl rfl) (sim_bi (bi_isi hK) rfl g.n_isinstance (simA_cons (sim_var (i := 1) rfl (.inl rfl) rfl rfl) (simA_cons (sim_ty rfl g.n_tuple PyProof.Rows.boot_tuple (by decide) rfl) simA_nil rfl) rfl) (by decide) rfl rfl rfl) rfl)))) (simss_one (sims_ret sim_bl)) simss_nil)
  (simss_one (sims_ret (sim_and (sim_cm (co_eq hK D.rm) (sim_bi (bi_len hK) rfl g.n_len (simA_cons (sim_var (i := 0) rfl (.inl rfl) rfl rfl) simA_nil rfl) (by decide) rfl rfl rfl) (sim_bi (bi_len hK) rfl g.n_len (simA_cons (sim_var (i := 1) rfl (.inl rfl) rfl rfl) simA_nil rfl) (by decide) rfl rfl rfl) rfl) (sim_one (sim_bi (bi_all hK rfl) rfl g.n_all (simA_cons (SimN.sh (sim_lc (own := [("_law_one", 2), ("_law_other", 3)]) hK rfl sc__law_like.nd (sim_zip hK rfl g.n_zip (simA_cons (sim_var (i := 0) rfl (.inl rfl) rfl rfl) (simA_cons (sim_var (i := 1) rfl (.inl rfl) rfl rfl) simA_nil rfl) rfl) rfl rfl rfl) (blk_of (by kernel_rfl)) (by decide) (fun _ _ _ _ _ => (pgT_t rfl (pgTs_cons (pgT_n (pg_name sc__law_like.nd rfl (.inl rfl) (.inr rfl))) (pgTs_cons (pgT_n (pg_name sc__law_like.nd rfl (.inl rfl) (.inr rfl))) pgTs_nil rfl) rfl) rfl rfl)) (fun _ _ _ _ _ => simTs_nil) (fun _ _ _ _ _ => (sim_call F__law_like (takesWF _) D.rm rfl (simA_cons (sim_var (i := 2) rfl (.inl rfl) rfl rfl) (simA_cons (sim_var (i := 3) rfl (.inl rfl) rfl rfl) simA_nil rfl) rfl) rfl rfl rfl)) (fun _ => rfl))) simA_nil rfl) (by decide) rfl rfl rfl)))))) simss_nil)
  (simss_cons (sims_if (sim_tbool (simw_or (sim_tcm (co_isN) (sim_var (i := 1) rfl (.inl rfl) rfl rfl) sim_non rfl) (simw_or1 (sim_tcm (co_isN) (sim_var (i := 0) rfl (.inl rfl) rfl rfl) sim_non rfl)))) (simss_one (sims_ret (sim_and (sim_cm (co_isN) (sim_var (i := 1) rfl (.inl rfl) rfl rfl) sim_non rfl) (sim_one (sim_cm (co_isN) (sim_var (i := 0) rfl (.inl rfl) rfl rfl) sim_non rfl))))) simss_nil)
  (simss_cons (sims_if (sim_tbool (simw_or (sim_tcm (co_ne hK D.rm) (sim_bi (bi_isi hK) rfl g.n_isinstance (simA_cons (sim_var (i := 0) rfl (.inl rfl) rfl rfl) (simA_cons (sim_ty rfl g.n_bool PyProof.Rows.boot_bool (by decide) rfl) simA_nil rfl) rfl) (by decide) rfl rfl rfl) (sim_bi (bi_isi hK) rfl g.n_isinstance (simA_cons (sim_var (i := 1) rfl (.inl rfl) rfl rfl) (simA_cons (sim_ty rfl g.n_bool PyProof.Rows.boot_bool (by decide) rfl) simA_nil rfl) rfl) (by decide) rfl rfl rfl) rfl) (simw_or1 (sim_tcm (co_ne hK D.rm) (sim_bi (bi_isi hK) rfl g.n_isinstance (simA_cons (sim_var (i := 0) rfl (.inl rfl) rfl rfl) (simA_cons (sim_ty rfl g.n_int PyProof.Rows.boot_int (by decide) rfl) simA_nil rfl) rfl) (by decide) rfl rfl rfl) (sim_bi (bi_isi hK) rfl g.n_isinstance (simA_cons (sim_var (i := 1) rfl (.inl rfl) rfl rfl) (simA_cons (sim_ty rfl g.n_int PyProof.Rows.boot_int (by decide) rfl) simA_nil rfl) rfl) (by decide) rfl rfl rfl) rfl)))) (simss_one (sims_ret sim_bl)) simss_nil)
  (simss_one (sims_ret (sim_and (sim_cm (co_eq hK D.rm) (sim_bi (bi_isi hK) rfl g.n_isinstance (simA_cons (sim_var (i := 0) rfl (.inl rfl) rfl rfl) (simA_cons (sim_ty rfl g.n_str PyProof.Rows.boot_str (by decide) rfl) simA_nil rfl) rfl) (by decide) rfl rfl rfl) (sim_bi (bi_isi hK) rfl g.n_isinstance (simA_cons (sim_var (i := 1) rfl (.inl rfl) rfl rfl) (simA_cons (sim_ty rfl g.n_str PyProof.Rows.boot_str (by decide) rfl) simA_nil rfl) rfl) (by decide) rfl rfl rfl) rfl) (sim_one (sim_cm (co_eq hK D.rm) (sim_var (i := 0) rfl (.inl rfl) rfl rfl) (sim_var (i := 1) rfl (.inl rfl) rfl rfl) rfl))))))))

/-! _law_names -/
abbrev st__law_names : Stmt := top 13
def nm__law_names : List Str := ["_law_bag", "_law_many", "_law_abc", "_law_stem", "_law_at", "_law_head", "_law_k"]
theorem sc__law_names : FnScope nm__law_names ["_law_bag", "_law_many"] (defScope st__law_names) := ⟨rfl, rfl, rfl, by decide +kernel, rfl, by decide +kernel, by decide +kernel⟩
noncomputable def mb__law_names : MS := (sSeq (sAsg 2 (eC (.str "abcdefghijklmnopqrstuvwxyz")))
  (sSeq (sAsg 3 (eMS mJoin (eC (.str "")) (aCons (shN (eCompN (sRng1 (aCons (eCall 2 m__law_draw (aCons (eVar 0) (aCons (eC (.int 8)) aNil))) aNil)) (.n 6) testY (eCall 2 m__law_of (aCons (eVar 0) (aCons (eVar 2) aNil))) [6])) aNil)))
  (sSeq (sAsgT (.t [(.n 4), (.n 5)]) (eTup (aCons (eCall 2 m__law_draw (aCons (eVar 0) (aCons (eBin fAdd (eCB bLen (aCons (eVar 3) aNil)) (eC (.int 1))) aNil))) (aCons (eCall 2 m__law_draw (aCons (eVar 0) (aCons (eC (.int 26)) aNil))) aNil))))
  (sRet (shN (eCompN (sRng1 (aCons (eVar 1) aNil)) (.n 6) testY (eBin fAdd (eBin fAdd (eSl (eVar 3) oNone (oSome (eVar 4))) (eBin fIx (eVar 2) (eBin fMod (eCB bInt (aCons (eBin fAdd (eVar 5) (eBin fMul (eC (.int 9)) (eVar 6))) aNil)) (eC (.int 26))))) (eSl (eVar 3) (oSome (eVar 4)) oNone)) [6]))))))
noncomputable def xb__law_names : MS := (xSSeq (xSAsg 2 (xEC (.str "abcdefghijklmnopqrstuvwxyz")))
  (xSSeq (xSAsg 3 (xEMS mJoin (xEC (.str "")) (xACons (xShN (xECompN (xSRng1 (xACons (xECall 2 m__law_draw (xACons (xEVar 0) (xACons (xEC (.int 8)) xANil))) xANil)) (.n 6) testY (xECall 2 m__law_of (xACons (xEVar 0) (xACons (xEVar 2) xANil))) [6])) xANil)))
  (xSSeq (xSAsgT (.t [(.n 4), (.n 5)]) (xETup (xACons (xECall 2 m__law_draw (xACons (xEVar 0) (xACons (xEBin fAdd (xECB bLen (xACons (xEVar 3) xANil)) (xEC (.int 1))) xANil))) (xACons (xECall 2 m__law_draw (xACons (xEVar 0) (xACons (xEC (.int 26)) xANil))) xANil))))
  (xSRet (xShN (xECompN (xSRng1 (xACons (xEVar 1) xANil)) (.n 6) testY (xEBin fAdd (xEBin fAdd (xESl (xEVar 3) xONone (xOSome (xEVar 4))) (xEBin fIx (xEVar 2) (xEBin fMod (xECB bInt (xACons (xEBin fAdd (xEVar 5) (xEBin fMul (xEC (.int 9)) (xEVar 6))) xANil)) (xEC (.int 26))))) (xESl (xEVar 3) (xOSome (xEVar 4)) xONone)) [6]))))))
theorem xe__law_names : mb__law_names = xb__law_names := by kernel_rfl
@[irreducible] noncomputable def m__law_names : MF := mkF 5 mb__law_names
theorem b__law_names {P : Program} {w : World} {K : PySem.W.Frag} {mg : Str → Option Value} {base : Heap} {B : Bs} {f : Addr} {cdv : Value} {A : Around} {outer : List Env} {s : Shared} {H : Hp} {E : XK} {k : Nat} {N : Ent} (hK : K = B.K) (g : Gm mg)
    (D : Bdy (cxOf (L2.CX P w) P w K mg base nm__law_names "_law_names" (defScope st__law_names) f cdv A outer s H E) E k) (F__law_draw : Fn P w K mg base B k "_law_draw" 2 m__law_draw) (F__law_of : Fn P w K mg base B k "_law_of" 2 m__law_of) :
    SimSs (cxOf (L2.CX P w) P w K mg base nm__law_names "_law_names" (defScope st__law_names) f cdv A outer s H E) B N (fun c d _ H => E c d H) (defBody st__law_names) (mb__law_names) :=
  (simss_cons (sims_asg sc__law_names.nd rfl (.inr rfl) (sim_str (sok_of (by decide +kernel))) rfl (.inl rfl))
  (simss_cons (sims_asg sc__law_names.nd rfl (.inr rfl) (sim_ms PySem.F.slot_str_join PySem.F.type_str_join mt_join (sem_join hK) (sim_str (sok_of (by decide +kernel))) (simA_cons (SimN.sh (sim_lc (own := [("_law_k", 6)]) hK rfl sc__law_names.nd (sim_rng1 rfl g.n_range (simA_cons (sim_call F__law_draw D.tk D.rm rfl (simA_cons (sim_var (i := 0) rfl (.inr (.inl rfl)) rfl rfl) (simA_cons sim_int simA_nil rfl) rfl) rfl rfl rfl) simA_nil rfl) rfl) (blk_of (by kernel_rfl)) (by decide) (fun _ _ _ _ _ => (pgT_n (pg_name sc__law_names.nd rfl (.inl rfl) (.inr rfl)))) (fun _ _ _ _ _ => simTs_nil) (fun _ _ _ _ _ => (sim_call F__law_of (takesWF _) D.rm rfl (simA_cons (sim_var (i := 0) rfl (.inr (.inl rfl)) rfl rfl) (simA_cons (sim_var (i := 2) rfl (.inr (.inl rfl)) rfl rfl) simA_nil rfl) rfl) rfl rfl rfl)) (fun _ => rfl))) simA_nil rfl) rfl rfl rfl rfl rfl) rfl (.inl rfl))
  (simss_cons (sims_asgT hK (sim_tup (simA_cons (sim_call F__law_draw D.tk D.rm rfl (simA_cons (sim_var (i := 0) rfl (.inr (.inl rfl)) rfl rfl) (simA_cons (sim_add hK (sim_bi (bi_len hK) rfl g.n_len (simA_cons (sim_var (i := 3) rfl (.inr (.inl rfl)) rfl rfl) simA_nil rfl) (by decide) rfl rfl rfl) sim_int) simA_nil rfl) rfl) rfl rfl rfl) (simA_cons (sim_call F__law_draw D.tk D.rm rfl (simA_cons (sim_var (i := 0) rfl (.inr (.inl rfl)) rfl rfl) (simA_cons sim_int simA_nil rfl) rfl) rfl rfl rfl) simA_nil rfl) rfl)) (pgT_t rfl (pgTs_cons (pgT_n (pg_name sc__law_names.nd rfl (.inr rfl) (.inl rfl))) (pgTs_cons (pgT_n (pg_name sc__law_names.nd rfl (.inr rfl) (.inl rfl))) pgTs_nil rfl) rfl) rfl rfl) rfl rfl rfl)
  (simss_one (sims_ret (SimN.sh (sim_lc (own := [("_law_k", 6)]) hK rfl sc__law_names.nd (sim_rng1 rfl g.n_range (simA_cons (sim_var (i := 1) rfl (.inl rfl) rfl rfl) simA_nil rfl) rfl) (blk_of (by kernel_rfl)) (by decide) (fun _ _ _ _ _ => (pgT_n (pg_name sc__law_names.nd rfl (.inl rfl) (.inr rfl)))) (fun _ _ _ _ _ => simTs_nil) (fun _ _ _ _ _ => (sim_add hK (sim_add hK (sim_sl hK (sim_var (i := 3) rfl (.inr (.inl rfl)) rfl rfl) simO_none (simO_some (sim_var (i := 4) rfl (.inr (.inl rfl)) rfl rfl))) (sim_ix hK (sim_var (i := 2) rfl (.inr (.inl rfl)) rfl rfl) (sim_mod (sim_bi (bi_int) rfl g.n_int (simA_cons (sim_add hK (sim_var (i := 5) rfl (.inr (.inl rfl)) rfl rfl) (sim_mul hK sim_int (sim_var (i := 6) rfl (.inl rfl) rfl rfl))) simA_nil rfl) (by decide) rfl rfl rfl) sim_int) (fun _ _ => rfl))) (sim_sl hK (sim_var (i := 3) rfl (.inr (.inl rfl)) rfl rfl) (simO_some (sim_var (i := 4) rfl (.inr (.inl rfl)) rfl rfl)) simO_none))) (fun _ => rfl))))))))

/-! law -/
abbrev st_law : Stmt := top 14
def nm_law : List Str := ["_law_script", "_law_bag", "_law_turn", "_law_words", "_law_spot", "_law_sign", "_law_bad", "_law_found", "_law_low", "_law_size", "_law_number", "_law_odd", "_law_many", "_law_top", "_law_key", "_law_at", "_law_far", "_law_due", "_law_word", "_law_k", "_law_one"]
theorem sc_law : FnScope nm_law ["_law_script"] (defScope st_law) := ⟨rfl, rfl, rfl, by decide +kernel, rfl, by decide +kernel, by decide +kernel⟩
noncomputable def mb_law : MS := (sSeq (sAsg 1 (eCall 1 m__law_open (aCons (eVar 0) aNil)))
  (sSeq (sFor (sRng1 (aCons (eC (.int 6)) aNil)) (.n 2) (sSeq (sAsg 3 (eCall 2 m__law_names (aCons (eVar 1) (aCons (eC (.int 2)) aNil))))
  (sSeq (sAsg 4 (eCall 2 m__law_draw (aCons (eVar 1) (aCons (eBin fAdd (eCB bLen (aCons (eBin fIx (eVar 3) (eC (.int 0))) aNil)) (eC (.int 1))) aNil))))
  (sSeq (sAsg 5 (eCall 2 m__law_of (aCons (eVar 1) (aCons (eLst (aCons (eC (.str "A")) (aCons (eC (.str "1")) (aCons (eC (.str " ")) (aCons (eC (.str "-")) (aCons (eC (.str "_")) (aCons (eC (.str "\n")) aNil))))))) aNil))))
  (sSeq (sAsg 6 (eLst (aCons (eBin fAdd (eBin fAdd (eSl (eBin fIx (eVar 3) (eC (.int 0))) oNone (oSome (eVar 4))) (eVar 5)) (eSl (eBin fIx (eVar 3) (eC (.int 0))) (oSome (eVar 4)) oNone)) (aCons (eC (.str "")) (aCons (eC (.str "abcdefghi")) (aCons (eC .non) (aCons (eC (.int 3)) (aCons (eC (.bl true)) (aCons (eTup (aCons (eC (.str "a")) aNil)) (aCons (eLst (aCons (eC (.str "a")) aNil)) aNil))))))))))
  (sSeq (sAsg 7 (shN (eCompN (sAny (eBin fAdd (eBin fAdd (eVar 3) (eLst (aCons (eC (.str "abcdefgh")) aNil))) (eVar 6))) (.n 18) testY (eCall 1 m_is_name (aCons (eVar 18) aNil)) [18])))
  (sSeq (sIf (notM (tM (eCall 2 m__law_like (aCons (eVar 7) (aCons (eBin fAdd (eBin fMul (eLst (aCons (eC (.bl true)) aNil)) (eC (.int 3))) (eBin fMul (eLst (aCons (eC (.bl false)) aNil)) (eC (.int 8)))) aNil))))) (sRet (eC (.bl false))) sNil)
  (sSeq (sPar 8 9 (aCons (eBin fSub (eCall 2 m__law_draw (aCons (eVar 1) (aCons (eC (.int 19)) aNil))) (eC (.int 9))) (aCons (eCall 2 m__law_draw (aCons (eVar 1) (aCons (eC (.int 4)) aNil))) aNil)))
  (sSeq (sFor (sRng2 (aCons (eBin fSub (eVar 8) (eC (.int 2))) (aCons (eBin fAdd (eBin fAdd (eVar 8) (eVar 9)) (eC (.int 3))) aNil))) (.n 10) (sIf (notM (tM (eCall 2 m__law_like (aCons (eCallK 0 3 [1, 2, 0] 3 m_is_number aNil (aCons (eBin fAdd (eVar 8) (eVar 9)) (aCons (eVar 10) (aCons (eVar 8) aNil)))) (aCons (eChain fLe fLe (eVar 8) (eVar 10) (eBin fAdd (eVar 8) (eVar 9))) aNil))))) (sRet (eC (.bl false))) sNil))
  (sSeq (sAsg 11 (eCall 2 m__law_of (aCons (eVar 1) (aCons (eLst (aCons (eC .non) (aCons (eC (.bl true)) (aCons (eC (.bl false)) (aCons (eC (.str "1")) (aCons (eTup (aCons (eC (.int 1)) aNil)) (aCons (eLst (aCons (eC (.int 1)) aNil)) aNil))))))) aNil))))
  (sSeq (sAsgT (.t [(.n 12), (.n 13)]) (eTup (aCons (eBin fAdd (eC (.int 1)) (eCall 2 m__law_draw (aCons (eVar 1) (aCons (eC (.int 40)) aNil)))) (aCons (eBin fPow (eC (.int 10)) (eC (.int 18))) aNil))))
  (sSeq (sAsg 14 (eCB bTuple (aCons (shN (eCompN (sRng1 (aCons (eVar 12) aNil)) (.n 19) testY (eCall 2 m__law_of (aCons (eVar 1) (aCons (eLst (aCons (eC (.int 0)) (aCons (eC (.int 1)) (aCons (eBin fSub (eC (.int 0)) (eC (.int 5))) (aCons (eVar 13) (aCons (eBin fSub (eC (.int 0)) (eVar 13)) aNil)))))) aNil))) [19])) aNil)))
  (sSeq (sAsg 15 (eCall 2 m__law_draw (aCons (eVar 1) (aCons (eVar 12) aNil))))
  (sSeq (sAsg 16 (eLst (aCons (eBin fAdd (eVar 13) (eC (.int 1))) (aCons (eBin fSub (eBin fSub (eC (.int 0)) (eVar 13)) (eC (.int 1))) (aCons (eC .non) (aCons (eC (.bl true)) (aCons (eC (.str "0")) (aCons (eTup (aCons (eC (.int 0)) aNil)) aNil))))))))
  (sSeq (sAsg 6 (eBin fAdd (shN (eCompN (sAny (eVar 16)) (.n 20) testY (eBin fAdd (eBin fAdd (eSl (eVar 14) oNone (oSome (eVar 15))) (eTup (aCons (eVar 20) aNil))) (eSl (eVar 14) (oSome (eBin fAdd (eVar 15) (eC (.int 1)))) oNone)) [20])) (eLst (aCons (eTup aNil) (aCons (eCB bList (aCons (eVar 14) aNil)) (aCons (eC (.int 0)) (aCons (eC .non) (aCons (eC (.str "0")) (aCons (eBin fAdd (eVar 14) (eBin fMul (eTup (aCons (eC (.int 0)) aNil)) (eC (.int 40)))) (aCons (eVar 11) aNil))))))))))
  (sSeq (sAsg 7 (eBin fAdd (eLst (aCons (eCall 3 m_is_number (aCons (eVar 11) (aCons (eC (.int 0)) (aCons (eC (.int 9)) aNil)))) (aCons (eCall 1 m_is_key (aCons (eVar 14) aNil)) (aCons (eCallK 0 1 [0] 1 m_is_key aNil (aCons (eBin fMul (eSl (eVar 14) oNone (oSome (eC (.int 1)))) (eC (.int 40))) aNil)) aNil)))) (shN (eCompN (sAny (eVar 6)) (.n 20) testY (eCall 1 m_is_key (aCons (eVar 20) aNil)) [20]))))
  (sSeq (sAsg 17 (eBin fAdd (eBin fAdd (eLst (aCons (eC (.bl false)) (aCons (eC (.bl true)) (aCons (eC (.bl true)) aNil)))) (eBin fMul (eLst (aCons (eC (.bl false)) aNil)) (eC (.int 12)))) (eLst (aCons (eBin fEq (eVar 11) (eTup (aCons (eC (.int 1)) aNil))) aNil))))
  (sIf (notM (tM (eCall 2 m__law_like (aCons (eVar 7) (aCons (eVar 17) aNil))))) (sRet (eC (.bl false))) sNil))))))))))))))))))
  (sRet (eC (.bl true)))))
noncomputable def xb_law : MS := (xSSeq (xSAsg 1 (xECall 1 m__law_open (xACons (xEVar 0) xANil)))
  (xSSeq (xSFor (xSRng1 (xACons (xEC (.int 6)) xANil)) (.n 2) (xSSeq (xSAsg 3 (xECall 2 m__law_names (xACons (xEVar 1) (xACons (xEC (.int 2)) xANil))))
  (xSSeq (xSAsg 4 (xECall 2 m__law_draw (xACons (xEVar 1) (xACons (xEBin fAdd (xECB bLen (xACons (xEBin fIx (xEVar 3) (xEC (.int 0))) xANil)) (xEC (.int 1))) xANil))))
  (xSSeq (xSAsg 5 (xECall 2 m__law_of (xACons (xEVar 1) (xACons (xELst (xACons (xEC (.str "A")) (xACons (xEC (.str "1")) (xACons (xEC (.str " ")) (xACons (xEC (.str "-")) (xACons (xEC (.str "_")) (xACons (xEC (.str "\n")) xANil))))))) xANil))))
  (xSSeq (xSAsg 6 (xELst (xACons (xEBin fAdd (xEBin fAdd (xESl (xEBin fIx (xEVar 3) (xEC (.int 0))) xONone (xOSome (xEVar 4))) (xEVar 5)) (xESl (xEBin fIx (xEVar 3) (xEC (.int 0))) (xOSome (xEVar 4)) xONone)) (xACons (xEC (.str "")) (xACons (xEC (.str "abcdefghi")) (xACons (xEC .non) (xACons (xEC (.int 3)) (xACons (xEC (.bl true)) (xACons (xETup (xACons (xEC (.str "a")) xANil)) (xACons (xELst (xACons (xEC (.str "a")) xANil)) xANil))))))))))
  (xSSeq (xSAsg 7 (xShN (xECompN (xSAny (xEBin fAdd (xEBin fAdd (xEVar 3) (xELst (xACons (xEC (.str "abcdefgh")) xANil))) (xEVar 6))) (.n 18) testY (xECall 1 m_is_name (xACons (xEVar 18) xANil)) [18])))
  (xSSeq (xSIf (xNotM (xTM (xECall 2 m__law_like (xACons (xEVar 7) (xACons (xEBin fAdd (xEBin fMul (xELst (xACons (xEC (.bl true)) xANil)) (xEC (.int 3))) (xEBin fMul (xELst (xACons (xEC (.bl false)) xANil)) (xEC (.int 8)))) xANil))))) (xSRet (xEC (.bl false))) xSNil)
  (xSSeq (xSPar 8 9 (xACons (xEBin fSub (xECall 2 m__law_draw (xACons (xEVar 1) (xACons (xEC (.int 19)) xANil))) (xEC (.int 9))) (xACons (xECall 2 m__law_draw (xACons (xEVar 1) (xACons (xEC (.int 4)) xANil))) xANil)))
  (xSSeq (xSFor (xSRng2 (xACons (xEBin fSub (xEVar 8) (xEC (.int 2))) (xACons (xEBin fAdd (xEBin fAdd (xEVar 8) (xEVar 9)) (xEC (.int 3))) xANil))) (.n 10) (xSIf (xNotM (xTM (xECall 2 m__law_like (xACons (xECallK 0 3 [1, 2, 0] 3 m_is_number xANil (xACons (xEBin fAdd (xEVar 8) (xEVar 9)) (xACons (xEVar 10) (xACons (xEVar 8) xANil)))) (xACons (xEChain fLe fLe (xEVar 8) (xEVar 10) (xEBin fAdd (xEVar 8) (xEVar 9))) xANil))))) (xSRet (xEC (.bl false))) xSNil))
  (xSSeq (xSAsg 11 (xECall 2 m__law_of (xACons (xEVar 1) (xACons (xELst (xACons (xEC .non) (xACons (xEC (.bl true)) (xACons (xEC (.bl false)) (xACons (xEC (.str "1")) (xACons (xETup (xACons (xEC (.int 1)) xANil)) (xACons (xELst (xACons (xEC (.int 1)) xANil)) xANil))))))) xANil))))
  (xSSeq (xSAsgT (.t [(.n 12), (.n 13)]) (xETup (xACons (xEBin fAdd (xEC (.int 1)) (xECall 2 m__law_draw (xACons (xEVar 1) (xACons (xEC (.int 40)) xANil)))) (xACons (xEBin fPow (xEC (.int 10)) (xEC (.int 18))) xANil))))
  (xSSeq (xSAsg 14 (xECB bTuple (xACons (xShN (xECompN (xSRng1 (xACons (xEVar 12) xANil)) (.n 19) testY (xECall 2 m__law_of (xACons (xEVar 1) (xACons (xELst (xACons (xEC (.int 0)) (xACons (xEC (.int 1)) (xACons (xEBin fSub (xEC (.int 0)) (xEC (.int 5))) (xACons (xEVar 13) (xACons (xEBin fSub (xEC (.int 0)) (xEVar 13)) xANil)))))) xANil))) [19])) xANil)))
  (xSSeq (xSAsg 15 (xECall 2 m__law_draw (xACons (xEVar 1) (xACons (xEVar 12) xANil))))
  (xSSeq (xSAsg 16 (xELst (xACons (xEBin fAdd (xEVar 13) (xEC (.int 1))) (xACons (xEBin fSub (xEBin fSub (xEC (.int 0)) (xEVar 13)) (xEC (.int 1))) (xACons (xEC .non) (xACons (xEC (.bl true)) (xACons (xEC (.str "0")) (xACons (xETup (xACons (xEC (.int 0)) xANil)) xANil))))))))
  (xSSeq (xSAsg 6 (xEBin fAdd (xShN (xECompN (xSAny (xEVar 16)) (.n 20) testY (xEBin fAdd (xEBin fAdd (xESl (xEVar 14) xONone (xOSome (xEVar 15))) (xETup (xACons (xEVar 20) xANil))) (xESl (xEVar 14) (xOSome (xEBin fAdd (xEVar 15) (xEC (.int 1)))) xONone)) [20])) (xELst (xACons (xETup xANil) (xACons (xECB bList (xACons (xEVar 14) xANil)) (xACons (xEC (.int 0)) (xACons (xEC .non) (xACons (xEC (.str "0")) (xACons (xEBin fAdd (xEVar 14) (xEBin fMul (xETup (xACons (xEC (.int 0)) xANil)) (xEC (.int 40)))) (xACons (xEVar 11) xANil))))))))))
  (xSSeq (xSAsg 7 (xEBin fAdd (xELst (xACons (xECall 3 m_is_number (xACons (xEVar 11) (xACons (xEC (.int 0)) (xACons (xEC (.int 9)) xANil)))) (xACons (xECall 1 m_is_key (xACons (xEVar 14) xANil)) (xACons (xECallK 0 1 [0] 1 m_is_key xANil (xACons (xEBin fMul (xESl (xEVar 14) xONone (xOSome (xEC (.int 1)))) (xEC (.int 40))) xANil)) xANil)))) (xShN (xECompN (xSAny (xEVar 6)) (.n 20) testY (xECall 1 m_is_key (xACons (xEVar 20) xANil)) [20]))))
  (xSSeq (xSAsg 17 (xEBin fAdd (xEBin fAdd (xELst (xACons (xEC (.bl false)) (xACons (xEC (.bl true)) (xACons (xEC (.bl true)) xANil)))) (xEBin fMul (xELst (xACons (xEC (.bl false)) xANil)) (xEC (.int 12)))) (xELst (xACons (xEBin fEq (xEVar 11) (xETup (xACons (xEC (.int 1)) xANil))) xANil))))
  (xSIf (xNotM (xTM (xECall 2 m__law_like (xACons (xEVar 7) (xACons (xEVar 17) xANil))))) (xSRet (xEC (.bl false))) xSNil))))))))))))))))))
  (xSRet (xEC (.bl true)))))
theorem xe_law : mb_law = xb_law := by kernel_rfl
@[irreducible] noncomputable def m_law : MF := mkF 20 mb_law
theorem b_law {P : Program} {w : World} {K : PySem.W.Frag} {mg : Str → Option Value} {base : Heap} {B : Bs} {f : Addr} {cdv : Value} {A : Around} {outer : List Env} {s : Shared} {H : Hp} {E : XK} {k : Nat} {N : Ent} (hK : K = B.K) (g : Gm mg)
    (D : Bdy (cxOf (L2.CX P w) P w K mg base nm_law "law" (defScope st_law) f cdv A outer s H E) E k) (F__law_open : Fn P w K mg base B k "_law_open" 1 m__law_open) (F__law_names : Fn P w K mg base B k "_law_names" 2 m__law_names) (F__law_draw : Fn P w K mg base B k "_law_draw" 2 m__law_draw) (F__law_of : Fn P w K mg base B k "_law_of" 2 m__law_of) (F_is_name : Fn P w K mg base B k "is_name" 1 m_is_name) (F__law_like : Fn P w K mg base B k "_law_like" 2 m__law_like) (F_is_key : Fn P w K mg base B k "is_key" 1 m_is_key) (F_is_number : Fn P w K mg base B k "is_number" 3 m_is_number) (K_is_number_0_most_value_least : FnK P w K mg base B k "is_number" 0 ["most", "value", "least"] [1, 2, 0] 3 m_is_number) (K_is_key_0_value : FnK P w K mg base B k "is_key" 0 ["value"] [0] 1 m_is_key) :
    SimSs (cxOf (L2.CX P w) P w K mg base nm_law "law" (defScope st_law) f cdv A outer s H E) B N (fun c d _ H => E c d H) (defBody st_law) (mb_law) :=
  (simss_cons (sims_asg sc_law.nd rfl (.inr rfl) (sim_call F__law_open D.tk D.rm rfl (simA_cons (sim_var (i := 0) rfl (.inl rfl) rfl rfl) simA_nil rfl) rfl rfl rfl) rfl (.inl rfl))
  (simss_cons (sims_for D.pa hK rfl (sim_rng1 rfl g.n_range (simA_cons sim_int simA_nil rfl) rfl) (pgT_n (pg_name sc_law.nd rfl (.inl rfl) (.inl rfl))) (fun _ => (simss_cons (sims_asg sc_law.nd rfl (.inl rfl) (sim_call F__law_names D.tk D.rm rfl (simA_cons (sim_var (i := 1) rfl (.inr (.inl rfl)) rfl rfl) (simA_cons sim_int simA_nil rfl) rfl) rfl rfl rfl) rfl (.inl rfl))
  (simss_cons (sims_asg sc_law.nd rfl (.inl rfl) (sim_call F__law_draw D.tk D.rm rfl (simA_cons (sim_var (i := 1) rfl (.inr (.inl rfl)) rfl rfl) (simA_cons (sim_add hK (sim_bi (bi_len hK) rfl g.n_len (simA_cons (sim_ix hK (sim_var (i := 3) rfl (.inl rfl) rfl rfl) sim_int (fun _ _ => rfl)) simA_nil rfl) (by decide) rfl rfl rfl) sim_int) simA_nil rfl) rfl) rfl rfl rfl) rfl (.inl rfl))
  (simss_cons (sims_asg sc_law.nd rfl (.inl rfl) (sim_call F__law_of D.tk D.rm rfl (simA_cons (sim_var (i := 1) rfl (.inr (.inl rfl)) rfl rfl) (simA_cons (sim_lst (simA_cons (sim_str (sok_of (by decide +kernel))) (simA_cons (sim_str (sok_of (by decide +kernel))) (simA_cons (sim_str (sok_of (by decide +kernel))) (simA_cons (sim_str (sok_of (by decide +kernel))) (simA_cons (sim_str (sok_of (by decide +kernel))) (simA_cons (sim_str (sok_of (by decide +kernel))) simA_nil rfl) rfl) rfl) rfl) rfl) rfl)) simA_nil rfl) rfl) rfl rfl rfl) rfl (.inl rfl))
  (simss_cons (sims_asg sc_law.nd rfl (.inl rfl) (sim_lst (simA_cons (sim_add hK (sim_add hK (sim_sl hK (sim_ix hK (sim_var (i := 3) rfl (.inl rfl) rfl rfl) sim_int (fun _ _ => rfl)) simO_none (simO_some (sim_var (i := 4) rfl (.inl rfl) rfl rfl))) (sim_var (i := 5) rfl (.inl rfl) rfl rfl)) (sim_sl hK (sim_ix hK (sim_var (i := 3) rfl (.inl rfl) rfl rfl) sim_int (fun _ _ => rfl)) (simO_some (sim_var (i := 4) rfl (.inl rfl) rfl rfl)) simO_none)) (simA_cons (sim_str (sok_of (by decide +kernel))) (simA_cons (sim_str (sok_of (by decide +kernel))) (simA_cons sim_non (simA_cons sim_int (simA_cons sim_bl (simA_cons (sim_tup (simA_cons (sim_str (sok_of (by decide +kernel))) simA_nil rfl)) (simA_cons (sim_lst (simA_cons (sim_str (sok_of (by decide +kernel))) simA_nil rfl)) simA_nil rfl) rfl) rfl) rfl) rfl) rfl) rfl) rfl)) rfl (.inl rfl))
  (simss_cons (sims_asgLc (own := [("_law_word", 18)]) hK rfl sc_law.nd rfl rfl rfl (sim_any hK (sim_add hK (sim_add hK (sim_var (i := 3) rfl (.inl rfl) rfl rfl) (sim_lst (simA_cons (sim_str (sok_of (by decide +kernel))) simA_nil rfl))) (sim_var (i := 6) rfl (.inl rfl) rfl rfl))) (blk_of (by kernel_rfl)) (by decide) (fun _ _ _ _ _ => (pgT_n (pg_name sc_law.nd rfl (.inl rfl) (.inr rfl)))) (fun _ _ _ _ _ => simTs_nil) (fun _ _ _ _ _ => (sim_call F_is_name (takesWF _) D.rm rfl (simA_cons (sim_var (i := 18) rfl (.inl rfl) rfl rfl) simA_nil rfl) rfl rfl rfl)) (fun _ => rfl))
  (simss_cons (sims_if (sim_tnot (sim_truth hK (sim_call F__law_like D.tk D.rm rfl (simA_cons (sim_var (i := 7) rfl (.inl rfl) rfl rfl) (simA_cons (sim_add hK (sim_mul hK (sim_lst (simA_cons sim_bl simA_nil rfl)) sim_int) (sim_mul hK (sim_lst (simA_cons sim_bl simA_nil rfl)) sim_int)) simA_nil rfl) rfl) rfl rfl rfl) (fun _ => rfl))) (simss_one (sims_ret sim_bl)) simss_nil)
  (simss_cons (sims_par (i := 8) (j := 9) rfl sc_law.nd rfl rfl (by decide) rfl rfl (simA_cons (sim_sub (sim_call F__law_draw D.tk D.rm rfl (simA_cons (sim_var (i := 1) rfl (.inr (.inl rfl)) rfl rfl) (simA_cons sim_int simA_nil rfl) rfl) rfl rfl rfl) sim_int) (simA_cons (sim_call F__law_draw D.tk D.rm rfl (simA_cons (sim_var (i := 1) rfl (.inr (.inl rfl)) rfl rfl) (simA_cons sim_int simA_nil rfl) rfl) rfl rfl rfl) simA_nil rfl) rfl) rfl rfl)
  (simss_cons (sims_for D.pa hK rfl (sim_rng2 rfl g.n_range (simA_cons (sim_sub (sim_var (i := 8) rfl (.inl rfl) rfl rfl) sim_int) (simA_cons (sim_add hK (sim_add hK (sim_var (i := 8) rfl (.inl rfl) rfl rfl) (sim_var (i := 9) rfl (.inl rfl) rfl rfl)) sim_int) simA_nil rfl) rfl) rfl rfl) (pgT_n (pg_name sc_law.nd rfl (.inl rfl) (.inl rfl))) (fun _ => (simss_one (sims_if (sim_tnot (sim_truth hK (sim_call F__law_like D.tk D.rm rfl (simA_cons (sim_callK0 K_is_number_0_most_value_least D.tk D.rm rfl (simK_cons (sim_add hK (sim_var (i := 8) rfl (.inl rfl) rfl rfl) (sim_var (i := 9) rfl (.inl rfl) rfl rfl)) (simK_cons (sim_var (i := 10) rfl (.inl rfl) rfl rfl) (simK_cons (sim_var (i := 8) rfl (.inl rfl) rfl rfl) simK_nil))) rfl rfl rfl rfl rfl) (simA_cons (sim_ch (co_le) (co_le) (sim_var (i := 8) rfl (.inl rfl) rfl rfl) (sim_var (i := 10) rfl (.inl rfl) rfl rfl) (sim_add hK (sim_var (i := 8) rfl (.inl rfl) rfl rfl) (sim_var (i := 9) rfl (.inl rfl) rfl rfl)) rfl) simA_nil rfl) rfl) rfl rfl rfl) (fun _ => rfl))) (simss_one (sims_ret sim_bl)) simss_nil))) (fun _ => rfl))
  (simss_cons (sims_asg sc_law.nd rfl (.inl rfl) (sim_call F__law_of D.tk D.rm rfl (simA_cons (sim_var (i := 1) rfl (.inr (.inl rfl)) rfl rfl) (simA_cons (sim_lst (simA_cons sim_non (simA_cons sim_bl (simA_cons sim_bl (simA_cons (sim_str (sok_of (by decide +kernel))) (simA_cons (sim_tup (simA_cons sim_int simA_nil rfl)) (simA_cons (sim_lst (simA_cons sim_int simA_nil rfl)) simA_nil rfl) rfl) rfl) rfl) rfl) rfl)) simA_nil rfl) rfl) rfl rfl rfl) rfl (.inl rfl))
  (simss_cons (sims_asgT hK (sim_tup (simA_cons (sim_add hK sim_int (sim_call F__law_draw D.tk D.rm rfl (simA_cons (sim_var (i := 1) rfl (.inr (.inl rfl)) rfl rfl) (simA_cons sim_int simA_nil rfl) rfl) rfl rfl rfl)) (simA_cons (sim_pow sim_int sim_int) simA_nil rfl) rfl)) (pgT_t rfl (pgTs_cons (pgT_n (pg_name sc_law.nd rfl (.inl rfl) (.inl rfl))) (pgTs_cons (pgT_n (pg_name sc_law.nd rfl (.inr rfl) (.inl rfl))) pgTs_nil rfl) rfl) rfl rfl) rfl rfl rfl)
  (simss_cons (sims_asg sc_law.nd rfl (.inr rfl) (sim_bi (bi_tuple hK) rfl g.n_tuple (simA_cons (SimN.sh (sim_lc (own := [("_law_k", 19)]) hK rfl sc_law.nd (sim_rng1 rfl g.n_range (simA_cons (sim_var (i := 12) rfl (.inl rfl) rfl rfl) simA_nil rfl) rfl) (blk_of (by kernel_rfl)) (by decide) (fun _ _ _ _ _ => (pgT_n (pg_name sc_law.nd rfl (.inl rfl) (.inr rfl)))) (fun _ _ _ _ _ => simTs_nil) (fun _ _ _ _ _ => (sim_call F__law_of (takesWF _) D.rm rfl (simA_cons (sim_var (i := 1) rfl (.inr (.inl rfl)) rfl rfl) (simA_cons (sim_lst (simA_cons sim_int (simA_cons sim_int (simA_cons (sim_sub sim_int sim_int) (simA_cons (sim_var (i := 13) rfl (.inr (.inl rfl)) rfl rfl) (simA_cons (sim_sub sim_int (sim_var (i := 13) rfl (.inr (.inl rfl)) rfl rfl)) simA_nil rfl) rfl) rfl) rfl) rfl)) simA_nil rfl) rfl) rfl rfl rfl)) (fun _ => rfl))) simA_nil rfl) (by decide) rfl rfl rfl) rfl (.inl rfl))
  (simss_cons (sims_asg sc_law.nd rfl (.inr rfl) (sim_call F__law_draw D.tk D.rm rfl (simA_cons (sim_var (i := 1) rfl (.inr (.inl rfl)) rfl rfl) (simA_cons (sim_var (i := 12) rfl (.inl rfl) rfl rfl) simA_nil rfl) rfl) rfl rfl rfl) rfl (.inl rfl))
  (simss_cons (sims_asg sc_law.nd rfl (.inl rfl) (sim_lst (simA_cons (sim_add hK (sim_var (i := 13) rfl (.inr (.inl rfl)) rfl rfl) sim_int) (simA_cons (sim_sub (sim_sub sim_int (sim_var (i := 13) rfl (.inr (.inl rfl)) rfl rfl)) sim_int) (simA_cons sim_non (simA_cons sim_bl (simA_cons (sim_str (sok_of (by decide +kernel))) (simA_cons (sim_tup (simA_cons sim_int simA_nil rfl)) simA_nil rfl) rfl) rfl) rfl) rfl) rfl)) rfl (.inl rfl))
  (simss_cons (sims_asg sc_law.nd rfl (.inl rfl) (sim_add hK (SimN.sh (sim_lc (own := [("_law_one", 20)]) hK rfl sc_law.nd (sim_any hK (sim_var (i := 16) rfl (.inl rfl) rfl rfl)) (blk_of (by kernel_rfl)) (by decide) (fun _ _ _ _ _ => (pgT_n (pg_name sc_law.nd rfl (.inl rfl) (.inr rfl)))) (fun _ _ _ _ _ => simTs_nil) (fun _ _ _ _ _ => (sim_add hK (sim_add hK (sim_sl hK (sim_var (i := 14) rfl (.inr (.inl rfl)) rfl rfl) simO_none (simO_some (sim_var (i := 15) rfl (.inr (.inl rfl)) rfl rfl))) (sim_tup (simA_cons (sim_var (i := 20) rfl (.inl rfl) rfl rfl) simA_nil rfl))) (sim_sl hK (sim_var (i := 14) rfl (.inr (.inl rfl)) rfl rfl) (simO_some (sim_add hK (sim_var (i := 15) rfl (.inr (.inl rfl)) rfl rfl) sim_int)) simO_none))) (fun _ => rfl))) (sim_lst (simA_cons (sim_tup simA_nil) (simA_cons (sim_bi (bi_list hK) rfl g.n_list (simA_cons (sim_var (i := 14) rfl (.inr (.inl rfl)) rfl rfl) simA_nil rfl) (by decide) rfl rfl rfl) (simA_cons sim_int (simA_cons sim_non (simA_cons (sim_str (sok_of (by decide +kernel))) (simA_cons (sim_add hK (sim_var (i := 14) rfl (.inr (.inl rfl)) rfl rfl) (sim_mul hK (sim_tup (simA_cons sim_int simA_nil rfl)) sim_int)) (simA_cons (sim_var (i := 11) rfl (.inl rfl) rfl rfl) simA_nil rfl) rfl) rfl) rfl) rfl) rfl) rfl))) rfl (.inl rfl))
  (simss_cons (sims_asg sc_law.nd rfl (.inl rfl) (sim_add hK (sim_lst (simA_cons (sim_call F_is_number D.tk D.rm rfl (simA_cons (sim_var (i := 11) rfl (.inl rfl) rfl rfl) (simA_cons sim_int (simA_cons sim_int simA_nil rfl) rfl) rfl) rfl rfl rfl) (simA_cons (sim_call F_is_key D.tk D.rm rfl (simA_cons (sim_var (i := 14) rfl (.inr (.inl rfl)) rfl rfl) simA_nil rfl) rfl rfl rfl) (simA_cons (sim_callK0 K_is_key_0_value D.tk D.rm rfl (simK_cons (sim_mul hK (sim_sl hK (sim_var (i := 14) rfl (.inr (.inl rfl)) rfl rfl) simO_none (simO_some sim_int)) sim_int) simK_nil) rfl rfl rfl rfl rfl) simA_nil rfl) rfl) rfl)) (SimN.sh (sim_lc (own := [("_law_one", 20)]) hK rfl sc_law.nd (sim_any hK (sim_var (i := 6) rfl (.inl rfl) rfl rfl)) (blk_of (by kernel_rfl)) (by decide) (fun _ _ _ _ _ => (pgT_n (pg_name sc_law.nd rfl (.inl rfl) (.inr rfl)))) (fun _ _ _ _ _ => simTs_nil) (fun _ _ _ _ _ => (sim_call F_is_key (takesWF _) D.rm rfl (simA_cons (sim_var (i := 20) rfl (.inl rfl) rfl rfl) simA_nil rfl) rfl rfl rfl)) (fun _ => rfl)))) rfl (.inl rfl))
  (simss_cons (sims_asg sc_law.nd rfl (.inl rfl) (sim_add hK (sim_add hK (sim_lst (simA_cons sim_bl (simA_cons sim_bl (simA_cons sim_bl simA_nil rfl) rfl) rfl)) (sim_mul hK (sim_lst (simA_cons sim_bl simA_nil rfl)) sim_int)) (sim_lst (simA_cons (sim_cm (co_eq hK D.rm) (sim_var (i := 11) rfl (.inl rfl) rfl rfl) (sim_tup (simA_cons sim_int simA_nil rfl)) rfl) simA_nil rfl))) rfl (.inl rfl))
  (simss_one (sims_if (sim_tnot (sim_truth hK (sim_call F__law_like D.tk D.rm rfl (simA_cons (sim_var (i := 7) rfl (.inl rfl) rfl rfl) (simA_cons (sim_var (i := 17) rfl (.inl rfl) rfl rfl) simA_nil rfl) rfl) rfl rfl rfl) (fun _ => rfl))) (simss_one (sims_ret sim_bl)) simss_nil))))))))))))))))))) (fun _ => rfl))
  (simss_one (sims_ret sim_bl))))
end LW

set_option Elab.async false
set_option linter.all false
set_option maxRecDepth 100000
set_option maxHeartbeats 0
namespace LW
open PySem PySem.Spec PyProof.Rows L2 Lp
theorem fo_is_number {P : Program} {w : World} {K : PySem.W.Frag} {mg : Str → Option Value} {base : Heap} {B : Bs} (hK : K = B.K) (g : Gm mg) {fa : Addr} {fd : FuncData} (F : FunD K "is_number" "is_number" (defArgs st_is_number) (defBody st_is_number) (defScope st_is_number) [] [] fa fd)  : FnOk P w K mg base (L2.CX P w) 1 fa fd ["value", "least", "most"] (spF B 3 m_is_number) := by
  unfold m_is_number
  exact fn_ok F sc_is_number rfl rfl fun _ _ _ _ _ _ _ D => b_is_number hK g D 
theorem fo_is_name {P : Program} {w : World} {K : PySem.W.Frag} {mg : Str → Option Value} {base : Heap} {B : Bs} (hK : K = B.K) (g : Gm mg) {fa : Addr} {fd : FuncData} (F : FunD K "is_name" "is_name" (defArgs st_is_name) (defBody st_is_name) (defScope st_is_name) [] [] fa fd)  : FnOk P w K mg base (L2.CX P w) 1 fa fd ["value"] (spF B 1 m_is_name) := by
  unfold m_is_name
  exact fn_ok F sc_is_name rfl rfl fun _ _ _ _ _ _ _ D => b_is_name hK g D 
theorem fo_is_key {P : Program} {w : World} {K : PySem.W.Frag} {mg : Str → Option Value} {base : Heap} {B : Bs} (hK : K = B.K) (g : Gm mg) {fa : Addr} {fd : FuncData} (F : FunD K "is_key" "is_key" (defArgs st_is_key) (defBody st_is_key) (defScope st_is_key) [] [] fa fd) (F_is_number : Fn P w K mg base B 1 "is_number" 3 m_is_number) : FnOk P w K mg base (L2.CX P w) 2 fa fd ["value"] (spF B 1 m_is_key) := by
  unfold m_is_key
  exact fn_ok F sc_is_key rfl rfl fun _ _ _ _ _ _ _ D => b_is_key hK g D F_is_number
theorem fo__law_open {P : Program} {w : World} {K : PySem.W.Frag} {mg : Str → Option Value} {base : Heap} {B : Bs} (hK : K = B.K) (g : Gm mg) {fa : Addr} {fd : FuncData} (F : FunD K "_law_open" "_law_open" (defArgs st__law_open) (defBody st__law_open) (defScope st__law_open) [] [] fa fd)  : FnOk P w K mg base (L2.CX P w) 1 fa fd ["_law_script"] (spF B 1 m__law_open) := by
  unfold m__law_open
  exact fn_ok F sc__law_open rfl rfl fun _ _ _ _ _ _ _ D => b__law_open hK g D 
theorem fo__law_draw {P : Program} {w : World} {K : PySem.W.Frag} {mg : Str → Option Value} {base : Heap} {B : Bs} (hK : K = B.K) (g : Gm mg) {fa : Addr} {fd : FuncData} (F : FunD K "_law_draw" "_law_draw" (defArgs st__law_draw) (defBody st__law_draw) (defScope st__law_draw) [] [] fa fd)  : FnOk P w K mg base (L2.CX P w) 1 fa fd ["_law_bag", "_law_many"] (spF B 2 m__law_draw) := by
  unfold m__law_draw
  exact fn_ok F sc__law_draw rfl rfl fun _ _ _ _ _ _ _ D => b__law_draw hK g D 
theorem fo__law_of {P : Program} {w : World} {K : PySem.W.Frag} {mg : Str → Option Value} {base : Heap} {B : Bs} (hK : K = B.K) (g : Gm mg) {fa : Addr} {fd : FuncData} (F : FunD K "_law_of" "_law_of" (defArgs st__law_of) (defBody st__law_of) (defScope st__law_of) [] [] fa fd) (F__law_draw : Fn P w K mg base B 1 "_law_draw" 2 m__law_draw) : FnOk P w K mg base (L2.CX P w) 2 fa fd ["_law_bag", "_law_things"] (spF B 2 m__law_of) := by
  unfold m__law_of
  exact fn_ok F sc__law_of rfl rfl fun _ _ _ _ _ _ _ D => b__law_of hK g D F__law_draw
theorem fr__law_like {P : Program} {w : World} {K : PySem.W.Frag} {mg : Str → Option Value} {base : Heap} {B : Bs} (hK : K = B.K) (g : Gm mg) {fa : Addr} {fd : FuncData} (F : FunD K "_law_like" "_law_like" (defArgs st__law_like) (defBody st__law_like) (defScope st__law_like) [] [] fa fd) (hm : mg "_law_like" = some (.ref fa))  : ∀ n : Nat, FnOk P w K mg base (L2.CX P w) (0 + n + 1) fa fd ["_law_found", "_law_due"] (spF B 2 (mr__law_like n))
  | 0 => fn_bad F sc__law_like
  | n + 1 => fn_ok (k := 0 + n + 1) F sc__law_like rfl rfl fun _ _ _ _ _ _ _ D => b__law_like hK g D ⟨fa, fd, _, fr__law_like hK g F hm  n, hm, F.kp, (F.bindsN fun _ _ _ _ _ _ us hl => match us, hl with | [_, _], _ => rfl)⟩
theorem fo__law_like {P : Program} {w : World} {K : PySem.W.Frag} {mg : Str → Option Value} {base : Heap} {B : Bs} (hK : K = B.K) (g : Gm mg) {fa : Addr} {fd : FuncData} (F : FunD K "_law_like" "_law_like" (defArgs st__law_like) (defBody st__law_like) (defScope st__law_like) [] [] fa fd) (hm : mg "_law_like" = some (.ref fa))  : FnOk P w K mg base (L2.CX P w) 9 fa fd ["_law_found", "_law_due"] (spF B 2 m__law_like) := by
  unfold m__law_like
  exact fr__law_like hK g F hm  8
theorem fo__law_names {P : Program} {w : World} {K : PySem.W.Frag} {mg : Str → Option Value} {base : Heap} {B : Bs} (hK : K = B.K) (g : Gm mg) {fa : Addr} {fd : FuncData} (F : FunD K "_law_names" "_law_names" (defArgs st__law_names) (defBody st__law_names) (defScope st__law_names) [] [] fa fd) (F__law_draw : Fn P w K mg base B 2 "_law_draw" 2 m__law_draw) (F__law_of : Fn P w K mg base B 2 "_law_of" 2 m__law_of) : FnOk P w K mg base (L2.CX P w) 3 fa fd ["_law_bag", "_law_many"] (spF B 2 m__law_names) := by
  unfold m__law_names
  exact fn_ok F sc__law_names rfl rfl fun _ _ _ _ _ _ _ D => b__law_names hK g D F__law_draw F__law_of
theorem fo_law {P : Program} {w : World} {K : PySem.W.Frag} {mg : Str → Option Value} {base : Heap} {B : Bs} (hK : K = B.K) (g : Gm mg) {fa : Addr} {fd : FuncData} (F : FunD K "law" "law" (defArgs st_law) (defBody st_law) (defScope st_law) [] [] fa fd) (F__law_open : Fn P w K mg base B 9 "_law_open" 1 m__law_open) (F__law_names : Fn P w K mg base B 9 "_law_names" 2 m__law_names) (F__law_draw : Fn P w K mg base B 9 "_law_draw" 2 m__law_draw) (F__law_of : Fn P w K mg base B 9 "_law_of" 2 m__law_of) (F_is_name : Fn P w K mg base B 9 "is_name" 1 m_is_name) (F__law_like : Fn P w K mg base B 9 "_law_like" 2 m__law_like) (F_is_key : Fn P w K mg base B 9 "is_key" 1 m_is_key) (F_is_number : Fn P w K mg base B 9 "is_number" 3 m_is_number) (K_is_number_0_most_value_least : FnK P w K mg base B 9 "is_number" 0 ["most", "value", "least"] [1, 2, 0] 3 m_is_number) (K_is_key_0_value : FnK P w K mg base B 9 "is_key" 0 ["value"] [0] 1 m_is_key) : FnOk P w K mg base (L2.CX P w) 10 fa fd ["_law_script"] (spF B 1 m_law) := by
  unfold m_law
  exact fn_ok F sc_law rfl rfl fun _ _ _ _ _ _ _ D => b_law hK g D F__law_open F__law_names F__law_draw F__law_of F_is_name F__law_like F_is_key F_is_number K_is_number_0_most_value_least K_is_key_0_value
def d_is_number : He.DefD := ⟨("is_number", none), "is_number", "is_number", defArgs st_is_number, defBody st_is_number, defScope st_is_number, [], []⟩
def d_is_name : He.DefD := ⟨("is_name", none), "is_name", "is_name", defArgs st_is_name, defBody st_is_name, defScope st_is_name, [], []⟩
def d_is_key : He.DefD := ⟨("is_key", none), "is_key", "is_key", defArgs st_is_key, defBody st_is_key, defScope st_is_key, [], []⟩
def d__law_open : He.DefD := ⟨("_law_open", none), "_law_open", "_law_open", defArgs st__law_open, defBody st__law_open, defScope st__law_open, [], []⟩
def d__law_draw : He.DefD := ⟨("_law_draw", none), "_law_draw", "_law_draw", defArgs st__law_draw, defBody st__law_draw, defScope st__law_draw, [], []⟩
def d__law_of : He.DefD := ⟨("_law_of", none), "_law_of", "_law_of", defArgs st__law_of, defBody st__law_of, defScope st__law_of, [], []⟩
def d__law_like : He.DefD := ⟨("_law_like", none), "_law_like", "_law_like", defArgs st__law_like, defBody st__law_like, defScope st__law_like, [], []⟩
def d__law_names : He.DefD := ⟨("_law_names", none), "_law_names", "_law_names", defArgs st__law_names, defBody st__law_names, defScope st__law_names, [], []⟩
def d_law : He.DefD := ⟨("law", none), "law", "law", defArgs st_law, defBody st_law, defScope st_law, [], []⟩
def fnT : List He.DefD := [d_is_number, d_is_name, d_is_key, d__law_open, d__law_draw, d__law_of, d__law_like, d__law_names, d_law]
def faT : List He.Fa := [.glo "is_number", .glo "is_name", .glo "is_key", .glo "_law_open", .glo "_law_draw", .glo "_law_of", .glo "_law_like", .glo "_law_names", .glo "law", .free "all", .free "bool", .free "int", .free "isinstance", .free "len", .free "list", .free "range", .free "str", .free "tuple", .free "zip", .str "LETTERS" "abcdefghijklmnopqrstuvwxyz", .int "MOST_LETTERS" 8, .int "MOST_NUMBER" 1000000000000000000, .int "MOST_NUMBERS" 40]
def names0 : List PySem.Str := ["LETTERS", "MOST_LETTERS", "MOST_NUMBERS", "MOST_NUMBER", "is_number", "is_name", "is_key", "_law_open", "_law_draw", "_law_of", "_law_like", "_law_names"]
def namesT : List PySem.Str := names0
abbrev qv : Program := PySem.W.view Rw.prog [14]
abbrev hkT : PySem.W.Hook := He.hookD 4 faT fnT
def obT (s : PySem.W.SharedT) : He.AlD := He.obsDG 4 faT fnT (HandSHeadRun.getT s)
theorem ob_eqT (s : PySem.W.SharedT) : obT s = hkT.obs s.abs := He.obsDG_eq (HandSHeadRun.getT_eq s)
theorem runT (w : World) : HandSHeadRun.RunEq Rw qv hkT obT 2000 namesT w := by
  intro os
  kernel_rfl
abbrev BkT (K : PySem.W.Frag) : Bs := ⟨K, fun _ => 0, fun _ => []⟩
theorem factsT {P : Program} {w : World} {K : PySem.W.Frag} {h : Heap} {mg : Str → Option Value} {f : Addr} (X : K.In h) (G : h.Ns mainGlobals mg) (hfa : mg ("law" : Str) = some (.ref f)) (c : He.SaysD faT fnT K) :
    ∃ fd : FuncData, (∀ (s : Shared) (u : Value), BindsTo s fd ⟨[u], []⟩ [("_law_script", u)]) ∧ ∀ base : Heap, K.In base → base.Ns mainGlobals mg → FnOk P w K mg base (L2.CX P w) 10 f fd ["_law_script"] (spF (BkT K) 1 m_law) := by
  obtain ⟨fd_is_number, F_is_number⟩ := c.def_ 0 (d := d_is_number) rfl
  obtain ⟨fd_is_name, F_is_name⟩ := c.def_ 1 (d := d_is_name) rfl
  obtain ⟨fd_is_key, F_is_key⟩ := c.def_ 2 (d := d_is_key) rfl
  obtain ⟨fd__law_open, F__law_open⟩ := c.def_ 3 (d := d__law_open) rfl
  obtain ⟨fd__law_draw, F__law_draw⟩ := c.def_ 4 (d := d__law_draw) rfl
  obtain ⟨fd__law_of, F__law_of⟩ := c.def_ 5 (d := d__law_of) rfl
  obtain ⟨fd__law_like, F__law_like⟩ := c.def_ 6 (d := d__law_like) rfl
  obtain ⟨fd__law_names, F__law_names⟩ := c.def_ 7 (d := d__law_names) rfl
  obtain ⟨fd_law, F_law⟩ := c.def_ 8 (d := d_law) rfl
  have h_is_number : mg "is_number" = some (.ref _) := He.glo_ok X G (c.fact 0 (f := .glo "is_number") rfl)
  have h_is_name : mg "is_name" = some (.ref _) := He.glo_ok X G (c.fact 1 (f := .glo "is_name") rfl)
  have h_is_key : mg "is_key" = some (.ref _) := He.glo_ok X G (c.fact 2 (f := .glo "is_key") rfl)
  have h__law_open : mg "_law_open" = some (.ref _) := He.glo_ok X G (c.fact 3 (f := .glo "_law_open") rfl)
  have h__law_draw : mg "_law_draw" = some (.ref _) := He.glo_ok X G (c.fact 4 (f := .glo "_law_draw") rfl)
  have h__law_of : mg "_law_of" = some (.ref _) := He.glo_ok X G (c.fact 5 (f := .glo "_law_of") rfl)
  have h__law_like : mg "_law_like" = some (.ref _) := He.glo_ok X G (c.fact 6 (f := .glo "_law_like") rfl)
  have h__law_names : mg "_law_names" = some (.ref _) := He.glo_ok X G (c.fact 7 (f := .glo "_law_names") rfl)
  have h_law : mg "law" = some (.ref _) := He.glo_ok X G (c.fact 8 (f := .glo "law") rfl)
  have g : Gm mg := ⟨He.free_ok X G (c.fact 9 (f := .free "all") rfl),
    He.free_ok X G (c.fact 10 (f := .free "bool") rfl),
    He.free_ok X G (c.fact 11 (f := .free "int") rfl),
    He.free_ok X G (c.fact 12 (f := .free "isinstance") rfl),
    He.free_ok X G (c.fact 13 (f := .free "len") rfl),
    He.free_ok X G (c.fact 14 (f := .free "list") rfl),
    He.free_ok X G (c.fact 15 (f := .free "range") rfl),
    He.free_ok X G (c.fact 16 (f := .free "str") rfl),
    He.free_ok X G (c.fact 17 (f := .free "tuple") rfl),
    He.free_ok X G (c.fact 18 (f := .free "zip") rfl),
    (let ⟨t, e⟩ := He.str_ok X G (c.fact 19 (f := .str "LETTERS" "abcdefghijklmnopqrstuvwxyz") rfl); ⟨_, e, t, rfl⟩),
    (let ⟨t, e⟩ := He.int_ok X G (c.fact 20 (f := .int "MOST_LETTERS" 8) rfl); ⟨_, e, t, rfl⟩),
    (let ⟨t, e⟩ := He.int_ok X G (c.fact 21 (f := .int "MOST_NUMBER" 1000000000000000000) rfl); ⟨_, e, t, rfl⟩),
    (let ⟨t, e⟩ := He.int_ok X G (c.fact 22 (f := .int "MOST_NUMBERS" 40) rfl); ⟨_, e, t, rfl⟩)⟩
  have e := hfa.symm.trans h_law
  cases e
  have b := FunD.bindsA (ps := ["_law_script"]) F_law fun _ _ _ _ _ _ us hl => match us, hl with | [_], _ => rfl
  refine ⟨fd_law, fun s v => b s [v] rfl, fun base _ _ => ?_⟩
  have O_is_number := fo_is_number (P := P) (w := w) (base := base) (B := BkT K) rfl g F_is_number  
  have N_is_number : Fn P w K mg base (BkT K) 1 "is_number" 3 m_is_number := ⟨_, _, _, O_is_number, h_is_number, F_is_number.kp, F_is_number.bindsN fun _ _ _ _ _ _ us hl => match us, hl with | [_, _, _], _ => rfl⟩
  have NK_is_number_0_most_value_least : FnK P w K mg base (BkT K) 1 "is_number" 0 ["most", "value", "least"] [1, 2, 0] 3 m_is_number := ⟨_, _, _, O_is_number, h_is_number, F_is_number.kp, kbn_of F_is_number fun _ _ _ _ _ _ us ws l1 l2 => match us, ws, l1, l2 with | [], [_, _, _], _, _ => rfl⟩
  have O_is_name := fo_is_name (P := P) (w := w) (base := base) (B := BkT K) rfl g F_is_name  
  have N_is_name : Fn P w K mg base (BkT K) 1 "is_name" 1 m_is_name := ⟨_, _, _, O_is_name, h_is_name, F_is_name.kp, F_is_name.bindsN fun _ _ _ _ _ _ us hl => match us, hl with | [_], _ => rfl⟩
  have O_is_key := fo_is_key (P := P) (w := w) (base := base) (B := BkT K) rfl g F_is_key  (N_is_number.mono (by decide))
  have N_is_key : Fn P w K mg base (BkT K) 2 "is_key" 1 m_is_key := ⟨_, _, _, O_is_key, h_is_key, F_is_key.kp, F_is_key.bindsN fun _ _ _ _ _ _ us hl => match us, hl with | [_], _ => rfl⟩
  have NK_is_key_0_value : FnK P w K mg base (BkT K) 2 "is_key" 0 ["value"] [0] 1 m_is_key := ⟨_, _, _, O_is_key, h_is_key, F_is_key.kp, kbn_of F_is_key fun _ _ _ _ _ _ us ws l1 l2 => match us, ws, l1, l2 with | [], [_], _, _ => rfl⟩
  have O__law_open := fo__law_open (P := P) (w := w) (base := base) (B := BkT K) rfl g F__law_open  
  have N__law_open : Fn P w K mg base (BkT K) 1 "_law_open" 1 m__law_open := ⟨_, _, _, O__law_open, h__law_open, F__law_open.kp, F__law_open.bindsN fun _ _ _ _ _ _ us hl => match us, hl with | [_], _ => rfl⟩
  have O__law_draw := fo__law_draw (P := P) (w := w) (base := base) (B := BkT K) rfl g F__law_draw  
  have N__law_draw : Fn P w K mg base (BkT K) 1 "_law_draw" 2 m__law_draw := ⟨_, _, _, O__law_draw, h__law_draw, F__law_draw.kp, F__law_draw.bindsN fun _ _ _ _ _ _ us hl => match us, hl with | [_, _], _ => rfl⟩
  have O__law_of := fo__law_of (P := P) (w := w) (base := base) (B := BkT K) rfl g F__law_of  (N__law_draw.mono (by decide))
  have N__law_of : Fn P w K mg base (BkT K) 2 "_law_of" 2 m__law_of := ⟨_, _, _, O__law_of, h__law_of, F__law_of.kp, F__law_of.bindsN fun _ _ _ _ _ _ us hl => match us, hl with | [_, _], _ => rfl⟩
  have O__law_like := fo__law_like (P := P) (w := w) (base := base) (B := BkT K) rfl g F__law_like h__law_like 
  have N__law_like : Fn P w K mg base (BkT K) 9 "_law_like" 2 m__law_like := ⟨_, _, _, O__law_like, h__law_like, F__law_like.kp, F__law_like.bindsN fun _ _ _ _ _ _ us hl => match us, hl with | [_, _], _ => rfl⟩
  have O__law_names := fo__law_names (P := P) (w := w) (base := base) (B := BkT K) rfl g F__law_names  (N__law_draw.mono (by decide)) (N__law_of.mono (by decide))
  have N__law_names : Fn P w K mg base (BkT K) 3 "_law_names" 2 m__law_names := ⟨_, _, _, O__law_names, h__law_names, F__law_names.kp, F__law_names.bindsN fun _ _ _ _ _ _ us hl => match us, hl with | [_, _], _ => rfl⟩
  have O_law := fo_law (P := P) (w := w) (base := base) (B := BkT K) rfl g F_law  (N__law_open.mono (by decide)) (N__law_names.mono (by decide)) (N__law_draw.mono (by decide)) (N__law_of.mono (by decide)) (N_is_name.mono (by decide)) (N__law_like.mono (by decide)) (N_is_key.mono (by decide)) (N_is_number.mono (by decide)) (NK_is_number_0_most_value_least.mono (by decide)) (NK_is_key_0_value.mono (by decide))
  exact O_law
end LW

set_option Elab.async false
set_option linter.all false
set_option maxRecDepth 100000
set_option maxHeartbeats 4000000
/-! Lq6: texts by their signs; cuts. -/
namespace Lp
open PySem PySem.Spec PyProof.Rows L2
def mkS (cs : List Nat) : Str := ⟨cs.toArray⟩
theorem mkS_cps (cs : List Nat) : (mkS cs).cps.toList = cs := rfl
theorem mkS_len (cs : List Nat) : (mkS cs).length = cs.length := by show cs.toArray.size = _; simp
theorem mkS_eta (x : Str) : x = mkS x.cps.toList := rfl
theorem mkS_app (a b : List Nat) : mkS a ++ mkS b = mkS (a ++ b) := by
  show (⟨a.toArray ++ b.toArray⟩ : Str) = ⟨(a ++ b).toArray⟩
  rw [List.append_toArray]
theorem mkS_one (c : Nat) : (⟨#[c]⟩ : Str) = mkS [c] := rfl
theorem len_eq (x : Str) : x.length = x.cps.toList.length := by show x.cps.size = _; simp
theorem fAdd_mk {h : AH} {a b : List Nat} (z : a.length + b.length ≤ sizeLine) : fAdd h (.str (mkS a)) (.str (mkS b)) = some (.str (mkS (a ++ b))) := by
  show (if (mkS a).length + (mkS b).length ≤ sizeLine then some (PV.str (mkS a ++ mkS b)) else none) = _
  rw [mkS_len, mkS_len, if_pos z, mkS_app]
theorem strs_ones (cs : List Nat) : strsOf (cs.map fun c => PV.str (mkS [c])) = some (cs.map fun c => mkS [c]) := by
  unfold strsOf
  induction cs with
  | nil => rfl
  | cons c cs ih => rw [List.map_cons, List.mapM_cons, ih]; rfl
theorem join_ones : ∀ cs : List Nat, Txt.join (mkS []) (cs.map fun c => mkS [c]) = mkS cs := fun cs => by
  rw [TL.join_eq]
  induction cs with
  | nil => rfl
  | cons c cs ih =>
    cases cs with
    | nil => rfl
    | cons d ds =>
      show mkS [c] ++ mkS [] ++ Str.join (mkS []) ((d :: ds).map fun c => mkS [c]) = _
      rw [ih, mkS_app, mkS_app]; rfl
theorem sok_mk {cs : List Nat} (h : ∀ c ∈ cs, c < 1114112) : PyData.strOk (mkS cs) = true := by
  show (cs.toArray.all fun c => decide (c < 0x110000)) = true
  rw [List.all_toArray]
  rw [List.all_eq_true]
  exact fun c hc => decide_eq_true (h c hc)
theorem mJoin_ones {h : AH} {cs : List Nat} (z : cs.length ≤ 16777216) (hc : ∀ c ∈ cs, c < 1114112) : mJoin h (mkS []) [.lst (cs.map fun c => .str (mkS [c]))] = some (.str (mkS cs)) := by
  show (strsOf (cs.map fun c => PV.str (mkS [c]))).bind _ = _
  rw [strs_ones]
  show (if _ then _ else _) = _
  rw [join_ones]
  rw [if_pos]
  refine ⟨?_, sok_mk hc, ?_⟩
  · have e1 : ((cs.map fun c => mkS [c]).map (·.length)).sum = cs.length := by
      clear z hc
      induction cs with
      | nil => rfl
      | cons c cs ih => rw [List.map_cons, List.map_cons, List.sum_cons, ih]; show 1 + cs.length = cs.length + 1; omega
    rw [e1]
    show cs.length + _ * 0 ≤ _
    omega
  · rw [mkS_len]
    have : 16777216 ≤ sizeLine := by decide
    omega
theorem cut_to {α : Type} {xs : List α} {i : Int} (h0 : 0 ≤ i) (h1 : i ≤ xs.length) : cutP xs none (some i) = xs.take i.toNat := by
  unfold cutP
  have e1 : HT.sIx xs.length 0 none = 0 := rfl
  have e2 : HT.sIx xs.length xs.length (some i) = i.toNat := by
    unfold HT.sIx
    simp only
    split <;> omega
  rw [e1, e2, List.drop_zero, Nat.sub_zero]
theorem cut_from {α : Type} {xs : List α} {i : Int} (h0 : 0 ≤ i) (h1 : i ≤ xs.length) : cutP xs (some i) none = xs.drop i.toNat := by
  unfold cutP
  have e1 : HT.sIx xs.length 0 (some i) = i.toNat := by
    unfold HT.sIx
    simp only
    split <;> omega
  have e2 : HT.sIx xs.length xs.length none = xs.length := rfl
  rw [e1, e2]
  rw [List.take_of_length_le (by rw [List.length_drop]; omega)]
theorem fSl_str {h : AH} {cs : List Nat} {lo hi : Option Int} : fSl h (.str (mkS cs)) lo hi = some (.str (mkS (cutP cs lo hi))) := rfl
theorem fAdd_tup {h : AH} {a b : List PV} (z : a.length + b.length ≤ sizeLine) : fAdd h (.tup a) (.tup b) = some (.tup (a ++ b)) := by
  show (if a.length + b.length ≤ sizeLine then some (PV.tup (a ++ b)) else none) = _
  rw [if_pos z]
theorem fAdd_lst {h : AH} {a b : List PV} (z : a.length + b.length ≤ sizeLine) : fAdd h (.lst a) (.lst b) = some (.lst (a ++ b)) := by
  show (if a.length + b.length ≤ sizeLine then some (PV.lst (a ++ b)) else none) = _
  rw [if_pos z]
theorem fMul_tup {h : AH} {a : List PV} {k : Int} (h1 : a ≠ []) (h2 : 2 ≤ k) (h3 : k ≤ 1000) (h4 : a.length ≤ 1000) : fMul h (.tup a) (.int k) = some (.tup (List.replicate k.toNat a).flatten) := by
  show (if a ≠ [] ∧ 2 ≤ k ∧ k ≤ 1000 ∧ a.length ≤ 1000 then some (PV.tup (List.replicate k.toNat a).flatten) else none) = _
  rw [if_pos ⟨h1, h2, h3, h4⟩]
end Lp

set_option Elab.async false
set_option linter.all false
set_option maxRecDepth 100000
set_option maxHeartbeats 4000000
namespace LW
open PySem PySem.Spec PyProof.Rows L2 Lp
section
theorem draw_eq : m__law_draw = drawM := by unfold m__law_draw drawM; rfl
theorem of_eq : m__law_of = ofM := by
  unfold m__law_of ofM mb__law_of
  rw [draw_eq]; rfl
/-- is_number -/
def numB (a b : Int) : PV → Bool
  | .int i => decide (a ≤ i) && decide (i ≤ b)
  | _ => false
theorem is_number_spec {v : PV} {a b : Int} {h : AH} (p : Pl v) : (m_is_number [v, .int a, .int b] h).post (fun r h' => r = .bl (numB a b v) ∧ h' = h) NE := by
  unfold m_is_number
  rw [xe_is_number]
  unfold xb_is_number
  refine p_mkF [some v, some (.int a), some (.int b)] rfl ?_
  (repeat (first | refine p_var rfl ?_ | refine p_c ?_ | refine p_bin ?_ | refine p_cons ?_ | refine p_nil ?_ | refine p_seq ?_ | refine p_asg ?_ | refine p_sif ?_ | refine p_ret ?_ | refine p_bM ?_ | refine p_tM ?_ | refine p_cb ?_ | refine p_andM ?_ | refine p_orM ?_ | refine p_notM ?_ | refine p_chain ?_ | refine p_andV ?_ | refine p_orV ?_ | refine p_notV ?_ | refine p_ifM ?_ | refine p_tup ?_ | refine p_lst ?_ | refine p_call ?_ | refine p_callK ?_ | refine ⟨⟨⟨rfl, rfl⟩, rfl, rfl⟩, ⟨rfl, rfl⟩, ?_⟩ | refine p_setB ?_ | refine p_sl ?_ | refine p_osome ?_ | refine p_onone ?_ | refine p_snil ?_ | refine p_sexpr ?_ | refine p_retN ?_ | refine p_par ?_ | refine p_sh ?_ | refine p_brt rfl ?_ | refine p_brf rfl ?_ | refine ⟨_, rfl, ?_⟩ | refine ⟨⟨rfl, rfl⟩, ?_⟩ | refine ⟨⟨rfl, Nat.le_of_ble_eq_true rfl⟩, ?_⟩ | refine ⟨_, _, _, _, rfl, hn, rfl, rfl, ?_⟩ | (refine ⟨_, _, rfl, ⟨rfl, rfl⟩, ?_⟩; try dsimp only [wipeE, List.set_cons_succ, List.set_cons_zero]) | (refine ⟨rfl, ?_⟩; try dsimp only [wipeE, List.set_cons_succ, List.set_cons_zero]) | refine ⟨_, isi_p p rfl, ?_⟩))
  cases v with
  | int i =>
    (repeat (first | refine p_var rfl ?_ | refine p_c ?_ | refine p_bin ?_ | refine p_cons ?_ | refine p_nil ?_ | refine p_seq ?_ | refine p_asg ?_ | refine p_sif ?_ | refine p_ret ?_ | refine p_bM ?_ | refine p_tM ?_ | refine p_cb ?_ | refine p_andM ?_ | refine p_orM ?_ | refine p_notM ?_ | refine p_chain ?_ | refine p_andV ?_ | refine p_orV ?_ | refine p_notV ?_ | refine p_ifM ?_ | refine p_tup ?_ | refine p_lst ?_ | refine p_call ?_ | refine p_callK ?_ | refine ⟨⟨⟨rfl, rfl⟩, rfl, rfl⟩, ⟨rfl, rfl⟩, ?_⟩ | refine p_setB ?_ | refine p_sl ?_ | refine p_osome ?_ | refine p_onone ?_ | refine p_snil ?_ | refine p_sexpr ?_ | refine p_retN ?_ | refine p_par ?_ | refine p_sh ?_ | refine p_brt rfl ?_ | refine p_brf rfl ?_ | refine ⟨_, rfl, ?_⟩ | refine ⟨⟨rfl, rfl⟩, ?_⟩ | refine ⟨⟨rfl, Nat.le_of_ble_eq_true rfl⟩, ?_⟩ | refine ⟨_, _, _, _, rfl, hn, rfl, rfl, ?_⟩ | (refine ⟨_, _, rfl, ⟨rfl, rfl⟩, ?_⟩; try dsimp only [wipeE, List.set_cons_succ, List.set_cons_zero]) | (refine ⟨rfl, ?_⟩; try dsimp only [wipeE, List.set_cons_succ, List.set_cons_zero])))
    refine p_br (fun h3 => ?_) fun h3 => ?_
    · (repeat (first | refine p_var rfl ?_ | refine p_c ?_ | refine p_bin ?_ | refine p_cons ?_ | refine p_nil ?_ | refine p_seq ?_ | refine p_asg ?_ | refine p_sif ?_ | refine p_ret ?_ | refine p_bM ?_ | refine p_tM ?_ | refine p_cb ?_ | refine p_andM ?_ | refine p_orM ?_ | refine p_notM ?_ | refine p_chain ?_ | refine p_andV ?_ | refine p_orV ?_ | refine p_notV ?_ | refine p_ifM ?_ | refine p_tup ?_ | refine p_lst ?_ | refine p_call ?_ | refine p_callK ?_ | refine ⟨⟨⟨rfl, rfl⟩, rfl, rfl⟩, ⟨rfl, rfl⟩, ?_⟩ | refine p_setB ?_ | refine p_sl ?_ | refine p_osome ?_ | refine p_onone ?_ | refine p_snil ?_ | refine p_sexpr ?_ | refine p_retN ?_ | refine p_par ?_ | refine p_sh ?_ | refine p_brt rfl ?_ | refine p_brf rfl ?_ | refine ⟨_, rfl, ?_⟩ | refine ⟨⟨rfl, rfl⟩, ?_⟩ | refine ⟨⟨rfl, Nat.le_of_ble_eq_true rfl⟩, ?_⟩ | refine ⟨_, _, _, _, rfl, hn, rfl, rfl, ?_⟩ | (refine ⟨_, _, rfl, ⟨rfl, rfl⟩, ?_⟩; try dsimp only [wipeE, List.set_cons_succ, List.set_cons_zero]) | (refine ⟨rfl, ?_⟩; try dsimp only [wipeE, List.set_cons_succ, List.set_cons_zero])))
      show PV.bl (decide (i ≤ b)) = .bl (decide (a ≤ i) && decide (i ≤ b)) ∧ h = h
      have h3 : decide (a ≤ i) = true := h3
      rw [h3]; exact ⟨rfl, rfl⟩
    · (repeat (first | refine p_var rfl ?_ | refine p_c ?_ | refine p_bin ?_ | refine p_cons ?_ | refine p_nil ?_ | refine p_seq ?_ | refine p_asg ?_ | refine p_sif ?_ | refine p_ret ?_ | refine p_bM ?_ | refine p_tM ?_ | refine p_cb ?_ | refine p_andM ?_ | refine p_orM ?_ | refine p_notM ?_ | refine p_chain ?_ | refine p_andV ?_ | refine p_orV ?_ | refine p_notV ?_ | refine p_ifM ?_ | refine p_tup ?_ | refine p_lst ?_ | refine p_call ?_ | refine p_callK ?_ | refine ⟨⟨⟨rfl, rfl⟩, rfl, rfl⟩, ⟨rfl, rfl⟩, ?_⟩ | refine p_setB ?_ | refine p_sl ?_ | refine p_osome ?_ | refine p_onone ?_ | refine p_snil ?_ | refine p_sexpr ?_ | refine p_retN ?_ | refine p_par ?_ | refine p_sh ?_ | refine p_brt rfl ?_ | refine p_brf rfl ?_ | refine ⟨_, rfl, ?_⟩ | refine ⟨⟨rfl, rfl⟩, ?_⟩ | refine ⟨⟨rfl, Nat.le_of_ble_eq_true rfl⟩, ?_⟩ | refine ⟨_, _, _, _, rfl, hn, rfl, rfl, ?_⟩ | (refine ⟨_, _, rfl, ⟨rfl, rfl⟩, ?_⟩; try dsimp only [wipeE, List.set_cons_succ, List.set_cons_zero]) | (refine ⟨rfl, ?_⟩; try dsimp only [wipeE, List.set_cons_succ, List.set_cons_zero])))
      show PV.bl false = .bl (decide (a ≤ i) && decide (i ≤ b)) ∧ h = h
      have h3 : decide (a ≤ i) = false := h3
      rw [h3]; exact ⟨rfl, rfl⟩
  | bl k =>
    (repeat (first | refine p_var rfl ?_ | refine p_c ?_ | refine p_bin ?_ | refine p_cons ?_ | refine p_nil ?_ | refine p_seq ?_ | refine p_asg ?_ | refine p_sif ?_ | refine p_ret ?_ | refine p_bM ?_ | refine p_tM ?_ | refine p_cb ?_ | refine p_andM ?_ | refine p_orM ?_ | refine p_notM ?_ | refine p_chain ?_ | refine p_andV ?_ | refine p_orV ?_ | refine p_notV ?_ | refine p_ifM ?_ | refine p_tup ?_ | refine p_lst ?_ | refine p_call ?_ | refine p_callK ?_ | refine ⟨⟨⟨rfl, rfl⟩, rfl, rfl⟩, ⟨rfl, rfl⟩, ?_⟩ | refine p_setB ?_ | refine p_sl ?_ | refine p_osome ?_ | refine p_onone ?_ | refine p_snil ?_ | refine p_sexpr ?_ | refine p_retN ?_ | refine p_par ?_ | refine p_sh ?_ | refine p_brt rfl ?_ | refine p_brf rfl ?_ | refine ⟨_, rfl, ?_⟩ | refine ⟨⟨rfl, rfl⟩, ?_⟩ | refine ⟨⟨rfl, Nat.le_of_ble_eq_true rfl⟩, ?_⟩ | refine ⟨_, _, _, _, rfl, hn, rfl, rfl, ?_⟩ | (refine ⟨_, _, rfl, ⟨rfl, rfl⟩, ?_⟩; try dsimp only [wipeE, List.set_cons_succ, List.set_cons_zero]) | (refine ⟨rfl, ?_⟩; try dsimp only [wipeE, List.set_cons_succ, List.set_cons_zero]) | refine ⟨_, isi_p p rfl, ?_⟩))
  | non => (repeat (first | refine p_var rfl ?_ | refine p_c ?_ | refine p_bin ?_ | refine p_cons ?_ | refine p_nil ?_ | refine p_seq ?_ | refine p_asg ?_ | refine p_sif ?_ | refine p_ret ?_ | refine p_bM ?_ | refine p_tM ?_ | refine p_cb ?_ | refine p_andM ?_ | refine p_orM ?_ | refine p_notM ?_ | refine p_chain ?_ | refine p_andV ?_ | refine p_orV ?_ | refine p_notV ?_ | refine p_ifM ?_ | refine p_tup ?_ | refine p_lst ?_ | refine p_call ?_ | refine p_callK ?_ | refine ⟨⟨⟨rfl, rfl⟩, rfl, rfl⟩, ⟨rfl, rfl⟩, ?_⟩ | refine p_setB ?_ | refine p_sl ?_ | refine p_osome ?_ | refine p_onone ?_ | refine p_snil ?_ | refine p_sexpr ?_ | refine p_retN ?_ | refine p_par ?_ | refine p_sh ?_ | refine p_brt rfl ?_ | refine p_brf rfl ?_ | refine ⟨_, rfl, ?_⟩ | refine ⟨⟨rfl, rfl⟩, ?_⟩ | refine ⟨⟨rfl, Nat.le_of_ble_eq_true rfl⟩, ?_⟩ | refine ⟨_, _, _, _, rfl, hn, rfl, rfl, ?_⟩ | (refine ⟨_, _, rfl, ⟨rfl, rfl⟩, ?_⟩; try dsimp only [wipeE, List.set_cons_succ, List.set_cons_zero]) | (refine ⟨rfl, ?_⟩; try dsimp only [wipeE, List.set_cons_succ, List.set_cons_zero])))
  | str x => (repeat (first | refine p_var rfl ?_ | refine p_c ?_ | refine p_bin ?_ | refine p_cons ?_ | refine p_nil ?_ | refine p_seq ?_ | refine p_asg ?_ | refine p_sif ?_ | refine p_ret ?_ | refine p_bM ?_ | refine p_tM ?_ | refine p_cb ?_ | refine p_andM ?_ | refine p_orM ?_ | refine p_notM ?_ | refine p_chain ?_ | refine p_andV ?_ | refine p_orV ?_ | refine p_notV ?_ | refine p_ifM ?_ | refine p_tup ?_ | refine p_lst ?_ | refine p_call ?_ | refine p_callK ?_ | refine ⟨⟨⟨rfl, rfl⟩, rfl, rfl⟩, ⟨rfl, rfl⟩, ?_⟩ | refine p_setB ?_ | refine p_sl ?_ | refine p_osome ?_ | refine p_onone ?_ | refine p_snil ?_ | refine p_sexpr ?_ | refine p_retN ?_ | refine p_par ?_ | refine p_sh ?_ | refine p_brt rfl ?_ | refine p_brf rfl ?_ | refine ⟨_, rfl, ?_⟩ | refine ⟨⟨rfl, rfl⟩, ?_⟩ | refine ⟨⟨rfl, Nat.le_of_ble_eq_true rfl⟩, ?_⟩ | refine ⟨_, _, _, _, rfl, hn, rfl, rfl, ?_⟩ | (refine ⟨_, _, rfl, ⟨rfl, rfl⟩, ?_⟩; try dsimp only [wipeE, List.set_cons_succ, List.set_cons_zero]) | (refine ⟨rfl, ?_⟩; try dsimp only [wipeE, List.set_cons_succ, List.set_cons_zero])))
  | tup xs => (repeat (first | refine p_var rfl ?_ | refine p_c ?_ | refine p_bin ?_ | refine p_cons ?_ | refine p_nil ?_ | refine p_seq ?_ | refine p_asg ?_ | refine p_sif ?_ | refine p_ret ?_ | refine p_bM ?_ | refine p_tM ?_ | refine p_cb ?_ | refine p_andM ?_ | refine p_orM ?_ | refine p_notM ?_ | refine p_chain ?_ | refine p_andV ?_ | refine p_orV ?_ | refine p_notV ?_ | refine p_ifM ?_ | refine p_tup ?_ | refine p_lst ?_ | refine p_call ?_ | refine p_callK ?_ | refine ⟨⟨⟨rfl, rfl⟩, rfl, rfl⟩, ⟨rfl, rfl⟩, ?_⟩ | refine p_setB ?_ | refine p_sl ?_ | refine p_osome ?_ | refine p_onone ?_ | refine p_snil ?_ | refine p_sexpr ?_ | refine p_retN ?_ | refine p_par ?_ | refine p_sh ?_ | refine p_brt rfl ?_ | refine p_brf rfl ?_ | refine ⟨_, rfl, ?_⟩ | refine ⟨⟨rfl, rfl⟩, ?_⟩ | refine ⟨⟨rfl, Nat.le_of_ble_eq_true rfl⟩, ?_⟩ | refine ⟨_, _, _, _, rfl, hn, rfl, rfl, ?_⟩ | (refine ⟨_, _, rfl, ⟨rfl, rfl⟩, ?_⟩; try dsimp only [wipeE, List.set_cons_succ, List.set_cons_zero]) | (refine ⟨rfl, ?_⟩; try dsimp only [wipeE, List.set_cons_succ, List.set_cons_zero])))
  | lst xs => (repeat (first | refine p_var rfl ?_ | refine p_c ?_ | refine p_bin ?_ | refine p_cons ?_ | refine p_nil ?_ | refine p_seq ?_ | refine p_asg ?_ | refine p_sif ?_ | refine p_ret ?_ | refine p_bM ?_ | refine p_tM ?_ | refine p_cb ?_ | refine p_andM ?_ | refine p_orM ?_ | refine p_notM ?_ | refine p_chain ?_ | refine p_andV ?_ | refine p_orV ?_ | refine p_notV ?_ | refine p_ifM ?_ | refine p_tup ?_ | refine p_lst ?_ | refine p_call ?_ | refine p_callK ?_ | refine ⟨⟨⟨rfl, rfl⟩, rfl, rfl⟩, ⟨rfl, rfl⟩, ?_⟩ | refine p_setB ?_ | refine p_sl ?_ | refine p_osome ?_ | refine p_onone ?_ | refine p_snil ?_ | refine p_sexpr ?_ | refine p_retN ?_ | refine p_par ?_ | refine p_sh ?_ | refine p_brt rfl ?_ | refine p_brf rfl ?_ | refine ⟨_, rfl, ?_⟩ | refine ⟨⟨rfl, rfl⟩, ?_⟩ | refine ⟨⟨rfl, Nat.le_of_ble_eq_true rfl⟩, ?_⟩ | refine ⟨_, _, _, _, rfl, hn, rfl, rfl, ?_⟩ | (refine ⟨_, _, rfl, ⟨rfl, rfl⟩, ?_⟩; try dsimp only [wipeE, List.set_cons_succ, List.set_cons_zero]) | (refine ⟨rfl, ?_⟩; try dsimp only [wipeE, List.set_cons_succ, List.set_cons_zero])))
  | _ => exact p.elim
def keyB : PV → Bool
  | .tup xs => (decide (1 ≤ (xs.length : Int)) && decide ((xs.length : Int) ≤ 40)) && (xs.map (numB (0 - 1000000000000000000) 1000000000000000000)).all fun b => b
  | _ => false
theorem is_key_spec {v : PV} {h : AH} (p : Pl v) (ps : ∀ xs, v = .tup xs → ∀ x ∈ xs, Pl x) : (m_is_key [v] h).post (fun r h' => r = .bl (keyB v) ∧ h' = h) NE := by
  unfold m_is_key
  rw [xe_is_key]
  unfold xb_is_key
  refine p_mkF [some v, none] rfl ?_
  (repeat (first | refine p_var rfl ?_ | refine p_c ?_ | refine p_bin ?_ | refine p_cons ?_ | refine p_nil ?_ | refine p_seq ?_ | refine p_asg ?_ | refine p_sif ?_ | refine p_ret ?_ | refine p_bM ?_ | refine p_tM ?_ | refine p_cb ?_ | refine p_andM ?_ | refine p_orM ?_ | refine p_notM ?_ | refine p_chain ?_ | refine p_andV ?_ | refine p_orV ?_ | refine p_notV ?_ | refine p_ifM ?_ | refine p_tup ?_ | refine p_lst ?_ | refine p_call ?_ | refine p_callK ?_ | refine ⟨⟨⟨rfl, rfl⟩, rfl, rfl⟩, ⟨rfl, rfl⟩, ?_⟩ | refine p_setB ?_ | refine p_sl ?_ | refine p_osome ?_ | refine p_onone ?_ | refine p_snil ?_ | refine p_sexpr ?_ | refine p_retN ?_ | refine p_par ?_ | refine p_sh ?_ | refine p_brt rfl ?_ | refine p_brf rfl ?_ | refine ⟨_, rfl, ?_⟩ | refine ⟨⟨rfl, rfl⟩, ?_⟩ | refine ⟨⟨rfl, Nat.le_of_ble_eq_true rfl⟩, ?_⟩ | refine ⟨_, _, _, _, rfl, hn, rfl, rfl, ?_⟩ | (refine ⟨_, _, rfl, ⟨rfl, rfl⟩, ?_⟩; try dsimp only [wipeE, List.set_cons_succ, List.set_cons_zero]) | (refine ⟨rfl, ?_⟩; try dsimp only [wipeE, List.set_cons_succ, List.set_cons_zero]) | refine ⟨_, isi_p p rfl, ?_⟩))
  cases v with
  | tup xs =>
    have px := ps xs rfl
    (repeat (first | refine p_var rfl ?_ | refine p_c ?_ | refine p_bin ?_ | refine p_cons ?_ | refine p_nil ?_ | refine p_seq ?_ | refine p_asg ?_ | refine p_sif ?_ | refine p_ret ?_ | refine p_bM ?_ | refine p_tM ?_ | refine p_cb ?_ | refine p_andM ?_ | refine p_orM ?_ | refine p_notM ?_ | refine p_chain ?_ | refine p_andV ?_ | refine p_orV ?_ | refine p_notV ?_ | refine p_ifM ?_ | refine p_tup ?_ | refine p_lst ?_ | refine p_call ?_ | refine p_callK ?_ | refine ⟨⟨⟨rfl, rfl⟩, rfl, rfl⟩, ⟨rfl, rfl⟩, ?_⟩ | refine p_setB ?_ | refine p_sl ?_ | refine p_osome ?_ | refine p_onone ?_ | refine p_snil ?_ | refine p_sexpr ?_ | refine p_retN ?_ | refine p_par ?_ | refine p_sh ?_ | refine p_brt rfl ?_ | refine p_brf rfl ?_ | refine ⟨_, rfl, ?_⟩ | refine ⟨⟨rfl, rfl⟩, ?_⟩ | refine ⟨⟨rfl, Nat.le_of_ble_eq_true rfl⟩, ?_⟩ | refine ⟨_, _, _, _, rfl, hn, rfl, rfl, ?_⟩ | (refine ⟨_, _, rfl, ⟨rfl, rfl⟩, ?_⟩; try dsimp only [wipeE, List.set_cons_succ, List.set_cons_zero]) | (refine ⟨rfl, ?_⟩; try dsimp only [wipeE, List.set_cons_succ, List.set_cons_zero])))
    refine p_br (fun h1 => ?_) fun h1 => ?_
    · (repeat (first | refine p_var rfl ?_ | refine p_c ?_ | refine p_bin ?_ | refine p_cons ?_ | refine p_nil ?_ | refine p_seq ?_ | refine p_asg ?_ | refine p_sif ?_ | refine p_ret ?_ | refine p_bM ?_ | refine p_tM ?_ | refine p_cb ?_ | refine p_andM ?_ | refine p_orM ?_ | refine p_notM ?_ | refine p_chain ?_ | refine p_andV ?_ | refine p_orV ?_ | refine p_notV ?_ | refine p_ifM ?_ | refine p_tup ?_ | refine p_lst ?_ | refine p_call ?_ | refine p_callK ?_ | refine ⟨⟨⟨rfl, rfl⟩, rfl, rfl⟩, ⟨rfl, rfl⟩, ?_⟩ | refine p_setB ?_ | refine p_sl ?_ | refine p_osome ?_ | refine p_onone ?_ | refine p_snil ?_ | refine p_sexpr ?_ | refine p_retN ?_ | refine p_par ?_ | refine p_sh ?_ | refine p_brt rfl ?_ | refine p_brf rfl ?_ | refine ⟨_, rfl, ?_⟩ | refine ⟨⟨rfl, rfl⟩, ?_⟩ | refine ⟨⟨rfl, Nat.le_of_ble_eq_true rfl⟩, ?_⟩ | refine ⟨_, _, _, _, rfl, hn, rfl, rfl, ?_⟩ | (refine ⟨_, _, rfl, ⟨rfl, rfl⟩, ?_⟩; try dsimp only [wipeE, List.set_cons_succ, List.set_cons_zero]) | (refine ⟨rfl, ?_⟩; try dsimp only [wipeE, List.set_cons_succ, List.set_cons_zero])))
      have h1 : decide (1 ≤ (xs.length : Int)) = true := h1
      refine p_br (fun h2 => ?_) fun h2 => ?_
      · have h2 : (!decide ((xs.length : Int) ≤ 40)) = true := h2
        (repeat (first | refine p_var rfl ?_ | refine p_c ?_ | refine p_bin ?_ | refine p_cons ?_ | refine p_nil ?_ | refine p_seq ?_ | refine p_asg ?_ | refine p_sif ?_ | refine p_ret ?_ | refine p_bM ?_ | refine p_tM ?_ | refine p_cb ?_ | refine p_andM ?_ | refine p_orM ?_ | refine p_notM ?_ | refine p_chain ?_ | refine p_andV ?_ | refine p_orV ?_ | refine p_notV ?_ | refine p_ifM ?_ | refine p_tup ?_ | refine p_lst ?_ | refine p_call ?_ | refine p_callK ?_ | refine ⟨⟨⟨rfl, rfl⟩, rfl, rfl⟩, ⟨rfl, rfl⟩, ?_⟩ | refine p_setB ?_ | refine p_sl ?_ | refine p_osome ?_ | refine p_onone ?_ | refine p_snil ?_ | refine p_sexpr ?_ | refine p_retN ?_ | refine p_par ?_ | refine p_sh ?_ | refine p_brt rfl ?_ | refine p_brf rfl ?_ | refine ⟨_, rfl, ?_⟩ | refine ⟨⟨rfl, rfl⟩, ?_⟩ | refine ⟨⟨rfl, Nat.le_of_ble_eq_true rfl⟩, ?_⟩ | refine ⟨_, _, _, _, rfl, hn, rfl, rfl, ?_⟩ | (refine ⟨_, _, rfl, ⟨rfl, rfl⟩, ?_⟩; try dsimp only [wipeE, List.set_cons_succ, List.set_cons_zero]) | (refine ⟨rfl, ?_⟩; try dsimp only [wipeE, List.set_cons_succ, List.set_cons_zero])))
        show PV.bl false = .bl (decide (1 ≤ (xs.length : Int)) && decide ((xs.length : Int) ≤ 40) && (xs.map (numB (0 - 1000000000000000000) 1000000000000000000)).all fun b => b) ∧ h = h
        rw [show decide ((xs.length : Int) ≤ 40) = false by simpa using h2, Bool.and_false, Bool.false_and]
        exact ⟨rfl, rfl⟩
      · have h2 : (!decide ((xs.length : Int) ≤ 40)) = false := h2
        (repeat (first | refine p_var rfl ?_ | refine p_c ?_ | refine p_bin ?_ | refine p_cons ?_ | refine p_nil ?_ | refine p_seq ?_ | refine p_asg ?_ | refine p_sif ?_ | refine p_ret ?_ | refine p_bM ?_ | refine p_tM ?_ | refine p_cb ?_ | refine p_andM ?_ | refine p_orM ?_ | refine p_notM ?_ | refine p_chain ?_ | refine p_andV ?_ | refine p_orV ?_ | refine p_notV ?_ | refine p_ifM ?_ | refine p_tup ?_ | refine p_lst ?_ | refine p_call ?_ | refine p_callK ?_ | refine ⟨⟨⟨rfl, rfl⟩, rfl, rfl⟩, ⟨rfl, rfl⟩, ?_⟩ | refine p_setB ?_ | refine p_sl ?_ | refine p_osome ?_ | refine p_onone ?_ | refine p_snil ?_ | refine p_sexpr ?_ | refine p_retN ?_ | refine p_par ?_ | refine p_sh ?_ | refine p_brt rfl ?_ | refine p_brf rfl ?_ | refine ⟨_, rfl, ?_⟩ | refine ⟨⟨rfl, rfl⟩, ?_⟩ | refine ⟨⟨rfl, Nat.le_of_ble_eq_true rfl⟩, ?_⟩ | refine ⟨_, _, _, _, rfl, hn, rfl, rfl, ?_⟩ | (refine ⟨_, _, rfl, ⟨rfl, rfl⟩, ?_⟩; try dsimp only [wipeE, List.set_cons_succ, List.set_cons_zero]) | (refine ⟨rfl, ?_⟩; try dsimp only [wipeE, List.set_cons_succ, List.set_cons_zero])))
        refine p_compMap (p_any (p_var rfl ⟨_, rfl, rfl, fun v => .bl (numB (0 - 1000000000000000000) 1000000000000000000 v), fun v hv => ⟨_, if_neg (by rw [pl_own (px v hv)]; decide), ?_⟩, ?_⟩))
        · (repeat (first | refine p_var rfl ?_ | refine p_c ?_ | refine p_bin ?_ | refine p_cons ?_ | refine p_nil ?_ | refine p_seq ?_ | refine p_asg ?_ | refine p_sif ?_ | refine p_ret ?_ | refine p_bM ?_ | refine p_tM ?_ | refine p_cb ?_ | refine p_andM ?_ | refine p_orM ?_ | refine p_notM ?_ | refine p_chain ?_ | refine p_andV ?_ | refine p_orV ?_ | refine p_notV ?_ | refine p_ifM ?_ | refine p_tup ?_ | refine p_lst ?_ | refine p_call ?_ | refine p_callK ?_ | refine ⟨⟨⟨rfl, rfl⟩, rfl, rfl⟩, ⟨rfl, rfl⟩, ?_⟩ | refine p_setB ?_ | refine p_sl ?_ | refine p_osome ?_ | refine p_onone ?_ | refine p_snil ?_ | refine p_sexpr ?_ | refine p_retN ?_ | refine p_par ?_ | refine p_sh ?_ | refine p_brt rfl ?_ | refine p_brf rfl ?_ | refine ⟨_, rfl, ?_⟩ | refine ⟨⟨rfl, rfl⟩, ?_⟩ | refine ⟨⟨rfl, Nat.le_of_ble_eq_true rfl⟩, ?_⟩ | refine ⟨_, _, _, _, rfl, hn, rfl, rfl, ?_⟩ | (refine ⟨_, _, rfl, ⟨rfl, rfl⟩, ?_⟩; try dsimp only [wipeE, List.set_cons_succ, List.set_cons_zero]) | (refine ⟨rfl, ?_⟩; try dsimp only [wipeE, List.set_cons_succ, List.set_cons_zero]) | refine ⟨⟨rfl, by show (!isOwn v && _) = true; rw [pl_own (px v hv)]; rfl⟩, p_spec (is_number_spec (px v hv)) fun r h' z => ?_⟩))
          obtain ⟨rfl, rfl⟩ := z
          exact ⟨rfl, rfl, rfl, rfl⟩
        · (repeat (first | refine p_var rfl ?_ | refine p_c ?_ | refine p_bin ?_ | refine p_cons ?_ | refine p_nil ?_ | refine p_seq ?_ | refine p_asg ?_ | refine p_sif ?_ | refine p_ret ?_ | refine p_bM ?_ | refine p_tM ?_ | refine p_cb ?_ | refine p_andM ?_ | refine p_orM ?_ | refine p_notM ?_ | refine p_chain ?_ | refine p_andV ?_ | refine p_orV ?_ | refine p_notV ?_ | refine p_ifM ?_ | refine p_tup ?_ | refine p_lst ?_ | refine p_call ?_ | refine p_callK ?_ | refine ⟨⟨⟨rfl, rfl⟩, rfl, rfl⟩, ⟨rfl, rfl⟩, ?_⟩ | refine p_setB ?_ | refine p_sl ?_ | refine p_osome ?_ | refine p_onone ?_ | refine p_snil ?_ | refine p_sexpr ?_ | refine p_retN ?_ | refine p_par ?_ | refine p_sh ?_ | refine p_brt rfl ?_ | refine p_brf rfl ?_ | refine ⟨_, rfl, ?_⟩ | refine ⟨⟨rfl, rfl⟩, ?_⟩ | refine ⟨⟨rfl, Nat.le_of_ble_eq_true rfl⟩, ?_⟩ | refine ⟨_, _, _, _, rfl, hn, rfl, rfl, ?_⟩ | (refine ⟨_, _, rfl, ⟨rfl, rfl⟩, ?_⟩; try dsimp only [wipeE, List.set_cons_succ, List.set_cons_zero]) | (refine ⟨rfl, ?_⟩; try dsimp only [wipeE, List.set_cons_succ, List.set_cons_zero]) | refine ⟨_, all_map (numB _ _), ?_⟩))
          show PV.bl _ = .bl (decide (1 ≤ (xs.length : Int)) && decide ((xs.length : Int) ≤ 40) && (xs.map (numB (0 - 1000000000000000000) 1000000000000000000)).all fun b => b) ∧ h = h
          rw [h1, show decide ((xs.length : Int) ≤ 40) = true by simpa using h2, Bool.true_and, Bool.true_and]
          exact ⟨rfl, rfl⟩
    · have h1 : decide (1 ≤ (xs.length : Int)) = false := h1
      (repeat (first | refine p_var rfl ?_ | refine p_c ?_ | refine p_bin ?_ | refine p_cons ?_ | refine p_nil ?_ | refine p_seq ?_ | refine p_asg ?_ | refine p_sif ?_ | refine p_ret ?_ | refine p_bM ?_ | refine p_tM ?_ | refine p_cb ?_ | refine p_andM ?_ | refine p_orM ?_ | refine p_notM ?_ | refine p_chain ?_ | refine p_andV ?_ | refine p_orV ?_ | refine p_notV ?_ | refine p_ifM ?_ | refine p_tup ?_ | refine p_lst ?_ | refine p_call ?_ | refine p_callK ?_ | refine ⟨⟨⟨rfl, rfl⟩, rfl, rfl⟩, ⟨rfl, rfl⟩, ?_⟩ | refine p_setB ?_ | refine p_sl ?_ | refine p_osome ?_ | refine p_onone ?_ | refine p_snil ?_ | refine p_sexpr ?_ | refine p_retN ?_ | refine p_par ?_ | refine p_sh ?_ | refine p_brt rfl ?_ | refine p_brf rfl ?_ | refine ⟨_, rfl, ?_⟩ | refine ⟨⟨rfl, rfl⟩, ?_⟩ | refine ⟨⟨rfl, Nat.le_of_ble_eq_true rfl⟩, ?_⟩ | refine ⟨_, _, _, _, rfl, hn, rfl, rfl, ?_⟩ | (refine ⟨_, _, rfl, ⟨rfl, rfl⟩, ?_⟩; try dsimp only [wipeE, List.set_cons_succ, List.set_cons_zero]) | (refine ⟨rfl, ?_⟩; try dsimp only [wipeE, List.set_cons_succ, List.set_cons_zero])))
      show PV.bl false = .bl (decide (1 ≤ (xs.length : Int)) && decide ((xs.length : Int) ≤ 40) && (xs.map (numB (0 - 1000000000000000000) 1000000000000000000)).all fun b => b) ∧ h = h
      rw [h1, Bool.false_and, Bool.false_and]
      exact ⟨rfl, rfl⟩
  | bl k => (repeat (first | refine p_var rfl ?_ | refine p_c ?_ | refine p_bin ?_ | refine p_cons ?_ | refine p_nil ?_ | refine p_seq ?_ | refine p_asg ?_ | refine p_sif ?_ | refine p_ret ?_ | refine p_bM ?_ | refine p_tM ?_ | refine p_cb ?_ | refine p_andM ?_ | refine p_orM ?_ | refine p_notM ?_ | refine p_chain ?_ | refine p_andV ?_ | refine p_orV ?_ | refine p_notV ?_ | refine p_ifM ?_ | refine p_tup ?_ | refine p_lst ?_ | refine p_call ?_ | refine p_callK ?_ | refine ⟨⟨⟨rfl, rfl⟩, rfl, rfl⟩, ⟨rfl, rfl⟩, ?_⟩ | refine p_setB ?_ | refine p_sl ?_ | refine p_osome ?_ | refine p_onone ?_ | refine p_snil ?_ | refine p_sexpr ?_ | refine p_retN ?_ | refine p_par ?_ | refine p_sh ?_ | refine p_brt rfl ?_ | refine p_brf rfl ?_ | refine ⟨_, rfl, ?_⟩ | refine ⟨⟨rfl, rfl⟩, ?_⟩ | refine ⟨⟨rfl, Nat.le_of_ble_eq_true rfl⟩, ?_⟩ | refine ⟨_, _, _, _, rfl, hn, rfl, rfl, ?_⟩ | (refine ⟨_, _, rfl, ⟨rfl, rfl⟩, ?_⟩; try dsimp only [wipeE, List.set_cons_succ, List.set_cons_zero]) | (refine ⟨rfl, ?_⟩; try dsimp only [wipeE, List.set_cons_succ, List.set_cons_zero])))
  | int k => (repeat (first | refine p_var rfl ?_ | refine p_c ?_ | refine p_bin ?_ | refine p_cons ?_ | refine p_nil ?_ | refine p_seq ?_ | refine p_asg ?_ | refine p_sif ?_ | refine p_ret ?_ | refine p_bM ?_ | refine p_tM ?_ | refine p_cb ?_ | refine p_andM ?_ | refine p_orM ?_ | refine p_notM ?_ | refine p_chain ?_ | refine p_andV ?_ | refine p_orV ?_ | refine p_notV ?_ | refine p_ifM ?_ | refine p_tup ?_ | refine p_lst ?_ | refine p_call ?_ | refine p_callK ?_ | refine ⟨⟨⟨rfl, rfl⟩, rfl, rfl⟩, ⟨rfl, rfl⟩, ?_⟩ | refine p_setB ?_ | refine p_sl ?_ | refine p_osome ?_ | refine p_onone ?_ | refine p_snil ?_ | refine p_sexpr ?_ | refine p_retN ?_ | refine p_par ?_ | refine p_sh ?_ | refine p_brt rfl ?_ | refine p_brf rfl ?_ | refine ⟨_, rfl, ?_⟩ | refine ⟨⟨rfl, rfl⟩, ?_⟩ | refine ⟨⟨rfl, Nat.le_of_ble_eq_true rfl⟩, ?_⟩ | refine ⟨_, _, _, _, rfl, hn, rfl, rfl, ?_⟩ | (refine ⟨_, _, rfl, ⟨rfl, rfl⟩, ?_⟩; try dsimp only [wipeE, List.set_cons_succ, List.set_cons_zero]) | (refine ⟨rfl, ?_⟩; try dsimp only [wipeE, List.set_cons_succ, List.set_cons_zero])))
  | non => (repeat (first | refine p_var rfl ?_ | refine p_c ?_ | refine p_bin ?_ | refine p_cons ?_ | refine p_nil ?_ | refine p_seq ?_ | refine p_asg ?_ | refine p_sif ?_ | refine p_ret ?_ | refine p_bM ?_ | refine p_tM ?_ | refine p_cb ?_ | refine p_andM ?_ | refine p_orM ?_ | refine p_notM ?_ | refine p_chain ?_ | refine p_andV ?_ | refine p_orV ?_ | refine p_notV ?_ | refine p_ifM ?_ | refine p_tup ?_ | refine p_lst ?_ | refine p_call ?_ | refine p_callK ?_ | refine ⟨⟨⟨rfl, rfl⟩, rfl, rfl⟩, ⟨rfl, rfl⟩, ?_⟩ | refine p_setB ?_ | refine p_sl ?_ | refine p_osome ?_ | refine p_onone ?_ | refine p_snil ?_ | refine p_sexpr ?_ | refine p_retN ?_ | refine p_par ?_ | refine p_sh ?_ | refine p_brt rfl ?_ | refine p_brf rfl ?_ | refine ⟨_, rfl, ?_⟩ | refine ⟨⟨rfl, rfl⟩, ?_⟩ | refine ⟨⟨rfl, Nat.le_of_ble_eq_true rfl⟩, ?_⟩ | refine ⟨_, _, _, _, rfl, hn, rfl, rfl, ?_⟩ | (refine ⟨_, _, rfl, ⟨rfl, rfl⟩, ?_⟩; try dsimp only [wipeE, List.set_cons_succ, List.set_cons_zero]) | (refine ⟨rfl, ?_⟩; try dsimp only [wipeE, List.set_cons_succ, List.set_cons_zero])))
  | str x => (repeat (first | refine p_var rfl ?_ | refine p_c ?_ | refine p_bin ?_ | refine p_cons ?_ | refine p_nil ?_ | refine p_seq ?_ | refine p_asg ?_ | refine p_sif ?_ | refine p_ret ?_ | refine p_bM ?_ | refine p_tM ?_ | refine p_cb ?_ | refine p_andM ?_ | refine p_orM ?_ | refine p_notM ?_ | refine p_chain ?_ | refine p_andV ?_ | refine p_orV ?_ | refine p_notV ?_ | refine p_ifM ?_ | refine p_tup ?_ | refine p_lst ?_ | refine p_call ?_ | refine p_callK ?_ | refine ⟨⟨⟨rfl, rfl⟩, rfl, rfl⟩, ⟨rfl, rfl⟩, ?_⟩ | refine p_setB ?_ | refine p_sl ?_ | refine p_osome ?_ | refine p_onone ?_ | refine p_snil ?_ | refine p_sexpr ?_ | refine p_retN ?_ | refine p_par ?_ | refine p_sh ?_ | refine p_brt rfl ?_ | refine p_brf rfl ?_ | refine ⟨_, rfl, ?_⟩ | refine ⟨⟨rfl, rfl⟩, ?_⟩ | refine ⟨⟨rfl, Nat.le_of_ble_eq_true rfl⟩, ?_⟩ | refine ⟨_, _, _, _, rfl, hn, rfl, rfl, ?_⟩ | (refine ⟨_, _, rfl, ⟨rfl, rfl⟩, ?_⟩; try dsimp only [wipeE, List.set_cons_succ, List.set_cons_zero]) | (refine ⟨rfl, ?_⟩; try dsimp only [wipeE, List.set_cons_succ, List.set_cons_zero])))
  | lst xs => (repeat (first | refine p_var rfl ?_ | refine p_c ?_ | refine p_bin ?_ | refine p_cons ?_ | refine p_nil ?_ | refine p_seq ?_ | refine p_asg ?_ | refine p_sif ?_ | refine p_ret ?_ | refine p_bM ?_ | refine p_tM ?_ | refine p_cb ?_ | refine p_andM ?_ | refine p_orM ?_ | refine p_notM ?_ | refine p_chain ?_ | refine p_andV ?_ | refine p_orV ?_ | refine p_notV ?_ | refine p_ifM ?_ | refine p_tup ?_ | refine p_lst ?_ | refine p_call ?_ | refine p_callK ?_ | refine ⟨⟨⟨rfl, rfl⟩, rfl, rfl⟩, ⟨rfl, rfl⟩, ?_⟩ | refine p_setB ?_ | refine p_sl ?_ | refine p_osome ?_ | refine p_onone ?_ | refine p_snil ?_ | refine p_sexpr ?_ | refine p_retN ?_ | refine p_par ?_ | refine p_sh ?_ | refine p_brt rfl ?_ | refine p_brf rfl ?_ | refine ⟨_, rfl, ?_⟩ | refine ⟨⟨rfl, rfl⟩, ?_⟩ | refine ⟨⟨rfl, Nat.le_of_ble_eq_true rfl⟩, ?_⟩ | refine ⟨_, _, _, _, rfl, hn, rfl, rfl, ?_⟩ | (refine ⟨_, _, rfl, ⟨rfl, rfl⟩, ?_⟩; try dsimp only [wipeE, List.set_cons_succ, List.set_cons_zero]) | (refine ⟨rfl, ?_⟩; try dsimp only [wipeE, List.set_cons_succ, List.set_cons_zero])))
  | _ => exact p.elim
abbrev abc : Str := "abcdefghijklmnopqrstuvwxyz"
def letB : PV → Bool
  | .str y => (match y.cps.toList with
    | [c] => decide (c ∈ abc.cps.toList)
    | _ => false)
  | _ => false
def signs (x : Str) : List PV := x.cps.toList.map fun c => .str ⟨#[c]⟩
def nameB : PV → Bool
  | .str x => (decide (1 ≤ (x.length : Int)) && decide ((x.length : Int) ≤ 8)) && ((signs x).map letB).all fun b => b
  | _ => false
theorem is_name_spec {v : PV} {h : AH} (p : Pl v) : (m_is_name [v] h).post (fun r h' => r = .bl (nameB v) ∧ h' = h) NE := by
  unfold m_is_name
  rw [xe_is_name]
  unfold xb_is_name
  refine p_mkF [some v, none] rfl ?_
  (repeat (first | refine p_var rfl ?_ | refine p_c ?_ | refine p_bin ?_ | refine p_cons ?_ | refine p_nil ?_ | refine p_seq ?_ | refine p_asg ?_ | refine p_sif ?_ | refine p_ret ?_ | refine p_bM ?_ | refine p_tM ?_ | refine p_cb ?_ | refine p_andM ?_ | refine p_orM ?_ | refine p_notM ?_ | refine p_chain ?_ | refine p_andV ?_ | refine p_orV ?_ | refine p_notV ?_ | refine p_ifM ?_ | refine p_tup ?_ | refine p_lst ?_ | refine p_call ?_ | refine p_callK ?_ | refine ⟨⟨⟨rfl, rfl⟩, rfl, rfl⟩, ⟨rfl, rfl⟩, ?_⟩ | refine p_setB ?_ | refine p_sl ?_ | refine p_osome ?_ | refine p_onone ?_ | refine p_snil ?_ | refine p_sexpr ?_ | refine p_retN ?_ | refine p_par ?_ | refine p_sh ?_ | refine p_brt rfl ?_ | refine p_brf rfl ?_ | refine ⟨_, rfl, ?_⟩ | refine ⟨⟨rfl, rfl⟩, ?_⟩ | refine ⟨⟨rfl, Nat.le_of_ble_eq_true rfl⟩, ?_⟩ | refine ⟨_, _, _, _, rfl, hn, rfl, rfl, ?_⟩ | (refine ⟨_, _, rfl, ⟨rfl, rfl⟩, ?_⟩; try dsimp only [wipeE, List.set_cons_succ, List.set_cons_zero]) | (refine ⟨rfl, ?_⟩; try dsimp only [wipeE, List.set_cons_succ, List.set_cons_zero]) | refine ⟨_, isi_p p rfl, ?_⟩))
  cases v with
  | str x =>
    (repeat (first | refine p_var rfl ?_ | refine p_c ?_ | refine p_bin ?_ | refine p_cons ?_ | refine p_nil ?_ | refine p_seq ?_ | refine p_asg ?_ | refine p_sif ?_ | refine p_ret ?_ | refine p_bM ?_ | refine p_tM ?_ | refine p_cb ?_ | refine p_andM ?_ | refine p_orM ?_ | refine p_notM ?_ | refine p_chain ?_ | refine p_andV ?_ | refine p_orV ?_ | refine p_notV ?_ | refine p_ifM ?_ | refine p_tup ?_ | refine p_lst ?_ | refine p_call ?_ | refine p_callK ?_ | refine ⟨⟨⟨rfl, rfl⟩, rfl, rfl⟩, ⟨rfl, rfl⟩, ?_⟩ | refine p_setB ?_ | refine p_sl ?_ | refine p_osome ?_ | refine p_onone ?_ | refine p_snil ?_ | refine p_sexpr ?_ | refine p_retN ?_ | refine p_par ?_ | refine p_sh ?_ | refine p_brt rfl ?_ | refine p_brf rfl ?_ | refine ⟨_, rfl, ?_⟩ | refine ⟨⟨rfl, rfl⟩, ?_⟩ | refine ⟨⟨rfl, Nat.le_of_ble_eq_true rfl⟩, ?_⟩ | refine ⟨_, _, _, _, rfl, hn, rfl, rfl, ?_⟩ | (refine ⟨_, _, rfl, ⟨rfl, rfl⟩, ?_⟩; try dsimp only [wipeE, List.set_cons_succ, List.set_cons_zero]) | (refine ⟨rfl, ?_⟩; try dsimp only [wipeE, List.set_cons_succ, List.set_cons_zero])))
    refine p_br (fun h1 => ?_) fun h1 => ?_
    · (repeat (first | refine p_var rfl ?_ | refine p_c ?_ | refine p_bin ?_ | refine p_cons ?_ | refine p_nil ?_ | refine p_seq ?_ | refine p_asg ?_ | refine p_sif ?_ | refine p_ret ?_ | refine p_bM ?_ | refine p_tM ?_ | refine p_cb ?_ | refine p_andM ?_ | refine p_orM ?_ | refine p_notM ?_ | refine p_chain ?_ | refine p_andV ?_ | refine p_orV ?_ | refine p_notV ?_ | refine p_ifM ?_ | refine p_tup ?_ | refine p_lst ?_ | refine p_call ?_ | refine p_callK ?_ | refine ⟨⟨⟨rfl, rfl⟩, rfl, rfl⟩, ⟨rfl, rfl⟩, ?_⟩ | refine p_setB ?_ | refine p_sl ?_ | refine p_osome ?_ | refine p_onone ?_ | refine p_snil ?_ | refine p_sexpr ?_ | refine p_retN ?_ | refine p_par ?_ | refine p_sh ?_ | refine p_brt rfl ?_ | refine p_brf rfl ?_ | refine ⟨_, rfl, ?_⟩ | refine ⟨⟨rfl, rfl⟩, ?_⟩ | refine ⟨⟨rfl, Nat.le_of_ble_eq_true rfl⟩, ?_⟩ | refine ⟨_, _, _, _, rfl, hn, rfl, rfl, ?_⟩ | (refine ⟨_, _, rfl, ⟨rfl, rfl⟩, ?_⟩; try dsimp only [wipeE, List.set_cons_succ, List.set_cons_zero]) | (refine ⟨rfl, ?_⟩; try dsimp only [wipeE, List.set_cons_succ, List.set_cons_zero])))
      have h1 : decide (1 ≤ (x.length : Int)) = true := h1
      refine p_br (fun h2 => ?_) fun h2 => ?_
      · have h2 : (!decide ((x.length : Int) ≤ 8)) = true := h2
        (repeat (first | refine p_var rfl ?_ | refine p_c ?_ | refine p_bin ?_ | refine p_cons ?_ | refine p_nil ?_ | refine p_seq ?_ | refine p_asg ?_ | refine p_sif ?_ | refine p_ret ?_ | refine p_bM ?_ | refine p_tM ?_ | refine p_cb ?_ | refine p_andM ?_ | refine p_orM ?_ | refine p_notM ?_ | refine p_chain ?_ | refine p_andV ?_ | refine p_orV ?_ | refine p_notV ?_ | refine p_ifM ?_ | refine p_tup ?_ | refine p_lst ?_ | refine p_call ?_ | refine p_callK ?_ | refine ⟨⟨⟨rfl, rfl⟩, rfl, rfl⟩, ⟨rfl, rfl⟩, ?_⟩ | refine p_setB ?_ | refine p_sl ?_ | refine p_osome ?_ | refine p_onone ?_ | refine p_snil ?_ | refine p_sexpr ?_ | refine p_retN ?_ | refine p_par ?_ | refine p_sh ?_ | refine p_brt rfl ?_ | refine p_brf rfl ?_ | refine ⟨_, rfl, ?_⟩ | refine ⟨⟨rfl, rfl⟩, ?_⟩ | refine ⟨⟨rfl, Nat.le_of_ble_eq_true rfl⟩, ?_⟩ | refine ⟨_, _, _, _, rfl, hn, rfl, rfl, ?_⟩ | (refine ⟨_, _, rfl, ⟨rfl, rfl⟩, ?_⟩; try dsimp only [wipeE, List.set_cons_succ, List.set_cons_zero]) | (refine ⟨rfl, ?_⟩; try dsimp only [wipeE, List.set_cons_succ, List.set_cons_zero])))
        show PV.bl false = .bl ((decide (1 ≤ (x.length : Int)) && decide ((x.length : Int) ≤ 8)) && ((signs x).map letB).all fun b => b) ∧ h = h
        rw [show decide ((x.length : Int) ≤ 8) = false by simpa using h2, Bool.and_false, Bool.false_and]
        exact ⟨rfl, rfl⟩
      · have h2 : (!decide ((x.length : Int) ≤ 8)) = false := h2
        (repeat (first | refine p_var rfl ?_ | refine p_c ?_ | refine p_bin ?_ | refine p_cons ?_ | refine p_nil ?_ | refine p_seq ?_ | refine p_asg ?_ | refine p_sif ?_ | refine p_ret ?_ | refine p_bM ?_ | refine p_tM ?_ | refine p_cb ?_ | refine p_andM ?_ | refine p_orM ?_ | refine p_notM ?_ | refine p_chain ?_ | refine p_andV ?_ | refine p_orV ?_ | refine p_notV ?_ | refine p_ifM ?_ | refine p_tup ?_ | refine p_lst ?_ | refine p_call ?_ | refine p_callK ?_ | refine ⟨⟨⟨rfl, rfl⟩, rfl, rfl⟩, ⟨rfl, rfl⟩, ?_⟩ | refine p_setB ?_ | refine p_sl ?_ | refine p_osome ?_ | refine p_onone ?_ | refine p_snil ?_ | refine p_sexpr ?_ | refine p_retN ?_ | refine p_par ?_ | refine p_sh ?_ | refine p_brt rfl ?_ | refine p_brf rfl ?_ | refine ⟨_, rfl, ?_⟩ | refine ⟨⟨rfl, rfl⟩, ?_⟩ | refine ⟨⟨rfl, Nat.le_of_ble_eq_true rfl⟩, ?_⟩ | refine ⟨_, _, _, _, rfl, hn, rfl, rfl, ?_⟩ | (refine ⟨_, _, rfl, ⟨rfl, rfl⟩, ?_⟩; try dsimp only [wipeE, List.set_cons_succ, List.set_cons_zero]) | (refine ⟨rfl, ?_⟩; try dsimp only [wipeE, List.set_cons_succ, List.set_cons_zero])))
        refine p_compMap (p_any (p_var rfl ⟨_, rfl, rfl, fun v => .bl (letB v), fun v hv => ?_, ?_⟩))
        · obtain ⟨c, _, rfl⟩ := List.mem_map.mp hv
          refine ⟨_, rfl, ?_⟩
          (repeat (first | refine p_var rfl ?_ | refine p_c ?_ | refine p_bin ?_ | refine p_cons ?_ | refine p_nil ?_ | refine p_seq ?_ | refine p_asg ?_ | refine p_sif ?_ | refine p_ret ?_ | refine p_bM ?_ | refine p_tM ?_ | refine p_cb ?_ | refine p_andM ?_ | refine p_orM ?_ | refine p_notM ?_ | refine p_chain ?_ | refine p_andV ?_ | refine p_orV ?_ | refine p_notV ?_ | refine p_ifM ?_ | refine p_tup ?_ | refine p_lst ?_ | refine p_call ?_ | refine p_callK ?_ | refine ⟨⟨⟨rfl, rfl⟩, rfl, rfl⟩, ⟨rfl, rfl⟩, ?_⟩ | refine p_setB ?_ | refine p_sl ?_ | refine p_osome ?_ | refine p_onone ?_ | refine p_snil ?_ | refine p_sexpr ?_ | refine p_retN ?_ | refine p_par ?_ | refine p_sh ?_ | refine p_brt rfl ?_ | refine p_brf rfl ?_ | refine ⟨_, rfl, ?_⟩ | refine ⟨⟨rfl, rfl⟩, ?_⟩ | refine ⟨⟨rfl, Nat.le_of_ble_eq_true rfl⟩, ?_⟩ | refine ⟨_, _, _, _, rfl, hn, rfl, rfl, ?_⟩ | (refine ⟨_, _, rfl, ⟨rfl, rfl⟩, ?_⟩; try dsimp only [wipeE, List.set_cons_succ, List.set_cons_zero]) | (refine ⟨rfl, ?_⟩; try dsimp only [wipeE, List.set_cons_succ, List.set_cons_zero])))
          exact ⟨by rw [Bool.false_xor]; rfl, rfl, rfl, rfl⟩
        · (repeat (first | refine p_var rfl ?_ | refine p_c ?_ | refine p_bin ?_ | refine p_cons ?_ | refine p_nil ?_ | refine p_seq ?_ | refine p_asg ?_ | refine p_sif ?_ | refine p_ret ?_ | refine p_bM ?_ | refine p_tM ?_ | refine p_cb ?_ | refine p_andM ?_ | refine p_orM ?_ | refine p_notM ?_ | refine p_chain ?_ | refine p_andV ?_ | refine p_orV ?_ | refine p_notV ?_ | refine p_ifM ?_ | refine p_tup ?_ | refine p_lst ?_ | refine p_call ?_ | refine p_callK ?_ | refine ⟨⟨⟨rfl, rfl⟩, rfl, rfl⟩, ⟨rfl, rfl⟩, ?_⟩ | refine p_setB ?_ | refine p_sl ?_ | refine p_osome ?_ | refine p_onone ?_ | refine p_snil ?_ | refine p_sexpr ?_ | refine p_retN ?_ | refine p_par ?_ | refine p_sh ?_ | refine p_brt rfl ?_ | refine p_brf rfl ?_ | refine ⟨_, rfl, ?_⟩ | refine ⟨⟨rfl, rfl⟩, ?_⟩ | refine ⟨⟨rfl, Nat.le_of_ble_eq_true rfl⟩, ?_⟩ | refine ⟨_, _, _, _, rfl, hn, rfl, rfl, ?_⟩ | (refine ⟨_, _, rfl, ⟨rfl, rfl⟩, ?_⟩; try dsimp only [wipeE, List.set_cons_succ, List.set_cons_zero]) | (refine ⟨rfl, ?_⟩; try dsimp only [wipeE, List.set_cons_succ, List.set_cons_zero]) | refine ⟨_, all_map letB, ?_⟩))
          show PV.bl _ = .bl ((decide (1 ≤ (x.length : Int)) && decide ((x.length : Int) ≤ 8)) && ((signs x).map letB).all fun b => b) ∧ h = h
          rw [h1, show decide ((x.length : Int) ≤ 8) = true by simpa using h2, Bool.true_and, Bool.true_and]
          exact ⟨rfl, rfl⟩
    · have h1 : decide (1 ≤ (x.length : Int)) = false := h1
      (repeat (first | refine p_var rfl ?_ | refine p_c ?_ | refine p_bin ?_ | refine p_cons ?_ | refine p_nil ?_ | refine p_seq ?_ | refine p_asg ?_ | refine p_sif ?_ | refine p_ret ?_ | refine p_bM ?_ | refine p_tM ?_ | refine p_cb ?_ | refine p_andM ?_ | refine p_orM ?_ | refine p_notM ?_ | refine p_chain ?_ | refine p_andV ?_ | refine p_orV ?_ | refine p_notV ?_ | refine p_ifM ?_ | refine p_tup ?_ | refine p_lst ?_ | refine p_call ?_ | refine p_callK ?_ | refine ⟨⟨⟨rfl, rfl⟩, rfl, rfl⟩, ⟨rfl, rfl⟩, ?_⟩ | refine p_setB ?_ | refine p_sl ?_ | refine p_osome ?_ | refine p_onone ?_ | refine p_snil ?_ | refine p_sexpr ?_ | refine p_retN ?_ | refine p_par ?_ | refine p_sh ?_ | refine p_brt rfl ?_ | refine p_brf rfl ?_ | refine ⟨_, rfl, ?_⟩ | refine ⟨⟨rfl, rfl⟩, ?_⟩ | refine ⟨⟨rfl, Nat.le_of_ble_eq_true rfl⟩, ?_⟩ | refine ⟨_, _, _, _, rfl, hn, rfl, rfl, ?_⟩ | (refine ⟨_, _, rfl, ⟨rfl, rfl⟩, ?_⟩; try dsimp only [wipeE, List.set_cons_succ, List.set_cons_zero]) | (refine ⟨rfl, ?_⟩; try dsimp only [wipeE, List.set_cons_succ, List.set_cons_zero])))
      show PV.bl false = .bl ((decide (1 ≤ (x.length : Int)) && decide ((x.length : Int) ≤ 8)) && ((signs x).map letB).all fun b => b) ∧ h = h
      rw [h1, Bool.false_and, Bool.false_and]
      exact ⟨rfl, rfl⟩
  | bl k => (repeat (first | refine p_var rfl ?_ | refine p_c ?_ | refine p_bin ?_ | refine p_cons ?_ | refine p_nil ?_ | refine p_seq ?_ | refine p_asg ?_ | refine p_sif ?_ | refine p_ret ?_ | refine p_bM ?_ | refine p_tM ?_ | refine p_cb ?_ | refine p_andM ?_ | refine p_orM ?_ | refine p_notM ?_ | refine p_chain ?_ | refine p_andV ?_ | refine p_orV ?_ | refine p_notV ?_ | refine p_ifM ?_ | refine p_tup ?_ | refine p_lst ?_ | refine p_call ?_ | refine p_callK ?_ | refine ⟨⟨⟨rfl, rfl⟩, rfl, rfl⟩, ⟨rfl, rfl⟩, ?_⟩ | refine p_setB ?_ | refine p_sl ?_ | refine p_osome ?_ | refine p_onone ?_ | refine p_snil ?_ | refine p_sexpr ?_ | refine p_retN ?_ | refine p_par ?_ | refine p_sh ?_ | refine p_brt rfl ?_ | refine p_brf rfl ?_ | refine ⟨_, rfl, ?_⟩ | refine ⟨⟨rfl, rfl⟩, ?_⟩ | refine ⟨⟨rfl, Nat.le_of_ble_eq_true rfl⟩, ?_⟩ | refine ⟨_, _, _, _, rfl, hn, rfl, rfl, ?_⟩ | (refine ⟨_, _, rfl, ⟨rfl, rfl⟩, ?_⟩; try dsimp only [wipeE, List.set_cons_succ, List.set_cons_zero]) | (refine ⟨rfl, ?_⟩; try dsimp only [wipeE, List.set_cons_succ, List.set_cons_zero])))
  | int k => (repeat (first | refine p_var rfl ?_ | refine p_c ?_ | refine p_bin ?_ | refine p_cons ?_ | refine p_nil ?_ | refine p_seq ?_ | refine p_asg ?_ | refine p_sif ?_ | refine p_ret ?_ | refine p_bM ?_ | refine p_tM ?_ | refine p_cb ?_ | refine p_andM ?_ | refine p_orM ?_ | refine p_notM ?_ | refine p_chain ?_ | refine p_andV ?_ | refine p_orV ?_ | refine p_notV ?_ | refine p_ifM ?_ | refine p_tup ?_ | refine p_lst ?_ | refine p_call ?_ | refine p_callK ?_ | refine ⟨⟨⟨rfl, rfl⟩, rfl, rfl⟩, ⟨rfl, rfl⟩, ?_⟩ | refine p_setB ?_ | refine p_sl ?_ | refine p_osome ?_ | refine p_onone ?_ | refine p_snil ?_ | refine p_sexpr ?_ | refine p_retN ?_ | refine p_par ?_ | refine p_sh ?_ | refine p_brt rfl ?_ | refine p_brf rfl ?_ | refine ⟨_, rfl, ?_⟩ | refine ⟨⟨rfl, rfl⟩, ?_⟩ | refine ⟨⟨rfl, Nat.le_of_ble_eq_true rfl⟩, ?_⟩ | refine ⟨_, _, _, _, rfl, hn, rfl, rfl, ?_⟩ | (refine ⟨_, _, rfl, ⟨rfl, rfl⟩, ?_⟩; try dsimp only [wipeE, List.set_cons_succ, List.set_cons_zero]) | (refine ⟨rfl, ?_⟩; try dsimp only [wipeE, List.set_cons_succ, List.set_cons_zero])))
  | non => (repeat (first | refine p_var rfl ?_ | refine p_c ?_ | refine p_bin ?_ | refine p_cons ?_ | refine p_nil ?_ | refine p_seq ?_ | refine p_asg ?_ | refine p_sif ?_ | refine p_ret ?_ | refine p_bM ?_ | refine p_tM ?_ | refine p_cb ?_ | refine p_andM ?_ | refine p_orM ?_ | refine p_notM ?_ | refine p_chain ?_ | refine p_andV ?_ | refine p_orV ?_ | refine p_notV ?_ | refine p_ifM ?_ | refine p_tup ?_ | refine p_lst ?_ | refine p_call ?_ | refine p_callK ?_ | refine ⟨⟨⟨rfl, rfl⟩, rfl, rfl⟩, ⟨rfl, rfl⟩, ?_⟩ | refine p_setB ?_ | refine p_sl ?_ | refine p_osome ?_ | refine p_onone ?_ | refine p_snil ?_ | refine p_sexpr ?_ | refine p_retN ?_ | refine p_par ?_ | refine p_sh ?_ | refine p_brt rfl ?_ | refine p_brf rfl ?_ | refine ⟨_, rfl, ?_⟩ | refine ⟨⟨rfl, rfl⟩, ?_⟩ | refine ⟨⟨rfl, Nat.le_of_ble_eq_true rfl⟩, ?_⟩ | refine ⟨_, _, _, _, rfl, hn, rfl, rfl, ?_⟩ | (refine ⟨_, _, rfl, ⟨rfl, rfl⟩, ?_⟩; try dsimp only [wipeE, List.set_cons_succ, List.set_cons_zero]) | (refine ⟨rfl, ?_⟩; try dsimp only [wipeE, List.set_cons_succ, List.set_cons_zero])))
  | tup x => (repeat (first | refine p_var rfl ?_ | refine p_c ?_ | refine p_bin ?_ | refine p_cons ?_ | refine p_nil ?_ | refine p_seq ?_ | refine p_asg ?_ | refine p_sif ?_ | refine p_ret ?_ | refine p_bM ?_ | refine p_tM ?_ | refine p_cb ?_ | refine p_andM ?_ | refine p_orM ?_ | refine p_notM ?_ | refine p_chain ?_ | refine p_andV ?_ | refine p_orV ?_ | refine p_notV ?_ | refine p_ifM ?_ | refine p_tup ?_ | refine p_lst ?_ | refine p_call ?_ | refine p_callK ?_ | refine ⟨⟨⟨rfl, rfl⟩, rfl, rfl⟩, ⟨rfl, rfl⟩, ?_⟩ | refine p_setB ?_ | refine p_sl ?_ | refine p_osome ?_ | refine p_onone ?_ | refine p_snil ?_ | refine p_sexpr ?_ | refine p_retN ?_ | refine p_par ?_ | refine p_sh ?_ | refine p_brt rfl ?_ | refine p_brf rfl ?_ | refine ⟨_, rfl, ?_⟩ | refine ⟨⟨rfl, rfl⟩, ?_⟩ | refine ⟨⟨rfl, Nat.le_of_ble_eq_true rfl⟩, ?_⟩ | refine ⟨_, _, _, _, rfl, hn, rfl, rfl, ?_⟩ | (refine ⟨_, _, rfl, ⟨rfl, rfl⟩, ?_⟩; try dsimp only [wipeE, List.set_cons_succ, List.set_cons_zero]) | (refine ⟨rfl, ?_⟩; try dsimp only [wipeE, List.set_cons_succ, List.set_cons_zero])))
  | lst xs => (repeat (first | refine p_var rfl ?_ | refine p_c ?_ | refine p_bin ?_ | refine p_cons ?_ | refine p_nil ?_ | refine p_seq ?_ | refine p_asg ?_ | refine p_sif ?_ | refine p_ret ?_ | refine p_bM ?_ | refine p_tM ?_ | refine p_cb ?_ | refine p_andM ?_ | refine p_orM ?_ | refine p_notM ?_ | refine p_chain ?_ | refine p_andV ?_ | refine p_orV ?_ | refine p_notV ?_ | refine p_ifM ?_ | refine p_tup ?_ | refine p_lst ?_ | refine p_call ?_ | refine p_callK ?_ | refine ⟨⟨⟨rfl, rfl⟩, rfl, rfl⟩, ⟨rfl, rfl⟩, ?_⟩ | refine p_setB ?_ | refine p_sl ?_ | refine p_osome ?_ | refine p_onone ?_ | refine p_snil ?_ | refine p_sexpr ?_ | refine p_retN ?_ | refine p_par ?_ | refine p_sh ?_ | refine p_brt rfl ?_ | refine p_brf rfl ?_ | refine ⟨_, rfl, ?_⟩ | refine ⟨⟨rfl, rfl⟩, ?_⟩ | refine ⟨⟨rfl, Nat.le_of_ble_eq_true rfl⟩, ?_⟩ | refine ⟨_, _, _, _, rfl, hn, rfl, rfl, ?_⟩ | (refine ⟨_, _, rfl, ⟨rfl, rfl⟩, ?_⟩; try dsimp only [wipeE, List.set_cons_succ, List.set_cons_zero]) | (refine ⟨rfl, ?_⟩; try dsimp only [wipeE, List.set_cons_succ, List.set_cons_zero])))
  | _ => exact p.elim
theorem like_eq : m__law_like = likeM 8 := by
  unfold m__law_like likeM
  rfl
/-- letters -/
def Lt (cs : List Nat) : Prop := ∀ c ∈ cs, c ∈ abc.cps.toList
theorem abc_lt : ∀ c ∈ abc.cps.toList, c < 1114112 := by decide +kernel
theorem abc_len : abc.length = 26 := by decide +kernel
theorem Lt.app {a b : List Nat} (h : Lt a) (h' : Lt b) : Lt (a ++ b) := fun c hc => (List.mem_append.mp hc).elim (h c) (h' c)
theorem letB_one {c : Nat} (h : c ∈ abc.cps.toList) : letB (.str (mkS [c])) = true := decide_eq_true h
theorem nameB_mk {cs : List Nat} (h : Lt cs) (h1 : 1 ≤ cs.length) (h8 : cs.length ≤ 8) : nameB (.str (mkS cs)) = true := by
  show ((decide (1 ≤ ((mkS cs).length : Int)) && decide (((mkS cs).length : Int) ≤ 8)) && ((cs.map fun c => PV.str (mkS [c])).map letB).all fun b => b) = true
  rw [mkS_len, decide_eq_true (by omega), decide_eq_true (by omega), Bool.true_and, Bool.true_and, List.map_map, List.all_eq_true]
  intro b hb
  obtain ⟨c, hc, rfl⟩ := List.mem_map.mp hb
  exact letB_one (h c hc)
theorem names_spec {h h1 : AH} {n : Nat} (hn : n < h.length) (b : BagAt h n h1) : (m__law_names [.cel n, .int 2] h1).post (fun v h' => (∃ x y, v = .lst [.str (mkS x), .str (mkS y)] ∧ (Lt x ∧ 1 ≤ x.length ∧ x.length ≤ 8) ∧ (Lt y ∧ 1 ≤ y.length ∧ y.length ≤ 8)) ∧ BagAt h n h') NE := by
  unfold m__law_names
  rw [xe__law_names]
  unfold xb__law_names
  rw [draw_eq, of_eq]
  refine p_mkF [some (.cel n), some (.int 2), none, none, none, none, none] rfl ?_
  (repeat (first | refine p_var rfl ?_ | refine p_c ?_ | refine p_bin ?_ | refine p_cons ?_ | refine p_nil ?_ | refine p_seq ?_ | refine p_asg ?_ | refine p_sif ?_ | refine p_ret ?_ | refine p_bM ?_ | refine p_tM ?_ | refine p_cb ?_ | refine p_andM ?_ | refine p_orM ?_ | refine p_notM ?_ | refine p_chain ?_ | refine p_andV ?_ | refine p_orV ?_ | refine p_notV ?_ | refine p_ifM ?_ | refine p_tup ?_ | refine p_lst ?_ | refine p_call ?_ | refine p_callK ?_ | refine ⟨⟨⟨rfl, rfl⟩, rfl, rfl⟩, ⟨rfl, rfl⟩, ?_⟩ | refine p_setB ?_ | refine p_sl ?_ | refine p_osome ?_ | refine p_onone ?_ | refine p_snil ?_ | refine p_sexpr ?_ | refine p_retN ?_ | refine p_par ?_ | refine p_sh ?_ | refine p_brt rfl ?_ | refine p_brf rfl ?_ | refine ⟨_, rfl, ?_⟩ | refine ⟨⟨rfl, rfl⟩, ?_⟩ | refine ⟨⟨rfl, Nat.le_of_ble_eq_true rfl⟩, ?_⟩ | refine ⟨_, _, _, _, rfl, hn, rfl, rfl, ?_⟩ | (refine ⟨_, _, rfl, ⟨rfl, rfl⟩, ?_⟩; try dsimp only [wipeE, List.set_cons_succ, List.set_cons_zero]) | (refine ⟨rfl, ?_⟩; try dsimp only [wipeE, List.set_cons_succ, List.set_cons_zero])))
  refine p_ms ?_
  (repeat (first | refine p_var rfl ?_ | refine p_c ?_ | refine p_bin ?_ | refine p_cons ?_ | refine p_nil ?_ | refine p_seq ?_ | refine p_asg ?_ | refine p_sif ?_ | refine p_ret ?_ | refine p_bM ?_ | refine p_tM ?_ | refine p_cb ?_ | refine p_andM ?_ | refine p_orM ?_ | refine p_notM ?_ | refine p_chain ?_ | refine p_andV ?_ | refine p_orV ?_ | refine p_notV ?_ | refine p_ifM ?_ | refine p_tup ?_ | refine p_lst ?_ | refine p_call ?_ | refine p_callK ?_ | refine ⟨⟨⟨rfl, rfl⟩, rfl, rfl⟩, ⟨rfl, rfl⟩, ?_⟩ | refine p_setB ?_ | refine p_sl ?_ | refine p_osome ?_ | refine p_onone ?_ | refine p_snil ?_ | refine p_sexpr ?_ | refine p_retN ?_ | refine p_par ?_ | refine p_sh ?_ | refine p_brt rfl ?_ | refine p_brf rfl ?_ | refine ⟨_, rfl, ?_⟩ | refine ⟨⟨rfl, rfl⟩, ?_⟩ | refine ⟨⟨rfl, Nat.le_of_ble_eq_true rfl⟩, ?_⟩ | refine ⟨_, _, _, _, rfl, hn, rfl, rfl, ?_⟩ | (refine ⟨_, _, rfl, ⟨rfl, rfl⟩, ?_⟩; try dsimp only [wipeE, List.set_cons_succ, List.set_cons_zero]) | (refine ⟨rfl, ?_⟩; try dsimp only [wipeE, List.set_cons_succ, List.set_cons_zero])))
  refine p_compN (p_rng1 ?_)
  (repeat (first | refine p_var rfl ?_ | refine p_c ?_ | refine p_bin ?_ | refine p_cons ?_ | refine p_nil ?_ | refine p_seq ?_ | refine p_asg ?_ | refine p_sif ?_ | refine p_ret ?_ | refine p_bM ?_ | refine p_tM ?_ | refine p_cb ?_ | refine p_andM ?_ | refine p_orM ?_ | refine p_notM ?_ | refine p_chain ?_ | refine p_andV ?_ | refine p_orV ?_ | refine p_notV ?_ | refine p_ifM ?_ | refine p_tup ?_ | refine p_lst ?_ | refine p_call ?_ | refine p_callK ?_ | refine ⟨⟨⟨rfl, rfl⟩, rfl, rfl⟩, ⟨rfl, rfl⟩, ?_⟩ | refine p_setB ?_ | refine p_sl ?_ | refine p_osome ?_ | refine p_onone ?_ | refine p_snil ?_ | refine p_sexpr ?_ | refine p_retN ?_ | refine p_par ?_ | refine p_sh ?_ | refine p_brt rfl ?_ | refine p_brf rfl ?_ | refine ⟨_, rfl, ?_⟩ | refine ⟨⟨rfl, rfl⟩, ?_⟩ | refine ⟨⟨rfl, Nat.le_of_ble_eq_true rfl⟩, ?_⟩ | refine ⟨_, _, _, _, rfl, hn, rfl, rfl, ?_⟩ | (refine ⟨_, _, rfl, ⟨rfl, rfl⟩, ?_⟩; try dsimp only [wipeE, List.set_cons_succ, List.set_cons_zero]) | (refine ⟨rfl, ?_⟩; try dsimp only [wipeE, List.set_cons_succ, List.set_cons_zero])))
  refine p_spec (draw_at hn b (by decide) (by decide)) fun v h' z => ?_
  obtain ⟨⟨d, rfl, d0, d8⟩, b'⟩ := z
  (repeat (first | refine p_var rfl ?_ | refine p_c ?_ | refine p_bin ?_ | refine p_cons ?_ | refine p_nil ?_ | refine p_seq ?_ | refine p_asg ?_ | refine p_sif ?_ | refine p_ret ?_ | refine p_bM ?_ | refine p_tM ?_ | refine p_cb ?_ | refine p_andM ?_ | refine p_orM ?_ | refine p_notM ?_ | refine p_chain ?_ | refine p_andV ?_ | refine p_orV ?_ | refine p_notV ?_ | refine p_ifM ?_ | refine p_tup ?_ | refine p_lst ?_ | refine p_call ?_ | refine p_callK ?_ | refine ⟨⟨⟨rfl, rfl⟩, rfl, rfl⟩, ⟨rfl, rfl⟩, ?_⟩ | refine p_setB ?_ | refine p_sl ?_ | refine p_osome ?_ | refine p_onone ?_ | refine p_snil ?_ | refine p_sexpr ?_ | refine p_retN ?_ | refine p_par ?_ | refine p_sh ?_ | refine p_brt rfl ?_ | refine p_brf rfl ?_ | refine ⟨_, rfl, ?_⟩ | refine ⟨⟨rfl, rfl⟩, ?_⟩ | refine ⟨⟨rfl, Nat.le_of_ble_eq_true rfl⟩, ?_⟩ | refine ⟨_, _, _, _, rfl, hn, rfl, rfl, ?_⟩ | (refine ⟨_, _, rfl, ⟨rfl, rfl⟩, ?_⟩; try dsimp only [wipeE, List.set_cons_succ, List.set_cons_zero]) | (refine ⟨rfl, ?_⟩; try dsimp only [wipeE, List.set_cons_succ, List.set_cons_zero])))
  refine ⟨by omega, rfl, fun j acc hh => (∃ cs, acc = cs.map (fun c => .str (mkS [c])) ∧ cs.length = j ∧ Lt cs) ∧ BagAt h n hh, ⟨⟨[], rfl, rfl, fun c hc => by cases hc⟩, b'⟩, fun j v acc hh e i => ?_, fun acc hh i => ?_⟩
  · obtain ⟨⟨cs, rfl, hl, hlt⟩, bb⟩ := i
    obtain ⟨k, _, rfl⟩ := List.mem_map.mp (List.mem_of_getElem? e)
    refine ⟨_, rfl, p_ok (p_brt rfl ?_)⟩
    (repeat (first | refine p_var rfl ?_ | refine p_c ?_ | refine p_bin ?_ | refine p_cons ?_ | refine p_nil ?_ | refine p_seq ?_ | refine p_asg ?_ | refine p_sif ?_ | refine p_ret ?_ | refine p_bM ?_ | refine p_tM ?_ | refine p_cb ?_ | refine p_andM ?_ | refine p_orM ?_ | refine p_notM ?_ | refine p_chain ?_ | refine p_andV ?_ | refine p_orV ?_ | refine p_notV ?_ | refine p_ifM ?_ | refine p_tup ?_ | refine p_lst ?_ | refine p_call ?_ | refine p_callK ?_ | refine ⟨⟨⟨rfl, rfl⟩, rfl, rfl⟩, ⟨rfl, rfl⟩, ?_⟩ | refine p_setB ?_ | refine p_sl ?_ | refine p_osome ?_ | refine p_onone ?_ | refine p_snil ?_ | refine p_sexpr ?_ | refine p_retN ?_ | refine p_par ?_ | refine p_sh ?_ | refine p_brt rfl ?_ | refine p_brf rfl ?_ | refine ⟨_, rfl, ?_⟩ | refine ⟨⟨rfl, rfl⟩, ?_⟩ | refine ⟨⟨rfl, Nat.le_of_ble_eq_true rfl⟩, ?_⟩ | refine ⟨_, _, _, _, rfl, hn, rfl, rfl, ?_⟩ | (refine ⟨_, _, rfl, ⟨rfl, rfl⟩, ?_⟩; try dsimp only [wipeE, List.set_cons_succ, List.set_cons_zero]) | (refine ⟨rfl, ?_⟩; try dsimp only [wipeE, List.set_cons_succ, List.set_cons_zero])))
    refine p_spec (of_str hn bb (by rw [abc_len]; decide) (by rw [abc_len]; decide)) fun v h' z => ?_
    obtain ⟨⟨c, hc, rfl⟩, b2⟩ := z
    exact ⟨rfl, rfl, ⟨cs ++ [c], by rw [List.map_append]; rfl, by rw [List.length_append, hl]; rfl, hlt.app fun x hx => by simp at hx; rw [hx]; exact hc⟩, b2⟩
  · obtain ⟨⟨cs, rfl, hl, hlt⟩, bb⟩ := i
    have h7 : cs.length ≤ 7 := by rw [hl, List.length_map, List.length_range]; omega
    (repeat (first | refine p_var rfl ?_ | refine p_c ?_ | refine p_bin ?_ | refine p_cons ?_ | refine p_nil ?_ | refine p_seq ?_ | refine p_asg ?_ | refine p_sif ?_ | refine p_ret ?_ | refine p_bM ?_ | refine p_tM ?_ | refine p_cb ?_ | refine p_andM ?_ | refine p_orM ?_ | refine p_notM ?_ | refine p_chain ?_ | refine p_andV ?_ | refine p_orV ?_ | refine p_notV ?_ | refine p_ifM ?_ | refine p_tup ?_ | refine p_lst ?_ | refine p_call ?_ | refine p_callK ?_ | refine ⟨⟨⟨rfl, rfl⟩, rfl, rfl⟩, ⟨rfl, rfl⟩, ?_⟩ | refine p_setB ?_ | refine p_sl ?_ | refine p_osome ?_ | refine p_onone ?_ | refine p_snil ?_ | refine p_sexpr ?_ | refine p_retN ?_ | refine p_par ?_ | refine p_sh ?_ | refine p_brt rfl ?_ | refine p_brf rfl ?_ | refine ⟨_, rfl, ?_⟩ | refine ⟨⟨rfl, rfl⟩, ?_⟩ | refine ⟨⟨rfl, Nat.le_of_ble_eq_true rfl⟩, ?_⟩ | refine ⟨_, _, _, _, rfl, hn, rfl, rfl, ?_⟩ | (refine ⟨_, _, rfl, ⟨rfl, rfl⟩, ?_⟩; try dsimp only [wipeE, List.set_cons_succ, List.set_cons_zero]) | (refine ⟨rfl, ?_⟩; try dsimp only [wipeE, List.set_cons_succ, List.set_cons_zero]) | refine ⟨_, mJoin_ones (by omega) (fun c hc => abc_lt c (hlt c hc)), ?_⟩))
    refine p_asgT ?_
    (repeat (first | refine p_var rfl ?_ | refine p_c ?_ | refine p_bin ?_ | refine p_cons ?_ | refine p_nil ?_ | refine p_seq ?_ | refine p_asg ?_ | refine p_sif ?_ | refine p_ret ?_ | refine p_bM ?_ | refine p_tM ?_ | refine p_cb ?_ | refine p_andM ?_ | refine p_orM ?_ | refine p_notM ?_ | refine p_chain ?_ | refine p_andV ?_ | refine p_orV ?_ | refine p_notV ?_ | refine p_ifM ?_ | refine p_tup ?_ | refine p_lst ?_ | refine p_call ?_ | refine p_callK ?_ | refine ⟨⟨⟨rfl, rfl⟩, rfl, rfl⟩, ⟨rfl, rfl⟩, ?_⟩ | refine p_setB ?_ | refine p_sl ?_ | refine p_osome ?_ | refine p_onone ?_ | refine p_snil ?_ | refine p_sexpr ?_ | refine p_retN ?_ | refine p_par ?_ | refine p_sh ?_ | refine p_brt rfl ?_ | refine p_brf rfl ?_ | refine ⟨_, rfl, ?_⟩ | refine ⟨⟨rfl, rfl⟩, ?_⟩ | refine ⟨⟨rfl, Nat.le_of_ble_eq_true rfl⟩, ?_⟩ | refine ⟨_, _, _, _, rfl, hn, rfl, rfl, ?_⟩ | (refine ⟨_, _, rfl, ⟨rfl, rfl⟩, ?_⟩; try dsimp only [wipeE, List.set_cons_succ, List.set_cons_zero]) | (refine ⟨rfl, ?_⟩; try dsimp only [wipeE, List.set_cons_succ, List.set_cons_zero])))
    refine p_spec (draw_at hn bb (by omega) (by rw [mkS_len]; omega)) fun v h' z => ?_
    obtain ⟨⟨a, rfl, a0, a1⟩, b2⟩ := z
    (repeat (first | refine p_var rfl ?_ | refine p_c ?_ | refine p_bin ?_ | refine p_cons ?_ | refine p_nil ?_ | refine p_seq ?_ | refine p_asg ?_ | refine p_sif ?_ | refine p_ret ?_ | refine p_bM ?_ | refine p_tM ?_ | refine p_cb ?_ | refine p_andM ?_ | refine p_orM ?_ | refine p_notM ?_ | refine p_chain ?_ | refine p_andV ?_ | refine p_orV ?_ | refine p_notV ?_ | refine p_ifM ?_ | refine p_tup ?_ | refine p_lst ?_ | refine p_call ?_ | refine p_callK ?_ | refine ⟨⟨⟨rfl, rfl⟩, rfl, rfl⟩, ⟨rfl, rfl⟩, ?_⟩ | refine p_setB ?_ | refine p_sl ?_ | refine p_osome ?_ | refine p_onone ?_ | refine p_snil ?_ | refine p_sexpr ?_ | refine p_retN ?_ | refine p_par ?_ | refine p_sh ?_ | refine p_brt rfl ?_ | refine p_brf rfl ?_ | refine ⟨_, rfl, ?_⟩ | refine ⟨⟨rfl, rfl⟩, ?_⟩ | refine ⟨⟨rfl, Nat.le_of_ble_eq_true rfl⟩, ?_⟩ | refine ⟨_, _, _, _, rfl, hn, rfl, rfl, ?_⟩ | (refine ⟨_, _, rfl, ⟨rfl, rfl⟩, ?_⟩; try dsimp only [wipeE, List.set_cons_succ, List.set_cons_zero]) | (refine ⟨rfl, ?_⟩; try dsimp only [wipeE, List.set_cons_succ, List.set_cons_zero])))
    refine p_spec (draw_at hn b2 (by decide) (by decide)) fun v h' z => ?_
    obtain ⟨⟨g, rfl, g0, g1⟩, b3⟩ := z
    rw [mkS_len] at a1
    (repeat (first | refine p_var rfl ?_ | refine p_c ?_ | refine p_bin ?_ | refine p_cons ?_ | refine p_nil ?_ | refine p_seq ?_ | refine p_asg ?_ | refine p_sif ?_ | refine p_ret ?_ | refine p_bM ?_ | refine p_tM ?_ | refine p_cb ?_ | refine p_andM ?_ | refine p_orM ?_ | refine p_notM ?_ | refine p_chain ?_ | refine p_andV ?_ | refine p_orV ?_ | refine p_notV ?_ | refine p_ifM ?_ | refine p_tup ?_ | refine p_lst ?_ | refine p_call ?_ | refine p_callK ?_ | refine ⟨⟨⟨rfl, rfl⟩, rfl, rfl⟩, ⟨rfl, rfl⟩, ?_⟩ | refine p_setB ?_ | refine p_sl ?_ | refine p_osome ?_ | refine p_onone ?_ | refine p_snil ?_ | refine p_sexpr ?_ | refine p_retN ?_ | refine p_par ?_ | refine p_sh ?_ | refine p_brt rfl ?_ | refine p_brf rfl ?_ | refine ⟨_, rfl, ?_⟩ | refine ⟨⟨rfl, rfl⟩, ?_⟩ | refine ⟨⟨rfl, Nat.le_of_ble_eq_true rfl⟩, ?_⟩ | refine ⟨_, _, _, _, rfl, hn, rfl, rfl, ?_⟩ | (refine ⟨_, _, rfl, ⟨rfl, rfl⟩, ?_⟩; try dsimp only [wipeE, List.set_cons_succ, List.set_cons_zero]) | (refine ⟨rfl, ?_⟩; try dsimp only [wipeE, List.set_cons_succ, List.set_cons_zero])))
    refine p_compMap (p_rng1 ?_)
    (repeat (first | refine p_var rfl ?_ | refine p_c ?_ | refine p_bin ?_ | refine p_cons ?_ | refine p_nil ?_ | refine p_seq ?_ | refine p_asg ?_ | refine p_sif ?_ | refine p_ret ?_ | refine p_bM ?_ | refine p_tM ?_ | refine p_cb ?_ | refine p_andM ?_ | refine p_orM ?_ | refine p_notM ?_ | refine p_chain ?_ | refine p_andV ?_ | refine p_orV ?_ | refine p_notV ?_ | refine p_ifM ?_ | refine p_tup ?_ | refine p_lst ?_ | refine p_call ?_ | refine p_callK ?_ | refine ⟨⟨⟨rfl, rfl⟩, rfl, rfl⟩, ⟨rfl, rfl⟩, ?_⟩ | refine p_setB ?_ | refine p_sl ?_ | refine p_osome ?_ | refine p_onone ?_ | refine p_snil ?_ | refine p_sexpr ?_ | refine p_retN ?_ | refine p_par ?_ | refine p_sh ?_ | refine p_brt rfl ?_ | refine p_brf rfl ?_ | refine ⟨_, rfl, ?_⟩ | refine ⟨⟨rfl, rfl⟩, ?_⟩ | refine ⟨⟨rfl, Nat.le_of_ble_eq_true rfl⟩, ?_⟩ | refine ⟨_, _, _, _, rfl, hn, rfl, rfl, ?_⟩ | (refine ⟨_, _, rfl, ⟨rfl, rfl⟩, ?_⟩; try dsimp only [wipeE, List.set_cons_succ, List.set_cons_zero]) | (refine ⟨rfl, ?_⟩; try dsimp only [wipeE, List.set_cons_succ, List.set_cons_zero])))
    refine ⟨by decide, rfl, fun v => match v with
      | .int k => .str (mkS (cs.take a.toNat ++ [(abc.cps.toList)[((g + 9 * k).fmod 26).toNat]!] ++ cs.drop a.toNat))
      | _ => .non, fun v hv => ?_, ?_⟩
    · obtain ⟨k, _, rfl⟩ := List.mem_map.mp hv
      refine ⟨_, rfl, ?_⟩
      have c1 : cutP cs none (some a) = cs.take a.toNat := cut_to a0 (by omega)
      have c2 : cutP cs (some a) none = cs.drop a.toNat := cut_from a0 (by omega)
      have l1 : (cutP cs none (some a)).length ≤ 7 := by rw [c1, List.length_take]; omega
      have l2 : (cutP cs (some a) none).length ≤ 7 := by rw [c2, List.length_drop]; omega
      have sz : 100 ≤ sizeLine := by decide
      obtain ⟨i0, i1⟩ := fmod_lt (a := g + 9 * k) (b := 26) (by decide)
      have hi : ((g + 9 * k).fmod 26).toNat < abc.cps.toList.length := by rw [← len_eq, abc_len]; omega
      have ei : atI abc.cps.toList ((g + 9 * k).fmod 26) = some (abc.cps.toList[((g + 9 * k).fmod 26).toNat]!) := by
        unfold atI ixN
        rw [if_pos i0, if_pos (by rw [← len_eq, abc_len]; omega)]
        show abc.cps.toList[_]? = _
        rw [List.getElem?_eq_getElem hi, getElem!_pos abc.cps.toList _ hi]
      (repeat (first | refine p_var rfl ?_ | refine p_c ?_ | refine p_bin ?_ | refine p_cons ?_ | refine p_nil ?_ | refine p_seq ?_ | refine p_asg ?_ | refine p_sif ?_ | refine p_ret ?_ | refine p_bM ?_ | refine p_tM ?_ | refine p_cb ?_ | refine p_andM ?_ | refine p_orM ?_ | refine p_notM ?_ | refine p_chain ?_ | refine p_andV ?_ | refine p_orV ?_ | refine p_notV ?_ | refine p_ifM ?_ | refine p_tup ?_ | refine p_lst ?_ | refine p_call ?_ | refine p_callK ?_ | refine ⟨⟨⟨rfl, rfl⟩, rfl, rfl⟩, ⟨rfl, rfl⟩, ?_⟩ | refine p_setB ?_ | refine p_sl ?_ | refine p_osome ?_ | refine p_onone ?_ | refine p_snil ?_ | refine p_sexpr ?_ | refine p_retN ?_ | refine p_par ?_ | refine p_sh ?_ | refine p_brt rfl ?_ | refine p_brf rfl ?_ | refine ⟨_, rfl, ?_⟩ | refine ⟨⟨rfl, rfl⟩, ?_⟩ | refine ⟨⟨rfl, Nat.le_of_ble_eq_true rfl⟩, ?_⟩ | refine ⟨_, _, _, _, rfl, hn, rfl, rfl, ?_⟩ | (refine ⟨_, _, rfl, ⟨rfl, rfl⟩, ?_⟩; try dsimp only [wipeE, List.set_cons_succ, List.set_cons_zero]) | (refine ⟨rfl, ?_⟩; try dsimp only [wipeE, List.set_cons_succ, List.set_cons_zero]) | refine ⟨_, (by rw [fIx_str, ei]; rfl), ?_⟩))
      refine ⟨_, fAdd_mk (a := cutP cs none (some a)) (b := [_]) (by rw [List.length_singleton]; omega), ?_⟩
      (repeat (first | refine p_var rfl ?_ | refine p_c ?_ | refine p_bin ?_ | refine p_cons ?_ | refine p_nil ?_ | refine p_seq ?_ | refine p_asg ?_ | refine p_sif ?_ | refine p_ret ?_ | refine p_bM ?_ | refine p_tM ?_ | refine p_cb ?_ | refine p_andM ?_ | refine p_orM ?_ | refine p_notM ?_ | refine p_chain ?_ | refine p_andV ?_ | refine p_orV ?_ | refine p_notV ?_ | refine p_ifM ?_ | refine p_tup ?_ | refine p_lst ?_ | refine p_call ?_ | refine p_callK ?_ | refine ⟨⟨⟨rfl, rfl⟩, rfl, rfl⟩, ⟨rfl, rfl⟩, ?_⟩ | refine p_setB ?_ | refine p_sl ?_ | refine p_osome ?_ | refine p_onone ?_ | refine p_snil ?_ | refine p_sexpr ?_ | refine p_retN ?_ | refine p_par ?_ | refine p_sh ?_ | refine p_brt rfl ?_ | refine p_brf rfl ?_ | refine ⟨_, rfl, ?_⟩ | refine ⟨⟨rfl, rfl⟩, ?_⟩ | refine ⟨⟨rfl, Nat.le_of_ble_eq_true rfl⟩, ?_⟩ | refine ⟨_, _, _, _, rfl, hn, rfl, rfl, ?_⟩ | (refine ⟨_, _, rfl, ⟨rfl, rfl⟩, ?_⟩; try dsimp only [wipeE, List.set_cons_succ, List.set_cons_zero]) | (refine ⟨rfl, ?_⟩; try dsimp only [wipeE, List.set_cons_succ, List.set_cons_zero])))
      refine ⟨_, fAdd_mk (a := cutP cs none (some a) ++ [_]) (b := cutP cs (some a) none) (by rw [List.length_append, List.length_singleton]; omega), ?_⟩
      refine ⟨by rw [c1, c2], rfl, rfl, rfl⟩
    · have hw : ∀ k : Int, Lt (cs.take a.toNat ++ [abc.cps.toList[((g + 9 * k).fmod 26).toNat]!] ++ cs.drop a.toNat) ∧ 1 ≤ (cs.take a.toNat ++ [abc.cps.toList[((g + 9 * k).fmod 26).toNat]!] ++ cs.drop a.toNat).length ∧
          (cs.take a.toNat ++ [abc.cps.toList[((g + 9 * k).fmod 26).toNat]!] ++ cs.drop a.toNat).length ≤ 8 := fun k => by
        obtain ⟨i0, i1⟩ := fmod_lt (a := g + 9 * k) (b := 26) (by decide)
        have hi : ((g + 9 * k).fmod 26).toNat < abc.cps.toList.length := by rw [← len_eq, abc_len]; omega
        refine ⟨Lt.app (Lt.app (fun c hc => hlt c (List.mem_of_mem_take hc)) fun c hc => ?_) fun c hc => hlt c (List.mem_of_mem_drop hc), ?_, ?_⟩
        · simp only [List.mem_singleton] at hc
          rw [hc, getElem!_pos abc.cps.toList _ hi]
          exact List.getElem_mem hi
        · simp only [List.length_append, List.length_singleton]; omega
        · simp only [List.length_append, List.length_singleton, List.length_take, List.length_drop]; omega
      exact ⟨rfl, ⟨_, _, rfl, hw _, hw _⟩, b3⟩
theorem open_spec {ns : List Int} (h63 : ns.length ≤ 63) : (m__law_open [.scr (ns.map .int)] []).post (fun v h' => v = .cel 0 ∧ BagAt [none] 0 h') NE := by
  unfold m__law_open
  rw [xe__law_open]
  unfold xb__law_open
  refine p_mkF [some (.scr (ns.map .int))] rfl (p_ret (p_cel (p_nlst ?_)))
  (repeat (first | refine p_var rfl ?_ | refine p_c ?_ | refine p_bin ?_ | refine p_cons ?_ | refine p_nil ?_ | refine p_seq ?_ | refine p_asg ?_ | refine p_sif ?_ | refine p_ret ?_ | refine p_bM ?_ | refine p_tM ?_ | refine p_cb ?_ | refine p_andM ?_ | refine p_orM ?_ | refine p_notM ?_ | refine p_chain ?_ | refine p_andV ?_ | refine p_orV ?_ | refine p_notV ?_ | refine p_ifM ?_ | refine p_tup ?_ | refine p_lst ?_ | refine p_call ?_ | refine p_callK ?_ | refine ⟨⟨⟨rfl, rfl⟩, rfl, rfl⟩, ⟨rfl, rfl⟩, ?_⟩ | refine p_setB ?_ | refine p_sl ?_ | refine p_osome ?_ | refine p_onone ?_ | refine p_snil ?_ | refine p_sexpr ?_ | refine p_retN ?_ | refine p_par ?_ | refine p_sh ?_ | refine p_brt rfl ?_ | refine p_brf rfl ?_ | refine ⟨_, rfl, ?_⟩ | refine ⟨⟨rfl, rfl⟩, ?_⟩ | refine ⟨⟨rfl, Nat.le_of_ble_eq_true rfl⟩, ?_⟩ | refine ⟨_, _, _, _, rfl, hn, rfl, rfl, ?_⟩ | (refine ⟨_, _, rfl, ⟨rfl, rfl⟩, ?_⟩; try dsimp only [wipeE, List.set_cons_succ, List.set_cons_zero]) | (refine ⟨rfl, ?_⟩; try dsimp only [wipeE, List.set_cons_succ, List.set_cons_zero])))
  have e : cutP (ns.map PV.int) none (some 63) = ns.map PV.int := by
    unfold cutP
    have e2 : HT.sIx (ns.map PV.int).length (ns.map PV.int).length (some 63) = (ns.map PV.int).length := by
      unfold HT.sIx
      simp only [List.length_map]
      split <;> omega
    rw [e2]
    have e1 : HT.sIx (ns.map PV.int).length 0 none = 0 := rfl
    rw [e1, List.drop_zero, Nat.sub_zero, List.take_length]
  exact ⟨_, ⟨ns, 0, 0, 100201, 0, by rw [e], by decide, by decide, by decide, by decide⟩, rfl⟩
/-- a key's numbers -/
def KN (x : PV) : Prop := ∃ i : Int, x = .int i ∧ 0 - 1000000000000000000 ≤ i ∧ i ≤ 1000000000000000000
theorem KN.num {x : PV} (h : KN x) : numB (0 - 1000000000000000000) 1000000000000000000 x = true := by
  obtain ⟨i, rfl, h1, h2⟩ := h
  show (decide _ && decide _) = true
  rw [decide_eq_true h1, decide_eq_true h2]; rfl
theorem KN.pl {x : PV} (h : KN x) : Pl x := by obtain ⟨i, rfl, _⟩ := h; trivial
theorem key_good {xs : List PV} (h : ∀ x ∈ xs, KN x) (h1 : 1 ≤ xs.length) (h2 : xs.length ≤ 40) : keyB (.tup xs) = true := by
  show (decide (1 ≤ (xs.length : Int)) && decide ((xs.length : Int) ≤ 40) && (xs.map (numB (0 - 1000000000000000000) 1000000000000000000)).all fun b => b) = true
  rw [decide_eq_true (by omega), decide_eq_true (by omega), Bool.true_and, Bool.true_and, List.all_eq_true]
  intro b hb
  obtain ⟨x, hx, rfl⟩ := List.mem_map.mp hb
  exact (h x hx).num
theorem key_far {a b : List PV} {v : PV} (h : numB (0 - 1000000000000000000) 1000000000000000000 v = false) : keyB (.tup (a ++ [v] ++ b)) = false := by
  show (_ && ((a ++ [v] ++ b).map (numB (0 - 1000000000000000000) 1000000000000000000)).all fun b => b) = false
  rw [List.map_append, List.map_append, List.all_append, List.all_append]
  show (_ && ((_ && (numB (0 - 1000000000000000000) 1000000000000000000 v && true)) && _)) = false
  rw [h]; simp
theorem key_long {xs : List PV} (h : 40 < xs.length) : keyB (.tup xs) = false := by
  show (decide (1 ≤ (xs.length : Int)) && decide ((xs.length : Int) ≤ 40) && (xs.map (numB (0 - 1000000000000000000) 1000000000000000000)).all fun b => b) = false
  rw [decide_eq_false (p := (xs.length : Int) ≤ 40) (by omega), Bool.and_false, Bool.false_and]
theorem exp19 (ys : List (Option PV)) (h : ys.length = 19) : ∃ y2 y3 y4 y5 y6 y7 y8 y9 y10 y11 y12 y13 y14 y15 y16 y17 y18 y19 y20, ys = [y2, y3, y4, y5, y6, y7, y8, y9, y10, y11, y12, y13, y14, y15, y16, y17, y18, y19, y20] :=
  match ys, h with
  | [y2, y3, y4, y5, y6, y7, y8, y9, y10, y11, y12, y13, y14, y15, y16, y17, y18, y19, y20], _ => ⟨y2, y3, y4, y5, y6, y7, y8, y9, y10, y11, y12, y13, y14, y15, y16, y17, y18, y19, y20, rfl⟩
def InvL (ns : List Int) (s : S) : Prop := (∃ ys : List (Option PV), ys.length = 19 ∧ s.e = some (.scr (ns.map .int)) :: some (.cel 0) :: ys) ∧ BagAt [none] 0 s.h
theorem law_true (ns : List Int) (h63 : ns.length ≤ 63) (hb : ∀ z ∈ ns, Builtin.Int.intBits z ≤ 1048576) : ∃ h', m_law [.scr (ns.map .int)] [] = .ok (.bl true) h' := by
  suffices H : (m_law [.scr (ns.map .int)] []).post (fun v h' => v = .bl true) NE by
    obtain ⟨v, h', e, rfl⟩ := p_ex H
    exact ⟨h', e⟩
  unfold m_law
  rw [xe_law]
  unfold xb_law
  rw [draw_eq, of_eq, like_eq]
  refine p_mkF (some (.scr (ns.map .int)) :: List.replicate 20 none) rfl ?_
  (repeat (first | refine p_var rfl ?_ | refine p_c ?_ | refine p_bin ?_ | refine p_cons ?_ | refine p_nil ?_ | refine p_seq ?_ | refine p_asg ?_ | refine p_sif ?_ | refine p_ret ?_ | refine p_bM ?_ | refine p_tM ?_ | refine p_cb ?_ | refine p_andM ?_ | refine p_orM ?_ | refine p_notM ?_ | refine p_chain ?_ | refine p_andV ?_ | refine p_orV ?_ | refine p_notV ?_ | refine p_ifM ?_ | refine p_tup ?_ | refine p_lst ?_ | refine p_call ?_ | refine p_callK ?_ | refine ⟨⟨⟨rfl, rfl⟩, rfl, rfl⟩, ⟨rfl, rfl⟩, ?_⟩ | refine p_setB ?_ | refine p_sl ?_ | refine p_osome ?_ | refine p_onone ?_ | refine p_snil ?_ | refine p_sexpr ?_ | refine p_retN ?_ | refine p_par ?_ | refine p_sh ?_ | refine p_brt rfl ?_ | refine p_brf rfl ?_ | refine ⟨_, rfl, ?_⟩ | refine ⟨⟨rfl, rfl⟩, ?_⟩ | refine ⟨⟨rfl, Nat.le_of_ble_eq_true rfl⟩, ?_⟩ | refine ⟨_, _, _, _, rfl, hn, rfl, rfl, ?_⟩ | (refine ⟨_, _, rfl, ⟨rfl, rfl⟩, ?_⟩; try dsimp only [wipeE, List.set_cons_succ, List.set_cons_zero]) | (refine ⟨rfl, ?_⟩; try dsimp only [wipeE, List.set_cons_succ, List.set_cons_zero])))
  refine p_spec (open_spec h63) fun v h' z => ?_
  obtain ⟨rfl, b⟩ := z
  (repeat (first | refine p_var rfl ?_ | refine p_c ?_ | refine p_bin ?_ | refine p_cons ?_ | refine p_nil ?_ | refine p_seq ?_ | refine p_asg ?_ | refine p_sif ?_ | refine p_ret ?_ | refine p_bM ?_ | refine p_tM ?_ | refine p_cb ?_ | refine p_andM ?_ | refine p_orM ?_ | refine p_notM ?_ | refine p_chain ?_ | refine p_andV ?_ | refine p_orV ?_ | refine p_notV ?_ | refine p_ifM ?_ | refine p_tup ?_ | refine p_lst ?_ | refine p_call ?_ | refine p_callK ?_ | refine ⟨⟨⟨rfl, rfl⟩, rfl, rfl⟩, ⟨rfl, rfl⟩, ?_⟩ | refine p_setB ?_ | refine p_sl ?_ | refine p_osome ?_ | refine p_onone ?_ | refine p_snil ?_ | refine p_sexpr ?_ | refine p_retN ?_ | refine p_par ?_ | refine p_sh ?_ | refine p_brt rfl ?_ | refine p_brf rfl ?_ | refine ⟨_, rfl, ?_⟩ | refine ⟨⟨rfl, rfl⟩, ?_⟩ | refine ⟨⟨rfl, Nat.le_of_ble_eq_true rfl⟩, ?_⟩ | refine ⟨_, _, _, _, rfl, hn, rfl, rfl, ?_⟩ | (refine ⟨_, _, rfl, ⟨rfl, rfl⟩, ?_⟩; try dsimp only [wipeE, List.set_cons_succ, List.set_cons_zero]) | (refine ⟨rfl, ?_⟩; try dsimp only [wipeE, List.set_cons_succ, List.set_cons_zero])))
  refine p_for (p_rng1 ?_)
  (repeat (first | refine p_var rfl ?_ | refine p_c ?_ | refine p_bin ?_ | refine p_cons ?_ | refine p_nil ?_ | refine p_seq ?_ | refine p_asg ?_ | refine p_sif ?_ | refine p_ret ?_ | refine p_bM ?_ | refine p_tM ?_ | refine p_cb ?_ | refine p_andM ?_ | refine p_orM ?_ | refine p_notM ?_ | refine p_chain ?_ | refine p_andV ?_ | refine p_orV ?_ | refine p_notV ?_ | refine p_ifM ?_ | refine p_tup ?_ | refine p_lst ?_ | refine p_call ?_ | refine p_callK ?_ | refine ⟨⟨⟨rfl, rfl⟩, rfl, rfl⟩, ⟨rfl, rfl⟩, ?_⟩ | refine p_setB ?_ | refine p_sl ?_ | refine p_osome ?_ | refine p_onone ?_ | refine p_snil ?_ | refine p_sexpr ?_ | refine p_retN ?_ | refine p_par ?_ | refine p_sh ?_ | refine p_brt rfl ?_ | refine p_brf rfl ?_ | refine ⟨_, rfl, ?_⟩ | refine ⟨⟨rfl, rfl⟩, ?_⟩ | refine ⟨⟨rfl, Nat.le_of_ble_eq_true rfl⟩, ?_⟩ | refine ⟨_, _, _, _, rfl, hn, rfl, rfl, ?_⟩ | (refine ⟨_, _, rfl, ⟨rfl, rfl⟩, ?_⟩; try dsimp only [wipeE, List.set_cons_succ, List.set_cons_zero]) | (refine ⟨rfl, ?_⟩; try dsimp only [wipeE, List.set_cons_succ, List.set_cons_zero])))
  refine ⟨by decide, rfl, rfl, by decide, p_loop (fun _ s => InvL ns s) ?_ (fun j v s e i => ?_) fun s i => ?_⟩
  · exact ⟨⟨_, by decide, rfl⟩, b⟩
  · obtain ⟨turn, _, rfl⟩ := List.mem_map.mp (List.mem_of_getElem? e)
    obtain ⟨⟨ys, hl, he⟩, bg⟩ := i
    obtain ⟨y2, y3, y4, y5, y6, y7, y8, y9, y10, y11, y12, y13, y14, y15, y16, y17, y18, y19, y20, rfl⟩ := exp19 ys hl
    obtain ⟨e0, h0⟩ := s
    simp only at he bg
    subst he
    refine ⟨_, rfl, ?_⟩
    dsimp only [List.set_cons_succ, List.set_cons_zero]
    (repeat (first | refine p_var rfl ?_ | refine p_c ?_ | refine p_bin ?_ | refine p_cons ?_ | refine p_nil ?_ | refine p_seq ?_ | refine p_asg ?_ | refine p_sif ?_ | refine p_ret ?_ | refine p_bM ?_ | refine p_tM ?_ | refine p_cb ?_ | refine p_andM ?_ | refine p_orM ?_ | refine p_notM ?_ | refine p_chain ?_ | refine p_andV ?_ | refine p_orV ?_ | refine p_notV ?_ | refine p_ifM ?_ | refine p_tup ?_ | refine p_lst ?_ | refine p_call ?_ | refine p_callK ?_ | refine ⟨⟨⟨rfl, rfl⟩, rfl, rfl⟩, ⟨rfl, rfl⟩, ?_⟩ | refine p_setB ?_ | refine p_sl ?_ | refine p_osome ?_ | refine p_onone ?_ | refine p_snil ?_ | refine p_sexpr ?_ | refine p_retN ?_ | refine p_par ?_ | refine p_sh ?_ | refine p_brt rfl ?_ | refine p_brf rfl ?_ | refine ⟨_, rfl, ?_⟩ | refine ⟨⟨rfl, rfl⟩, ?_⟩ | refine ⟨⟨rfl, Nat.le_of_ble_eq_true rfl⟩, ?_⟩ | refine ⟨_, _, _, _, rfl, hn, rfl, rfl, ?_⟩ | (refine ⟨_, _, rfl, ⟨rfl, rfl⟩, ?_⟩; try dsimp only [wipeE, List.set_cons_succ, List.set_cons_zero]) | (refine ⟨rfl, ?_⟩; try dsimp only [wipeE, List.set_cons_succ, List.set_cons_zero])))
    refine p_spec (names_spec (by decide) bg) fun v h' z => ?_
    obtain ⟨⟨x, y, rfl, hx, hy⟩, bg⟩ := z
    (repeat (first | refine p_var rfl ?_ | refine p_c ?_ | refine p_bin ?_ | refine p_cons ?_ | refine p_nil ?_ | refine p_seq ?_ | refine p_asg ?_ | refine p_sif ?_ | refine p_ret ?_ | refine p_bM ?_ | refine p_tM ?_ | refine p_cb ?_ | refine p_andM ?_ | refine p_orM ?_ | refine p_notM ?_ | refine p_chain ?_ | refine p_andV ?_ | refine p_orV ?_ | refine p_notV ?_ | refine p_ifM ?_ | refine p_tup ?_ | refine p_lst ?_ | refine p_call ?_ | refine p_callK ?_ | refine ⟨⟨⟨rfl, rfl⟩, rfl, rfl⟩, ⟨rfl, rfl⟩, ?_⟩ | refine p_setB ?_ | refine p_sl ?_ | refine p_osome ?_ | refine p_onone ?_ | refine p_snil ?_ | refine p_sexpr ?_ | refine p_retN ?_ | refine p_par ?_ | refine p_sh ?_ | refine p_brt rfl ?_ | refine p_brf rfl ?_ | refine ⟨_, rfl, ?_⟩ | refine ⟨⟨rfl, rfl⟩, ?_⟩ | refine ⟨⟨rfl, Nat.le_of_ble_eq_true rfl⟩, ?_⟩ | refine ⟨_, _, _, _, rfl, hn, rfl, rfl, ?_⟩ | (refine ⟨_, _, rfl, ⟨rfl, rfl⟩, ?_⟩; try dsimp only [wipeE, List.set_cons_succ, List.set_cons_zero]) | (refine ⟨rfl, ?_⟩; try dsimp only [wipeE, List.set_cons_succ, List.set_cons_zero])))
    refine p_spec (draw_at (by decide) bg (k := (mkS x).length + 1) (by omega) (by rw [mkS_len]; omega)) fun v h' z => ?_
    obtain ⟨⟨a, rfl, a0, a1⟩, bg⟩ := z
    rw [mkS_len] at a1
    (repeat (first | refine p_var rfl ?_ | refine p_c ?_ | refine p_bin ?_ | refine p_cons ?_ | refine p_nil ?_ | refine p_seq ?_ | refine p_asg ?_ | refine p_sif ?_ | refine p_ret ?_ | refine p_bM ?_ | refine p_tM ?_ | refine p_cb ?_ | refine p_andM ?_ | refine p_orM ?_ | refine p_notM ?_ | refine p_chain ?_ | refine p_andV ?_ | refine p_orV ?_ | refine p_notV ?_ | refine p_ifM ?_ | refine p_tup ?_ | refine p_lst ?_ | refine p_call ?_ | refine p_callK ?_ | refine ⟨⟨⟨rfl, rfl⟩, rfl, rfl⟩, ⟨rfl, rfl⟩, ?_⟩ | refine p_setB ?_ | refine p_sl ?_ | refine p_osome ?_ | refine p_onone ?_ | refine p_snil ?_ | refine p_sexpr ?_ | refine p_retN ?_ | refine p_par ?_ | refine p_sh ?_ | refine p_brt rfl ?_ | refine p_brf rfl ?_ | refine ⟨_, rfl, ?_⟩ | refine ⟨⟨rfl, rfl⟩, ?_⟩ | refine ⟨⟨rfl, Nat.le_of_ble_eq_true rfl⟩, ?_⟩ | refine ⟨_, _, _, _, rfl, hn, rfl, rfl, ?_⟩ | (refine ⟨_, _, rfl, ⟨rfl, rfl⟩, ?_⟩; try dsimp only [wipeE, List.set_cons_succ, List.set_cons_zero]) | (refine ⟨rfl, ?_⟩; try dsimp only [wipeE, List.set_cons_succ, List.set_cons_zero])))
    refine p_spec (of_lst (by decide) bg (by decide) (by decide) rfl) fun v h' z => ?_
    obtain ⟨hv, bg⟩ := z
    have hs : ∃ c, v = .str (mkS [c]) ∧ c ∉ abc.cps.toList := by
      simp only [List.mem_cons, List.not_mem_nil, or_false] at hv
      rcases hv with rfl | rfl | rfl | rfl | rfl | rfl
      · exact ⟨65, rfl, by decide +kernel⟩
      · exact ⟨49, rfl, by decide +kernel⟩
      · exact ⟨32, rfl, by decide +kernel⟩
      · exact ⟨45, rfl, by decide +kernel⟩
      · exact ⟨95, rfl, by decide +kernel⟩
      · exact ⟨10, rfl, by decide +kernel⟩
    clear hv
    obtain ⟨c, rfl, hc⟩ := hs
    have sz : 100 ≤ sizeLine := by decide
    have c1 : cutP x none (some a) = x.take a.toNat := cut_to a0 (by omega)
    have c2 : cutP x (some a) none = x.drop a.toNat := cut_from a0 (by omega)
    have l1 : (cutP x none (some a)).length ≤ 8 := by rw [c1, List.length_take]; omega
    have l2 : (cutP x (some a) none).length ≤ 8 := by rw [c2, List.length_drop]; omega
    (repeat (first | refine p_var rfl ?_ | refine p_c ?_ | refine p_bin ?_ | refine p_cons ?_ | refine p_nil ?_ | refine p_seq ?_ | refine p_asg ?_ | refine p_sif ?_ | refine p_ret ?_ | refine p_bM ?_ | refine p_tM ?_ | refine p_cb ?_ | refine p_andM ?_ | refine p_orM ?_ | refine p_notM ?_ | refine p_chain ?_ | refine p_andV ?_ | refine p_orV ?_ | refine p_notV ?_ | refine p_ifM ?_ | refine p_tup ?_ | refine p_lst ?_ | refine p_call ?_ | refine p_callK ?_ | refine ⟨⟨⟨rfl, rfl⟩, rfl, rfl⟩, ⟨rfl, rfl⟩, ?_⟩ | refine p_setB ?_ | refine p_sl ?_ | refine p_osome ?_ | refine p_onone ?_ | refine p_snil ?_ | refine p_sexpr ?_ | refine p_retN ?_ | refine p_par ?_ | refine p_sh ?_ | refine p_brt rfl ?_ | refine p_brf rfl ?_ | refine ⟨_, rfl, ?_⟩ | refine ⟨⟨rfl, rfl⟩, ?_⟩ | refine ⟨⟨rfl, Nat.le_of_ble_eq_true rfl⟩, ?_⟩ | refine ⟨_, _, _, _, rfl, hn, rfl, rfl, ?_⟩ | (refine ⟨_, _, rfl, ⟨rfl, rfl⟩, ?_⟩; try dsimp only [wipeE, List.set_cons_succ, List.set_cons_zero]) | (refine ⟨rfl, ?_⟩; try dsimp only [wipeE, List.set_cons_succ, List.set_cons_zero])))
    refine ⟨_, fAdd_mk (a := cutP x none (some a)) (b := [c]) (by rw [List.length_singleton]; omega), ?_⟩
    (repeat (first | refine p_var rfl ?_ | refine p_c ?_ | refine p_bin ?_ | refine p_cons ?_ | refine p_nil ?_ | refine p_seq ?_ | refine p_asg ?_ | refine p_sif ?_ | refine p_ret ?_ | refine p_bM ?_ | refine p_tM ?_ | refine p_cb ?_ | refine p_andM ?_ | refine p_orM ?_ | refine p_notM ?_ | refine p_chain ?_ | refine p_andV ?_ | refine p_orV ?_ | refine p_notV ?_ | refine p_ifM ?_ | refine p_tup ?_ | refine p_lst ?_ | refine p_call ?_ | refine p_callK ?_ | refine ⟨⟨⟨rfl, rfl⟩, rfl, rfl⟩, ⟨rfl, rfl⟩, ?_⟩ | refine p_setB ?_ | refine p_sl ?_ | refine p_osome ?_ | refine p_onone ?_ | refine p_snil ?_ | refine p_sexpr ?_ | refine p_retN ?_ | refine p_par ?_ | refine p_sh ?_ | refine p_brt rfl ?_ | refine p_brf rfl ?_ | refine ⟨_, rfl, ?_⟩ | refine ⟨⟨rfl, rfl⟩, ?_⟩ | refine ⟨⟨rfl, Nat.le_of_ble_eq_true rfl⟩, ?_⟩ | refine ⟨_, _, _, _, rfl, hn, rfl, rfl, ?_⟩ | (refine ⟨_, _, rfl, ⟨rfl, rfl⟩, ?_⟩; try dsimp only [wipeE, List.set_cons_succ, List.set_cons_zero]) | (refine ⟨rfl, ?_⟩; try dsimp only [wipeE, List.set_cons_succ, List.set_cons_zero])))
    refine ⟨_, fAdd_mk (a := cutP x none (some a) ++ [c]) (b := cutP x (some a) none) (by rw [List.length_append, List.length_singleton]; omega), ?_⟩
    (repeat (first | refine p_var rfl ?_ | refine p_c ?_ | refine p_bin ?_ | refine p_cons ?_ | refine p_nil ?_ | refine p_seq ?_ | refine p_asg ?_ | refine p_sif ?_ | refine p_ret ?_ | refine p_bM ?_ | refine p_tM ?_ | refine p_cb ?_ | refine p_andM ?_ | refine p_orM ?_ | refine p_notM ?_ | refine p_chain ?_ | refine p_andV ?_ | refine p_orV ?_ | refine p_notV ?_ | refine p_ifM ?_ | refine p_tup ?_ | refine p_lst ?_ | refine p_call ?_ | refine p_callK ?_ | refine ⟨⟨⟨rfl, rfl⟩, rfl, rfl⟩, ⟨rfl, rfl⟩, ?_⟩ | refine p_setB ?_ | refine p_sl ?_ | refine p_osome ?_ | refine p_onone ?_ | refine p_snil ?_ | refine p_sexpr ?_ | refine p_retN ?_ | refine p_par ?_ | refine p_sh ?_ | refine p_brt rfl ?_ | refine p_brf rfl ?_ | refine ⟨_, rfl, ?_⟩ | refine ⟨⟨rfl, rfl⟩, ?_⟩ | refine ⟨⟨rfl, Nat.le_of_ble_eq_true rfl⟩, ?_⟩ | refine ⟨_, _, _, _, rfl, hn, rfl, rfl, ?_⟩ | (refine ⟨_, _, rfl, ⟨rfl, rfl⟩, ?_⟩; try dsimp only [wipeE, List.set_cons_succ, List.set_cons_zero]) | (refine ⟨rfl, ?_⟩; try dsimp only [wipeE, List.set_cons_succ, List.set_cons_zero])))
    refine p_compMap (p_any ?_)
    (repeat (first | refine p_var rfl ?_ | refine p_c ?_ | refine p_bin ?_ | refine p_cons ?_ | refine p_nil ?_ | refine p_seq ?_ | refine p_asg ?_ | refine p_sif ?_ | refine p_ret ?_ | refine p_bM ?_ | refine p_tM ?_ | refine p_cb ?_ | refine p_andM ?_ | refine p_orM ?_ | refine p_notM ?_ | refine p_chain ?_ | refine p_andV ?_ | refine p_orV ?_ | refine p_notV ?_ | refine p_ifM ?_ | refine p_tup ?_ | refine p_lst ?_ | refine p_call ?_ | refine p_callK ?_ | refine ⟨⟨⟨rfl, rfl⟩, rfl, rfl⟩, ⟨rfl, rfl⟩, ?_⟩ | refine p_setB ?_ | refine p_sl ?_ | refine p_osome ?_ | refine p_onone ?_ | refine p_snil ?_ | refine p_sexpr ?_ | refine p_retN ?_ | refine p_par ?_ | refine p_sh ?_ | refine p_brt rfl ?_ | refine p_brf rfl ?_ | refine ⟨_, rfl, ?_⟩ | refine ⟨⟨rfl, rfl⟩, ?_⟩ | refine ⟨⟨rfl, Nat.le_of_ble_eq_true rfl⟩, ?_⟩ | refine ⟨_, _, _, _, rfl, hn, rfl, rfl, ?_⟩ | (refine ⟨_, _, rfl, ⟨rfl, rfl⟩, ?_⟩; try dsimp only [wipeE, List.set_cons_succ, List.set_cons_zero]) | (refine ⟨rfl, ?_⟩; try dsimp only [wipeE, List.set_cons_succ, List.set_cons_zero])))
    refine ⟨fun v => .bl (nameB v), fun v hv => ?_, ?_⟩
    · have pv : Pl v := pl_all (xs := [_, _, _, _, _, _, _, _, _, _, _]) rfl v hv
      refine ⟨_, if_neg (by rw [pl_own pv]; decide), ?_⟩
      (repeat (first | refine p_var rfl ?_ | refine p_c ?_ | refine p_bin ?_ | refine p_cons ?_ | refine p_nil ?_ | refine p_seq ?_ | refine p_asg ?_ | refine p_sif ?_ | refine p_ret ?_ | refine p_bM ?_ | refine p_tM ?_ | refine p_cb ?_ | refine p_andM ?_ | refine p_orM ?_ | refine p_notM ?_ | refine p_chain ?_ | refine p_andV ?_ | refine p_orV ?_ | refine p_notV ?_ | refine p_ifM ?_ | refine p_tup ?_ | refine p_lst ?_ | refine p_call ?_ | refine p_callK ?_ | refine ⟨⟨⟨rfl, rfl⟩, rfl, rfl⟩, ⟨rfl, rfl⟩, ?_⟩ | refine p_setB ?_ | refine p_sl ?_ | refine p_osome ?_ | refine p_onone ?_ | refine p_snil ?_ | refine p_sexpr ?_ | refine p_retN ?_ | refine p_par ?_ | refine p_sh ?_ | refine p_brt rfl ?_ | refine p_brf rfl ?_ | refine ⟨_, rfl, ?_⟩ | refine ⟨⟨rfl, rfl⟩, ?_⟩ | refine ⟨⟨rfl, Nat.le_of_ble_eq_true rfl⟩, ?_⟩ | refine ⟨_, _, _, _, rfl, hn, rfl, rfl, ?_⟩ | (refine ⟨_, _, rfl, ⟨rfl, rfl⟩, ?_⟩; try dsimp only [wipeE, List.set_cons_succ, List.set_cons_zero]) | (refine ⟨rfl, ?_⟩; try dsimp only [wipeE, List.set_cons_succ, List.set_cons_zero]) | refine ⟨⟨rfl, by show (!isOwn v && _) = true; rw [pl_own pv]; rfl⟩, p_spec (is_name_spec pv) fun r h' z => ?_⟩))
      obtain ⟨rfl, rfl⟩ := z
      exact ⟨rfl, rfl, rfl, rfl⟩
    (repeat (first | refine p_var rfl ?_ | refine p_c ?_ | refine p_bin ?_ | refine p_cons ?_ | refine p_nil ?_ | refine p_seq ?_ | refine p_asg ?_ | refine p_sif ?_ | refine p_ret ?_ | refine p_bM ?_ | refine p_tM ?_ | refine p_cb ?_ | refine p_andM ?_ | refine p_orM ?_ | refine p_notM ?_ | refine p_chain ?_ | refine p_andV ?_ | refine p_orV ?_ | refine p_notV ?_ | refine p_ifM ?_ | refine p_tup ?_ | refine p_lst ?_ | refine p_call ?_ | refine p_callK ?_ | refine ⟨⟨⟨rfl, rfl⟩, rfl, rfl⟩, ⟨rfl, rfl⟩, ?_⟩ | refine p_setB ?_ | refine p_sl ?_ | refine p_osome ?_ | refine p_onone ?_ | refine p_snil ?_ | refine p_sexpr ?_ | refine p_retN ?_ | refine p_par ?_ | refine p_sh ?_ | refine p_brt rfl ?_ | refine p_brf rfl ?_ | refine ⟨_, rfl, ?_⟩ | refine ⟨⟨rfl, rfl⟩, ?_⟩ | refine ⟨⟨rfl, Nat.le_of_ble_eq_true rfl⟩, ?_⟩ | refine ⟨_, _, _, _, rfl, hn, rfl, rfl, ?_⟩ | (refine ⟨_, _, rfl, ⟨rfl, rfl⟩, ?_⟩; try dsimp only [wipeE, List.set_cons_succ, List.set_cons_zero]) | (refine ⟨rfl, ?_⟩; try dsimp only [wipeE, List.set_cons_succ, List.set_cons_zero])))
    have nb : nameB (.str (mkS (cutP x none (some a) ++ [c] ++ cutP x (some a) none))) = false := by
      show ((decide (1 ≤ ((mkS (cutP x none (some a) ++ [c] ++ cutP x (some a) none)).length : Int)) && decide (((mkS (cutP x none (some a) ++ [c] ++ cutP x (some a) none)).length : Int) ≤ 8)) &&
        ((cutP x none (some a) ++ [c] ++ cutP x (some a) none).map (fun c => PV.str (mkS [c])) |>.map letB).all fun b => b) = false
      have e1 : letB (.str (mkS [c])) = false := decide_eq_false hc
      rw [List.map_append, List.map_append, List.map_append, List.map_append, List.all_append, List.all_append]
      show (_ && ((_ && (letB (.str (mkS [c])) && true)) && _)) = false
      rw [e1]
      simp
    refine p_spec (like_eqv (n := 7) (b := .lst [.bl true, .bl true, .bl true, .bl false, .bl false, .bl false, .bl false, .bl false, .bl false, .bl false, .bl false]) ?_ (dpl_of rfl)) fun v h' z => ?_
    · show PV.lst [.bl (nameB (.str (mkS x))), .bl (nameB (.str (mkS y))), .bl (nameB (.str "abcdefgh")), .bl (nameB (.str (mkS (cutP x none (some a) ++ [c] ++ cutP x (some a) none)))), .bl (nameB (.str "")), .bl (nameB (.str "abcdefghi")), .bl (nameB .non), .bl (nameB (.int 3)), .bl (nameB (.bl true)), .bl (nameB (.tup [.str "a"])), .bl (nameB (.lst [.str "a"]))] = _
      rw [nameB_mk hx.1 hx.2.1 hx.2.2, nameB_mk hy.1 hy.2.1 hy.2.2, nb, show nameB (.str "abcdefgh") = true by decide +kernel, show nameB (.str "") = false by decide +kernel, show nameB (.str "abcdefghi") = false by decide +kernel]
      rfl
    obtain ⟨rfl, rfl⟩ := z
    (repeat (first | refine p_var rfl ?_ | refine p_c ?_ | refine p_bin ?_ | refine p_cons ?_ | refine p_nil ?_ | refine p_seq ?_ | refine p_asg ?_ | refine p_sif ?_ | refine p_ret ?_ | refine p_bM ?_ | refine p_tM ?_ | refine p_cb ?_ | refine p_andM ?_ | refine p_orM ?_ | refine p_notM ?_ | refine p_chain ?_ | refine p_andV ?_ | refine p_orV ?_ | refine p_notV ?_ | refine p_ifM ?_ | refine p_tup ?_ | refine p_lst ?_ | refine p_call ?_ | refine p_callK ?_ | refine ⟨⟨⟨rfl, rfl⟩, rfl, rfl⟩, ⟨rfl, rfl⟩, ?_⟩ | refine p_setB ?_ | refine p_sl ?_ | refine p_osome ?_ | refine p_onone ?_ | refine p_snil ?_ | refine p_sexpr ?_ | refine p_retN ?_ | refine p_par ?_ | refine p_sh ?_ | refine p_brt rfl ?_ | refine p_brf rfl ?_ | refine ⟨_, rfl, ?_⟩ | refine ⟨⟨rfl, rfl⟩, ?_⟩ | refine ⟨⟨rfl, Nat.le_of_ble_eq_true rfl⟩, ?_⟩ | refine ⟨_, _, _, _, rfl, hn, rfl, rfl, ?_⟩ | (refine ⟨_, _, rfl, ⟨rfl, rfl⟩, ?_⟩; try dsimp only [wipeE, List.set_cons_succ, List.set_cons_zero]) | (refine ⟨rfl, ?_⟩; try dsimp only [wipeE, List.set_cons_succ, List.set_cons_zero])))
    refine p_spec (draw_at (by decide) bg (by decide) (by decide)) fun v h' z => ?_
    obtain ⟨⟨lo, rfl, lo0, lo1⟩, bg⟩ := z
    (repeat (first | refine p_var rfl ?_ | refine p_c ?_ | refine p_bin ?_ | refine p_cons ?_ | refine p_nil ?_ | refine p_seq ?_ | refine p_asg ?_ | refine p_sif ?_ | refine p_ret ?_ | refine p_bM ?_ | refine p_tM ?_ | refine p_cb ?_ | refine p_andM ?_ | refine p_orM ?_ | refine p_notM ?_ | refine p_chain ?_ | refine p_andV ?_ | refine p_orV ?_ | refine p_notV ?_ | refine p_ifM ?_ | refine p_tup ?_ | refine p_lst ?_ | refine p_call ?_ | refine p_callK ?_ | refine ⟨⟨⟨rfl, rfl⟩, rfl, rfl⟩, ⟨rfl, rfl⟩, ?_⟩ | refine p_setB ?_ | refine p_sl ?_ | refine p_osome ?_ | refine p_onone ?_ | refine p_snil ?_ | refine p_sexpr ?_ | refine p_retN ?_ | refine p_par ?_ | refine p_sh ?_ | refine p_brt rfl ?_ | refine p_brf rfl ?_ | refine ⟨_, rfl, ?_⟩ | refine ⟨⟨rfl, rfl⟩, ?_⟩ | refine ⟨⟨rfl, Nat.le_of_ble_eq_true rfl⟩, ?_⟩ | refine ⟨_, _, _, _, rfl, hn, rfl, rfl, ?_⟩ | (refine ⟨_, _, rfl, ⟨rfl, rfl⟩, ?_⟩; try dsimp only [wipeE, List.set_cons_succ, List.set_cons_zero]) | (refine ⟨rfl, ?_⟩; try dsimp only [wipeE, List.set_cons_succ, List.set_cons_zero])))
    refine p_spec (draw_at (by decide) bg (by decide) (by decide)) fun v h' z => ?_
    obtain ⟨⟨sz, rfl, z0, z1⟩, bg⟩ := z
    (repeat (first | refine p_var rfl ?_ | refine p_c ?_ | refine p_bin ?_ | refine p_cons ?_ | refine p_nil ?_ | refine p_seq ?_ | refine p_asg ?_ | refine p_sif ?_ | refine p_ret ?_ | refine p_bM ?_ | refine p_tM ?_ | refine p_cb ?_ | refine p_andM ?_ | refine p_orM ?_ | refine p_notM ?_ | refine p_chain ?_ | refine p_andV ?_ | refine p_orV ?_ | refine p_notV ?_ | refine p_ifM ?_ | refine p_tup ?_ | refine p_lst ?_ | refine p_call ?_ | refine p_callK ?_ | refine ⟨⟨⟨rfl, rfl⟩, rfl, rfl⟩, ⟨rfl, rfl⟩, ?_⟩ | refine p_setB ?_ | refine p_sl ?_ | refine p_osome ?_ | refine p_onone ?_ | refine p_snil ?_ | refine p_sexpr ?_ | refine p_retN ?_ | refine p_par ?_ | refine p_sh ?_ | refine p_brt rfl ?_ | refine p_brf rfl ?_ | refine ⟨_, rfl, ?_⟩ | refine ⟨⟨rfl, rfl⟩, ?_⟩ | refine ⟨⟨rfl, Nat.le_of_ble_eq_true rfl⟩, ?_⟩ | refine ⟨_, _, _, _, rfl, hn, rfl, rfl, ?_⟩ | (refine ⟨_, _, rfl, ⟨rfl, rfl⟩, ?_⟩; try dsimp only [wipeE, List.set_cons_succ, List.set_cons_zero]) | (refine ⟨rfl, ?_⟩; try dsimp only [wipeE, List.set_cons_succ, List.set_cons_zero])))
    refine p_for (p_rng2 ?_)
    (repeat (first | refine p_var rfl ?_ | refine p_c ?_ | refine p_bin ?_ | refine p_cons ?_ | refine p_nil ?_ | refine p_seq ?_ | refine p_asg ?_ | refine p_sif ?_ | refine p_ret ?_ | refine p_bM ?_ | refine p_tM ?_ | refine p_cb ?_ | refine p_andM ?_ | refine p_orM ?_ | refine p_notM ?_ | refine p_chain ?_ | refine p_andV ?_ | refine p_orV ?_ | refine p_notV ?_ | refine p_ifM ?_ | refine p_tup ?_ | refine p_lst ?_ | refine p_call ?_ | refine p_callK ?_ | refine ⟨⟨⟨rfl, rfl⟩, rfl, rfl⟩, ⟨rfl, rfl⟩, ?_⟩ | refine p_setB ?_ | refine p_sl ?_ | refine p_osome ?_ | refine p_onone ?_ | refine p_snil ?_ | refine p_sexpr ?_ | refine p_retN ?_ | refine p_par ?_ | refine p_sh ?_ | refine p_brt rfl ?_ | refine p_brf rfl ?_ | refine ⟨_, rfl, ?_⟩ | refine ⟨⟨rfl, rfl⟩, ?_⟩ | refine ⟨⟨rfl, Nat.le_of_ble_eq_true rfl⟩, ?_⟩ | refine ⟨_, _, _, _, rfl, hn, rfl, rfl, ?_⟩ | (refine ⟨_, _, rfl, ⟨rfl, rfl⟩, ?_⟩; try dsimp only [wipeE, List.set_cons_succ, List.set_cons_zero]) | (refine ⟨rfl, ?_⟩; try dsimp only [wipeE, List.set_cons_succ, List.set_cons_zero])))
    refine ⟨_, _, rfl, ⟨by omega, by omega, by omega⟩, rfl, rfl, by simp only [List.length_map, List.length_range]; omega, p_loopS (Nat.le_of_ble_eq_true rfl) (fun v hv => ⟨?_, ?_⟩) fun z => ?_⟩
    · obtain ⟨k, _, rfl⟩ := List.mem_map.mp hv; rfl
    · obtain ⟨k, _, rfl⟩ := List.mem_map.mp hv
      generalize lo - 9 - 2 + (k : Int) = w
      (repeat (first | refine p_var rfl ?_ | refine p_c ?_ | refine p_bin ?_ | refine p_cons ?_ | refine p_nil ?_ | refine p_seq ?_ | refine p_asg ?_ | refine p_sif ?_ | refine p_ret ?_ | refine p_bM ?_ | refine p_tM ?_ | refine p_cb ?_ | refine p_andM ?_ | refine p_orM ?_ | refine p_notM ?_ | refine p_chain ?_ | refine p_andV ?_ | refine p_orV ?_ | refine p_notV ?_ | refine p_ifM ?_ | refine p_tup ?_ | refine p_lst ?_ | refine p_call ?_ | refine p_callK ?_ | refine ⟨⟨⟨rfl, rfl⟩, rfl, rfl⟩, ⟨rfl, rfl⟩, ?_⟩ | refine p_setB ?_ | refine p_sl ?_ | refine p_osome ?_ | refine p_onone ?_ | refine p_snil ?_ | refine p_sexpr ?_ | refine p_retN ?_ | refine p_par ?_ | refine p_sh ?_ | refine p_brt rfl ?_ | refine p_brf rfl ?_ | refine ⟨_, rfl, ?_⟩ | refine ⟨⟨rfl, rfl⟩, ?_⟩ | refine ⟨⟨rfl, Nat.le_of_ble_eq_true rfl⟩, ?_⟩ | refine ⟨_, _, _, _, rfl, hn, rfl, rfl, ?_⟩ | (refine ⟨_, _, rfl, ⟨rfl, rfl⟩, ?_⟩; try dsimp only [wipeE, List.set_cons_succ, List.set_cons_zero]) | (refine ⟨rfl, ?_⟩; try dsimp only [wipeE, List.set_cons_succ, List.set_cons_zero])))
      refine p_spec (is_number_spec (v := .int w) trivial) fun r h' z => ?_
      obtain ⟨rfl, rfl⟩ := z
      (repeat (first | refine p_var rfl ?_ | refine p_c ?_ | refine p_bin ?_ | refine p_cons ?_ | refine p_nil ?_ | refine p_seq ?_ | refine p_asg ?_ | refine p_sif ?_ | refine p_ret ?_ | refine p_bM ?_ | refine p_tM ?_ | refine p_cb ?_ | refine p_andM ?_ | refine p_orM ?_ | refine p_notM ?_ | refine p_chain ?_ | refine p_andV ?_ | refine p_orV ?_ | refine p_notV ?_ | refine p_ifM ?_ | refine p_tup ?_ | refine p_lst ?_ | refine p_call ?_ | refine p_callK ?_ | refine ⟨⟨⟨rfl, rfl⟩, rfl, rfl⟩, ⟨rfl, rfl⟩, ?_⟩ | refine p_setB ?_ | refine p_sl ?_ | refine p_osome ?_ | refine p_onone ?_ | refine p_snil ?_ | refine p_sexpr ?_ | refine p_retN ?_ | refine p_par ?_ | refine p_sh ?_ | refine p_brt rfl ?_ | refine p_brf rfl ?_ | refine ⟨_, rfl, ?_⟩ | refine ⟨⟨rfl, rfl⟩, ?_⟩ | refine ⟨⟨rfl, Nat.le_of_ble_eq_true rfl⟩, ?_⟩ | refine ⟨_, _, _, _, rfl, hn, rfl, rfl, ?_⟩ | (refine ⟨_, _, rfl, ⟨rfl, rfl⟩, ?_⟩; try dsimp only [wipeE, List.set_cons_succ, List.set_cons_zero]) | (refine ⟨rfl, ?_⟩; try dsimp only [wipeE, List.set_cons_succ, List.set_cons_zero])))
      refine p_br (fun g1 => ?_) fun g1 => ?_
      · (repeat (first | refine p_var rfl ?_ | refine p_c ?_ | refine p_bin ?_ | refine p_cons ?_ | refine p_nil ?_ | refine p_seq ?_ | refine p_asg ?_ | refine p_sif ?_ | refine p_ret ?_ | refine p_bM ?_ | refine p_tM ?_ | refine p_cb ?_ | refine p_andM ?_ | refine p_orM ?_ | refine p_notM ?_ | refine p_chain ?_ | refine p_andV ?_ | refine p_orV ?_ | refine p_notV ?_ | refine p_ifM ?_ | refine p_tup ?_ | refine p_lst ?_ | refine p_call ?_ | refine p_callK ?_ | refine ⟨⟨⟨rfl, rfl⟩, rfl, rfl⟩, ⟨rfl, rfl⟩, ?_⟩ | refine p_setB ?_ | refine p_sl ?_ | refine p_osome ?_ | refine p_onone ?_ | refine p_snil ?_ | refine p_sexpr ?_ | refine p_retN ?_ | refine p_par ?_ | refine p_sh ?_ | refine p_brt rfl ?_ | refine p_brf rfl ?_ | refine ⟨_, rfl, ?_⟩ | refine ⟨⟨rfl, rfl⟩, ?_⟩ | refine ⟨⟨rfl, Nat.le_of_ble_eq_true rfl⟩, ?_⟩ | refine ⟨_, _, _, _, rfl, hn, rfl, rfl, ?_⟩ | (refine ⟨_, _, rfl, ⟨rfl, rfl⟩, ?_⟩; try dsimp only [wipeE, List.set_cons_succ, List.set_cons_zero]) | (refine ⟨rfl, ?_⟩; try dsimp only [wipeE, List.set_cons_succ, List.set_cons_zero])))
        refine p_spec (like_eqv (n := 7) (b := .bl (decide (w ≤ lo - 9 + sz))) ?_ (dpl_of rfl)) fun v h' z => ?_
        · have g1 : decide (lo - 9 ≤ w) = true := g1
          show PV.bl (decide (lo - 9 ≤ w) && decide (w ≤ lo - 9 + sz)) = _
          rw [g1, Bool.true_and]
        obtain ⟨rfl, rfl⟩ := z
        (repeat (first | refine p_var rfl ?_ | refine p_c ?_ | refine p_bin ?_ | refine p_cons ?_ | refine p_nil ?_ | refine p_seq ?_ | refine p_asg ?_ | refine p_sif ?_ | refine p_ret ?_ | refine p_bM ?_ | refine p_tM ?_ | refine p_cb ?_ | refine p_andM ?_ | refine p_orM ?_ | refine p_notM ?_ | refine p_chain ?_ | refine p_andV ?_ | refine p_orV ?_ | refine p_notV ?_ | refine p_ifM ?_ | refine p_tup ?_ | refine p_lst ?_ | refine p_call ?_ | refine p_callK ?_ | refine ⟨⟨⟨rfl, rfl⟩, rfl, rfl⟩, ⟨rfl, rfl⟩, ?_⟩ | refine p_setB ?_ | refine p_sl ?_ | refine p_osome ?_ | refine p_onone ?_ | refine p_snil ?_ | refine p_sexpr ?_ | refine p_retN ?_ | refine p_par ?_ | refine p_sh ?_ | refine p_brt rfl ?_ | refine p_brf rfl ?_ | refine ⟨_, rfl, ?_⟩ | refine ⟨⟨rfl, rfl⟩, ?_⟩ | refine ⟨⟨rfl, Nat.le_of_ble_eq_true rfl⟩, ?_⟩ | refine ⟨_, _, _, _, rfl, hn, rfl, rfl, ?_⟩ | (refine ⟨_, _, rfl, ⟨rfl, rfl⟩, ?_⟩; try dsimp only [wipeE, List.set_cons_succ, List.set_cons_zero]) | (refine ⟨rfl, ?_⟩; try dsimp only [wipeE, List.set_cons_succ, List.set_cons_zero])))
      · (repeat (first | refine p_var rfl ?_ | refine p_c ?_ | refine p_bin ?_ | refine p_cons ?_ | refine p_nil ?_ | refine p_seq ?_ | refine p_asg ?_ | refine p_sif ?_ | refine p_ret ?_ | refine p_bM ?_ | refine p_tM ?_ | refine p_cb ?_ | refine p_andM ?_ | refine p_orM ?_ | refine p_notM ?_ | refine p_chain ?_ | refine p_andV ?_ | refine p_orV ?_ | refine p_notV ?_ | refine p_ifM ?_ | refine p_tup ?_ | refine p_lst ?_ | refine p_call ?_ | refine p_callK ?_ | refine ⟨⟨⟨rfl, rfl⟩, rfl, rfl⟩, ⟨rfl, rfl⟩, ?_⟩ | refine p_setB ?_ | refine p_sl ?_ | refine p_osome ?_ | refine p_onone ?_ | refine p_snil ?_ | refine p_sexpr ?_ | refine p_retN ?_ | refine p_par ?_ | refine p_sh ?_ | refine p_brt rfl ?_ | refine p_brf rfl ?_ | refine ⟨_, rfl, ?_⟩ | refine ⟨⟨rfl, rfl⟩, ?_⟩ | refine ⟨⟨rfl, Nat.le_of_ble_eq_true rfl⟩, ?_⟩ | refine ⟨_, _, _, _, rfl, hn, rfl, rfl, ?_⟩ | (refine ⟨_, _, rfl, ⟨rfl, rfl⟩, ?_⟩; try dsimp only [wipeE, List.set_cons_succ, List.set_cons_zero]) | (refine ⟨rfl, ?_⟩; try dsimp only [wipeE, List.set_cons_succ, List.set_cons_zero])))
        refine p_spec (like_eqv (n := 7) (b := .bl false) ?_ (dpl_of rfl)) fun v h' z => ?_
        · have g1 : decide (lo - 9 ≤ w) = false := g1
          show PV.bl (decide (lo - 9 ≤ w) && decide (w ≤ lo - 9 + sz)) = _
          rw [g1, Bool.false_and]
        obtain ⟨rfl, rfl⟩ := z
        (repeat (first | refine p_var rfl ?_ | refine p_c ?_ | refine p_bin ?_ | refine p_cons ?_ | refine p_nil ?_ | refine p_seq ?_ | refine p_asg ?_ | refine p_sif ?_ | refine p_ret ?_ | refine p_bM ?_ | refine p_tM ?_ | refine p_cb ?_ | refine p_andM ?_ | refine p_orM ?_ | refine p_notM ?_ | refine p_chain ?_ | refine p_andV ?_ | refine p_orV ?_ | refine p_notV ?_ | refine p_ifM ?_ | refine p_tup ?_ | refine p_lst ?_ | refine p_call ?_ | refine p_callK ?_ | refine ⟨⟨⟨rfl, rfl⟩, rfl, rfl⟩, ⟨rfl, rfl⟩, ?_⟩ | refine p_setB ?_ | refine p_sl ?_ | refine p_osome ?_ | refine p_onone ?_ | refine p_snil ?_ | refine p_sexpr ?_ | refine p_retN ?_ | refine p_par ?_ | refine p_sh ?_ | refine p_brt rfl ?_ | refine p_brf rfl ?_ | refine ⟨_, rfl, ?_⟩ | refine ⟨⟨rfl, rfl⟩, ?_⟩ | refine ⟨⟨rfl, Nat.le_of_ble_eq_true rfl⟩, ?_⟩ | refine ⟨_, _, _, _, rfl, hn, rfl, rfl, ?_⟩ | (refine ⟨_, _, rfl, ⟨rfl, rfl⟩, ?_⟩; try dsimp only [wipeE, List.set_cons_succ, List.set_cons_zero]) | (refine ⟨rfl, ?_⟩; try dsimp only [wipeE, List.set_cons_succ, List.set_cons_zero])))
    dsimp only [List.set_cons_succ, List.set_cons_zero]
    (repeat (first | refine p_var rfl ?_ | refine p_c ?_ | refine p_bin ?_ | refine p_cons ?_ | refine p_nil ?_ | refine p_seq ?_ | refine p_asg ?_ | refine p_sif ?_ | refine p_ret ?_ | refine p_bM ?_ | refine p_tM ?_ | refine p_cb ?_ | refine p_andM ?_ | refine p_orM ?_ | refine p_notM ?_ | refine p_chain ?_ | refine p_andV ?_ | refine p_orV ?_ | refine p_notV ?_ | refine p_ifM ?_ | refine p_tup ?_ | refine p_lst ?_ | refine p_call ?_ | refine p_callK ?_ | refine ⟨⟨⟨rfl, rfl⟩, rfl, rfl⟩, ⟨rfl, rfl⟩, ?_⟩ | refine p_setB ?_ | refine p_sl ?_ | refine p_osome ?_ | refine p_onone ?_ | refine p_snil ?_ | refine p_sexpr ?_ | refine p_retN ?_ | refine p_par ?_ | refine p_sh ?_ | refine p_brt rfl ?_ | refine p_brf rfl ?_ | refine ⟨_, rfl, ?_⟩ | refine ⟨⟨rfl, rfl⟩, ?_⟩ | refine ⟨⟨rfl, Nat.le_of_ble_eq_true rfl⟩, ?_⟩ | refine ⟨_, _, _, _, rfl, hn, rfl, rfl, ?_⟩ | (refine ⟨_, _, rfl, ⟨rfl, rfl⟩, ?_⟩; try dsimp only [wipeE, List.set_cons_succ, List.set_cons_zero]) | (refine ⟨rfl, ?_⟩; try dsimp only [wipeE, List.set_cons_succ, List.set_cons_zero])))
    refine p_spec (of_lst (by decide) bg (by decide) (by decide) rfl) fun odd h' z => ?_
    obtain ⟨hv, bg⟩ := z
    have ho : ∃ q : Bool, keyB odd = q ∧ (∀ h, fEq h odd (.tup [.int 1]) = some (.bl q)) ∧ numB 0 9 odd = false ∧ plB odd = true ∧ (∀ xs, odd = .tup xs → ∀ x ∈ xs, Pl x) := by
      simp only [List.mem_cons, List.not_mem_nil, or_false] at hv
      rcases hv with rfl | rfl | rfl | rfl | rfl | rfl
      · exact ⟨false, rfl, fun _ => rfl, rfl, rfl, fun _ z => by cases z⟩
      · exact ⟨false, rfl, fun _ => rfl, rfl, rfl, fun _ z => by cases z⟩
      · exact ⟨false, rfl, fun _ => rfl, rfl, rfl, fun _ z => by cases z⟩
      · exact ⟨false, rfl, fun _ => rfl, rfl, rfl, fun _ z => by cases z⟩
      · exact ⟨true, rfl, fun _ => rfl, rfl, rfl, fun _ z => by cases z; exact pl_all rfl⟩
      · exact ⟨false, rfl, fun _ => rfl, rfl, rfl, fun _ z => by cases z⟩
    clear hv
    obtain ⟨q, o1, o2, o3, o4, o5⟩ := ho
    have po := pl_of o4
    (repeat (first | refine p_var rfl ?_ | refine p_c ?_ | refine p_bin ?_ | refine p_cons ?_ | refine p_nil ?_ | refine p_seq ?_ | refine p_asg ?_ | refine p_sif ?_ | refine p_ret ?_ | refine p_bM ?_ | refine p_tM ?_ | refine p_cb ?_ | refine p_andM ?_ | refine p_orM ?_ | refine p_notM ?_ | refine p_chain ?_ | refine p_andV ?_ | refine p_orV ?_ | refine p_notV ?_ | refine p_ifM ?_ | refine p_tup ?_ | refine p_lst ?_ | refine p_call ?_ | refine p_callK ?_ | refine ⟨⟨⟨rfl, rfl⟩, rfl, rfl⟩, ⟨rfl, rfl⟩, ?_⟩ | refine p_setB ?_ | refine p_sl ?_ | refine p_osome ?_ | refine p_onone ?_ | refine p_snil ?_ | refine p_sexpr ?_ | refine p_retN ?_ | refine p_par ?_ | refine p_sh ?_ | refine p_brt rfl ?_ | refine p_brf rfl ?_ | refine ⟨_, rfl, ?_⟩ | refine ⟨⟨rfl, rfl⟩, ?_⟩ | refine ⟨⟨rfl, Nat.le_of_ble_eq_true rfl⟩, ?_⟩ | refine ⟨_, _, _, _, rfl, hn, rfl, rfl, ?_⟩ | (refine ⟨_, _, rfl, ⟨rfl, rfl⟩, ?_⟩; try dsimp only [wipeE, List.set_cons_succ, List.set_cons_zero]) | (refine ⟨rfl, ?_⟩; try dsimp only [wipeE, List.set_cons_succ, List.set_cons_zero]) | (refine ⟨pl_own po, ?_⟩; try dsimp only [wipeE, List.set_cons_succ, List.set_cons_zero])))
    refine p_asgT ?_
    (repeat (first | refine p_var rfl ?_ | refine p_c ?_ | refine p_bin ?_ | refine p_cons ?_ | refine p_nil ?_ | refine p_seq ?_ | refine p_asg ?_ | refine p_sif ?_ | refine p_ret ?_ | refine p_bM ?_ | refine p_tM ?_ | refine p_cb ?_ | refine p_andM ?_ | refine p_orM ?_ | refine p_notM ?_ | refine p_chain ?_ | refine p_andV ?_ | refine p_orV ?_ | refine p_notV ?_ | refine p_ifM ?_ | refine p_tup ?_ | refine p_lst ?_ | refine p_call ?_ | refine p_callK ?_ | refine ⟨⟨⟨rfl, rfl⟩, rfl, rfl⟩, ⟨rfl, rfl⟩, ?_⟩ | refine p_setB ?_ | refine p_sl ?_ | refine p_osome ?_ | refine p_onone ?_ | refine p_snil ?_ | refine p_sexpr ?_ | refine p_retN ?_ | refine p_par ?_ | refine p_sh ?_ | refine p_brt rfl ?_ | refine p_brf rfl ?_ | refine ⟨_, rfl, ?_⟩ | refine ⟨⟨rfl, rfl⟩, ?_⟩ | refine ⟨⟨rfl, Nat.le_of_ble_eq_true rfl⟩, ?_⟩ | refine ⟨_, _, _, _, rfl, hn, rfl, rfl, ?_⟩ | (refine ⟨_, _, rfl, ⟨rfl, rfl⟩, ?_⟩; try dsimp only [wipeE, List.set_cons_succ, List.set_cons_zero]) | (refine ⟨rfl, ?_⟩; try dsimp only [wipeE, List.set_cons_succ, List.set_cons_zero])))
    refine p_spec (draw_at (by decide) bg (by decide) (by decide)) fun v h' z => ?_
    obtain ⟨⟨many, rfl, m0, m1⟩, bg⟩ := z
    (repeat (first | refine p_var rfl ?_ | refine p_c ?_ | refine p_bin ?_ | refine p_cons ?_ | refine p_nil ?_ | refine p_seq ?_ | refine p_asg ?_ | refine p_sif ?_ | refine p_ret ?_ | refine p_bM ?_ | refine p_tM ?_ | refine p_cb ?_ | refine p_andM ?_ | refine p_orM ?_ | refine p_notM ?_ | refine p_chain ?_ | refine p_andV ?_ | refine p_orV ?_ | refine p_notV ?_ | refine p_ifM ?_ | refine p_tup ?_ | refine p_lst ?_ | refine p_call ?_ | refine p_callK ?_ | refine ⟨⟨⟨rfl, rfl⟩, rfl, rfl⟩, ⟨rfl, rfl⟩, ?_⟩ | refine p_setB ?_ | refine p_sl ?_ | refine p_osome ?_ | refine p_onone ?_ | refine p_snil ?_ | refine p_sexpr ?_ | refine p_retN ?_ | refine p_par ?_ | refine p_sh ?_ | refine p_brt rfl ?_ | refine p_brf rfl ?_ | refine ⟨_, rfl, ?_⟩ | refine ⟨⟨rfl, rfl⟩, ?_⟩ | refine ⟨⟨rfl, Nat.le_of_ble_eq_true rfl⟩, ?_⟩ | refine ⟨_, _, _, _, rfl, hn, rfl, rfl, ?_⟩ | (refine ⟨_, _, rfl, ⟨rfl, rfl⟩, ?_⟩; try dsimp only [wipeE, List.set_cons_succ, List.set_cons_zero]) | (refine ⟨rfl, ?_⟩; try dsimp only [wipeE, List.set_cons_succ, List.set_cons_zero])))
    refine p_compN (p_rng1 ?_)
    (repeat (first | refine p_var rfl ?_ | refine p_c ?_ | refine p_bin ?_ | refine p_cons ?_ | refine p_nil ?_ | refine p_seq ?_ | refine p_asg ?_ | refine p_sif ?_ | refine p_ret ?_ | refine p_bM ?_ | refine p_tM ?_ | refine p_cb ?_ | refine p_andM ?_ | refine p_orM ?_ | refine p_notM ?_ | refine p_chain ?_ | refine p_andV ?_ | refine p_orV ?_ | refine p_notV ?_ | refine p_ifM ?_ | refine p_tup ?_ | refine p_lst ?_ | refine p_call ?_ | refine p_callK ?_ | refine ⟨⟨⟨rfl, rfl⟩, rfl, rfl⟩, ⟨rfl, rfl⟩, ?_⟩ | refine p_setB ?_ | refine p_sl ?_ | refine p_osome ?_ | refine p_onone ?_ | refine p_snil ?_ | refine p_sexpr ?_ | refine p_retN ?_ | refine p_par ?_ | refine p_sh ?_ | refine p_brt rfl ?_ | refine p_brf rfl ?_ | refine ⟨_, rfl, ?_⟩ | refine ⟨⟨rfl, rfl⟩, ?_⟩ | refine ⟨⟨rfl, Nat.le_of_ble_eq_true rfl⟩, ?_⟩ | refine ⟨_, _, _, _, rfl, hn, rfl, rfl, ?_⟩ | (refine ⟨_, _, rfl, ⟨rfl, rfl⟩, ?_⟩; try dsimp only [wipeE, List.set_cons_succ, List.set_cons_zero]) | (refine ⟨rfl, ?_⟩; try dsimp only [wipeE, List.set_cons_succ, List.set_cons_zero])))
    refine ⟨by omega, rfl, fun j acc hh => (acc.length = j ∧ ∀ x ∈ acc, KN x) ∧ BagAt [none] 0 hh, ⟨⟨rfl, fun x hx => by cases hx⟩, bg⟩, fun j v acc hh e i => ?_, fun acc hh i => ?_⟩
    · obtain ⟨k, _, rfl⟩ := List.mem_map.mp (List.mem_of_getElem? e)
      obtain ⟨⟨hl, hk⟩, bb⟩ := i
      refine ⟨_, rfl, p_ok (p_brt rfl ?_)⟩
      (repeat (first | refine p_var rfl ?_ | refine p_c ?_ | refine p_bin ?_ | refine p_cons ?_ | refine p_nil ?_ | refine p_seq ?_ | refine p_asg ?_ | refine p_sif ?_ | refine p_ret ?_ | refine p_bM ?_ | refine p_tM ?_ | refine p_cb ?_ | refine p_andM ?_ | refine p_orM ?_ | refine p_notM ?_ | refine p_chain ?_ | refine p_andV ?_ | refine p_orV ?_ | refine p_notV ?_ | refine p_ifM ?_ | refine p_tup ?_ | refine p_lst ?_ | refine p_call ?_ | refine p_callK ?_ | refine ⟨⟨⟨rfl, rfl⟩, rfl, rfl⟩, ⟨rfl, rfl⟩, ?_⟩ | refine p_setB ?_ | refine p_sl ?_ | refine p_osome ?_ | refine p_onone ?_ | refine p_snil ?_ | refine p_sexpr ?_ | refine p_retN ?_ | refine p_par ?_ | refine p_sh ?_ | refine p_brt rfl ?_ | refine p_brf rfl ?_ | refine ⟨_, rfl, ?_⟩ | refine ⟨⟨rfl, rfl⟩, ?_⟩ | refine ⟨⟨rfl, Nat.le_of_ble_eq_true rfl⟩, ?_⟩ | refine ⟨_, _, _, _, rfl, hn, rfl, rfl, ?_⟩ | (refine ⟨_, _, rfl, ⟨rfl, rfl⟩, ?_⟩; try dsimp only [wipeE, List.set_cons_succ, List.set_cons_zero]) | (refine ⟨rfl, ?_⟩; try dsimp only [wipeE, List.set_cons_succ, List.set_cons_zero])))
      refine p_spec (of_lst (by decide) bb (by decide) (by decide) rfl) fun v h' z => ?_
      obtain ⟨hv, b2⟩ := z
      have kv : KN v := by
        simp only [List.mem_cons, List.not_mem_nil, or_false] at hv
        rcases hv with rfl | rfl | rfl | rfl | rfl
        · exact ⟨0, rfl, by decide, by decide⟩
        · exact ⟨1, rfl, by decide, by decide⟩
        · exact ⟨_, rfl, by decide, by decide⟩
        · exact ⟨_, rfl, by decide, by decide⟩
        · exact ⟨_, rfl, by decide, by decide⟩
      exact ⟨pl_own kv.pl, rfl, ⟨by rw [List.length_append, hl]; rfl, fun x hx => by
        rcases List.mem_append.mp hx with hx | hx
        · exact hk x hx
        · simp only [List.mem_singleton] at hx
          rw [hx]; exact kv⟩, b2⟩
    obtain ⟨⟨hl, hk⟩, bg⟩ := i
    have hl : (acc.length : Int) = 1 + many := by
      rw [hl]; simp only [List.length_map, List.length_range]; omega
    (repeat (first | refine p_var rfl ?_ | refine p_c ?_ | refine p_bin ?_ | refine p_cons ?_ | refine p_nil ?_ | refine p_seq ?_ | refine p_asg ?_ | refine p_sif ?_ | refine p_ret ?_ | refine p_bM ?_ | refine p_tM ?_ | refine p_cb ?_ | refine p_andM ?_ | refine p_orM ?_ | refine p_notM ?_ | refine p_chain ?_ | refine p_andV ?_ | refine p_orV ?_ | refine p_notV ?_ | refine p_ifM ?_ | refine p_tup ?_ | refine p_lst ?_ | refine p_call ?_ | refine p_callK ?_ | refine ⟨⟨⟨rfl, rfl⟩, rfl, rfl⟩, ⟨rfl, rfl⟩, ?_⟩ | refine p_setB ?_ | refine p_sl ?_ | refine p_osome ?_ | refine p_onone ?_ | refine p_snil ?_ | refine p_sexpr ?_ | refine p_retN ?_ | refine p_par ?_ | refine p_sh ?_ | refine p_brt rfl ?_ | refine p_brf rfl ?_ | refine ⟨_, rfl, ?_⟩ | refine ⟨⟨rfl, rfl⟩, ?_⟩ | refine ⟨⟨rfl, Nat.le_of_ble_eq_true rfl⟩, ?_⟩ | refine ⟨_, _, _, _, rfl, hn, rfl, rfl, ?_⟩ | (refine ⟨_, _, rfl, ⟨rfl, rfl⟩, ?_⟩; try dsimp only [wipeE, List.set_cons_succ, List.set_cons_zero]) | (refine ⟨rfl, ?_⟩; try dsimp only [wipeE, List.set_cons_succ, List.set_cons_zero])))
    refine p_spec (draw_at (by decide) bg (k := 1 + many) (by omega) (by omega)) fun v h' z => ?_
    obtain ⟨⟨at_, rfl, t0, t1⟩, bg⟩ := z
    have s2 : 1000 ≤ sizeLine := by decide
    have k1 : ∀ i : Int, (cutP acc none (some i)).length ≤ 40 := fun i => by
      unfold cutP; simp only [List.length_take, List.length_drop]; omega
    have k2 : ∀ i : Int, (cutP acc (some i) none).length ≤ 40 := fun i => by
      unfold cutP; simp only [List.length_take, List.length_drop]; omega
    (repeat (first | refine p_var rfl ?_ | refine p_c ?_ | refine p_bin ?_ | refine p_cons ?_ | refine p_nil ?_ | refine p_seq ?_ | refine p_asg ?_ | refine p_sif ?_ | refine p_ret ?_ | refine p_bM ?_ | refine p_tM ?_ | refine p_cb ?_ | refine p_andM ?_ | refine p_orM ?_ | refine p_notM ?_ | refine p_chain ?_ | refine p_andV ?_ | refine p_orV ?_ | refine p_notV ?_ | refine p_ifM ?_ | refine p_tup ?_ | refine p_lst ?_ | refine p_call ?_ | refine p_callK ?_ | refine ⟨⟨⟨rfl, rfl⟩, rfl, rfl⟩, ⟨rfl, rfl⟩, ?_⟩ | refine p_setB ?_ | refine p_sl ?_ | refine p_osome ?_ | refine p_onone ?_ | refine p_snil ?_ | refine p_sexpr ?_ | refine p_retN ?_ | refine p_par ?_ | refine p_sh ?_ | refine p_brt rfl ?_ | refine p_brf rfl ?_ | refine ⟨_, rfl, ?_⟩ | refine ⟨⟨rfl, rfl⟩, ?_⟩ | refine ⟨⟨rfl, Nat.le_of_ble_eq_true rfl⟩, ?_⟩ | refine ⟨_, _, _, _, rfl, hn, rfl, rfl, ?_⟩ | (refine ⟨_, _, rfl, ⟨rfl, rfl⟩, ?_⟩; try dsimp only [wipeE, List.set_cons_succ, List.set_cons_zero]) | (refine ⟨rfl, ?_⟩; try dsimp only [wipeE, List.set_cons_succ, List.set_cons_zero])))
    refine p_compMap (p_any ?_)
    (repeat (first | refine p_var rfl ?_ | refine p_c ?_ | refine p_bin ?_ | refine p_cons ?_ | refine p_nil ?_ | refine p_seq ?_ | refine p_asg ?_ | refine p_sif ?_ | refine p_ret ?_ | refine p_bM ?_ | refine p_tM ?_ | refine p_cb ?_ | refine p_andM ?_ | refine p_orM ?_ | refine p_notM ?_ | refine p_chain ?_ | refine p_andV ?_ | refine p_orV ?_ | refine p_notV ?_ | refine p_ifM ?_ | refine p_tup ?_ | refine p_lst ?_ | refine p_call ?_ | refine p_callK ?_ | refine ⟨⟨⟨rfl, rfl⟩, rfl, rfl⟩, ⟨rfl, rfl⟩, ?_⟩ | refine p_setB ?_ | refine p_sl ?_ | refine p_osome ?_ | refine p_onone ?_ | refine p_snil ?_ | refine p_sexpr ?_ | refine p_retN ?_ | refine p_par ?_ | refine p_sh ?_ | refine p_brt rfl ?_ | refine p_brf rfl ?_ | refine ⟨_, rfl, ?_⟩ | refine ⟨⟨rfl, rfl⟩, ?_⟩ | refine ⟨⟨rfl, Nat.le_of_ble_eq_true rfl⟩, ?_⟩ | refine ⟨_, _, _, _, rfl, hn, rfl, rfl, ?_⟩ | (refine ⟨_, _, rfl, ⟨rfl, rfl⟩, ?_⟩; try dsimp only [wipeE, List.set_cons_succ, List.set_cons_zero]) | (refine ⟨rfl, ?_⟩; try dsimp only [wipeE, List.set_cons_succ, List.set_cons_zero])))
    refine ⟨fun v => .tup (cutP acc none (some at_) ++ [v] ++ cutP acc (some (at_ + 1)) none), fun v hv => ?_, ?_⟩
    · have pv : Pl v := pl_all (xs := [_, _, _, _, _, _]) rfl v hv
      refine ⟨_, if_neg (by rw [pl_own pv]; decide), ?_⟩
      (repeat (first | refine p_var rfl ?_ | refine p_c ?_ | refine p_bin ?_ | refine p_cons ?_ | refine p_nil ?_ | refine p_seq ?_ | refine p_asg ?_ | refine p_sif ?_ | refine p_ret ?_ | refine p_bM ?_ | refine p_tM ?_ | refine p_cb ?_ | refine p_andM ?_ | refine p_orM ?_ | refine p_notM ?_ | refine p_chain ?_ | refine p_andV ?_ | refine p_orV ?_ | refine p_notV ?_ | refine p_ifM ?_ | refine p_tup ?_ | refine p_lst ?_ | refine p_call ?_ | refine p_callK ?_ | refine ⟨⟨⟨rfl, rfl⟩, rfl, rfl⟩, ⟨rfl, rfl⟩, ?_⟩ | refine p_setB ?_ | refine p_sl ?_ | refine p_osome ?_ | refine p_onone ?_ | refine p_snil ?_ | refine p_sexpr ?_ | refine p_retN ?_ | refine p_par ?_ | refine p_sh ?_ | refine p_brt rfl ?_ | refine p_brf rfl ?_ | refine ⟨_, rfl, ?_⟩ | refine ⟨⟨rfl, rfl⟩, ?_⟩ | refine ⟨⟨rfl, Nat.le_of_ble_eq_true rfl⟩, ?_⟩ | refine ⟨_, _, _, _, rfl, hn, rfl, rfl, ?_⟩ | (refine ⟨_, _, rfl, ⟨rfl, rfl⟩, ?_⟩; try dsimp only [wipeE, List.set_cons_succ, List.set_cons_zero]) | (refine ⟨rfl, ?_⟩; try dsimp only [wipeE, List.set_cons_succ, List.set_cons_zero]) | refine ⟨⟨by show (!isOwn v && _) = true; rw [pl_own pv]; rfl, Nat.le_of_ble_eq_true rfl⟩, ?_⟩))
      refine ⟨_, fAdd_tup (by rw [List.length_singleton]; have := k1 at_; omega), ?_⟩
      (repeat (first | refine p_var rfl ?_ | refine p_c ?_ | refine p_bin ?_ | refine p_cons ?_ | refine p_nil ?_ | refine p_seq ?_ | refine p_asg ?_ | refine p_sif ?_ | refine p_ret ?_ | refine p_bM ?_ | refine p_tM ?_ | refine p_cb ?_ | refine p_andM ?_ | refine p_orM ?_ | refine p_notM ?_ | refine p_chain ?_ | refine p_andV ?_ | refine p_orV ?_ | refine p_notV ?_ | refine p_ifM ?_ | refine p_tup ?_ | refine p_lst ?_ | refine p_call ?_ | refine p_callK ?_ | refine ⟨⟨⟨rfl, rfl⟩, rfl, rfl⟩, ⟨rfl, rfl⟩, ?_⟩ | refine p_setB ?_ | refine p_sl ?_ | refine p_osome ?_ | refine p_onone ?_ | refine p_snil ?_ | refine p_sexpr ?_ | refine p_retN ?_ | refine p_par ?_ | refine p_sh ?_ | refine p_brt rfl ?_ | refine p_brf rfl ?_ | refine ⟨_, rfl, ?_⟩ | refine ⟨⟨rfl, rfl⟩, ?_⟩ | refine ⟨⟨rfl, Nat.le_of_ble_eq_true rfl⟩, ?_⟩ | refine ⟨_, _, _, _, rfl, hn, rfl, rfl, ?_⟩ | (refine ⟨_, _, rfl, ⟨rfl, rfl⟩, ?_⟩; try dsimp only [wipeE, List.set_cons_succ, List.set_cons_zero]) | (refine ⟨rfl, ?_⟩; try dsimp only [wipeE, List.set_cons_succ, List.set_cons_zero])))
      refine ⟨_, fAdd_tup (by rw [List.length_append, List.length_singleton]; have := k1 at_; have := k2 (at_ + 1); omega), ?_⟩
      exact ⟨rfl, rfl, rfl, rfl⟩
    (repeat (first | refine p_var rfl ?_ | refine p_c ?_ | refine p_bin ?_ | refine p_cons ?_ | refine p_nil ?_ | refine p_seq ?_ | refine p_asg ?_ | refine p_sif ?_ | refine p_ret ?_ | refine p_bM ?_ | refine p_tM ?_ | refine p_cb ?_ | refine p_andM ?_ | refine p_orM ?_ | refine p_notM ?_ | refine p_chain ?_ | refine p_andV ?_ | refine p_orV ?_ | refine p_notV ?_ | refine p_ifM ?_ | refine p_tup ?_ | refine p_lst ?_ | refine p_call ?_ | refine p_callK ?_ | refine ⟨⟨⟨rfl, rfl⟩, rfl, rfl⟩, ⟨rfl, rfl⟩, ?_⟩ | refine p_setB ?_ | refine p_sl ?_ | refine p_osome ?_ | refine p_onone ?_ | refine p_snil ?_ | refine p_sexpr ?_ | refine p_retN ?_ | refine p_par ?_ | refine p_sh ?_ | refine p_brt rfl ?_ | refine p_brf rfl ?_ | refine ⟨_, rfl, ?_⟩ | refine ⟨⟨rfl, rfl⟩, ?_⟩ | refine ⟨⟨rfl, Nat.le_of_ble_eq_true rfl⟩, ?_⟩ | refine ⟨_, _, _, _, rfl, hn, rfl, rfl, ?_⟩ | (refine ⟨_, _, rfl, ⟨rfl, rfl⟩, ?_⟩; try dsimp only [wipeE, List.set_cons_succ, List.set_cons_zero]) | (refine ⟨rfl, ?_⟩; try dsimp only [wipeE, List.set_cons_succ, List.set_cons_zero]) | refine ⟨_, fMul_tup (by simp) (by decide) (by decide) (by decide), ?_⟩))
    refine ⟨_, fAdd_tup (by show acc.length + 40 ≤ sizeLine; omega), ?_⟩
    (repeat (first | refine p_var rfl ?_ | refine p_c ?_ | refine p_bin ?_ | refine p_cons ?_ | refine p_nil ?_ | refine p_seq ?_ | refine p_asg ?_ | refine p_sif ?_ | refine p_ret ?_ | refine p_bM ?_ | refine p_tM ?_ | refine p_cb ?_ | refine p_andM ?_ | refine p_orM ?_ | refine p_notM ?_ | refine p_chain ?_ | refine p_andV ?_ | refine p_orV ?_ | refine p_notV ?_ | refine p_ifM ?_ | refine p_tup ?_ | refine p_lst ?_ | refine p_call ?_ | refine p_callK ?_ | refine ⟨⟨⟨rfl, rfl⟩, rfl, rfl⟩, ⟨rfl, rfl⟩, ?_⟩ | refine p_setB ?_ | refine p_sl ?_ | refine p_osome ?_ | refine p_onone ?_ | refine p_snil ?_ | refine p_sexpr ?_ | refine p_retN ?_ | refine p_par ?_ | refine p_sh ?_ | refine p_brt rfl ?_ | refine p_brf rfl ?_ | refine ⟨_, rfl, ?_⟩ | refine ⟨⟨rfl, rfl⟩, ?_⟩ | refine ⟨⟨rfl, Nat.le_of_ble_eq_true rfl⟩, ?_⟩ | refine ⟨_, _, _, _, rfl, hn, rfl, rfl, ?_⟩ | (refine ⟨_, _, rfl, ⟨rfl, rfl⟩, ?_⟩; try dsimp only [wipeE, List.set_cons_succ, List.set_cons_zero]) | (refine ⟨rfl, ?_⟩; try dsimp only [wipeE, List.set_cons_succ, List.set_cons_zero]) | refine ⟨⟨by simp only [allSh, List.all_cons, pl_own po]; rfl, Nat.le_of_ble_eq_true rfl⟩, ?_⟩ | refine ⟨⟨rfl, by simp only [allSh, List.all_cons, pl_own po]; rfl⟩, ?_⟩))
    refine p_spec (is_number_spec po) fun r h' z => ?_
    obtain ⟨rfl, rfl⟩ := z
    (repeat (first | refine p_var rfl ?_ | refine p_c ?_ | refine p_bin ?_ | refine p_cons ?_ | refine p_nil ?_ | refine p_seq ?_ | refine p_asg ?_ | refine p_sif ?_ | refine p_ret ?_ | refine p_bM ?_ | refine p_tM ?_ | refine p_cb ?_ | refine p_andM ?_ | refine p_orM ?_ | refine p_notM ?_ | refine p_chain ?_ | refine p_andV ?_ | refine p_orV ?_ | refine p_notV ?_ | refine p_ifM ?_ | refine p_tup ?_ | refine p_lst ?_ | refine p_call ?_ | refine p_callK ?_ | refine ⟨⟨⟨rfl, rfl⟩, rfl, rfl⟩, ⟨rfl, rfl⟩, ?_⟩ | refine p_setB ?_ | refine p_sl ?_ | refine p_osome ?_ | refine p_onone ?_ | refine p_snil ?_ | refine p_sexpr ?_ | refine p_retN ?_ | refine p_par ?_ | refine p_sh ?_ | refine p_brt rfl ?_ | refine p_brf rfl ?_ | refine ⟨_, rfl, ?_⟩ | refine ⟨⟨rfl, rfl⟩, ?_⟩ | refine ⟨⟨rfl, Nat.le_of_ble_eq_true rfl⟩, ?_⟩ | refine ⟨_, _, _, _, rfl, hn, rfl, rfl, ?_⟩ | (refine ⟨_, _, rfl, ⟨rfl, rfl⟩, ?_⟩; try dsimp only [wipeE, List.set_cons_succ, List.set_cons_zero]) | (refine ⟨rfl, ?_⟩; try dsimp only [wipeE, List.set_cons_succ, List.set_cons_zero])))
    refine p_spec (is_key_spec (v := .tup acc) trivial fun xs e x hx => by cases e; exact (hk x hx).pl) fun r h' z => ?_
    obtain ⟨rfl, rfl⟩ := z
    have d1 : cutP acc none (some 1) = acc.take 1 := cut_to (by decide) (by omega)
    have d2 : (cutP acc none (some 1)).length = 1 := by rw [d1, List.length_take]; omega
    (repeat (first | refine p_var rfl ?_ | refine p_c ?_ | refine p_bin ?_ | refine p_cons ?_ | refine p_nil ?_ | refine p_seq ?_ | refine p_asg ?_ | refine p_sif ?_ | refine p_ret ?_ | refine p_bM ?_ | refine p_tM ?_ | refine p_cb ?_ | refine p_andM ?_ | refine p_orM ?_ | refine p_notM ?_ | refine p_chain ?_ | refine p_andV ?_ | refine p_orV ?_ | refine p_notV ?_ | refine p_ifM ?_ | refine p_tup ?_ | refine p_lst ?_ | refine p_call ?_ | refine p_callK ?_ | refine ⟨⟨⟨rfl, rfl⟩, rfl, rfl⟩, ⟨rfl, rfl⟩, ?_⟩ | refine p_setB ?_ | refine p_sl ?_ | refine p_osome ?_ | refine p_onone ?_ | refine p_snil ?_ | refine p_sexpr ?_ | refine p_retN ?_ | refine p_par ?_ | refine p_sh ?_ | refine p_brt rfl ?_ | refine p_brf rfl ?_ | refine ⟨_, rfl, ?_⟩ | refine ⟨⟨rfl, rfl⟩, ?_⟩ | refine ⟨⟨rfl, Nat.le_of_ble_eq_true rfl⟩, ?_⟩ | refine ⟨_, _, _, _, rfl, hn, rfl, rfl, ?_⟩ | (refine ⟨_, _, rfl, ⟨rfl, rfl⟩, ?_⟩; try dsimp only [wipeE, List.set_cons_succ, List.set_cons_zero]) | (refine ⟨rfl, ?_⟩; try dsimp only [wipeE, List.set_cons_succ, List.set_cons_zero]) | refine ⟨_, fMul_tup (fun z => by rw [z] at d2; cases d2) (by decide) (by decide) (by omega), ?_⟩))
    have kf : ∀ x ∈ (List.replicate (Int.toNat 40) (cutP acc none (some 1))).flatten, KN x := fun x hx => by
      obtain ⟨l, h1, h2⟩ := List.mem_flatten.mp hx
      rw [List.eq_of_mem_replicate h1, d1] at h2
      exact hk x (List.mem_of_mem_take h2)
    have lf : (List.replicate (Int.toNat 40) (cutP acc none (some 1))).flatten.length = 40 := by rw [flat_len, d2]; rfl
    refine p_spec (is_key_spec (v := .tup (List.replicate (Int.toNat 40) (cutP acc none (some 1))).flatten) trivial fun xs e x hx => by cases e; exact (kf x hx).pl) fun r h' z => ?_
    obtain ⟨rfl, rfl⟩ := z
    (repeat (first | refine p_var rfl ?_ | refine p_c ?_ | refine p_bin ?_ | refine p_cons ?_ | refine p_nil ?_ | refine p_seq ?_ | refine p_asg ?_ | refine p_sif ?_ | refine p_ret ?_ | refine p_bM ?_ | refine p_tM ?_ | refine p_cb ?_ | refine p_andM ?_ | refine p_orM ?_ | refine p_notM ?_ | refine p_chain ?_ | refine p_andV ?_ | refine p_orV ?_ | refine p_notV ?_ | refine p_ifM ?_ | refine p_tup ?_ | refine p_lst ?_ | refine p_call ?_ | refine p_callK ?_ | refine ⟨⟨⟨rfl, rfl⟩, rfl, rfl⟩, ⟨rfl, rfl⟩, ?_⟩ | refine p_setB ?_ | refine p_sl ?_ | refine p_osome ?_ | refine p_onone ?_ | refine p_snil ?_ | refine p_sexpr ?_ | refine p_retN ?_ | refine p_par ?_ | refine p_sh ?_ | refine p_brt rfl ?_ | refine p_brf rfl ?_ | refine ⟨_, rfl, ?_⟩ | refine ⟨⟨rfl, rfl⟩, ?_⟩ | refine ⟨⟨rfl, Nat.le_of_ble_eq_true rfl⟩, ?_⟩ | refine ⟨_, _, _, _, rfl, hn, rfl, rfl, ?_⟩ | (refine ⟨_, _, rfl, ⟨rfl, rfl⟩, ?_⟩; try dsimp only [wipeE, List.set_cons_succ, List.set_cons_zero]) | (refine ⟨rfl, ?_⟩; try dsimp only [wipeE, List.set_cons_succ, List.set_cons_zero])))
    refine p_compMap (p_any ?_)
    (repeat (first | refine p_var rfl ?_ | refine p_c ?_ | refine p_bin ?_ | refine p_cons ?_ | refine p_nil ?_ | refine p_seq ?_ | refine p_asg ?_ | refine p_sif ?_ | refine p_ret ?_ | refine p_bM ?_ | refine p_tM ?_ | refine p_cb ?_ | refine p_andM ?_ | refine p_orM ?_ | refine p_notM ?_ | refine p_chain ?_ | refine p_andV ?_ | refine p_orV ?_ | refine p_notV ?_ | refine p_ifM ?_ | refine p_tup ?_ | refine p_lst ?_ | refine p_call ?_ | refine p_callK ?_ | refine ⟨⟨⟨rfl, rfl⟩, rfl, rfl⟩, ⟨rfl, rfl⟩, ?_⟩ | refine p_setB ?_ | refine p_sl ?_ | refine p_osome ?_ | refine p_onone ?_ | refine p_snil ?_ | refine p_sexpr ?_ | refine p_retN ?_ | refine p_par ?_ | refine p_sh ?_ | refine p_brt rfl ?_ | refine p_brf rfl ?_ | refine ⟨_, rfl, ?_⟩ | refine ⟨⟨rfl, rfl⟩, ?_⟩ | refine ⟨⟨rfl, Nat.le_of_ble_eq_true rfl⟩, ?_⟩ | refine ⟨_, _, _, _, rfl, hn, rfl, rfl, ?_⟩ | (refine ⟨_, _, rfl, ⟨rfl, rfl⟩, ?_⟩; try dsimp only [wipeE, List.set_cons_succ, List.set_cons_zero]) | (refine ⟨rfl, ?_⟩; try dsimp only [wipeE, List.set_cons_succ, List.set_cons_zero])))
    have pc : ∀ (i : Int), ∀ x ∈ cutP acc none (some i), Pl x := fun i x hx => (hk x (List.mem_of_mem_drop (List.mem_of_mem_take hx))).pl
    have pd : ∀ (i : Int), ∀ x ∈ cutP acc (some i) none, Pl x := fun i x hx => (hk x (List.mem_of_mem_drop (List.mem_of_mem_take hx))).pl
    have pt : ∀ u, Pl u → ∀ xs, PV.tup (cutP acc none (some at_) ++ [u] ++ cutP acc (some (at_ + 1)) none) = .tup xs → ∀ x ∈ xs, Pl x := fun u pu xs e x hx => by
      cases e
      rcases List.mem_append.mp hx with hx | hx
      · rcases List.mem_append.mp hx with hx | hx
        · exact pc _ x hx
        · simp only [List.mem_singleton] at hx
          rw [hx]; exact pu
      · exact pd _ x hx
    refine ⟨fun v => .bl (keyB v), fun v hv => ?_, ?_⟩
    · have pv : Pl v ∧ ∀ xs, v = .tup xs → ∀ x ∈ xs, Pl x := by
        simp only [List.map_cons, List.map_nil, List.cons_append, List.nil_append, List.mem_cons, List.not_mem_nil, or_false] at hv
        rcases hv with rfl | rfl | rfl | rfl | rfl | rfl | rfl | rfl | rfl | rfl | rfl | rfl | rfl
        · exact ⟨trivial, pt _ trivial⟩
        · exact ⟨trivial, pt _ trivial⟩
        · exact ⟨trivial, pt _ trivial⟩
        · exact ⟨trivial, pt _ trivial⟩
        · exact ⟨trivial, pt _ trivial⟩
        · exact ⟨trivial, pt _ trivial⟩
        · exact ⟨trivial, fun _ e x hx => by cases e; cases hx⟩
        · exact ⟨trivial, fun _ e => by cases e⟩
        · exact ⟨trivial, fun _ e => by cases e⟩
        · exact ⟨trivial, fun _ e => by cases e⟩
        · exact ⟨trivial, fun _ e => by cases e⟩
        · refine ⟨trivial, fun _ e x hx => ?_⟩
          cases e
          rcases List.mem_append.mp hx with hx | hx
          · exact (hk x hx).pl
          · exact pl_all (xs := (List.replicate (Int.toNat 40) [PV.int 0]).flatten) rfl x hx
        · exact ⟨po, o5⟩
      refine ⟨_, if_neg (by rw [pl_own pv.1]; decide), ?_⟩
      (repeat (first | refine p_var rfl ?_ | refine p_c ?_ | refine p_bin ?_ | refine p_cons ?_ | refine p_nil ?_ | refine p_seq ?_ | refine p_asg ?_ | refine p_sif ?_ | refine p_ret ?_ | refine p_bM ?_ | refine p_tM ?_ | refine p_cb ?_ | refine p_andM ?_ | refine p_orM ?_ | refine p_notM ?_ | refine p_chain ?_ | refine p_andV ?_ | refine p_orV ?_ | refine p_notV ?_ | refine p_ifM ?_ | refine p_tup ?_ | refine p_lst ?_ | refine p_call ?_ | refine p_callK ?_ | refine ⟨⟨⟨rfl, rfl⟩, rfl, rfl⟩, ⟨rfl, rfl⟩, ?_⟩ | refine p_setB ?_ | refine p_sl ?_ | refine p_osome ?_ | refine p_onone ?_ | refine p_snil ?_ | refine p_sexpr ?_ | refine p_retN ?_ | refine p_par ?_ | refine p_sh ?_ | refine p_brt rfl ?_ | refine p_brf rfl ?_ | refine ⟨_, rfl, ?_⟩ | refine ⟨⟨rfl, rfl⟩, ?_⟩ | refine ⟨⟨rfl, Nat.le_of_ble_eq_true rfl⟩, ?_⟩ | refine ⟨_, _, _, _, rfl, hn, rfl, rfl, ?_⟩ | (refine ⟨_, _, rfl, ⟨rfl, rfl⟩, ?_⟩; try dsimp only [wipeE, List.set_cons_succ, List.set_cons_zero]) | (refine ⟨rfl, ?_⟩; try dsimp only [wipeE, List.set_cons_succ, List.set_cons_zero]) | refine ⟨⟨rfl, by show (!isOwn v && _) = true; rw [pl_own pv.1]; rfl⟩, p_spec (is_key_spec pv.1 pv.2) fun r h' z => ?_⟩))
      obtain ⟨rfl, rfl⟩ := z
      exact ⟨rfl, rfl, rfl, rfl⟩
    (repeat (first | refine p_var rfl ?_ | refine p_c ?_ | refine p_bin ?_ | refine p_cons ?_ | refine p_nil ?_ | refine p_seq ?_ | refine p_asg ?_ | refine p_sif ?_ | refine p_ret ?_ | refine p_bM ?_ | refine p_tM ?_ | refine p_cb ?_ | refine p_andM ?_ | refine p_orM ?_ | refine p_notM ?_ | refine p_chain ?_ | refine p_andV ?_ | refine p_orV ?_ | refine p_notV ?_ | refine p_ifM ?_ | refine p_tup ?_ | refine p_lst ?_ | refine p_call ?_ | refine p_callK ?_ | refine ⟨⟨⟨rfl, rfl⟩, rfl, rfl⟩, ⟨rfl, rfl⟩, ?_⟩ | refine p_setB ?_ | refine p_sl ?_ | refine p_osome ?_ | refine p_onone ?_ | refine p_snil ?_ | refine p_sexpr ?_ | refine p_retN ?_ | refine p_par ?_ | refine p_sh ?_ | refine p_brt rfl ?_ | refine p_brf rfl ?_ | refine ⟨_, rfl, ?_⟩ | refine ⟨⟨rfl, rfl⟩, ?_⟩ | refine ⟨⟨rfl, Nat.le_of_ble_eq_true rfl⟩, ?_⟩ | refine ⟨_, _, _, _, rfl, hn, rfl, rfl, ?_⟩ | (refine ⟨_, _, rfl, ⟨rfl, rfl⟩, ?_⟩; try dsimp only [wipeE, List.set_cons_succ, List.set_cons_zero]) | (refine ⟨rfl, ?_⟩; try dsimp only [wipeE, List.set_cons_succ, List.set_cons_zero]) | refine ⟨_, o2 _, ?_⟩))
    refine p_spec (like_eqv (n := 7) (b := .lst [.bl false, .bl true, .bl true, .bl false, .bl false, .bl false, .bl false, .bl false, .bl false, .bl false, .bl false, .bl false, .bl false, .bl false, .bl false, .bl q]) ?_ (dpl_of rfl)) fun v h' z => ?_
    · show PV.lst [.bl (numB 0 9 odd), .bl (keyB (.tup acc)), .bl (keyB (.tup (List.replicate (Int.toNat 40) (cutP acc none (some 1))).flatten)),
        .bl (keyB (.tup (cutP acc none (some at_) ++ [.int (10 ^ Int.toNat 18 + 1)] ++ cutP acc (some (at_ + 1)) none))), .bl (keyB (.tup (cutP acc none (some at_) ++ [.int (0 - 10 ^ Int.toNat 18 - 1)] ++ cutP acc (some (at_ + 1)) none))),
        .bl (keyB (.tup (cutP acc none (some at_) ++ [.non] ++ cutP acc (some (at_ + 1)) none))), .bl (keyB (.tup (cutP acc none (some at_) ++ [.bl true] ++ cutP acc (some (at_ + 1)) none))),
        .bl (keyB (.tup (cutP acc none (some at_) ++ [.str "0"] ++ cutP acc (some (at_ + 1)) none))), .bl (keyB (.tup (cutP acc none (some at_) ++ [.tup [.int 0]] ++ cutP acc (some (at_ + 1)) none))),
        .bl (keyB (.tup [])), .bl (keyB (.lst acc)), .bl (keyB (.int 0)), .bl (keyB .non), .bl (keyB (.str "0")), .bl (keyB (.tup (acc ++ (List.replicate (Int.toNat 40) [PV.int 0]).flatten))), .bl (keyB odd)] = _
      rw [o1, o3, key_good hk (by omega) (by omega), key_good kf (by omega) (by omega), key_far (by decide), key_far (by decide), key_far rfl, key_far rfl, key_far rfl, key_far rfl, key_long (xs := acc ++ _) (by rw [List.length_append]; show 40 < acc.length + 40; omega)]
      rfl
    obtain ⟨rfl, rfl⟩ := z
    (repeat (first | refine p_var rfl ?_ | refine p_c ?_ | refine p_bin ?_ | refine p_cons ?_ | refine p_nil ?_ | refine p_seq ?_ | refine p_asg ?_ | refine p_sif ?_ | refine p_ret ?_ | refine p_bM ?_ | refine p_tM ?_ | refine p_cb ?_ | refine p_andM ?_ | refine p_orM ?_ | refine p_notM ?_ | refine p_chain ?_ | refine p_andV ?_ | refine p_orV ?_ | refine p_notV ?_ | refine p_ifM ?_ | refine p_tup ?_ | refine p_lst ?_ | refine p_call ?_ | refine p_callK ?_ | refine ⟨⟨⟨rfl, rfl⟩, rfl, rfl⟩, ⟨rfl, rfl⟩, ?_⟩ | refine p_setB ?_ | refine p_sl ?_ | refine p_osome ?_ | refine p_onone ?_ | refine p_snil ?_ | refine p_sexpr ?_ | refine p_retN ?_ | refine p_par ?_ | refine p_sh ?_ | refine p_brt rfl ?_ | refine p_brf rfl ?_ | refine ⟨_, rfl, ?_⟩ | refine ⟨⟨rfl, rfl⟩, ?_⟩ | refine ⟨⟨rfl, Nat.le_of_ble_eq_true rfl⟩, ?_⟩ | refine ⟨_, _, _, _, rfl, hn, rfl, rfl, ?_⟩ | (refine ⟨_, _, rfl, ⟨rfl, rfl⟩, ?_⟩; try dsimp only [wipeE, List.set_cons_succ, List.set_cons_zero]) | (refine ⟨rfl, ?_⟩; try dsimp only [wipeE, List.set_cons_succ, List.set_cons_zero])))
    exact ⟨⟨_, rfl, rfl⟩, bg⟩
  · (repeat (first | refine p_var rfl ?_ | refine p_c ?_ | refine p_bin ?_ | refine p_cons ?_ | refine p_nil ?_ | refine p_seq ?_ | refine p_asg ?_ | refine p_sif ?_ | refine p_ret ?_ | refine p_bM ?_ | refine p_tM ?_ | refine p_cb ?_ | refine p_andM ?_ | refine p_orM ?_ | refine p_notM ?_ | refine p_chain ?_ | refine p_andV ?_ | refine p_orV ?_ | refine p_notV ?_ | refine p_ifM ?_ | refine p_tup ?_ | refine p_lst ?_ | refine p_call ?_ | refine p_callK ?_ | refine ⟨⟨⟨rfl, rfl⟩, rfl, rfl⟩, ⟨rfl, rfl⟩, ?_⟩ | refine p_setB ?_ | refine p_sl ?_ | refine p_osome ?_ | refine p_onone ?_ | refine p_snil ?_ | refine p_sexpr ?_ | refine p_retN ?_ | refine p_par ?_ | refine p_sh ?_ | refine p_brt rfl ?_ | refine p_brf rfl ?_ | refine ⟨_, rfl, ?_⟩ | refine ⟨⟨rfl, rfl⟩, ?_⟩ | refine ⟨⟨rfl, Nat.le_of_ble_eq_true rfl⟩, ?_⟩ | refine ⟨_, _, _, _, rfl, hn, rfl, rfl, ?_⟩ | (refine ⟨_, _, rfl, ⟨rfl, rfl⟩, ?_⟩; try dsimp only [wipeE, List.set_cons_succ, List.set_cons_zero]) | (refine ⟨rfl, ?_⟩; try dsimp only [wipeE, List.set_cons_succ, List.set_cons_zero])))
end
end LW

set_option Elab.async false
set_option linter.all false
set_option maxRecDepth 100000
set_option maxHeartbeats 0
open PySem PySem.W PySem.Calls PyProof.Rows
theorem PySem.Challenge.cw_latedrops_k02_names_numbers_and_keys_holds : PySem.Challenge.rw_latedrops_k02_names_numbers_and_keys.Holds := by
  w_on; o_law
  refine HandSHeadRun.head_any (r := OpenLaw.row PySem.Challenge.rw_latedrops_k02_names_numbers_and_keys) (q := view (OpenLaw.row PySem.Challenge.rw_latedrops_k02_names_numbers_and_keys).prog [14]) (H := LW.hkT) (ob := LW.obT) (M := 2000) (loose := LW.namesT) (d := HandSHeadRun.topDef (OpenLaw.row PySem.Challenge.rw_latedrops_k02_names_numbers_and_keys).prog 14) (kwd := []) LW.ob_eqT
    (by kernel_rfl) (fun s => by kernel_rfl) LW.runT (by kernel_rfl) (by kernel_rfl) (by kernel_rfl) (by rfl) (by first | assumption | decide +kernel) (by decide +kernel) ⟨rfl, rfl, rfl, rfl, rfl, by decide +kernel⟩ ?hw ?hc
  case hw => w_witness2
  case hc =>
    refine Lp.walkW (l := PySem.Challenge.rw_latedrops_k02_names_numbers_and_keys) (n := 63) (k := 10) (x := "_law_script") (B := LW.BkT) (m := LW.m_law) (fa := LW.faT) (fn := LW.fnT) rfl (by decide) (by kernel_rfl) ⟨rfl, by decide, by decide⟩ (fun _ _ y => y) (fun _ => rfl) ?F LW.law_true
    intro w mg fa h K KX G hmg0 c
    have hmg : mg ("law" : PySem.Str) = some (.ref fa) := by
      have e : (HandSHeadRun.topDef (OpenLaw.row PySem.Challenge.rw_latedrops_k02_names_numbers_and_keys).prog 14).name = ("law" : PySem.Str) := by kernel_rfl
      rw [← e]
      exact hmg0
    exact LW.factsT (P := (PySem.Challenge.rw_latedrops_k02_names_numbers_and_keys).prog) (w := w) KX G hmg c
