import PyProof.Rows.All
import Wide.All
import OpenK.AllK
import Wide.FinOn
import HandS.ForMost
import HandS.IsInst
import HandS.Exc
import HandS.Style
import HandS.Deep
import HandS.RaiseMore
import HandS.ExcInit
import KE.KUnpack
import HandS.Text
import HandS.DictEq
import HandS.Flow
import HandS.Defaults
import HandS.StrMore
import KE.KExcSuper
import HandS.TryMany
import HandS.ExcField
import HandS.Property
import HandS.ClsMeth
import KE.KOpsOwn
import KE.KCallOwn
import HandS.FStr
import HandS.Strs
import HandS.Small
import HandS.SlotsOwn
import HandS.Star
import HandS.TupMul
import HandS.Translate
import HandS.More
import HandS.Iter
import KE.GoesEnum
import KE.GoesMore
import KE.KFmtOwn
import HandS.NoneIn
import PyProof.ListStr
import PyProof.P3In
import PySem.Challenge.RW_weavegraph_k09_turned_crossings
set_option Elab.async false
set_option linter.all false
set_option autoImplicit false
set_option maxRecDepth 100000
set_option maxHeartbeats 8000000
namespace L2.Mi
open PySem PySem.Spec PyProof.Rows L2

/-! A layer of plain values over HandS: data as trees (D), cells for what is changed, computations R. -/

inductive D where
  | non
  | bl (b : Bool)
  | int (i : Int)
  | str (s : Str)
  | lst (xs : List D)
  | tup (xs : List D)
  | ro (xs : List D)
  | dct (kvs : List (Key × D))
  | ref (k : Nat)
  | obj (C : Str) (fs : List (Str × D))
  | adr (a : Addr)
  | ty (n : String)

inductive Cell where
  | lst (xs : List D)
  | dct (kvs : List (Key × D))
  | ins (C : Str) (fs : List (Str × D))
  | frz (d : D)

abbrev Cs := List Cell
abbrev Ls := List (Option D)
structure Ex where
  cls : Str
  fs : List (Str × D)

inductive R (α : Type) where
  | stuck
  | ok (a : α) (c : Cs)
  | exc (x : Ex) (c : Cs)

def R.bind {α β : Type} (r : R α) (f : α → Cs → R β) : R β :=
  match r with
  | .stuck => .stuck
  | .ok a c => f a c
  | .exc x c => .exc x c
@[simp] theorem R.bind_ok {α β : Type} (a : α) (c : Cs) (f : α → Cs → R β) : (R.ok a c).bind f = f a c := rfl
@[simp] theorem R.bind_exc {α β : Type} (x : Ex) (c : Cs) (f : α → Cs → R β) : (R.exc x c : R α).bind f = .exc x c := rfl
@[simp] theorem R.bind_stuck {α β : Type} (f : α → Cs → R β) : (R.stuck : R α).bind f = .stuck := rfl

/-- a class, by its name: of the module, or a built-in one -/
def NamV (K : PySem.W.Frag) (n : Str) (v : Value) : Prop := PySem.W.nsIn K mainGlobals n = some (some v) ∨ (PySem.W.nsIn K mainGlobals n = some none ∧ bootBuiltins n = some v)
theorem NamV.one {K : PySem.W.Frag} {n : Str} {v u : Value} (a : NamV K n v) (b : NamV K n u) : v = u := by
  rcases a with a | ⟨a, a2⟩ <;> rcases b with b | ⟨b, b2⟩ <;> rw [a] at b
  · cases b; rfl
  · cases b
  · cases b
  · rw [a2] at b2; cases b2; rfl
mutual
inductive Rep (K : PySem.W.Frag) (I : Hp) (m : List Addr) : V → D → Prop where
  | non : Rep K I m .non .non
  | bl (b : Bool) : Rep K I m (.bl b) (.bl b)
  | int (i : Int) : Rep K I m (.int i) (.int i)
  | str (s : Str) : Rep K I m (.str s) (.str s)
  | lst {a : Addr} {vs : List V} {ds : List D} (h : I a = some (.lst vs)) (r : Reps K I m vs ds) : Rep K I m (.ref a) (.lst ds)
  | ro {a : Addr} {vs : List V} {ds : List D} (h : SqL K I a vs) (r : Reps K I m vs ds) : Rep K I m (.ref a) (.ro ds)
  | tup {a : Addr} {vs : List V} {ds : List D} (h : SqT K I a vs) (r : Reps K I m vs ds) : Rep K I m (.ref a) (.tup ds)
  | dct {a : Addr} {vs : List (Key × V)} {ds : List (Key × D)} (h : I a = some (.dK vs)) (r : RepK K I m vs ds) : Rep K I m (.ref a) (.dct ds)
  | ref {k : Nat} {a : Addr} (h : m[k]? = some a) : Rep K I m (.ref a) (.ref k)
  | obj {a C dx : Addr} {n : Str} {vs : List (Str × V)} {ds : List (Str × D)} (hn : NamV K n (.ref C)) (h : I a = some (.ins C dx vs)) (r : RepF K I m vs ds) : Rep K I m (.ref a) (.obj n ds)
  | adr (a : Addr) : Rep K I m (.ref a) (.adr a)
  | ty (n : String) : Rep K I m (.ty n) (.ty n)
inductive Reps (K : PySem.W.Frag) (I : Hp) (m : List Addr) : List V → List D → Prop where
  | nil : Reps K I m [] []
  | cons {v : V} {vs : List V} {d : D} {ds : List D} (h : Rep K I m v d) (t : Reps K I m vs ds) : Reps K I m (v :: vs) (d :: ds)
inductive RepK (K : PySem.W.Frag) (I : Hp) (m : List Addr) : List (Key × V) → List (Key × D) → Prop where
  | nil : RepK K I m [] []
  | cons {k : Key} {v : V} {vs : List (Key × V)} {d : D} {ds : List (Key × D)} (h : Rep K I m v d) (t : RepK K I m vs ds) : RepK K I m ((k, v) :: vs) ((k, d) :: ds)
inductive RepF (K : PySem.W.Frag) (I : Hp) (m : List Addr) : List (Str × V) → List (Str × D) → Prop where
  | nil : RepF K I m [] []
  | cons {k : Str} {v : V} {vs : List (Str × V)} {d : D} {ds : List (Str × D)} (h : Rep K I m v d) (t : RepF K I m vs ds) : RepF K I m ((k, v) :: vs) ((k, d) :: ds)
end

theorem sqT_same {K : PySem.W.Frag} {H H' : Hp} {a : Addr} {xs : List V} (e : Same H H') (h : SqT K H a xs) : SqT K H' a xs := by
  rcases h with (h | ⟨o, h⟩) | h
  · exact Or.inl (Or.inl (e _ _ h))
  · exact Or.inl (Or.inr ⟨o, e _ _ h⟩)
  · exact Or.inr h

/-- the cells' addresses grow at the end -/
def Pre (m m' : List Addr) : Prop := ∀ (k : Nat) (a : Addr), m[k]? = some a → m'[k]? = some a
theorem Pre.refl (m : List Addr) : Pre m m := fun _ _ h => h
theorem Pre.trans {m m1 m2 : List Addr} (a : Pre m m1) (b : Pre m1 m2) : Pre m m2 := fun k x h => b k x (a k x h)

section
variable {K : PySem.W.Frag} {I I' : Hp} {m m' : List Addr}
mutual
theorem Rep.mono (s : Same I I') (p : Pre m m') : ∀ {v : V} {d : D}, Rep K I m v d → Rep K I' m' v d
  | _, _, .non => .non
  | _, _, .bl b => .bl b
  | _, _, .int i => .int i
  | _, _, .str x => .str x
  | _, _, .lst h r => .lst (s _ _ h) (Reps.mono s p r)
  | _, _, .ro h r => .ro (s.seq h) (Reps.mono s p r)
  | _, _, .tup h r => .tup (sqT_same s h) (Reps.mono s p r)
  | _, _, .dct h r => .dct (s _ _ h) (RepK.mono s p r)
  | _, _, .ref h => .ref (p _ _ h)
  | _, _, .obj hn h r => .obj hn (s _ _ h) (RepF.mono s p r)
  | _, _, .adr a => .adr a
  | _, _, .ty n => .ty n
theorem Reps.mono (s : Same I I') (p : Pre m m') : ∀ {v : List V} {d : List D}, Reps K I m v d → Reps K I' m' v d
  | _, _, .nil => .nil
  | _, _, .cons h t => .cons (Rep.mono s p h) (Reps.mono s p t)
theorem RepK.mono (s : Same I I') (p : Pre m m') : ∀ {v : List (Key × V)} {d : List (Key × D)}, RepK K I m v d → RepK K I' m' v d
  | _, _, .nil => .nil
  | _, _, .cons h t => .cons (Rep.mono s p h) (RepK.mono s p t)
theorem RepF.mono (s : Same I I') (p : Pre m m') : ∀ {v : List (Str × V)} {d : List (Str × D)}, RepF K I m v d → RepF K I' m' v d
  | _, _, .nil => .nil
  | _, _, .cons h t => .cons (Rep.mono s p h) (RepF.mono s p t)
end
theorem Reps.length : ∀ {vs : List V} {ds : List D}, Reps K I m vs ds → vs.length = ds.length
  | _, _, .nil => rfl
  | _, _, .cons _ t => congrArg (· + 1) (Reps.length t)
theorem Reps.get : ∀ {vs : List V} {ds : List D} {i : Nat} {d : D}, Reps K I m vs ds → ds[i]? = some d → ∃ v, vs[i]? = some v ∧ Rep K I m v d
  | _, _, _, _, .nil, e => by simp at e
  | _, _, 0, _, .cons h _, e => by simp at e; subst e; exact ⟨_, rfl, h⟩
  | _, _, i + 1, d, .cons _ t, e => by
    obtain ⟨v, h1, h2⟩ := Reps.get (i := i) (d := d) t (by simpa using e)
    exact ⟨v, by simpa using h1, h2⟩
theorem Reps.getV : ∀ {vs : List V} {ds : List D} {i : Nat} {v : V}, Reps K I m vs ds → vs[i]? = some v → ∃ d, ds[i]? = some d ∧ Rep K I m v d
  | _, _, _, _, .nil, e => by simp at e
  | _, _, 0, _, .cons h _, e => by simp at e; subst e; exact ⟨_, rfl, h⟩
  | _, _, i + 1, d, .cons _ t, e => by
    obtain ⟨v, h1, h2⟩ := Reps.getV (i := i) (v := d) t (by simpa using e)
    exact ⟨v, by simpa using h1, h2⟩
theorem Reps.append : ∀ {vs ws : List V} {ds es : List D}, Reps K I m vs ds → Reps K I m ws es → Reps K I m (vs ++ ws) (ds ++ es)
  | _, _, _, _, .nil, s => s
  | _, _, _, _, .cons r t, s => .cons r (Reps.append t s)
theorem Reps.set {v : V} {d : D} (r : Rep K I m v d) : ∀ {vs : List V} {ds : List D} (i : Nat), Reps K I m vs ds → Reps K I m (vs.set i v) (ds.set i d)
  | _, _, _, .nil => .nil
  | _, _, 0, .cons _ t => .cons r t
  | _, _, i + 1, .cons q t => .cons q (Reps.set r i t)
theorem Reps.take : ∀ {vs : List V} {ds : List D} (n : Nat), Reps K I m vs ds → Reps K I m (vs.take n) (ds.take n)
  | _, _, 0, _ => .nil
  | _, _, _ + 1, .nil => .nil
  | _, _, n + 1, .cons r t => .cons r (Reps.take n t)
theorem Reps.drop : ∀ {vs : List V} {ds : List D} (n : Nat), Reps K I m vs ds → Reps K I m (vs.drop n) (ds.drop n)
  | _, _, 0, r => r
  | _, _, _ + 1, .nil => .nil
  | _, _, n + 1, .cons _ t => Reps.drop n t
end

/-- what a cell is, at its address -/
def CellAt (K : PySem.W.Frag) (I H : Hp) (m : List Addr) (a : Addr) : Cell → Prop
  | .lst ds => I a = none ∧ ∃ vs, H a = some (.lst vs) ∧ Reps K I m vs ds
  | .dct ds => I a = none ∧ ∃ vs, H a = some (.dK vs) ∧ RepK K I m vs ds
  | .ins C ds => I a = none ∧ ∃ dx vs, I dx = none ∧ dx ∉ m ∧ H dx = some (.own a) ∧ (∃ A, NamV K C (.ref A) ∧ H a = some (.ins A dx vs)) ∧ RepF K I m vs ds
  | .frz d => (I a ≠ none) ∧ Rep K I m (.ref a) d

/-- I: what never changes; m: the cells' addresses -/
structure Rel (K : PySem.W.Frag) (I H : Hp) (m : List Addr) (c : Cs) : Prop where
  same : Same I H
  len : m.length = c.length
  nd : ∀ (i j : Nat) (a : Addr), m[i]? = some a → m[j]? = some a → i = j
  cell : ∀ (k : Nat) (a : Addr) (x : Cell), m[k]? = some a → c[k]? = some x → CellAt K I H m a x

/-- what may happen in between: I and m grow; what is neither known nor a cell stays -/
structure Ext (I : Hp) (m : List Addr) (H I' : Hp) (m' : List Addr) (H' : Hp) : Prop where
  same : Same I I'
  pre : Pre m m'
  fr : ∀ b o, H b = some o → I b = none → b ∉ m → H' b = some o ∧ I' b = none ∧ b ∉ m'
theorem Ext.refl (I : Hp) (m : List Addr) (H : Hp) : Ext I m H I m H := ⟨Same.refl I, Pre.refl m, fun _ _ h1 h2 h3 => ⟨h1, h2, h3⟩⟩
theorem Ext.trans {I I1 I2 H H1 H2 : Hp} {m m1 m2 : List Addr} (a : Ext I m H I1 m1 H1) (b : Ext I1 m1 H1 I2 m2 H2) : Ext I m H I2 m2 H2 :=
  ⟨a.same.trans b.same, a.pre.trans b.pre, fun x o h1 h2 h3 => let ⟨q1, q2, q3⟩ := a.fr x o h1 h2 h3; b.fr x o q1 q2 q3⟩
theorem Rep.ext {K : PySem.W.Frag} {I I1 H H1 : Hp} {m m1 : List Addr} {v : V} {d : D} (r : Rep K I m v d) (e : Ext I m H I1 m1 H1) : Rep K I1 m1 v d := r.mono e.same e.pre
theorem Reps.ext {K : PySem.W.Frag} {I I1 H H1 : Hp} {m m1 : List Addr} {v : List V} {d : List D} (r : Reps K I m v d) (e : Ext I m H I1 m1 H1) : Reps K I1 m1 v d := r.mono e.same e.pre

/-- the locals -/
structure Locs (K : PySem.W.Frag) (I : Hp) (m : List Addr) (σ : St) (ls : Ls) : Prop where
  len : σ.length = ls.length
  at_ : ∀ (i : Nat) (d : D), ls[i]? = some (some d) → ∃ v, σ[i]? = some (some v) ∧ Rep K I m v d
theorem Locs.ext {K : PySem.W.Frag} {I I1 H H1 : Hp} {m m1 : List Addr} {σ : St} {ls : Ls} (l : Locs K I m σ ls) (e : Ext I m H I1 m1 H1) : Locs K I1 m1 σ ls :=
  ⟨l.len, fun i d h => let ⟨v, h1, h2⟩ := l.at_ i d h; ⟨v, h1, h2.ext e⟩⟩
theorem Locs.set {K : PySem.W.Frag} {I : Hp} {m : List Addr} {σ : St} {ls : Ls} {v : V} {d : D} (i : Nat) (l : Locs K I m σ ls) (r : Rep K I m v d) : Locs K I m (σ.set i (some v)) (ls.set i (some d)) := by
  refine ⟨by simp [l.len], fun j e h => ?_⟩
  by_cases hj : i = j
  · subst hj
    by_cases hl : i < ls.length
    · rw [List.getElem?_set_self hl] at h
      cases h
      exact ⟨v, by rw [List.getElem?_set_self (by rw [l.len]; exact hl)], r⟩
    · rw [List.getElem?_eq_none (by simpa using hl)] at h
      cases h
  · rw [List.getElem?_set_ne hj] at h ⊢
    exact l.at_ j e h

/-- an exception, its class and its own dict -/
def RepX (K : PySem.W.Frag) (I : Hp) (m : List Addr) (H : Hp) (cls : Value) (dd : Option Addr) (x : Ex) : Prop :=
  NamV K x.cls cls ∧ ((dd = none ∧ x.fs = []) ∨ ∃ a vs, dd = some a ∧ I a = some (.xd vs) ∧ RepF K I m vs x.fs)

/-- what is wanted behind a computation -/
def After {α β : Type} (rep : Hp → List Addr → β → α → Prop) (K : PySem.W.Frag) (I : Hp) (m : List Addr) (H : Hp) (W : XK) (Q : β → Hp → Prop) : R α → Prop
  | .stuck => False
  | .ok d c => ∀ I' m' H' v, Ext I m H I' m' H' → Rel K I' H' m' c → rep I' m' v d → Q v H'
  | .exc x c => ∀ I' m' H' cls dd, Ext I m H I' m' H' → Rel K I' H' m' c → RepX K I' m' H' cls dd x → W cls dd H'
section
variable {α β γ δ : Type} {rep : Hp → List Addr → β → α → Prop} {rep' : Hp → List Addr → δ → γ → Prop} {K : PySem.W.Frag} {I I1 H H1 : Hp} {m m1 : List Addr} {W : XK} {Q Q' : β → Hp → Prop} {Q2 : δ → Hp → Prop} {r : R α} {c : Cs}
theorem After.ext (e : Ext I m H I1 m1 H1) (a : After rep K I m H W Q r) : After rep K I1 m1 H1 W Q r := by
  cases r with
  | stuck => exact a
  | ok d c => exact fun I' m' H' v e' => a I' m' H' v (e.trans e')
  | exc x c => exact fun I' m' H' cls dd e' => a I' m' H' cls dd (e.trans e')
theorem After.mono (a : After rep K I m H W Q r) (h : ∀ v H', Q v H' → Q' v H') : After rep K I m H W Q' r := by
  cases r with
  | stuck => exact a
  | ok d c => exact fun I' m' H' v e' r' p => h _ _ (a I' m' H' v e' r' p)
  | exc x c => exact a
/-- what stands behind the first of two computations -/
def Mid (rep : Hp → List Addr → β → α → Prop) (rep' : Hp → List Addr → δ → γ → Prop) (K : PySem.W.Frag) (I : Hp) (m : List Addr) (H : Hp) (W : XK) (Q2 : δ → Hp → Prop) (f : α → Cs → R γ) (v : β) (H1 : Hp) : Prop :=
  ∃ I1 m1 c1 a, Ext I m H I1 m1 H1 ∧ Rel K I1 H1 m1 c1 ∧ rep I1 m1 v a ∧ After rep' K I1 m1 H1 W Q2 (f a c1)
theorem After.bind {f : α → Cs → R γ} (a : After rep' K I m H W Q2 (r.bind f)) : After rep K I m H W (Mid rep rep' K I m H W Q2 f) r := by
  cases r with
  | stuck => exact a
  | ok d c => exact fun I' m' H' v e' r' p => ⟨I', m', c, d, e', r', p, After.ext e' a⟩
  | exc x c => exact a
/-- nothing happens any more -/
theorem After.here {d : α} {v : β} (a : After rep K I m H W Q (.ok d c)) (r : Rel K I H m c) (p : rep I m v d) : Q v H := a I m H v (Ext.refl I m H) r p
end

def rD (K : PySem.W.Frag) : Hp → List Addr → V → D → Prop := fun I m v d => Rep K I m v d
def rA (K : PySem.W.Frag) : Hp → List Addr → List V → List D → Prop := fun I m v d => Reps K I m v d
def rB : Hp → List Addr → Bool → Bool → Prop := fun _ _ v d => v = d

abbrev ME := Ls → Cs → R D
abbrev MA := Ls → Cs → R (List D)
abbrev MT := Ls → Cs → R Bool
/-- the reading of a computation -/
def rd {α β : Type} (rep : Hp → List Addr → β → α → Prop) (K : PySem.W.Frag) (W : WX) (f : Ls → Cs → R α) : St → Hp → (β → Hp → Prop) → Prop := fun σ H Q =>
  ∃ I m ls c, Rel K I H m c ∧ Locs K I m σ ls ∧ After rep K I m H (fun cls dd H' => W cls dd σ H') Q (f ls c)
abbrev rdE (K : PySem.W.Frag) (W : WX) (f : ME) : TE := rd (rD K) K W f
abbrev rdA (K : PySem.W.Frag) (W : WX) (f : MA) : TA := rd (rA K) K W f
abbrev rdT (K : PySem.W.Frag) (W : WX) (f : MT) : TT := rd rB K W f

/-- a new object that never changes -/
theorem alloc {K : PySem.W.Frag} {I H : Hp} {m : List Addr} {c : Cs} {p : Addr} {o : HO} (r : Rel K I H m c) (np : H p = none) : Rel K (upd I p o) (upd H p o) m c ∧ Ext I m H (upd I p o) m (upd H p o) := by
  have nI : I p = none := r.same.free np
  have sI : Same I (upd I p o) := fun b u e => by rw [upd_ne (ne_of_none e nI)]; exact e
  have sH : Same H (upd H p o) := fun b u e => by rw [upd_ne (ne_of_none e np)]; exact e
  refine ⟨⟨fun b u e => ?_, r.len, r.nd, fun k a x h1 h2 => ?_⟩, sI, Pre.refl m, fun b u h1 h2 h3 => ⟨sH b u h1, ?_, h3⟩⟩
  · by_cases hb : b = p
    · subst hb
      rw [upd_same] at e ⊢
      exact e
    · rw [upd_ne hb] at e ⊢
      exact r.same b u e
  · have q := r.cell k a x h1 h2
    cases x with
    | lst ds =>
      obtain ⟨q1, vs, q2, q3⟩ := q
      exact ⟨by rw [upd_ne (ne_of_none q2 np)]; exact q1, vs, sH _ _ q2, q3.mono sI (Pre.refl m)⟩
    | dct ds =>
      obtain ⟨q1, vs, q2, q3⟩ := q
      exact ⟨by rw [upd_ne (ne_of_none q2 np)]; exact q1, vs, sH _ _ q2, q3.mono sI (Pre.refl m)⟩
    | ins C ds =>
      obtain ⟨q1, dx, vs, q2, q3, q4, q5, q6⟩ := q
      exact ⟨by rw [upd_ne (q5.elim fun _ z => ne_of_none z.2 np)]; exact q1, dx, vs, by rw [upd_ne (ne_of_none q4 np)]; exact q2, q3, sH _ _ q4, q5.imp fun _ z => ⟨z.1, sH _ _ z.2⟩, q6.mono sI (Pre.refl m)⟩
    | frz d =>
      obtain ⟨q1, q2⟩ := q
      refine ⟨fun z => q1 ?_, q2.mono sI (Pre.refl m)⟩
      by_cases hb : a = p
      · subst hb; exact nI
      · rw [upd_ne hb] at z; exact z
  · rw [upd_ne (ne_of_none h1 np)]
    exact h2
end L2.Mi

namespace L2.Mi
open PySem PySem.Spec PyProof.Rows L2

/-! ### weaker readings -/
theorem PEi {X : Cx} {e : Expr} {t t' : TE} (h : PE X e t) (w : ∀ σ H Q, t' σ H Q → t σ H Q) : PE X e t' := ⟨fun pins s σ H Q I q => h.run pins s σ H Q I (w σ H Q q)⟩
theorem PTi {X : Cx} {e : Expr} {t t' : TT} (h : PT X e t) (w : ∀ σ H Q, t' σ H Q → t σ H Q) : PT X e t' := ⟨fun pins s σ H Q I q => h.run pins s σ H Q I (w σ H Q q)⟩
theorem PWi {X : Cx} {e : Expr} {t t' : TT} (h : PW X e t) (w : ∀ σ H Q, t' σ H Q → t σ H Q) : PW X e t' := ⟨fun wh pins s σ H Q I q => h.run wh pins s σ H Q I (w σ H Q q)⟩
theorem PAi {X : Cx} {e : List Expr} {t t' : TA} (h : PA X e t) (w : ∀ σ H Q, t' σ H Q → t σ H Q) : PA X e t' := ⟨fun p pins s σ H Q I q => h.run p pins s σ H Q I (w σ H Q q)⟩

section
variable {X : Cx} {W : WX} {a b c e : Expr} {es rest : List Expr} {pos : Pos} {fa fb fc : ME} {f g : D → D → Cs → R D}

/-! ### names, constants -/
def mVar (i : Nat) : ME := fun l c => match l[i]? with
  | some (some d) => .ok d c
  | _ => .stuck
theorem me_var {i : Nat} (h : PE X e (tVar i)) : PE X e (rdE X.K W (mVar i)) := PEi h fun σ H Q ⟨I, m, l, c, r, L, A⟩ => by
  unfold mVar at A
  cases q : l[i]? with
  | none => rw [q] at A; exact A.elim
  | some o =>
    cases o with
    | none => rw [q] at A; exact A.elim
    | some d =>
      rw [q] at A
      obtain ⟨v, h1, h2⟩ := L.at_ i d q
      exact ⟨v, h1, A.here r h2⟩
def mC (d : D) : ME := fun _ c => .ok d c
theorem me_c {v : V} {d : D} (h : PE X e (tC v)) (p : ∀ I m, Rep X.K I m v d) : PE X e (rdE X.K W (mC d)) := PEi h fun σ H Q ⟨I, m, l, c, r, L, A⟩ => A.here r (p I m)
theorem me_int {i : Int} {j : Nat} : PE X (.Constant (.int i) j pos) (rdE X.K W (mC (.int i))) := me_c pe_int fun _ _ => .int i
theorem me_bl {i : Bool} {j : Nat} : PE X (.Constant (.bool i) j pos) (rdE X.K W (mC (.bl i))) := me_c pe_bl fun _ _ => .bl i
theorem me_non {j : Nat} : PE X (.Constant .none j pos) (rdE X.K W (mC .non)) := me_c pe_non fun _ _ => .non
theorem me_str {i : Str} {j : Nat} : PE X (.Constant (.str i) j pos) (rdE X.K W (mC (.str i))) := me_c pe_str fun _ _ => .str i

/-! ### operators -/
def OpS (K : PySem.W.Frag) (r : R2) (g : D → D → Cs → R D) : Prop := ∀ (I H : Hp) (m : List Addr) (c : Cs) (v1 v2 : V) (d1 d2 : D) (W : XK) (Q : VK),
  Rel K I H m c → Rep K I m v1 d1 → Rep K I m v2 d2 → After (rD K) K I m H W Q (g d1 d2 c) → r v1 v2 H Q
def mOp (g : D → D → Cs → R D) (a b : ME) : ME := fun l c => (a l c).bind fun x c1 => (b l c1).bind fun y c2 => g x y c2
theorem op_read {K : PySem.W.Frag} {r : R2} {σ : St} {H : Hp} {Q : VK} (hs : OpS K r g) (h : rdE K W (mOp g fa fb) σ H Q) : tOp r (rdE K W fa) (rdE K W fb) σ H Q := by
  obtain ⟨I, m, l, c, R, L, A⟩ := h
  refine ⟨I, m, l, c, R, L, After.mono (After.bind (rep := rD K) A) fun v1 H1 ⟨I1, m1, c1, d1, E1, R1, p1, A1⟩ => ?_⟩
  refine ⟨I1, m1, l, c1, R1, L.ext E1, After.mono (After.bind (rep := rD K) A1) fun v2 H2 ⟨I2, m2, c2, d2, E2, R2, p2, A2⟩ => ?_⟩
  exact hs _ _ _ _ _ _ _ _ _ _ R2 (Rep.ext p1 E2) p2 A2
theorem me_op {op : Operator} {r : R2} (ho : OpR X (binaryOp op) r) (hs : OpS X.K r g) (ha : PE X a (rdE X.K W fa)) (hb : PE X b (rdE X.K W fb)) : PE X (.BinOp a op b pos) (rdE X.K W (mOp g fa fb)) :=
  PEi (pe_op ho ha hb) fun _ _ _ h => op_read hs h
theorem me_cmp {op : CmpOp} {r : R2} (ho : OpR X (compareOp op) r) (hs : OpS X.K r g) (ha : PE X a (rdE X.K W fa)) (hb : PE X b (rdE X.K W fb)) (hm : behindInMarks op b = false) : PE X (.Compare a [op] [b] pos) (rdE X.K W (mOp g fa fb)) :=
  PEi (pe_cmpR ho ha hb hm) fun _ _ _ h => op_read hs h
theorem me_ix {r : R2} (ho : IxR X r) (hs : OpS X.K r g) (ha : PE X a (rdE X.K W fa)) (hb : PE X b (rdE X.K W fb)) (hp : PlainIx b) : PE X (.Subscript a b pos) (rdE X.K W (mOp g fa fb)) :=
  PEi (pe_ix ho ha hb hp) fun _ _ _ h => op_read hs h
def UnS (K : PySem.W.Frag) (r : V → Hp → VK → Prop) (g : D → Cs → R D) : Prop := ∀ (I H : Hp) (m : List Addr) (c : Cs) (v1 : V) (d1 : D) (W : XK) (Q : VK),
  Rel K I H m c → Rep K I m v1 d1 → After (rD K) K I m H W Q (g d1 c) → r v1 H Q
def mUn (g : D → Cs → R D) (a : ME) : ME := fun l c => (a l c).bind fun x c1 => g x c1
theorem me_un {op : UnaryOp} {r : V → Hp → VK → Prop} {g : D → Cs → R D} (ho : UnR X (unaryOp op) r) (hs : UnS X.K r g) (ha : PE X a (rdE X.K W fa)) : PE X (.UnaryOp op a pos) (rdE X.K W (mUn g fa)) :=
  PEi (pe_un ho ha) fun σ H Q ⟨I, m, l, c, R, L, A⟩ => ⟨I, m, l, c, R, L, After.mono (After.bind (rep := rD X.K) A) fun v1 H1 ⟨I1, m1, c1, d1, E1, R1, p1, A1⟩ => hs _ _ _ _ _ _ _ _ R1 p1 A1⟩
/-- a op1 b op2 c -/
def mChain (g g' : D → D → Cs → R D) (a b d : ME) : ME := fun l c => (a l c).bind fun x c1 => (b l c1).bind fun y c2 => (g x y c2).bind fun z c3 => match z with
  | .bl true => (d l c3).bind fun w c4 => g' y w c4
  | .bl false => .ok (.bl false) c3
  | _ => .stuck
theorem me_chain {op op' : CmpOp} {r r' : R2} (ho : OpR X (compareOp op) r) (hs : OpS X.K r f) (ho' : OpR X (compareOp op') r') (hs' : OpS X.K r' g) (ha : PE X a (rdE X.K W fa)) (hb : PE X b (rdE X.K W fb)) (hc : PE X c (rdE X.K W fc))
    (hm : lastMarks [op, op'] [b, c] = false := by with_unfolding_all rfl) : PE X (.Compare a [op, op'] [b, c] pos) (rdE X.K W (mChain f g fa fb fc)) := PEi (pe_chain ho ho' ha hb hc hm) fun σ H Q ⟨I, m, l, c, R, L, A⟩ => by
  refine ⟨I, m, l, c, R, L, After.mono (After.bind (rep := rD X.K) A) fun v1 H1 ⟨I1, m1, c1, d1, E1, R1, p1, A1⟩ => ?_⟩
  refine ⟨I1, m1, l, c1, R1, L.ext E1, After.mono (After.bind (rep := rD X.K) A1) fun v2 H2 ⟨I2, m2, c2, d2, E2, R2, p2, A2⟩ => ?_⟩
  refine hs _ _ _ _ _ _ _ _ _ _ R2 (Rep.ext p1 E2) p2 (After.mono (After.bind (rep := rD X.K) A2) fun v3 H3 ⟨I3, m3, c3, d3, E3, R3, p3, A3⟩ => ?_)
  cases p3 with
  | bl k =>
    refine ⟨k, rfl, ?_⟩
    cases k with
    | false =>
      rw [if_neg Bool.false_ne_true]
      exact A3.here R3 (Rep.bl false)
    | true =>
      rw [if_pos rfl]
      refine ⟨I3, m3, l, c3, R3, ((L.ext E1).ext E2).ext E3, After.mono (After.bind (rep := rD X.K) A3) fun v4 H4 ⟨I4, m4, c4, d4, E4, R4, p4, A4⟩ => ?_⟩
      exact hs' _ _ _ _ _ _ _ _ _ _ R4 (Rep.ext (Rep.ext p2 E3) E4) p4 A4
  | _ => exact A3.elim

/-! ### tests -/
def mT (a : ME) : MT := fun l c => (a l c).bind fun x c1 => match x with
  | .bl k => .ok k c1
  | _ => .stuck
theorem mt_val (ha : PE X e (rdE X.K W fa)) (he : ∀ whole, isTrue e X.env whole = (do let v ← whole; standAt e.pos; holding [v] (truthy v)) := by intro _; rfl) : PT X e (rdT X.K W (mT fa)) :=
  PTi (pt_val ha he) fun σ H Q ⟨I, m, l, c, R, L, A⟩ => ⟨I, m, l, c, R, L, After.mono (After.bind (rep := rD X.K) A) fun v1 H1 ⟨I1, m1, c1, d1, E1, R1, p1, A1⟩ => by
    cases p1 with
    | bl k => exact ⟨k, rfl, A1.here R1 rfl⟩
    | _ => exact A1.elim⟩
/-- a comparison as a test -/
theorem mt_cmp {op : CmpOp} {r : R2} (ho : OpR X (compareOp op) r) (hs : OpS X.K r g) (ha : PE X a (rdE X.K W fa)) (hb : PE X b (rdE X.K W fb)) (hm : behindInMarks op b = false) : PT X (.Compare a [op] [b] pos) (rdT X.K W (mT (mOp g fa fb))) :=
  PTi (pt_cmpR ho ha hb hm) fun σ H Q ⟨I, m, l, c, R, L, A⟩ => op_read hs ⟨I, m, l, c, R, L, After.mono (After.bind (rep := rD X.K) A) fun v1 H1 ⟨I1, m1, c1, d1, E1, R1, p1, A1⟩ => by
    cases p1 with
    | bl k => exact ⟨k, rfl, A1.here R1 rfl⟩
    | _ => exact A1.elim⟩
def tAndM (a b : MT) : MT := fun l c => (a l c).bind fun k c1 => match k with
  | true => b l c1
  | false => .ok false c1
def tOrM (a b : MT) : MT := fun l c => (a l c).bind fun k c1 => match k with
  | true => .ok true c1
  | false => b l c1
def tNotM (a : MT) : MT := fun l c => (a l c).bind fun k c1 => .ok (!k) c1
variable {ta tb : MT}
theorem mw_and1 (ha : PT X a (rdT X.K W ta)) : PW X (.BoolOp .And [a] pos) (rdT X.K W ta) := pw_and1 ha
theorem mw_or1 (ha : PT X a (rdT X.K W ta)) : PW X (.BoolOp .Or [a] pos) (rdT X.K W ta) := pw_or1 ha
theorem mw_and (ha : PT X a (rdT X.K W ta)) (hb : PW X (.BoolOp .And (b :: rest) pos) (rdT X.K W tb)) : PW X (.BoolOp .And (a :: b :: rest) pos) (rdT X.K W (tAndM ta tb)) :=
  PWi (pw_and ha hb) fun σ H Q ⟨I, m, l, c, R, L, A⟩ => ⟨I, m, l, c, R, L, After.mono (After.bind (rep := rB) A) fun v1 H1 ⟨I1, m1, c1, d1, E1, R1, p1, A1⟩ => by
    cases (show v1 = d1 from p1)
    cases v1 with
    | true => exact iteT <| ⟨I1, m1, l, c1, R1, L.ext E1, A1⟩
    | false => exact iteF <| A1.here R1 rfl⟩
theorem mw_or (ha : PT X a (rdT X.K W ta)) (hb : PW X (.BoolOp .Or (b :: rest) pos) (rdT X.K W tb)) : PW X (.BoolOp .Or (a :: b :: rest) pos) (rdT X.K W (tOrM ta tb)) :=
  PWi (pw_or ha hb) fun σ H Q ⟨I, m, l, c, R, L, A⟩ => ⟨I, m, l, c, R, L, After.mono (After.bind (rep := rB) A) fun v1 H1 ⟨I1, m1, c1, d1, E1, R1, p1, A1⟩ => by
    cases (show v1 = d1 from p1)
    cases v1 with
    | true => exact iteT <| A1.here R1 rfl
    | false => exact iteF <| ⟨I1, m1, l, c1, R1, L.ext E1, A1⟩⟩
theorem mt_not (ha : PT X a (rdT X.K W ta)) : PT X (.UnaryOp .Not a pos) (rdT X.K W (tNotM ta)) :=
  PTi (pt_not ha) fun σ H Q ⟨I, m, l, c, R, L, A⟩ => ⟨I, m, l, c, R, L, After.mono (After.bind (rep := rB) A) fun v1 H1 ⟨I1, m1, c1, d1, E1, R1, p1, A1⟩ => by
    cases (show v1 = d1 from p1)
    exact A1.here R1 rfl⟩
/-- and, or, not as values -/
def mAnd (a b : ME) : ME := fun l c => (a l c).bind fun x c1 => match x with
  | .bl true => b l c1
  | .bl false => .ok (.bl false) c1
  | _ => .stuck
def mOr (a b : ME) : ME := fun l c => (a l c).bind fun x c1 => match x with
  | .bl true => .ok (.bl true) c1
  | .bl false => b l c1
  | _ => .stuck
def mNot (a : ME) : ME := fun l c => (a l c).bind fun x c1 => match x with
  | .bl k => .ok (.bl (!k)) c1
  | _ => .stuck
theorem me_one {op : BoolOp} (ha : PE X a (rdE X.K W fa)) : PE X (.BoolOp op [a] pos) (rdE X.K W fa) := pe_one ha
theorem me_and (ha : PE X a (rdE X.K W fa)) (hb : PE X (.BoolOp .And (b :: rest) pos) (rdE X.K W fb)) : PE X (.BoolOp .And (a :: b :: rest) pos) (rdE X.K W (mAnd fa fb)) :=
  PEi (pe_and ha hb) fun σ H Q ⟨I, m, l, c, R, L, A⟩ => ⟨I, m, l, c, R, L, After.mono (After.bind (rep := rD X.K) A) fun v1 H1 ⟨I1, m1, c1, d1, E1, R1, p1, A1⟩ => by
    cases p1 with
    | bl k =>
      refine ⟨k, rfl, ?_⟩
      cases k with
      | true => exact iteT <| ⟨I1, m1, l, c1, R1, L.ext E1, A1⟩
      | false => exact iteF <| A1.here R1 (Rep.bl false)
    | _ => exact A1.elim⟩
theorem me_or (ha : PE X a (rdE X.K W fa)) (hb : PE X (.BoolOp .Or (b :: rest) pos) (rdE X.K W fb)) : PE X (.BoolOp .Or (a :: b :: rest) pos) (rdE X.K W (mOr fa fb)) :=
  PEi (pe_or ha hb) fun σ H Q ⟨I, m, l, c, R, L, A⟩ => ⟨I, m, l, c, R, L, After.mono (After.bind (rep := rD X.K) A) fun v1 H1 ⟨I1, m1, c1, d1, E1, R1, p1, A1⟩ => by
    cases p1 with
    | bl k =>
      refine ⟨k, rfl, ?_⟩
      cases k with
      | true => exact iteT <| A1.here R1 (Rep.bl true)
      | false => exact iteF <| ⟨I1, m1, l, c1, R1, L.ext E1, A1⟩
    | _ => exact A1.elim⟩
theorem me_not (ha : PE X a (rdE X.K W fa)) : PE X (.UnaryOp .Not a pos) (rdE X.K W (mNot fa)) :=
  PEi (pe_not ha) fun σ H Q ⟨I, m, l, c, R, L, A⟩ => ⟨I, m, l, c, R, L, After.mono (After.bind (rep := rD X.K) A) fun v1 H1 ⟨I1, m1, c1, d1, E1, R1, p1, A1⟩ => by
    cases p1 with
    | bl k => exact ⟨k, rfl, A1.here R1 (Rep.bl _)⟩
    | _ => exact A1.elim⟩
def mIf (t : MT) (a b : ME) : ME := fun l c => (t l c).bind fun k c1 => match k with
  | true => a l c1
  | false => b l c1
theorem me_if (ht : PT X c (rdT X.K W ta)) (ha : PE X a (rdE X.K W fa)) (hb : PE X b (rdE X.K W fb)) : PE X (.IfExp c a b pos) (rdE X.K W (mIf ta fa fb)) :=
  PEi (pe_ifExp ht ha hb) fun σ H Q ⟨I, m, l, c, R, L, A⟩ => ⟨I, m, l, c, R, L, After.mono (After.bind (rep := rB) A) fun v1 H1 ⟨I1, m1, c1, d1, E1, R1, p1, A1⟩ => by
    cases (show v1 = d1 from p1)
    cases v1 with
    | true => exact iteT <| ⟨I1, m1, l, c1, R1, L.ext E1, A1⟩
    | false => exact iteF <| ⟨I1, m1, l, c1, R1, L.ext E1, A1⟩⟩

/-! ### arguments, displays -/
def aNil : MA := fun _ c => .ok [] c
def aCons (a : ME) (t : MA) : MA := fun l c => (a l c).bind fun x c1 => (t l c1).bind fun xs c2 => .ok (x :: xs) c2
variable {ga : MA}
theorem ma_nil : PA X [] (rdA X.K W aNil) := PAi pa_nil fun σ H Q ⟨I, m, l, c, R, L, A⟩ => A.here R .nil
theorem ma_cons (ha : PE X e (rdE X.K W fa)) (ht : PA X es (rdA X.K W ga)) (hs : starEach (e :: es) X.env = (false, eval e X.env) :: starEach es X.env := by rfl) : PA X (e :: es) (rdA X.K W (aCons fa ga)) :=
  PAi (pa_cons ha ht hs) fun σ H Q ⟨I, m, l, c, R, L, A⟩ => ⟨I, m, l, c, R, L, After.mono (After.bind (rep := rD X.K) A) fun v1 H1 ⟨I1, m1, c1, d1, E1, R1, p1, A1⟩ =>
    ⟨I1, m1, l, c1, R1, L.ext E1, After.mono (After.bind (rep := rA X.K) A1) fun v2 H2 ⟨I2, m2, c2, d2, E2, R2, p2, A2⟩ => A2.here R2 (Reps.cons (Rep.ext p1 E2) p2)⟩⟩
/-- a size that fits -/
def fits {α : Type} (n : Nat) (r : R α) : R α := if n ≤ sizeLine then r else .stuck
theorem After.fits {α β : Type} {rep : Hp → List Addr → β → α → Prop} {K : PySem.W.Frag} {I H : Hp} {m : List Addr} {W : XK} {Q : β → Hp → Prop} {n : Nat} {r : R α} (h : After rep K I m H W Q (fits n r)) : n ≤ sizeLine ∧ After rep K I m H W Q r := by
  unfold Mi.fits at h
  split at h
  · exact ⟨by assumption, h⟩
  · exact h.elim
theorem After.new {K : PySem.W.Frag} {I H : Hp} {m : List Addr} {W : XK} {Q : VK} {c : Cs} {p : Addr} {o : HO} {d : D} (A : After (rD K) K I m H W Q (.ok d c)) (r : Rel K I H m c) (np : H p = none) (q : Rep K (upd I p o) m (.ref p) d) : Q (.ref p) (upd H p o) :=
  let ⟨r1, e1⟩ := alloc (o := o) r np
  A _ _ _ _ e1 r1 q
theorem upd_seen {I : Hp} {p : Addr} {o : HO} : upd I p o p = some o := upd_same
def mLst (t : MA) : ME := fun l c => (t l c).bind fun xs c1 => fits xs.length (.ok (.lst xs) c1)
def mTup (t : MA) : ME := fun l c => (t l c).bind fun xs c1 => fits xs.length (.ok (.tup xs) c1)
theorem same_upd {I H : Hp} {p : Addr} {o : HO} (s : Same I H) (np : H p = none) : Same I (upd I p o) := fun b u e => by rw [upd_ne (ne_of_none e (s.free np))]; exact e
theorem me_lst (h : PA X es (rdA X.K W ga)) : PE X (.List es pos) (rdE X.K W (mLst ga)) :=
  PEi (pe_lst h) fun σ H Q ⟨I, m, l, c, R, L, A⟩ => ⟨I, m, l, c, R, L, After.mono (After.bind (rep := rA X.K) A) fun v1 H1 ⟨I1, m1, c1, d1, E1, R1, p1, A1⟩ => by
    obtain ⟨z, A2⟩ := A1.fits
    have p1 : Reps X.K I1 m1 v1 d1 := p1
    exact ⟨by rw [p1.length]; exact z, fun p np => A2.new R1 np (.lst upd_same (p1.mono (same_upd R1.same np) (Pre.refl _)))⟩⟩
theorem me_tup {k : Nat} (h : PA X es (rdA X.K W ga)) : PE X (.Tuple es k pos) (rdE X.K W (mTup ga)) :=
  PEi (pe_tup h) fun σ H Q ⟨I, m, l, c, R, L, A⟩ => ⟨I, m, l, c, R, L, After.mono (After.bind (rep := rA X.K) A) fun v1 H1 ⟨I1, m1, c1, d1, E1, R1, p1, A1⟩ => by
    obtain ⟨z, A2⟩ := A1.fits
    have p1 : Reps X.K I1 m1 v1 d1 := p1
    exact ⟨by rw [p1.length]; exact z, fun p np => A2.new R1 np (.tup (SqT.of upd_same) (p1.mono (same_upd R1.same np) (Pre.refl _)))⟩⟩
end

/-! ### a cell is made, read, changed -/
theorem pre_app (m : List Addr) (a : Addr) : Pre m (m ++ [a]) := fun k b h => by
  have hk : k < m.length := (List.getElem?_eq_some_iff.mp h).1
  rw [List.getElem?_append_left hk]
  exact h
section
variable {K : PySem.W.Frag} {I H : Hp} {m : List Addr} {c : Cs}
/-- the addresses of cells are tracked, and not among what never changes unless frozen -/
theorem Rel.tracked (r : Rel K I H m c) {k : Nat} {a : Addr} (h : m[k]? = some a) : ∃ o, H a = some o := by
  have hk : k < c.length := by rw [← r.len]; exact (List.getElem?_eq_some_iff.mp h).1
  have q := r.cell k a c[k] h (List.getElem?_eq_getElem hk)
  cases e : c[k] with
  | lst ds => rw [e] at q; exact ⟨_, q.2.choose_spec.1⟩
  | dct ds => rw [e] at q; exact ⟨_, q.2.choose_spec.1⟩
  | ins C ds => rw [e] at q; obtain ⟨_, dx, vs, _, _, _, q5, _⟩ := q; exact q5.elim fun _ z => ⟨_, z.2⟩
  | frz d =>
    rw [e] at q
    cases z : I a with
    | none => exact absurd z q.1
    | some o => exact ⟨o, r.same _ _ z⟩
theorem Rel.fresh (r : Rel K I H m c) {p : Addr} (np : H p = none) : p ∉ m := fun h => by
  obtain ⟨k, hk⟩ := List.getElem?_of_mem h
  obtain ⟨o, e⟩ := r.tracked hk
  rw [np] at e; cases e
/-- a new mutable list -/
theorem Rel.push (r : Rel K I H m c) {p : Addr} (np : H p = none) {vs : List V} {ds : List D} (q : Reps K I m vs ds) : Rel K I (upd H p (.lst vs)) (m ++ [p]) (c ++ [.lst ds]) ∧ Ext I m H I (m ++ [p]) (upd H p (.lst vs)) := by
  have sH : Same H (upd H p (.lst vs)) := fun b u e => by rw [upd_ne (ne_of_none e np)]; exact e
  have hp := pre_app m p
  have nm := r.fresh np
  refine ⟨⟨r.same.trans sH, by simp [r.len], fun i j a h1 h2 => ?_, fun k a x h1 h2 => ?_⟩, Same.refl I, hp, fun b o h1 h2 h3 => ⟨sH _ _ h1, h2, ?_⟩⟩
  · rcases Nat.lt_or_ge i m.length with hi | hi
    · rcases Nat.lt_or_ge j m.length with hj | hj
      · rw [List.getElem?_append_left hi] at h1
        rw [List.getElem?_append_left hj] at h2
        exact r.nd i j a h1 h2
      · rw [List.getElem?_append_left hi] at h1
        rw [List.getElem?_append_right hj] at h2
        have e : a = p := by
          cases z : j - m.length with
          | zero => rw [z] at h2; simpa using h2.symm
          | succ n => rw [z] at h2; simp at h2
        exact absurd (List.mem_of_getElem? h1) (e ▸ nm)
    · rcases Nat.lt_or_ge j m.length with hj | hj
      · rw [List.getElem?_append_left hj] at h2
        rw [List.getElem?_append_right hi] at h1
        have e : a = p := by
          cases z : i - m.length with
          | zero => rw [z] at h1; simpa using h1.symm
          | succ n => rw [z] at h1; simp at h1
        exact absurd (List.mem_of_getElem? h2) (e ▸ nm)
      · have hi' := (List.getElem?_eq_some_iff.mp h1).1
        have hj' := (List.getElem?_eq_some_iff.mp h2).1
        simp at hi' hj'
        omega
  · rcases Nat.lt_or_ge k m.length with hk | hk
    · rw [List.getElem?_append_left hk] at h1
      rw [List.getElem?_append_left (by rw [← r.len]; exact hk)] at h2
      have q := r.cell k a x h1 h2
      cases x with
      | lst es =>
        obtain ⟨q1, ws, q2, q3⟩ := q
        exact ⟨q1, ws, sH _ _ q2, q3.mono (Same.refl I) hp⟩
      | dct es =>
        obtain ⟨q1, ws, q2, q3⟩ := q
        exact ⟨q1, ws, sH _ _ q2, q3.mono (Same.refl I) hp⟩
      | ins C es =>
        obtain ⟨q1, dx, ws, q2, q3, q4, q5, q6⟩ := q
        exact ⟨q1, dx, ws, q2, fun z => by
          rcases List.mem_append.mp z with z | z
          · exact q3 z
          · simp only [List.mem_singleton] at z
            exact ne_of_none q4 np z, sH _ _ q4, q5.imp fun _ z => ⟨z.1, sH _ _ z.2⟩, q6.mono (Same.refl I) hp⟩
      | frz d => exact ⟨q.1, q.2.mono (Same.refl I) hp⟩
    · have hk' := (List.getElem?_eq_some_iff.mp h1).1
      simp at hk'
      have e : k = m.length := by omega
      subst e
      rw [List.getElem?_append_right (Nat.le_refl _)] at h1
      rw [r.len, List.getElem?_append_right (Nat.le_refl _)] at h2
      simp at h1 h2
      subst h1; subst h2
      exact ⟨r.same.free np, vs, upd_same, q.mono (Same.refl I) hp⟩
  · intro z
    rcases List.mem_append.mp z with z | z
    · exact h3 z
    · simp only [List.mem_singleton] at z
      exact ne_of_none h1 np z
/-- a list's cell is rewritten -/
theorem Rel.put (r : Rel K I H m c) {k : Nat} {a : Addr} {vs : List V} {ds ds0 : List D} (hm : m[k]? = some a) (hc : c[k]? = some (.lst ds0)) (q : Reps K I m vs ds) : Rel K I (upd H a (.lst vs)) m (c.set k (.lst ds)) ∧ Ext I m H I m (upd H a (.lst vs)) := by
  obtain ⟨n1, ws, n2, n3⟩ := r.cell k a _ hm hc
  refine ⟨⟨fun b o e => ?_, by simp [r.len], r.nd, fun j b x h1 h2 => ?_⟩, Same.refl I, Pre.refl m, fun b o h1 h2 h3 => ⟨?_, h2, h3⟩⟩
  · rw [upd_ne (ne_of_none e n1)]
    exact r.same _ _ e
  · by_cases hj : k = j
    · subst hj
      rw [List.getElem?_set_self (List.getElem?_eq_some_iff.mp hc).1] at h2
      rw [hm] at h1
      cases h1; cases h2
      exact ⟨n1, vs, upd_same, q⟩
    · rw [List.getElem?_set_ne hj] at h2
      have nb : b ≠ a := fun e => hj (r.nd k j a hm (e ▸ h1))
      have q := r.cell j b x h1 h2
      cases x with
      | lst es =>
        obtain ⟨q1, ws, q2, q3⟩ := q
        exact ⟨q1, ws, by rw [upd_ne nb]; exact q2, q3⟩
      | dct es =>
        obtain ⟨q1, ws, q2, q3⟩ := q
        exact ⟨q1, ws, by rw [upd_ne nb]; exact q2, q3⟩
      | ins C es =>
        obtain ⟨q1, dx, ws, q2, q3, q4, q5, q6⟩ := q
        exact ⟨q1, dx, ws, q2, q3, by rw [upd_ne (ne_of q4 n2 (by intro z; cases z))]; exact q4, q5.imp fun _ z => ⟨z.1, by rw [upd_ne nb]; exact z.2⟩, q6⟩
      | frz d => exact q
  · rw [upd_ne (fun (e : b = a) => h3 (by rw [e]; exact List.mem_of_getElem? hm))]
    exact h1
/-- a list's cell does not change any more -/
theorem Rel.freeze (r : Rel K I H m c) {k : Nat} {a : Addr} {ds : List D} (hm : m[k]? = some a) (hc : c[k]? = some (.lst ds)) : ∃ I' : Hp, Rel K I' H m (c.set k (.frz (.lst ds))) ∧ Ext I m H I' m H ∧ Rep K I' m (.ref a) (.lst ds) := by
  obtain ⟨n1, ws, n2, n3⟩ := r.cell k a _ hm hc
  have sI : Same I (upd I a (.lst ws)) := fun b o e => by rw [upd_ne (ne_of_none e n1)]; exact e
  refine ⟨upd I a (.lst ws), ⟨fun b o e => ?_, by simp [r.len], r.nd, fun j b x h1 h2 => ?_⟩, ⟨sI, Pre.refl m, fun b o h1 h2 h3 => ⟨h1, ?_, h3⟩⟩, .lst upd_same (n3.mono sI (Pre.refl m))⟩
  · by_cases hb : b = a
    · subst hb
      rw [upd_same] at e
      cases e
      exact n2
    · rw [upd_ne hb] at e
      exact r.same _ _ e
  · by_cases hj : k = j
    · subst hj
      rw [List.getElem?_set_self (List.getElem?_eq_some_iff.mp hc).1] at h2
      rw [hm] at h1
      cases h1; cases h2
      exact ⟨by rw [upd_same]; exact nofun, .lst upd_same (n3.mono sI (Pre.refl m))⟩
    · rw [List.getElem?_set_ne hj] at h2
      have nb : b ≠ a := fun e => hj (r.nd k j a hm (e ▸ h1))
      have q := r.cell j b x h1 h2
      cases x with
      | lst es =>
        obtain ⟨q1, ws, q2, q3⟩ := q
        exact ⟨by rw [upd_ne nb]; exact q1, ws, q2, q3.mono sI (Pre.refl m)⟩
      | dct es =>
        obtain ⟨q1, ws, q2, q3⟩ := q
        exact ⟨by rw [upd_ne nb]; exact q1, ws, q2, q3.mono sI (Pre.refl m)⟩
      | ins C es =>
        obtain ⟨q1, dx, ws, q2, q3, q4, q5, q6⟩ := q
        exact ⟨by rw [upd_ne nb]; exact q1, dx, ws, by rw [upd_ne (ne_of q4 n2 (by intro z; cases z))]; exact q2, q3, q4, q5, q6.mono sI (Pre.refl m)⟩
      | frz d => exact ⟨by rw [upd_ne nb]; exact q.1, q.2.mono sI (Pre.refl m)⟩
  · rw [upd_ne (fun (e : b = a) => h3 (by rw [e]; exact List.mem_of_getElem? hm))]
    exact h2
end
end L2.Mi

namespace L2.Mi
open PySem PySem.Spec PyProof.Rows L2

section
variable {K : PySem.W.Frag}
/-- a pure answer -/
theorem pureD {I H : Hp} {m : List Addr} {c : Cs} {W : XK} {Q : VK} {v : V} {d : D} (A : After (rD K) K I m H W Q (.ok d c)) (r : Rel K I H m c) (p : Rep K I m v d) : Q v H := A.here r p

/-! ### + - * // % ** -/
def addD : D → D → Cs → R D
  | .int i, .int j, c => .ok (.int (i + j)) c
  | .str s, .str t, c => fits (s.length + t.length) (.ok (.str (s ++ t)) c)
  | .lst a, .lst b, c => fits (a.length + b.length) (.ok (.lst (a ++ b)) c)
  | .int i, .bl b, c => .ok (.int (i + b2i b)) c
  | .tup a, .tup b, c => match a, b with
    | [], _ => .stuck
    | _, [] => .stuck
    | _, _ => fits (a.length + b.length) (.ok (.tup (a ++ b)) c)
  | _, _, _ => .stuck
def rAddA (K : PySem.W.Frag) : R2 := fun x y H Q => (∃ i j, x = .int i ∧ y = .int j ∧ Q (.int (i + j)) H) ∨ (∃ i j, x = .str i ∧ y = .str j ∧ i.length + j.length ≤ sizeLine ∧ Q (.str (i ++ j)) H) ∨ rCat x y H Q ∨
  (∃ i k, x = .int i ∧ y = .bl k ∧ Q (.int (i + b2i k)) H) ∨ rCatT K x y H Q
theorem op_addA {X : Cx} : OpR X (binaryOp .Add) (rAddA X.K) := op_add.or (op_add_str.or (op_cat.or (op_add_ib.or op_catT)))
theorem os_add : OpS K (rAddA K) addD := fun I H m c v1 v2 d1 d2 W Q R p1 p2 A => by
  cases p1 with
  | int i =>
    cases p2 with
    | int j => exact .inl ⟨i, j, rfl, rfl, A.here R (.int _)⟩
    | bl b => exact .inr (.inr (.inr (.inl ⟨i, b, rfl, rfl, A.here R (.int _)⟩)))
    | _ => exact A.elim
  | str s =>
    cases p2 with
    | str t =>
      obtain ⟨z, A⟩ := After.fits (show After (rD K) K I m H W Q (fits (s.length + t.length) (.ok (.str (s ++ t)) c)) from A)
      exact .inr (.inl ⟨s, t, rfl, rfl, z, A.here R (.str _)⟩)
    | _ => exact A.elim
  | lst h1 r1 =>
    cases p2 with
    | @lst b ws es h2 r2 =>
      obtain ⟨z, A⟩ := After.fits A
      rw [← r1.length, ← r2.length] at z
      refine .inr (.inr (.inl ⟨_, b, _, _, rfl, rfl, R.same _ _ h1, R.same _ _ h2, z, fun p np => ?_⟩))
      exact A.new R np (.lst upd_same ((r1.append r2).mono (same_upd R.same np) (Pre.refl _)))
    | _ => exact A.elim
  | @tup a1 vs1 ds1 h1 r1 =>
    cases p2 with
    | @tup a2 vs2 ds2 h2 r2 =>
      cases ds1 with
      | nil => exact A.elim
      | cons x xs =>
        cases ds2 with
        | nil => exact A.elim
        | cons y ys =>
          obtain ⟨z, A⟩ := After.fits (show After (rD K) K I m H W Q (fits ((x :: xs).length + (y :: ys).length) (.ok (.tup ((x :: xs) ++ (y :: ys))) c)) from A)
          rw [← r1.length, ← r2.length] at z
          refine .inr (.inr (.inr (.inr ⟨_, a2, _, _, rfl, rfl, sqT_same R.same h1, sqT_same R.same h2, ?_, z, ?_, ?_⟩)))
          · intro e; rw [e] at r1; have := r1.length; simp at this
          · intro e; rw [e] at r2; have := r2.length; simp at this
          · exact fun _ p np => A.new R np (.tup (SqT.of upd_same) ((r1.append r2).mono (same_upd R.same np) (Pre.refl _)))
    | _ => exact A.elim
  | _ => exact A.elim

def subD : D → D → Cs → R D
  | .int i, .int j, c => .ok (.int (i - j)) c
  | _, _, _ => .stuck
theorem os_sub : OpS K (rI0 fun i j => .int (i - j)) subD := fun I H m c v1 v2 d1 d2 W Q R p1 p2 A => by
  cases p1 with
  | int i =>
    cases p2 with
    | int j => exact ⟨i, j, rfl, rfl, A.here R (.int _)⟩
    | _ => exact A.elim
  | _ => exact A.elim
/-- the guard of a rule about two ints -/
def intC (C : Int → Int → Prop) [∀ i j, Decidable (C i j)] (g : Int → Int → Int) : D → D → Cs → R D
  | .int i, .int j, c => if C i j then .ok (.int (g i j)) c else .stuck
  | _, _, _ => .stuck
theorem os_intC {C : Int → Int → Prop} [∀ i j, Decidable (C i j)] {g : Int → Int → Int} : OpS K (rI C fun i j => .int (g i j)) (intC C g) := fun I H m c v1 v2 d1 d2 W Q R p1 p2 A => by
  cases p1 with
  | int i =>
    cases p2 with
    | int j =>
      by_cases hc : C i j
      · have A2 : After (rD K) K I m H W Q (if C i j then .ok (.int (g i j)) c else .stuck) := A
        rw [if_pos hc] at A2
        exact ⟨i, j, rfl, rfl, hc, A2.here R (.int _)⟩
      · have A2 : After (rD K) K I m H W Q (if C i j then .ok (.int (g i j)) c else .stuck) := A
        rw [if_neg hc] at A2
        exact A2.elim
    | _ => exact A.elim
  | _ => exact A.elim
instance : ∀ i j, Decidable (CMul i j) := fun i j => inferInstanceAs (Decidable ((-(2 ^ 64) < i ∧ i < 2 ^ 64) ∨ (-(2 ^ 64) < j ∧ j < 2 ^ 64)))
instance : ∀ i j, Decidable (CDivN i j) := fun i j => inferInstanceAs (Decidable (j ≠ 0 ∧ j.natAbs < 1073741824))
instance : ∀ i j, Decidable (CPow i j) := fun i j => inferInstanceAs (Decidable (0 ≤ j ∧ j ≤ 1000000 ∧ i.natAbs < 2 ^ 64))
def CNz (_ j : Int) : Prop := j ≠ 0
instance : ∀ i j, Decidable (CNz i j) := fun i j => inferInstanceAs (Decidable (j ≠ 0))
/-- list * int, text * int are further on -/
def mulI : D → D → Cs → R D := intC CMul (· * ·)
def divI : D → D → Cs → R D := intC CDivN Int.fdiv
def modI : D → D → Cs → R D := intC CNz Int.fmod
def powI : D → D → Cs → R D := intC CPow fun i j => i ^ j.toNat
theorem os_mulI : OpS K (rI CMul fun i j => .int (i * j)) mulI := os_intC
theorem os_divI : OpS K (rI CDivN fun i j => .int (i.fdiv j)) divI := os_intC
theorem os_modI : OpS K (rI (fun _ j => j ≠ 0) fun i j => .int (i.fmod j)) modI := os_intC (C := CNz)
theorem os_powI : OpS K (rI CPow fun i j => .int (i ^ j.toNat)) powI := os_intC
def negD : D → Cs → R D
  | .int i, c => .ok (.int (-i)) c
  | _, _ => .stuck
theorem us_neg : UnS K (rU fun i => .int (-i)) negD := fun I H m c v1 d1 W Q R p1 A => by
  cases p1 with
  | int i => exact ⟨i, rfl, A.here R (.int _)⟩
  | _ => exact A.elim

/-! ### comparisons -/
def cmpI (p : Int → Int → Bool) : D → D → Cs → R D
  | .int i, .int j, c => .ok (.bl (p i j)) c
  | _, _, _ => .stuck
theorem os_cmpI {p : Int → Int → Bool} : OpS K (rI0 fun i j => .bl (p i j)) (cmpI p) := fun I H m c v1 v2 d1 d2 W Q R p1 p2 A => by
  cases p1 with
  | int i =>
    cases p2 with
    | int j => exact ⟨i, j, rfl, rfl, A.here R (.bl _)⟩
    | _ => exact A.elim
  | _ => exact A.elim
def rLtA : R2 := fun x y H Q => rI0 (fun i j => .bl (decide (i < j))) x y H Q ∨ ∃ i j, x = .str i ∧ y = .str j ∧ Q (.bl (decide (i.cps.toList < j.cps.toList))) H
def rLeA : R2 := fun x y H Q => rI0 (fun i j => .bl (decide (i ≤ j))) x y H Q ∨ ∃ i j, x = .str i ∧ y = .str j ∧ Q (.bl (!decide (j.cps.toList < i.cps.toList))) H
theorem op_ltA {X : Cx} : OpR X (compareOp .Lt) rLtA := op_lt.or op_lt_str
theorem op_leA {X : Cx} : OpR X (compareOp .LtE) rLeA := op_le.or op_le_str
def ltD : D → D → Cs → R D
  | .int i, .int j, c => .ok (.bl (decide (i < j))) c
  | .str i, .str j, c => .ok (.bl (decide (i.cps.toList < j.cps.toList))) c
  | _, _, _ => .stuck
def leD : D → D → Cs → R D
  | .int i, .int j, c => .ok (.bl (decide (i ≤ j))) c
  | .str i, .str j, c => .ok (.bl (!decide (j.cps.toList < i.cps.toList))) c
  | _, _, _ => .stuck
theorem os_lt : OpS K rLtA ltD := fun I H m c v1 v2 d1 d2 W Q R p1 p2 A => by
  cases p1 with
  | int i =>
    cases p2 with
    | int j => exact .inl ⟨i, j, rfl, rfl, A.here R (.bl _)⟩
    | _ => exact A.elim
  | str i =>
    cases p2 with
    | str j => exact .inr ⟨i, j, rfl, rfl, A.here R (.bl _)⟩
    | _ => exact A.elim
  | _ => exact A.elim
theorem os_le : OpS K rLeA leD := fun I H m c v1 v2 d1 d2 W Q R p1 p2 A => by
  cases p1 with
  | int i =>
    cases p2 with
    | int j => exact .inl ⟨i, j, rfl, rfl, A.here R (.bl _)⟩
    | _ => exact A.elim
  | str i =>
    cases p2 with
    | str j => exact .inr ⟨i, j, rfl, rfl, A.here R (.bl _)⟩
    | _ => exact A.elim
  | _ => exact A.elim
def gtD : D → D → Cs → R D := cmpI fun i j => decide (j < i)
def geD : D → D → Cs → R D := cmpI fun i j => decide (j ≤ i)

/-! ### data as the library has it -/
mutual
def toPy : D → Option PyData
  | .non => some .none
  | .bl b => some (.bool b)
  | .int i => some (.int i)
  | .str s => some (.str s)
  | .lst xs => match toPys xs with
    | some ys => some (.list ys)
    | none => none
  | .tup xs => match toPys xs with
    | some ys => some (.tuple ys)
    | none => none
  | _ => none
def toPys : List D → Option (List PyData)
  | [] => some []
  | x :: xs => match toPy x with
    | some y => match toPys xs with
      | some ys => some (y :: ys)
      | none => none
    | none => none
end
mutual
theorem rep_dp {I H : Hp} {m : List Addr} (s : Same I H) : ∀ {v : V} {d : D} {p : PyData}, Rep K I m v d → toPy d = some p → Dp K H v p
  | _, _, _, .non, e => by simp [toPy] at e; subst e; exact .non
  | _, _, _, .bl b, e => by simp [toPy] at e; subst e; exact .bl b
  | _, _, _, .int i, e => by simp [toPy] at e; subst e; exact .int i
  | _, _, _, .str x, e => by simp [toPy] at e; subst e; exact .str x
  | _, _, _, .lst (ds := ds) h r, e => by
    unfold toPy at e
    cases q : toPys ds with
    | none => rw [q] at e; cases e
    | some ys => rw [q] at e; cases e; exact .lst (SqL.of (s _ _ h)) (reps_dp s r q)
  | _, _, _, .tup (ds := ds) h r, e => by
    unfold toPy at e
    cases q : toPys ds with
    | none => rw [q] at e; cases e
    | some ys => rw [q] at e; cases e; exact .tup (sqT_same s h) (reps_dp s r q)
  | _, _, _, .ro h r, e => by simp [toPy] at e
  | _, _, _, .dct h r, e => by simp [toPy] at e
  | _, _, _, .ref h, e => by simp [toPy] at e
  | _, _, _, .obj hn h r, e => by simp [toPy] at e
  | _, _, _, .adr a, e => by simp [toPy] at e
  | _, _, _, .ty n, e => by simp [toPy] at e
theorem reps_dp {I H : Hp} {m : List Addr} (s : Same I H) : ∀ {v : List V} {d : List D} {p : List PyData}, Reps K I m v d → toPys d = some p → DpAll K H v p
  | _, _, _, .nil, e => by simp [toPys] at e; subst e; exact .nil
  | _, _, _, .cons (d := d) (ds := ds) h t, e => by
    unfold toPys at e
    cases q : toPy d with
    | none => rw [q] at e; cases e
    | some y =>
      cases q2 : toPys ds with
      | none => rw [q, q2] at e; cases e
      | some ys => rw [q, q2] at e; cases e; exact .cons (rep_dp s h q) (reps_dp s t q2)
end
/-- == of data -/
def eqP (neg : Bool) (d e : D) (c : Cs) : R D := match toPy d with
  | some a => match toPy e with
    | some b => if SeqAt.shaped a = true ∧ SeqAt.shaped b = true then .ok (.bl (if neg then !PyData.eqv a b else PyData.eqv a b)) c else .stuck
    | none => .stuck
  | none => .stuck
def eqD : D → D → Cs → R D
  | .int i, .int j, c => .ok (.bl (decide (i = j))) c
  | .str i, .str j, c => .ok (.bl (decide (i = j))) c
  | .bl i, .bl j, c => .ok (.bl (decide (i = j))) c
  | d, e, c => eqP false d e c
def neD : D → D → Cs → R D
  | .int i, .int j, c => .ok (.bl (!decide (i = j))) c
  | .str i, .str j, c => .ok (.bl (!decide (i = j))) c
  | .bl i, .bl j, c => .ok (.bl (!decide (i = j))) c
  | d, e, c => eqP true d e c
def rEqA (K : PySem.W.Frag) : R2 := fun x y H Q => rEq x y H Q ∨ rEqD K x y H Q
def rNeA (K : PySem.W.Frag) : R2 := fun x y H Q => rNe x y H Q ∨ rNeD K x y H Q
theorem op_eqA {X : Cx} (hu : X.A.units + 64 < cLine) : OpR X (compareOp .Eq) (rEqA X.K) := op_eq.or (op_eqD hu)
theorem op_neA {X : Cx} (hu : X.A.units + 64 < cLine) : OpR X (compareOp .NotEq) (rNeA X.K) := op_ne.or (op_neD hu)
theorem eqP_read {I H : Hp} {m : List Addr} {c : Cs} {W : XK} {Q : VK} {v1 v2 : V} {d1 d2 : D} {neg : Bool} (R : Rel K I H m c) (p1 : Rep K I m v1 d1) (p2 : Rep K I m v2 d2) (A : After (rD K) K I m H W Q (eqP neg d1 d2 c)) :
    ∃ d e, Dp K H v1 d ∧ Dp K H v2 e ∧ SeqAt.shaped d = true ∧ SeqAt.shaped e = true ∧ Q (.bl (if neg then !PyData.eqv d e else PyData.eqv d e)) H := by
  unfold eqP at A
  cases q1 : toPy d1 with
  | none => rw [q1] at A; exact A.elim
  | some a =>
    cases q2 : toPy d2 with
    | none => rw [q1, q2] at A; exact A.elim
    | some b =>
      rw [q1, q2] at A
      by_cases hs : SeqAt.shaped a = true ∧ SeqAt.shaped b = true
      · have A2 : After (rD K) K I m H W Q (if SeqAt.shaped a = true ∧ SeqAt.shaped b = true then .ok (.bl (if neg then !PyData.eqv a b else PyData.eqv a b)) c else .stuck) := A
        rw [if_pos hs] at A2
        exact ⟨a, b, rep_dp R.same p1 q1, rep_dp R.same p2 q2, hs.1, hs.2, A2.here R (.bl _)⟩
      · have A2 : After (rD K) K I m H W Q (if SeqAt.shaped a = true ∧ SeqAt.shaped b = true then .ok (.bl (if neg then !PyData.eqv a b else PyData.eqv a b)) c else .stuck) := A
        rw [if_neg hs] at A2
        exact A2.elim
theorem decV {α : Type} [DecidableEq α] {f : α → V} (hf : ∀ a b, f a = f b → a = b) (a b : α) : decide (f a = f b) = decide (a = b) := by
  by_cases h : a = b
  · subst h; simp
  · rw [decide_eq_false h, decide_eq_false fun e => h (hf _ _ e)]
theorem os_eq : OpS K (rEqA K) eqD := fun I H m c v1 v2 d1 d2 W Q R p1 p2 A => by
  have gen : After (rD K) K I m H W Q (eqP false d1 d2 c) → rEqA K v1 v2 H Q := fun A => .inr (eqP_read R p1 p2 A)
  cases p1 with
  | int i => cases p2 with
    | int j => exact .inl ⟨rfl, by rw [decV (f := V.int) fun _ _ e => V.int.inj e]; exact A.here R (.bl _)⟩
    | _ => exact gen A
  | str i => cases p2 with
    | str j => exact .inl ⟨rfl, by rw [decV (f := V.str) fun _ _ e => V.str.inj e]; exact A.here R (.bl _)⟩
    | _ => exact gen A
  | bl i => cases p2 with
    | bl j => exact .inl ⟨rfl, by rw [decV (f := V.bl) fun _ _ e => V.bl.inj e]; exact A.here R (.bl _)⟩
    | _ => exact gen A
  | _ => exact gen A
theorem os_ne : OpS K (rNeA K) neD := fun I H m c v1 v2 d1 d2 W Q R p1 p2 A => by
  have gen : After (rD K) K I m H W Q (eqP true d1 d2 c) → rNeA K v1 v2 H Q := fun A => .inr (eqP_read (neg := true) R p1 p2 A)
  cases p1 with
  | int i => cases p2 with
    | int j => exact .inl ⟨rfl, by rw [decV (f := V.int) fun _ _ e => V.int.inj e]; exact A.here R (.bl _)⟩
    | _ => exact gen A
  | str i => cases p2 with
    | str j => exact .inl ⟨rfl, by rw [decV (f := V.str) fun _ _ e => V.str.inj e]; exact A.here R (.bl _)⟩
    | _ => exact gen A
  | bl i => cases p2 with
    | bl j => exact .inl ⟨rfl, by rw [decV (f := V.bl) fun _ _ e => V.bl.inj e]; exact A.here R (.bl _)⟩
    | _ => exact gen A
  | _ => exact gen A
/-- is None, is not None -/
def isNoneD : D → Bool
  | .non => true
  | _ => false
def isD : D → D → Cs → R D := fun d e c => match e with
  | .non => .ok (.bl (isNoneD d)) c
  | _ => .stuck
def isntD : D → D → Cs → R D := fun d e c => match e with
  | .non => .ok (.bl (!isNoneD d)) c
  | _ => .stuck
theorem rep_non {I : Hp} {m : List Addr} {v : V} {d : D} (p : Rep K I m v d) : decide (v = .non) = isNoneD d := by
  cases p <;> first | rfl | exact decide_eq_false nofun
theorem os_is : OpS K (fun x y H Q => y = .non ∧ Q (.bl (decide (x = .non))) H) isD := fun I H m c v1 v2 d1 d2 W Q R p1 p2 A => by
  cases p2 with
  | non => exact ⟨rfl, by rw [rep_non p1]; exact A.here R (.bl _)⟩
  | _ => exact A.elim
theorem os_isnt : OpS K (fun x y H Q => y = .non ∧ Q (.bl (!decide (x = .non))) H) isntD := fun I H m c v1 v2 d1 d2 W Q R p1 p2 A => by
  cases p2 with
  | non => exact ⟨rfl, by rw [rep_non p1]; exact A.here R (.bl _)⟩
  | _ => exact A.elim

/-! ### in, not in -/
def cps1 : Str → Option Nat := fun s => match s.cps.toList with
  | [c] => some c
  | _ => none
theorem cps1_eq {s : Str} {k : Nat} (h : cps1 s = some k) : s = ⟨#[k]⟩ := by
  unfold cps1 at h
  split at h
  · rename_i c e
    cases h
    obtain ⟨⟨l⟩⟩ := s
    simp at e
    rw [e]
  · cases h
/-- in, not in: one sign in a text, a flat value in a list or tuple of flat values, data in a list of data -/
def sgn (neg b : Bool) : Bool := if neg then !b else b
mutual
def flatD : D → Bool
  | .non => true
  | .bl _ => true
  | .int _ => true
  | .str _ => true
  | _ => false
end
def eqF : D → D → Bool
  | .non, .non => true
  | .bl a, .bl b => a == b
  | .bl a, .int j => (if a then 1 else 0) == j
  | .int i, .bl b => i == (if b then 1 else 0)
  | .int i, .int j => i == j
  | .str x, .str y => x == y
  | _, _ => false
def inL (neg : Bool) (d : D) (ys : List D) (c : Cs) : R D :=
  if flatD d = true ∧ ys.all flatD = true then .ok (.bl (sgn neg (ys.any fun y => eqF y d))) c else .stuck
def inD (neg : Bool) : D → D → Cs → R D
  | .str a, .str b, c => match cps1 a with
    | some k => .ok (.bl (sgn neg (decide (k ∈ b.cps.toList)))) c
    | none => .stuck
  | d, .lst ys, c => inL neg d ys c
  | d, .tup ys, c => inL neg d ys c
  | _, _, _ => .stuck
theorem flat_rep {I : Hp} {m : List Addr} {v : V} {d : D} (p : Rep K I m v d) (f : flatD d = true) : flatV v = true := by
  cases p <;> first | rfl | exact absurd (show false = true from f) Bool.false_ne_true
theorem eqF_rep {I : Hp} {m : List Addr} {v w : V} {d e : D} (p : Rep K I m v d) (q : Rep K I m w e) (f : flatD d = true) (g : flatD e = true) : eqV v w = eqF d e := by
  cases p <;> first
    | exact absurd (show false = true from f) Bool.false_ne_true
    | (cases q <;> first | rfl | exact absurd (show false = true from g) Bool.false_ne_true)
theorem flat_reps {I : Hp} {m : List Addr} : ∀ {vs : List V} {ds : List D}, Reps K I m vs ds → ds.all flatD = true → vs.all flatV = true
  | _, _, .nil, _ => rfl
  | _, _, .cons h t, f => by
    rw [List.all_cons, Bool.and_eq_true] at f ⊢
    exact ⟨flat_rep h f.1, flat_reps t f.2⟩
theorem any_reps {I : Hp} {m : List Addr} {v : V} {d : D} (p : Rep K I m v d) (f : flatD d = true) : ∀ {vs : List V} {ds : List D}, Reps K I m vs ds → ds.all flatD = true → (vs.any fun y => eqV y v) = ds.any fun y => eqF y d
  | _, _, .nil, _ => rfl
  | _, _, .cons h t, g => by
    rw [List.all_cons, Bool.and_eq_true] at g
    rw [List.any_cons, List.any_cons, eqF_rep h p g.1 f, any_reps p f t g.2]
def rInA (K : PySem.W.Frag) (neg : Bool) : R2 := fun x y H Q => (∃ (k : Nat) (z : Str), x = .str ⟨#[k]⟩ ∧ y = .str z ∧ Q (.bl (sgn neg (decide (k ∈ z.cps.toList)))) H) ∨ rIn K neg x y H Q
theorem op_inA {X : Cx} : OpR X (compareOp .In) (rInA X.K false) := op_in_sign.or op_in_seq
theorem op_notinA {X : Cx} : OpR X (compareOp .NotIn) (rInA X.K true) := op_notIn_sign.or op_notIn_seq
theorem os_in {neg : Bool} : OpS K (rInA K neg) (inD neg) := fun I H m c v1 v2 d1 d2 W Q R p1 p2 A => by
  have seq : ∀ {p : Addr} {vs : List V} {ds : List D}, v2 = .ref p → (SqL K H p vs ∨ SqT K H p vs) → Reps K I m vs ds → After (rD K) K I m H W Q (inL neg d1 ds c) → rInA K neg v1 v2 H Q := fun {p vs ds} e hq rr A => by
    unfold inL at A
    by_cases hf : flatD d1 = true ∧ ds.all flatD = true
    · rw [if_pos hf] at A
      refine .inr ⟨p, vs, e, hq, flat_rep p1 hf.1, flat_reps rr hf.2, ?_⟩
      unfold inV
      rw [any_reps p1 hf.1 rr hf.2]
      exact A.here R (.bl _)
    · rw [if_neg hf] at A
      exact A.elim
  cases p2 with
  | str b =>
    cases p1 with
    | str a =>
      have A2 : After (rD K) K I m H W Q (match cps1 a with
        | some k => .ok (.bl (sgn neg (decide (k ∈ b.cps.toList)))) c
        | none => .stuck) := A
      cases q : cps1 a with
      | none => rw [q] at A2; exact A2.elim
      | some k =>
        rw [q] at A2
        exact .inl ⟨k, b, by rw [cps1_eq q], rfl, A2.here R (.bl _)⟩
    | _ => exact A.elim
  | lst h r => exact seq rfl (.inl (SqL.of (R.same _ _ h))) r (by cases p1 <;> exact A)
  | tup h r => exact seq rfl (.inr (sqT_same R.same h)) r (by cases p1 <;> exact A)
  | _ => cases p1 <;> exact A.elim

/-! ### items -/
theorem atI_reps {I : Hp} {m : List Addr} {vs : List V} {ds : List D} {i : Int} {d : D} (r : Reps K I m vs ds) (h : atI ds i = some d) : ∃ v, atI vs i = some v ∧ Rep K I m v d := by
  unfold atI at h ⊢
  rw [r.length]
  cases q : ixN ds.length i with
  | none => rw [q] at h; cases h
  | some j =>
    rw [q] at h
    exact r.get (i := j) h
def itL (ds : List D) (i : Int) (c : Cs) : R D := match atI ds i with
  | some d => .ok d c
  | none => .stuck
def itemD : D → D → Cs → R D
  | .lst ds, .int i, c => itL ds i c
  | .ro ds, .int i, c => itL ds i c
  | .tup ds, .int i, c => itL ds i c
  | .str s, .int i, c => fits s.length (match atI s.cps.toList i with
    | some k => .ok (.str ⟨#[k]⟩) c
    | none => .stuck)
  | .ref k, .int i, c => match c[k]? with
    | some (.lst ds) => itL ds i c
    | some (.frz (.lst ds)) => itL ds i c
    | _ => .stuck
  | _, _, _ => .stuck
theorem os_item : OpS K (rIx K) itemD := fun I H m c v1 v2 d1 d2 W Q R p1 p2 A => by
  have lst : ∀ {a : Addr} {vs : List V} {ds : List D} {i : Int}, v1 = .ref a → v2 = .int i → SqL K H a vs → Reps K I m vs ds → After (rD K) K I m H W Q (itL ds i c) → rIx K v1 v2 H Q := fun {a vs ds i} e1 e2 h r A => by
    unfold itL at A
    cases q : atI ds i with
    | none => rw [q] at A; exact A.elim
    | some d =>
      rw [q] at A
      obtain ⟨v, hv, pv⟩ := atI_reps r q
      exact .inl ⟨a, vs, i, v, e1, e2, h, hv, A.here R pv⟩
  cases p2 with
  | int i =>
    cases p1 with
    | lst h r => exact lst rfl rfl (SqL.of (R.same _ _ h)) r A
    | ro h r => exact lst rfl rfl (R.same.seq h) r A
    | @tup a vs ds h r =>
      have A2 : After (rD K) K I m H W Q (itL ds i c) := A
      unfold itL at A2
      cases q : atI ds i with
      | none => rw [q] at A2; exact A2.elim
      | some d =>
        rw [q] at A2
        obtain ⟨v, hv, pv⟩ := atI_reps r q
        exact .inr (.inl ⟨a, vs, i, v, rfl, rfl, sqT_same R.same h, hv, A2.here R pv⟩)
    | str s =>
      obtain ⟨z, A2⟩ := After.fits (show After (rD K) K I m H W Q (fits s.length (match atI s.cps.toList i with
        | some k => .ok (.str ⟨#[k]⟩) c
        | none => .stuck)) from A)
      cases q : atI s.cps.toList i with
      | none => rw [q] at A2; exact A2.elim
      | some k =>
        rw [q] at A2
        exact .inr (.inr ⟨s, i, k, rfl, rfl, z, q, A2.here R (.str _)⟩)
    | @ref k a h =>
      have A2 : After (rD K) K I m H W Q (match c[k]? with
        | some (.lst ds) => itL ds i c
        | some (.frz (.lst ds)) => itL ds i c
        | _ => .stuck) := A
      cases q : c[k]? with
      | none => rw [q] at A2; exact A2.elim
      | some x =>
        rw [q] at A2
        have hc := R.cell k a x h q
        cases x with
        | lst ds =>
          obtain ⟨_, vs, h1, h2⟩ := hc
          exact lst rfl rfl (SqL.of h1) h2 A2
        | frz d =>
          cases d with
          | lst ds =>
            obtain ⟨_, hr⟩ := hc
            cases hr with
            | lst h1 h2 => exact lst rfl rfl (SqL.of (R.same _ _ h1)) h2 A2
          | _ => exact A2.elim
        | _ => exact A2.elim
    | _ => exact A.elim
  | _ => cases p1 <;> exact A.elim

/-! ### slices -/
abbrev MO := Ls → Cs → R (Option Int)
def rO : Hp → List Addr → Option Int → Option Int → Prop := fun _ _ v d => v = d
abbrev rdO (K : PySem.W.Frag) (W : WX) (f : MO) : TO := rd rO K W f
def oNone : MO := fun _ c => .ok none c
def oSome (a : ME) : MO := fun l c => (a l c).bind fun x c1 => match x with
  | .int i => .ok (some i) c1
  | _ => .stuck
theorem POi {X : Cx} {e : Option Expr} {t t' : TO} (h : PO X e t) (w : ∀ σ H Q, t' σ H Q → t σ H Q) : PO X e t' := ⟨fun pins s σ H Q I q => h.run pins s σ H Q I (w σ H Q q)⟩
theorem mo_none {X : Cx} {W : WX} : PO X none (rdO X.K W oNone) := POi po_none fun σ H Q ⟨I, m, l, c, R, L, A⟩ => A.here R rfl
theorem mo_some {X : Cx} {W : WX} {e : Expr} {f : ME} (h : PE X e (rdE X.K W f)) : PO X (some e) (rdO X.K W (oSome f)) := POi (po_some h) fun σ H Q ⟨I, m, l, c, R, L, A⟩ =>
  ⟨I, m, l, c, R, L, After.mono (After.bind (rep := rD X.K) A) fun v1 H1 ⟨I1, m1, c1, d1, E1, R1, p1, A1⟩ => by
    cases p1 with
    | int i => exact ⟨i, rfl, A1.here R1 rfl⟩
    | _ => exact A1.elim⟩
def cutD (xs : List D) (lo hi : Option Int) : List D := (xs.drop (HT.sIx xs.length 0 lo)).take (HT.sIx xs.length xs.length hi - HT.sIx xs.length 0 lo)
theorem cut_reps {I : Hp} {m : List Addr} {vs : List V} {ds : List D} (lo hi : Option Int) (r : Reps K I m vs ds) : Reps K I m (cutV vs lo hi) (cutD ds lo hi) := by
  unfold cutV cutD
  rw [r.length]
  exact (r.drop _).take _
def sliceD (d : D) (lo hi : Option Int) (c : Cs) : R D := match d with
  | .lst ds => .ok (.lst (cutD ds lo hi)) c
  | .str s => fits s.length (.ok (.str (cutS s lo hi)) c)
  | .ref k => match c[k]? with
    | some (.lst ds) => .ok (.lst (cutD ds lo hi)) c
    | _ => .stuck
  | _ => .stuck
def mSlice (a : ME) (lo hi : MO) : ME := fun l c => (a l c).bind fun x c1 => (lo l c1).bind fun i c2 => (hi l c2).bind fun j c3 => sliceD x i j c3
def rSlA (K : PySem.W.Frag) : V → Option Int → Option Int → Hp → VK → Prop := fun x lo hi H Q => rSlL K x lo hi H Q ∨ rSlS x lo hi H Q
theorem me_slice {X : Cx} {W : WX} {e : Expr} {lo hi : Option Expr} {f : ME} {fl fh : MO} {p2 pos : Pos} (he : PE X e (rdE X.K W f)) (hl : PO X lo (rdO X.K W fl)) (hh : PO X hi (rdO X.K W fh)) :
    PE X (.Subscript e (.Slice lo hi none p2) pos) (rdE X.K W (mSlice f fl fh)) := PEi (pe_slice (r := rSlA X.K) (sl_list.or sl_str) he hl hh) fun σ H Q ⟨I, m, l, c, R, L, A⟩ => by
  refine ⟨I, m, l, c, R, L, After.mono (After.bind (rep := rD X.K) A) fun v1 H1 ⟨I1, m1, c1, d1, E1, R1, p1, A1⟩ => ?_⟩
  refine ⟨I1, m1, l, c1, R1, L.ext E1, After.mono (After.bind (rep := rO) A1) fun v2 H2 ⟨I2, m2, c2, d2, E2, R2, p2, A2⟩ => ?_⟩
  refine ⟨I2, m2, l, c2, R2, (L.ext E1).ext E2, After.mono (After.bind (rep := rO) A2) fun v3 H3 ⟨I3, m3, c3, d3, E3, R3, p3, A3⟩ => ?_⟩
  cases (show v2 = d2 from p2)
  cases (show v3 = d3 from p3)
  have p := Rep.ext (Rep.ext p1 E2) E3
  have new : ∀ {a : Addr} {vs : List V} {ds : List D}, v1 = .ref a → SqL X.K H3 a vs → Reps X.K I3 m3 vs ds → After (rD X.K) X.K I3 m3 H3 (fun cls dd H' => W cls dd σ H') Q (.ok (.lst (cutD ds v2 v3)) c3) → rSlA X.K v1 v2 v3 H3 Q := fun {a vs ds} e h r A =>
    .inl ⟨a, vs, e, h, fun q nq => A.new R3 nq (.lst upd_same ((cut_reps v2 v3 r).mono (same_upd R3.same nq) (Pre.refl _)))⟩
  cases p with
  | lst h r => exact new rfl (SqL.of (R3.same _ _ h)) r A3
  | str s =>
    obtain ⟨z, A4⟩ := After.fits (show After (rD X.K) X.K I3 m3 H3 (fun cls dd H' => W cls dd σ H') Q (fits s.length (.ok (.str (cutS s v2 v3)) c3)) from A3)
    exact .inr ⟨s, rfl, z, A4.here R3 (.str _)⟩
  | @ref k a h =>
    have A4 : After (rD X.K) X.K I3 m3 H3 (fun cls dd H' => W cls dd σ H') Q (match c3[k]? with
      | some (.lst ds) => .ok (.lst (cutD ds v2 v3)) c3
      | _ => .stuck) := A3
    cases q : c3[k]? with
    | none => rw [q] at A4; exact A4.elim
    | some x =>
      rw [q] at A4
      cases x with
      | lst ds =>
        obtain ⟨_, vs, h1, h2⟩ := R3.cell k a _ h q
        exact new rfl (SqL.of h1) h2 A4
      | _ => exact A4.elim
  | _ => exact A3.elim

/-! ### calls of built-ins -/
def CallS (K : PySem.W.Frag) (r : List V → Hp → VK → Prop) (g : List D → Cs → R D) : Prop := ∀ (I H : Hp) (m : List Addr) (c : Cs) (vs : List V) (ds : List D) (W : XK) (Q : VK),
  Rel K I H m c → Reps K I m vs ds → After (rD K) K I m H W Q (g ds c) → r vs H Q
def mCB (g : List D → Cs → R D) (t : MA) : ME := fun l c => (t l c).bind fun xs c1 => g xs c1
theorem cb_read {X : Cx} {W : WX} {r : List V → Hp → VK → Prop} {g : List D → Cs → R D} {ga : MA} {σ : St} {H : Hp} {Q : VK} (hs : CallS X.K r g) (h : rdE X.K W (mCB g ga) σ H Q) : tCB r (rdA X.K W ga) σ H Q := by
  obtain ⟨I, m, l, c, R, L, A⟩ := h
  exact ⟨I, m, l, c, R, L, After.mono (After.bind (rep := rA X.K) A) fun v1 H1 ⟨I1, m1, c1, d1, E1, R1, p1, A1⟩ => hs _ _ _ _ _ _ _ _ R1 p1 A1⟩
def lenC (x : D) (c : Cs) : Option Nat := match x with
  | .lst ds => some ds.length
  | .ro ds => some ds.length
  | .tup ds => some ds.length
  | .str s => if s.length ≤ sizeLine then some s.length else none
  | .ref k => match c[k]? with
    | some (.lst ds) => some ds.length
    | some (.frz (.lst ds)) => some ds.length
    | _ => none
  | _ => none
def lenD : List D → Cs → R D
  | [x], c => match lenC x c with
    | some n => .ok (.int n) c
    | none => .stuck
  | _, _ => .stuck
theorem cs_len : CallS K (fun xs H Q => ∃ x n, xs = [x] ∧ LenV K x H n ∧ Q (.int n) H) lenD := fun I H m c vs ds W Q R p A => by
  cases p with
  | nil => exact A.elim
  | @cons v _ d _ h t =>
    cases t with
    | cons _ _ => exact A.elim
    | nil =>
      have A2 : After (rD K) K I m H W Q (match lenC d c with
        | some n => .ok (.int n) c
        | none => .stuck) := A
      have fin : ∀ {n : Nat}, lenC d c = some n → LenV K v H n → ∃ x n, [v] = [x] ∧ LenV K x H n ∧ Q (.int n) H := fun {n} e hl => by
        rw [e] at A2
        exact ⟨v, n, rfl, hl, A2.here R (.int _)⟩
      cases h with
      | lst h r => exact fin rfl (.inl ⟨_, SqL.of (R.same _ _ h), r.length.symm⟩)
      | ro h r => exact fin rfl (.inl ⟨_, R.same.seq h, r.length.symm⟩)
      | tup h r => exact fin rfl (.inr ⟨_, sqT_same R.same h, r.length.symm⟩)
      | str s =>
        by_cases hz : s.length ≤ sizeLine
        · exact fin (if_pos hz) ⟨hz, rfl⟩
        · rw [show lenC (.str s) c = none from if_neg hz] at A2
          exact A2.elim
      | @ref k a h =>
        have lk : lenC (.ref k) c = (match c[k]? with
          | some (.lst ds) => some ds.length
          | some (.frz (.lst ds)) => some ds.length
          | _ => none) := rfl
        cases q : c[k]? with
        | none => rw [lk, q] at A2; exact A2.elim
        | some x =>
          have hc := R.cell k a x h q
          cases x with
          | lst ds =>
            obtain ⟨_, vs, h1, h2⟩ := hc
            exact fin (by rw [lk, q]) (.inl ⟨_, SqL.of h1, h2.length.symm⟩)
          | frz d =>
            cases d with
            | lst ds =>
              obtain ⟨_, hr⟩ := hc
              cases hr with
              | lst h1 h2 => exact fin (by rw [lk, q]) (.inl ⟨_, SqL.of (R.same _ _ h1), h2.length.symm⟩)
            | _ => rw [lk, q] at A2; exact A2.elim
          | _ => rw [lk, q] at A2; exact A2.elim
      | _ => exact A2.elim
def ints2 (g : Int → Int → Int) : List D → Cs → R D
  | [.int i, .int j], c => .ok (.int (g i j)) c
  | _, _ => .stuck
theorem two_ints {I H : Hp} {m : List Addr} {c : Cs} {W : XK} {Q : VK} {vs : List V} {ds : List D} {g : Int → Int → Int} (R : Rel K I H m c) (p : Reps K I m vs ds) (A : After (rD K) K I m H W Q (ints2 g ds c)) : ∃ i j, vs = [.int i, .int j] ∧ Q (.int (g i j)) H := by
  cases p with
  | nil => exact A.elim
  | cons h t =>
    cases t with
    | nil => cases h <;> exact A.elim
    | cons h2 t2 =>
      cases t2 with
      | cons _ _ => cases h <;> first | exact A.elim | (cases h2 <;> exact A.elim)
      | nil =>
        cases h with
        | int i =>
          cases h2 with
          | int j => exact ⟨i, j, rfl, A.here R (.int _)⟩
          | _ => exact A.elim
        | _ => exact A.elim
def max2 : List D → Cs → R D := ints2 fun i j => if j > i then j else i
def min2 : List D → Cs → R D := ints2 fun i j => if j < i then j else i
theorem cs_max2 : CallS K (fun xs H Q => ∃ i j, xs = [.int i, .int j] ∧ Q (.int (if j > i then j else i)) H) max2 := fun I H m c vs ds W Q R p A => two_ints R p A
theorem cs_min2 : CallS K (fun xs H Q => ∃ i j, xs = [.int i, .int j] ∧ Q (.int (if j < i then j else i)) H) min2 := fun I H m c vs ds W Q R p A => two_ints R p A
end
end L2.Mi

namespace L2.Mi
open PySem PySem.Spec PyProof.Rows L2

/-! ### statements -/
inductive Fl where
  | nx (l : Ls)
  | rt (d : D)
  | bk (l : Ls)
  | ct (l : Ls)
inductive RS where
  | stuck
  | go (f : Fl) (c : Cs)
  | exc (x : Ex) (l : Ls) (c : Cs)
abbrev MS := Ls → Cs → RS
/-- what is wanted behind a statement -/
def AfterS (K : PySem.W.Frag) (I : Hp) (m : List Addr) (H : Hp) (W : WX) (D : Ends) : RS → Prop
  | .stuck => False
  | .go (.nx l) c => ∀ I' m' H' σ', Ext I m H I' m' H' → Rel K I' H' m' c → Locs K I' m' σ' l → D.nx σ' H'
  | .go (.rt d) c => ∀ I' m' H' v, Ext I m H I' m' H' → Rel K I' H' m' c → Rep K I' m' v d → D.rt v H'
  | .go (.bk l) c => ∀ I' m' H' σ', Ext I m H I' m' H' → Rel K I' H' m' c → Locs K I' m' σ' l → D.bk σ' H'
  | .go (.ct l) c => ∀ I' m' H' σ', Ext I m H I' m' H' → Rel K I' H' m' c → Locs K I' m' σ' l → D.ct σ' H'
  | .exc x l c => ∀ I' m' H' σ' cls dd, Ext I m H I' m' H' → Rel K I' H' m' c → Locs K I' m' σ' l → RepX K I' m' H' cls dd x → W cls dd σ' H'
def rdS (K : PySem.W.Frag) (W : WX) (f : MS) : TS := fun D σ H => ∃ I m l c, Rel K I H m c ∧ Locs K I m σ l ∧ AfterS K I m H W D (f l c)
theorem AfterS.ext {K : PySem.W.Frag} {I I1 H H1 : Hp} {m m1 : List Addr} {W : WX} {D : Ends} {r : RS} (e : Ext I m H I1 m1 H1) (a : AfterS K I m H W D r) : AfterS K I1 m1 H1 W D r := by
  cases r with
  | stuck => exact a
  | exc x l c => exact fun I' m' H' σ' cls dd e' => a I' m' H' σ' cls dd (e.trans e')
  | go f c => cases f <;> exact fun I' m' H' v e' => a I' m' H' v (e.trans e')
/-- an expression, then a statement -/
def R.seq {α : Type} (r : R α) (l : Ls) (f : α → Cs → RS) : RS := match r with
  | .stuck => .stuck
  | .ok a c => f a c
  | .exc x c => .exc x l c
@[simp] theorem R.seq_ok {α : Type} (a : α) (c : Cs) (l : Ls) (f : α → Cs → RS) : (R.ok a c).seq l f = f a c := rfl
@[simp] theorem R.seq_exc {α : Type} (x : Ex) (c : Cs) (l : Ls) (f : α → Cs → RS) : (R.exc x c : R α).seq l f = .exc x l c := rfl
@[simp] theorem R.seq_stuck {α : Type} (l : Ls) (f : α → Cs → RS) : (R.stuck : R α).seq l f = .stuck := rfl
def MidS {α β : Type} (rep : Hp → List Addr → β → α → Prop) (K : PySem.W.Frag) (I : Hp) (m : List Addr) (H : Hp) (W : WX) (D : Ends) (f : α → Cs → RS) (v : β) (H1 : Hp) : Prop :=
  ∃ I1 m1 c1 a, Ext I m H I1 m1 H1 ∧ Rel K I1 H1 m1 c1 ∧ rep I1 m1 v a ∧ AfterS K I1 m1 H1 W D (f a c1)
theorem AfterS.seq {α β : Type} {rep : Hp → List Addr → β → α → Prop} {K : PySem.W.Frag} {I H : Hp} {m : List Addr} {W : WX} {D : Ends} {r : R α} {l : Ls} {σ : St} {f : α → Cs → RS} (L : Locs K I m σ l) (a : AfterS K I m H W D (r.seq l f)) :
    After rep K I m H (fun cls dd H' => W cls dd σ H') (MidS rep K I m H W D f) r := by
  cases r with
  | stuck => exact a
  | ok d c => exact fun I' m' H' v e' r' p => ⟨I', m', c, d, e', r', p, AfterS.ext e' a⟩
  | exc x c => exact fun I' m' H' cls dd e r p => a I' m' H' σ cls dd e r (L.ext e) p
/-- a statement, then another one -/
def RS.next (r : RS) (f : Ls → Cs → RS) : RS := match r with
  | .go (.nx l) c => f l c
  | r => r
@[simp] theorem RS.next_nx (l : Ls) (c : Cs) (f : Ls → Cs → RS) : (RS.go (.nx l) c).next f = f l c := rfl
@[simp] theorem RS.next_rt (d : D) (c : Cs) (f : Ls → Cs → RS) : (RS.go (.rt d) c).next f = .go (.rt d) c := rfl
@[simp] theorem RS.next_bk (l : Ls) (c : Cs) (f : Ls → Cs → RS) : (RS.go (.bk l) c).next f = .go (.bk l) c := rfl
@[simp] theorem RS.next_ct (l : Ls) (c : Cs) (f : Ls → Cs → RS) : (RS.go (.ct l) c).next f = .go (.ct l) c := rfl
@[simp] theorem RS.next_exc (x : Ex) (l : Ls) (c : Cs) (f : Ls → Cs → RS) : (RS.exc x l c).next f = .exc x l c := rfl
@[simp] theorem RS.next_stuck (f : Ls → Cs → RS) : RS.stuck.next f = .stuck := rfl

theorem PSi {X : Cx} {s : Stmt} {t t' : TS} (h : PS X s t) (w : ∀ D σ H, t' D σ H → t D σ H) : PS X s t' := ⟨fun pins s σ H D I q => h.run pins s σ H D I (w D σ H q)⟩
theorem PSsi {X : Cx} {s : List Stmt} {t t' : TS} (h : PSs X s t) (w : ∀ D σ H, t' D σ H → t D σ H) : PSs X s t' := ⟨fun pins s σ H D I q => h.run pins s σ H D I (w D σ H q)⟩

section
variable {X : Cx} {W : WX} {e a b : Expr} {es : List Expr} {s : Stmt} {ss body orelse : List Stmt} {pos : Pos} {fa : ME} {ta : MT} {f g : MS}
def sNil : MS := fun l c => .go (.nx l) c
def sSeq (f g : MS) : MS := fun l c => (f l c).next g
theorem ms_nil : PSs X [] (rdS X.K W sNil) := PSsi pss_nil fun D σ H ⟨I, m, l, c, R, L, A⟩ => A I m H σ (Ext.refl _ _ _) R L
theorem seq_read {K : PySem.W.Frag} {D : Ends} {σ : St} {H : Hp} (h : rdS K W (sSeq f g) D σ H) : tSeq (rdS K W f) (rdS K W g) D σ H := by
  obtain ⟨I, m, l, c, R, L, A⟩ := h
  refine ⟨I, m, l, c, R, L, ?_⟩
  have A : AfterS K I m H W D ((f l c).next g) := A
  cases q : f l c with
  | stuck => rw [q] at A; exact A
  | exc x l' c' => rw [q] at A; exact A
  | go fl c' =>
    rw [q] at A
    cases fl with
    | nx l' => exact fun I' m' H' σ' e' r' L' => ⟨I', m', l', c', r', L', AfterS.ext e' A⟩
    | rt d => exact A
    | bk l' => exact A
    | ct l' => exact A
theorem ms_cons (h1 : PS X s (rdS X.K W f)) (h2 : PSs X ss (rdS X.K W g)) : PSs X (s :: ss) (rdS X.K W (sSeq f g)) := PSsi (pss_cons h1 h2) fun _ _ _ h => seq_read h
theorem ms_one (h1 : PS X s (rdS X.K W f)) : PSs X [s] (rdS X.K W f) := pss_one h1
theorem ms_pass : PS X (.Pass pos) (rdS X.K W sNil) := PSi ps_pass fun D σ H ⟨I, m, l, c, R, L, A⟩ => A I m H σ (Ext.refl _ _ _) R L
def sBreak : MS := fun l c => .go (.bk l) c
def sCont : MS := fun l c => .go (.ct l) c
theorem ms_break : PS X (.Break pos) (rdS X.K W sBreak) := PSi ps_break fun D σ H ⟨I, m, l, c, R, L, A⟩ => A I m H σ (Ext.refl _ _ _) R L
theorem ms_cont : PS X (.Continue pos) (rdS X.K W sCont) := PSi ps_continue fun D σ H ⟨I, m, l, c, R, L, A⟩ => A I m H σ (Ext.refl _ _ _) R L
def sExpr (a : ME) : MS := fun l c => (a l c).seq l fun _ c1 => .go (.nx l) c1
theorem ms_expr (h : PE X e (rdE X.K W fa)) (hs : swapsWith e none pos.line X.env = pure false := by rfl) : PS X (.Expr e pos) (rdS X.K W (sExpr fa)) := PSi (ps_expr h hs) fun D σ H ⟨I, m, l, c, R, L, A⟩ =>
  ⟨I, m, l, c, R, L, After.mono (AfterS.seq (rep := rD X.K) L A) fun v1 H1 ⟨I1, m1, c1, d1, E1, R1, p1, A1⟩ => A1 I1 m1 H1 σ (Ext.refl _ _ _) R1 (L.ext E1)⟩
def sRet (a : ME) : MS := fun l c => (a l c).seq l fun d c1 => .go (.rt d) c1
theorem ms_ret (h : PE X e (rdE X.K W fa)) : PS X (.Return (some e) pos) (rdS X.K W (sRet fa)) := PSi (ps_ret h) fun D σ H ⟨I, m, l, c, R, L, A⟩ =>
  ⟨I, m, l, c, R, L, After.mono (AfterS.seq (rep := rD X.K) L A) fun v1 H1 ⟨I1, m1, c1, d1, E1, R1, p1, A1⟩ => A1 I1 m1 H1 v1 (Ext.refl _ _ _) R1 p1⟩
def sRetN : MS := fun _ c => .go (.rt .non) c
theorem ms_retN : PS X (.Return none pos) (rdS X.K W sRetN) := PSi ps_retN fun D σ H ⟨I, m, l, c, R, L, A⟩ => A I m H .non (Ext.refl _ _ _) R .non
def sIf (t : MT) (f g : MS) : MS := fun l c => (t l c).seq l fun k c1 => match k with
  | true => f l c1
  | false => g l c1
theorem ms_if {c : Expr} {sa sb : List Stmt} (ht : PT X c (rdT X.K W ta)) (ha : PSs X sa (rdS X.K W f)) (hb : PSs X sb (rdS X.K W g)) : PS X (.If c sa sb pos) (rdS X.K W (sIf ta f g)) := PSi (ps_if ht ha hb) fun D σ H ⟨I, m, l, c, R, L, A⟩ =>
  ⟨I, m, l, c, R, L, After.mono (AfterS.seq (rep := rB) L A) fun v1 H1 ⟨I1, m1, c1, d1, E1, R1, p1, A1⟩ => by
    cases (show v1 = d1 from p1)
    cases v1 with
    | true => exact iteT ⟨I1, m1, l, c1, R1, L.ext E1, A1⟩
    | false => exact iteF ⟨I1, m1, l, c1, R1, L.ext E1, A1⟩⟩

/-! ### targets -/
abbrev MG := D → Ls → Cs → R Ls
def rL (K : PySem.W.Frag) : Hp → List Addr → St → Ls → Prop := fun I m σ l => Locs K I m σ l
/-- what a target does with a value; an exception would leave with the locals as they were -/
def rdG (K : PySem.W.Frag) (W : WX) (g : MG) : TG := fun v σ H Q => ∃ I m l c d, Rel K I H m c ∧ Locs K I m σ l ∧ Rep K I m v d ∧ After (rL K) K I m H (fun cls dd H' => W cls dd σ H') Q (g d l c)
theorem PGi {tg : Expr} {t t' : TG} (h : PG X tg t) (w : ∀ v σ H Q, t' v σ H Q → t v σ H Q) : PG X tg t' := ⟨fun pins s σ H v u Q I r q => h.run pins s σ H v u Q I r (w v σ H Q q)⟩
def gN (i : Nat) : MG := fun d l c => .ok (l.set i (some d)) c
theorem mg_name {i : Nat} {x : Str} (hN : X.N.Nodup) (hi : X.N[i]? = some x) (hx : Loc X.env.scope x) (hf : X.fn x = true ∨ X.env.scope.names.lookup x = some .local := by first | exact .inl rfl | exact .inr rfl | assumption) : PG X (.Name x pos) (rdG X.K W (gN i)) :=
  PGi (pg_name hN hi hx hf) fun v σ H Q ⟨I, m, l, c, d, R, L, p, A⟩ => A.here R (L.set i p)
abbrev MGs := List D → Ls → Cs → R Ls
def rdGs (K : PySem.W.Frag) (W : WX) (g : MGs) : TGs := fun vs σ H Q => ∃ I m l c ds, Rel K I H m c ∧ Locs K I m σ l ∧ Reps K I m vs ds ∧ After (rL K) K I m H (fun cls dd H' => W cls dd σ H') Q (g ds l c)
theorem PGsi {tgs : List Expr} {t t' : TGs} (h : PGs X tgs t) (w : ∀ v σ H Q, t' v σ H Q → t v σ H Q) : PGs X tgs t' := ⟨fun pins s σ H v u Q I r q => h.run pins s σ H v u Q I r (w v σ H Q q)⟩
/-- a, b, .. = a tuple, all names -/
def gNs (js : List Nat) : MGs := fun ds l c => match js, ds with
  | [], [] => .ok l c
  | i :: js, d :: ds => gNs js ds (l.set i (some d)) c
  | _, _ => .stuck
theorem mgs_nil : PGs X [] (rdGs X.K W (gNs [])) := PGsi pgs_nil fun vs σ H Q ⟨I, m, l, c, ds, R, L, p, A⟩ => by
  cases p with
  | nil => exact ⟨rfl, A.here R L⟩
  | cons h t => exact A.elim
theorem mgs_cons {i : Nat} {x : Str} {js : List Nat} {p : Pos} (hN : X.N.Nodup) (hi : X.N[i]? = some x) (hx : Loc X.env.scope x) (h2 : PGs X es (rdGs X.K W (gNs js)))
    (hs : (assignEach (.Name x p :: es) X.env).map (·.2) = assign (.Name x p) X.env :: (assignEach es X.env).map (·.2) := by rfl)
    (hf : X.fn x = true ∨ X.env.scope.names.lookup x = some .local := by first | exact .inl rfl | exact .inr rfl | assumption) : PGs X (.Name x p :: es) (rdGs X.K W (gNs (i :: js))) :=
  PGsi (pgs_cons (pg_name hN hi hx hf) h2 hs) fun vs σ H Q ⟨I, m, l, c, ds, R, L, p, A⟩ => by
    cases p with
    | nil => exact A.elim
    | cons h t =>
      refine ⟨_, _, rfl, I, m, l.set i _, c, _, R, L.set i h, t, ?_⟩
      revert A
      show After (rL X.K) X.K I m H (fun cls dd H' => W cls dd σ H') Q (gNs js _ (l.set i _) c) → _
      have never : ∀ (js : List Nat) (ds : List D) (l : Ls) (c : Cs) (x : Ex) (c' : Cs), gNs js ds l c ≠ .exc x c' := by
        intro js
        induction js with
        | nil => intro ds l c x c' e; cases ds <;> cases e
        | cons i js ih =>
          intro ds l c x c' e
          cases ds with
          | nil => cases e
          | cons d ds => exact ih _ _ _ _ _ e
      intro A
      generalize hq : gNs js _ (l.set i _) c = r at A ⊢
      cases r with
      | stuck => exact A
      | ok _ _ => exact A
      | exc x c' => exact absurd hq (never _ _ _ _ _ _)
def gT (js : List Nat) : MG := fun d l c => match d with
  | .tup ds => if ds.length = js.length then gNs js ds l c else .stuck
  | _ => .stuck
theorem mg_tup {k : Nat} {js : List Nat} (hc : X.calm = true) (h : PGs X es (rdGs X.K W (gNs js)))
    (hn : (assignEach es X.env).length = js.length := by rfl) (hst : (assignEach es X.env).findIdx? (·.1) = none := by rfl) : PG X (.Tuple es k pos) (rdG X.K W (gT js)) :=
  PGi (pg_tup hc h hn hst) fun v σ H Q ⟨I, m, l, c, d, R, L, p, A⟩ => by
    cases p with
    | @tup a vs ds h r =>
      by_cases hl : ds.length = js.length
      · have A2 : After (rL X.K) X.K I m H (fun cls dd H' => W cls dd σ H') Q (if ds.length = js.length then gNs js ds l c else .stuck) := A
        rw [if_pos hl] at A2
        exact ⟨a, vs, rfl, sqT_same R.same h, r.length.trans hl, I, m, l, c, ds, R, L, r, A2⟩
      · have A2 : After (rL X.K) X.K I m H (fun cls dd H' => W cls dd σ H') Q (if ds.length = js.length then gNs js ds l c else .stuck) := A
        rw [if_neg hl] at A2
        exact A2.elim
    | _ => exact A.elim
/-- o[i] = v, at a list's cell -/
def putD (o i v : D) (c : Cs) : R Unit := match o, i with
  | .ref k, .int j => match c[k]? with
    | some (.lst ds) => match ixN ds.length j with
      | some n => .ok () (c.set k (.lst (ds.set n v)))
      | none => .stuck
    | _ => .stuck
  | _, _ => .stuck
def gS (o i : ME) : MG := fun d l c => (o l c).bind fun x c1 => (i l c1).bind fun y c2 => (putD x y d c2).bind fun _ c3 => .ok l c3
theorem mg_sub {tg : Expr} {fo fi : ME} (h : PG X tg (gSub (rdE X.K W fo) (rdE X.K W fi) rSetL)) : PG X tg (rdG X.K W (gS fo fi)) :=
  PGi h fun v σ H Q ⟨I, m, l, c, d, R, L, p, A⟩ => by
    refine ⟨I, m, l, c, R, L, After.mono (After.bind (rep := rD X.K) A) fun v1 H1 ⟨I1, m1, c1, d1, E1, R1, p1, A1⟩ => ?_⟩
    refine ⟨I1, m1, l, c1, R1, L.ext E1, After.mono (After.bind (rep := rD X.K) A1) fun v2 H2 ⟨I2, m2, c2, d2, E2, R2, p2, A2⟩ => ?_⟩
    have pd := Rep.ext (Rep.ext p E1) E2
    have L2 := (L.ext E1).ext E2
    have q1 := Rep.ext p1 E2
    cases q1 with
    | @ref k a hk =>
      cases p2 with
      | int j =>
        have A3 : After (rL X.K) X.K I2 m2 H2 (fun cls dd H' => W cls dd σ H') Q ((match c2[k]? with
          | some (.lst ds) => match ixN ds.length j with
            | some n => .ok () (c2.set k (.lst (ds.set n d)))
            | none => .stuck
          | _ => .stuck : Mi.R Unit).bind fun _ c3 => .ok l c3) := A2
        cases q : c2[k]? with
        | none => rw [q] at A3; exact A3.elim
        | some x =>
          rw [q] at A3
          cases x with
          | lst ds =>
            obtain ⟨n1, vs, h1, h2⟩ := R2.cell k a _ hk q
            cases q2 : ixN ds.length j with
            | none =>
              have A4 : After (rL X.K) X.K I2 m2 H2 (fun cls dd H' => W cls dd σ H') Q ((match ixN ds.length j with
                | some n => .ok () (c2.set k (.lst (ds.set n d)))
                | none => .stuck : Mi.R Unit).bind fun _ c3 => .ok l c3) := A3
              rw [q2] at A4
              exact A4.elim
            | some n =>
              have A4 : After (rL X.K) X.K I2 m2 H2 (fun cls dd H' => W cls dd σ H') Q ((match ixN ds.length j with
                | some n => .ok () (c2.set k (.lst (ds.set n d)))
                | none => .stuck : Mi.R Unit).bind fun _ c3 => .ok l c3) := A3
              rw [q2] at A4
              refine ⟨a, vs, j, n, rfl, rfl, h1, by rw [h2.length]; exact q2, ?_⟩
              obtain ⟨R3, E3⟩ := R2.put hk q (h2.set pd n)
              exact A4 I2 m2 _ σ E3 R3 (L2.ext E3)
          | _ => exact A3.elim
      | _ => exact A2.elim
    | _ => exact A2.elim
def sAsg (a : ME) (g : MG) : MS := fun l c => (a l c).seq l fun d c1 => (g d l c1).seq l fun l' c2 => .go (.nx l') c2
theorem asg_read {K : PySem.W.Frag} {g : MG} {D : Ends} {σ : St} {H : Hp} (h : rdS K W (sAsg fa g) D σ H) : tAsg (rdE K W fa) (rdG K W g) D σ H := by
  obtain ⟨I, m, l, c, R, L, A⟩ := h
  refine ⟨I, m, l, c, R, L, After.mono (AfterS.seq (rep := rD K) L A) fun v1 H1 ⟨I1, m1, c1, d1, E1, R1, p1, A1⟩ => ?_⟩
  refine ⟨I1, m1, l, c1, d1, R1, L.ext E1, p1, After.mono (AfterS.seq (rep := rL K) (L.ext E1) A1) fun v2 H2 ⟨I2, m2, c2, d2, E2, R2, p2, A2⟩ => ?_⟩
  exact A2 I2 m2 H2 v2 (Ext.refl _ _ _) R2 p2
theorem ms_asg {tg : Expr} {g : MG} (he : PE X e (rdE X.K W fa)) (hg : PG X tg (rdG X.K W g)) (hs : swapsWithSole [tg] e pos.line X.env = pure false := by rfl) (hw : swappedStores [tg] e X.env = pure none := by rfl)
    (h1 : (assignEach [tg] X.env).map (·.2) = [assign tg X.env] := by rfl) : PS X (.Assign [tg] e pos) (rdS X.K W (sAsg fa g)) := PSi (ps_asg he hg hs hw h1) fun _ _ _ h => asg_read h
/-- x = e -/
def sSet (i : Nat) (a : ME) : MS := fun l c => (a l c).seq l fun d c1 => .go (.nx (l.set i (some d))) c1
theorem ms_set {i : Nat} {x : Str} {p : Pos} (hN : X.N.Nodup) (hi : X.N[i]? = some x) (hx : Loc X.env.scope x) (he : PE X e (rdE X.K W fa)) (hs : swapsWith e (some (.Name x p)) pos.line X.env = pure false := by rfl)
    (hf : X.fn x = true ∨ X.env.scope.names.lookup x = some .local := by first | exact .inl rfl | exact .inr rfl | assumption) : PS X (.Assign [.Name x p] e pos) (rdS X.K W (sSet i fa)) :=
  PSi (ps_set hN hi hx he hs hf) fun D σ H ⟨I, m, l, c, R, L, A⟩ =>
    ⟨I, m, l, c, R, L, After.mono (AfterS.seq (rep := rD X.K) L A) fun v1 H1 ⟨I1, m1, c1, d1, E1, R1, p1, A1⟩ => A1 I1 m1 H1 _ (Ext.refl _ _ _) R1 ((L.ext E1).set i p1)⟩
/-- a, b = x, y; three of them: stored from the right, no tuple is made -/
def sPar (js : List Nat) (t : MA) : MS := fun l c => (t l c).seq l fun ds c1 => (gNs js ds l c1).seq l fun l' c2 => .go (.nx l') c2
theorem ms_par2 {i j : Nat} {x y : Str} {ga : MA} {px py pt : Pos} {kt k2 : Nat} {pt2 : Pos} (hc : X.calm = true) (hN : X.N.Nodup) (hi : X.N[i]? = some x) (hj : X.N[j]? = some y) (hij : i ≠ j)
    (hx : X.env.scope.names.lookup x = some .local) (hy : X.env.scope.names.lookup y = some .local) (ha : PA X [a, b] (rdA X.K W ga))
    (hw : swappedStores [.Tuple [.Name x px, .Name y py] kt pt] (.Tuple [a, b] k2 pt2) X.env = pure (some [x, y]))
    (hs : swapsWithSole [.Tuple [.Name x px, .Name y py] kt pt] (.Tuple [a, b] k2 pt2) pos.line X.env = pure false := by rfl) :
    PS X (.Assign [.Tuple [.Name x px, .Name y py] kt pt] (.Tuple [a, b] k2 pt2) pos) (rdS X.K W (sPar [i, j] ga)) := PSi (ps_par hc hN hi hj hij hx hy ha hw hs) fun D σ H ⟨I, m, l, c, R, L, A⟩ => by
  refine ⟨I, m, l, c, R, L, After.mono (AfterS.seq (rep := rA X.K) L A) fun v1 H1 ⟨I1, m1, c1, d1, E1, R1, p1, A1⟩ => ?_⟩
  cases p1 with
  | nil => exact A1.elim
  | cons h t =>
    cases t with
    | nil => exact A1.elim
    | cons h2 t2 =>
      cases t2 with
      | cons h3 t3 => exact A1.elim
      | nil => exact ⟨_, _, rfl, A1 I1 m1 H1 _ (Ext.refl _ _ _) R1 (((L.ext E1).set i h).set j h2)⟩
theorem ms_par3 {i j k : Nat} {x y z : Str} {d : Expr} {ga : MA} {px py pz pt : Pos} {kt k2 : Nat} {pt2 : Pos} (hc : X.calm = true) (hN : X.N.Nodup) (hi : X.N[i]? = some x) (hj : X.N[j]? = some y) (hk : X.N[k]? = some z) (hij : i ≠ j) (hil : i ≠ k) (hjl : j ≠ k)
    (hx : X.env.scope.names.lookup x = some .local) (hy : X.env.scope.names.lookup y = some .local) (hz : X.env.scope.names.lookup z = some .local) (ha : PA X [a, b, d] (rdA X.K W ga))
    (hw : swappedStores [.Tuple [.Name x px, .Name y py, .Name z pz] kt pt] (.Tuple [a, b, d] k2 pt2) X.env = pure (some [x, y, z]))
    (hs : swapsWithSole [.Tuple [.Name x px, .Name y py, .Name z pz] kt pt] (.Tuple [a, b, d] k2 pt2) pos.line X.env = pure false := by rfl) :
    PS X (.Assign [.Tuple [.Name x px, .Name y py, .Name z pz] kt pt] (.Tuple [a, b, d] k2 pt2) pos) (rdS X.K W (sPar [i, j, k] ga)) := PSi (ps_par3 hc hN hi hj hk hij hil hjl hx hy hz ha hw hs) fun D σ H ⟨I, m, l, c, R, L, A⟩ => by
  refine ⟨I, m, l, c, R, L, After.mono (AfterS.seq (rep := rA X.K) L A) fun v1 H1 ⟨I1, m1, c1, d1, E1, R1, p1, A1⟩ => ?_⟩
  cases p1 with
  | nil => exact A1.elim
  | cons h t =>
    cases t with
    | nil => exact A1.elim
    | cons h2 t2 =>
      cases t2 with
      | nil => exact A1.elim
      | cons h3 t3 =>
        cases t3 with
        | cons h4 t4 => exact A1.elim
        | nil => exact ⟨_, _, _, rfl, A1 I1 m1 H1 _ (Ext.refl _ _ _) R1 ((((L.ext E1).set i h).set j h2).set k h3)⟩

/-! ### what is walked -/
abbrev MI := Ls → Cs → R (List D)
/-- the items that an iterator gives, as trees -/
def Walks (K : PySem.W.Frag) (I : Hp) (m : List Addr) (J : It) (ds : List D) : Prop := ∀ (i : Nat) (I' H : Hp) (m' : List Addr) (c : Cs), Same I I' → Pre m m' → Rel K I' H m' c →
  (∀ d, ds[i]? = some d → J.go i H ∧ ∀ x H', J.yld i H x H' → ∃ I'', Ext I' m' H I'' m' H' ∧ Rel K I'' H' m' c ∧ Rep K I'' m' x d) ∧ (ds.length ≤ i → J.stop i H)
theorem Walks.ext {K : PySem.W.Frag} {I I1 H H1 : Hp} {m m1 : List Addr} {J : It} {ds : List D} (w : Walks K I m J ds) (e : Ext I m H I1 m1 H1) : Walks K I1 m1 J ds := fun i I' H m' c s p => w i I' H m' c (e.same.trans s) (e.pre.trans p)
def rI' (K : PySem.W.Frag) : Hp → List Addr → It → List D → Prop := fun I m J ds => Walks K I m J ds
def rdI (K : PySem.W.Frag) (W : WX) (f : MI) : TI := rd (rI' K) K W f
theorem PIi {tg it : Expr} {t t' : TI} (h : PI X tg it t) (w : ∀ σ H R, t' σ H R → t σ H R) : PI X tg it t' := ⟨fun pins s σ H R I q => h.run pins s σ H R I (w σ H R q)⟩
def iLst (a : ME) : MI := fun l c => (a l c).bind fun x c1 => match x with
  | .lst ds => .ok ds c1
  | .ro ds => .ok ds c1
  | _ => .stuck
theorem walks_list {K : PySem.W.Frag} {I : Hp} {m : List Addr} {a : Addr} {vs : List V} {ds : List D} (h : SqL K I a vs) (r : Reps K I m vs ds) : Walks K I m (Itl K a) ds := fun i I' H m' c s p R => by
  have hs : SqL K H a vs := R.same.seq (s.seq h)
  refine ⟨fun d hd => ?_, fun hl => ⟨vs, hs, by rw [r.length]; exact hl⟩⟩
  obtain ⟨v, hv, pv⟩ := r.get hd
  refine ⟨⟨vs, v, hs, hv⟩, fun x H' y => ?_⟩
  obtain ⟨e, y⟩ := y
  subst e
  have ev : x = v := by
    have z := y vs hs
    rw [hv] at z
    exact (Option.some.inj z).symm
  subst ev
  exact ⟨I', Ext.refl _ _ _, R, pv.mono s p⟩
end
end L2.Mi

namespace L2.Mi
open PySem PySem.Spec PyProof.Rows L2

/-! ### what is walked -/
section
variable {X : Cx} {W : WX} {tg e : Expr} {pos : Pos} {fa : ME} {ga : MA}
theorem mi_lst (h : PE X e (rdE X.K W fa)) : PI X tg e (rdI X.K W (iLst fa)) := PIi (pi_list h) fun σ H Q ⟨I, m, l, c, R, L, A⟩ =>
  ⟨I, m, l, c, R, L, After.mono (After.bind (rep := rD X.K) A) fun v1 H1 ⟨I1, m1, c1, d1, E1, R1, p1, A1⟩ => by
    cases p1 with
    | @lst a vs ds h r => exact ⟨a, rfl, ⟨vs, SqL.of (R1.same _ _ h)⟩, A1.here R1 (walks_list (SqL.of h) r)⟩
    | @ro a vs ds h r => exact ⟨a, rfl, ⟨vs, R1.same.seq h⟩, A1.here R1 (walks_list h r)⟩
    | _ => exact A1.elim⟩
def iTup' (a : ME) : MI := fun l c => (a l c).bind fun x c1 => match x with
  | .tup ds => .ok ds c1
  | _ => .stuck
theorem walks_tup {K : PySem.W.Frag} {I : Hp} {m : List Addr} {a : Addr} {vs : List V} {ds : List D} (h : SqT K I a vs) (r : Reps K I m vs ds) : Walks K I m (Itt K a) ds := fun i I' H m' c s p R => by
  have hs : SqT K H a vs := sqT_same R.same (sqT_same s h)
  refine ⟨fun d hd => ?_, fun hl => ⟨vs, hs, by rw [r.length]; exact hl⟩⟩
  obtain ⟨v, hv, pv⟩ := r.get hd
  refine ⟨⟨vs, v, hs, hv⟩, fun x H' y => ?_⟩
  obtain ⟨e, y⟩ := y
  subst e
  have ev : x = v := by
    have z := y vs hs
    rw [hv] at z
    exact (Option.some.inj z).symm
  subst ev
  exact ⟨I', Ext.refl _ _ _, R, pv.mono s p⟩
theorem mi_tup (h : PE X e (rdE X.K W fa)) : PI X tg e (rdI X.K W (iTup' fa)) := PIi (pi_tup h) fun σ H Q ⟨I, m, l, c, R, L, A⟩ =>
  ⟨I, m, l, c, R, L, After.mono (After.bind (rep := rD X.K) A) fun v1 H1 ⟨I1, m1, c1, d1, E1, R1, p1, A1⟩ => by
    cases p1 with
    | @tup a vs ds h r => exact ⟨a, rfl, ⟨vs, sqT_same R1.same h⟩, A1.here R1 (walks_tup h r)⟩
    | _ => exact A1.elim⟩
/-- the chrs of a text -/
def chrs (s : Str) : List D := s.cps.toList.map fun k => .str ⟨#[k]⟩
def iStr' (a : ME) : MI := fun l c => (a l c).bind fun x c1 => match x with
  | .str s => .ok (chrs s) c1
  | _ => .stuck
theorem walks_str {K : PySem.W.Frag} {I : Hp} {m : List Addr} {s : Str} : Walks K I m (Its s) (chrs s) := fun i I' H m' c _ _ R => by
  have hl : (chrs s).length = s.cps.size := by simp [chrs]
  refine ⟨fun d hd => ?_, fun h => by rw [hl] at h; exact h⟩
  have hi : i < s.cps.size := by rw [← hl]; exact (List.getElem?_eq_some_iff.mp hd).1
  refine ⟨hi, fun x H' y => ?_⟩
  obtain ⟨e, k, hk, ex⟩ := y
  subst e; subst ex
  refine ⟨I', Ext.refl _ _ _, R, ?_⟩
  have e2 : d = .str ⟨#[k]⟩ := by
    unfold chrs at hd
    rw [List.getElem?_map, Array.getElem?_toList, hk] at hd
    exact (Option.some.inj hd).symm
  rw [e2]
  exact .str _
theorem mi_str (h : PE X e (rdE X.K W fa)) : PI X tg e (rdI X.K W (iStr' fa)) := PIi (pi_str h) fun σ H Q ⟨I, m, l, c, R, L, A⟩ =>
  ⟨I, m, l, c, R, L, After.mono (After.bind (rep := rD X.K) A) fun v1 H1 ⟨I1, m1, c1, d1, E1, R1, p1, A1⟩ => by
    cases p1 with
    | str s => exact ⟨s, rfl, A1.here R1 walks_str⟩
    | _ => exact A1.elim⟩
/-- range(n), range(a, b) -/
def rangeL (lo : Int) (n : Nat) : List D := (List.range n).map fun i => .int (lo + (i : Nat))
theorem walks_rng {K : PySem.W.Frag} {I : Hp} {m : List Addr} {lo : Int} {n : Nat} : Walks K I m (Itr lo n) (rangeL lo n) := fun i I' H m' c _ _ R => by
  refine ⟨fun d hd => ?_, fun h => by simp [rangeL] at h; exact h⟩
  have hi : i < n := by have := (List.getElem?_eq_some_iff.mp hd).1; simpa [rangeL] using this
  refine ⟨hi, fun x H' y => ?_⟩
  obtain ⟨e, ex⟩ := y
  subst e; subst ex
  refine ⟨I', Ext.refl _ _ _, R, ?_⟩
  have e2 : d = .int (lo + (i : Nat)) := by
    unfold rangeL at hd
    rw [List.getElem?_map, List.getElem?_range hi] at hd
    exact (Option.some.inj hd).symm
  rw [e2]
  exact .int _
def small62 (i : Int) : Prop := -(2 ^ 62) ≤ i ∧ i < 2 ^ 62
instance : ∀ i, Decidable (small62 i) := fun i => inferInstanceAs (Decidable (-(2 ^ 62) ≤ i ∧ i < 2 ^ 62))
def iR1 (t : MA) : MI := fun l c => (t l c).bind fun xs c1 => match xs with
  | [.int j] => if small62 j then .ok (rangeL 0 j.toNat) c1 else .stuck
  | _ => .stuck
def iR2 (t : MA) : MI := fun l c => (t l c).bind fun xs c1 => match xs with
  | [.int i, .int j] => if small62 i ∧ small62 j then .ok (rangeL i (j - i).toNat) c1 else .stuck
  | _ => .stuck
theorem mi_r1 {it : Expr} (h : PI X tg it (iRng1 (rdA X.K W ga))) : PI X tg it (rdI X.K W (iR1 ga)) := PIi h fun σ H Q ⟨I, m, l, c, R, L, A⟩ =>
  ⟨I, m, l, c, R, L, After.mono (After.bind (rep := rA X.K) A) fun v1 H1 ⟨I1, m1, c1, d1, E1, R1, p1, A1⟩ => by
    cases p1 with
    | nil => exact A1.elim
    | cons h t =>
      cases t with
      | cons h2 t2 => cases h <;> exact A1.elim
      | nil =>
        cases h with
        | int j =>
          have A2 : After (rI' X.K) X.K I1 m1 H1 (fun cls dd H' => W cls dd σ H') Q (if small62 j then .ok (rangeL 0 j.toNat) c1 else .stuck) := A1
          by_cases hj : small62 j
          · rw [if_pos hj] at A2
            exact ⟨j, rfl, hj.1, hj.2, A2.here R1 walks_rng⟩
          · rw [if_neg hj] at A2
            exact A2.elim
        | _ => exact A1.elim⟩
theorem mi_r2 {it : Expr} (h : PI X tg it (iRng2 (rdA X.K W ga))) : PI X tg it (rdI X.K W (iR2 ga)) := PIi h fun σ H Q ⟨I, m, l, c, R, L, A⟩ =>
  ⟨I, m, l, c, R, L, After.mono (After.bind (rep := rA X.K) A) fun v1 H1 ⟨I1, m1, c1, d1, E1, R1, p1, A1⟩ => by
    cases p1 with
    | nil => exact A1.elim
    | cons h t =>
      cases t with
      | nil => cases h <;> exact A1.elim
      | cons h2 t2 =>
        cases t2 with
        | cons h3 t3 => cases h <;> first | exact A1.elim | (cases h2 <;> exact A1.elim)
        | nil =>
          cases h with
          | int i =>
            cases h2 with
            | int j =>
              have A2 : After (rI' X.K) X.K I1 m1 H1 (fun cls dd H' => W cls dd σ H') Q (if small62 i ∧ small62 j then .ok (rangeL i (j - i).toNat) c1 else .stuck) := A1
              by_cases hj : small62 i ∧ small62 j
              · rw [if_pos hj] at A2
                exact ⟨i, j, rfl, ⟨hj.1.1, hj.1.2, hj.2.1, hj.2.2⟩, A2.here R1 walks_rng⟩
              · rw [if_neg hj] at A2
                exact A2.elim
            | _ => exact A1.elim
          | _ => exact A1.elim⟩
end

/-! ### for -/
/-- the turns of a loop -/
def forD (g : MG) (f : MS) : List D → Ls → Cs → RS
  | [], l, c => .go (.nx l) c
  | d :: ds, l, c => (g d l c).seq l fun l1 c1 => match f l1 c1 with
    | .go (.nx l2) c2 => forD g f ds l2 c2
    | .go (.ct l2) c2 => forD g f ds l2 c2
    | .go (.bk l2) c2 => .go (.nx l2) c2
    | r => r
def sFor (it : MI) (g : MG) (f : MS) : MS := fun l c => (it l c).seq l fun ds c1 => forD g f ds l c1
theorem ms_for {X : Cx} {W : WX} {tg iter : Expr} {body : List Stmt} {pos : Pos} {fi : MI} {g : MG} {f : MS} (hp : PassesOwn (model X.prog X.w) X.A X.env X.xe) (hc : X.calm = true) (hi : PI X tg iter (rdI X.K W fi)) (hg : PG X tg (rdG X.K W g)) (hb : PSs X body (rdS X.K W f))
    (hs : ∀ x, foldedSetIterable iter X.env x = pure x := by intro _; rfl) : PS X (.For tg iter body [] pos) (rdS X.K W (sFor fi g f)) := PSi (ps_for hp hc hi hg hb hs) fun D σ H ⟨I, m, l, c, R, L, A⟩ => by
  refine ⟨I, m, l, c, R, L, After.mono (AfterS.seq (rep := rI' X.K) L A) fun J H1 ⟨I1, m1, c1, ds, E1, R1, w1, A1⟩ => ?_⟩
  refine ⟨fun i n σ H => ∃ I' m' l' c', n = ds.length - i ∧ Ext I1 m1 H1 I' m' H ∧ Rel X.K I' H m' c' ∧ Locs X.K I' m' σ l' ∧ AfterS X.K I' m' H W D (forD g f (ds.drop i) l' c'), ⟨_, I1, m1, l, c1, rfl, Ext.refl _ _ _, R1, L.ext E1, A1⟩, ?_⟩
  rintro i n σ' H' ⟨I', m', l', c', rfl, E', R', L', A'⟩
  obtain ⟨wg, ws⟩ := w1 i I' H' m' c' E'.same E'.pre R'
  cases q : ds[i]? with
  | none =>
    have hi : ds.length ≤ i := List.getElem?_eq_none_iff.mp q
    rw [List.drop_eq_nil_of_le hi] at A'
    exact .inl ⟨ws hi, A' I' m' H' σ' (Ext.refl _ _ _) R' L'⟩
  | some d =>
    have hi : i < ds.length := (List.getElem?_eq_some_iff.mp q).1
    have hd : ds.drop i = d :: ds.drop (i + 1) := by
      rw [List.drop_eq_getElem_cons hi, (List.getElem?_eq_some_iff.mp q).2]
    rw [hd] at A'
    obtain ⟨go, yl⟩ := wg d q
    refine .inr ⟨go, fun σ2 H2 => ∃ I2 m2 l2 c2, Ext I1 m1 H1 I2 m2 H2 ∧ Rel X.K I2 H2 m2 c2 ∧ Locs X.K I2 m2 σ2 l2 ∧ AfterS X.K I2 m2 H2 W D (forD g f (ds.drop (i + 1)) l2 c2),
      fun σ2 H2 ⟨I2, m2, l2, c2, e2, r2, L2, a2⟩ => ⟨ds.length - (i + 1), by omega, I2, m2, l2, c2, rfl, e2, r2, L2, a2⟩, fun x H3 y => ?_⟩
    obtain ⟨I3, E3, R3, p3⟩ := yl x H3 y
    have A3 := AfterS.ext E3 A'
    refine ⟨I3, m', l', c', d, R3, L'.ext E3, p3, After.mono (AfterS.seq (rep := rL X.K) (L'.ext E3) A3) fun σ4 H4 ⟨I4, m4, c4, l4, E4, R4, L4, A4⟩ => ?_⟩
    refine ⟨I4, m4, l4, c4, R4, L4, ?_⟩
    have EE := (E'.trans E3).trans E4
    have A5 : AfterS X.K I4 m4 H4 W D (match f l4 c4 with
      | .go (.nx l2) c2 => forD g f (ds.drop (i + 1)) l2 c2
      | .go (.ct l2) c2 => forD g f (ds.drop (i + 1)) l2 c2
      | .go (.bk l2) c2 => .go (.nx l2) c2
      | r => r) := A4
    cases qf : f l4 c4 with
    | stuck => rw [qf] at A5; exact A5
    | exc x l' c' => rw [qf] at A5; exact A5
    | go fl c5 =>
      rw [qf] at A5
      cases fl with
      | nx l5 => exact fun I6 m6 H6 σ6 e6 r6 L6 => ⟨I6, m6, l5, c5, EE.trans e6, r6, L6, AfterS.ext e6 A5⟩
      | ct l5 => exact fun I6 m6 H6 σ6 e6 r6 L6 => ⟨I6, m6, l5, c5, EE.trans e6, r6, L6, AfterS.ext e6 A5⟩
      | bk l5 => exact A5
      | rt d => exact A5
/-! ### while: at most n turns are followed -/
def whileD (t : MT) (f : MS) : Nat → MS
  | 0, _, _ => .stuck
  | n + 1, l, c => (t l c).seq l fun k c1 => match k with
    | true => match f l c1 with
      | .go (.nx l2) c2 => whileD t f n l2 c2
      | .go (.ct l2) c2 => whileD t f n l2 c2
      | .go (.bk l2) c2 => .go (.nx l2) c2
      | r => r
    | false => .go (.nx l) c1
theorem ms_while {X : Cx} {W : WX} {e : Expr} {body : List Stmt} {pos : Pos} {t : MT} {f : MS} (n : Nat) (hp : PassesOwn (model X.prog X.w) X.A X.env X.xe) (ht : PT X e (rdT X.K W t)) (hb : PSs X body (rdS X.K W f)) :
    PS X (.While e body [] pos) (rdS X.K W (whileD t f n)) := PSi (ps_while hp ht hb) fun D σ H ⟨I, m, l, c, R, L, A⟩ => by
  refine ⟨fun k σ' H' => ∃ I' m' l' c', Rel X.K I' H' m' c' ∧ Locs X.K I' m' σ' l' ∧ AfterS X.K I' m' H' W D (whileD t f k l' c'), ⟨n, I, m, l, c, R, L, A⟩, ?_⟩
  rintro k σ' H' ⟨I', m', l', c', R', L', A'⟩
  cases k with
  | zero => exact A'.elim
  | succ k =>
    refine ⟨I', m', l', c', R', L', After.mono (AfterS.seq (rep := rB) L' A') fun b H1 ⟨I1, m1, c1, b1, E1, R1, p1, A1⟩ => ?_⟩
    cases (show b = b1 from p1)
    cases b with
    | false => exact iteF (A1 I1 m1 H1 σ' (Ext.refl _ _ _) R1 (L'.ext E1))
    | true =>
      refine iteT ⟨fun σ2 H2 => ∃ I2 m2 l2 c2, Rel X.K I2 H2 m2 c2 ∧ Locs X.K I2 m2 σ2 l2 ∧ AfterS X.K I2 m2 H2 W D (whileD t f k l2 c2), fun σ2 H2 q => ⟨k, Nat.lt_succ_self k, q⟩, ?_⟩
      refine ⟨I1, m1, l', c1, R1, L'.ext E1, ?_⟩
      have A5 : AfterS X.K I1 m1 H1 W D (match f l' c1 with
        | .go (.nx l2) c2 => whileD t f k l2 c2
        | .go (.ct l2) c2 => whileD t f k l2 c2
        | .go (.bk l2) c2 => .go (.nx l2) c2
        | r => r) := A1
      cases qf : f l' c1 with
      | stuck => rw [qf] at A5; exact A5
      | exc x l' c' => rw [qf] at A5; exact A5
      | go fl c5 =>
        rw [qf] at A5
        cases fl with
        | nx l5 => exact fun I6 m6 H6 σ6 e6 r6 L6 => ⟨I6, m6, l5, c5, r6, L6, AfterS.ext e6 A5⟩
        | ct l5 => exact fun I6 m6 H6 σ6 e6 r6 L6 => ⟨I6, m6, l5, c5, r6, L6, AfterS.ext e6 A5⟩
        | bk l5 => exact A5
        | rt d => exact A5

/-! ### list comprehensions -/
def R.nox {α : Type} (r : R α) : R α := match r with
  | .exc _ _ => .stuck
  | r => r
@[simp] theorem R.nox_ok {α : Type} (a : α) (c : Cs) : (R.ok a c).nox = .ok a c := rfl
theorem After.nox {α β : Type} {rep : Hp → List Addr → β → α → Prop} {K : PySem.W.Frag} {I H : Hp} {m : List Addr} {W W' : XK} {Q : β → Hp → Prop} {r : R α} (a : After rep K I m H W Q r.nox) : After rep K I m H W' Q r := by
  cases r with
  | stuck => exact a
  | ok d c => exact a
  | exc x c => exact a.elim
/-- .. where what follows is wanted from an earlier place -/
theorem After.bindAt {α β γ δ : Type} {rep : Hp → List Addr → β → α → Prop} {rep' : Hp → List Addr → δ → γ → Prop} {K : PySem.W.Frag} {I I1 H H1 : Hp} {m m1 : List Addr} {W : XK} {Q : δ → Hp → Prop} {r : R α} {f : α → Cs → R γ}
    (a : After rep' K I m H W Q (r.bind f)) (e : Ext I m H I1 m1 H1) : After rep K I1 m1 H1 W (fun v H2 => ∃ I2 m2 c2 x, Ext I1 m1 H1 I2 m2 H2 ∧ Rel K I2 H2 m2 c2 ∧ rep I2 m2 v x ∧ After rep' K I m H W Q (f x c2)) r := by
  cases r with
  | stuck => exact a
  | ok d c => exact fun I' m' H' v e' r' p => ⟨I', m', c, d, e', r', p, a⟩
  | exc x c => exact After.ext (rep := rep') (r := (.exc x c)) e a
def compD (g : MG) (t : MT) (e : ME) (lw : Ls) : List D → List D → Cs → R (List D)
  | [], acc, c => .ok acc c
  | d :: ds, acc, c => (g d lw c).nox.bind fun l1 c1 => (t l1 c1).nox.bind fun k c2 => match k with
    | true => (e l1 c2).nox.bind fun x c3 => if acc.length < sizeLine then compD g t e lw ds (acc ++ [x]) c3 else .stuck
    | false => compD g t e lw ds acc c2
def wipeL (l : Ls) : List Nat → Ls
  | [] => l
  | v :: vs => (wipeL l vs).set v none
def mLc (it : MI) (js : List Nat) (g : MG) (t : MT) (e : ME) : ME := fun l c => (it l c).bind fun ds c1 => (compD g t e (wipeL l js) ds [] c1).bind fun xs c2 => .ok (.lst xs) c2
def tYesM : MT := fun _ c => .ok true c
theorem locs_wipe {K : PySem.W.Frag} {I : Hp} {m : List Addr} {σ : St} {l : Ls} (L : Locs K I m σ l) : ∀ js : List Nat, Locs K I m (wipe σ js) (wipeL l js)
  | [] => L
  | j :: js => by
    have q := locs_wipe L js
    refine ⟨by unfold wipe wipeL; rw [List.length_set, List.length_set, q.len], fun i d h => ?_⟩
    unfold wipeL at h
    unfold wipe
    by_cases hi : j = i
    · subst hi
      by_cases hl : j < (wipeL l js).length
      · rw [List.getElem?_set_self hl] at h; cases h
      · rw [List.getElem?_eq_none (by simpa using hl)] at h; cases h
    · rw [List.getElem?_set_ne hi] at h ⊢
      exact q.at_ i d h
/-- another object is laid, or changed, that is none of ours -/
theorem Rel.side {K : PySem.W.Frag} {I H : Hp} {m : List Addr} {c : Cs} {p : Addr} {vs ws : List V} (r : Rel K I H m c) (hH : H p = none ∨ H p = some (.lst vs)) (hI : I p = none) (hm : p ∉ m) : Rel K I (upd H p (.lst ws)) m c := by
  refine ⟨fun b o e => ?_, r.len, r.nd, fun k a x h1 h2 => ?_⟩
  · rw [upd_ne (ne_of_none e hI)]
    exact r.same _ _ e
  · have na : a ≠ p := fun e => hm (e ▸ List.mem_of_getElem? h1)
    have q := r.cell k a x h1 h2
    cases x with
    | lst es =>
      obtain ⟨q1, us, q2, q3⟩ := q
      exact ⟨q1, us, by rw [upd_ne na]; exact q2, q3⟩
    | dct es =>
      obtain ⟨q1, us, q2, q3⟩ := q
      exact ⟨q1, us, by rw [upd_ne na]; exact q2, q3⟩
    | ins C es =>
      obtain ⟨q1, dx, us, q2, q3, q4, q5, q6⟩ := q
      have nd : dx ≠ p := by
        rcases hH with z | z
        · exact ne_of_none q4 z
        · exact ne_of q4 z (by intro y; cases y)
      exact ⟨q1, dx, us, q2, q3, by rw [upd_ne nd]; exact q4, q5.imp fun _ z => ⟨z.1, by rw [upd_ne na]; exact z.2⟩, q6⟩
    | frz d => exact q
/-- it becomes one that never changes -/
theorem Rel.adopt {K : PySem.W.Frag} {I H : Hp} {m : List Addr} {c : Cs} {p : Addr} {vs : List V} (r : Rel K I H m c) (hH : H p = some (.lst vs)) (hI : I p = none) (hm : p ∉ m) : Rel K (upd I p (.lst vs)) H m c := by
  have sI : Same I (upd I p (.lst vs)) := fun b o e => by rw [upd_ne (ne_of_none e hI)]; exact e
  refine ⟨fun b o e => ?_, r.len, r.nd, fun k a x h1 h2 => ?_⟩
  · by_cases hb : b = p
    · subst hb
      rw [upd_same] at e
      cases e
      exact hH
    · rw [upd_ne hb] at e
      exact r.same _ _ e
  · have na : a ≠ p := fun e => hm (e ▸ List.mem_of_getElem? h1)
    have q := r.cell k a x h1 h2
    cases x with
    | lst es =>
      obtain ⟨q1, us, q2, q3⟩ := q
      exact ⟨by rw [upd_ne na]; exact q1, us, q2, q3.mono sI (Pre.refl m)⟩
    | dct es =>
      obtain ⟨q1, us, q2, q3⟩ := q
      exact ⟨by rw [upd_ne na]; exact q1, us, q2, q3.mono sI (Pre.refl m)⟩
    | ins C es =>
      obtain ⟨q1, dx, us, q2, q3, q4, q5, q6⟩ := q
      exact ⟨by rw [upd_ne na]; exact q1, dx, us, by rw [upd_ne (ne_of q4 hH (by intro y; cases y))]; exact q2, q3, q4, q5, q6.mono sI (Pre.refl m)⟩
    | frz d => exact ⟨by rw [upd_ne na]; exact q.1, q.2.mono sI (Pre.refl m)⟩
/-- a block's target: it stores at the block's own places alone -/
def Good (g0 : TG) (js : List Nat) : Prop := ∀ (v : V) (σ : St) (H : Hp) (Q : St → Hp → Prop), g0 v (wipe σ js) H Q → g0 v (wipe σ js) H fun σ2 H2 => wipe σ2 js = wipe σ js ∧ Q σ2 H2
theorem wipe_get (σ : St) (i : Nat) : ∀ js : List Nat, (wipe σ js)[i]? = if i ∈ js then (if i < σ.length then some none else none) else σ[i]?
  | [] => by simp [wipe]
  | j :: js => by
    unfold wipe
    by_cases hj : j = i
    · subst hj
      by_cases hl : j < σ.length
      · rw [List.getElem?_set_self (by rw [wipe_length]; exact hl)]
        simp [hl]
      · rw [List.getElem?_eq_none (by rw [List.length_set, wipe_length]; omega)]
        simp [hl]
    · rw [List.getElem?_set_ne hj, wipe_get σ i js]
      have : i ∈ j :: js ↔ i ∈ js := by simp [Ne.symm hj]
      simp [this]
theorem wipe_again (σ : St) (js : List Nat) : wipe (wipe σ js) js = wipe σ js := by
  apply List.ext_getElem?
  intro i
  rw [wipe_get, wipe_length, wipe_get]
  by_cases h : i ∈ js <;> simp [h]
theorem wipe_set (σ : St) (js : List Nat) {i : Nat} (h : i ∈ js) (x : Option V) : wipe (σ.set i x) js = wipe σ js := by
  apply List.ext_getElem?
  intro k
  rw [wipe_get, wipe_get, List.length_set]
  by_cases hk : k ∈ js
  · simp [hk]
  · have : i ≠ k := fun e => hk (e ▸ h)
    simp [hk, List.getElem?_set_ne this]
theorem good_name {i : Nat} {js : List Nat} (h : i ∈ js) : Good (gName i) js := fun v σ H Q q => ⟨by rw [wipe_set _ _ h, wipe_again], q⟩
theorem good_names {K : PySem.W.Frag} {n : Nat} {i j : Nat} {js : List Nat} (h : i ∈ js) (h2 : j ∈ js) : Good (gTup K n (gCons (gName i) (gCons (gName j) gNil))) js := fun v σ H Q ⟨a, xs, e, hs, hl, v1, r1, e1, v2, r2, e2, e3, q⟩ =>
  ⟨a, xs, e, hs, hl, v1, r1, e1, v2, r2, e2, e3, by rw [wipe_set _ _ h2, wipe_set _ _ h, wipe_again], q⟩
def W0 : WX := fun _ _ _ _ => False
theorem takesW0 {X : Cx} : Takes X W0 := fun u s' ⟨_, _, _, _, _, _, _, _, _, _, _, _, _, _, _, _, z⟩ => z.elim
theorem lc_read {K : PySem.W.Frag} {W : WX} {fi : MI} {g : MG} {ft : MT} {fe : ME} {js : List Nat} {g0 : TG} (good : Good g0 js) (rg : ∀ v σ H Q, rdG K W0 g v σ H Q → g0 v σ H Q) {σ : St} {H : Hp} {Q : VK} (h : rdE K W (mLc fi js g ft fe) σ H Q) :
    tLc (rdI K W fi) g0 (rdT K W0 ft) (rdE K W0 fe) js σ H Q := by
  obtain ⟨I, m, l, c, R, L, A⟩ := h
  refine ⟨I, m, l, c, R, L, After.mono (After.bind (rep := rI' K) A) fun J H1 ⟨I1, m1, c1, ds, E1, R1, w1, A1⟩ => ?_⟩
  intro Dn hD
  have nI := R1.same.free hD
  have nm := R1.fresh hD
  refine ⟨fun i n H => ∃ I' m' c' acc vs, n = ds.length - i ∧ Ext I1 m1 H1 I' m' H ∧ Rel K I' H m' c' ∧ Reps K I' m' vs acc ∧ H Dn = some (.lst vs) ∧ I' Dn = none ∧ Dn ∉ m' ∧
    After (rD K) K I1 m1 H1 (fun cls dd H' => W cls dd σ H') Q ((compD g ft fe (wipeL l js) (ds.drop i) acc c').bind fun xs c2 => .ok (.lst xs) c2),
    ⟨_, I1, m1, c1, [], [], rfl, ⟨Same.refl _, Pre.refl _, fun b o h1 h2 h3 => ⟨by rw [upd_ne (ne_of_none h1 hD)]; exact h1, h2, h3⟩⟩, R1.side (vs := []) (.inl hD) nI nm, .nil, upd_same, nI, nm, A1⟩, ?_⟩
  rintro i n H' ⟨I', m', c', acc, vs, rfl, E', R', p', hH', hI', hm', A'⟩
  obtain ⟨wg, ws⟩ := w1 i I' H' m' c' E'.same E'.pre R'
  cases q : ds[i]? with
  | none =>
    have hi : ds.length ≤ i := List.getElem?_eq_none_iff.mp q
    rw [List.drop_eq_nil_of_le hi] at A'
    refine .inl ⟨ws hi, ?_⟩
    have sI : Same I' (upd I' Dn (.lst vs)) := fun b o e => by rw [upd_ne (ne_of_none e hI')]; exact e
    refine A' (upd I' Dn (.lst vs)) m' H' (.ref Dn) ⟨E'.same.trans sI, E'.pre, fun b o h1 h2 h3 => ?_⟩ (R'.adopt hH' hI' hm') (.lst upd_same (p'.mono sI (Pre.refl _)))
    obtain ⟨q1, q2, q3⟩ := E'.fr b o h1 h2 h3
    exact ⟨q1, by rw [upd_ne (ne_of_none h1 hD)]; exact q2, q3⟩
  | some d =>
    have hi : i < ds.length := (List.getElem?_eq_some_iff.mp q).1
    have hd : ds.drop i = d :: ds.drop (i + 1) := by
      rw [List.drop_eq_getElem_cons hi, (List.getElem?_eq_some_iff.mp q).2]
    rw [hd] at A'
    obtain ⟨go, yl⟩ := wg d q
    refine .inr ⟨go, fun H2 => ∃ I2 m2 c2 acc2 vs2, Ext I1 m1 H1 I2 m2 H2 ∧ Rel K I2 H2 m2 c2 ∧ Reps K I2 m2 vs2 acc2 ∧ H2 Dn = some (.lst vs2) ∧ I2 Dn = none ∧ Dn ∉ m2 ∧
      After (rD K) K I1 m1 H1 (fun cls dd H' => W cls dd σ H') Q ((compD g ft fe (wipeL l js) (ds.drop (i + 1)) acc2 c2).bind fun xs c2 => .ok (.lst xs) c2),
      fun H2 ⟨I2, m2, c2, acc2, vs2, e2, r2, pp2, h2, i2, n2, a2⟩ => ⟨ds.length - (i + 1), by omega, I2, m2, c2, acc2, vs2, rfl, e2, r2, pp2, h2, i2, n2, a2⟩, fun x H3 y => ?_⟩
    obtain ⟨I3, E3, R3, p3⟩ := yl x H3 y
    have Lw := ((locs_wipe L js).ext E1).ext (E'.trans E3)
    have A3 : After (rD K) K I1 m1 H1 (fun cls dd H' => W cls dd σ H') Q (((g d (wipeL l js) c').nox.bind fun l1 c1 => (ft l1 c1).nox.bind fun k c2 => match k with
      | true => (fe l1 c2).nox.bind fun x c3 => if acc.length < sizeLine then compD g ft fe (wipeL l js) (ds.drop (i + 1)) (acc ++ [x]) c3 else .stuck
      | false => compD g ft fe (wipeL l js) (ds.drop (i + 1)) acc c2).bind fun xs c2 => .ok (.lst xs) c2) := A'
    have asc : ∀ {α β γ : Type} (r : Mi.R α) (f : α → Cs → Mi.R β) (h : β → Cs → Mi.R γ), (r.bind f).bind h = r.bind fun a c => (f a c).bind h := fun r f h => by cases r <;> rfl
    rw [asc] at A3
    refine good x σ H3 _ (rg _ _ _ _ ⟨I3, m', wipeL l js, c', d, R3, Lw, p3, After.mono (After.nox (After.bindAt (rep := rL K) A3 (E'.trans E3))) fun σ4 H4 ⟨I4, m4, c4, l4, E4, R4, L4, A4⟩ => ?_⟩)
    rw [asc] at A4
    have EE := (E'.trans E3).trans E4
    refine ⟨I4, m4, l4, c4, R4, L4, After.mono (After.nox (After.bindAt (rep := rB) A4 EE)) fun b H5 ⟨I5, m5, c5, b5, E5, R5, p5, A5⟩ => ?_⟩
    cases (show b = b5 from p5)
    have F5 := (E3.trans E4).trans E5
    cases b with
    | false =>
      obtain ⟨f1, f2, f3⟩ := F5.fr _ _ hH' hI' hm'
      exact iteF ⟨I5, m5, c5, acc, vs, EE.trans E5, R5, p'.ext F5, f1, f2, f3, A5⟩
    | true =>
      have A6 : After (rD K) K I1 m1 H1 (fun cls dd H' => W cls dd σ H') Q (((fe l4 c5).nox.bind fun x c3 => if acc.length < sizeLine then compD g ft fe (wipeL l js) (ds.drop (i + 1)) (acc ++ [x]) c3 else .stuck).bind fun xs c2 => .ok (.lst xs) c2) := A5
      rw [asc] at A6
      have L4' : Locs K I4 m4 σ4 l4 := L4
      refine iteT ⟨I5, m5, l4, c5, R5, L4'.ext E5, After.mono (After.nox (After.bindAt (rep := rD K) A6 (EE.trans E5))) fun z H7 ⟨I7, m7, c7, d7, E7, R7, p7, A7⟩ => ?_⟩
      have F7 := F5.trans E7
      obtain ⟨f1, f2, f3⟩ := F7.fr _ _ hH' hI' hm'
      by_cases hz : acc.length < sizeLine
      · have A8 : After (rD K) K I1 m1 H1 (fun cls dd H' => W cls dd σ H') Q ((if acc.length < sizeLine then compD g ft fe (wipeL l js) (ds.drop (i + 1)) (acc ++ [d7]) c7 else .stuck).bind fun xs c2 => .ok (.lst xs) c2) := A7
        rw [if_pos hz] at A8
        refine ⟨vs, f1, by rw [p'.length]; exact hz, I7, m7, c7, acc ++ [d7], vs ++ [z], ?_, R7.side (.inr f1) f2 f3, (p'.ext F7).append (.cons p7 .nil), upd_same, f2, f3, A8⟩
        have G := (EE.trans E5).trans E7
        refine ⟨G.same, G.pre, fun b o h1 h2 h3 => ?_⟩
        obtain ⟨q1, q2, q3⟩ := G.fr b o h1 h2 h3
        exact ⟨by rw [upd_ne (ne_of_none h1 hD)]; exact q1, q2, q3⟩
      · have A8 : After (rD K) K I1 m1 H1 (fun cls dd H' => W cls dd σ H') Q ((if acc.length < sizeLine then compD g ft fe (wipeL l js) (ds.drop (i + 1)) (acc ++ [d7]) c7 else .stuck).bind fun xs c2 => .ok (.lst xs) c2) := A7
        rw [if_neg hz] at A8
        exact A8.elim
end L2.Mi

namespace L2.Mi
open PySem PySem.Spec PyProof.Rows L2

section
variable {K : PySem.W.Frag}
/-! ### isinstance, of built-in types -/
def tyD (d : D) (c : Cs) : Option String := match d with
  | .non => some "NoneType"
  | .bl _ => some "bool"
  | .int _ => some "int"
  | .str _ => some "str"
  | .lst _ => some "list"
  | .ro _ => some "list"
  | .tup _ => some "tuple"
  | .dct _ => some "dict"
  | .ref k => match c[k]? with
    | some (.lst _) => some "list"
    | some (.dct _) => some "dict"
    | some (.frz (.lst _)) => some "list"
    | _ => none
  | _ => none
def tyNames : List String := ["NoneType", "bool", "int", "str", "list", "tuple", "dict"]
def isT (t n : String) : Bool := t == n || (t == "bool" && n == "int")
theorem kit_tab : ∀ t ∈ tyNames, ∀ n ∈ tyNames, kitB t n = some (isT t n) := by decide +kernel
theorem tyD_mem {d : D} {c : Cs} {t : String} (h : tyD d c = some t) : t ∈ tyNames := by
  unfold tyD at h
  split at h <;> first
    | (cases h; decide)
    | (split at h <;> first | (cases h; decide) | cases h)
    | cases h
theorem tyL {I H : Hp} {m : List Addr} {a : Addr} {vs : List V} (s : Same I H) (h : SqL K I a vs) : TyX K H (.ref a) (.type "list") := by
  rcases s.seq h with (h | ⟨o, h⟩) | ⟨o, its, n, h1, h2, _⟩
  · exact .base (.lst h)
  · exact .base (.frz h)
  · exact .kList h1 h2
theorem tyT {I H : Hp} {m : List Addr} {a : Addr} {vs : List V} (s : Same I H) (h : SqT K I a vs) : TyX K H (.ref a) (.type "tuple") := by
  rcases sqT_same s h with (h | ⟨o, h⟩) | ⟨o, its, n, h1, h2, _⟩
  · exact .base (.tup h)
  · exact .fTuple h
  · exact .kTuple h1 h2
theorem tyD_is {I H : Hp} {m : List Addr} {c : Cs} {v : V} {d : D} {t : String} (R : Rel K I H m c) (p : Rep K I m v d) (h : tyD d c = some t) : TyX K H v (.type t) := by
  cases p with
  | non => cases h; exact .base .non
  | bl b => cases h; exact .base (.bl b)
  | int i => cases h; exact .base (.int i)
  | str s => cases h; exact .base (.str s)
  | lst q r => cases h; exact .base (.lst (R.same _ _ q))
  | ro q r => cases h; exact tyL (m := m) R.same q
  | tup q r => cases h; exact tyT (m := m) R.same q
  | dct q r => cases h; exact .base (.dK (R.same _ _ q))
  | @ref k a q =>
    have h : (match c[k]? with
      | some (.lst _) => some "list"
      | some (.dct _) => some "dict"
      | some (.frz (.lst _)) => some "list"
      | _ => none) = some t := h
    cases e : c[k]? with
    | none => rw [e] at h; cases h
    | some x =>
      rw [e] at h
      have hc := R.cell k a x q e
      cases x with
      | lst ds => cases h; obtain ⟨_, vs, h1, _⟩ := hc; exact .base (.lst h1)
      | dct ds => cases h; obtain ⟨_, vs, h1, _⟩ := hc; exact .base (.dK h1)
      | frz d =>
        cases d with
        | lst ds =>
          cases h
          obtain ⟨_, hr⟩ := hc
          cases hr with
          | lst h1 h2 => exact .base (.lst (R.same _ _ h1))
        | _ => cases h
      | _ => cases h
  | _ => cases h
/-- the classes that are asked: one, or a tuple of them -/
def clsL : List D → Option (List String)
  | [] => some []
  | .ty n :: r => match clsL r with
    | some ns => some (n :: ns)
    | none => none
  | _ :: _ => none
def isiAny (t : String) (ns : List String) : Bool := ns.any fun n => isT t n
def isiD : List D → Cs → R D
  | [x, .ty n], c => match tyD x c with
    | some t => if n ∈ tyNames then .ok (.bl (isT t n)) c else .stuck
    | none => .stuck
  | [x, .tup cs], c => match tyD x c with
    | some t => match clsL cs with
      | some ns => if (∀ n ∈ ns, n ∈ tyNames) then .ok (.bl (isiAny t ns)) c else .stuck
      | none => .stuck
    | none => .stuck
  | _, _ => .stuck
/-- .. of a tuple of classes that stands anywhere -/
def rIsiQ (K : PySem.W.Frag) : List V → Hp → VK → Prop := fun xs H Q => ∃ (x : V) (tp : Addr) (cs : List V) (t : Value) (us : List Value) (b : Bool), xs = [x, .ref tp] ∧ SqT K H tp cs ∧ Paired ClsV cs us ∧ TyX K H x t ∧ PySem.W.kitAny K t us = some b ∧ Q (.bl b) H
theorem call_isiQ {X : Cx} : CallR X (.builtin "isinstance") (rIsiQ X.K) := fun pins s σ H xs us Q I r h => by
  obtain ⟨x, tp, cs, t, ws, b, rfl, hT, k, ty, e, q⟩ := h
  obtain ⟨u1, u2, rfl, r1, r2⟩ := vals2 r
  cases (show u2 = Value.ref tp from r2)
  obtain ⟨P, Z, p, hx⟩ := kit_of I r1 ty
  obtain ⟨its, rv, ⟨o, h1, h2, n, h3⟩, _⟩ := I.tuple hT
  cases ClsV.all k rv
  obtain ⟨oc, od, dt, sl⟩ := o
  cases h2
  cases h3
  exact PySem.W.kia_tup Z I.kIn p h1 e hx fun tk => ⟨.bl b, H, I.tok tk, rfl, q⟩
def rIsiA (K : PySem.W.Frag) : List V → Hp → VK → Prop := fun xs H Q => rIsi K xs H Q ∨ rIsiQ K xs H Q
theorem call_isiA {X : Cx} : CallR X (.builtin "isinstance") (rIsiA X.K) := call_isi.or call_isiQ
theorem kitAny_tab (K : PySem.W.Frag) {t : String} (ht : t ∈ tyNames) : ∀ {ns : List String}, (∀ n ∈ ns, n ∈ tyNames) → PySem.W.kitAny K (.type t) (ns.map Value.type) = some (isiAny t ns)
  | [], _ => rfl
  | n :: ns, h => by
    have h1 := kit_tab t ht n (h n List.mem_cons_self)
    have h2 := kitAny_tab K ht (ns := ns) fun k hk => h k (List.mem_cons_of_mem _ hk)
    have e : isiAny t (n :: ns) = (isT t n || isiAny t ns) := rfl
    refine kitAny_cons (kit_ty h1) (fun hb => ?_) (fun hb => by rw [e, hb]; rfl)
    rw [h2, e, hb]
    rfl
theorem cls_paired {I : Hp} {m : List Addr} : ∀ {vs : List V} {ds : List D} {ns : List String}, Reps K I m vs ds → clsL ds = some ns → Paired ClsV vs (ns.map Value.type)
  | _, _, _, .nil, e => by cases e; exact .nil
  | _, _, _, .cons (d := d) (ds := ds) h t, e => by
    cases h with
    | ty n =>
      unfold clsL at e
      cases q : clsL ds with
      | none => rw [q] at e; cases e
      | some ks => rw [q] at e; cases e; exact .cons (.ty n) (cls_paired t q)
    | _ => simp [clsL] at e
theorem cs_isi : CallS K (rIsiA K) isiD := fun I H m c vs ds W Q R p A => by
  cases p with
  | nil => exact A.elim
  | @cons v _ d _ h t =>
    cases t with
    | nil => exact A.elim
    | @cons v2 _ d2 _ h2 t2 =>
      cases t2 with
      | cons _ _ => cases h2 <;> exact A.elim
      | nil =>
        cases h2 with
        | ty n =>
          have A2 : After (rD K) K I m H W Q (match tyD d c with
            | some t => if n ∈ tyNames then .ok (.bl (isT t n)) c else .stuck
            | none => .stuck) := A
          cases e : tyD d c with
          | none => rw [e] at A2; exact A2.elim
          | some t =>
            rw [e] at A2
            by_cases hn : n ∈ tyNames
            · have A3 : After (rD K) K I m H W Q (if n ∈ tyNames then .ok (.bl (isT t n)) c else .stuck) := A2
              rw [if_pos hn] at A3
              exact .inl ⟨v, .ty n, .type t, .type n, _, rfl, .ty n, tyD_is R h e, kit_ty (kit_tab t (tyD_mem e) n hn), A3.here R (.bl _)⟩
            · have A3 : After (rD K) K I m H W Q (if n ∈ tyNames then .ok (.bl (isT t n)) c else .stuck) := A2
              rw [if_neg hn] at A3
              exact A3.elim
        | @tup tp ws cs hs hr =>
          have A2 : After (rD K) K I m H W Q (match tyD d c with
            | some t => match clsL cs with
              | some ns => if (∀ n ∈ ns, n ∈ tyNames) then .ok (.bl (isiAny t ns)) c else .stuck
              | none => .stuck
            | none => .stuck) := A
          cases e : tyD d c with
          | none => rw [e] at A2; exact A2.elim
          | some t =>
            rw [e] at A2
            cases e2 : clsL cs with
            | none =>
              have A3 : After (rD K) K I m H W Q (match clsL cs with
                | some ns => if (∀ n ∈ ns, n ∈ tyNames) then .ok (.bl (isiAny t ns)) c else .stuck
                | none => .stuck) := A2
              rw [e2] at A3
              exact A3.elim
            | some ns =>
              have A3 : After (rD K) K I m H W Q (match clsL cs with
                | some ns => if (∀ n ∈ ns, n ∈ tyNames) then .ok (.bl (isiAny t ns)) c else .stuck
                | none => .stuck) := A2
              rw [e2] at A3
              by_cases hn : ∀ n ∈ ns, n ∈ tyNames
              · have A4 : After (rD K) K I m H W Q (if (∀ n ∈ ns, n ∈ tyNames) then .ok (.bl (isiAny t ns)) c else .stuck) := A3
                rw [if_pos hn] at A4
                have hq := A4.here R (Rep.bl _)
                exact .inr ⟨v, tp, ws, .type t, ns.map Value.type, _, rfl, sqT_same R.same hs, cls_paired hr e2, tyD_is R h e, kitAny_tab K (tyD_mem e) hn, hq⟩
              · have A4 : After (rD K) K I m H W Q (if (∀ n ∈ ns, n ∈ tyNames) then .ok (.bl (isiAny t ns)) c else .stuck) := A3
                rw [if_neg hn] at A4
                exact A4.elim
        | _ => exact A.elim
end
end L2.Mi

namespace L2.Mi
open PySem PySem.Spec PyProof.Rows L2

section
variable {K : PySem.W.Frag}
theorem one_arg {I H : Hp} {m : List Addr} {c : Cs} {W : XK} {Q : VK} {vs : List V} {ds : List D} {G : List D → Cs → R D} (g : D → Cs → R D) (h0 : ∀ c, G [] c = .stuck) (h1 : ∀ x c, G [x] c = g x c) (h2 : ∀ x y r c, G (x :: y :: r) c = .stuck)
    (p : Reps K I m vs ds) (A : After (rD K) K I m H W Q (G ds c)) : ∃ v d, vs = [v] ∧ ds = [d] ∧ Rep K I m v d ∧ After (rD K) K I m H W Q (g d c) := by
  cases p with
  | nil => rw [h0] at A; exact A.elim
  | cons h t =>
    cases t with
    | nil => rw [h1] at A; exact ⟨_, _, rfl, rfl, h, A⟩
    | cons h' t' => rw [h2] at A; exact A.elim
def on1 (g : D → Cs → R D) : List D → Cs → R D
  | [x], c => g x c
  | _, _ => .stuck
theorem on1_arg {I H : Hp} {m : List Addr} {c : Cs} {W : XK} {Q : VK} {vs : List V} {ds : List D} {g : D → Cs → R D} (p : Reps K I m vs ds) (A : After (rD K) K I m H W Q (on1 g ds c)) : ∃ v d, vs = [v] ∧ ds = [d] ∧ Rep K I m v d ∧ After (rD K) K I m H W Q (g d c) :=
  one_arg g (fun _ => rfl) (fun _ _ => rfl) (fun _ _ _ _ => rfl) p A

/-! ### repr -/
def rRepr (K : PySem.W.Frag) : List V → Hp → VK → Prop := fun xs H Q => ∃ v d, xs = [v] ∧ Dp K H v d ∧ SeqAt.shaped d = true ∧ d.showable = true ∧ d.shown.length ≤ sizeLine ∧ Q (.str d.shown) H
theorem call_reprA {X : Cx} (hg : X.A.guards = some []) (hu : X.A.units + 100 < cLine) : CallR X (.builtin "repr") (rRepr X.K) := fun pins s σ H xs us Q I r h => by
  obtain ⟨v, d, rfl, hd, hs, hw, hz, q⟩ := h
  obtain ⟨u, rfl, rx⟩ := vals1 r
  obtain ⟨as, hr⟩ := Dp.reads I d v u hd rx
  have nd := PyData.hasDict_of_canLay d (SeqAt.canLay_of_shaped hs)
  have dd := SeqAt.depth_of_shaped hs
  have far : ∀ {a : Addr}, u = .ref a → wpAny (model X.prog X.w) X.A (call (.builtin "repr") [u]) (EP X pins σ Q) X.xe s := fun {a} e => by
    subst e
    exact repr_of_reads' hr hw (PyData.noDict_hsm nd) hg (by omega) (fun _ _ e => e) (fun h' t tk k => ⟨.str _, H, I.kept k, ⟨t, rfl⟩, q⟩) hz
  cases hd with
  | non => cases (show u = Value.none from rx); exact PySem.P.repr_of_none ⟨.str _, H, I.tok _, ⟨_, rfl⟩, by simpa [PyData.shown] using q⟩
  | bl b => cases (show u = Value.bool b from rx); exact PySem.P.repr_of_bool ⟨.str _, H, I.tok _, ⟨_, rfl⟩, by simpa [PyData.shown] using q⟩
  | int i =>
    obtain ⟨t, rfl⟩ := rx
    exact PySem.P.repr_of_int (by simpa [PyData.showable] using hw) ⟨.str _, H, I.tok _, ⟨_, rfl⟩, by simpa [PyData.shown] using q⟩
  | str x =>
    obtain ⟨t, rfl⟩ := rx
    exact PySem.P.repr_of_str ⟨.str _, H, I.tok _, ⟨_, rfl⟩, by simpa [PyData.shown] using q⟩ (by simpa [PyData.shown] using hz)
  | lst h t => exact far rx
  | tup h t => exact far rx
def reprP (d : D) (c : Cs) : R D := match toPy d with
  | some p => if SeqAt.shaped p = true ∧ p.showable = true ∧ p.shown.length ≤ sizeLine then .ok (.str p.shown) c else .stuck
  | none => .stuck
def reprD : List D → Cs → R D := on1 reprP
theorem cs_repr : CallS K (rRepr K) reprD := fun I H m c vs ds W Q R p A => by
  obtain ⟨v, d, rfl, rfl, p, A⟩ := on1_arg p A
  unfold reprP at A
  cases q : toPy d with
  | none => rw [q] at A; exact A.elim
  | some y =>
    rw [q] at A
    by_cases h : SeqAt.shaped y = true ∧ y.showable = true ∧ y.shown.length ≤ sizeLine
    · have A2 : After (rD K) K I m H W Q (if SeqAt.shaped y = true ∧ y.showable = true ∧ y.shown.length ≤ sizeLine then .ok (.str y.shown) c else .stuck) := A
      rw [if_pos h] at A2
      exact ⟨v, y, rfl, rep_dp R.same p q, h.1, h.2.1, h.2.2, A2.here R (.str _)⟩
    · have A2 : After (rD K) K I m H W Q (if SeqAt.shaped y = true ∧ y.showable = true ∧ y.shown.length ≤ sizeLine then .ok (.str y.shown) c else .stuck) := A
      rw [if_neg h] at A2
      exact A2.elim

/-! ### all, any of a list of bools -/
def blsOf : List D → Option (List Bool)
  | [] => some []
  | .bl b :: r => match blsOf r with
    | some bs => some (b :: bs)
    | none => none
  | _ :: _ => none
theorem bls_reps {I : Hp} {m : List Addr} : ∀ {vs : List V} {ds : List D} {bs : List Bool}, Reps K I m vs ds → blsOf ds = some bs → vs = bs.map V.bl
  | _, _, _, .nil, e => by cases e; rfl
  | _, _, _, .cons (d := d) (ds := ds) h t, e => by
    cases h with
    | bl b =>
      unfold blsOf at e
      cases q : blsOf ds with
      | none => rw [q] at e; cases e
      | some ks => rw [q] at e; cases e; rw [bls_reps t q]; rfl
    | _ => simp [blsOf] at e
def allP (f : List Bool → Bool) (d : D) (c : Cs) : R D := match d with
  | .lst ds => match blsOf ds with
    | some bs => .ok (.bl (f bs)) c
    | none => .stuck
  | _ => .stuck
def allD : List D → Cs → R D := on1 (allP fun bs => bs.all id)
def anyD : List D → Cs → R D := on1 (allP fun bs => bs.any id)
theorem all_read {I H : Hp} {m : List Addr} {c : Cs} {W : XK} {Q : VK} {vs : List V} {ds : List D} {f : List Bool → Bool} (R : Rel K I H m c) (p : Reps K I m vs ds) (A : After (rD K) K I m H W Q (on1 (allP f) ds c)) : ∃ (a : Addr) (bs : List Bool), vs = [V.ref a] ∧ SqL K H a (bs.map V.bl) ∧ Q (.bl (f bs)) H := by
  obtain ⟨v, d, rfl, rfl, p, A⟩ := on1_arg p A
  cases p with
  | @lst a ws es h r =>
    have A2 : After (rD K) K I m H W Q (match blsOf es with
      | some bs => .ok (.bl (f bs)) c
      | none => .stuck) := A
    cases q : blsOf es with
    | none => rw [q] at A2; exact A2.elim
    | some bs =>
      rw [q] at A2
      exact ⟨a, bs, rfl, by rw [← bls_reps r q]; exact SqL.of (R.same _ _ h), A2.here R (.bl _)⟩
  | _ => exact A.elim
theorem cs_all : CallS K (rAll K) allD := fun I H m c vs ds W Q R p A => all_read R p A
theorem cs_any : CallS K (rAny K) anyD := fun I H m c vs ds W Q R p A => all_read R p A

/-! ### methods of texts: of none, of one argument -/
def strsOf : List D → Option (List Str)
  | [] => some []
  | .str b :: r => match strsOf r with
    | some bs => some (b :: bs)
    | none => none
  | _ :: _ => none
theorem strs_reps {I : Hp} {m : List Addr} : ∀ {vs : List V} {ds : List D} {bs : List Str}, Reps K I m vs ds → strsOf ds = some bs → vs = bs.map V.str
  | _, _, _, .nil, e => by cases e; rfl
  | _, _, _, .cons (d := d) (ds := ds) h t, e => by
    cases h with
    | str b =>
      unfold strsOf at e
      cases q : strsOf ds with
      | none => rw [q] at e; cases e
      | some ks => rw [q] at e; cases e; rw [strs_reps t q]; rfl
    | _ => simp [strsOf] at e
def joinL (a : Str) (ds : List D) (c : Cs) : R D := match strsOf ds with
  | some ys => if (ys.map (·.length)).sum + ys.length * a.length ≤ 16777216 then .ok (.str (Txt.join a ys)) c else .stuck
  | none => .stuck
def joinD : D → D → Cs → R D
  | .str a, .lst ds, c => joinL a ds c
  | .str a, .tup ds, c => joinL a ds c
  | _, _, _ => .stuck
/-- a text's method of one argument: what is asked of the values -/
def M1S (K : PySem.W.Frag) (r : V → List V → Hp → VK → Prop) (g : D → D → Cs → R D) : Prop := ∀ (I H : Hp) (m : List Addr) (c : Cs) (v1 v2 : V) (d1 d2 : D) (W : XK) (Q : VK),
  Rel K I H m c → Rep K I m v1 d1 → Rep K I m v2 d2 → After (rD K) K I m H W Q (g d1 d2 c) → r v1 [v2] H Q
/-- the receiver is looked at first: it must be a text -/
def mM1 (g : D → D → Cs → R D) (a b : ME) : ME := fun l c => (a l c).bind fun x c1 => match x with
  | .str s => (b l c1).bind fun y c2 => g (.str s) y c2
  | _ => .stuck
theorem m1_read {W : WX} {fa fb : ME} {r : V → List V → Hp → VK → Prop} {g : D → D → Cs → R D} {σ : St} {H : Hp} {Q : VK} (hs : M1S K r g) (h : rdE K W (mM1 g fa fb) σ H Q) : tM1 r (rdE K W fa) (rdE K W fb) σ H Q := by
  obtain ⟨I, m, l, c, R, L, A⟩ := h
  refine ⟨I, m, l, c, R, L, After.mono (After.bind (rep := rD K) A) fun v1 H1 ⟨I1, m1, c1, d1, E1, R1, p1, A1⟩ => ?_⟩
  cases p1 with
  | str s =>
    refine ⟨⟨s, rfl⟩, I1, m1, l, c1, R1, L.ext E1, After.mono (After.bind (rep := rD K) (show After (rD K) K I1 m1 H1 (fun cls dd H' => W cls dd σ H') Q ((fb l c1).bind fun y c2 => g (.str s) y c2) from A1)) fun v2 H2 ⟨I2, m2, c2, d2, E2, R2, p2, A2⟩ => ?_⟩
    exact hs _ _ _ _ _ _ _ _ _ _ R2 (Rep.str s) p2 A2
  | _ => exact A1.elim
theorem me_m1 {X : Cx} {W : WX} {e : Expr} {fa fb : ME} {r : V → List V → Hp → VK → Prop} {g : D → D → Cs → R D} (h : PE X e (tM1 r (rdE X.K W fa) (rdE X.K W fb))) (hs : M1S X.K r g) : PE X e (rdE X.K W (mM1 g fa fb)) := PEi h fun _ _ _ q => m1_read hs q
theorem m1_join : M1S K (fun x xs H Q => ∃ a p, ∃ ys : List Str, x = .str a ∧ xs = [.ref p] ∧ (SqL K H p (ys.map V.str) ∨ SqT K H p (ys.map V.str)) ∧ (ys.map (·.length)).sum + ys.length * a.length ≤ 16777216 ∧ Q (.str (Txt.join a ys)) H) joinD :=
  fun I H m c v1 v2 d1 d2 W Q R p1 p2 A => by
    cases p1 with
    | str a =>
      have go : ∀ {p : Addr} {vs : List V} {ds : List D}, v2 = .ref p → (SqL K H p vs ∨ SqT K H p vs) → Reps K I m vs ds → After (rD K) K I m H W Q (joinL a ds c) → _ := fun {p vs ds} e hq r A => by
        unfold joinL at A
        cases q : strsOf ds with
        | none => rw [q] at A; exact A.elim
        | some ys =>
          rw [q] at A
          by_cases hz : (ys.map (·.length)).sum + ys.length * a.length ≤ 16777216
          · have A2 : After (rD K) K I m H W Q (if (ys.map (·.length)).sum + ys.length * a.length ≤ 16777216 then .ok (.str (Txt.join a ys)) c else .stuck) := A
            rw [if_pos hz] at A2
            exact (show ∃ a' p, ∃ ys : List Str, V.str a = .str a' ∧ [v2] = [.ref p] ∧ (SqL K H p (ys.map V.str) ∨ SqT K H p (ys.map V.str)) ∧ (ys.map (·.length)).sum + ys.length * a'.length ≤ 16777216 ∧ Q (.str (Txt.join a' ys)) H from
              ⟨a, p, ys, rfl, by rw [e], by rw [← strs_reps r q]; exact hq, hz, A2.here R (.str _)⟩)
          · have A2 : After (rD K) K I m H W Q (if (ys.map (·.length)).sum + ys.length * a.length ≤ 16777216 then .ok (.str (Txt.join a ys)) c else .stuck) := A
            rw [if_neg hz] at A2
            exact A2.elim
      cases p2 with
      | lst h r => exact go rfl (.inl (SqL.of (R.same _ _ h))) r A
      | tup h r => exact go rfl (.inr (sqT_same R.same h)) r A
      | _ => exact A.elim
    | _ => cases p2 <;> exact A.elim
end

/-! ### own defs -/
/-- the def at f does what g says -/
structure GFn (P : Program) (w : World) (K : PySem.W.Frag) (mg : Str → Option Value) (base : Heap) (k : Nat) (f : Addr) (fd : FuncData) (ps : List Str) (g : List D → Cs → R D) : Prop where
  len : ∀ ds c, g ds c ≠ .stuck → ds.length = ps.length
  run : ∀ (A : Around) (outer : List Env) (s : Shared) (H : Hp) (args : Args) (us : List Value) (vs : List V) (Q : VK) (E : XK) (I : Hp) (m : List Addr) (c : Cs) (ds : List D), Room k A → A.guards = some [] → Env0 P w K mg base A outer s H →
    BindsTo s fd args (ps.zip us) → Vals vs us → Rel K I H m c → Reps K I m vs ds → After (rD K) K I m H E Q (g ds c) → codeAny (model P w) A (.call (.ref f) args) (CR (CX P w) outer P w H s Q E) s
theorem GFn.mono {P : Program} {w : World} {K : PySem.W.Frag} {mg : Str → Option Value} {base : Heap} {j k : Nat} {f : Addr} {fd : FuncData} {ps : List Str} {g : List D → Cs → R D} (F : GFn P w K mg base j f fd ps g) (h : j ≤ k) : GFn P w K mg base k f fd ps g :=
  ⟨F.len, fun A outer s H args us vs Q E I m c ds hr => F.run A outer s H args us vs Q E I m c ds (hr.mono h)⟩
/-- a body, run from the arguments: n names, a of them parameters -/
def mFun (n a : Nat) (b : MS) : List D → Cs → R D := fun ds c => if ds.length = a then (match b (ds.map some ++ List.replicate (n - a) none) c with
  | .go (.rt d) c' => .ok d c'
  | .go (.nx _) c' => .ok .non c'
  | .exc x _ c' => .exc x c'
  | _ => .stuck) else .stuck
theorem after_nonstuck {α β : Type} {rep : Hp → List Addr → β → α → Prop} {K : PySem.W.Frag} {I H : Hp} {m : List Addr} {W : XK} {Q : β → Hp → Prop} {r : R α} (a : After rep K I m H W Q r) : r ≠ .stuck := fun e => by
  rw [e] at a
  exact a
theorem locs_start {K : PySem.W.Frag} {I : Hp} {m : List Addr} {N : List Str} : ∀ {vs : List V} {ds : List D}, Reps K I m vs ds → Locs K I m (start N vs) (ds.map some ++ List.replicate (N.length - ds.length) none) := fun {vs ds} r => by
  refine ⟨by unfold start; simp [r.length], fun i d h => ?_⟩
  by_cases hi : i < ds.length
  · rw [List.getElem?_append_left (by simpa using hi), List.getElem?_map] at h
    cases q : ds[i]? with
    | none => rw [q] at h; cases h
    | some e =>
      rw [q] at h
      cases h
      obtain ⟨v, h1, h2⟩ := r.get q
      refine ⟨v, ?_, h2⟩
      unfold start
      rw [List.getElem?_append_left (by rw [List.length_map, r.length]; exact hi), List.getElem?_map, h1]
      rfl
  · rw [List.getElem?_append_right (by simpa using hi), List.getElem?_replicate] at h
    split at h <;> cases h
/-- THE RULE: a def by its body -/
theorem gfn_of {P : Program} {w : World} {K : PySem.W.Frag} {mg : Str → Option Value} {base : Heap} {k : Nat} {x qual : Str} {st : Stmt} {f : Addr} {fd : FuncData} {N ps : List Str} {b : MS} (F : Fun K x qual st f fd) (S : FnScope N ps (defScope st))
    (hb : ∀ (cdv : Value) (A : Around) (outer : List Env) (s : Shared) (H : Hp) (E : XK), Room k (A.deeper (envOfC qual (defScope st) s.heap.objs.size f cdv)) → A.guards = some [] →
      PSs (cxOf (CX P w) P w K mg base N qual (defScope st) f cdv A outer s H E) (defBody st) (rdS K (fun cls d _ H' => E cls d H') b)) : GFn P w K mg base (k + 1) f fd ps (mFun N.length ps.length b) := by
  obtain ⟨oc, od, kV, doc, pm, an, cdv, ct, osl, rfl, lk, hcd⟩ := F.ex
  have len : ∀ ds c, mFun N.length ps.length b ds c ≠ .stuck → ds.length = ps.length := fun ds c h => by
    by_cases hl : ds.length = ps.length
    · exact hl
    · exact absurd (show mFun N.length ps.length b ds c = .stuck from if_neg hl) h
  refine ⟨len, fun A outer s H args us vs Q E I m c ds hr hg e0 hbd rv R p a => ?_⟩
  have hl := len ds c (after_nonstuck a)
  have hlv : vs.length = ps.length := p.length.trans hl
  have KX : K.In s.heap := e0.mod.kin.keeps fun b o e => (e0.bs b o e).1
  have lim : s.heap.NoLimit := e0.mod.nolimit.keeps fun b o e => (e0.bs b o e).1
  have hkind : ∀ y ∈ ps.zip us, (defScope st).names.lookup y.1 = some .local ∨ ((defScope st).names.lookup y.1 = some .cell ∧ ((cellsFrom (s.heap.objs.size + 1) (defScope st).names []).lookup y.1).isSome = true) := fun ⟨n, v⟩ hy => by
    rcases S.par n (List.of_mem_zip hy).1 with q | q
    · exact Or.inl q
    · exact Or.inr ⟨q, PySem.W.cellsFrom_some _ _ _ (Or.inl q)⟩
  refine codeAny_call_function hr.depth (KX _ _ lk) rfl S.co S.gen rfl (PySem.W.codeRec_of KX hcd) (hbd _ _ _ _ ?_)
  refine wpAny_newFunctionEnv_cells S.kind hkind fun env he s1 y => ?_
  subst he
  refine ⟨lim.keeps y.toInCall.keep, codeAny_func ?_⟩
  have J := inv_start (CX := CX P w) (E := E) (cd := cdv) (qual := qual) (f := f) S hr.hd e0 hlv rv y
  have a2 : After (rD K) K I m H E Q (match b (ds.map some ++ List.replicate (N.length - ps.length) none) c with
    | .go (.rt d) c' => .ok d c'
    | .go (.nx _) c' => .ok .non c'
    | .exc x _ c' => .exc x c'
    | _ => .stuck) := by
    have e : mFun N.length ps.length b ds c = _ := if_pos hl
    rw [e] at a
    exact a
  have hst : rdS K (fun cls d _ H' => E cls d H') b { nx := fun _ H' => Q .non H', rt := Q } (start N vs) H := by
    refine ⟨I, m, ds.map some ++ List.replicate (N.length - ps.length) none, c, R, by rw [← hl]; exact locs_start p, ?_⟩
    cases q : b (ds.map some ++ List.replicate (N.length - ps.length) none) c with
    | stuck => rw [q] at a2; exact a2.elim
    | exc x l' c' => rw [q] at a2; exact fun I' m' H' σ' cls dd e' r' _ px => a2 I' m' H' cls dd e' r' px
    | go fl c' =>
      rw [q] at a2
      cases fl with
      | nx l' => exact fun I' m' H' σ' e' r' _ => a2 I' m' H' .non e' r' Rep.non
      | rt d => exact fun I' m' H' v e' r' pv => a2 I' m' H' v e' r' pv
      | bk l' => exact a2.elim
      | ct l' => exact a2.elim
  refine wpAny_mono ((hb cdv A outer s H E (hr.deeper _) hg).run [] s1 (start N vs) H _ J hst) (fun fl s' hs => ?_) fun e s' hs => hs
  have fin : ∀ {σ' : St} {H' : Hp} {v : V} {u : Value}, Inv (cxOf (CX P w) P w K mg base N qual (defScope st) f cdv A outer s H E) [] σ' H' s' → RelV v u → Q v H' → CE outer P w H s Q u s' :=
    fun {σ' H' v u} Z rv q => ⟨v, H', Z.os, Z.bare, Z.base, Z.hok, rv, q⟩
  cases fl with
  | ret u =>
    obtain ⟨v, σ', H', Z, rv, q⟩ := hs
    exact fin Z rv q
  | next =>
    obtain ⟨σ', H', Z, q⟩ := hs
    exact fin (v := V.non) (u := Value.none) Z rfl q
  | brk =>
    obtain ⟨_, _, _, q⟩ := hs
    exact False.elim q
  | cont =>
    obtain ⟨_, _, _, q⟩ := hs
    exact False.elim q
section
variable {X : Cx} {W : WX} {k : Nat} {f : Addr} {fd : FuncData} {ps : List Str} {g : List D → Cs → R D} {x : Str} {p pos : Pos} {e : Expr} {es : List Expr} {ga : MA}
/-- the callee runs, from a body -/
theorem run_g {pins : List (Addr × Obj)} {σ : St} {H : Hp} {s : Shared} {Q : VK} {us : List Value} {vs : List V} {I : Hp} {m : List Addr} {c : Cs} {ds : List D} (F : GFn X.prog X.w X.K X.mg X.base k f fd ps g) (hr : Room k X.A) (hgd : X.A.guards = some []) (hb : Binds X.K fd ps []) (tk : Takes X W)
    (J : Inv X pins σ H s) (r : Vals vs us) (R : Rel X.K I H m c) (p : Reps X.K I m vs ds) (a : After (rD X.K) X.K I m H (fun cls d H' => W cls d σ H') Q (g ds c)) : wpAny (model X.prog X.w) X.A (call (.ref f) us) (EP X pins σ Q) X.xe s := by
  have hl : us.length = ps.length := by rw [← r.length, p.length]; exact F.len ds c (after_nonstuck a)
  have hb2 : BindsTo s fd ⟨us, []⟩ (ps.zip us) := by
    have z := hb s us J.kIn (by rw [List.append_nil]; exact hl)
    rw [List.append_nil] at z
    exact z
  refine wpAny_call (codeAny_mono (F.run X.A X.stack s H ⟨us, []⟩ us vs Q (fun cls d H' => W cls d σ H') I m c ds hr hgd J.env0 hb2 r R p a) fun res s' hq => ?_)
  cases res with
  | error e => exact tk e s' (XE.of_call J (fun _ _ _ h => h) hq)
  | ok fl =>
    cases fl with
    | ret u => exact J.after hq
    | next => exact False.elim hq
    | brk => exact False.elim hq
    | cont => exact False.elim hq
theorem me_call (F : GFn X.prog X.w X.K X.mg X.base k f fd ps g) (hr : Room k X.A) (hgd : X.A.guards = some []) (hg : Gl X x) (hm : X.mg x = some (.ref f)) (hk : PySem.W.keepIn X.K (.ref f) = true) (hb : Binds X.K fd ps []) (tk : Takes X W)
    (ha : PA X (e :: es) (rdA X.K W ga)) (hdb : (x == ("__debug__" : Str)) = false := by decide) (he : starEach (e :: es) X.env = (false, eval e X.env) :: starEach es X.env := by rfl) (hpl : (backTo pos (starEach es X.env)).any (·.1) = false := by rfl) :
    PE X (.Call (.Name x p) (e :: es) [] pos) (rdE X.K W (mCB g ga)) := by
  refine ⟨fun pins s σ H Q J ⟨I, m, l, c, R, L, A⟩ => ?_⟩
  refine wpAny_Call_Name_kw (ld_glob J hg hm ?_ hdb)
  refine PySem.W.callWith_K (h₀ := X.base) J.ok.mod.kin hk (thn (ha.run pos pins s σ H _ J ⟨I, m, l, c, R, L, After.bind (rep := rA X.K) A⟩) fun us s1 ⟨vs, H1, J1, r, I1, m1, c1, ds, E1, R1, p1, A1⟩ => ⟨J1.kIn, ?_⟩) he hpl
  exact run_g F hr hgd hb tk J1 r R1 p1 A1
theorem me_call0 (F : GFn X.prog X.w X.K X.mg X.base k f fd ps g) (hr : Room k X.A) (hgd : X.A.guards = some []) (hg : Gl X x) (hm : X.mg x = some (.ref f)) (hk : PySem.W.keepIn X.K (.ref f) = true) (hb : Binds X.K fd ps []) (tk : Takes X W)
    (hdb : (x == ("__debug__" : Str)) = false := by decide) : PE X (.Call (.Name x p) [] [] pos) (rdE X.K W (mCB g aNil)) := by
  refine ⟨fun pins s σ H Q J ⟨I, m, l, c, R, L, A⟩ => ?_⟩
  refine wpAny_Call_Name_kw (ld_glob J hg hm ?_ hdb)
  exact PySem.W.callWith_K0 J.kIn hk (run_g (us := []) F hr hgd hb tk J .nil R .nil A)
end

/-! ### the law's end -/
/-- the call of the law's def, from the heap behind the top: nothing but the script may be tracked -/
theorem law_callG {P : Program} {w : World} {K : PySem.W.Frag} {mg mb : Str → Option Value} {k : Nat} {fa a : Addr} {fd : FuncData} {x : Str} {g : List D → Cs → R D} {s₁ : Shared} {vs : List Value} {ns : List Int}
    (KX : K.In s₁.heap) (hns : s₁.heap.Ns mainGlobals mg) (hb : s₁.heap.Ns builtinsNs mb) (hbb : ∀ x : Str, x ≠ "__name__" → mb x = bootBuiltins x) (hlim : s₁.heap.NoLimit) (hgen : s₁.gens = #[])
    (ha : s₁.heap.get? a = some { cls := .type "list", data := .seq vs.toArray }) (hi : IntsAre vs ns) (hl : ns.length ≤ sizeLine) (hr : Room k callerA)
    (F : ∀ base : Heap, K.In base → base.Ns mainGlobals mg → GFn P w K mg base k fa fd [x] g) (hbind : ∀ (s : Shared) (u : Value), BindsTo s fd ⟨[u], []⟩ [(x, u)])
    (hsp : ∀ H : Hp, SqL K H a (ns.map V.int) → ∃ (I : Hp) (m : List Addr) (c : Cs) (ds : List D), Rel K I H m c ∧ Reps K I m [.ref a] ds ∧ After (rD K) K I m H (fun _ _ _ => False) (fun v _ => v = .bl true) (g ds c)) :
    codeAny (model P w) callerA (.call (.ref fa) ⟨[.ref a], []⟩) (fun r s' => r = .ok (.ret (.bool true)) ∧ OldK s₁.heap s'.heap ∧ s'.os = s₁.os ∧ AllBare s'.gens) s₁ := by
  have rv := vals_ints hi
  have core : ∀ H : Hp, (∀ b o, H b = some o → b = a ∧ ∃ ob xs, o = .frz ob (.lst xs)) → SqL K H a (ns.map V.int) → HOk P w H s₁.heap → (H a ≠ none → K.lookup a = none) →
      codeAny (model P w) callerA (.call (.ref fa) ⟨[.ref a], []⟩) (fun r s' => r = .ok (.ret (.bool true)) ∧ OldK s₁.heap s'.heap ∧ s'.os = s₁.os ∧ AllBare s'.gens) s₁ := fun H hO hS hok hK => by
    have dictFree : ∀ {b : Addr} {o : Obj} {es : Array DictEntry} {ep : Nat}, s₁.heap.get? b = some o → o.data = .dict es ep → H b = none := fun {b o es ep} e d => by
      cases q : H b with
      | none => rfl
      | some u =>
        obtain ⟨rfl, _⟩ := hO b u q
        rw [ha] at e
        cases e
        cases d
    have toBase : ∀ {b : Addr} {m : Str → Option Value}, s₁.heap.Ns b m → (hidT s₁.heap H).Ns b m := fun {b m} ⟨o, es, ep, e, d, r⟩ => ⟨o, es, ep, hidT_get e (dictFree e d), d, r⟩
    have inB : K.In (hidT s₁.heap H) := fun b o e => hidT_get (KX b o e) (by
      cases q : H b with
      | none => rfl
      | some u =>
        obtain ⟨rfl, _⟩ := hO b u q
        rw [hK (by rw [q]; exact nofun)] at e
        cases e)
    have md : Mod K mg (hidT s₁.heap H) := ⟨inB, toBase hns, ⟨mb, toBase hb, hbb⟩, hlim.imp fun _ h => ⟨toBase h.1, h.2⟩⟩
    have noFr : ∀ b ∈ frs [], H b = none := fun b z => absurd (show b ∈ ([] : List Addr) from z) List.not_mem_nil
    have e0 : Env0 P w K mg (hidT s₁.heap H) callerA [] s₁ H := ⟨rfl, md, fun b o e => of_hidT e, Nat.le_of_eq (hidT_size _ _), trivial, noFr, hok, .of_eq hgen⟩
    obtain ⟨I, m, c, ds, R, p, A⟩ := hsp H hS
    refine codeAny_mono ((F _ inB (toBase hns)).run callerA [] s₁ H ⟨[.ref a], []⟩ [.ref a] [.ref a] (fun v _ => v = .bl true) (fun _ _ _ => False) I m c ds hr rfl e0 (hbind s₁ (.ref a)) (.cons rfl .nil) R p A) fun r s' h => ?_
    cases r with
    | error e =>
      obtain ⟨_, _, _, _, _, _, _, _, _, _, _, _, z⟩ := h
      exact z.elim
    | ok fl =>
      cases fl with
      | next => exact False.elim h
      | brk => exact False.elim h
      | cont => exact False.elim h
      | ret u =>
        obtain ⟨v, H', os, bare, un, hok', r', rfl⟩ := h
        obtain rfl : u = Value.bool true := r'
        refine ⟨rfl, OldK.of_keep fun b o e => ?_, os, bare⟩
        cases q : H b with
        | none => exact un.keep b o e q (fun z => absurd (show b ∈ ([] : List Addr) from z) List.not_mem_nil) List.not_mem_nil
        | some u =>
          obtain ⟨_, ob, xs, rfl⟩ := hO b u q
          have z1 := (hok b _ q).1
          have z2 := (hok' b _ (un.frzs b ob _ q)).1
          rw [z1] at e
          cases e
          exact z2
  cases hk : K.lookup a with
  | some o =>
    have e := KX a o hk
    rw [ha] at e
    cases e
    exact core (fun _ => none) (fun b o e => nomatch e) (Or.inr ⟨_, vs.toArray, _, hk, rfl, rfl, rfl, by rw [List.size_toArray, hi.length]; exact hl, rv⟩) (fun b u z => nomatch z) fun z => absurd rfl z
  | none =>
    have only : ∀ (b : Addr) (o : HO), (if b = a then some (HO.frz { cls := .type "list", data := .seq vs.toArray } (.lst (ns.map V.int))) else none) = some o → b = a ∧ o = .frz { cls := .type "list", data := .seq vs.toArray } (.lst (ns.map V.int)) := fun b o e => by
      by_cases hb : b = a
      · rw [if_pos hb] at e
        exact ⟨hb, (Option.some.inj e).symm⟩
      · rw [if_neg hb] at e
        cases e
    refine core (fun b => if b = a then some (.frz { cls := .type "list", data := .seq vs.toArray } (.lst (ns.map V.int))) else none) (fun b o e => ⟨(only b o e).1, _, _, (only b o e).2⟩) (Or.inl (Or.inr ⟨_, if_pos rfl⟩)) (fun b o e => ?_) fun _ => hk
    obtain ⟨rfl, rfl⟩ := only b o e
    exact ⟨ha, by rw [List.length_map]; exact hl, vs, _, rv, ha⟩
theorem law_g {l : PySem.W.OpenLaw} {n k : Nat} {q : Program} {loose : List Str} {XP : (Str → Option Value) → Heap → Prop} {YP : World → Heap → Prop} {d : DefRec} {K : Params → PySem.W.Frag} {x : Str} {g : Params → List D → Cs → R D}
    (hn : l.most = some n) (hn2 : n ≤ sizeLine) (hdf : d.params.defaults = []) (hr : Room k callerA) (hY : ∀ (w : World) (h : Heap), YP w h → (K w.params).In h)
    (F : ∀ (w : World) (mg : Str → Option Value) (fa : Addr) (h : Heap), (K w.params).In h → h.Ns mainGlobals mg → mg d.name = some (.ref fa) →
      ∃ fd : FuncData, (∀ (s : Shared) (u : Value), BindsTo s fd ⟨[u], []⟩ [(x, u)]) ∧ ∀ base : Heap, (K w.params).In base → base.Ns mainGlobals mg → GFn l.prog w (K w.params) mg base k fa fd [x] (g w.params))
    (hg : ∀ (pm : Params) (ns : List Int), ns.length ≤ n → ∃ c, g pm [.ro (ns.map D.int)] [] = .ok (.bl true) c) :
    PySem.W.WalkO q loose XP YP l.row.toRowW d [] (fun f vs => PySem.call f vs) := by
  refine Att.attach_call hn hdf fun w s₀ s₁ mg mb fa o pm cd doc a vs ns G Y ho hd hcd hmg hobj hints hlen hgen => ?_
  have KX := hY w _ Y
  obtain ⟨fd, hb, hF⟩ := F w mg fa _ KX G.T.g hmg
  have reps : ∀ (H : Hp) (ns : List Int), Reps (K w.params) H [] (ns.map V.int) (ns.map D.int) := fun H ns => by
    induction ns with
    | nil => exact .nil
    | cons z zs ih => exact .cons (.int z) ih
  obtain ⟨c, ec⟩ := hg w.params ns hlen
  refine law_callG KX G.T.g G.T.b G.T.builtins G.T.nolimit hgen hobj hints (Nat.le_trans hlen hn2) hr hF hb fun H hS => ?_
  exact ⟨H, [], [], [.ro (ns.map D.int)], ⟨Same.refl H, rfl, fun _ _ _ h => (nomatch h), fun _ _ _ h => (nomatch h)⟩, .cons (.ro hS (reps H ns)) .nil, by rw [ec]; exact fun I' m' H' v _ _ p => by cases p; rfl⟩
end L2.Mi

namespace L2.Mi
open PySem PySem.Spec PyProof.Rows L2

section
variable {X : Cx} {W : WX} {a b c e : Expr} {es : List Expr} {pos : Pos} {fa fb fc : ME} {f g : D → D → Cs → R D} {ga : MA}
/-- a call of a built-in -/
theorem me_cb {r : List V → Hp → VK → Prop} {G : List D → Cs → R D} (h : PE X e (tCB r (rdA X.K W ga))) (hs : CallS X.K r G) : PE X e (rdE X.K W (mCB G ga)) := PEi h fun _ _ _ q => cb_read hs q
theorem mt_chain {op op' : CmpOp} {r r' : R2} (ho : OpR X (compareOp op) r) (hs : OpS X.K r f) (ho' : OpR X (compareOp op') r') (hs' : OpS X.K r' g) (ha : PE X a (rdE X.K W fa)) (hb : PE X b (rdE X.K W fb)) (hc : PE X c (rdE X.K W fc))
    (hm : lastMarks [op, op'] [b, c] = false := by with_unfolding_all rfl) : PT X (.Compare a [op, op'] [b, c] pos) (rdT X.K W (mT (mChain f g fa fb fc))) := PTi (pt_chain ho ho' ha hb hc hm) fun σ H Q ⟨I, m, l, c, R, L, A0⟩ => by
  have A : After (rD X.K) X.K I m H (fun cls dd H' => W cls dd σ H') (fun x H' => ∃ k, x = .bl k ∧ Q k H') (mChain f g fa fb fc l c) := After.mono (After.bind (rep := rD X.K) A0) fun v1 H1 ⟨I1, m1, c1, d1, E1, R1, p1, A1⟩ => by
    cases p1 with
    | bl k => exact ⟨k, rfl, A1.here R1 rfl⟩
    | _ => exact A1.elim
  refine ⟨I, m, l, c, R, L, After.mono (After.bind (rep := rD X.K) A) fun v1 H1 ⟨I1, m1, c1, d1, E1, R1, p1, A1⟩ => ?_⟩
  refine ⟨I1, m1, l, c1, R1, L.ext E1, After.mono (After.bind (rep := rD X.K) A1) fun v2 H2 ⟨I2, m2, c2, d2, E2, R2, p2, A2⟩ => ?_⟩
  refine hs _ _ _ _ _ _ _ _ _ _ R2 (Rep.ext p1 E2) p2 (After.mono (After.bind (rep := rD X.K) A2) fun v3 H3 ⟨I3, m3, c3, d3, E3, R3, p3, A3⟩ => ?_)
  cases p3 with
  | bl k =>
    refine ⟨k, rfl, ?_⟩
    cases k with
    | false =>
      rw [if_neg Bool.false_ne_true]
      exact A3.here R3 (Rep.bl false)
    | true =>
      rw [if_pos rfl]
      refine ⟨I3, m3, l, c3, R3, ((L.ext E1).ext E2).ext E3, After.mono (After.bind (rep := rD X.K) A3) fun v4 H4 ⟨I4, m4, c4, d4, E4, R4, p4, A4⟩ => ?_⟩
      exact hs' _ _ _ _ _ _ _ _ _ _ R4 (Rep.ext (Rep.ext p2 E3) E4) p4 A4
  | _ => exact A3.elim
/-- a display that will be changed: a cell -/
def mLstM (t : MA) : ME := fun l c => (t l c).bind fun xs c1 => fits xs.length (.ok (.ref c1.length) (c1 ++ [.lst xs]))
theorem me_lstM (h : PA X es (rdA X.K W ga)) : PE X (.List es pos) (rdE X.K W (mLstM ga)) :=
  PEi (pe_lst h) fun σ H Q ⟨I, m, l, c, R, L, A⟩ => ⟨I, m, l, c, R, L, After.mono (After.bind (rep := rA X.K) A) fun v1 H1 ⟨I1, m1, c1, d1, E1, R1, p1, A1⟩ => by
    obtain ⟨z, A2⟩ := A1.fits
    have p1 : Reps X.K I1 m1 v1 d1 := p1
    refine ⟨by rw [p1.length]; exact z, fun p np => ?_⟩
    obtain ⟨R2, E2⟩ := R1.push np p1
    refine A2 _ _ _ _ E2 R2 (Rep.ref ?_)
    rw [← R1.len, List.getElem?_append_right (Nat.le_refl _), Nat.sub_self]
    rfl⟩
/-- a local list's cell, whose list does not change from here on -/
def frzD (d : D) (c : Cs) : R D := match d with
  | .ref k => match c[k]? with
    | some (.lst ds) => .ok (.lst ds) (c.set k (.frz (.lst ds)))
    | _ => .stuck
  | _ => .stuck
def mFrz (a : ME) : ME := fun l c => (a l c).bind fun d c1 => frzD d c1
theorem me_frz (h : PE X e (rdE X.K W fa)) : PE X e (rdE X.K W (mFrz fa)) := PEi h fun σ H Q ⟨I, m, l, c, R, L, A⟩ =>
  ⟨I, m, l, c, R, L, After.mono (After.bind (rep := rD X.K) A) fun v1 H1 ⟨I1, m1, c1, d1, E1, R1, p1, A1⟩ => by
    cases p1 with
    | @ref k a hk =>
      have A2 : After (rD X.K) X.K I1 m1 H1 (fun cls dd H' => W cls dd σ H') Q (match c1[k]? with
        | some (.lst ds) => .ok (.lst ds) (c1.set k (.frz (.lst ds)))
        | _ => .stuck) := A1
      cases q : c1[k]? with
      | none => rw [q] at A2; exact A2.elim
      | some x =>
        rw [q] at A2
        cases x with
        | lst ds =>
          obtain ⟨I2, R2, E2, p2⟩ := R1.freeze hk q
          exact A2 I2 m1 H1 _ E2 R2 p2
        | _ => exact A2.elim
    | _ => exact A1.elim⟩
/-- y = [.. for ..] -/
theorem ms_setT {i : Nat} {s : Stmt} {t : TE} (h : PS X s (tAsg t (gName i))) (w : ∀ σ H Q, rdE X.K W fa σ H Q → t σ H Q) : PS X s (rdS X.K W (sSet i fa)) := PSi h fun D σ H ⟨I, m, l, c, R, L, A⟩ =>
  w σ H _ ⟨I, m, l, c, R, L, After.mono (AfterS.seq (rep := rD X.K) L A) fun v1 H1 ⟨I1, m1, c1, d1, E1, R1, p1, A1⟩ => A1 I1 m1 H1 _ (Ext.refl _ _ _) R1 ((L.ext E1).set i p1)⟩
theorem mts_nil : PTs X [] (rdT X.K W tYesM) := ⟨fun pins s σ H Q J ⟨I, m, l, c, R, L, A⟩ => pts_nil.run pins s σ H Q J (show tYes σ H Q from A.here R rfl)⟩
theorem mts_one {t : MT} (h : PT X c (rdT X.K W t)) : PTs X [c] (rdT X.K W t) := pts_one h
theorem rg_name {K : PySem.W.Frag} {i : Nat} : ∀ v σ H Q, rdG K W (gN i) v σ H Q → gName i v σ H Q := fun v σ H Q ⟨I, m, l, c, d, R, L, p, A⟩ => A.here R (L.set i p)
theorem rg_names {K : PySem.W.Frag} {i j : Nat} : ∀ v σ H Q, rdG K W (gT [i, j]) v σ H Q → gTup K 2 (gCons (gName i) (gCons (gName j) gNil)) v σ H Q := fun v σ H Q ⟨I, m, l, c, d, R, L, p, A⟩ => by
  cases p with
  | @tup a vs ds h r =>
    cases r with
    | nil => exact A.elim
    | cons h1 t1 =>
      cases t1 with
      | nil => exact A.elim
      | cons h2 t2 =>
        cases t2 with
        | cons h3 t3 =>
          unfold gT at A
          simp at A
          exact A.elim
        | nil => exact ⟨a, _, rfl, sqT_same R.same h, rfl, _, _, rfl, _, _, rfl, rfl, A.here R ((L.set i h1).set j h2)⟩
  | _ => exact A.elim

/-! ### dicts that are written -/
theorem Rel.sideO {K : PySem.W.Frag} {I H : Hp} {m : List Addr} {c : Cs} {p : Addr} {o : HO} (r : Rel K I H m c) (hH : ∀ x, H p ≠ some (.own x)) (hI : I p = none) (hm : p ∉ m) : Rel K I (upd H p o) m c := by
  refine ⟨fun b u e => ?_, r.len, r.nd, fun k a x h1 h2 => ?_⟩
  · rw [upd_ne (ne_of_none e hI)]
    exact r.same _ _ e
  · have na : a ≠ p := fun e => hm (e ▸ List.mem_of_getElem? h1)
    have q := r.cell k a x h1 h2
    cases x with
    | lst es => exact ⟨q.1, q.2.imp fun us z => ⟨by rw [upd_ne na]; exact z.1, z.2⟩⟩
    | dct es => exact ⟨q.1, q.2.imp fun us z => ⟨by rw [upd_ne na]; exact z.1, z.2⟩⟩
    | ins C es =>
      obtain ⟨q1, dx, us, q2, q3, q4, q5, q6⟩ := q
      exact ⟨q1, dx, us, q2, q3, by rw [upd_ne fun e => hH _ (e ▸ q4)]; exact q4, q5.imp fun _ z => ⟨z.1, by rw [upd_ne na]; exact z.2⟩, q6⟩
    | frz d => exact q
theorem Rel.adoptO {K : PySem.W.Frag} {I H : Hp} {m : List Addr} {c : Cs} {p : Addr} {o : HO} (r : Rel K I H m c) (hH : H p = some o) (ho : ∀ x, o ≠ .own x) (hI : I p = none) (hm : p ∉ m) : Rel K (upd I p o) H m c := by
  have sI : Same I (upd I p o) := fun b u e => by rw [upd_ne (ne_of_none e hI)]; exact e
  refine ⟨fun b u e => ?_, r.len, r.nd, fun k a x h1 h2 => ?_⟩
  · by_cases hb : b = p
    · subst hb
      rw [upd_same] at e
      rw [hH]
      exact e
    · rw [upd_ne hb] at e
      exact r.same _ _ e
  · have na : a ≠ p := fun e => hm (e ▸ List.mem_of_getElem? h1)
    have q := r.cell k a x h1 h2
    cases x with
    | lst es => exact ⟨by rw [upd_ne na]; exact q.1, q.2.imp fun us z => ⟨z.1, z.2.mono sI (Pre.refl m)⟩⟩
    | dct es => exact ⟨by rw [upd_ne na]; exact q.1, q.2.imp fun us z => ⟨z.1, z.2.mono sI (Pre.refl m)⟩⟩
    | ins C es =>
      obtain ⟨q1, dx, us, q2, q3, q4, q5, q6⟩ := q
      have nd : dx ≠ p := fun e => by rw [e, hH] at q4; exact ho _ (Option.some.inj q4)
      exact ⟨by rw [upd_ne na]; exact q1, dx, us, by rw [upd_ne nd]; exact q2, q3, q4, q5, q6.mono sI (Pre.refl m)⟩
    | frz d => exact ⟨by rw [upd_ne na]; exact q.1, q.2.mono sI (Pre.refl m)⟩
theorem me_dict0 : PE X (.Dict [] [] pos) (rdE X.K W (mC (.dct []))) := PEi pe_dnewK fun σ H Q ⟨I, m, l, c, R, L, A⟩ => fun p np => After.new A R np (.dct upd_same .nil)
def mDict1 (k : Key) (a : ME) : ME := fun l c => (a l c).bind fun d c1 => .ok (.dct [(k, d)]) c1
theorem me_dict1 {s : Str} {j : Nat} {pk : Pos} (hv : PE X e (rdE X.K W fa)) : PE X (.Dict [some (.Constant (.str s) j pk)] [e] pos) (rdE X.K W (mDict1 (.inr s) fa)) :=
  PEi (pe_disp (pps_cons pe_str hv pps_nil) rfl rfl (fun z => by cases z) (by show 1 ≤ 15; decide)) fun σ H Q ⟨I, m, l, c, R, L, A⟩ => by
    intro p np
    have nI := R.same.free np
    have nm := R.fresh np
    have E0 : Ext I m H I m (upd H p (.dK [])) := ⟨Same.refl I, Pre.refl m, fun b o h1 h2 h3 => ⟨by rw [upd_ne (ne_of_none h1 np)]; exact h1, h2, h3⟩⟩
    refine ⟨I, m, l, c, R.sideO (fun x z => by rw [np] at z; cases z) nI nm, L, After.mono (After.bindAt (rep := rD X.K) A E0) fun v H2 ⟨I2, m2, c2, d2, E2, R2, p2, A2⟩ => ?_⟩
    obtain ⟨f1, f2, f3⟩ := E2.fr p _ upd_same nI nm
    refine ⟨f1, [(Sum.inr s, v)], rfl, by show 1 ≤ 15; decide, ?_⟩
    have R3 : Rel X.K I2 (upd H2 p (.dK [(Sum.inr s, v)])) m2 c2 := R2.sideO (fun x z => by rw [f1] at z; cases z) f2 f3
    have R4 := R3.adoptO (p := p) upd_same (fun x z => by cases z) f2 f3
    have sI : Same I2 (upd I2 p (.dK [(Sum.inr s, v)])) := fun b u e => by rw [upd_ne (ne_of_none e f2)]; exact e
    refine A2 _ m2 _ _ ⟨(E0.trans E2).same.trans sI, (E0.trans E2).pre, fun b o h1 h2 h3 => ?_⟩ R4 (.dct upd_same (.cons (Rep.mono sI (Pre.refl m2) p2) .nil))
    obtain ⟨q1, q2, q3⟩ := (E0.trans E2).fr b o h1 h2 h3
    have nb : b ≠ p := ne_of_none h1 np
    exact ⟨by rw [upd_ne nb]; exact q1, by rw [upd_ne nb]; exact q2, q3⟩
end
/-! ### words for the printed text -/
structure Own (K : PySem.W.Frag) (mg : Str → Option Value) (x : Str) (st : Stmt) (ps : List Str) where
  a : Addr
  fd : FuncData
  mgf : mg x = some (.ref a)
  F : Fun K x x st a fd
  b : Binds K fd ps []
theorem u100 {A : Around} {k : Nat} (hr : Room k A) : A.units + 100 < cLine := by have := hr.un; omega
theorem bt_len : bootBuiltins "len" = some (.builtin "len") := by decide +kernel
theorem bt_isinstance : bootBuiltins "isinstance" = some (.builtin "isinstance") := by decide +kernel
theorem bt_repr : bootBuiltins "repr" = some (.builtin "repr") := by decide +kernel
theorem bt_all : bootBuiltins "all" = some (.builtin "all") := by decide +kernel
theorem bt_any : bootBuiltins "any" = some (.builtin "any") := by decide +kernel
theorem bt_max : bootBuiltins "max" = some (.builtin "max") := by decide +kernel
theorem bt_min : bootBuiltins "min" = some (.builtin "min") := by decide +kernel
theorem bt_int : bootBuiltins "int" = some (.type "int") := by decide +kernel
theorem bt_bool : bootBuiltins "bool" = some (.type "bool") := by decide +kernel
theorem bt_str : bootBuiltins "str" = some (.type "str") := by decide +kernel
theorem bt_list : bootBuiltins "list" = some (.type "list") := by decide +kernel
theorem bt_tuple : bootBuiltins "tuple" = some (.type "tuple") := by decide +kernel
theorem bt_dict : bootBuiltins "dict" = some (.type "dict") := by decide +kernel
end L2.Mi

namespace L2.Mi
open PySem PySem.Spec PyProof.Rows L2

/-! ### match x: case [a, b] if ..: -/
def seqOf (d : D) (c : Cs) : Option (List D) := match d with
  | .lst xs => some xs
  | .tup xs => some xs
  | .ro xs => some xs
  | .ref k => match c[k]? with
    | some (.lst xs) => some xs
    | _ => none
  | _ => none
def notSeq : List String := ["NoneType", "bool", "int", "str", "dict"]
def pairOf (d : D) (c : Cs) : Option (Option (D × D)) := match seqOf d c with
  | some [x, y] => some (some (x, y))
  | some _ => some none
  | none => match tyD d c with
    | some t => if t ∈ notSeq then some none else none
    | none => none
theorem flag_not : ∀ {t : String}, t ∈ notSeq → flagOfType true (.type t) = pure false := by
  intro t h
  simp only [notSeq, List.mem_cons, List.not_mem_nil, or_false] at h
  rcases h with rfl | rfl | rfl | rfl | rfl
  · exact flag_seq_None
  · exact flag_seq_bool
  · exact flag_seq_int
  · exact flag_seq_str
  · exact flag_seq_dict
theorem ty_is {X : Cx} {pins : List (Addr × Obj)} {σ : St} {H : Hp} {s : Shared} {x : V} {u : Value} {t : String} (I : Inv X pins σ H s) (rx : RelV x u) (ty : TyX X.K H x (.type t)) (ht : t ∈ notSeq) : s.TypeIs u t := by
  generalize e : Value.type t = tt at ty
  cases ty with
  | base b =>
    cases b with
    | non => cases e; cases (show u = Value.none from rx); rfl
    | bl y => cases e; cases (show u = Value.bool y from rx); rfl
    | int i => cases e; obtain ⟨t, q⟩ := (show ∃ t, u = Value.int i t from rx); cases q; rfl
    | str y => cases e; obtain ⟨t, q⟩ := (show ∃ t, u = Value.str y t from rx); cases q; rfl
    | dK ea => 
      cases e
      cases (show u = Value.ref _ from rx)
      obtain ⟨_, _, vs, _, o, es, ep, h1, h2, _⟩ := (show ObjOk X.prog X.w H s.heap _ (.dK _) from I.hok _ _ ea)
      exact ⟨o, h1, h2.1⟩
    | dT ea =>
      cases e
      cases (show u = Value.ref _ from rx)
      obtain ⟨_, _, xs, _, o, es, ep, h1, h2, _⟩ := (show ObjOk X.prog X.w H s.heap _ (.dT _) from I.hok _ _ ea)
      exact ⟨o, h1, h2.1⟩
    | flt y => cases e; simp [notSeq] at ht
    | lst ea => cases e; simp [notSeq] at ht
    | frz ea => cases e; simp [notSeq] at ht
    | tup ea => cases e; simp [notSeq] at ht
    | ins => cases e
  | kDict e1 c => cases e; cases (show u = Value.ref _ from rx); exact ⟨_, I.kIn _ _ e1, c⟩
  | fDict ea =>
    cases e
    cases (show u = Value.ref _ from rx)
    obtain ⟨_, _, _, vs, _, o, es, ep, h1, h2, _⟩ := (show ObjOk X.prog X.w H s.heap _ (.frz _ (.dK _)) from I.hok _ _ ea)
    exact ⟨o, h1, h2.1⟩
  | _ => cases e; simp [notSeq] at ht
section
variable {prog : Program} {w : World} {A : Around} {E : Value → Shared → Prop} {s : Shared}
theorem unpackItems_list {t : Addr} {items : Array Value} {Q : List Value → Shared → Prop} (hh : A.handled = none) (ht : s.heap.IsList t items)
    (hQ : ∀ h', Heap.ExtBut s.heap.objs.size s.heap h' → Q items.toList { s with heap := h' }) : wpAny (model prog w) A (unpackItems (.ref t) items.size none) Q E s := by
  have hlt : t ≠ s.heap.objs.size := by obtain ⟨o, ho, _⟩ := ht; exact Nat.ne_of_lt (Heap.lt_size ho)
  unfold unpackItems
  refine wpAny_bind ?_
  · unfold notIterableAtAll
    refine wpAny_bind (wpAny_specialOf ht.typeIs slot_list_iter.lookup ?_)
    refine wpAny_pure ?_
    simp only [Bool.false_eq_true, if_false]
    refine wpAny_bind (wpAny_holding (wpAny_pyIter_list ht ?_))
    refine wpAny_bind (wpAny_holding (PySem.W.kun_draw hlt items.size 0 _ _ ⟨_, Heap.get?_push_size _ rfl, rfl, rfl⟩ (ht.push _) (by omega) fun h₁ hit₁ hs₁ => ?_))
    have hall : List.take items.size (List.drop 0 items.toList) = items.toList := by
      rw [List.drop_zero]; exact List.take_of_length_le (by simp)
    rw [hall]
    rw [if_neg (by simp)]
    have ht₁ : h₁.IsList t items := (ht.push _).extBut hs₁.extBut hlt
    refine wpAny_bind (wpAny_holding (wpAny_pyNext_list_end hh hit₁ ht₁ (by simp) fun h₂ he₂ => ?_))
    simp only [Option.isSome_none, Bool.false_eq_true, if_false]
    refine wpAny_pure (hQ h₂ fun b o hb e => he₂ b o hb (hs₁.extBut b o hb (Heap.get?_push_of_some _ e)))
end
/-- what a match with one case [a, b] asks -/
def tMatch2 (K : PySem.W.Frag) (te : TE) (i j : Nat) (tg : TT) (tb : TS) : TS := fun D σ H => te σ H fun x H1 =>
  (∃ a xs, x = .ref a ∧ (SqL K H1 a xs ∨ SqT K H1 a xs) ∧ (xs.length ≠ 2 → D.nx σ H1) ∧ ∀ y z, xs = [y, z] → tg ((σ.set i (some y)).set j (some z)) H1 fun b H2 => match b with
    | true => tb D ((σ.set i (some y)).set j (some z)) H2
    | false => D.nx ((σ.set i (some y)).set j (some z)) H2) ∨
  ∃ t, TyX K H1 x (.type t) ∧ t ∈ notSeq ∧ D.nx σ H1
theorem ps_match2 {X : Cx} {e g : Expr} {body : List Stmt} {n1 n2 : Str} {p0 p1 p2 p3 : Pos} {i j : Nat} {te : TE} {tg : TT} {tb : TS} (hN : X.N.Nodup) (hi : X.N[i]? = some n1) (hj : X.N[j]? = some n2)
    (hx : Loc X.env.scope n1) (hy : Loc X.env.scope n2) (hc : X.calm = true) (he : PE X e te) (hg : PT X g tg) (hb : PSs X body tb)
    (hf1 : X.fn n1 = true ∨ X.env.scope.names.lookup n1 = some .local := by first | exact .inl rfl | exact .inr rfl | assumption)
    (hf2 : X.fn n2 = true ∨ X.env.scope.names.lookup n2 = some .local := by first | exact .inl rfl | exact .inr rfl | assumption) :
    PS X (.Match e [⟨.MatchSequence [.MatchAs none (some n1) p1, .MatchAs none (some n2) p2] p3, some g, body⟩] p0) (tMatch2 X.K te i j tg tb) := by
  refine ⟨fun pins s σ H D I h => ?_⟩
  refine wpAny_Match (thn (he.run pins s σ H _ I h) fun v s1 ⟨x, H1, I1, r1, q1⟩ => ?_)
  refine wpAny_matchCases_cons ?_
  rcases q1 with ⟨a, xs, rfl, hs, hn, hq⟩ | ⟨t, ty, ht, q⟩
  · cases (show v = Value.ref a from r1)
    have go : ∀ (s2 : Shared) (its : List Value), Vals xs its → xs.length = 2 → Inv X pins σ H1 s2 →
        wpAny (model X.prog X.w) X.A (matchEach [.MatchAs none (some n1) p1, .MatchAs none (some n2) p2] X.env its) (fun r s₁ => match r with
          | none => wpAny (model X.prog X.w) X.A (matchCases [] X.env (.ref a) false) (SP X pins D) X.xe s₁
          | some bs => wpAny (model X.prog X.w) X.A (assignInOrder (bs.map fun (n, _) => bindName X.env n) (bs.map (·.2))) (fun _ s₂ =>
              match some g with
              | none => wpAny (model X.prog X.w) X.A (execs body X.env) (SP X pins D) X.xe s₂
              | some g => wpAny (model X.prog X.w) X.A (isTrue g X.env (eval g X.env))
                  (fun ok s₃ => if ok then wpAny (model X.prog X.w) X.A (execs body X.env) (SP X pins D) X.xe s₃ else wpAny (model X.prog X.w) X.A (matchCases [] X.env (.ref a) false) (SP X pins D) X.xe s₃) X.xe s₂) X.xe s₁) X.xe s2 := by
      intro s2 its rv hl I2
      obtain ⟨y, z, rfl⟩ : ∃ y z, xs = [y, z] := by
        match xs, hl with
        | [y, z], _ => exact ⟨y, z, rfl⟩
      obtain ⟨u1, u2, rfl, r1, r2⟩ := vals2 rv
      refine wpAny_matchEach_cons (wpAny_matchPattern_Capture ?_)
      refine wpAny_matchEach_cons (wpAny_matchPattern_Capture ?_)
      refine wpAny_matchEach_nil ?_
      show wpAny _ _ (assignInOrder [bindName X.env n1, bindName X.env n2] [u1, u2]) _ _ _
      refine wpAny_assignInOrder_more (wpAny_bindName (store_ok I2 hN hi hx r1 (fun s3 I3 => ?_) hf1))
      refine wpAny_assignInOrder_more (wpAny_bindName (store_ok I3 hN hj hy r2 (fun s4 I4 => ?_) hf2))
      refine wpAny_assignInOrder_none ?_
      refine thn (hg.run pins s4 _ H1 _ I4 (hq y z rfl)) fun b s5 ⟨H5, I5, q5⟩ => ?_
      cases b with
      | true => exact hb.run pins s5 _ H5 D I5 q5
      | false => exact wpAny_matchCases_nil ⟨_, H5, I5, q5⟩
    rcases hs with hs | hs
    · obtain ⟨its, rv, pl, hz⟩ := I1.list hs
      have hf : ((its.toArray.size : Nat) : Int) < 2 ^ 63 := by
        have := rv.length
        rw [sizeLine_eq] at hz
        simp only [List.size_toArray]
        omega
      by_cases hl : xs.length = 2
      · refine matchSeq_list_hit pl.isList hf (by simp [← rv.length, hl]) ?_
        have e2 : ([Pattern.MatchAs none (some n1) p1, .MatchAs none (some n2) p2] : List Pattern).length = its.toArray.size := by simp [← rv.length, hl]
        rw [e2]
        refine unpackItems_list (I1.ok.hd hc) pl.isList fun h' hx' => ?_
        refine go _ _ (by simpa using rv) hl ?_
        exact I1.kept (t' := s1.toks + 1 + 1) fun b o e => hx' b o (Nat.ne_of_lt (Heap.lt_size e)) e
      · refine matchSeq_list_miss pl.isList hf (by simp [← rv.length, hl]) ?_
        exact wpAny_matchCases_nil ⟨_, _, I1.tok _, hn hl⟩
    · obtain ⟨its, rv, pl, hz⟩ := I1.tuple hs
      have hf : ((its.toArray.size : Nat) : Int) < 2 ^ 63 := by
        have := rv.length
        rw [sizeLine_eq] at hz
        simp only [List.size_toArray]
        omega
      by_cases hl : xs.length = 2
      · refine matchSeq_tuple_hit pl hf (by simp [← rv.length, hl]) ?_
        have e2 : ([Pattern.MatchAs none (some n1) p1, .MatchAs none (some n2) p2] : List Pattern).length = its.toArray.size := by simp [← rv.length, hl]
        rw [e2]
        refine unpackItems_tuple (I1.ok.hd hc) pl fun h' hx' => ?_
        refine go _ _ (by simpa using rv) hl ?_
        exact I1.kept (t' := s1.toks + 1 + 1) fun b o e => hx' b o (Nat.ne_of_lt (Heap.lt_size e)) e
      · refine matchSeq_tuple_miss pl hf (by simp [← rv.length, hl]) ?_
        exact wpAny_matchCases_nil ⟨_, _, I1.tok _, hn hl⟩
  · refine wpAny_matchPattern_Sequence (wpAny_collectionFlag (ty_is I1 r1 ty ht) (flag_not ht) ?_)
    exact wpAny_matchCases_nil ⟨_, _, I1, q⟩
def sMatch2 (fe : ME) (i j : Nat) (tg : MT) (f : MS) : MS := fun l c => (fe l c).seq l fun d c1 => match pairOf d c1 with
  | none => .stuck
  | some none => .go (.nx l) c1
  | some (some (x, y)) => (tg ((l.set i (some x)).set j (some y)) c1).seq ((l.set i (some x)).set j (some y)) fun b c2 => match b with
    | true => f ((l.set i (some x)).set j (some y)) c2
    | false => .go (.nx ((l.set i (some x)).set j (some y))) c2
theorem seq_at {K : PySem.W.Frag} {I H : Hp} {m : List Addr} {c : Cs} {v : V} {d : D} {ds : List D} (R : Rel K I H m c) (p : Rep K I m v d) (h : seqOf d c = some ds) : ∃ a xs, v = .ref a ∧ (SqL K H a xs ∨ SqT K H a xs) ∧ Reps K I m xs ds := by
  cases p with
  | lst q r => cases h; exact ⟨_, _, rfl, .inl (R.same.seq (.inl (.inl q))), r⟩
  | ro q r => cases h; exact ⟨_, _, rfl, .inl (R.same.seq q), r⟩
  | tup q r => cases h; exact ⟨_, _, rfl, .inr (sqT_same R.same q), r⟩
  | @ref k a q =>
    have h : (match c[k]? with
      | some (.lst xs) => some xs
      | _ => none) = some ds := h
    cases e : c[k]? with
    | none => rw [e] at h; cases h
    | some x =>
      rw [e] at h
      cases x with
      | lst es =>
        cases h
        obtain ⟨_, vs, h1, h2⟩ := R.cell k a _ q e
        exact ⟨a, vs, rfl, .inl (.inl (.inl h1)), h2⟩
      | _ => cases h
  | _ => cases h
theorem ms_match2 {X : Cx} {W : WX} {e g : Expr} {body : List Stmt} {n1 n2 : Str} {p0 p1 p2 p3 : Pos} {i j : Nat} {fe : ME} {tg : MT} {f : MS} (hN : X.N.Nodup) (hi : X.N[i]? = some n1) (hj : X.N[j]? = some n2)
    (hx : Loc X.env.scope n1) (hy : Loc X.env.scope n2) (hc : X.calm = true) (he : PE X e (rdE X.K W fe)) (hg : PT X g (rdT X.K W tg)) (hb : PSs X body (rdS X.K W f))
    (hf1 : X.fn n1 = true ∨ X.env.scope.names.lookup n1 = some .local := by first | exact .inl rfl | exact .inr rfl | assumption)
    (hf2 : X.fn n2 = true ∨ X.env.scope.names.lookup n2 = some .local := by first | exact .inl rfl | exact .inr rfl | assumption) :
    PS X (.Match e [⟨.MatchSequence [.MatchAs none (some n1) p1, .MatchAs none (some n2) p2] p3, some g, body⟩] p0) (rdS X.K W (sMatch2 fe i j tg f)) :=
  PSi (ps_match2 hN hi hj hx hy hc he hg hb hf1 hf2) fun D σ H ⟨I, m, l, c, R, L, A⟩ =>
    ⟨I, m, l, c, R, L, After.mono (AfterS.seq (rep := rD X.K) L A) fun v1 H1 ⟨I1, m1, c1, d1, E1, R1, p1, A1⟩ => by
      have L1 := L.ext E1
      have A1 : AfterS X.K I1 m1 H1 W D (match pairOf d1 c1 with
        | none => .stuck
        | some none => .go (.nx l) c1
        | some (some (x, y)) => (tg ((l.set i (some x)).set j (some y)) c1).seq ((l.set i (some x)).set j (some y)) fun b c2 => match b with
          | true => f ((l.set i (some x)).set j (some y)) c2
          | false => .go (.nx ((l.set i (some x)).set j (some y))) c2) := A1
      cases hs : seqOf d1 c1 with
      | some ds =>
        obtain ⟨a, xs, rfl, h1, h2⟩ := seq_at R1 p1 hs
        refine .inl ⟨a, xs, rfl, h1, fun hl => ?_, fun y z e => ?_⟩
        · have hp : pairOf d1 c1 = some none := by
            unfold pairOf
            rw [hs]
            match ds, h2.length with
            | [], _ => rfl
            | [_], _ => rfl
            | [_, _], e => exact absurd e hl
            | _ :: _ :: _ :: _, _ => rfl
          rw [hp] at A1
          exact A1 I1 m1 H1 σ (Ext.refl _ _ _) R1 L1
        · subst e
          cases h2 with
          | @cons v1 vs1 dy ds1 hy1 ht1 =>
          cases ht1 with
          | @cons v2 vs2 dz ds2 hz1 ht2 =>
          cases ht2
          have hp : pairOf d1 c1 = some (some (dy, dz)) := by unfold pairOf; rw [hs]
          rw [hp] at A1
          have L2 := (L1.set i hy1).set j hz1
          refine ⟨I1, m1, _, c1, R1, L2, After.mono (AfterS.seq (rep := rB) L2 A1) fun b H2 ⟨I2, m2, c2, b2, E2, R2, p2, A2⟩ => ?_⟩
          cases (show b = b2 from p2)
          cases b with
          | true => exact ⟨I2, m2, _, c2, R2, L2.ext E2, A2⟩
          | false => exact A2 I2 m2 H2 _ (Ext.refl _ _ _) R2 (L2.ext E2)
      | none =>
        cases ht : tyD d1 c1 with
        | none =>
          have hp : pairOf d1 c1 = none := by unfold pairOf; rw [hs]; simp only [ht]
          rw [hp] at A1
          exact A1.elim
        | some t =>
          by_cases hm : t ∈ notSeq
          · have hp : pairOf d1 c1 = some none := by unfold pairOf; rw [hs]; simp only [ht, if_pos hm]
            rw [hp] at A1
            exact .inr ⟨t, tyD_is R1 p1 ht, hm, A1 I1 m1 H1 σ (Ext.refl _ _ _) R1 L1⟩
          · have hp : pairOf d1 c1 = none := by unfold pairOf; rw [hs]; simp only [ht, if_neg hm]
            rw [hp] at A1
            exact A1.elim⟩
end L2.Mi

namespace L2.Mi
open PySem PySem.Spec PyProof.Rows L2

section
variable {K : PySem.W.Frag}
/-! ### tuple(x), list(x), int(x), str(n), bool(x) -/
def lstOf (d : D) (c : Cs) : Option (List D) := match d with
  | .lst xs => some xs
  | .ro xs => some xs
  | .ref k => match c[k]? with
    | some (.lst xs) => some xs
    | _ => none
  | _ => none
theorem lst_at {I H : Hp} {m : List Addr} {c : Cs} {v : V} {d : D} {ds : List D} (R : Rel K I H m c) (p : Rep K I m v d) (h : lstOf d c = some ds) : ∃ a xs, v = .ref a ∧ SqL K H a xs ∧ Reps K I m xs ds := by
  cases p with
  | lst q r => cases h; exact ⟨_, _, rfl, R.same.seq (.inl (.inl q)), r⟩
  | ro q r => cases h; exact ⟨_, _, rfl, R.same.seq q, r⟩
  | @ref k a q =>
    have h : (match c[k]? with
      | some (.lst xs) => some xs
      | _ => none) = some ds := h
    cases e : c[k]? with
    | none => rw [e] at h; cases h
    | some x =>
      rw [e] at h
      cases x with
      | lst es =>
        cases h
        obtain ⟨_, vs, h1, h2⟩ := R.cell k a _ q e
        exact ⟨a, vs, rfl, .inl (.inl h1), h2⟩
      | _ => cases h
  | _ => cases h
def tupleP (d : D) (c : Cs) : R D := match d with
  | .tup xs => .ok (.tup xs) c
  | d => match lstOf d c with
    | some xs => .ok (.tup xs) c
    | none => .stuck
def tupleD : List D → Cs → R D := on1 tupleP
abbrev rTuple (K : PySem.W.Frag) : List V → Hp → VK → Prop := fun xs H Q => ∃ p ys, xs = [.ref p] ∧ ((SqL K H p ys ∧ ∀ l, H l = none → Q (.ref l) (upd H l (.tup ys))) ∨ (SqT K H p ys ∧ Q (.ref p) H))
theorem cs_tuple : CallS K (rTuple K) tupleD := fun I H m c vs ds W Q R p A => by
  obtain ⟨v, d, rfl, rfl, pd, A⟩ := on1_arg p A
  have other : After (rD K) K I m H W Q (match lstOf d c with
    | some xs => .ok (.tup xs) c
    | none => .stuck) → rTuple K [v] H Q := fun A2 => by
    cases e : lstOf d c with
    | none => rw [e] at A2; exact A2.elim
    | some xs =>
      rw [e] at A2
      obtain ⟨a, ys, rfl, h1, h2⟩ := lst_at R pd e
      exact ⟨a, ys, rfl, .inl ⟨h1, fun l nl => A2.new R nl (.tup (SqT.of upd_same) (h2.mono (same_upd R.same nl) (Pre.refl _)))⟩⟩
  cases pd with
  | tup q r => exact ⟨_, _, rfl, .inr ⟨sqT_same R.same q, A.here R (.tup q r)⟩⟩
  | _ => exact other A
/-- list(x), a new list that stays as it is -/
def listP (d : D) (c : Cs) : R D := match seqOf d c with
  | some xs => .ok (.lst xs) c
  | none => .stuck
def listD : List D → Cs → R D := on1 listP
abbrev rList (K : PySem.W.Frag) : List V → Hp → VK → Prop := fun xs H Q => ∃ p ys, xs = [.ref p] ∧ (SqL K H p ys ∨ SqT K H p ys) ∧ ∀ l, H l = none → Q (.ref l) (upd H l (.lst ys))
theorem cs_list : CallS K (rList K) listD := fun I H m c vs ds W Q R p A => by
  obtain ⟨v, d, rfl, rfl, pd, A⟩ := on1_arg p A
  have A2 : After (rD K) K I m H W Q (match seqOf d c with
    | some xs => .ok (.lst xs) c
    | none => .stuck) := A
  cases e : seqOf d c with
  | none => rw [e] at A2; exact A2.elim
  | some xs =>
    rw [e] at A2
    obtain ⟨a, ys, rfl, h1, h2⟩ := seq_at R pd e
    exact ⟨a, ys, rfl, h1, fun l nl => A2.new R nl (.lst upd_same (h2.mono (same_upd R.same nl) (Pre.refl _)))⟩
def intP (d : D) (c : Cs) : R D := match d with
  | .int i => .ok (.int i) c
  | .bl k => .ok (.int (if k then 1 else 0)) c
  | .str a => match PySem.intText? a with
    | some n => if a.length ≤ 640 then .ok (.int n) c else .stuck
    | none => .stuck
  | _ => .stuck
def intFD : List D → Cs → R D := on1 intP
def rIntF : List V → Hp → VK → Prop := fun xs H Q => ((∃ i, xs = [.int i] ∧ Q (.int i) H) ∨ ∃ k, xs = [.bl k] ∧ Q (.int (if k then 1 else 0)) H) ∨ ∃ a n, xs = [.str a] ∧ PySem.intText? a = some n ∧ a.length ≤ 640 ∧ Q (.int n) H
theorem call_intF {X : Cx} : CallR X (.type "int") rIntF := call_int1.or call_int_str
theorem cs_intF : CallS K rIntF intFD := fun I H m c vs ds W Q R p A => by
  obtain ⟨v, d, rfl, rfl, pd, A⟩ := on1_arg p A
  cases pd with
  | int i => exact .inl (.inl ⟨i, rfl, A.here R (.int i)⟩)
  | bl k => exact .inl (.inr ⟨k, rfl, A.here R (.int _)⟩)
  | str a =>
    have A2 : After (rD K) K I m H W Q (match PySem.intText? a with
      | some n => if a.length ≤ 640 then .ok (.int n) c else .stuck
      | none => .stuck) := A
    cases e : PySem.intText? a with
    | none => rw [e] at A2; exact A2.elim
    | some n =>
      rw [e] at A2
      by_cases hl : a.length ≤ 640
      · have A3 : After (rD K) K I m H W Q (if a.length ≤ 640 then .ok (.int n) c else .stuck) := A2
        rw [if_pos hl] at A3
        exact .inr ⟨a, n, rfl, e, hl, A3.here R (.int n)⟩
      · have A3 : After (rD K) K I m H W Q (if a.length ≤ 640 then .ok (.int n) c else .stuck) := A2
        rw [if_neg hl] at A3
        exact A3.elim
  | _ => exact A.elim
def strP (d : D) (c : Cs) : R D := match d with
  | .int i => if i.natAbs.log2 < 1920 then .ok (.str (toString i)) c else .stuck
  | _ => .stuck
def strFD : List D → Cs → R D := on1 strP
abbrev rStrF : List V → Hp → VK → Prop := fun xs H Q => ∃ i, xs = [.int i] ∧ i.natAbs.log2 < 1920 ∧ Q (.str (toString i)) H
theorem cs_strF : CallS K rStrF strFD := fun I H m c vs ds W Q R p A => by
  obtain ⟨v, d, rfl, rfl, pd, A⟩ := on1_arg p A
  cases pd with
  | int i =>
    have A2 : After (rD K) K I m H W Q (if i.natAbs.log2 < 1920 then .ok (.str (toString i)) c else .stuck) := A
    by_cases hl : i.natAbs.log2 < 1920
    · rw [if_pos hl] at A2
      exact ⟨i, rfl, hl, A2.here R (.str _)⟩
    · rw [if_neg hl] at A2
      exact A2.elim
  | _ => exact A.elim
def boolP (d : D) (c : Cs) : R D := match d with
  | .int i => .ok (.bl (i != 0)) c
  | .bl k => .ok (.bl k) c
  | _ => .stuck
def boolFD : List D → Cs → R D := on1 boolP
abbrev rBoolF : List V → Hp → VK → Prop := fun xs H Q => (∃ i, xs = [.int i] ∧ Q (.bl (i != 0)) H) ∨ ∃ k, xs = [.bl k] ∧ Q (.bl k) H
theorem cs_boolF : CallS K rBoolF boolFD := fun I H m c vs ds W Q R p A => by
  obtain ⟨v, d, rfl, rfl, pd, A⟩ := on1_arg p A
  cases pd with
  | int i => exact .inl ⟨i, rfl, A.here R (.bl _)⟩
  | bl k => exact .inr ⟨k, rfl, A.here R (.bl _)⟩
  | _ => exact A.elim
end
/-! ### what stands at the module's top -/
section
variable {X : Cx} {W : WX} {pos : Pos} {x : Str}
def IsC (K : PySem.W.Frag) (mg : Str → Option Value) (x : Str) (d : D) : Prop := ∃ u v, mg x = some u ∧ RelV v u ∧ ∀ I m, Rep K I m v d
theorem me_const {d : D} (hg : Gl X x) (h : IsC X.K X.mg x d) (hd : (x == ("__debug__" : Str)) = false := by decide) : PE X (.Name x pos) (rdE X.K W (mC d)) := by
  obtain ⟨u, v, h1, h2, h3⟩ := h
  exact me_c (pe_glob hg h1 h2 hd) h3
theorem isc_int {K : PySem.W.Frag} {mg : Str → Option Value} {i : Int} {t : Tok} (h : mg x = some (.int i t)) : IsC K mg x (.int i) := ⟨_, .int i, h, ⟨_, rfl⟩, fun _ _ => .int i⟩
theorem isc_str {K : PySem.W.Frag} {mg : Str → Option Value} {i : Str} {t : Tok} (h : mg x = some (.str i t)) : IsC K mg x (.str i) := ⟨_, .str i, h, ⟨_, rfl⟩, fun _ _ => .str i⟩
/-- a tuple of the written part, and what stands in it -/
inductive KV' (K : PySem.W.Frag) : Value → D → Prop where
  | int (i : Int) (t : Tok) : KV' K (.int i t) (.int i)
  | str (i : Str) (t : Tok) : KV' K (.str i t) (.str i)
theorem KV'.get {K : PySem.W.Frag} {u : Value} {d : D} (h : KV' K u d) : ∃ v, RelV v u ∧ ∀ I m, Rep K I m v d := by
  cases h with
  | int i t => exact ⟨.int i, ⟨_, rfl⟩, fun _ _ => .int i⟩
  | str i t => exact ⟨.str i, ⟨_, rfl⟩, fun _ _ => .str i⟩
theorem kvs_get {K : PySem.W.Frag} : ∀ {us : List Value} {ds : List D}, Paired (KV' K) us ds → ∃ vs, Vals vs us ∧ ∀ I m, Reps K I m vs ds
  | _, _, .nil => ⟨[], .nil, fun _ _ => .nil⟩
  | _, _, .cons h t => by
    obtain ⟨v, h1, h2⟩ := h.get
    obtain ⟨vs, t1, t2⟩ := kvs_get t
    exact ⟨v :: vs, .cons h1 t1, fun I m => .cons (h2 I m) (t2 I m)⟩
theorem isc_tup {K : PySem.W.Frag} {mg : Str → Option Value} {a : Addr} {od : Option Addr} {its : Array Value} {n : Nat} {sl : Array (Option Value)} {ds : List D} (h : mg x = some (.ref a)) (hl : K.lookup a = some ⟨.type "tuple", od, .seq its n, sl⟩) (hz : its.size ≤ sizeLine)
    (hp : Paired (KV' K) its.toList ds) : IsC K mg x (.tup ds) := by
  obtain ⟨vs, r1, r2⟩ := kvs_get hp
  exact ⟨_, .ref a, h, rfl, fun I m => .tup (.inr ⟨_, its, n, hl, rfl, rfl, hz, r1⟩) (r2 I m)⟩
end
end L2.Mi

namespace L2.Mi
open PySem PySem.Spec PyProof.Rows L2 PySem.SeqAt PySem.AutoSeq1

/-! ### a dict and a text are never equal -/
theorem str_eq_declines_dict (b : Str) (u : Tok) (l : Addr) (c : Value) (es : Array DictEntry) (n : Nat) (dd : Option Addr) (sl : Array (Option Value)) :
    Meets (Builtin.«str.__eq__» ⟨[.str b u, .ref l], []⟩) (fun _ R s => s.heap.get? l = some { cls := c, dict := dd, data := .dict es n, slots := sl } ∧ R (.ok (.ret .notImplemented)) s) :=
  .of_wp fun prog w A R s h => by obtain ⟨hp, g, d, tk, os⟩ := s; obtain ⟨hl, h⟩ := h; wp_walk using wpAny_loadPart' hl, wpAny_load hl; exact ⟨_, rfl, h⟩
theorem rc_dict_str {prog : Program} {w : World} {A : Around} {E Q : Value → Shared → Prop} {s : Shared} {l : Addr} {es : Array DictEntry} {n : Nat} {dd : Option Addr} {sl : Array (Option Value)} (b : Str) (u : Tok)
    (ho : s.heap.get? l = some { cls := .type "dict", dict := dd, data := .dict es n, slots := sl }) (hu : A.units < cLine) (h : Q (.bool false) s) : wpAny (model prog w) A (richCompare .Eq (.ref l) (.str b u)) Q E s := by
  have tl : s.TypeIs (.ref l) "dict" := ⟨_, ho, rfl⟩
  refine rc_eq_decline_or (k := false) tl (typeIs_str s b u) (by decide) F.sub_str_dict F.slot_dict_eq F.slot_str_eq_refl
    (fun Q' hq => wpAny_call_entry F.slot_dict_eq tl F.entry_dict_eq ?_ (F.args_dict_eq_2 _ _))
    (fun _ hq => call_meets F.slot_str_eq_refl (typeIs_str s b u) F.entry_str_eq (F.args_str_eq_2 _ _) (str_eq_declines_dict b u l (.type "dict") es n dd sl) ⟨ho, hq⟩)
    (fun _ hq => wpAny_of_eq (rfl : isSame (.ref l) (.str b u) = pure false) hq) (.inr hu) h
  show wpAny _ _ (Builtin.Dict.dictSlotArgs "__eq__" ⟨[.ref l, .str b u], []⟩ >>= _) _ _ s
  refine wpAny_bind ?_
  unfold Builtin.Dict.dictSlotArgs
  refine wpAny_bind (wpAny_notOrdered_dict tl ?_)
  show wpAny _ _ (pure (Value.ref l, Value.str b u)) _ _ s
  refine wpAny_pure ?_
  refine wpAny_bind (wpAny_isInstance (T := "str") (typeIs_str s b u) F.sub_str_dict ?_)
  simp only [Bool.not_false, if_true]
  exact wpAny_bind (wpAny_rule (wpAny_pure ⟨_, rfl, hq⟩))
def rDs : R2 := fun x y H Q => ∃ a kvs b, x = .ref a ∧ H a = some (.dK kvs) ∧ y = .str b ∧ Q (.bl false) H
theorem op_ds {X : Cx} (hu : X.A.units + 64 < cLine) : OpR X (compareOp .Eq) rDs := by
  intro pins s σ H x y v u Q I rx ry h
  obtain ⟨a, kvs, b, rfl, ha, rfl, q⟩ := h
  cases (show v = Value.ref a from rx)
  obtain ⟨t, rfl⟩ := ry
  obtain ⟨_, _, vs, _, ⟨cls, dd, data, sl⟩, es, ep, h1, h2, h3, _⟩ := (show ObjOk X.prog X.w H s.heap a (.dK kvs) from I.hok a _ ha)
  have h2 := h2.1
  simp only at h2 h3
  subst h2 h3
  exact rc_dict_str b t h1 (by omega) ⟨.bl false, H, I, rfl, q⟩
section
variable {K : PySem.W.Frag}
def rEqB (K : PySem.W.Frag) : R2 := fun x y H Q => rEqA K x y H Q ∨ rDs x y H Q
theorem op_eqB {X : Cx} (hu : X.A.units + 64 < cLine) : OpR X (compareOp .Eq) (rEqB X.K) := (op_eqA hu).or (op_ds hu)
def eqE : D → D → Cs → R D
  | .dct _, .str _, c => .ok (.bl false) c
  | d, e, c => eqD d e c
theorem os_eqE : OpS K (rEqB K) eqE := fun I H m c v1 v2 d1 d2 W Q R p1 p2 A => by
  have gen : After (rD K) K I m H W Q (eqD d1 d2 c) → rEqB K v1 v2 H Q := fun A => .inl (os_eq I H m c v1 v2 d1 d2 W Q R p1 p2 A)
  cases p1 with
  | dct h r => cases p2 with
    | str s => exact .inr ⟨_, _, s, rfl, R.same _ _ h, rfl, A.here R (.bl _)⟩
    | _ => exact gen A
  | _ => exact gen A
end
end L2.Mi

namespace L2.Mi
open PySem PySem.Spec PyProof.Rows L2

/-! ### data with dicts, read and shown -/
def kP : Key → PyData
  | .inl i => .int i
  | .inr s => .str s
mutual
inductive Rx (h : Heap) : Value → PyData → Prop
  | non : Rx h .none .none
  | bl (b : Bool) : Rx h (.bool b) (.bool b)
  | int (i : Int) (t : Tok) : Rx h (.int i t) (.int i)
  | str (x : Str) (t : Tok) : Rx h (.str x t) (.str x)
  | lst {a : Addr} {o : Obj} {vs : Array Value} {n : Nat} {xs : List PyData} (h1 : h.get? a = some o) (h2 : o.cls = .type "list") (h3 : o.data = .seq vs n) (h4 : Rxs h vs.toList xs) : Rx h (.ref a) (.list xs)
  | tup {a : Addr} {o : Obj} {vs : Array Value} {n : Nat} {xs : List PyData} (h1 : h.get? a = some o) (h2 : o.cls = .type "tuple") (h3 : o.data = .seq vs n) (h4 : Rxs h vs.toList xs) : Rx h (.ref a) (.tuple xs)
  | dct {a : Addr} {o : Obj} {es : Array DictEntry} {n : Nat} {kvs : List (PyData × PyData)} (h1 : h.get? a = some o) (h2 : o.cls = .type "dict") (h3 : o.data = .dict es n) (hs : (a == sysModules) = false)
      (h4 : Rxs h (es.toList.map (·.key)) (kvs.map (·.1))) (h5 : Rxs h (es.toList.map (·.val)) (kvs.map (·.2))) : Rx h (.ref a) (.dict kvs)
inductive Rxs (h : Heap) : List Value → List PyData → Prop
  | nil : Rxs h [] []
  | cons {v : Value} {vs : List Value} {d : PyData} {ds : List PyData} (r : Rx h v d) (t : Rxs h vs ds) : Rxs h (v :: vs) (d :: ds)
end
mutual
theorem Rx.reads {h : Heap} : ∀ {v : Value} {d : PyData}, Rx h v d → ∃ as, Reads h v d as
  | _, _, .non => ⟨_, .none⟩
  | _, _, .bl b => ⟨_, .bool b⟩
  | _, _, .int i t => ⟨_, .int i t⟩
  | _, _, .str x t => ⟨_, .str x t⟩
  | _, _, .lst h1 h2 h3 h4 => let ⟨_, r⟩ := Rxs.reads h4; ⟨_, .list h1 h2 h3 r⟩
  | _, _, .tup h1 h2 h3 h4 => let ⟨_, r⟩ := Rxs.reads h4; ⟨_, .tuple h1 h2 h3 r⟩
  | _, _, .dct h1 h2 h3 _ h4 h5 => let ⟨_, r⟩ := Rxs.reads h4; let ⟨_, q⟩ := Rxs.reads h5; ⟨_, .dict h1 h2 h3 r q⟩
theorem Rxs.reads {h : Heap} : ∀ {v : List Value} {d : List PyData}, Rxs h v d → ∃ as, ReadsAll h v d as
  | _, _, .nil => ⟨_, .nil⟩
  | _, _, .cons r t => let ⟨_, r⟩ := Rx.reads r; let ⟨_, q⟩ := Rxs.reads t; ⟨_, .cons r q⟩
end
theorem Rxs.length {h : Heap} : ∀ {v : List Value} {d : List PyData}, Rxs h v d → v.length = d.length
  | _, _, .nil => rfl
  | _, _, .cons _ t => congrArg (· + 1) t.length
section
variable {P : Program} {w : World} {h : Heap}
def Shw (P : Program) (w : World) (h : Heap) (n : Nat) (v : Value) (t : Str) : Prop := ∃ bs, ReadAtMost h n bs ∧ ReprK P w bs h n v t
def Shws (P : Program) (w : World) (h : Heap) (n : Nat) (vs : List Value) (ts : List Str) : Prop := ∃ bs, ReadAtMost h n bs ∧ ReprAllK P w bs h n vs ts
theorem Shws.cons {n m : Nat} {v : Value} {vs : List Value} {t : Str} {ts : List Str} (a : Shw P w h n v t) (b : Shws P w h m vs ts) : Shws P w h (max n m) (v :: vs) (t :: ts) := by
  obtain ⟨b1, r1, k1⟩ := a
  obtain ⟨b2, r2, k2⟩ := b
  refine ⟨b1 ++ b2, (r1.mono (Nat.le_max_left _ _)).append (r2.mono (Nat.le_max_right _ _)), ?_⟩
  exact .cons ((k1.more fun b hb => List.mem_append_left _ hb).level_le (Nat.le_max_left _ _)) (k2.more_le (fun b hb => List.mem_append_right _ hb) (Nat.le_max_right _ _))
/-- a dict's parts: its entries as they are shown, and that it does not stand in itself -/
theorem shw_dct {a : Addr} {o : Obj} {es : Array DictEntry} {n : Nat} {kvs : List (PyData × PyData)} (r : Rx h (.ref a) (.dict kvs)) (h3 : o.data = .dict es n) (k1 : Shws P w h (PyData.depthAll (kvs.map (·.1))) (es.toList.map (·.key)) (PyData.shownAll (kvs.map (·.1))))
    (k2 : Shws P w h (PyData.depthAll (kvs.map (·.2))) (es.toList.map (·.val)) (PyData.shownAll (kvs.map (·.2)))) :
    ∃ bs, ReadAtMost h (PyData.depthKv kvs) bs ∧ a ∉ bs ∧ ReprEntriesK P w bs h (PyData.depthKv kvs) es.toList (PyData.shownKv kvs) := by
  obtain ⟨b1, r1, k1⟩ := k1
  obtain ⟨b2, r2, k2⟩ := k2
  have hb := (r1.mono (PyData.depthAll_keys_le kvs)).append (r2.mono (PyData.depthAll_vals_le kvs))
  obtain ⟨as, rr⟩ := r.reads
  refine ⟨b1 ++ b2, hb, not_mem_of_deeper rr (by simp only [PyData.depth]; omega) hb, ?_⟩
  rw [PyData.shownKv_eq]
  exact ReprEntriesK.of_two _ _ _ (k1.more_le (fun b hb => List.mem_append_left _ hb) (PyData.depthAll_keys_le kvs)) (k2.more_le (fun b hb => List.mem_append_right _ hb) (PyData.depthAll_vals_le kvs))
theorem shw_seq {a : Addr} {xs : List PyData} {d : PyData} {vs : List Value} (r : Rx h (.ref a) d) (hd : d.depth = PyData.depthAll xs + 1) (k : Shws P w h (PyData.depthAll xs) vs (PyData.shownAll xs)) :
    ∃ bs, ReadAtMost h (PyData.depthAll xs) bs ∧ a ∉ bs ∧ ReprAllK P w bs h (PyData.depthAll xs) vs (PyData.shownAll xs) := by
  obtain ⟨bs, hb, hk⟩ := k
  obtain ⟨as, rr⟩ := r.reads
  exact ⟨bs, hb, not_mem_of_deeper rr (by rw [hd]; omega) hb, hk⟩
mutual
theorem Rx.shw : ∀ {v : Value} {d : PyData}, Rx h v d → d.showable = true → d.shown.length ≤ sizeLine → Shw P w h d.depth v d.shown
  | _, _, .non, _, _ => ⟨[], (fun _ h => nomatch h), by simp only [PyData.shown]; exact .of_is ReprIs.none _ _ _⟩
  | _, _, .bl b, _, _ => ⟨[], (fun _ h => nomatch h), by simp only [PyData.shown]; exact .of_is (ReprIs.bool b) _ _ _⟩
  | _, _, .int i t, hs, _ => ⟨[], (fun _ h => nomatch h), by simp only [PyData.shown]; exact .of_is (ReprIs.int t (by simpa [PyData.showable] using hs)) _ _ _⟩
  | _, _, .str x t, _, hz => ⟨[], (fun _ h => nomatch h), by simp only [PyData.shown]; exact .of_is (ReprIs.str x t (by simpa only [PyData.shown] using hz)) _ _ _⟩
  | _, _, .lst (a := a) (vs := vs) (xs := xs) h1 h2 h3 h4, hs, hz => by
    have hz' : (listText (PyData.shownAll xs)).length ≤ sizeLine := by simpa only [PyData.shown] using hz
    have r : Rx h (.ref a) (.list xs) := .lst h1 h2 h3 h4
    obtain ⟨bs, hb, hna, hk⟩ := shw_seq r (by simp only [PyData.depth]) (Rxs.shw h4 (by simpa [PyData.showable] using hs) fun t ht => Nat.le_trans (listText_mem_le ht) hz')
    obtain ⟨as, rr⟩ := r.reads
    refine ⟨a :: bs, ReadAtMost.cons rr (by simp only [PyData.depth]; omega) hb, ?_⟩
    simp only [PyData.depth, PyData.shown]
    obtain ⟨l⟩ := vs
    cases l with
    | nil =>
      have e : xs = [] := List.length_eq_zero_iff.mp h4.length.symm
      subst e
      simp only [PyData.shownAll, listText_nil]
      exact ReprK.listEmpty h1 h2 h3
    | cons x l => exact ReprK.list h1 h2 h3 hna (by simpa using hk.length_eq) (fun i y e => hk.item i y (by simpa using e))
  | _, _, .tup (a := a) (xs := xs) h1 h2 h3 h4, hs, hz => by
    have hz' : (tupleText (PyData.shownAll xs)).length ≤ sizeLine := by simpa only [PyData.shown] using hz
    have r : Rx h (.ref a) (.tuple xs) := .tup h1 h2 h3 h4
    obtain ⟨bs, hb, hna, hk⟩ := shw_seq r (by simp only [PyData.depth]) (Rxs.shw h4 (by simpa [PyData.showable] using hs) fun t ht => Nat.le_trans (tupleText_mem_le ht) hz')
    obtain ⟨as, rr⟩ := r.reads
    refine ⟨a :: bs, ReadAtMost.cons rr (by simp only [PyData.depth]; omega) hb, ?_⟩
    simp only [PyData.depth, PyData.shown]
    exact ReprK.tuple h1 h2 h3 hna hk
  | _, _, .dct (a := a) (es := es) (kvs := kvs) h1 h2 h3 hx h4 h5, hs, hz => by
    have hz' : (dictText (PyData.shownKv kvs)).length ≤ sizeLine := by simpa only [PyData.shown] using hz
    obtain ⟨hs1, hs2⟩ := PyData.showableKv_split kvs (by simpa [PyData.showable] using hs)
    have r : Rx h (.ref a) (.dict kvs) := .dct h1 h2 h3 hx h4 h5
    obtain ⟨bs, hb, hna, hk⟩ := shw_dct r h3 (Rxs.shw h4 hs1 fun t ht => let ⟨p, hp, hl⟩ := PyData.shownKv_key_le kvs t ht; Nat.le_trans hl (Nat.le_trans (dictText_mem_le hp) hz'))
      (Rxs.shw h5 hs2 fun t ht => let ⟨p, hp, hl⟩ := PyData.shownKv_val_le kvs t ht; Nat.le_trans hl (Nat.le_trans (dictText_mem_le hp) hz'))
    obtain ⟨as, rr⟩ := r.reads
    refine ⟨a :: bs, ReadAtMost.cons rr (by simp only [PyData.depth]; omega) hb, ?_⟩
    simp only [PyData.depth, PyData.shown]
    exact ReprK.dict h1 h2 h3 hx hna hk
theorem Rxs.shw : ∀ {v : List Value} {d : List PyData}, Rxs h v d → PyData.showableAll d = true → (∀ t ∈ PyData.shownAll d, t.length ≤ sizeLine) → Shws P w h (PyData.depthAll d) v (PyData.shownAll d)
  | _, _, .nil, _, _ => ⟨[], (fun _ h => nomatch h), by simp only [PyData.shownAll]; exact .nil⟩
  | _, _, .cons (d := d) (ds := ds) r t, hs, hz => by
    have hs' : d.showable = true ∧ PyData.showableAll ds = true := by simpa [PyData.showableAll] using hs
    simp only [PyData.depthAll, PyData.shownAll] at hz ⊢
    exact Shws.cons (Rx.shw r hs'.1 (hz _ (List.mem_cons_self ..))) (Rxs.shw t hs'.2 fun t ht => hz t (List.mem_cons_of_mem _ ht))
end
/-- repr(x), x an object -/
theorem repr_rx {A : Around} {E Q : Value → Shared → Prop} {s : Shared} {a : Addr} {d : PyData} (r : Rx s.heap (.ref a) d) (hs : d.showable = true) (hg : A.guards = some []) (hu : A.units + (d.depth + 1) < cLine)
    (hQ : ∀ h' u tk, (∀ b o, s.heap.get? b = some o → h'.get? b = some o) → Q (.str d.shown u) { s with heap := h', toks := tk }) (hz : d.shown.length ≤ sizeLine) : wpAny (model P w) A (call (.builtin "repr") [.ref a]) Q E s := by
  have fin : ∀ {idr : String}, wpAny (model P w) A.in1 (call (.builtin idr) [.ref a]) (fun v s1 => ∃ h' u tk, (∀ b o, s.heap.get? b = some o → h'.get? b = some o) ∧ v = .str d.shown u ∧ s1 = { s with heap := h', toks := tk }) E s →
      wpAny (model P w) A.in1 (call (.builtin idr) [.ref a]) (fun r s₁ => ∃ x t, r = .str x t ∧ Q r s₁) E s := fun hc =>
    wpAny_mono hc (fun v s1 ⟨h', u, tk, k, e1, e2⟩ => ⟨_, _, e1, by rw [e1, e2]; exact hQ h' u tk k⟩) fun _ _ x => x
  have hu1 : A.in1.units = A.units + 1 := rfl
  cases r with
  | @lst _ o vs n xs h1 h2 h3 h4 =>
    have r : Rx s.heap (.ref a) (.list xs) := .lst h1 h2 h3 h4
    have hz' : (listText (PyData.shownAll xs)).length ≤ sizeLine := by simpa only [PyData.shown] using hz
    obtain ⟨bs, hb, hna, hk⟩ := shw_seq (P := P) (w := w) r (by simp only [PyData.depth]) (Rxs.shw h4 (by simpa [PyData.showable] using hs) fun t ht => Nat.le_trans (listText_mem_le ht) hz')
    simp only [PyData.depth] at hu
    simp only [PyData.shown] at fin
    refine call_repr_slot (by omega) ⟨o, h1, h2⟩ F.slot_list_repr.toG (fin ?_)
    obtain ⟨l⟩ := vs
    cases l with
    | nil =>
      have e : xs = [] := List.length_eq_zero_iff.mp h4.length.symm
      subst e
      refine call_list_repr_empty ⟨o, h1, h2⟩ h1 h3 ⟨s.heap, s.toks, s.toks + 1, fun _ _ e => e, ?_, rfl⟩
      simp only [PyData.shownAll, listText_nil]
    | cons x l => exact call_list_reprK h1 h2 h3 hna (by simpa using hk.length_eq) (fun i y e => hk.item i y (by simpa using e)) (g := []) hg (fun b _ => Clear.nil b) (by omega) (fun _ _ e => e) (fun h' u tk k => ⟨h', u, tk, k, rfl, rfl⟩) hz'
  | @tup _ o vs n xs h1 h2 h3 h4 =>
    have r : Rx s.heap (.ref a) (.tuple xs) := .tup h1 h2 h3 h4
    have hz' : (tupleText (PyData.shownAll xs)).length ≤ sizeLine := by simpa only [PyData.shown] using hz
    obtain ⟨bs, hb, hna, hk⟩ := shw_seq (P := P) (w := w) r (by simp only [PyData.depth]) (Rxs.shw h4 (by simpa [PyData.showable] using hs) fun t ht => Nat.le_trans (tupleText_mem_le ht) hz')
    simp only [PyData.depth] at hu
    simp only [PyData.shown] at fin
    refine call_repr_slot (by omega) ⟨o, h1, h2⟩ F.slot_tuple_repr (fin ?_)
    exact call_tuple_reprK h1 h2 h3 hna hk (g := []) hg (fun b _ => Clear.nil b) (by omega) (fun _ _ e => e) (fun h' u tk k => ⟨h', u, tk, k, rfl, rfl⟩) hz'
  | @dct _ o es n kvs h1 h2 h3 hx h4 h5 =>
    have r : Rx s.heap (.ref a) (.dict kvs) := .dct h1 h2 h3 hx h4 h5
    have hz' : (dictText (PyData.shownKv kvs)).length ≤ sizeLine := by simpa only [PyData.shown] using hz
    obtain ⟨hs1, hs2⟩ := PyData.showableKv_split kvs (by simpa [PyData.showable] using hs)
    obtain ⟨bs, hb, hna, hk⟩ := shw_dct (P := P) (w := w) r h3 (Rxs.shw h4 hs1 fun t ht => let ⟨p, hp, hl⟩ := PyData.shownKv_key_le kvs t ht; Nat.le_trans hl (Nat.le_trans (dictText_mem_le hp) hz'))
      (Rxs.shw h5 hs2 fun t ht => let ⟨p, hp, hl⟩ := PyData.shownKv_val_le kvs t ht; Nat.le_trans hl (Nat.le_trans (dictText_mem_le hp) hz'))
    simp only [PyData.depth] at hu
    simp only [PyData.shown] at fin
    refine call_repr_slot (by omega) ⟨o, h1, h2⟩ F.slot_dict_repr (fin ?_)
    exact call_dict_reprK h1 h2 h3 hx hna hk (g := []) hg (fun b _ => Clear.nil b) (by omega) (fun _ _ e => e) (fun h' u tk k => ⟨h', u, tk, k, rfl, rfl⟩) hz'
end
/-! ### .. at the level of tracked things -/
mutual
inductive Dx (K : PySem.W.Frag) (H : Hp) : V → PyData → Prop
  | non : Dx K H .non .none
  | bl (b : Bool) : Dx K H (.bl b) (.bool b)
  | int (i : Int) : Dx K H (.int i) (.int i)
  | str (x : Str) : Dx K H (.str x) (.str x)
  | lst {a : Addr} {xs : List V} {ds : List PyData} (h : SqL K H a xs) (t : Dxs K H xs ds) : Dx K H (.ref a) (.list ds)
  | tup {a : Addr} {xs : List V} {ds : List PyData} (h : SqT K H a xs) (t : Dxs K H xs ds) : Dx K H (.ref a) (.tuple ds)
  | dct {a : Addr} {xs : List (Key × V)} {ds : List (PyData × PyData)} (h : H a = some (.dK xs)) (t : Dxk K H xs ds) : Dx K H (.ref a) (.dict ds)
inductive Dxs (K : PySem.W.Frag) (H : Hp) : List V → List PyData → Prop
  | nil : Dxs K H [] []
  | cons {v : V} {vs : List V} {d : PyData} {ds : List PyData} (h : Dx K H v d) (t : Dxs K H vs ds) : Dxs K H (v :: vs) (d :: ds)
inductive Dxk (K : PySem.W.Frag) (H : Hp) : List (Key × V) → List (PyData × PyData) → Prop
  | nil : Dxk K H [] []
  | cons {k : Key} {v : V} {vs : List (Key × V)} {d : PyData} {ds : List (PyData × PyData)} (h : Dx K H v d) (t : Dxk K H vs ds) : Dxk K H ((k, v) :: vs) ((kP k, d) :: ds)
end
section
variable {X : Cx} {pins : List (Addr × Obj)} {σ : St} {H : Hp} {s : Shared}
theorem key_rx {h : Heap} {k : Key} {u : Value} (e : keyIs k u = true) : Rx h u (kP k) := by
  rcases keyIs_shape e with ⟨i, t, rfl, rfl⟩ | ⟨x, t, rfl, rfl⟩
  · exact .int i t
  · exact .str x t
mutual
theorem Dx.rx (I : Inv X pins σ H s) : ∀ {v : V} {d : PyData} {u : Value}, Dx X.K H v d → RelV v u → Rx s.heap u d
  | _, _, _, .non, r => by cases r; exact .non
  | _, _, _, .bl b, r => by cases r; exact .bl b
  | _, _, _, .int i, r => by obtain ⟨t, rfl⟩ := r; exact .int i t
  | _, _, _, .str x, r => by obtain ⟨t, rfl⟩ := r; exact .str x t
  | _, _, _, .lst h t, r => by
    cases r
    obtain ⟨its, rv, ⟨o, n, ho, hc, _, hd⟩, _⟩ := I.list h
    exact .lst ho hc hd (by simpa using Dxs.rx I t rv)
  | _, _, _, .tup h t, r => by
    cases r
    obtain ⟨its, rv, ⟨o, ho, hc, n, hd⟩, _⟩ := I.tuple h
    exact .tup ho hc hd (by simpa using Dxs.rx I t rv)
  | _, _, _, .dct (a := a) h t, r => by
    cases r
    obtain ⟨_, hs, vs, rv, o, es, ep, h1, h2, h3, _, h5, _⟩ := (show ObjOk X.prog X.w H s.heap a (.dK _) from I.hok a _ h)
    obtain ⟨k1, k2⟩ := Dxk.rx I t rv h5
    exact .dct h1 h2.1 h3 hs k1 k2
theorem Dxs.rx (I : Inv X pins σ H s) : ∀ {v : List V} {d : List PyData} {u : List Value}, Dxs X.K H v d → Vals v u → Rxs s.heap u d
  | _, _, _, .nil, r => by cases r; exact .nil
  | _, _, _, .cons h t, r => by
    cases r with
    | cons r1 r2 => exact .cons (Dx.rx I h r1) (Dxs.rx I t r2)
theorem Dxk.rx (I : Inv X pins σ H s) : ∀ {v : List (Key × V)} {d : List (PyData × PyData)} {u : List (Key × Value)} {es : List DictEntry}, Dxk X.K H v d → KV v u → Pairs (mixKind X.prog X.w) es u →
    Rxs s.heap (es.map (·.key)) (d.map (·.1)) ∧ Rxs s.heap (es.map (·.val)) (d.map (·.2))
  | _, _, _, _, .nil, r, p => by
    cases r
    cases p
    exact ⟨.nil, .nil⟩
  | _, _, _, _, .cons (k := k) h t, r, p => by
    cases r with
    | cons r1 r2 =>
      cases p with
      | cons p1 p2 p3 =>
        obtain ⟨q1, q2⟩ := Dxk.rx I t r2 p3
        obtain ⟨e1, e2⟩ := r1
        refine ⟨.cons (key_rx (k := k) ?_) q1, .cons ?_ q2⟩
        · have e1 : k = _ := e1
          rw [e1]
          exact p1
        · have q := Dx.rx I h e2
          rw [← p2] at q
          exact q
end
end
/-! ### repr and == of what a computation holds, cells looked through -/
def mapO {α β : Type} (f : α → Option β) : List α → Option (List β)
  | [] => some []
  | x :: xs => match f x with
    | some y => match mapO f xs with
      | some ys => some (y :: ys)
      | none => none
    | none => none
def toPyC : Nat → Cs → D → Option PyData
  | 0, _, _ => none
  | n + 1, c, d => match d with
    | .non => some .none
    | .bl b => some (.bool b)
    | .int i => some (.int i)
    | .str s => some (.str s)
    | .lst xs => (mapO (toPyC n c) xs).map .list
    | .ro xs => (mapO (toPyC n c) xs).map .list
    | .tup xs => (mapO (toPyC n c) xs).map .tuple
    | .dct kvs => (mapO (fun p => (toPyC n c p.2).map fun q => (kP p.1, q)) kvs).map .dict
    | .ref k => match c[k]? with
      | some (.lst xs) => (mapO (toPyC n c) xs).map .list
      | some (.dct kvs) => (mapO (fun p => (toPyC n c p.2).map fun q => (kP p.1, q)) kvs).map .dict
      | some (.frz d) => toPyC n c d
      | _ => none
    | _ => none
section
variable {K : PySem.W.Frag} {I H : Hp} {m : List Addr} {c : Cs}
theorem dxs_of {f : D → Option PyData} (hf : ∀ v d p, Rep K I m v d → f d = some p → Dx K H v p) : ∀ {vs : List V} {ds : List D} {ps : List PyData}, Reps K I m vs ds → mapO f ds = some ps → Dxs K H vs ps
  | _, _, _, .nil, e => by simp [mapO] at e; subst e; exact .nil
  | _, _, _, .cons (d := d) (ds := ds) h t, e => by
    unfold mapO at e
    cases q : f d with
    | none => rw [q] at e; cases e
    | some y =>
      cases q2 : mapO f ds with
      | none => rw [q, q2] at e; cases e
      | some ys => rw [q, q2] at e; cases e; exact .cons (hf _ _ _ h q) (dxs_of hf t q2)
theorem dxk_of {f : D → Option PyData} (hf : ∀ v d p, Rep K I m v d → f d = some p → Dx K H v p) : ∀ {vs : List (Key × V)} {ds : List (Key × D)} {ps : List (PyData × PyData)}, RepK K I m vs ds →
    mapO (fun p => (f p.2).map fun q => (kP p.1, q)) ds = some ps → Dxk K H vs ps
  | _, _, _, .nil, e => by simp [mapO] at e; subst e; exact .nil
  | _, _, _, .cons (k := k) (d := d) (ds := ds) h t, e => by
    unfold mapO at e
    cases q : f d with
    | none => simp only [q, Option.map_none] at e; cases e
    | some y =>
      cases q2 : mapO (fun p : Key × D => (f p.2).map fun q => (kP p.1, q)) ds with
      | none => simp only [q, q2, Option.map_some] at e; cases e
      | some ys => simp only [q, q2, Option.map_some] at e; cases e; exact .cons (hf _ _ _ h q) (dxk_of hf t q2)
theorem dx_of (R : Rel K I H m c) : ∀ (n : Nat) (v : V) (d : D) (p : PyData), Rep K I m v d → toPyC n c d = some p → Dx K H v p
  | 0, _, _, _, _, e => by cases e
  | n + 1, v, d, p, h, e => by
    have ih := dx_of R n
    cases h with
    | non => cases e; exact .non
    | bl b => cases e; exact .bl b
    | int i => cases e; exact .int i
    | str s => cases e; exact .str s
    | lst h r =>
      obtain ⟨ps, e1, rfl⟩ := Option.map_eq_some_iff.mp e
      exact .lst (.inl (.inl (R.same _ _ h))) (dxs_of ih r e1)
    | ro h r =>
      obtain ⟨ps, e1, rfl⟩ := Option.map_eq_some_iff.mp e
      exact .lst (R.same.seq h) (dxs_of ih r e1)
    | tup h r =>
      obtain ⟨ps, e1, rfl⟩ := Option.map_eq_some_iff.mp e
      exact .tup (sqT_same R.same h) (dxs_of ih r e1)
    | dct h r =>
      obtain ⟨ps, e1, rfl⟩ := Option.map_eq_some_iff.mp e
      exact .dct (R.same _ _ h) (dxk_of ih r e1)
    | @ref k a h =>
      have e : (match c[k]? with
        | some (.lst xs) => (mapO (toPyC n c) xs).map .list
        | some (.dct kvs) => (mapO (fun p => (toPyC n c p.2).map fun q => (kP p.1, q)) kvs).map .dict
        | some (.frz d) => toPyC n c d
        | _ => none) = some p := e
      cases q : c[k]? with
      | none => rw [q] at e; cases e
      | some x =>
        rw [q] at e
        have hc := R.cell k a x h q
        cases x with
        | lst xs =>
          obtain ⟨ps, e1, rfl⟩ := Option.map_eq_some_iff.mp e
          obtain ⟨_, vs, h1, h2⟩ := hc
          exact .lst (.inl (.inl h1)) (dxs_of ih h2 e1)
        | dct xs =>
          obtain ⟨ps, e1, rfl⟩ := Option.map_eq_some_iff.mp e
          obtain ⟨_, vs, h1, h2⟩ := hc
          exact .dct h1 (dxk_of ih h2 e1)
        | frz d => exact ih _ _ _ hc.2 e
        | _ => cases e
    | _ => cases e
def rReprX (K : PySem.W.Frag) : List V → Hp → VK → Prop := fun xs H Q => ∃ v d, xs = [v] ∧ Dx K H v d ∧ d.depth ≤ 60 ∧ d.showable = true ∧ d.shown.length ≤ sizeLine ∧ Q (.str d.shown) H
theorem call_reprX {X : Cx} (hg : X.A.guards = some []) (hu : X.A.units + 100 < cLine) : CallR X (.builtin "repr") (rReprX X.K) := fun pins s σ H xs us Q I r h => by
  obtain ⟨v, d, rfl, hd, hs, hw, hz, q⟩ := h
  obtain ⟨u, rfl, rx⟩ := vals1 r
  have hr := Dx.rx I hd rx
  have far : ∀ {a : Addr}, u = .ref a → wpAny (model X.prog X.w) X.A (call (.builtin "repr") [u]) (EP X pins σ Q) X.xe s := fun {a} e => by
    subst e
    exact repr_rx hr hw hg (by omega) (fun h' t tk k => ⟨.str _, H, I.kept k, ⟨t, rfl⟩, q⟩) hz
  cases hd with
  | non => cases (show u = Value.none from rx); exact PySem.P.repr_of_none ⟨.str _, H, I.tok _, ⟨_, rfl⟩, by simpa [PyData.shown] using q⟩
  | bl b => cases (show u = Value.bool b from rx); exact PySem.P.repr_of_bool ⟨.str _, H, I.tok _, ⟨_, rfl⟩, by simpa [PyData.shown] using q⟩
  | int i =>
    obtain ⟨t, rfl⟩ := rx
    exact PySem.P.repr_of_int (by simpa [PyData.showable] using hw) ⟨.str _, H, I.tok _, ⟨_, rfl⟩, by simpa [PyData.shown] using q⟩
  | str x =>
    obtain ⟨t, rfl⟩ := rx
    exact PySem.P.repr_of_str ⟨.str _, H, I.tok _, ⟨_, rfl⟩, by simpa [PyData.shown] using q⟩ (by simpa [PyData.shown] using hz)
  | lst h t => exact far rx
  | tup h t => exact far rx
  | dct h t => exact far rx
def okR (p : PyData) : Bool := decide (p.depth ≤ 60) && p.showable && decide (p.shown.length ≤ sizeLine)
def reprQ (d : D) (c : Cs) : R D := match toPyC 30 c d with
  | some p => if okR p = true then .ok (.str p.shown) c else .stuck
  | none => .stuck
def reprX : List D → Cs → R D := on1 reprQ
theorem cs_reprX : CallS K (rReprX K) reprX := fun I H m c vs ds W Q R p A => by
  obtain ⟨v, d, rfl, rfl, p, A⟩ := on1_arg p A
  unfold reprQ at A
  cases q : toPyC 30 c d with
  | none => rw [q] at A; exact A.elim
  | some y =>
    rw [q] at A
    by_cases h : okR y = true
    · have A2 : After (rD K) K I m H W Q (if okR y = true then .ok (.str y.shown) c else .stuck) := A
      rw [if_pos h] at A2
      simp only [okR, Bool.and_eq_true, decide_eq_true_eq] at h
      exact ⟨v, y, rfl, dx_of R 30 _ _ _ p q, h.1.1, h.1.2, h.2, A2.here R (.str _)⟩
    · have A2 : After (rD K) K I m H W Q (if okR y = true then .ok (.str y.shown) c else .stuck) := A
      rw [if_neg h] at A2
      exact A2.elim
/-- == of data that stands in cells, too -/
def rEqX (neg : Bool) (K : PySem.W.Frag) : R2 := fun x y H Q => ∃ d e, Dx K H x d ∧ Dx K H y e ∧ SeqAt.shaped d = true ∧ SeqAt.shaped e = true ∧ Q (.bl (if neg then !PyData.eqv d e else PyData.eqv d e)) H
theorem op_eqX {X : Cx} (hu : X.A.units + 64 < cLine) : OpR X (compareOp .Eq) (rEqX false X.K) := by
  intro pins s σ H x y v u Q I rx ry h
  obtain ⟨d, e, hd, he, sd, se, q⟩ := h
  obtain ⟨as, r1⟩ := (Dx.rx I hd rx).reads
  obtain ⟨bs, r2⟩ := (Dx.rx I he ry).reads
  exact SeqAt.compareEq_shaped r1 r2 sd se hu ⟨.bl _, H, I, rfl, q⟩
theorem op_neX {X : Cx} (hu : X.A.units + 64 < cLine) : OpR X (compareOp .NotEq) (rEqX true X.K) := by
  intro pins s σ H x y v u Q I rx ry h
  obtain ⟨d, e, hd, he, sd, se, q⟩ := h
  obtain ⟨as, r1⟩ := (Dx.rx I hd rx).reads
  obtain ⟨bs, r2⟩ := (Dx.rx I he ry).reads
  exact SeqAt.compareNe_shaped r1 r2 sd se hu ⟨.bl _, H, I, rfl, q⟩
def eqQ (neg : Bool) (d e : D) (c : Cs) : R D := match toPyC 30 c d with
  | some a => match toPyC 30 c e with
    | some b => if SeqAt.shaped a = true ∧ SeqAt.shaped b = true then .ok (.bl (if neg then !PyData.eqv a b else PyData.eqv a b)) c else .stuck
    | none => .stuck
  | none => .stuck
theorem eqQ_read {W : XK} {Q : VK} {v1 v2 : V} {d1 d2 : D} {neg : Bool} (R : Rel K I H m c) (p1 : Rep K I m v1 d1) (p2 : Rep K I m v2 d2) (A : After (rD K) K I m H W Q (eqQ neg d1 d2 c)) : rEqX neg K v1 v2 H Q := by
  unfold eqQ at A
  cases q1 : toPyC 30 c d1 with
  | none => rw [q1] at A; exact A.elim
  | some a =>
    cases q2 : toPyC 30 c d2 with
    | none => rw [q1, q2] at A; exact A.elim
    | some b =>
      rw [q1, q2] at A
      by_cases hs : SeqAt.shaped a = true ∧ SeqAt.shaped b = true
      · have A2 : After (rD K) K I m H W Q (if SeqAt.shaped a = true ∧ SeqAt.shaped b = true then .ok (.bl (if neg then !PyData.eqv a b else PyData.eqv a b)) c else .stuck) := A
        rw [if_pos hs] at A2
        exact ⟨a, b, dx_of R 30 _ _ _ p1 q1, dx_of R 30 _ _ _ p2 q2, hs.1, hs.2, A2.here R (.bl _)⟩
      · have A2 : After (rD K) K I m H W Q (if SeqAt.shaped a = true ∧ SeqAt.shaped b = true then .ok (.bl (if neg then !PyData.eqv a b else PyData.eqv a b)) c else .stuck) := A
        rw [if_neg hs] at A2
        exact A2.elim
/-- ==, !=: scalars and a dict against a text as before, all else by what the cells hold -/
def eqX : D → D → Cs → R D
  | .int i, .int j, c => .ok (.bl (decide (i = j))) c
  | .str i, .str j, c => .ok (.bl (decide (i = j))) c
  | .bl i, .bl j, c => .ok (.bl (decide (i = j))) c
  | .dct _, .str _, c => .ok (.bl false) c
  | d, e, c => eqQ false d e c
def neX : D → D → Cs → R D
  | .int i, .int j, c => .ok (.bl (!decide (i = j))) c
  | .str i, .str j, c => .ok (.bl (!decide (i = j))) c
  | .bl i, .bl j, c => .ok (.bl (!decide (i = j))) c
  | d, e, c => eqQ true d e c
def rEqY (K : PySem.W.Frag) : R2 := fun x y H Q => rEqB K x y H Q ∨ rEqX false K x y H Q
def rNeY (K : PySem.W.Frag) : R2 := fun x y H Q => rNeA K x y H Q ∨ rEqX true K x y H Q
theorem op_eqY {X : Cx} (hu : X.A.units + 64 < cLine) : OpR X (compareOp .Eq) (rEqY X.K) := (op_eqB hu).or (op_eqX hu)
theorem op_neY {X : Cx} (hu : X.A.units + 64 < cLine) : OpR X (compareOp .NotEq) (rNeY X.K) := (op_neA hu).or (op_neX hu)
theorem os_eqX : OpS K (rEqY K) eqX := fun I H m c v1 v2 d1 d2 W Q R p1 p2 A => by
  have gen : After (rD K) K I m H W Q (eqQ false d1 d2 c) → rEqY K v1 v2 H Q := fun A => .inr (eqQ_read R p1 p2 A)
  cases p1 with
  | int i => cases p2 with
    | int j => exact .inl (os_eqE I H m c _ _ _ _ W Q R (.int i) (.int j) A)
    | _ => exact gen A
  | str i => cases p2 with
    | str j => exact .inl (os_eqE I H m c _ _ _ _ W Q R (.str i) (.str j) A)
    | _ => exact gen A
  | bl i => cases p2 with
    | bl j => exact .inl (os_eqE I H m c _ _ _ _ W Q R (.bl i) (.bl j) A)
    | _ => exact gen A
  | dct h r => cases p2 with
    | str j => exact .inl (os_eqE I H m c _ _ _ _ W Q R (.dct h r) (.str j) A)
    | _ => exact gen A
  | _ => exact gen A
theorem os_neX : OpS K (rNeY K) neX := fun I H m c v1 v2 d1 d2 W Q R p1 p2 A => by
  have gen : After (rD K) K I m H W Q (eqQ true d1 d2 c) → rNeY K v1 v2 H Q := fun A => .inr (eqQ_read R p1 p2 A)
  cases p1 with
  | int i => cases p2 with
    | int j => exact .inl (os_ne I H m c _ _ _ _ W Q R (.int i) (.int j) A)
    | _ => exact gen A
  | str i => cases p2 with
    | str j => exact .inl (os_ne I H m c _ _ _ _ W Q R (.str i) (.str j) A)
    | _ => exact gen A
  | bl i => cases p2 with
    | bl j => exact .inl (os_ne I H m c _ _ _ _ W Q R (.bl i) (.bl j) A)
    | _ => exact gen A
  | _ => exact gen A
end
end L2.Mi

namespace L2.Mi
open PySem PySem.Spec PyProof.Rows L2

section
variable {K : PySem.W.Frag}
/-! ### in, of what stands in a cell -/
def inX (neg : Bool) (d e : D) (c : Cs) : R D := match e with
  | .ref k => match lstOf (.ref k) c with
    | some xs => inL neg d xs c
    | none => .stuck
  | e => inD neg d e c
theorem os_inX {neg : Bool} : OpS K (rInA K neg) (inX neg) := fun I H m c v1 v2 d1 d2 W Q R p1 p2 A => by
  have gen : After (rD K) K I m H W Q (inD neg d1 d2 c) → rInA K neg v1 v2 H Q := fun A => os_in I H m c v1 v2 d1 d2 W Q R p1 p2 A
  cases d2 with
  | ref k =>
    have A2 : After (rD K) K I m H W Q (match lstOf (.ref k) c with
      | some xs => inL neg d1 xs c
      | none => .stuck) := A
    cases e : lstOf (.ref k) c with
    | none => rw [e] at A2; exact A2.elim
    | some ds =>
      rw [e] at A2
      obtain ⟨a, vs, e1, hq, rr⟩ := lst_at R p2 e
      have A3 : After (rD K) K I m H W Q (inL neg d1 ds c) := A2
      unfold inL at A3
      by_cases hf : flatD d1 = true ∧ ds.all flatD = true
      · rw [if_pos hf] at A3
        refine .inr ⟨a, vs, e1, .inl hq, flat_rep p1 hf.1, flat_reps rr hf.2, ?_⟩
        unfold inV
        rw [any_reps p1 hf.1 rr hf.2]
        exact A3.here R (.bl _)
      · rw [if_neg hf] at A3
        exact A3.elim
  | _ => exact gen A
/-! ### s.split(sep): a list of its own -/
theorem strs_rep {I : Hp} {m : List Addr} : ∀ ys : List Str, Reps K I m (ys.map V.str) (ys.map D.str)
  | [] => .nil
  | y :: ys => .cons (.str y) (strs_rep ys)
def splitD : D → D → Cs → R D := fun d e c => match d, e with
  | .str a, .str b => if (b.length == 0) = false ∧ a.length + 2 ≤ sizeLine then .ok (.ref c.length) (c ++ [.lst ((Txt.split a b).map D.str)]) else .stuck
  | _, _ => .stuck
theorem m1_split : M1S K (fun x xs H Q => ∃ a b, x = .str a ∧ xs = [.str b] ∧ (b.length == 0) = false ∧ a.length + 2 ≤ sizeLine ∧ rNewStrs (Txt.split a b) H Q) splitD :=
  fun I H m c v1 v2 d1 d2 W Q R p1 p2 A => by
    cases p1 with
    | str a =>
      cases p2 with
      | str b =>
        by_cases h : (b.length == 0) = false ∧ a.length + 2 ≤ sizeLine
        · have A2 : After (rD K) K I m H W Q (if (b.length == 0) = false ∧ a.length + 2 ≤ sizeLine then .ok (.ref c.length) (c ++ [.lst ((Txt.split a b).map D.str)]) else .stuck) := A
          rw [if_pos h] at A2
          refine (show ∃ a' b', V.str a = .str a' ∧ [V.str b] = [.str b'] ∧ (b'.length == 0) = false ∧ a'.length + 2 ≤ sizeLine ∧ rNewStrs (Txt.split a' b') H Q from ⟨a, b, rfl, rfl, h.1, h.2, fun p np => ?_⟩)
          obtain ⟨R2, E2⟩ := R.push np (strs_rep (Txt.split a b))
          refine A2 _ _ _ _ E2 R2 (Rep.ref ?_)
          rw [← R.len, List.getElem?_append_right (Nat.le_refl _), Nat.sub_self]
          rfl
        · have A2 : After (rD K) K I m H W Q (if (b.length == 0) = false ∧ a.length + 2 ≤ sizeLine then .ok (.ref c.length) (c ++ [.lst ((Txt.split a b).map D.str)]) else .stuck) := A
          rw [if_neg h] at A2
          exact A2.elim
      | _ => exact A.elim
    | _ => cases p2 <;> exact A.elim
/-! ### methods of a list's cell -/
def isL (d : D) (c : Cs) : Bool := (lstOf d c).isSome
def mBM (g : D → List D → Cs → R D) (a : ME) (t : MA) : ME := fun l c => (a l c).bind fun x c1 => if isL x c1 = true then (t l c1).bind fun xs c2 => g x xs c2 else .stuck
def MethS (K : PySem.W.Frag) (r : V → List V → Hp → VK → Prop) (g : D → List D → Cs → R D) : Prop := ∀ (I H : Hp) (m : List Addr) (c : Cs) (v : V) (vs : List V) (d : D) (ds : List D) (W : XK) (Q : VK),
  Rel K I H m c → Rep K I m v d → Reps K I m vs ds → After (rD K) K I m H W Q (g d ds c) → r v vs H Q
theorem me_bm {X : Cx} {W : WX} {e : Expr} {fa : ME} {ga : MA} {r : V → List V → Hp → VK → Prop} {g : D → List D → Cs → R D} (h : PE X e (tBM X.K "list" r (rdE X.K W fa) (rdA X.K W ga))) (hs : MethS X.K r g) : PE X e (rdE X.K W (mBM g fa ga)) :=
  PEi h fun σ H Q ⟨I, m, l, c, R, L, A⟩ => ⟨I, m, l, c, R, L, After.mono (After.bind (rep := rD X.K) A) fun v1 H1 ⟨I1, m1, c1, d1, E1, R1, p1, A1⟩ => by
    have A1 : After (rD X.K) X.K I1 m1 H1 _ Q (if isL d1 c1 = true then (ga l c1).bind fun xs c2 => g d1 xs c2 else .stuck) := A1
    by_cases hl : isL d1 c1 = true
    · rw [if_pos hl] at A1
      obtain ⟨ds, hds⟩ := Option.isSome_iff_exists.mp hl
      obtain ⟨a, xs, e1, h1, _⟩ := lst_at R1 p1 hds
      subst e1
      refine ⟨.inl ⟨rfl, xs, h1⟩, I1, m1, l, c1, R1, L.ext E1, After.mono (After.bind (rep := rA X.K) A1) fun v2 H2 ⟨I2, m2, c2, d2, E2, R2, p2, A2⟩ => ?_⟩
      exact hs I2 H2 m2 c2 _ v2 d1 d2 _ Q R2 (Rep.ext p1 E2) p2 A2
    · rw [if_neg hl] at A1
      exact A1.elim⟩
def appendD : D → List D → Cs → R D := fun d ds c => match d, ds with
  | .ref k, [y] => match c[k]? with
    | some (.lst xs) => if xs.length < sizeLine then .ok .non (c.set k (.lst (xs ++ [y]))) else .stuck
    | _ => .stuck
  | _, _ => .stuck
theorem meth_append : MethS K rAppend appendD := fun I H m c v vs d ds W Q R p ps A => by
  cases d with
  | ref k =>
    cases ps with
    | nil => exact A.elim
    | @cons y ys dy dys h t =>
      cases t with
      | cons _ _ => exact A.elim
      | nil =>
        have A2 : After (rD K) K I m H W Q (match c[k]? with
          | some (.lst xs) => if xs.length < sizeLine then .ok .non (c.set k (.lst (xs ++ [dy]))) else .stuck
          | _ => .stuck) := A
        cases q : c[k]? with
        | none => rw [q] at A2; exact A2.elim
        | some x =>
          rw [q] at A2
          cases x with
          | lst xs =>
            cases p with
            | @ref _ a hm =>
              obtain ⟨_, ws, h1, h2⟩ := R.cell k a _ hm q
              by_cases hz : xs.length < sizeLine
              · have A3 : After (rD K) K I m H W Q (if xs.length < sizeLine then .ok .non (c.set k (.lst (xs ++ [dy]))) else .stuck) := A2
                rw [if_pos hz] at A3
                obtain ⟨R2, E2⟩ := R.put hm q (h2.append (.cons h .nil))
                exact ⟨a, ws, y, rfl, rfl, h1, by rw [h2.length]; exact hz, A3 _ _ _ _ E2 R2 .non⟩
              · have A3 : After (rD K) K I m H W Q (if xs.length < sizeLine then .ok .non (c.set k (.lst (xs ++ [dy]))) else .stuck) := A2
                rw [if_neg hz] at A3
                exact A3.elim
          | _ => exact A2.elim
  | _ => exact A.elim
end
/-! ### if (x := e) op f: -/
section
variable {X : Cx} {W : WX} {a b : Expr} {pos p p2 p3 : Pos} {f g : MS}
def sIfNm (i : Nat) (h : D → D → Cs → R D) (fa fb : ME) (f g : MS) : MS := fun l c => (fa l c).seq l fun x c1 => (fb (l.set i (some x)) c1).seq (l.set i (some x)) fun y c2 => (h x y c2).seq (l.set i (some x)) fun z c3 => match z with
  | .bl true => f (l.set i (some x)) c3
  | .bl false => g (l.set i (some x)) c3
  | _ => .stuck
theorem ms_ifNm {i : Nat} {x : Str} {op : CmpOp} {r : R2} {h : D → D → Cs → R D} {fa fb : ME} {sa sb : List Stmt} (hN : X.N.Nodup) (hi : X.N[i]? = some x) (hx : Loc X.env.scope x) (ho : OpR X (compareOp op) r) (hs : OpS X.K r h) (ha : PE X a (rdE X.K W fa)) (hb : PE X b (rdE X.K W fb))
    (hf : PSs X sa (rdS X.K W f)) (hg : PSs X sb (rdS X.K W g)) (hm : behindInMarks op b = false := by first | exact nomark _ | rfl) (hfn : X.fn x = true ∨ X.env.scope.names.lookup x = some .local := by first | exact .inl rfl | exact .inr rfl | assumption) :
    PS X (.If (.Compare (.NamedExpr (.Name x p) a p2) [op] [b] p3) sa sb pos) (rdS X.K W (sIfNm i h fa fb f g)) :=
  PSi (ps_ifW (ptw_cmp ho (pew_named hN hi hx (pew_of ha) hfn) hb hm) hf hg) fun D σ H ⟨I, m, l, c, R, L, A⟩ =>
    ⟨I, m, l, c, R, L, After.mono (AfterS.seq (rep := rD X.K) L A) fun v1 H1 ⟨I1, m1, c1, d1, E1, R1, p1, A1⟩ => by
      have L1 := (L.ext E1).set i p1
      refine ⟨I1, m1, _, c1, R1, L1, After.mono (AfterS.seq (rep := rD X.K) L1 A1) fun v2 H2 ⟨I2, m2, c2, d2, E2, R2, p2, A2⟩ => ?_⟩
      have L2 := L1.ext E2
      refine hs I2 H2 m2 c2 _ _ _ _ (fun cls dd H' => W cls dd (σ.set i (some v1)) H') _ R2 (Rep.ext p1 E2) p2 (After.mono (AfterS.seq (rep := rD X.K) L2 A2) fun v3 H3 ⟨I3, m3, c3, d3, E3, R3, p3, A3⟩ => ?_)
      cases p3 with
      | bl k =>
        refine ⟨k, rfl, ?_⟩
        cases k with
        | true => exact (if_pos rfl).mpr ⟨I3, m3, _, c3, R3, L2.ext E3, A3⟩
        | false => exact (if_neg Bool.false_ne_true).mpr ⟨I3, m3, _, c3, R3, L2.ext E3, A3⟩
      | _ => exact A3.elim⟩
end
/-! ### defs with defaults -/
structure OwnD (K : PySem.W.Frag) (mg : Str → Option Value) (x : Str) (st : Stmt) (dvs : List V) (kws : List (Str × V)) where
  a : Addr
  fd : FuncData
  mgf : mg x = some (.ref a)
  F : FunD K x x (defArgs st) (defBody st) (defScope st) dvs kws a fd
theorem gfn_ofD {P : Program} {w : World} {K : PySem.W.Frag} {mg : Str → Option Value} {base : Heap} {k : Nat} {x qual : Str} {st : Stmt} {f : Addr} {fd : FuncData} {N ps : List Str} {b : MS} {dvs : List V} {kws : List (Str × V)} (F : FunD K x qual (defArgs st) (defBody st) (defScope st) dvs kws f fd)
    (S : FnScope N ps (defScope st)) (hb : ∀ (cdv : Value) (A : Around) (outer : List Env) (s : Shared) (H : Hp) (E : XK), Room k (A.deeper (envOfC qual (defScope st) s.heap.objs.size f cdv)) → A.guards = some [] →
      PSs (cxOf (CX P w) P w K mg base N qual (defScope st) f cdv A outer s H E) (defBody st) (rdS K (fun cls d _ H' => E cls d H') b)) : GFn P w K mg base (k + 1) f fd ps (mFun N.length ps.length b) := by
  obtain ⟨oc, od, dV, kV, doc, pm, an, cdv, ct, osl, rfl, lk, hcd, _, _⟩ := F.ex
  have len : ∀ ds c, mFun N.length ps.length b ds c ≠ .stuck → ds.length = ps.length := fun ds c h => by
    by_cases hl : ds.length = ps.length
    · exact hl
    · exact absurd (show mFun N.length ps.length b ds c = .stuck from if_neg hl) h
  refine ⟨len, fun A outer s H args us vs Q E I m c ds hr hg e0 hbd rv R p a => ?_⟩
  have hl := len ds c (after_nonstuck a)
  have hlv : vs.length = ps.length := p.length.trans hl
  have KX : K.In s.heap := e0.mod.kin.keeps fun b o e => (e0.bs b o e).1
  have lim : s.heap.NoLimit := e0.mod.nolimit.keeps fun b o e => (e0.bs b o e).1
  have hkind : ∀ y ∈ ps.zip us, (defScope st).names.lookup y.1 = some .local ∨ ((defScope st).names.lookup y.1 = some .cell ∧ ((cellsFrom (s.heap.objs.size + 1) (defScope st).names []).lookup y.1).isSome = true) := fun ⟨n, v⟩ hy => by
    rcases S.par n (List.of_mem_zip hy).1 with q | q
    · exact Or.inl q
    · exact Or.inr ⟨q, PySem.W.cellsFrom_some _ _ _ (Or.inl q)⟩
  refine codeAny_call_function hr.depth (KX _ _ lk) rfl S.co S.gen rfl (PySem.W.codeRec_of KX hcd) (hbd _ _ _ _ ?_)
  refine wpAny_newFunctionEnv_cells S.kind hkind fun env he s1 y => ?_
  subst he
  refine ⟨lim.keeps y.toInCall.keep, codeAny_func ?_⟩
  have J := inv_start (CX := CX P w) (E := E) (cd := cdv) (qual := qual) (f := f) S hr.hd e0 hlv rv y
  have a2 : After (rD K) K I m H E Q (match b (ds.map some ++ List.replicate (N.length - ps.length) none) c with
    | .go (.rt d) c' => .ok d c'
    | .go (.nx _) c' => .ok .non c'
    | .exc x _ c' => .exc x c'
    | _ => .stuck) := by
    have e : mFun N.length ps.length b ds c = _ := if_pos hl
    rw [e] at a
    exact a
  have hst : rdS K (fun cls d _ H' => E cls d H') b { nx := fun _ H' => Q .non H', rt := Q } (start N vs) H := by
    refine ⟨I, m, ds.map some ++ List.replicate (N.length - ps.length) none, c, R, by rw [← hl]; exact locs_start p, ?_⟩
    cases q : b (ds.map some ++ List.replicate (N.length - ps.length) none) c with
    | stuck => rw [q] at a2; exact a2.elim
    | exc x l' c' => rw [q] at a2; exact fun I' m' H' σ' cls dd e' r' _ px => a2 I' m' H' cls dd e' r' px
    | go fl c' =>
      rw [q] at a2
      cases fl with
      | nx l' => exact fun I' m' H' σ' e' r' _ => a2 I' m' H' .non e' r' Rep.non
      | rt d => exact fun I' m' H' v e' r' pv => a2 I' m' H' v e' r' pv
      | bk l' => exact a2.elim
      | ct l' => exact a2.elim
  refine wpAny_mono ((hb cdv A outer s H E (hr.deeper _) hg).run [] s1 (start N vs) H _ J hst) (fun fl s' hs => ?_) fun e s' hs => hs
  have fin : ∀ {σ' : St} {H' : Hp} {v : V} {u : Value}, Inv (cxOf (CX P w) P w K mg base N qual (defScope st) f cdv A outer s H E) [] σ' H' s' → RelV v u → Q v H' → CE outer P w H s Q u s' :=
    fun {σ' H' v u} Z rv q => ⟨v, H', Z.os, Z.bare, Z.base, Z.hok, rv, q⟩
  cases fl with
  | ret u =>
    obtain ⟨v, σ', H', Z, rv, q⟩ := hs
    exact fin Z rv q
  | next =>
    obtain ⟨σ', H', Z, q⟩ := hs
    exact fin (v := V.non) (u := Value.none) Z rfl q
  | brk =>
    obtain ⟨_, _, _, q⟩ := hs
    exact False.elim q
  | cont =>
    obtain ⟨_, _, _, q⟩ := hs
    exact False.elim q
section
variable {X : Cx} {W : WX} {k n : Nat} {f : Addr} {fd : FuncData} {ps ks : List Str} {g : List D → Cs → R D} {x : Str} {p pos : Pos} {e : Expr} {es : List Expr} {ga gk : MA}
/-- the callee runs, its values bound as told -/
theorem run_gA {pins : List (Addr × Obj)} {σ : St} {H : Hp} {s : Shared} {Q : VK} {us : List Value} {kwa : List (Str × Value)} {al : List Value} {vs : List V} {I : Hp} {m : List Addr} {c : Cs} {ds : List D} (F : GFn X.prog X.w X.K X.mg X.base k f fd ps g) (hr : Room k X.A) (hgd : X.A.guards = some [])
    (hb : BindsTo s fd ⟨us, kwa⟩ (ps.zip al)) (tk : Takes X W) (J : Inv X pins σ H s) (r : Vals vs al) (R : Rel X.K I H m c) (p : Reps X.K I m vs ds) (a : After (rD X.K) X.K I m H (fun cls d H' => W cls d σ H') Q (g ds c)) :
    wpAny (model X.prog X.w) X.A (call (.ref f) us kwa) (EP X pins σ Q) X.xe s := by
  refine wpAny_call (codeAny_mono (F.run X.A X.stack s H ⟨us, kwa⟩ al vs Q (fun cls d H' => W cls d σ H') I m c ds hr hgd J.env0 hb r R p a) fun res s' hq => ?_)
  cases res with
  | error e => exact tk e s' (XE.of_call J (fun _ _ _ h => h) hq)
  | ok fl =>
    cases fl with
    | ret u => exact J.after hq
    | next => exact False.elim hq
    | brk => exact False.elim hq
    | cont => exact False.elim hq
/-- f(e, ..), defaults fill up -/
def mCBd (g : List D → Cs → R D) (n : Nat) (df : List D) (t : MA) : ME := fun l c => (t l c).bind fun xs c1 => if xs.length = n then g (xs ++ df) c1 else .stuck
theorem me_callD {dv : List V} {df : List D} {us0 : List Value} (F : GFn X.prog X.w X.K X.mg X.base k f fd ps g) (hr : Room k X.A) (hgd : X.A.guards = some []) (hg : Gl X x) (hm : X.mg x = some (.ref f)) (hk : PySem.W.keepIn X.K (.ref f) = true) (hv : Vals dv us0) (hd : ∀ I m, Reps X.K I m dv df)
    (hb : Binds X.K fd ps us0) (tk : Takes X W)
    (ha : PA X (e :: es) (rdA X.K W ga)) (hdb : (x == ("__debug__" : Str)) = false := by decide) (he : starEach (e :: es) X.env = (false, eval e X.env) :: starEach es X.env := by rfl) (hpl : (backTo pos (starEach es X.env)).any (·.1) = false := by rfl) :
    PE X (.Call (.Name x p) (e :: es) [] pos) (rdE X.K W (mCBd g n df ga)) := by
  refine ⟨fun pins s σ H Q J ⟨I, m, l, c, R, L, A⟩ => ?_⟩
  refine wpAny_Call_Name_kw (ld_glob J hg hm ?_ hdb)
  refine PySem.W.callWith_K (h₀ := X.base) J.ok.mod.kin hk (thn (ha.run pos pins s σ H _ J ⟨I, m, l, c, R, L, After.bind (rep := rA X.K) A⟩) fun us s1 ⟨vs, H1, J1, r, I1, m1, c1, ds, E1, R1, p1, A1⟩ => ⟨J1.kIn, ?_⟩) he hpl
  have A1 : After (rD X.K) X.K I1 m1 H1 _ Q (if ds.length = n then g (ds ++ df) c1 else .stuck) := A1
  by_cases hn : ds.length = n
  · rw [if_pos hn] at A1
    have hl := F.len _ _ (after_nonstuck A1)
    have p1 : Reps X.K I1 m1 vs ds := p1
    have p2 := Reps.append p1 (hd I1 m1)
    have r2 : Vals (vs ++ dv) (us ++ us0) := r.append hv
    exact run_gA F hr hgd (hb s1 us J1.kIn (by rw [← r2.length, p2.length]; exact hl)) tk J1 r2 R1 p2 A1
  · rw [if_neg hn] at A1
    exact A1.elim
/-- f(e, .., k = v, ..) -/
def mCBk (g : List D → Cs → R D) (gd : List D → List D → List D) (n j : Nat) (t tk : MA) : ME := fun l c => (t l c).bind fun xs c1 => (tk l c1).bind fun ys c2 => if xs.length = n ∧ ys.length = j then g (gd xs ys) c2 else .stuck
theorem me_callK {gu : List Value → List Value → List Value} {gV : List V → List V → List V} {gd : List D → List D → List D} {kws : List Keyword} (F : GFn X.prog X.w X.K X.mg X.base k f fd ps g) (hr : Room k X.A) (hgd : X.A.guards = some []) (hg : Gl X x) (hm : X.mg x = some (.ref f))
    (hk : PySem.W.keepIn X.K (.ref f) = true) (hb : KBn X.K fd ps n ks gu gV) (hd : ∀ I m vs zs ds es, Reps X.K I m vs ds → Reps X.K I m zs es → Reps X.K I m (gV vs zs) (gd ds es)) (tk : Takes X W)
    (ha : PA X (e :: es) (rdA X.K W ga)) (hkw : PK X kws (rdA X.K W gk)) (hall : (backToKw pos (keywordEach kws X.env)).all (·.1.isSome) = true := by rfl) (hks : (backToKw pos (keywordEach kws X.env)).filterMap (·.1) = ks := by rfl)
    (hdb : (x == ("__debug__" : Str)) = false := by decide) (he : starEach (e :: es) X.env = (false, eval e X.env) :: starEach es X.env := by rfl)
    (hpl : ((backTo pos (starEach (e :: es) X.env)).any (·.1) || (backToKw pos (keywordEach kws X.env)).any (·.1.isNone)) = false := by rfl) :
    PE X (.Call (.Name x p) (e :: es) kws pos) (rdE X.K W (mCBk g gd n ks.length ga gk)) := by
  refine ⟨fun pins s σ H Q J ⟨I, m, l, c, R, L, A⟩ => ?_⟩
  refine wpAny_Call_Name_kw (ld_glob J hg hm ?_ hdb)
  refine PySem.W.callWith_KW (h₀ := X.base) J.ok.mod.kin hk hall (thn (ha.run pos pins s σ H _ J ⟨I, m, l, c, R, L, After.bind (rep := rA X.K) A⟩) fun us s1 ⟨vs, H1, J1, r, I1, m1, c1, ds, E1, R1, p1, A1⟩ => ?_) hpl he
  refine thn (hkw.run pos pins s1 σ H1 _ J1 ⟨I1, m1, l, c1, R1, L.ext E1, After.bind (rep := rA X.K) A1⟩) fun ws s2 ⟨zs, H2, J2, rz, I2, m2, c2, es2, E2, R2, p2, A2⟩ => ⟨J2.kIn, ?_⟩
  rw [hks]
  have A2 : After (rD X.K) X.K I2 m2 H2 _ Q (if ds.length = n ∧ es2.length = ks.length then g (gd ds es2) c2 else .stuck) := A2
  have p1 : Reps X.K I1 m1 vs ds := p1
  have p2 : Reps X.K I2 m2 zs es2 := p2
  by_cases hn : ds.length = n ∧ es2.length = ks.length
  · rw [if_pos hn] at A2
    exact run_gA F hr hgd (hb.to s2 us ws J2.kIn (r.length.symm.trans (p1.length.trans hn.1)) (rz.length.symm.trans (p2.length.trans hn.2))) tk J2 (hb.rel r rz) R2 (hd _ _ _ _ _ _ (p1.ext E2) p2) A2
  · rw [if_neg hn] at A2
    exact A2.elim
theorem mk_nil : PK X [] (rdA X.K W aNil) := ⟨fun pos pins s σ H Q J ⟨I, m, l, c, R, L, A⟩ => pk_nil.run pos pins s σ H Q J (A.here R .nil)⟩
theorem mk_cons {nm : Option Str} {kpos : Pos} {kws : List Keyword} {fe : ME} (he : PE X e (rdE X.K W fe)) (ht : PK X kws (rdA X.K W gk)) : PK X (⟨nm, e, kpos⟩ :: kws) (rdA X.K W (aCons fe gk)) :=
  ⟨fun pos pins s σ H Q J ⟨I, m, l, c, R, L, A⟩ => (pk_cons he ht).run pos pins s σ H Q J
    ⟨I, m, l, c, R, L, After.mono (After.bind (rep := rD X.K) A) fun v1 H1 ⟨I1, m1, c1, d1, E1, R1, p1, A1⟩ =>
      ⟨I1, m1, l, c1, R1, L.ext E1, After.mono (After.bind (rep := rA X.K) A1) fun v2 H2 ⟨I2, m2, c2, d2, E2, R2, p2, A2⟩ => A2.here R2 (.cons (Rep.ext p1 E2) p2)⟩⟩⟩
end
end L2.Mi
namespace L2.Mi
open PySem PySem.Spec PyProof.Rows L2
/-! ### s.index(y), found -/
section
variable {X : Cx} {K : PySem.W.Frag}
def rIndexY : V → List V → Hp → VK → Prop := fun x xs H Q => ∃ (a b : Str) (k : Nat), x = .str a ∧ xs = [.str b] ∧ Txt.index0 a b = some k ∧ Q (.int (k : Nat)) H
theorem mt_indexY : MtR X "str.index" rIndexY := by
  intro pins s σ H x xs v us Q I rx rs h
  obtain ⟨a, b, k0, rfl, rfl, hy, w⟩ := h
  obtain ⟨t, rfl⟩ := rx
  cases rs with
  | cons r1 rs =>
    cases rs
    obtain ⟨u, rfl⟩ := r1
    cases q : Builtin.Str.occurrences a b 0 a.length 1 with
    | nil =>
      unfold Txt.index0 at hy
      rw [q] at hy
      cases hy
    | cons k rest =>
      unfold Txt.index0 at hy
      rw [q] at hy
      have e : k = k0 := by simpa using hy
      subst e
      exact PySem.SC.index q ⟨.int (k : Nat), H, I.tok _, ⟨_, rfl⟩, w⟩
def indexD : D → D → Cs → R D := fun d e c => match d, e with
  | .str a, .str b => match Txt.index0 a b with
    | some k => .ok (.int (k : Nat)) c
    | none => .stuck
  | _, _ => .stuck
theorem m1_index : M1S K rIndexY indexD := fun I H m c v1 v2 d1 d2 W Q R p1 p2 A => by
  cases p1 with
  | str a =>
    cases p2 with
    | str b =>
      have A2 : After (rD K) K I m H W Q (match Txt.index0 a b with
        | some k => .ok (.int (k : Nat)) c
        | none => .stuck) := A
      cases e : Txt.index0 a b with
      | none => rw [e] at A2; exact A2.elim
      | some k =>
        rw [e] at A2
        exact ⟨a, b, k, rfl, rfl, e, A2.here R (.int _)⟩
    | _ => exact A.elim
  | _ => cases p2 <;> exact A.elim
end
end L2.Mi

/-! own exceptions whose __init__ says super().__init__(text), self.f = p -/
namespace PySem.Mxe
open PySem PySem.W PySem.Calls PyProof.Rows PySem.Spec
open Builtin Builtin.ObjectAttr
section
variable {prog : Program} {w : World} {A : Around} {E : Value → Shared → Prop} {R : Result → Shared → Prop} {hp : Heap} {g : Array GenState} {d : Drawn} {t : Nat} {os : OsState}
theorem tail_ne {bmB : List Value} (hne : bmB.isEmpty = false) {l : List Value} (e : excTail bmB l = true) : l.isEmpty = false := by
  rcases excTail_cases l e with ⟨c, r, rfl, _⟩ | rfl
  · rfl
  · exact hne
theorem osa {K : W.Frag} {bmB : List Value} {name : Str} {tk : Tok} {v : Value} {x C : Addr} {fv : Array Value} {cd : ClassData} (hpass : ∀ self, refuseLoop self "__setattr__" bmB = pure ()) (hob : bmB.contains (.type "object") = true) (hbe : bmB.isEmpty = false)
    (X : K.In hp) (hx : hp.get? x = some { cls := .ref C, data := .fields fv }) (hcd : W.clsIn K C = some cd) (hm : excTail bmB cd.mro = true) (hh : cd.hasDict = true) (ha : W.findIn K (.ref C) name = some none)
    (hq : ∀ h' tk' dx, (∀ b o, b ≠ x → hp.get? b = some o → h'.get? b = some o) → hp.objs.size ≤ dx → dx ≠ x → h'.get? x = some { cls := .ref C, dict := some dx, data := .fields fv } →
      h'.Ns1 dx (fun y => if y = name then some v else none) → R (.ok (.ret .none)) ⟨h', g, d, tk', os⟩) :
    codeAny (model prog w) A (.call (.builtin "object.__setattr__") ⟨[.ref x, .str name tk, v], []⟩) R ⟨hp, g, d, t, os⟩ := by
  have I : W.InstAt hp x { cls := .ref C, data := .fields fv } C none := ⟨hx, rfl, rfl, trivial⟩
  have SF := PySem.F.store_object
  have ne := tail_ne hbe hm
  have hob : cd.mro.contains (.type "object") = true := (excTail_contains "object" _ hm).trans hob
  have hxs : x ≠ hp.objs.size := Nat.ne_of_lt (Heap.lt_size hx)
  have sub : W.Looks (model prog w) hp (isInstance (.ref x) (.type "object")) true := I.type.andThen (W.looks_mroIn X (by unfold W.mroIn; rw [hcd, Option.bind_some, if_neg (by rw [ne]; decide), hob]))
  refine codeAny_call_builtin SF.slot.plain SF.entry (@W.check_slot (model prog w) _ _ ⟨hp, g, d, t, os⟩ "object.__setattr__" "object" "__setattr__" (.ref x) [.str name tk, v] [] _ SF.kind SF.split sub (SF.args (.ref x) (.str name tk) v) ?_)
  have hmr : W.Looks (model prog w) hp (mroOf (.ref C)) cd.mro := (W.looks_clsIn X hcd).andThen .now
  have L3 : W.Looks (model prog w) hp (storeTaker? none) none := .now
  have hcls : W.Looks (model prog w) hp (classData C) cd := W.looks_clsIn X hcd
  rw [W.osa_eq, refuse_eq]
  refine wpAny_bind (wpAny_bind (I.type.at (wpAny_bind (hmr.at ?_))))
  rw [excTail_pass _ (hpass _) _ hm]
  refine wpAny_pure (wpAny_bind (I.type.at (wpAny_bind ((W.looks_findIn X ha).at (wpAny_bind (L3.at ?_))))))
  show wpAny _ _ (storeInOwnDict (.ref x) (.ref C) (.str name tk) name v false) _ _ _
  obtain ⟨nm, bs, mro, ns, qn, hd, sn, sb, ab, col, del⟩ := cd
  dsimp only at hh
  subst hh
  unfold storeInOwnDict ownDictForStores
  repeat (first | with_reducible refine HandSPX.store_in_new ?_ ?_ | with_reducible refine wpAny_loadPart_at hx ?_ | with_reducible refine hcls.at ?_ | wp_step)
  · exact ⟨_, #[], _, (Heap.get?_update_ne _ _ _ _ hxs.symm).trans (Heap.get?_push_at rfl rfl), rfl, fun e he => absurd he (by simp), fun _ => rfl⟩
  · intro h' tk' hn' hs
    have hx₁ : (hp.push { cls := .type "dict", data := .dict #[] }).get? x = some { cls := .ref C, data := .fields fv } := Heap.get?_push_of_some _ hx
    refine hq h' tk' hp.objs.size (fun b o hb ho => ?_) (Nat.le_refl _) hxs.symm ?_ hn'
    · exact (hs.2 b (Nat.ne_of_lt (Heap.lt_size ho))).trans ((Heap.get?_update_ne _ _ _ _ hb).trans (Heap.get?_push_of_some _ ho))
    · exact (hs.2 x hxs).trans (Heap.get?_update_self _ hx₁ rfl)

/-- what is known of such a class -/
structure XB (B newId i : String) (bmB : List Value) : Prop where
  FB : ExcBaseFacts B newId i bmB
  KF : KxsFacts B i
  pass : ∀ self, refuseLoop self "__setattr__" bmB = pure ()
  ob : bmB.contains (.type "object") = true
  ne : bmB.isEmpty = false
theorem xb_ValueError : XB "ValueError" "ValueError.__new__" "ValueError.__init__" [.type "ValueError", .type "Exception", .type "BaseException", .type "object"] := ⟨PySem.F.excBase_ValueError, kxs_ValueError, fun s => PySem.F.store_ValueError.passes s, by decide +kernel, rfl⟩
theorem xb_LookupError : XB "LookupError" "LookupError.__new__" "LookupError.__init__" [.type "LookupError", .type "Exception", .type "BaseException", .type "object"] := ⟨PySem.F.excBase_LookupError, kxs_LookupError, fun s => PySem.F.store_LookupError.passes s, by decide +kernel, rfl⟩

/-- the __init__'s text -/
structure XText (prog : Program) (scope : Scope) (par f msg : Str) (body : List Stmt) : Prop where
  kind : scope.kind = .function
  co : scope.isCoroutine = false
  gen : scope.isGenerator = false
  cell : ∀ x ∈ scope.names, x.2 ≠ .cell
  sup : scope.names.lookup ("super" : Str) = some .globalImplicit
  cls : scope.names.lookup ("__class__" : Str) = some .free
  self : scope.names.lookup ("self" : Str) = some .local
  par_ : scope.names.lookup par = some .local
  ne : (par == ("self" : Str)) = false
  dbg : (par == ("__debug__" : Str)) = false
  top : (prog.main.scope.names.lookup ("super" : Str)).isSome = false
  body : ∃ (p0 p1 p2 p3 p4 p5 p6 p7 p8 p9 : Pos) (j : Nat), (p2.endLine == p4.line) = true ∧ body = [.Expr (.Call (.Attribute (.Call (.Name "super" p0) [] [] p1) "__init__" p2) [.Constant (.str msg) j p3] [] p4) p5,
    .Assign [.Attribute (.Name "self" p6) f p7] (.Name par p8) p9]

theorem method_eq {o : Expr} {name msg : Str} {apos pos p : Pos} {j : Nat} {env : Env} (h : (apos.endLine == pos.line) = true) : eval (.Call (.Attribute o name apos) [.Constant (.str msg) j p] [] pos) env = (do
      let ov ← attributeBase o name env (eval o env)
      standAt apos.atName
      let (f, first) ← holding [ov] (getMethod ov name (do return (← importBound o env).getD true))
      callWith pos f first (backTo pos (starEach [.Constant (.str msg) j p] env)) []) := by
  show (do
    let ov ← attributeBase o name env (eval o env)
    standAt apos.atName
    methodCall o name apos pos env ov 1 (backTo pos (starEach [.Constant (.str msg) j p] env)) []) = _
  have e : ∀ ov, methodCall o name apos pos env ov 1 (backTo pos (starEach [.Constant (.str msg) j p] env)) [] = (do
      let (f, first) ← holding [ov] (getMethod ov name (do return (← importBound o env).getD true))
      callWith pos f first (backTo pos (starEach [.Constant (.str msg) j p] env)) []) := fun ov => by
    unfold methodCall methodCallPos
    rw [h, Bool.or_true]
    rfl
  simp only [e]

theorem not_interactive {env : Env} (h : env.scope.kind = .function) : interactive env = false := by unfold interactive; rw [h]; rfl

theorem init_call {K : Frag} {mg mb : Str → Option Value} {s : Shared} {B newId i : String} {bmB bm : List Value} {C e t0 fI cc cda N : Addr} {nm q qual par f msg file : Str} {tf : Tok} {bs : List Value} {sn : List Str} {sub : List Value} {ab : Bool} {col : Option Bool} {dd : Option Addr} {k0 k1 k2 k3 k5 : Option Value}
    {params : Arguments} {body : List Stmt} {scope : Scope} {dV kV doc pm ct oc ccl cl : Value} {an od cdd cld : Option Addr} {osl ccs csl : Array (Option Value)} {vs : Array Value} {ar : Arg} {v : Value}
    (XB : XB B newId i bmB) (XT : XText prog scope par f msg body)
    {hb : Heap} (Xb : K.In hb) (kb : ∀ b o, hb.get? b = some o → s.heap.get? b = some o) (neb : hb.get? e = none) (gl : s.heap.Ns mainGlobals mg) (hm : mg "super" = none) (bl : s.heap.Ns builtinsNs mb) (hmb : mb "super" = bootBuiltins "super") (lim : s.heap.NoLimit) (room : A.depth < recursionLimit)
    (hC : K.lookup C = some (excClassObj nm q C N bs bm true sn sub ab col dd k0 k1 k2 k3 k5 newId)) (ht : excTail bmB bm = true)
    (lf : K.lookup fI = some ⟨oc, od, .func (ksFn "__init__" qual params body scope dV kV doc pm an (.ref cda) ct cc), osl⟩) (hcd : codeIn K (.ref cda) qual = true)
    (lcode : K.lookup cda = some ⟨ccl, cdd, .fields vs, ccs⟩) (hvs : vs[2]? = some (.str file tf)) (hfile : ((prog.main.file : Str) == file) = true)
    (lcell : K.lookup cc = some ⟨cl, cld, .cell (some (.ref C)), csl⟩) (hsub : mroIn K C (.ref C) = some true) (hsup : ks_superIn K C C "__init__" = some (some (.builtin i))) (hB : subIn K (.ref C) (.type B) = some true)
    (noop : nsIn K cStatics "thirdparty.any" = some none) (sa : findIn K (.ref C) "__setattr__" = some (some (.builtin "object.__setattr__"))) (hno : findIn K (.ref C) f = some none)
    (hp : (params.posonlyargs ++ params.args).head? = some ar) (har : ar.arg = "self")
    (bind : BindsTo s (ksFn "__init__" qual params body scope dV kV doc pm an (.ref cda) ct cc) ⟨[.ref e, v], []⟩ [("self", .ref e), (par, v)])
    (he : s.heap.get? e = some (HandSPX.excO C t0))
    (hq : ∀ h' tk' dx t', (∀ b o, b ≠ e → s.heap.get? b = some o → h'.get? b = some o) → s.heap.objs.size ≤ dx → dx ≠ e → h'.get? e = some { HandSPX.excO C t' with dict := some dx } → h'.Ns1 dx (fun y => if y = f then some v else none) →
      R (.ok (.ret .none)) ⟨h', s.gens, s.drawn, tk', s.os⟩) :
    codeAny (model prog w) A (.call (.ref fI) ⟨[.ref e, v], []⟩) R s := by
  obtain ⟨p0, p1, p2, p3, p4, p5, p6, p7, p8, p9, j, hline, rfl⟩ := XT.body
  have X : K.In s.heap := Xb.keeps kb
  have hC1 := X _ _ hC
  have hcl : clsIn K C = some { name := nm, bases := bs, mro := .ref C :: bm, ns := N, qualname := q, hasDict := true, slotNames := sn, subclasses := sub, abstract := ab, collection := col, hasDel := false } := by unfold clsIn; rw [hC] <;> rfl
  have hbin : ∀ y ∈ [(("self" : Str), Value.ref e), (par, v)], scope.names.lookup y.1 = some .local := fun y hy => by
    rcases List.mem_cons.mp hy with rfl | hy
    · exact XT.self
    · rcases List.mem_singleton.mp hy with rfl
      exact XT.par_
  refine ks_codeAny_call_defAt room (X _ _ lf) rfl lim (codeRec_of X hcd) rfl bind XT.cell hbin (fun h1 hns k1 => ?_) XT.co XT.gen XT.kind
  have X1 : K.In h1 := X.keeps k1
  have ns_self : (fun x => List.lookup x [(("self" : Str), Value.ref e), (par, v)].reverse) ("self" : Str) = some (.ref e) := by
    show List.lookup ("self" : Str) [(par, v), (("self" : Str), Value.ref e)] = _
    have z : (("self" : Str) == par) = false := by rw [BEq.comm]; exact XT.ne
    rw [List.lookup_cons, z]
    rfl
  have ns_par : (fun x => List.lookup x [(("self" : Str), Value.ref e), (par, v)].reverse) par = some v := by
    show List.lookup par [(par, v), (("self" : Str), Value.ref e)] = _
    rw [List.lookup_cons, beq_self_eq_true]
  generalize hm0 : (fun x => List.lookup x [(("self" : Str), Value.ref e), (par, v)].reverse) = m0 at hns ns_self ns_par
  obtain ⟨h0, g, d, tk0, os⟩ := s
  dsimp only at X kb gl bl lim he hq hns k1 ⊢
  have he1 : h1.get? e = some (HandSPX.excO C t0) := k1 _ _ he
  refine ks_wpAt_execs_cons (ks_wpAt_Expr_any (ks_wpAt_MethodCall ?_ (method_eq hline)) (not_interactive XT.kind) rfl)
  refine ks_wpAt_super_base XT.sup XT.cls (by decide) rfl (X1 _ _ lf) rfl hp rfl (X1 _ _ lcode) rfl hvs hfile XT.top ?_
  refine ks_loadName_global XT.kind XT.sup (loadGlobal_builtin (gl.keeps k1) hm (bl.keeps k1) (hmb.trans (by decide +kernel : bootBuiltins "super" = some (.type "super"))) ⟨rfl, ?_⟩)
  refine wpAny_loadName_free XT.kind XT.cls rfl ⟨_, X1 _ _ lcell, rfl⟩ ?_
  rw [har]
  refine wpAny_loadName_local XT.kind XT.self hns ns_self ?_
  refine ks_wpAny_isType_cls (X1 _ _ hC) rfl ⟨rfl, ?_⟩
  refine ks_wpAny_call_super (X1 _ _ hC) rfl he1 rfl (fun c z => by cases z) (looks_mroIn X1 hsub) (fun h2 so k2 => ?_)
  have X2 : K.In h2 := X1.keeps k2
  have he2 : h2.get? e = some (HandSPX.excO C t0) := k2 _ _ he1
  have I2 : InstAt h2 e (HandSPX.excO C t0) C none := ⟨he2, rfl, rfl, trivial⟩
  have hI : Looks (model prog w) h2 (isInstance (.ref e) (.type B)) true := I2.type.andThen (looks_subIn X2 hB)
  have hal : alongIn K "__init__" (((Value.ref C :: bm).dropWhile (· != .ref C)).drop 1) = some (some (.builtin i)) := by
    unfold ks_superIn at hsup
    rw [hcl] at hsup
    exact hsup
  refine kxs_getMethod XB.KF so (looks_opaque X2 noop) (l₀ := .ref C :: bm) (fun A Q E s k q => wpAny_bind ((looks_clsIn X2 hcl) A _ E s k (wpAny_pure q))) rfl X2 hal hI (ks_ne X2 I2 hcl) (by decide) ?_
  have kp : ∀ b o, h2.get? b = some o → (h2.push (kxs_mw i e)).get? b = some o := fun b o z => Heap.get?_push_of_some _ z
  have hmw : (h2.push (kxs_mw i e)).get? h2.objs.size = some (kxs_mw i e) := Heap.get?_push_at rfl rfl
  refine kxs_callWith (i := i) (x := e) rfl (evalArgs_plain (spliced_cons (Constant_str (k := j) (pos := p3) (spliced_nil ⟨hmw, ?_⟩))))
  have X3 : K.In (h2.push (kxs_mw i e)) := X2.keeps kp
  have he3 : (h2.push (kxs_mw i e)).get? e = some (HandSPX.excO C t0) := kp _ _ he2
  refine wpAny_call (codeAny_of_tree ?_)
  show wpAny _ _ (callAny (.ref h2.objs.size) ⟨[.str msg _], []⟩) _ _ _
  simp only [callAny]
  refine wpAny_bind (wpAny_load hmw ?_)
  simp only [kxs_mw, show (Value.type "method-wrapper" == Value.type "method" || Value.type "method-wrapper" == Value.type "builtin_function_or_method" || Value.type "method-wrapper" == Value.type "method-wrapper") = true by decide, if_true]
  refine KFB.if_so (by decide) ?_
  refine wpAny_bind (check_bound_init XB.FB.toExcCallFacts (X3 _ _ hC) he3 rfl ?_)
  refine wpAny_bind (wpAny_pure (wpAny_pure ?_))
  refine ⟨plainId_quiet XB.FB.init.plain _, codeAny_builtin XB.FB.initEntry ?_⟩
  refine exc_init_tree (cls := .ref C) (t0 := t0) (dv := none) (c2 := .none) (c3 := .none) (b4 := .bool false) he3 (by rw [sizeLine_eq]; show 1 ≤ _; omega) (fun h4 k4 he4 _ => ?_)
  have kk : ∀ b o, b ≠ e → h0.get? b = some o → h4.get? b = some o := fun b o hb z => k4 b o hb (kp _ _ (k2 _ _ (k1 _ _ z)))
  have Ce : C ≠ e := fun z => by rw [z, he] at hC1; cases hC1
  have X4 : K.In h4 := Xb.keeps fun b o z => kk b o (fun y => by rw [y, neb] at z; cases z) (kb b o z)
  have hns4 : h4.Ns h0.objs.size m0 := by
    obtain ⟨oL, es, ep, hL, r⟩ := hns
    exact ⟨oL, es, ep, k4 _ _ (fun z => absurd (Heap.lt_size he) (by rw [z]; exact Nat.lt_irrefl _)) (kp _ _ (k2 _ _ hL)), r⟩
  refine ks_wpAt_execs_cons (ks_wpAt_Assign_Attr (wpAt_of_wpAny ?_))
  refine wpAny_Name ?_ XT.dbg
  refine wpAny_loadName_local ?kk1 ?kk2 hns4 ns_par ?_
  case kk1 => exact XT.kind
  case kk2 => exact XT.par_
  refine wpAny_Name ?_
  refine wpAny_loadName_local ?kl1 ?kl2 hns4 ns_self ?_
  case kl1 => exact XT.kind
  case kl2 => exact XT.self
  refine PySem.W.set_plain (od := none) X4 ⟨he4, rfl, rfl, trivial⟩ sa ?_
  refine osa XB.pass XB.ob XB.ne X4 he4 hcl (show excTail bmB (.ref C :: bm) = true from ht) rfl hno (fun h5 tk5 dx k5 dn dne hx hn => ?_)
  have hz : h0.objs.size ≤ h4.objs.size := by
    obtain ⟨oL, es, ep, hL, r⟩ := hns4
    exact Nat.le_of_lt (Heap.lt_size hL)
  refine wpAt_of_wpAny (wpAny_execs_nil ?_)
  exact hq h5 tk5 dx _ (fun b o hb z => k5 b o hb (kk b o hb z)) (Nat.le_trans hz dn) dne hx hn
end
end PySem.Mxe

namespace L2.Mi
open PySem PySem.Spec PyProof.Rows L2

/-! ### own exceptions: made and raised -/
/-- the class n has the field f, its __init__ says super().__init__(text); self.f = p -/
structure XOwn (P : Program) (K : PySem.W.Frag) (n f : Str) : Prop where
  ex : ∃ (C fI : Addr), PySem.W.nsIn K mainGlobals n = some (some (.ref C)) ∧
    (∃ (B newId i : String) (bmB bm : List Value) (N : Addr) (nm q : Str) (bs : List Value) (sn : List Str) (sub : List Value) (ab : Bool) (col : Option Bool) (dd : Option Addr) (k0 k1 k2 k3 k5 : Option Value),
      PySem.Mxe.XB B newId i bmB ∧ K.lookup C = some (excClassObj nm q C N bs bm true sn sub ab col dd k0 k1 k2 k3 k5 newId) ∧ PySem.W.excTail bmB bm = true ∧
      PySem.W.ks_superIn K C C "__init__" = some (some (.builtin i)) ∧ PySem.W.subIn K (.ref C) (.type B) = some true) ∧
    PySem.W.findIn K (.ref C) "__init__" = some (some (.ref fI)) ∧ PySem.W.typeIn K (.ref fI) = some (.type "function") ∧
    (∃ (cc cda : Addr) (qual par msg file : Str) (tf : Tok) (params : Arguments) (body : List Stmt) (scope : Scope) (dV kV doc pm ct oc ccl cl : Value) (an od cdd cld : Option Addr) (osl ccs csl : Array (Option Value)) (vs : Array Value) (ar : Arg),
      PySem.Mxe.XText P scope par f msg body ∧ K.lookup fI = some ⟨oc, od, .func (PySem.W.ksFn "__init__" qual params body scope dV kV doc pm an (.ref cda) ct cc), osl⟩ ∧ PySem.W.codeIn K (.ref cda) qual = true ∧
      K.lookup cda = some ⟨ccl, cdd, .fields vs, ccs⟩ ∧ vs[2]? = some (.str file tf) ∧ ((P.main.file : Str) == file) = true ∧ K.lookup cc = some ⟨cl, cld, .cell (some (.ref C)), csl⟩ ∧
      (params.posonlyargs ++ params.args).head? = some ar ∧ ar.arg = "self" ∧
      ∀ (s : Shared) (e v : Value), BindsTo s (PySem.W.ksFn "__init__" qual params body scope dV kV doc pm an (.ref cda) ct cc) ⟨[e, v], []⟩ [("self", e), (par, v)]) ∧
    PySem.W.mroIn K C (.ref C) = some true ∧ PySem.W.findIn K (.ref C) "__setattr__" = some (some (.builtin "object.__setattr__")) ∧ PySem.W.findIn K (.ref C) f = some none ∧
    PySem.W.subIn K (.ref C) (.type "BaseException") = some true ∧ PySem.W.typeIn K (.ref C) = some (.type "type") ∧ PySem.W.keepIn K (.ref C) = true ∧
    PySem.W.findIn K (.ref C) "__getattribute__" = some (some (.builtin "BaseException.__getattribute__")) ∧ PySem.W.findIn K (.ref C) "__getattr__" = some none ∧ PySem.W.hasDictIn K C = true
/-- the module's word for exceptions -/
structure XMod (K : PySem.W.Frag) (mg : Str → Option Value) : Prop where
  sup : mg "super" = none
  nop : PySem.W.nsIn K cStatics "thirdparty.any" = some none

def oneQ (F : V → Hp → Prop) : List V → Hp → Prop := fun ws H => match ws with
  | [v] => F v H
  | _ => False
section
variable {X : Cx} {W : WX} {n x f : Str} {e : Expr} {te : TE} {fa : ME} {p pos : Pos}
theorem pmk_x (T : XOwn X.prog X.K n f) (M : XMod X.K X.mg) (hr : Room 1 X.A) (hg : Gl X n) (hm : ∀ C, PySem.W.nsIn X.K mainGlobals n = some (some (.ref C)) → X.mg n = some (.ref C)) (hev : PE X e te)
    (hdb : (n == ("__debug__" : Str)) = false := by decide) (he : starEach [e] X.env = (false, eval e X.env) :: starEach [] X.env := by rfl) (hpl : (backTo pos (starEach [] X.env)).any (·.1) = false := by rfl) :
    PMk X (.Call (.Name n p) [e] [] pos) (fun σ H Q => te σ H fun v H1 => ∃ C, PySem.W.nsIn X.K mainGlobals n = some (some (.ref C)) ∧ ∀ d, H1 d = none → Q (.ref C) (some d) (upd H1 d (.xd [(f, v)]))) := by
  obtain ⟨C, fI, nC, ⟨B, newId, i, bmB, bm, N, nm, q, bs, sn, sub, ab, col, dd, k0, k1, k2, k3, k5, XB, hC, ht, hsup, hB⟩, iC, tI, ⟨cc, cda, qual, par, msg, file, tf, params, body, scope, dV, kV, doc, pm, ct, oc, ccl, cl, an, od, cdd, cld, osl, ccs, csl, vs, ar, XT, lf, hcd, lcode, hvs, hfile, lcell, hp, har, bind⟩, hsub, sa, hno, exC, tyC, kC, _⟩ := T.ex
  intro pins s σ H Q I h
  refine wpAny_Call_Name_kw (ld_glob I hg (hm C nC) ?_ hdb)
  refine PySem.W.callWith_K (h₀ := X.base) I.ok.mod.kin kC (thn ((pa_cons hev pa_nil he).run pos pins s σ H (oneQ fun v H1 => ∃ C, PySem.W.nsIn X.K mainGlobals n = some (some (.ref C)) ∧ ∀ d, H1 d = none → Q (.ref C) (some d) (upd H1 d (.xd [(f, v)]))) I h) fun us s1 ⟨ws, H1, I1, r1, q1⟩ => ⟨I1.kIn, ?_⟩) he hpl
  show wpAny _ _ (call (.ref C) us) _ _ _
  obtain ⟨v, rfl⟩ : ∃ v, ws = [v] := by
    match ws, q1 with
    | [v], _ => exact ⟨v, rfl⟩
  obtain ⟨u, rfl, rv⟩ := vals1 r1
  obtain ⟨C', nC', q2⟩ : ∃ C, PySem.W.nsIn X.K mainGlobals n = some (some (.ref C)) ∧ ∀ d, H1 d = none → Q (.ref C) (some d) (upd H1 d (.xd [(f, v)])) := q1
  obtain rfl : C' = C := by rw [nC] at nC'; cases nC'; rfl
  obtain ⟨hp1, g, dr, tk, os⟩ := s1
  have hT : ∀ Y : String, bm.contains (.type Y) = bmB.contains (.type Y) := fun Y => PySem.W.excTail_contains Y bm ht
  refine wpAny_call (PySem.HandSPX.call_own XB.FB hT (I1.kIn _ _ hC) (PySem.W.looks_findIn I1.kIn iC) (fun self => PySem.W.bind_fn I1.kIn self tI) (by rw [sizeLine_eq]; show 1 ≤ _; omega) ?_)
  have kk : ∀ b o, hp1.get? b = some o → ((hp1.push (PySem.W.kdv_tup [u])).push (PySem.HandSPX.excO C' hp1.objs.size)).get? b = some o := fun b o z => Heap.get?_push_of_some _ (Heap.get?_push_of_some _ z)
  have hsz : hp1.objs.size ≤ ((hp1.push (PySem.W.kdv_tup [u])).push (PySem.HandSPX.excO C' hp1.objs.size)).objs.size := by
    rw [Heap.size_push, Heap.size_push]
    exact Nat.le_succ_of_le (Nat.le_succ _)
  have hget : ((hp1.push (PySem.W.kdv_tup [u])).push (PySem.HandSPX.excO C' hp1.objs.size)).get? (hp1.objs.size + 1) = some (PySem.HandSPX.excO C' hp1.objs.size) := by heap_get
  have hbk : ∀ b o, X.base.get? b = some o → hp1.get? b = some o := I1.bk
  obtain ⟨mb, hmb, hmb2⟩ := I1.mod.blt
  have bsz : X.base.objs.size ≤ hp1.objs.size := Nat.le_trans I1.ok.bsz I1.sz
  have neb : X.base.get? (hp1.objs.size + 1) = none := Heap.get?_none_of_le (Nat.le_trans bsz (Nat.le_succ _))
  refine PySem.Mxe.init_call XB XT (s := ⟨(hp1.push (PySem.W.kdv_tup [u])).push (PySem.HandSPX.excO C' hp1.objs.size), g, dr, tk, os⟩) I1.mod.kin (fun b o z => kk b o (hbk b o z)) neb ((I1.mod.glob.keeps hbk).keeps kk) M.sup ((hmb.keeps hbk).keeps kk) (hmb2 "super" (by decide)) (I1.nolimit.keeps kk) ?_
    hC ht lf hcd lcode hvs hfile lcell hsub hsup hB M.nop sa hno hp har (bind _ _ _) hget ?_
  · exact (hr.make (k := 0) C' [u] []).depth
  · intro h' tk' dx t' k' dn dne he' hns
    refine ⟨rfl, ?_⟩
    have hn1 : H1 dx = none := I1.hok.fresh (Nat.le_trans hsz dn)
    obtain ⟨G, g1', g2'⟩ := restrict h' fun b => decide (b ≠ hp1.objs.size + 1)
    have gk : ∀ b, b ≠ hp1.objs.size + 1 → G.get? b = h'.get? b := fun b hb => g1' b (decide_eq_true hb)
    have ge : G.get? (hp1.objs.size + 1) = none := g2' _ (by simp)
    have kG : ∀ b o, hp1.get? b = some o → G.get? b = some o := fun b o z => by
      have hb : b ≠ hp1.objs.size + 1 := Nat.ne_of_lt (Nat.lt_succ_of_lt (Heap.lt_size z))
      rw [gk b hb]
      exact k' b o hb (kk b o z)
    have na : H1 (hp1.objs.size + 1) = none := I1.hok.fresh (Nat.le_succ _)
    have J : Inv X pins σ (upd H1 dx (.xd [(f, v)])) ⟨G, g, dr, tk', os⟩ := I1.laid (t' := tk') (a := dx) (o := .xd [(f, v)]) (h' := G) kG (Nat.le_trans hsz dn)
      ⟨_, hns.at fun o z => (gk dx dne).trans z, relO_put (fs := []) rv fun g => True.intro⟩
    refine ⟨hp1.objs.size + 1, _, _, ⟨G, g, dr, tk', os⟩, _, .ref C', some dx, rfl, J, fun b o z => ?_, ge, he', ⟨rfl, rfl⟩, rfl, rfl, ?_, rfl, J.bare, raises_own exC tyC, q2 dx hn1⟩
    · by_cases hb : b = hp1.objs.size + 1
      · rw [hb, ge] at z
        cases z
      · exact (gk b hb).symm.trans z
    · rw [upd_ne (Ne.symm dne)]
      exact na
/-- raise n(e) -/
def sRaise (n f : Str) (a : ME) : MS := fun l c => (a l c).seq l fun d c1 => .exc ⟨n, [(f, d)]⟩ l c1
theorem ms_raise {p2 : Pos} (hc : X.calm = true) (tk : Takes X W) (T : XOwn X.prog X.K n f) (M : XMod X.K X.mg) (hr : Room 1 X.A) (hg : Gl X n) (hm : ∀ C, PySem.W.nsIn X.K mainGlobals n = some (some (.ref C)) → X.mg n = some (.ref C)) (ha : PE X e (rdE X.K W fa))
    (hdb : (n == ("__debug__" : Str)) = false := by decide) (he : starEach [e] X.env = (false, eval e X.env) :: starEach [] X.env := by rfl) (hpl : (backTo pos (starEach [] X.env)).any (·.1) = false := by rfl) :
    PS X (.Raise (some (.Call (.Name n p) [e] [] pos)) none p2) (rdS X.K W (sRaise n f fa)) :=
  PSi (ps_raise hc tk (pmk_x T M hr hg hm ha hdb he hpl)) fun D σ H ⟨I, m, l, c, R, L, A⟩ => ⟨I, m, l, c, R, L, After.mono (AfterS.seq (rep := rD X.K) L A) fun v H1 ⟨I1, m1, c1, d1, E1, R1, p1, A1⟩ => by
    obtain ⟨C, _, nC, _⟩ := T.ex
    refine ⟨C, nC, fun d nd => ?_⟩
    obtain ⟨R2, E2⟩ := alloc (o := .xd [(f, v)]) R1 nd
    exact A1 _ _ _ σ (.ref C) (some d) E2 R2 ((L.ext E1).ext E2) ⟨.inl nC, .inr ⟨d, [(f, v)], rfl, upd_same, .cons (Rep.ext p1 E2) .nil⟩⟩⟩
end

/-! ### try: several clauses, with and without a name -/
inductive HdT where
  | cl (c : Value) (as : Option Nat) (ts : Addr → Value → Option Addr → TS)
  | stop
def wGen (K : PySem.W.Frag) (Wout : WX) (D : Ends) : List HdT → WX
  | [] => Wout
  | .stop :: _ => fun _ _ _ _ => False
  | .cl c none ts :: r => fun cls d σ H => ∃ b, PySem.W.exmOne K cls c = some b ∧ (b = true → ∀ a, H a = none → ts a cls d D σ H) ∧ (b = false → wGen K Wout D r cls d σ H)
  | .cl c (some i) ts :: r => fun cls d σ H => ∃ b, PySem.W.exmOne K cls c = some b ∧ (b = true → ∀ a, H a = none → ts a cls d { nx := fun σ' H' => D.nx (σ'.set i none) H', rt := D.rt, bk := fun σ' H' => D.bk (σ'.set i none) H', ct := fun σ' H' => D.ct (σ'.set i none) H' } (σ.set i (some (.ref a))) H) ∧
    (b = false → wGen K Wout D r cls d σ H)
inductive HdsG (X : Cx) : List ExceptHandler → List HdT → Prop
  | nil : HdsG X [] []
  | stop {hds : List ExceptHandler} : HdsG X hds [.stop]
  | cl {x : Str} {c : Value} {ts : Addr → Value → Option Addr → TS} {b₀ : Stmt} {suite : List Stmt} {np pos' : Pos} {hds : List ExceptHandler} {l : List HdT} (hc : Names X x c)
      (hsu : ∀ (a : Addr) (oe : Obj) (cls : Value) (d : Option Addr) (pn : List (Addr × Obj)), Zc cls d oe → (∃ vs, oe.data = .fields vs) → PSs (X.suite a ((a, oe) :: pn)) (b₀ :: suite) (ts a cls d)) (r : HdsG X hds l) :
      HdsG X (.ExceptHandler (some (.Name x np)) none (b₀ :: suite) pos' :: hds) (.cl c none ts :: l)
  | as {x n : Str} {c : Value} {i : Nat} {ts : Addr → Value → Option Addr → TS} {b₀ : Stmt} {suite : List Stmt} {np pos' : Pos} {hds : List ExceptHandler} {l : List HdT} (hN : X.N.Nodup) (hi : X.N[i]? = some n) (hln : X.env.kindOf n = some .local) (hc : Names X x c)
      (hsu : ∀ (a : Addr) (oe : Obj) (cls : Value) (d : Option Addr) (pn : List (Addr × Obj)), Zc cls d oe → (∃ vs, oe.data = .fields vs) → PSs (X.suite a ((a, oe) :: pn)) (b₀ :: suite) (ts a cls d)) (r : HdsG X hds l) :
      HdsG X (.ExceptHandler (some (.Name x np)) (some n) (b₀ :: suite) pos' :: hds) (.cl c (some i) ts :: l)
section
variable {X : Cx} {body : List Stmt} {h₀ : ExceptHandler} {hds : List ExceptHandler} {l : List HdT} {pos : Pos} {tb : WX → TS} {Wout : WX}
theorem ps_try_gen (hs : X.stack = X.env :: X.outer) (hf : X.env.frame = some X.env.locals) (tk : Takes X Wout)
    (hb : ∀ (W : WX) (pn : List (Addr × Obj)) (xe : Value → Shared → Prop), Takes (X.tr pn xe) W → PassesOwn (model X.prog X.w) X.A X.env xe → PSs (X.tr pn xe) body (tb W))
    (hh : HdsG X (h₀ :: hds) l) : PS X (.Try body (h₀ :: hds) [] [] pos) (fun D σ H => tb (wGen X.K Wout D l) D σ H) := by
  refine ⟨fun pins s σ H D I h => ?_⟩
  have ok := I.ok
  have hfr : X.A.frames = some (X.env :: X.outer) := by rw [ok.frames, hs]
  refine wpAny_Try_except ?_
  refine wpAny_mono ((hb (wGen X.K Wout D l) (X.pn ++ pins) (fun e s₁ => wpAny (model X.prog X.w) X.A (noteFrame e X.env) (fun _ s₂ => wpAny (model X.prog X.w) X.A (setFlight e none) (fun _ s₃ =>
    wpAny (model X.prog X.w) X.A (handleBy e X.env (h₀ :: hds)) (SP X pins D) X.xe s₃) X.xe s₂) X.xe s₁) (fun u s' xx => ?_) PassesOwn.looking).run [] s σ H D (I.toTry _) h) (fun f s1 hsp => ?_) (fun e s1 he => he)
  · -- the catch
    obtain ⟨a, B, sI, pins', σ', H', cls, d, rfl, J', nb, up, sky, na, os, ag, w⟩ := xx
    have J : Inv X pins σ' H' sI := J'.ofTry ok
    have sky' : Sky B (X.env :: X.outer) a (Zc cls d) X.env.locals s'.heap := by rw [← hs]; exact sky
    show wpAny (model X.prog X.w) X.A (noteFrame (.ref a) X.env) _ _ _
    refine Sky.land Zc.steady hfr hf sky' fun h3 fl3 up3 => ?_
    have J3 : Inv X pins σ' H' { s' with heap := h3 } := J.landed nb fl3.1 (up.trans up3) os ag
    obtain ⟨oe3, vs3, he3, hz3, hd3⟩ := fl3.there
    have notFr : ∀ {h : Heap} {o : Obj} {vs : Array Value}, h.FunFrames B (X.env :: X.outer) → h.get? a = some o → o.data = .fields vs → a ∉ frs (X.env :: X.outer) := fun {h o vs} ff e dd hm => by
      obtain ⟨_, o', e', hnf⟩ := ff.mem hm
      rw [e] at e'; cases e'
      exact hnf _ dd
    have nfr := notFr fl3.2.2.1 he3 hd3
    have nL : a ≠ X.env.locals := fun z => nfr (List.mem_filterMap.mpr ⟨X.env, List.mem_cons_self, by rw [hf, z]⟩)
    have nF : a ∉ X.fs := fun hm => by
      obtain ⟨e, he, q⟩ := List.mem_filterMap.mp hm
      exact nfr (List.mem_filterMap.mpr ⟨e, List.mem_cons_of_mem _ he, q⟩)
    have S3 := J3.suite he3 hd3 na nL nF
    have test : ∀ {x : Str} {np : Pos} {c : Value} {Q : Value → Shared → Prop} {E : Value → Shared → Prop}, Names X x c → Q c { s' with heap := h3 } → wpAny (model X.prog X.w) (X.A.mark (some (.ref a))) (eval (.Name x np) X.env) Q E { s' with heap := h3 } := fun {x np c Q E} hc q => by
      obtain ⟨hg, hdbg, hm | ⟨hm, hv, hnn⟩⟩ := hc
      · exact ld_glob (X := X.suite a ((a, oe3) :: (X.pn ++ pins))) S3 hg hm q hdbg
      · exact ld_blt (X := X.suite a ((a, oe3) :: (X.pn ++ pins))) S3 hg hm hv q hnn hdbg
    have go : ∀ {hds' : List ExceptHandler} {l' : List HdT}, HdsG X hds' l' → wGen X.K Wout D l' cls d σ' H' →
        wpAny (model X.prog X.w) X.A (handleBy (.ref a) X.env hds') (SP X pins D) X.xe { s' with heap := h3 } := by
      intro hds' l' hk
      induction hk with
      | stop => intro w; exact w.elim
      | nil =>
        intro w
        refine wpAny_handleBy_nil ?_
        obtain ⟨k1, k2, k3, oe, vs, T, oT, ts', he, hz, hd, h1, hr⟩ := id fl3
        unfold PySem.passOn
        refine wpAny_bind (wpAny_field he hd h1 ?_)
        rw [if_neg (show ¬ ((Value.ref T == Value.none) = true) from by simp)]
        have fin : wpAny (model X.prog X.w) X.A (setFlight (.ref a) X.env.frame) (fun _ s4 => wpAny (model X.prog X.w) X.A (throw (.ref a) : Sem Flow) (SP X pins D) X.xe s4) X.xe { s' with heap := h3 } := by
          rw [hf]
          refine HandSPX.setFlight_upZ fl3 fun h4 hh4 up4 => wpAny_throw (tk _ _ ?_)
          exact ⟨a, B, sI, pins, σ', H', cls, d, rfl, J, nb, (up.trans up3).trans up4, .inr (.inr (by rw [hs]; exact hh4)), na, os, ag, w⟩
        first
          | exact wpAny_bind (wpAny_pure (wpAny_bind fin))
          | exact wpAny_bind fin
      | @cl x c ts b₀ suite np pos' hds2 l2 hc hsu r ih =>
        intro w
        obtain ⟨b, hb1, hyes, hno⟩ := w
        refine wpAny_handleBy_cons (codeAny_handlers_test ?_) (by intro q; cases q)
        have LT : PySem.W.Looks (model X.prog X.w) h3 (typeOf (.ref a)) cls := fun A Q E s k q => wpAny_typeOf_ref (k _ _ he3) (by rw [hz3.1]; exact q)
        have LM := PySem.W.exm_one (M := model X.prog X.w) (J3.kIn) LT hb1
        refine test hc (LM.here ?_)
        cases b with
        | true =>
          refine codeAny_handlers_suite ?_
          refine HandSPX.lands_againZ fl3 fun h4 fl4 up4 => ?_
          have J4 : Inv X pins σ' H' { s' with heap := h4 } := J.landed nb fl4.1 ((up.trans up3).trans up4) os ag
          obtain ⟨oe4, vs4, he4, hz4, hd4⟩ := fl4.there
          have S4 := J4.suite he4 hd4 na nL nF
          refine wpAny_mono ((hsu a oe4 cls d (X.pn ++ pins) hz4 ⟨_, hd4⟩).run [] _ _ H' _ S4 (hyes rfl a na)) (fun f s6 hsp => ?_) (fun _ _ z => False.elim z)
          cases f with
          | next =>
            obtain ⟨σ6, H6, S6, q6⟩ := hsp
            exact ⟨_, _, S6.unsuite ok, q6⟩
          | brk =>
            obtain ⟨σ6, H6, S6, q6⟩ := hsp
            exact ⟨_, _, S6.unsuite ok, q6⟩
          | cont =>
            obtain ⟨σ6, H6, S6, q6⟩ := hsp
            exact ⟨_, _, S6.unsuite ok, q6⟩
          | ret u =>
            obtain ⟨v6, σ6, H6, S6, r6, q6⟩ := hsp
            exact ⟨_, _, _, S6.unsuite ok, r6, q6⟩
        | false =>
          show wpAny _ X.A (handleBy (.ref a) X.env hds2) _ _ _
          exact ih (hno rfl)
      | @as x n c i ts b₀ suite np pos' hds2 l2 hN hi hln hc hsu r ih =>
        intro w
        obtain ⟨b, hb1, hyes, hno⟩ := w
        refine wpAny_handleBy_cons (codeAny_handlers_test ?_) (by intro q; cases q)
        have LT : PySem.W.Looks (model X.prog X.w) h3 (typeOf (.ref a)) cls := fun A Q E s k q => wpAny_typeOf_ref (k _ _ he3) (by rw [hz3.1]; exact q)
        have LM := PySem.W.exm_one (M := model X.prog X.w) (J3.kIn) LT hb1
        refine test hc (LM.here ?_)
        cases b with
        | true =>
          refine codeAny_handlers_suite_as ?_
          refine HandSPX.lands_againZ fl3 fun h4 fl4 up4 => ?_
          have J4 : Inv X pins σ' H' { s' with heap := h4 } := J.landed nb fl4.1 ((up.trans up3).trans up4) os ag
          obtain ⟨oe4, vs4, he4, hz4, hd4⟩ := fl4.there
          have S4 := J4.suite he4 hd4 na nL nF
          refine store_ok (X := X.suite a ((a, oe4) :: (X.pn ++ pins))) (v := .ref a) S4 hN hi (.inl hln) rfl (fun s5 S5 => ?_) (.inr hln)
          refine wpAny_mono ((hsu a oe4 cls d (X.pn ++ pins) hz4 ⟨_, hd4⟩).run [] s5 _ H' _ S5 (hyes rfl a na)) (fun f s6 hsp => ?_) (fun _ _ z => False.elim z)
          have end_ : ∀ {σ6 : St} {H6 : Hp} {Q : Shared → Prop}, Inv (X.suite a ((a, oe4) :: (X.pn ++ pins))) [] σ6 H6 s6 → (∀ s7, Inv X pins (σ6.set i none) H6 s7 → Q s7) →
              wpAny (model X.prog X.w) X.A (do bindName X.env n .none; unbindBehindTheSuite X.env n pos') (fun _ s7 => Q s7) X.xe s6 := fun {σ6 H6 Q} S6 hq => gone_ok (S6.unsuite ok) hN hi hln hq
          cases f with
          | next =>
            obtain ⟨σ6, H6, S6, q6⟩ := hsp
            exact end_ S6 fun s7 J7 => ⟨_, _, J7, q6⟩
          | brk =>
            obtain ⟨σ6, H6, S6, q6⟩ := hsp
            exact end_ S6 fun s7 J7 => ⟨_, _, J7, q6⟩
          | cont =>
            obtain ⟨σ6, H6, S6, q6⟩ := hsp
            exact end_ S6 fun s7 J7 => ⟨_, _, J7, q6⟩
          | ret u =>
            obtain ⟨v6, σ6, H6, S6, r6, q6⟩ := hsp
            exact end_ S6 fun s7 J7 => ⟨_, _, _, J7, r6, q6⟩
        | false =>
          show wpAny _ X.A (handleBy (.ref a) X.env hds2) _ _ _
          exact ih (hno rfl)
    exact go hh w
  · cases f with
    | next =>
      obtain ⟨σ', H', J', q⟩ := hsp
      exact wpAny_execs_nil ⟨σ', H', J'.ofTry ok, q⟩
    | brk =>
      obtain ⟨σ', H', J', q⟩ := hsp
      exact ⟨σ', H', J'.ofTry ok, q⟩
    | cont =>
      obtain ⟨σ', H', J', q⟩ := hsp
      exact ⟨σ', H', J'.ofTry ok, q⟩
    | ret u =>
      obtain ⟨v, σ', H', J', r, q⟩ := hsp
      exact ⟨v, σ', H', J'.ofTry ok, r, q⟩
end

/-! ### try over values -/
def clothErrs : List Str := ["InvalidInteger", "InvalidThread", "InvalidCrossing", "InvalidRows", "InvalidPattern", "InvalidList", "InvalidCloth", "InvalidScores", "InvalidSquare", "InvalidDraft", "InvalidLoom", "InvalidText", "InvalidLine", "InvalidCommand", "Duplicate", "WrongTotal", "SizeMismatch", "ScoreMismatch", "SameThread", "TooLarge"]
def stateErrs : List Str := ["Infeasible", "LastThread", "NeverConnected", "Locked", "NothingToUndo"]
def exM (n c : Str) : Bool := n == c || (c == "ClothError" && clothErrs.contains n) || (c == "StateError" && stateErrs.contains n) || (c == "MissingError" && n == "UnknownName")
def EXM (K : PySem.W.Frag) (n c : Str) : Prop := ∀ vn vc, NamV K n vn → NamV K c vc → PySem.W.exmOne K vn vc = some (exM n c)
theorem exm_of {K : PySem.W.Frag} {n c : Str} {vn vc : Value} {b : Bool} (h1 : NamV K n vn) (h2 : NamV K c vc) (h : PySem.W.exmOne K vn vc = some b) (hb : exM n c = b) : EXM K n c := fun un uc k1 k2 => by
  rw [k1.one h1, k2.one h2, h, hb]
inductive HE where
  | cl (c : Str) (as : Option Nat) (f : Ex → MS)
  | stop
def quiet (r : RS) : RS := match r with
  | .exc _ _ _ => .stuck
  | r => r
def wipe (i : Nat) (r : RS) : RS := match r with
  | .go (.nx l) c => .go (.nx (l.set i none)) c
  | .go (.bk l) c => .go (.bk (l.set i none)) c
  | .go (.ct l) c => .go (.ct (l.set i none)) c
  | .go (.rt d) c => .go (.rt d) c
  | _ => .stuck
def hdR (ns : List Str) : List HE → Ex → Ls → Cs → RS
  | [], x, l, c => .exc x l c
  | .stop :: _, _, _, _ => .stuck
  | .cl n none f :: r, x, l, c => if x.cls ∈ ns then (if exM x.cls n = true then quiet (f x l c) else hdR ns r x l c) else .stuck
  | .cl n (some i) f :: r, x, l, c => if x.cls ∈ ns ∧ i < l.length then (if exM x.cls n = true then wipe i (f x (l.set i none) c) else hdR ns r x l c) else .stuck
def sTry (ns : List Str) (b : MS) (hs : List HE) : MS := fun l c => match b l c with
  | .exc x l1 c1 => hdR ns hs x l1 c1
  | r => r
def WF : WX := fun _ _ _ _ => False
def tsP (K : PySem.W.Frag) (f : Ex → MS) (cls : Value) (d : Option Addr) : TS := fun D σ H => ∃ x I m l c, RepX K I m H cls d x ∧ Rel K I H m c ∧ Locs K I m σ l ∧ AfterS K I m H WF D (f x l c)
def tsX (K : PySem.W.Frag) (i : Nat) (f : Ex → MS) (a : Addr) (cls : Value) (d : Option Addr) : TS := fun D σ H => ∃ x I m l c, σ[i]? = some (some (.ref a)) ∧ RepX K I m H cls d x ∧ Rel K I H m c ∧ Locs K I m σ l ∧ AfterS K I m H WF D (f x l c)
theorem ts_plain {X : Cx} {ss : List Stmt} {g : MS} {cls : Value} {d : Option Addr} (h : PSs X ss (rdS X.K WF g)) : PSs X ss (tsP X.K (fun _ => g) cls d) := PSsi h fun D σ H ⟨x, I, m, l, c, _, R, L, A⟩ => ⟨I, m, l, c, R, L, A⟩
theorem ts_plainX {X : Cx} {ss : List Stmt} {g : MS} {i : Nat} {a : Addr} {cls : Value} {d : Option Addr} (h : PSs X ss (rdS X.K WF g)) : PSs X ss (tsX X.K i (fun _ => g) a cls d) := PSsi h fun D σ H ⟨x, I, m, l, c, _, _, R, L, A⟩ => ⟨I, m, l, c, R, L, A⟩
theorem Locs.setN {K : PySem.W.Frag} {I : Hp} {m : List Addr} {σ : St} {l : Ls} (i : Nat) (w : Option V) (h : Locs K I m σ l) : Locs K I m (σ.set i w) (l.set i none) := by
  refine ⟨by simp [h.len], fun j d e => ?_⟩
  by_cases hj : i = j
  · subst hj
    by_cases hl : i < l.length
    · rw [List.getElem?_set_self hl] at e
      cases e
    · rw [List.getElem?_eq_none (by simpa using hl)] at e
      cases e
  · rw [List.getElem?_set_ne hj] at e ⊢
    exact h.at_ j d e
inductive HdsM (X : Cx) (ns : List Str) : List ExceptHandler → List HE → Prop
  | nil : HdsM X ns [] []
  | stop {hds : List ExceptHandler} : HdsM X ns hds [.stop]
  | cl {x : Str} {f : Ex → MS} {b₀ : Stmt} {suite : List Stmt} {np pos' : Pos} {hds : List ExceptHandler} {l : List HE} (hc : ∃ v, NamV X.K x v ∧ Names X x v) (hm : ∀ n ∈ ns, EXM X.K n x)
      (hsu : ∀ (a : Addr) (oe : Obj) (cls : Value) (d : Option Addr) (pn : List (Addr × Obj)), Zc cls d oe → (∃ vs, oe.data = .fields vs) → PSs (X.suite a ((a, oe) :: pn)) (b₀ :: suite) (tsP X.K f cls d)) (r : HdsM X ns hds l) :
      HdsM X ns (.ExceptHandler (some (.Name x np)) none (b₀ :: suite) pos' :: hds) (.cl x none f :: l)
  | as {x n : Str} {i : Nat} {f : Ex → MS} {b₀ : Stmt} {suite : List Stmt} {np pos' : Pos} {hds : List ExceptHandler} {l : List HE} (hN : X.N.Nodup) (hi : X.N[i]? = some n) (hln : X.env.kindOf n = some .local) (hc : ∃ v, NamV X.K x v ∧ Names X x v) (hm : ∀ n ∈ ns, EXM X.K n x)
      (hsu : ∀ (a : Addr) (oe : Obj) (cls : Value) (d : Option Addr) (pn : List (Addr × Obj)), Zc cls d oe → (∃ vs, oe.data = .fields vs) → PSs (X.suite a ((a, oe) :: pn)) (b₀ :: suite) (tsX X.K i f a cls d)) (r : HdsM X ns hds l) :
      HdsM X ns (.ExceptHandler (some (.Name x np)) (some n) (b₀ :: suite) pos' :: hds) (.cl x (some i) f :: l)
section
variable {X : Cx} {ns : List Str} {hds : List ExceptHandler} {hes : List HE}
theorem quiet_after {K : PySem.W.Frag} {I : Hp} {m : List Addr} {H : Hp} {W : WX} {D : Ends} {r : RS} (A : AfterS K I m H W D (quiet r)) : AfterS K I m H WF D r := by
  cases r with
  | stuck => exact A
  | exc x l c => exact A.elim
  | go f c => cases f <;> exact A
theorem wipe_after {K : PySem.W.Frag} {I : Hp} {m : List Addr} {H : Hp} {W : WX} {D : Ends} {r : RS} {i : Nat} (A : AfterS K I m H W D (wipe i r)) :
    AfterS K I m H WF { nx := fun σ' H' => D.nx (σ'.set i none) H', rt := D.rt, bk := fun σ' H' => D.bk (σ'.set i none) H', ct := fun σ' H' => D.ct (σ'.set i none) H' } r := by
  cases r with
  | stuck => exact A
  | exc x l c => exact A.elim
  | go f c =>
    cases f with
    | rt d => exact A
    | nx l => exact fun I' m' H' σ' e r L => A I' m' H' _ e r (L.setN i none)
    | bk l => exact fun I' m' H' σ' e r L => A I' m' H' _ e r (L.setN i none)
    | ct l => exact fun I' m' H' σ' e r L => A I' m' H' _ e r (L.setN i none)
theorem hdg_of (h : HdsM X ns hds hes) : ∃ l, HdsG X hds l ∧ ∀ (D : Ends) (W : WX) (cls : Value) (d : Option Addr) (σ : St) (H : Hp) (x : Ex) (I : Hp) (m : List Addr) (ls : Ls) (c : Cs), RepX X.K I m H cls d x → Rel X.K I H m c → Locs X.K I m σ ls →
    AfterS X.K I m H W D (hdR ns hes x ls c) → wGen X.K W D l cls d σ H := by
  induction h with
  | nil => exact ⟨[], .nil, fun D W cls d σ H x I m ls c px R L A => A I m H σ cls d (Ext.refl _ _ _) R L px⟩
  | stop => exact ⟨[.stop], .stop, fun D W cls d σ H x I m ls c px R L A => A.elim⟩
  | @cl y f b₀ suite np pos' hds l hc hm hsu r ih =>
    obtain ⟨l2, g, w⟩ := ih
    obtain ⟨v, hv, hn⟩ := hc
    refine ⟨_, .cl hn hsu g, fun D W cls d σ H x I m ls c px R L A => ?_⟩
    by_cases hx : x.cls ∈ ns
    · have A : AfterS X.K I m H W D (if x.cls ∈ ns then (if exM x.cls y = true then quiet (f x ls c) else hdR ns l x ls c) else .stuck) := A
      rw [if_pos hx] at A
      refine ⟨exM x.cls y, hm _ hx _ _ px.1 hv, fun hb a na => ?_, fun hb => ?_⟩
      · rw [if_pos hb] at A
        exact ⟨x, I, m, ls, c, px, R, L, quiet_after A⟩
      · rw [if_neg (by rw [hb]; exact Bool.false_ne_true)] at A
        exact w D W cls d σ H x I m ls c px R L A
    · have A : AfterS X.K I m H W D (if x.cls ∈ ns then (if exM x.cls y = true then quiet (f x ls c) else hdR ns l x ls c) else .stuck) := A
      rw [if_neg hx] at A
      exact A.elim
  | @as y n i f b₀ suite np pos' hds l hN hi hln hc hm hsu r ih =>
    obtain ⟨l2, g, w⟩ := ih
    obtain ⟨v, hv, hn⟩ := hc
    refine ⟨_, .as hN hi hln hn hsu g, fun D W cls d σ H x I m ls c px R L A => ?_⟩
    by_cases hx : x.cls ∈ ns ∧ i < ls.length
    · have A : AfterS X.K I m H W D (if x.cls ∈ ns ∧ i < ls.length then (if exM x.cls y = true then wipe i (f x (ls.set i none) c) else hdR ns l x ls c) else .stuck) := A
      rw [if_pos hx] at A
      refine ⟨exM x.cls y, hm _ hx.1 _ _ px.1 hv, fun hb a na => ?_, fun hb => ?_⟩
      · rw [if_pos hb] at A
        exact ⟨x, I, m, ls.set i none, c, by rw [List.getElem?_set_self (by rw [L.len]; exact hx.2)], px, R, L.setN i _, wipe_after A⟩
      · rw [if_neg (by rw [hb]; exact Bool.false_ne_true)] at A
        exact w D W cls d σ H x I m ls c px R L A
    · have A : AfterS X.K I m H W D (if x.cls ∈ ns ∧ i < ls.length then (if exM x.cls y = true then wipe i (f x (ls.set i none) c) else hdR ns l x ls c) else .stuck) := A
      rw [if_neg hx] at A
      exact A.elim
theorem ms_try {W : WX} {body : List Stmt} {h₀ : ExceptHandler} {fb : MS} {pos : Pos} (hs : X.stack = X.env :: X.outer) (hf : X.env.frame = some X.env.locals) (tk : Takes X W)
    (hb : ∀ (W : WX) (pn : List (Addr × Obj)) (xe : Value → Shared → Prop), Takes (X.tr pn xe) W → PassesOwn (model X.prog X.w) X.A X.env xe → PSs (X.tr pn xe) body (rdS X.K W fb))
    (hh : HdsM X ns (h₀ :: hds) hes) : PS X (.Try body (h₀ :: hds) [] [] pos) (rdS X.K W (sTry ns fb hes)) := by
  obtain ⟨l, g, w⟩ := hdg_of hh
  refine PSi (ps_try_gen (tb := fun W => rdS X.K W fb) hs hf tk hb g) fun D σ H ⟨I, m, ls, c, R, L, A⟩ => ⟨I, m, ls, c, R, L, ?_⟩
  have A : AfterS X.K I m H W D (match fb ls c with
    | .exc x l1 c1 => hdR ns hes x l1 c1
    | r => r) := A
  cases q : fb ls c with
  | stuck => rw [q] at A; exact A
  | go f c' => rw [q] at A; cases f <;> exact A
  | exc x l1 c1 =>
    rw [q] at A
    exact fun I' m' H' σ' cls dd E' R' L' px => w D W cls dd σ' H' x I' m' l1 c1 px R' L' (AfterS.ext E' A)
end

/-! ### a field of the caught exception -/
theorem RepF.look {K : PySem.W.Frag} {I : Hp} {m : List Addr} {f : Str} {d : D} : ∀ {vs : List (Str × V)} {ds : List (Str × D)}, RepF K I m vs ds → ds.lookup f = some d → ∃ v, vs.lookup f = some v ∧ Rep K I m v d
  | _, _, .nil, e => by cases e
  | _, _, .cons (k := k) h t, e => by
    rw [List.lookup_cons] at e ⊢
    cases q : f == k with
    | true => rw [q] at e; cases e; exact ⟨_, rfl, h⟩
    | false => rw [q] at e; exact RepF.look t e
def mXf (ns : List Str) (f : Str) (x : Ex) : ME := fun _ c => if x.cls ∈ ns then (match x.fs.lookup f with
  | some d => .ok d c
  | none => .stuck) else .stuck
theorem xfc_of {P : Program} {K : PySem.W.Frag} {n f : Str} {v : Value} (T : XOwn P K n f) (h : NamV K n v) : ∃ C, v = .ref C ∧ XfC K C ∧ PySem.W.findIn K (.ref C) f = some none := by
  obtain ⟨C, fI, nC, _, iC, tI, _, hsub, sa, hno, exC, tyC, kC, ga, gg, hd⟩ := T.ex
  exact ⟨C, h.one (.inl nC), ⟨ga, gg, exC, hd⟩, hno⟩
/-- return ['word', e.f] -/
theorem ms_retXf {X : Cx} {ns : List Str} {n f s : Str} {i j : Nat} {a : Addr} {oe : Obj} {cls : Value} {d : Option Addr} {pn : List (Addr × Obj)} {p0 p1 p2 p3 p4 : Pos} (hT : ∀ k ∈ ns, XOwn X.prog X.K k f) (hz : Zc cls d oe) (hf : ∃ vs, oe.data = .fields vs)
    (hv : PE (X.suite a ((a, oe) :: pn)) (.Name n p1) (tVar i)) (hb : attributeBase (.Name n p1) f X.env (eval (.Name n p1) X.env) = eval (.Name n p1) X.env := by rfl) :
    PSs (X.suite a ((a, oe) :: pn)) [.Return (some (.List [.Constant (.str s) j p0, .Attribute (.Name n p1) f p2] p3)) p4] (tsX X.K i (fun x => sRet (mLst (aCons (mC (.str s)) (aCons (mXf ns f x) aNil)))) a cls d) := by
  refine ⟨fun pins st σ H D J ⟨x, I, m, l, c, hσ, px, R, L, A⟩ => ?_⟩
  have A : AfterS X.K I m H WF D (sRet (mLst (aCons (mC (.str s)) (aCons (mXf ns f x) aNil))) l c) := A
  by_cases hx : x.cls ∈ ns
  · cases hl : x.fs.lookup f with
    | none =>
      have e : sRet (mLst (aCons (mC (.str s)) (aCons (mXf ns f x) aNil))) l c = .stuck := by simp [sRet, mLst, aCons, mC, mXf, hx, hl, Mi.R.seq]
      rw [e] at A
      exact A.elim
    | some dv =>
      have e : sRet (mLst (aCons (mC (.str s)) (aCons (mXf ns f x) aNil))) l c = .go (.rt (.lst [.str s, dv])) c := by
        simp [sRet, mLst, aCons, mC, mXf, hx, hl, aNil, fits, sizeLine_eq]
      rw [e] at A
      obtain ⟨C, rfl, T, hno⟩ := xfc_of (hT _ hx) px.1
      rcases px.2 with ⟨_, h2⟩ | ⟨ad, vs, h1, h2, h3⟩
      · rw [h2] at hl; cases hl
      · obtain ⟨v, q1, q2⟩ := h3.look hl
        refine (pss_one (ps_ret (pe_lst (pa_cons pe_str (pa_cons (pe_xf T hno hz hf hv hb) pa_nil))))).run pins st σ H D J ?_
        refine ⟨.ref a, hσ, rfl, rfl, ad, vs, v, h1, R.same _ _ h2, q1, by rw [sizeLine_eq]; show 2 ≤ _; omega, fun p np => ?_⟩
        obtain ⟨R2, E2⟩ := alloc (o := .lst [.str s, v]) R np
        exact A _ _ _ _ E2 R2 (.lst upd_same (.cons (.str s) (.cons (q2.mono E2.same E2.pre) .nil)))
  · have e : sRet (mLst (aCons (mC (.str s)) (aCons (mXf ns f x) aNil))) l c = .stuck := by simp [sRet, mLst, aCons, mC, mXf, hx, Mi.R.seq]
    rw [e] at A
    exact A.elim
end L2.Mi

/-! instances: fields, making, methods, properties -/
namespace L2.Mi
open PySem PySem.Spec PyProof.Rows L2

def insOf (d : D) (c : Cs) : Option (Str × List (Str × D)) := match d with
  | .obj n fs => some (n, fs)
  | .ref k => match c[k]? with
    | some (.ins n fs) => some (n, fs)
    | some (.frz (.obj n fs)) => some (n, fs)
    | _ => none
  | _ => none
section
variable {K : PySem.W.Frag} {I H : Hp} {m : List Addr} {c : Cs}
theorem ins_at {v : V} {d : D} {n : Str} {fs : List (Str × D)} (R : Rel K I H m c) (p : Rep K I m v d) (e : insOf d c = some (n, fs)) : ∃ (a C dx : Addr) (vs : List (Str × V)), v = .ref a ∧ NamV K n (.ref C) ∧ H a = some (.ins C dx vs) ∧ RepF K I m vs fs := by
  cases p with
  | @obj a C dx n' vs ds hn h r => cases e; exact ⟨a, C, dx, vs, rfl, hn, R.same _ _ h, r⟩
  | @ref k a q =>
    have e : (match c[k]? with
      | some (.ins n fs) => some (n, fs)
      | some (.frz (.obj n fs)) => some (n, fs)
      | _ => none) = some (n, fs) := e
    cases z : c[k]? with
    | none => rw [z] at e; cases e
    | some x =>
      rw [z] at e
      have hc := R.cell k a x q z
      cases x with
      | ins n' ds =>
        cases e
        obtain ⟨_, dx, vs, _, _, _, ⟨C, hn, hH⟩, r⟩ := hc
        exact ⟨a, C, dx, vs, rfl, hn, hH, r⟩
      | frz d =>
        cases d with
        | obj n' ds =>
          cases e
          obtain ⟨_, hr⟩ := hc
          cases hr with
          | obj hn h r => exact ⟨a, _, _, _, rfl, hn, R.same _ _ h, r⟩
        | _ => cases e
      | _ => cases e
  | _ => cases e
theorem RepF.lookN {f : Str} : ∀ {vs : List (Str × V)} {ds : List (Str × D)}, RepF K I m vs ds → ds.lookup f = none → vs.lookup f = none
  | _, _, .nil, _ => rfl
  | _, _, .cons (k := k) h t, e => by
    rw [List.lookup_cons] at e ⊢
    cases q : f == k with
    | true => rw [q] at e; cases e
    | false => rw [q] at e; exact RepF.lookN t e
def putFD (f : Str) (d : D) : List (Str × D) → List (Str × D)
  | [] => [(f, d)]
  | (g, x) :: r => if g = f then (g, d) :: r else (g, x) :: putFD f d r
theorem RepF.put {f : Str} {v : V} {d : D} (p : Rep K I m v d) : ∀ {vs : List (Str × V)} {ds : List (Str × D)}, RepF K I m vs ds → RepF K I m (putF f v vs) (putFD f d ds)
  | _, _, .nil => .cons p .nil
  | _, _, .cons (k := k) h t => by
    unfold putF putFD
    by_cases e : k = f
    · rw [if_pos e, if_pos e]; exact .cons p t
    · rw [if_neg e, if_neg e]; exact .cons h (RepF.put p t)
theorem RepF.length : ∀ {vs : List (Str × V)} {ds : List (Str × D)}, RepF K I m vs ds → vs.length = ds.length
  | _, _, .nil => rfl
  | _, _, .cons _ t => congrArg (· + 1) (RepF.length t)
/-- a new cell of any kind -/
theorem Rel.pushC (r : Rel K I H m c) {p : Addr} (np : H p = none) {o : HO} {x : Cell} (q : CellAt K I (upd H p o) (m ++ [p]) p x) : Rel K I (upd H p o) (m ++ [p]) (c ++ [x]) ∧ Ext I m H I (m ++ [p]) (upd H p o) := by
  have sH : Same H (upd H p o) := fun b u e => by rw [upd_ne (ne_of_none e np)]; exact e
  have hp := pre_app m p
  have nm := r.fresh np
  refine ⟨⟨r.same.trans sH, by simp [r.len], fun i j a h1 h2 => ?_, fun k a x h1 h2 => ?_⟩, Same.refl I, hp, fun b o h1 h2 h3 => ⟨sH _ _ h1, h2, ?_⟩⟩
  · rcases Nat.lt_or_ge i m.length with hi | hi
    · rcases Nat.lt_or_ge j m.length with hj | hj
      · rw [List.getElem?_append_left hi] at h1
        rw [List.getElem?_append_left hj] at h2
        exact r.nd i j a h1 h2
      · rw [List.getElem?_append_left hi] at h1
        rw [List.getElem?_append_right hj] at h2
        have e : a = p := by
          cases z : j - m.length with
          | zero => rw [z] at h2; simpa using h2.symm
          | succ n => rw [z] at h2; simp at h2
        exact absurd (List.mem_of_getElem? h1) (e ▸ nm)
    · rcases Nat.lt_or_ge j m.length with hj | hj
      · rw [List.getElem?_append_left hj] at h2
        rw [List.getElem?_append_right hi] at h1
        have e : a = p := by
          cases z : i - m.length with
          | zero => rw [z] at h1; simpa using h1.symm
          | succ n => rw [z] at h1; simp at h1
        exact absurd (List.mem_of_getElem? h2) (e ▸ nm)
      · have hi' := (List.getElem?_eq_some_iff.mp h1).1
        have hj' := (List.getElem?_eq_some_iff.mp h2).1
        simp at hi' hj'
        omega
  · rcases Nat.lt_or_ge k m.length with hk | hk
    · rw [List.getElem?_append_left hk] at h1
      rw [List.getElem?_append_left (by rw [← r.len]; exact hk)] at h2
      have q := r.cell k a x h1 h2
      cases x with
      | lst es =>
        obtain ⟨q1, ws, q2, q3⟩ := q
        exact ⟨q1, ws, sH _ _ q2, q3.mono (Same.refl I) hp⟩
      | dct es =>
        obtain ⟨q1, ws, q2, q3⟩ := q
        exact ⟨q1, ws, sH _ _ q2, q3.mono (Same.refl I) hp⟩
      | ins C es =>
        obtain ⟨q1, dx, ws, q2, q3, q4, q5, q6⟩ := q
        exact ⟨q1, dx, ws, q2, fun z => by
          rcases List.mem_append.mp z with z | z
          · exact q3 z
          · simp only [List.mem_singleton] at z
            exact ne_of_none q4 np z, sH _ _ q4, q5.imp fun _ z => ⟨z.1, sH _ _ z.2⟩, q6.mono (Same.refl I) hp⟩
      | frz d => exact ⟨q.1, q.2.mono (Same.refl I) hp⟩
    · have hk' := (List.getElem?_eq_some_iff.mp h1).1
      simp at hk'
      have e : k = m.length := by omega
      subst e
      rw [List.getElem?_append_right (Nat.le_refl _)] at h1
      rw [r.len, List.getElem?_append_right (Nat.le_refl _)] at h2
      simp at h1 h2
      subst h1; subst h2
      exact q
  · intro z
    rcases List.mem_append.mp z with z | z
    · exact h3 z
    · simp only [List.mem_singleton] at z
      exact ne_of_none h1 np z
/-- a new instance -/
theorem Rel.pushI (r : Rel K I H m c) {x dx C : Addr} {n : Str} (nx : H x = none) (nd : H dx = none) (ne : dx ≠ x) (hn : NamV K n (.ref C)) :
    Rel K I (upd (upd H dx (.own x)) x (.ins C dx [])) (m ++ [x]) (c ++ [.ins n []]) ∧ Ext I m H I (m ++ [x]) (upd (upd H dx (.own x)) x (.ins C dx [])) := by
  have r1 : Rel K I (upd H dx (.own x)) m c := r.sideO (fun y z => by rw [nd] at z; cases z) (r.same.free nd) (r.fresh nd)
  have nx1 : upd H dx (.own x) x = none := by rw [upd_ne (Ne.symm ne)]; exact nx
  have nxm := r.fresh nx
  obtain ⟨r2, e2⟩ := r1.pushC (o := .ins C dx []) (x := .ins n []) nx1 ⟨r.same.free nx, dx, [], r.same.free nd, fun z => by
    rcases List.mem_append.mp z with z | z
    · exact r.fresh nd z
    · simp only [List.mem_singleton] at z; exact ne z, by rw [upd_ne ne, upd_same], ⟨C, hn, upd_same⟩, .nil⟩
  refine ⟨r2, (Ext.trans ⟨Same.refl I, Pre.refl m, fun b o h1 h2 h3 => ⟨by rw [upd_ne (ne_of_none h1 nd)]; exact h1, h2, h3⟩⟩ e2)⟩
/-- a field is stored -/
theorem Rel.putI (r : Rel K I H m c) {k : Nat} {a C dx : Addr} {n : Str} {vs0 vs : List (Str × V)} {fs0 fs : List (Str × D)} (hm : m[k]? = some a) (hc : c[k]? = some (.ins n fs0)) (hH : H a = some (.ins C dx vs0)) (q : RepF K I m vs fs) :
    Rel K I (upd H a (.ins C dx vs)) m (c.set k (.ins n fs)) ∧ Ext I m H I m (upd H a (.ins C dx vs)) := by
  obtain ⟨n1, dx', ws, d1, d2, d3, ⟨C', hn, hH'⟩, n3⟩ := r.cell k a _ hm hc
  rw [hH] at hH'
  cases hH'
  have da : dx ≠ a := fun z => by rw [z, hH] at d3; cases d3
  refine ⟨⟨fun b o e => ?_, by simp [r.len], r.nd, fun j b x h1 h2 => ?_⟩, Same.refl I, Pre.refl m, fun b o h1 h2 h3 => ⟨?_, h2, h3⟩⟩
  · rw [upd_ne (ne_of_none e n1)]
    exact r.same _ _ e
  · by_cases hj : k = j
    · subst hj
      rw [List.getElem?_set_self (List.getElem?_eq_some_iff.mp hc).1] at h2
      rw [hm] at h1
      cases h1; cases h2
      exact ⟨n1, dx, vs, d1, d2, by rw [upd_ne da]; exact d3, ⟨C, hn, upd_same⟩, q⟩
    · rw [List.getElem?_set_ne hj] at h2
      have nb : b ≠ a := fun e => hj (r.nd k j a hm (e ▸ h1))
      have q := r.cell j b x h1 h2
      cases x with
      | lst es =>
        obtain ⟨q1, ws, q2, q3⟩ := q
        exact ⟨q1, ws, by rw [upd_ne nb]; exact q2, q3⟩
      | dct es =>
        obtain ⟨q1, ws, q2, q3⟩ := q
        exact ⟨q1, ws, by rw [upd_ne nb]; exact q2, q3⟩
      | ins C2 es =>
        obtain ⟨q1, dx2, ws, q2, q3, q4, q5, q6⟩ := q
        exact ⟨q1, dx2, ws, q2, q3, by rw [upd_ne (ne_of q4 hH (by intro z; cases z))]; exact q4, q5.imp fun _ z => ⟨z.1, by rw [upd_ne nb]; exact z.2⟩, q6⟩
      | frz d => exact q
  · rw [upd_ne (fun (e : b = a) => h3 (by rw [e]; exact List.mem_of_getElem? hm))]
    exact h1
/-- an instance does not change any more -/
theorem Rel.freezeI (r : Rel K I H m c) {k : Nat} {a : Addr} {n : Str} {fs : List (Str × D)} (hm : m[k]? = some a) (hc : c[k]? = some (.ins n fs)) : ∃ I' : Hp, Rel K I' H m (c.set k (.frz (.obj n fs))) ∧ Ext I m H I' m H ∧ Rep K I' m (.ref a) (.obj n fs) := by
  obtain ⟨n1, dx, ws, d1, d2, d3, ⟨C, hn, hH⟩, n3⟩ := r.cell k a _ hm hc
  have sI : Same I (upd I a (.ins C dx ws)) := fun b o e => by rw [upd_ne (ne_of_none e n1)]; exact e
  refine ⟨upd I a (.ins C dx ws), ⟨fun b o e => ?_, by simp [r.len], r.nd, fun j b x h1 h2 => ?_⟩, ⟨sI, Pre.refl m, fun b o h1 h2 h3 => ⟨h1, ?_, h3⟩⟩, .obj hn upd_same (n3.mono sI (Pre.refl m))⟩
  · by_cases hb : b = a
    · subst hb
      rw [upd_same] at e
      cases e
      exact hH
    · rw [upd_ne hb] at e
      exact r.same _ _ e
  · by_cases hj : k = j
    · subst hj
      rw [List.getElem?_set_self (List.getElem?_eq_some_iff.mp hc).1] at h2
      rw [hm] at h1
      cases h1; cases h2
      exact ⟨by rw [upd_same]; exact nofun, .obj hn upd_same (n3.mono sI (Pre.refl m))⟩
    · rw [List.getElem?_set_ne hj] at h2
      have nb : b ≠ a := fun e => hj (r.nd k j a hm (e ▸ h1))
      have q := r.cell j b x h1 h2
      cases x with
      | lst es =>
        obtain ⟨q1, ws, q2, q3⟩ := q
        exact ⟨by rw [upd_ne nb]; exact q1, ws, q2, q3.mono sI (Pre.refl m)⟩
      | dct es =>
        obtain ⟨q1, ws, q2, q3⟩ := q
        exact ⟨by rw [upd_ne nb]; exact q1, ws, q2, q3.mono sI (Pre.refl m)⟩
      | ins C2 es =>
        obtain ⟨q1, dx2, ws, q2, q3, q4, q5, q6⟩ := q
        exact ⟨by rw [upd_ne nb]; exact q1, dx2, ws, by rw [upd_ne (ne_of q4 hH (by intro z; cases z))]; exact q2, q3, q4, q5, q6.mono sI (Pre.refl m)⟩
      | frz d => exact ⟨by rw [upd_ne nb]; exact q.1, q.2.mono sI (Pre.refl m)⟩
  · rw [upd_ne (fun (e : b = a) => h3 (by rw [e]; exact List.mem_of_getElem? hm))]
    exact h2
end

/-! ### fields -/
def FldK (K : PySem.W.Frag) (n f : Str) : Prop := ∃ C, NamV K n (.ref C) ∧ Cls K C ∧ NoAttr K C f
def fldO (ns : List Str) (f : Str) (n : Str) (fs : List (Str × D)) (c : Cs) : R D := if n ∈ ns then (match fs.lookup f with
    | some d => .ok d c
    | none => .stuck) else .stuck
def fldR (ns : List Str) (f : Str) (x : D) (c : Cs) : R D := match insOf x c with
  | some (n, fs) => fldO ns f n fs c
  | none => .stuck
def mFld (ns : List Str) (f : Str) (a : ME) : ME := fun l c => (a l c).bind fun x c1 => fldR ns f x c1
section
variable {X : Cx} {W : WX} {e o : Expr} {es : List Expr} {f : Str} {fa fo : ME} {ga : MA} {ns : List Str} {pos p p' apos : Pos}
theorem me_fld (hT : ∀ n ∈ ns, FldK X.K n f) (ha : PE X e (rdE X.K W fa)) (hb : attributeBase e f X.env (eval e X.env) = eval e X.env := by rfl) : PE X (.Attribute e f pos) (rdE X.K W (mFld ns f fa)) :=
  PEi (pe_fld ha hb) fun σ H Q ⟨I, m, l, c, R, L, A⟩ => ⟨I, m, l, c, R, L, After.mono (After.bind (rep := rD X.K) A) fun v1 H1 ⟨I1, m1, c1, d1, E1, R1, p1, A1⟩ => by
    have A1 : After (rD X.K) X.K I1 m1 H1 (fun cls dd H' => W cls dd σ H') Q (fldR ns f d1 c1) := A1
    unfold fldR at A1
    cases q : insOf d1 c1 with
    | none => rw [q] at A1; exact A1.elim
    | some nf =>
      obtain ⟨n, fs⟩ := nf
      rw [q] at A1
      have A1 : After (rD X.K) X.K I1 m1 H1 (fun cls dd H' => W cls dd σ H') Q (fldO ns f n fs c1) := A1
      unfold fldO at A1
      by_cases hn : n ∈ ns
      · rw [if_pos hn] at A1
        cases z : fs.lookup f with
        | none => rw [z] at A1; exact A1.elim
        | some d =>
          rw [z] at A1
          obtain ⟨a, C, dx, vs, rfl, h1, h2, h3⟩ := ins_at R1 p1 q
          obtain ⟨C', k1, k2, k3⟩ := hT n hn
          cases h1.one k1
          obtain ⟨v, e1, e2⟩ := h3.look z
          exact ⟨a, C, dx, vs, v, rfl, h2, k2, k3, e1, A1.here R1 e2⟩
      · rw [if_neg hn] at A1
        exact A1.elim⟩
/-- o.f = e -/
def fldS (ns : List Str) (f : Str) (d x : D) (l : Ls) (c : Cs) : RS := match x with
  | .ref k => match c[k]? with
    | some (.ins n fs) => if n ∈ ns ∧ fs.length < 900 then .go (.nx l) (c.set k (.ins n (putFD f d fs))) else .stuck
    | _ => .stuck
  | _ => .stuck
def sFldM (ns : List Str) (f : Str) (o a : ME) : MS := fun l c => (a l c).seq l fun d c1 => (o l c1).seq l fun x c2 => fldS ns f d x l c2
theorem ms_fld (hT : ∀ n ∈ ns, FldK X.K n f) (ho : PE X o (rdE X.K W fo)) (hv : PE X e (rdE X.K W fa)) (hs : swapsWith e (some (.Attribute o f p')) pos.line X.env = pure false := by rfl) : PS X (.Assign [.Attribute o f p'] e pos) (rdS X.K W (sFldM ns f fo fa)) :=
  PSi (ps_fld ho hv hs) fun D σ H ⟨I, m, l, c, R, L, A⟩ => ⟨I, m, l, c, R, L, After.mono (AfterS.seq (rep := rD X.K) L A) fun v1 H1 ⟨I1, m1, c1, d1, E1, R1, p1, A1⟩ =>
    ⟨I1, m1, l, c1, R1, L.ext E1, After.mono (AfterS.seq (rep := rD X.K) (L.ext E1) A1) fun v2 H2 ⟨I2, m2, c2, d2, E2, R2, p2, A2⟩ => by
      have L2 := (L.ext E1).ext E2
      cases p2 with
      | @ref k a hk =>
        have A2 : AfterS X.K I2 m2 H2 W D (match c2[k]? with
          | some (.ins n fs) => if n ∈ ns ∧ fs.length < 900 then .go (.nx l) (c2.set k (.ins n (putFD f d1 fs))) else .stuck
          | _ => .stuck) := A2
        cases q : c2[k]? with
        | none => rw [q] at A2; exact A2.elim
        | some x =>
          rw [q] at A2
          cases x with
          | ins n fs =>
            have A2 : AfterS X.K I2 m2 H2 W D (if n ∈ ns ∧ fs.length < 900 then .go (.nx l) (c2.set k (.ins n (putFD f d1 fs))) else .stuck) := A2
            by_cases hn : n ∈ ns ∧ fs.length < 900
            · rw [if_pos hn] at A2
              obtain ⟨_, dx, vs, _, _, _, ⟨C, h1, h2⟩, h3⟩ := R2.cell k a _ hk q
              obtain ⟨C', k1, k2, k3⟩ := hT n hn.1
              cases h1.one k1
              refine ⟨a, C, dx, vs, rfl, h2, k2, k3, by rw [h3.length]; omega, ?_⟩
              obtain ⟨R3, E3⟩ := R2.putI hk q h2 (h3.put (f := f) (Rep.ext p1 E2))
              exact A2 I2 m2 _ σ E3 R3 (L2.ext E3)
            · rw [if_neg hn] at A2; exact A2.elim
          | _ => exact A2.elim
      | _ => exact A2.elim⟩⟩
end

/-! ### making -/
structure MakK (P : Program) (w : World) (K : PySem.W.Frag) (mg : Str → Option Value) (base : Heap) (n : Str) (g : List D → Cs → R D) (k : Nat) : Prop where
  ex : ∃ (C f : Addr) (fd : FuncData) (ps : List Str), PySem.W.nsIn K mainGlobals n = some (some (.ref C)) ∧ mg n = some (.ref C) ∧ Mk K C f ∧ GFn P w K mg base k f fd ps g ∧ Binds K fd ps []
def mkR (n : Str) (g : List D → Cs → R D) (ds : List D) (c : Cs) : R D := (g (.ref c.length :: ds) (c ++ [.ins n []])).bind fun r c2 => match r with
  | .non => .ok (.ref c.length) c2
  | _ => .stuck
theorem make_guards {A : Around} {C : Addr} {us : List Value} {kw : List (Str × Value)} (h : A.guards = some []) : (A.under (.builtin "type.__call__" ⟨.ref C :: us, kw⟩)).guards = some [] := by
  first | exact h | simpa [Around.under, Code.guards, pushGuards, Code.isGuard, guardIds] using h
section
variable {X : Cx} {W : WX} {e o : Expr} {es : List Expr} {f n x mm : Str} {fa fo : ME} {ga : MA} {g : List D → Cs → R D} {k : Nat} {pos p p' apos : Pos}
theorem run_makeG {pins : List (Addr × Obj)} {σ : St} {H : Hp} {s : Shared} {Q : VK} {us : List Value} {vs : List V} {I : Hp} {m : List Addr} {c : Cs} {ds : List D} {C fi : Addr} {fd : FuncData} {ps : List Str} (M : Mk X.K C fi) (hn : NamV X.K n (.ref C)) (F : GFn X.prog X.w X.K X.mg X.base k fi fd ps g)
    (hr : Room (k + 1) X.A) (hgd : X.A.guards = some []) (hb : Binds X.K fd ps []) (tk : Takes X W) (J : Inv X pins σ H s) (r : Vals vs us) (R : Rel X.K I H m c) (p : Reps X.K I m vs ds) (a : After (rD X.K) X.K I m H (fun cls d H' => W cls d σ H') Q (mkR n g ds c)) :
    wpAny (model X.prog X.w) X.A (call (.ref C) us) (EP X pins σ Q) X.xe s := by
  have nx := J.hok.fresh (Nat.le_succ s.heap.objs.size)
  have ndx := J.hok.fresh (Nat.le_refl s.heap.objs.size)
  have J2 := Inv.made (C := C) J
  obtain ⟨R2, E2⟩ := R.pushI nx ndx (Nat.ne_of_lt (Nat.lt_succ_self _)) hn
  have hx : (m ++ [s.heap.objs.size + 1])[c.length]? = some (s.heap.objs.size + 1) := by
    rw [← R.len, List.getElem?_append_right (Nat.le_refl _), Nat.sub_self]
    rfl
  have p2 : Reps X.K I (m ++ [s.heap.objs.size + 1]) (V.ref (s.heap.objs.size + 1) :: vs) (.ref c.length :: ds) := .cons (.ref hx) (p.ext E2)
  have r2 : Vals (V.ref (s.heap.objs.size + 1) :: vs) (Value.ref (s.heap.objs.size + 1) :: us) := .cons rfl r
  have a1 : After (rD X.K) X.K I (m ++ [s.heap.objs.size + 1]) (upd (upd H s.heap.objs.size (.own (s.heap.objs.size + 1))) (s.heap.objs.size + 1) (.ins C s.heap.objs.size [])) (fun cls d H' => W cls d σ H') (fun v H' => v = .non ∧ Q (.ref (s.heap.objs.size + 1)) H') (g (.ref c.length :: ds) (c ++ [.ins n []])) :=
    After.mono (After.bind (rep := rD X.K) (After.ext E2 a)) fun v1 H1 ⟨I1, m1, c1, d1, E1, R1, p1, A1⟩ => by
      cases p1 with
      | non => exact ⟨rfl, A1.here R1 (.ref (E1.pre _ _ hx))⟩
      | _ => exact A1.elim
  have hl0 := F.len _ _ (after_nonstuck a1)
  have hl : (Value.ref (s.heap.objs.size + 1) :: us).length = ps.length := by
    rw [← r2.length, p2.length]; exact hl0
  have hb2 : ∀ s', X.K.In s'.heap → BindsTo s' fd ⟨Value.ref (s.heap.objs.size + 1) :: us, []⟩ (ps.zip (Value.ref (s.heap.objs.size + 1) :: us)) := fun s' kin => by
    have z := hb s' (Value.ref (s.heap.objs.size + 1) :: us) kin (by rw [List.append_nil]; exact hl)
    rw [List.append_nil] at z
    exact z
  refine wpAny_call (make_map (f := fi) J.kIn M.makes M.init (beq_iff_eq.mp M.fn) (codeAny_mono (F.run _ X.stack _ _ ⟨Value.ref (s.heap.objs.size + 1) :: us, []⟩ (Value.ref (s.heap.objs.size + 1) :: us) _ _ (fun cls d H' => W cls d σ H') I _ _ _ (hr.make C us []) (make_guards hgd)
    (J2.env0.make C us []) (hb2 _ J2.kIn) r2 R2 p2 a1) fun r s' hq' => ?_))
  cases r with
  | error e => exact tk e s' (XE.of_call J2 (fun _ _ _ h => h) hq')
  | ok fl =>
    cases fl with
    | ret u =>
      obtain ⟨v, H', J3, rv, ev, q3⟩ := J2.after hq'
      subst ev
      exact ⟨rv, ⟨V.ref (s.heap.objs.size + 1), H', J3, rfl, q3⟩⟩
    | next => exact False.elim hq'
    | brk => exact False.elim hq'
    | cont => exact False.elim hq'
/-- n(e, ..) -/
def mMake (n : Str) (g : List D → Cs → R D) (t : MA) : ME := fun l c => (t l c).bind fun xs c1 => mkR n g xs c1
theorem me_make (T : MakK X.prog X.w X.K X.mg X.base n g k) (hr : Room (k + 1) X.A) (hgd : X.A.guards = some []) (hg : Gl X n) (tk : Takes X W) (ha : PA X (e :: es) (rdA X.K W ga))
    (hdb : (n == ("__debug__" : Str)) = false := by decide) (he : starEach (e :: es) X.env = (false, eval e X.env) :: starEach es X.env := by rfl) (hpl : (backTo pos (starEach es X.env)).any (·.1) = false := by rfl) :
    PE X (.Call (.Name n p) (e :: es) [] pos) (rdE X.K W (mMake n g ga)) := by
  obtain ⟨C, fi, fd, ps, nC, hm, M, F, hb⟩ := T.ex
  refine ⟨fun pins s σ H Q J ⟨I, m, l, c, R, L, A⟩ => ?_⟩
  refine wpAny_Call_Name_kw (ld_glob J hg hm ?_ hdb)
  refine PySem.W.callWith_K (h₀ := X.base) J.ok.mod.kin M.kp (thn (ha.run pos pins s σ H _ J ⟨I, m, l, c, R, L, After.bind (rep := rA X.K) A⟩) fun us s1 ⟨vs, H1, J1, r, I1, m1, c1, ds, E1, R1, p1, A1⟩ => ⟨J1.kIn, ?_⟩) he hpl
  exact run_makeG M (.inl nC) F hr hgd hb tk J1 r R1 p1 A1
theorem me_make0 (T : MakK X.prog X.w X.K X.mg X.base n g k) (hr : Room (k + 1) X.A) (hgd : X.A.guards = some []) (hg : Gl X n) (tk : Takes X W) (hdb : (n == ("__debug__" : Str)) = false := by decide) :
    PE X (.Call (.Name n p) [] [] pos) (rdE X.K W (mMake n g aNil)) := by
  obtain ⟨C, fi, fd, ps, nC, hm, M, F, hb⟩ := T.ex
  refine ⟨fun pins s σ H Q J ⟨I, m, l, c, R, L, A⟩ => ?_⟩
  refine wpAny_Call_Name_kw (ld_glob J hg hm ?_ hdb)
  exact PySem.W.callWith_K0 J.kIn M.kp (run_makeG (us := []) M (.inl nC) F hr hgd hb tk J .nil R .nil A)
/-- an instance that does not change from here on -/
def frzI (d : D) (c : Cs) : R D := match d with
  | .ref k => match c[k]? with
    | some (.ins n fs) => .ok (.obj n fs) (c.set k (.frz (.obj n fs)))
    | _ => .stuck
  | _ => .stuck
def mFrzI (a : ME) : ME := fun l c => (a l c).bind fun d c1 => frzI d c1
theorem me_frzI (h : PE X e (rdE X.K W fa)) : PE X e (rdE X.K W (mFrzI fa)) := PEi h fun σ H Q ⟨I, m, l, c, R, L, A⟩ =>
  ⟨I, m, l, c, R, L, After.mono (After.bind (rep := rD X.K) A) fun v1 H1 ⟨I1, m1, c1, d1, E1, R1, p1, A1⟩ => by
    cases p1 with
    | @ref k a hk =>
      have A2 : After (rD X.K) X.K I1 m1 H1 (fun cls dd H' => W cls dd σ H') Q (match c1[k]? with
        | some (.ins n fs) => .ok (.obj n fs) (c1.set k (.frz (.obj n fs)))
        | _ => .stuck) := A1
      cases q : c1[k]? with
      | none => rw [q] at A2; exact A2.elim
      | some x =>
        rw [q] at A2
        cases x with
        | ins n fs =>
          obtain ⟨I2, R2, E2, p2⟩ := R1.freezeI hk q
          exact A2 I2 m1 H1 _ E2 R2 p2
        | _ => exact A2.elim
    | _ => exact A1.elim⟩

/-! ### methods -/
structure MthK (P : Program) (w : World) (K : PySem.W.Frag) (mg : Str → Option Value) (base : Heap) (n mm : Str) (g : List D → Cs → R D) (k : Nat) : Prop where
  ex : ∃ (C f : Addr) (fd : FuncData) (ps : List Str), NamV K n (.ref C) ∧ Cls K C ∧ Meth K C mm f ∧ GFn P w K mg base k f fd ps g ∧ Binds K fd ps []
abbrev Tbl := List (Str × (List D → Cs → R D))
theorem tbl_mem {β : Type} {n : Str} {g : β} : ∀ {t : List (Str × β)}, t.lookup n = some g → (n, g) ∈ t
  | (a, b) :: t, h => by
    rw [List.lookup_cons] at h
    cases q : n == a with
    | true => rw [q] at h; cases h; rw [beq_iff_eq.mp q]; exact List.mem_cons_self
    | false => rw [q] at h; exact List.mem_cons_of_mem _ (tbl_mem h)
/-- the method of the receiver's class -/
def viaT {α : Type} (tbl : Tbl) (x : D) (c : Cs) (r : (List D → Cs → R D) → List (Str × D) → R α) : R α := match insOf x c with
  | some (n, fs) => match tbl.lookup n with
    | some g => r g fs
    | none => .stuck
  | none => .stuck
theorem via_read {α β : Type} {rep : Hp → List Addr → β → α → Prop} {K : PySem.W.Frag} {I H : Hp} {m : List Addr} {c : Cs} {W : XK} {Q : β → Hp → Prop} {tbl : Tbl} {d : D} {v : V} {r : (List D → Cs → R D) → List (Str × D) → R α} (R : Rel K I H m c) (p : Rep K I m v d)
    (A : After rep K I m H W Q (viaT tbl d c r)) : ∃ (a C dx : Addr) (vs : List (Str × V)) (n : Str) (fs : List (Str × D)) (g : List D → Cs → Mi.R D), v = .ref a ∧ NamV K n (.ref C) ∧ H a = some (.ins C dx vs) ∧ RepF K I m vs fs ∧ (n, g) ∈ tbl ∧ After rep K I m H W Q (r g fs) := by
  unfold viaT at A
  cases q : insOf d c with
  | none => rw [q] at A; exact A.elim
  | some nf =>
    obtain ⟨n, fs⟩ := nf
    rw [q] at A
    have A : After rep K I m H W Q (match tbl.lookup n with
      | some g => r g fs
      | none => .stuck) := A
    cases z : tbl.lookup n with
    | none => rw [z] at A; exact A.elim
    | some g =>
      rw [z] at A
      obtain ⟨a, C, dx, vs, e, h1, h2, h3⟩ := ins_at R p q
      exact ⟨a, C, dx, vs, n, fs, g, e, h1, h2, h3, tbl_mem z, A⟩
def mMeth (tbl : Tbl) (mm : Str) (o : ME) (t : MA) : ME := fun l c => (o l c).bind fun x c1 => viaT tbl x c1 fun g fs => match fs.lookup mm with
  | none => (t l c1).bind fun xs c2 => g (x :: xs) c2
  | some _ => .stuck
theorem me_meth {tbl : Tbl} {pl : Sem Bool} (hT : ∀ q ∈ tbl, MthK X.prog X.w X.K X.mg X.base q.1 mm q.2 k) (hr : Room k X.A) (hgd : X.A.guards = some []) (tk : Takes X W) (ho : PE X o (rdE X.K W fo)) (ha : PA X (e :: es) (rdA X.K W ga))
    (hst : starEach (e :: es) X.env = (false, eval e X.env) :: starEach es X.env := by rfl) (hpl : (backTo pos (starEach es X.env)).any (·.1) = false := by rfl)
    (ht : eval (.Call (.Attribute o mm apos) (e :: es) [] pos) X.env = (do
      let ov ← eval o X.env
      standAt apos.atName
      let (f, first) ← holding [ov] (getMethod ov mm pl)
      callWith pos f first (backTo pos (starEach (e :: es) X.env)) (backToKw pos (keywordEach [] X.env))) := by rfl) :
    PE X (.Call (.Attribute o mm apos) (e :: es) [] pos) (rdE X.K W (mMeth tbl mm fo ga)) := by
  refine ⟨fun pins s σ H Q J ⟨I, m, l, c, R, L, A⟩ => ?_⟩
  refine PySem.W.methodCall_KW (pl := pl) (thn (ho.run pins s σ H _ J ⟨I, m, l, c, R, L, After.bind (rep := rD X.K) A⟩) fun u s1 ⟨v, H1, J1, rv, I1, m1, c1, d1, E1, R1, p1, A1⟩ => ?_) ht
  obtain ⟨a, C, dx, vs, n, fs, g, rfl, h1, h2, h3, h4, A2⟩ := via_read R1 p1 A1
  obtain rfl : u = Value.ref a := rv
  obtain ⟨C', f', fd, ps, k1, k2, k3, F, hb⟩ := (hT _ h4).ex
  cases h1.one k1
  cases z : fs.lookup mm with
  | some d => rw [z] at A2; exact A2.elim
  | none =>
    rw [z] at A2
    refine getmeth_ok J1 h2 k2 k3 (h3.lookN z) ?_
    refine PySem.W.callWith_K (first := [.ref a]) (h₀ := X.base) J.ok.mod.kin k3.kp (thn (ha.run pos pins s1 σ H1 _ J1 ⟨I1, m1, l, c1, R1, L.ext E1, After.bind (rep := rA X.K) A2⟩) fun us s2 ⟨ws, H2, J2, r, I2, m2, c2, ds, E2, R2, p2, A3⟩ => ⟨J2.kIn, ?_⟩) hst hpl
    exact run_g (us := .ref a :: us) (vs := .ref a :: ws) F hr hgd hb tk J2 (.cons rfl r) R2 (.cons (Rep.ext p1 E2) p2) A3
theorem me_meth0 {tbl : Tbl} {pl : Sem Bool} (hT : ∀ q ∈ tbl, MthK X.prog X.w X.K X.mg X.base q.1 mm q.2 k) (hr : Room k X.A) (hgd : X.A.guards = some []) (tk : Takes X W) (ho : PE X o (rdE X.K W fo))
    (ht : eval (.Call (.Attribute o mm apos) [] [] pos) X.env = (do
      let ov ← eval o X.env
      standAt apos.atName
      let (f, first) ← holding [ov] (getMethod ov mm pl)
      callWith pos f first (backTo pos (starEach [] X.env)) (backToKw pos (keywordEach [] X.env))) := by rfl) :
    PE X (.Call (.Attribute o mm apos) [] [] pos) (rdE X.K W (mMeth tbl mm fo aNil)) := by
  refine ⟨fun pins s σ H Q J ⟨I, m, l, c, R, L, A⟩ => ?_⟩
  refine PySem.W.methodCall_KW (pl := pl) (thn (ho.run pins s σ H _ J ⟨I, m, l, c, R, L, After.bind (rep := rD X.K) A⟩) fun u s1 ⟨v, H1, J1, rv, I1, m1, c1, d1, E1, R1, p1, A1⟩ => ?_) ht
  obtain ⟨a, C, dx, vs, n, fs, g, rfl, h1, h2, h3, h4, A2⟩ := via_read R1 p1 A1
  obtain rfl : u = Value.ref a := rv
  obtain ⟨C', f', fd, ps, k1, k2, k3, F, hb⟩ := (hT _ h4).ex
  cases h1.one k1
  cases z : fs.lookup mm with
  | some d => rw [z] at A2; exact A2.elim
  | none =>
    rw [z] at A2
    refine getmeth_ok J1 h2 k2 k3 (h3.lookN z) ?_
    exact PySem.W.callWith_K0 (first := [.ref a]) J1.kIn k3.kp (run_g (us := [.ref a]) (vs := [.ref a]) F hr hgd hb tk J1 (.cons rfl .nil) R1 (.cons p1 .nil) A2)

/-! ### properties -/
structure PrpK (P : Program) (w : World) (K : PySem.W.Frag) (mg : Str → Option Value) (base : Heap) (n f : Str) (g : List D → Cs → R D) (k : Nat) : Prop where
  ex : ∃ (C p ga : Addr) (fd : FuncData) (ps : List Str), NamV K n (.ref C) ∧ Cls K C ∧ PropOf K C f p ga ∧ GFn P w K mg base k ga fd ps g ∧ Binds K fd ps []
def mProp (tbl : Tbl) (o : ME) : ME := fun l c => (o l c).bind fun x c1 => viaT tbl x c1 fun g _ => (g [x] c1).nox
theorem me_prop {tbl : Tbl} (hT : ∀ q ∈ tbl, PrpK X.prog X.w X.K X.mg X.base q.1 f q.2 k) (hr : Room (k + 1) X.A) (hgd : X.A.guards = some []) (ho : PE X o (rdE X.K W fo)) (hb : attributeBase o f X.env (eval o X.env) = eval o X.env := by rfl) :
    PE X (.Attribute o f pos) (rdE X.K W (mProp tbl fo)) := by
  refine ⟨fun pins s σ H Q J ⟨I, m, l, c, R, L, A⟩ => ?_⟩
  refine attr_of hb (thn (ho.run pins s σ H _ J ⟨I, m, l, c, R, L, After.bind (rep := rD X.K) A⟩) fun u s1 ⟨v, H1, J1, rv, I1, m1, c1, d1, E1, R1, p1, A1⟩ => ?_)
  obtain ⟨a, C, dx, vs, n, fs, g, rfl, h1, h2, h3, h4, A2⟩ := via_read R1 p1 A1
  obtain rfl : u = Value.ref a := rv
  obtain ⟨C', p, ga, fd, ps, k1, cl, hp, F, hbi⟩ := (hT _ h4).ex
  cases h1.one k1
  obtain ⟨mA, O, _, _, _, _⟩ := ins_get J1.hok h2
  obtain ⟨od, JJ, _⟩ := O.look
  obtain ⟨rest, hrec⟩ := hp.rec_
  have I1' := J1.tok (s1.toks + 1)
  have A3 : After (rD X.K) X.K I1 m1 H1 (fun _ _ _ => False) Q (g [d1] c1) := After.nox A2
  have hl : [Value.ref a].length = ps.length := F.len _ _ (after_nonstuck A3)
  have hc : (PySem.W.clsIn X.K C).isSome = true := by
    obtain ⟨cd, hc, _⟩ := PySem.W.any_some cl.hd
    rw [hc]
    rfl
  refine PySem.W.get_bind J1.kIn JJ (PySem.W.plainGet_of (cl.get f)).1 (PySem.W.findObj_data hc hp.at_ hp.get hp.tak) (PySem.W.plainGet_of (cl.get f)).2 (wpAny_call (PySem.W.prop_get (s := { s1 with toks := s1.toks + 1 }) J1.kIn hrec ?_))
  have hb2 := hbi { s1 with toks := s1.toks + 1 } [.ref a] J1.kIn (by rw [List.append_nil]; exact hl)
  rw [List.append_nil] at hb2
  refine codeAny_mono (F.run X.A.in1 X.stack { s1 with toks := s1.toks + 1 } H1 ⟨[.ref a], []⟩ [.ref a] [.ref a] Q (fun _ _ _ => False) I1 m1 c1 [d1] hr.in1 hgd I1'.env0.in1 hb2 (.cons rfl .nil) R1 (.cons p1 .nil) A3) fun r s' hq => ?_
  cases r with
  | error er =>
    obtain ⟨_, _, _, _, _, _, _, _, _, _, _, _, z⟩ := hq
    exact z.elim
  | ok fl =>
    cases fl with
    | ret u =>
      obtain ⟨v, H', I3, rv, q3⟩ := I1'.after hq
      show wpAny _ _ (handedOut u) _ _ _
      rw [PySem.W.handedOut_of (handed_of rv)]
      exact wpAny_pure ⟨v, H', I3, rv, q3⟩
    | next => exact False.elim hq
    | brk => exact False.elim hq
    | cont => exact False.elim hq
end
end L2.Mi

/-! f-strings, dict cells, a written tuple's index -/
namespace L2.Mi
open PySem PySem.Spec PyProof.Rows L2
section
variable {X : Cx} {W : WX} {e o : Expr} {es : List Expr} {fa fo fi : ME} {pos p : Pos}
/-! ### f-strings -/
def fmtR (x : D) (c : Cs) : R D := match x with
  | .str y => if y.length ≤ sizeLine then .ok (.str y) c else .stuck
  | .int i => if i.natAbs.log2 < 1920 then .ok (.str (toString i)) c else .stuck
  | _ => .stuck
def mFmt (a : ME) : ME := fun l c => (a l c).bind fun x c1 => fmtR x c1
theorem me_fmt (ha : PE X e (rdE X.K W fa)) : PE X (.FormattedValue e (-1) none pos) (rdE X.K W (mFmt fa)) :=
  PEi (pe_fmt ha) fun σ H Q ⟨I, m, l, c, R, L, A⟩ => ⟨I, m, l, c, R, L, After.mono (After.bind (rep := rD X.K) A) fun v1 H1 ⟨I1, m1, c1, d1, E1, R1, p1, A1⟩ => by
    cases p1 with
    | str y =>
      have A1 : After (rD X.K) X.K I1 m1 H1 (fun cls dd H' => W cls dd σ H') Q (if y.length ≤ sizeLine then .ok (.str y) c1 else .stuck) := A1
      by_cases h : y.length ≤ sizeLine
      · rw [if_pos h] at A1; exact .inl ⟨y, rfl, h, A1.here R1 (.str y)⟩
      · rw [if_neg h] at A1; exact A1.elim
    | int i =>
      have A1 : After (rD X.K) X.K I1 m1 H1 (fun cls dd H' => W cls dd σ H') Q (if i.natAbs.log2 < 1920 then .ok (.str (toString i)) c1 else .stuck) := A1
      by_cases h : i.natAbs.log2 < 1920
      · rw [if_pos h] at A1; exact .inr ⟨i, rfl, h, A1.here R1 (.str _)⟩
      · rw [if_neg h] at A1; exact A1.elim
    | _ => exact A1.elim⟩
def jsR : List ME → Str → Ls → Cs → R D
  | [], acc, _, c => .ok (.str acc) c
  | p :: ps, acc, l, c => (p l c).bind fun x c1 => match x with
    | .str y => if (acc ++ y).length ≤ sizeLine then jsR ps (acc ++ y) l c1 else .stuck
    | _ => .stuck
inductive PJM (X : Cx) (W : WX) : List Expr → List ME → Prop where
  | nil : PJM X W [] []
  | cons {e : Expr} {f : ME} {es : List Expr} {fs : List ME} (h : PE X e (rdE X.K W f)) (r : PJM X W es fs) : PJM X W (e :: es) (f :: fs)
theorem PJM.pj {es : List Expr} {fs : List ME} (h : PJM X W es fs) : PJ X es (fs.map fun f => rdE X.K W f) := by
  induction h with
  | nil => exact .nil
  | cons h _ ih => exact .cons h ih
theorem js_read {σ : St} {Q : VK} : ∀ (fs : List ME) (acc : Str) (H I : Hp) (m : List Addr) (l : Ls) (c : Cs), Rel X.K I H m c → Locs X.K I m σ l → After (rD X.K) X.K I m H (fun cls dd H' => W cls dd σ H') Q (jsR fs acc l c) →
    tJs (fs.map fun f => rdE X.K W f) acc σ H fun out H1 => Q (.str out) H1
  | [], acc, H, I, m, l, c, R, L, A => A.here R (.str acc)
  | f :: fs, acc, H, I, m, l, c, R, L, A => ⟨I, m, l, c, R, L, After.mono (After.bind (rep := rD X.K) A) fun v1 H1 ⟨I1, m1, c1, d1, E1, R1, p1, A1⟩ => by
    cases p1 with
    | str y =>
      have A1 : After (rD X.K) X.K I1 m1 H1 (fun cls dd H' => W cls dd σ H') Q (if (acc ++ y).length ≤ sizeLine then jsR fs (acc ++ y) l c1 else .stuck) := A1
      by_cases h : (acc ++ y).length ≤ sizeLine
      · rw [if_pos h] at A1; exact ⟨y, rfl, h, js_read fs (acc ++ y) H1 I1 m1 l c1 R1 (L.ext E1) A1⟩
      · rw [if_neg h] at A1; exact A1.elim
    | _ => exact A1.elim⟩
def mJs (ps : List ME) : ME := fun l c => jsR ps Str.empty l c
theorem me_js {v1 v2 : Expr} {rest : List Expr} {fs : List ME} (h : PJM X W (v1 :: v2 :: rest) fs) : PE X (.JoinedStr (v1 :: v2 :: rest) pos) (rdE X.K W (mJs fs)) :=
  PEi (pe_joined h.pj) fun σ H Q ⟨I, m, l, c, R, L, A⟩ => js_read fs Str.empty H I m l c R L A
theorem me_js1 {f : ME} (h : PE X e (rdE X.K W f)) : PE X (.JoinedStr [e] pos) (rdE X.K W f) := pe_joined1 h

/-! ### index of a text in a written tuple of texts -/
structure TupC (K : PySem.W.Frag) (mg : Str → Option Value) (x : Str) (ys : List Str) : Prop where
  ex : ∃ (a : Addr) (n : Nat) (its : Array Value) (sl : Array (Option Value)), mg x = some (.ref a) ∧ K.lookup a = some ⟨.type "tuple", none, .seq its n, sl⟩ ∧ Vals (ys.map V.str) its.toList ∧ its.size ≤ sizeLine
def idxS (z : Str) : List Str → Option Nat
  | [] => none
  | y :: ys => if y = z then some 0 else (idxS z ys).map (· + 1)
theorem idxS_spec {z : Str} : ∀ {ys : List Str} {j : Nat}, idxS z ys = some j → ys[j]? = some z ∧ ∀ m, m < j → ys[m]? ≠ some z
  | [], _, h => by cases h
  | y :: ys, j, h => by
    unfold idxS at h
    by_cases e : y = z
    · rw [if_pos e] at h; cases h; exact ⟨by simp [e], fun m hm => absurd hm (Nat.not_lt_zero m)⟩
    · rw [if_neg e] at h
      obtain ⟨k, hk, rfl⟩ := Option.map_eq_some_iff.mp h
      obtain ⟨h1, h2⟩ := idxS_spec hk
      refine ⟨by simpa using h1, fun m hm => ?_⟩
      cases m with
      | zero => simpa using e
      | succ m => simpa using h2 m (by omega)
def ixcR (ys : List Str) (x : D) (c : Cs) : R D := match x with
  | .str z => match idxS z ys with
    | some j => .ok (.int (j : Nat)) c
    | none => .stuck
  | _ => .stuck
def mIxC (ys : List Str) (a : ME) : ME := fun l c => (a l c).bind fun x c1 => ixcR ys x c1
theorem me_ixc {x : Str} {ys : List Str} {p1 p2 cpos : Pos} (T : TupC X.K X.mg x ys) (hg : Gl X x) (ha : PE X e (rdE X.K W fa)) (hd : (x == ("__debug__" : Str)) = false := by decide)
    (hbase : attributeBase (.Name x p1) "index" X.env (eval (.Name x p1) X.env) = eval (.Name x p1) X.env := by rfl)
    (hfew : ((backTo cpos (starEach [e] X.env)).all (fun x => !x.1) && (backToKw cpos (keywordEach [] X.env)).all (fun x => x.1.isSome) && decide ([e].length + ([] : List Keyword).length + (if ([] : List Keyword).isEmpty then 0 else 1) < 30)) = true := by rfl)
    (hline : (p2.endLine == cpos.line) = true := by rfl) (hs : starEach [e] X.env = (false, eval e X.env) :: starEach [] X.env := by rfl) (hplain : (backTo cpos (starEach [] X.env)).any (·.1) = false := by rfl) :
    PE X (.Call (.Attribute (.Name x p1) "index" p2) [e] [] cpos) (rdE X.K W (mIxC ys fa)) := by
  obtain ⟨a, n, its, sl, hm, hl, hv, hz⟩ := T.ex
  refine PEi (pe_bm PySem.F.plainAttrs_tuple PySem.F.slot_tuple_index PySem.F.type_tuple_index mt_tup_index (pe_glob (v := .ref a) hg hm rfl hd) (pa_cons ha pa_nil hs) hbase hfew hline hs hplain) fun σ H Q ⟨I, m, l, c, R, L, A⟩ => ?_
  refine ⟨.inr (.inl ⟨rfl, _, hl, rfl, rfl⟩), I, m, l, c, R, L, After.mono (After.bind (rep := rD X.K) A) fun v1 H1 ⟨I1, m1, c1, d1, E1, R1, p1, A1⟩ => ?_⟩
  cases p1 with
  | str z =>
    have A1 : After (rD X.K) X.K I1 m1 H1 (fun cls dd H' => W cls dd σ H') Q (match idxS z ys with
      | some j => .ok (.int (j : Nat)) c1
      | none => .stuck) := A1
    cases q : idxS z ys with
    | none => rw [q] at A1; exact A1.elim
    | some j =>
      rw [q] at A1
      obtain ⟨h1, h2⟩ := idxS_spec q
      exact ⟨a, ys, z, j, rfl, rfl, .inr ⟨_, its, n, hl, rfl, rfl, hz, hv⟩, h1, h2, A1.here R1 (.int _)⟩
  | _ => exact A1.elim

/-! ### dicts as cells -/
theorem Rel.adoptC {K : PySem.W.Frag} {I H : Hp} {m : List Addr} {c : Cs} (r : Rel K I H m c) {p : Addr} (hm : p ∉ m) (hI : I p = none) (ho : ∀ x, H p ≠ some (.own x)) {x : Cell} (q : CellAt K I H (m ++ [p]) p x) : Rel K I H (m ++ [p]) (c ++ [x]) := by
  have hp := pre_app m p
  refine ⟨r.same, by simp [r.len], fun i j a h1 h2 => ?_, fun k a x h1 h2 => ?_⟩
  · rcases Nat.lt_or_ge i m.length with hi | hi
    · rcases Nat.lt_or_ge j m.length with hj | hj
      · rw [List.getElem?_append_left hi] at h1
        rw [List.getElem?_append_left hj] at h2
        exact r.nd i j a h1 h2
      · rw [List.getElem?_append_left hi] at h1
        rw [List.getElem?_append_right hj] at h2
        have e : a = p := by
          cases z : j - m.length with
          | zero => rw [z] at h2; simpa using h2.symm
          | succ n => rw [z] at h2; simp at h2
        exact absurd (List.mem_of_getElem? h1) (e ▸ hm)
    · rcases Nat.lt_or_ge j m.length with hj | hj
      · rw [List.getElem?_append_left hj] at h2
        rw [List.getElem?_append_right hi] at h1
        have e : a = p := by
          cases z : i - m.length with
          | zero => rw [z] at h1; simpa using h1.symm
          | succ n => rw [z] at h1; simp at h1
        exact absurd (List.mem_of_getElem? h2) (e ▸ hm)
      · have hi' := (List.getElem?_eq_some_iff.mp h1).1
        have hj' := (List.getElem?_eq_some_iff.mp h2).1
        simp at hi' hj'
        omega
  · rcases Nat.lt_or_ge k m.length with hk | hk
    · rw [List.getElem?_append_left hk] at h1
      rw [List.getElem?_append_left (by rw [← r.len]; exact hk)] at h2
      have q := r.cell k a x h1 h2
      cases x with
      | lst es =>
        obtain ⟨q1, ws, q2, q3⟩ := q
        exact ⟨q1, ws, q2, q3.mono (Same.refl I) hp⟩
      | dct es =>
        obtain ⟨q1, ws, q2, q3⟩ := q
        exact ⟨q1, ws, q2, q3.mono (Same.refl I) hp⟩
      | ins C es =>
        obtain ⟨q1, dx, ws, q2, q3, q4, q5, q6⟩ := q
        exact ⟨q1, dx, ws, q2, fun z => by
          rcases List.mem_append.mp z with z | z
          · exact q3 z
          · simp only [List.mem_singleton] at z
            exact ho _ (z ▸ q4), q4, q5, q6.mono (Same.refl I) hp⟩
      | frz d => exact ⟨q.1, q.2.mono (Same.refl I) hp⟩
    · have hk' := (List.getElem?_eq_some_iff.mp h1).1
      simp at hk'
      have e : k = m.length := by omega
      subst e
      rw [List.getElem?_append_right (Nat.le_refl _)] at h1
      rw [r.len, List.getElem?_append_right (Nat.le_refl _)] at h2
      simp at h1 h2
      subst h1; subst h2
      exact q
def mDictM0 : ME := fun _ c => .ok (.ref c.length) (c ++ [.dct []])
theorem me_dictM0 : PE X (.Dict [] [] pos) (rdE X.K W mDictM0) := PEi pe_dnewK fun σ H Q ⟨I, m, l, c, R, L, A⟩ => fun p np => by
  obtain ⟨R2, E2⟩ := R.pushC (o := .dK []) (x := .dct []) np ⟨R.same.free np, [], upd_same, .nil⟩
  refine A _ _ _ _ E2 R2 (.ref ?_)
  rw [← R.len, List.getElem?_append_right (Nat.le_refl _), Nat.sub_self]
  rfl
def mDictM1 (k : Key) (a : ME) : ME := fun l c => (a l c).bind fun d c1 => .ok (.ref c1.length) (c1 ++ [.dct [(k, d)]])
theorem me_dictM1 {s : Str} {j : Nat} {pk : Pos} (hv : PE X e (rdE X.K W fa)) : PE X (.Dict [some (.Constant (.str s) j pk)] [e] pos) (rdE X.K W (mDictM1 (.inr s) fa)) :=
  PEi (pe_disp (pps_cons pe_str hv pps_nil) rfl rfl (fun z => by cases z) (by show 1 ≤ 15; decide)) fun σ H Q ⟨I, m, l, c, R, L, A⟩ => by
    intro p np
    have nI := R.same.free np
    have nm := R.fresh np
    have E0 : Ext I m H I m (upd H p (.dK [])) := ⟨Same.refl I, Pre.refl m, fun b o h1 h2 h3 => ⟨by rw [upd_ne (ne_of_none h1 np)]; exact h1, h2, h3⟩⟩
    refine ⟨I, m, l, c, R.sideO (fun x z => by rw [np] at z; cases z) nI nm, L, After.mono (After.bindAt (rep := rD X.K) A E0) fun v H2 ⟨I2, m2, c2, d2, E2, R2, p2, A2⟩ => ?_⟩
    obtain ⟨f1, f2, f3⟩ := E2.fr p _ upd_same nI nm
    refine ⟨f1, [(Sum.inr s, v)], rfl, by show 1 ≤ 15; decide, ?_⟩
    have R3 : Rel X.K I2 (upd H2 p (.dK [(Sum.inr s, v)])) m2 c2 := R2.sideO (fun x z => by rw [f1] at z; cases z) f2 f3
    have p2 : Rep X.K I2 m2 v d2 := p2
    have R4 : Rel X.K I2 (upd H2 p (.dK [(Sum.inr s, v)])) (m2 ++ [p]) (c2 ++ [.dct [(Sum.inr s, d2)]]) := R3.adoptC f3 f2 (fun x z => by rw [upd_same] at z; cases z) ⟨f2, [(Sum.inr s, v)], upd_same, .cons (p2.mono (Same.refl _) (pre_app _ _)) .nil⟩
    refine A2 _ _ _ _ ⟨(E0.trans E2).same, (E0.trans E2).pre.trans (pre_app _ _), fun b o h1 h2 h3 => ?_⟩ R4 (.ref ?_)
    · obtain ⟨q1, q2, q3⟩ := (E0.trans E2).fr b o h1 h2 h3
      have nb : b ≠ p := ne_of_none h1 np
      refine ⟨by rw [upd_ne nb]; exact q1, q2, fun z => ?_⟩
      rcases List.mem_append.mp z with z | z
      · exact q3 z
      · simp only [List.mem_singleton] at z; exact nb z
    · rw [← R2.len, List.getElem?_append_right (Nat.le_refl _), Nat.sub_self]
      rfl
theorem RepK.any {K : PySem.W.Frag} {I : Hp} {m : List Addr} {k : Key} : ∀ {vs : List (Key × V)} {ds : List (Key × D)}, RepK K I m vs ds → (vs.any fun kv => decide (kv.1 = k)) = (ds.any fun kv => decide (kv.1 = k))
  | _, _, .nil => rfl
  | _, _, .cons _ t => by simp only [List.any_cons, RepK.any t]
def putKD (kvs : List (Key × D)) (k : Key) (d : D) : List (Key × D) :=
  if (kvs.any fun kv => decide (kv.1 = k)) = true then kvs.map (fun kv => if kv.1 = k then (kv.1, d) else kv) else kvs ++ [(k, d)]
theorem RepK.put {K : PySem.W.Frag} {I : Hp} {m : List Addr} {k : Key} {v : V} {d : D} (p : Rep K I m v d) {vs : List (Key × V)} {ds : List (Key × D)} (r : RepK K I m vs ds) : RepK K I m (putK vs k v) (putKD ds k d) := by
  have app : ∀ {vs : List (Key × V)} {ds : List (Key × D)}, RepK K I m vs ds → RepK K I m (vs ++ [(k, v)]) (ds ++ [(k, d)]) := by
    intro vs ds r
    induction vs generalizing ds with
    | nil => cases r; exact .cons p .nil
    | cons x vs ih => cases r with | cons h t => exact .cons h (ih t)
  have mp : ∀ {vs : List (Key × V)} {ds : List (Key × D)}, RepK K I m vs ds → RepK K I m (vs.map fun kv => if kv.1 = k then (kv.1, v) else kv) (ds.map fun kv => if kv.1 = k then (kv.1, d) else kv) := by
    intro vs ds r
    induction vs generalizing ds with
    | nil => cases r; exact .nil
    | cons x vs ih =>
      cases r with
      | @cons k' _ _ _ _ h t =>
        simp only [List.map_cons]
        by_cases e : k' = k
        · rw [if_pos e, if_pos e]; exact .cons p (ih t)
        · rw [if_neg e, if_neg e]; exact .cons h (ih t)
  unfold putK putKD
  rw [r.any]
  by_cases h : (ds.any fun kv => decide (kv.1 = k)) = true
  · rw [if_pos h, if_pos h]; exact mp r
  · rw [if_neg h, if_neg h]; exact app r
theorem RepK.length {K : PySem.W.Frag} {I : Hp} {m : List Addr} : ∀ {vs : List (Key × V)} {ds : List (Key × D)}, RepK K I m vs ds → vs.length = ds.length
  | _, _, .nil => rfl
  | _, _, .cons _ t => congrArg (· + 1) (RepK.length t)
theorem Rel.putD {K : PySem.W.Frag} {I H : Hp} {m : List Addr} {c : Cs} (r : Rel K I H m c) {k : Nat} {a : Addr} {vs : List (Key × V)} {ds ds0 : List (Key × D)} (hm : m[k]? = some a) (hc : c[k]? = some (.dct ds0)) (q : RepK K I m vs ds) : Rel K I (upd H a (.dK vs)) m (c.set k (.dct ds)) ∧ Ext I m H I m (upd H a (.dK vs)) := by
  obtain ⟨n1, ws, n2, n3⟩ := r.cell k a _ hm hc
  refine ⟨⟨fun b o e => ?_, by simp [r.len], r.nd, fun j b x h1 h2 => ?_⟩, Same.refl I, Pre.refl m, fun b o h1 h2 h3 => ⟨?_, h2, h3⟩⟩
  · rw [upd_ne (ne_of_none e n1)]
    exact r.same _ _ e
  · by_cases hj : k = j
    · subst hj
      rw [List.getElem?_set_self (List.getElem?_eq_some_iff.mp hc).1] at h2
      rw [hm] at h1
      cases h1; cases h2
      exact ⟨n1, vs, upd_same, q⟩
    · rw [List.getElem?_set_ne hj] at h2
      have nb : b ≠ a := fun e => hj (r.nd k j a hm (e ▸ h1))
      have q := r.cell j b x h1 h2
      cases x with
      | lst es =>
        obtain ⟨q1, ws, q2, q3⟩ := q
        exact ⟨q1, ws, by rw [upd_ne nb]; exact q2, q3⟩
      | dct es =>
        obtain ⟨q1, ws, q2, q3⟩ := q
        exact ⟨q1, ws, by rw [upd_ne nb]; exact q2, q3⟩
      | ins C es =>
        obtain ⟨q1, dx, ws, q2, q3, q4, q5, q6⟩ := q
        exact ⟨q1, dx, ws, q2, q3, by rw [upd_ne (ne_of q4 n2 (by intro z; cases z))]; exact q4, q5.imp fun _ z => ⟨z.1, by rw [upd_ne nb]; exact z.2⟩, q6⟩
      | frz d => exact q
  · rw [upd_ne (fun (e : b = a) => h3 (by rw [e]; exact List.mem_of_getElem? hm))]
    exact h1
/-- o['key'] = v at a dict's cell -/
def putDR (x y d : D) (c : Cs) : R Unit := match x, y with
  | .ref k, .str s => match c[k]? with
    | some (.dct kvs) => if kvs.length < 1000 then .ok () (c.set k (.dct (putKD kvs (.inr s) d))) else .stuck
    | _ => .stuck
  | _, _ => .stuck
def gSD (o i : ME) : MG := fun d l c => (o l c).bind fun x c1 => (i l c1).bind fun y c2 => (putDR x y d c2).bind fun _ c3 => .ok l c3
theorem mg_subD {tg : Expr} (h : PG X tg (gSub (rdE X.K W fo) (rdE X.K W fi) rSetD)) : PG X tg (rdG X.K W (gSD fo fi)) :=
  PGi h fun v σ H Q ⟨I, m, l, c, d, R, L, p, A⟩ => by
    refine ⟨I, m, l, c, R, L, After.mono (After.bind (rep := rD X.K) A) fun v1 H1 ⟨I1, m1, c1, d1, E1, R1, p1, A1⟩ => ?_⟩
    refine ⟨I1, m1, l, c1, R1, L.ext E1, After.mono (After.bind (rep := rD X.K) A1) fun v2 H2 ⟨I2, m2, c2, d2, E2, R2, p2, A2⟩ => ?_⟩
    have pd := Rep.ext (Rep.ext p E1) E2
    have L2 := (L.ext E1).ext E2
    have q1 := Rep.ext p1 E2
    cases q1 with
    | @ref k a hk =>
      cases p2 with
      | str s =>
        have A3 : After (rL X.K) X.K I2 m2 H2 (fun cls dd H' => W cls dd σ H') Q ((match c2[k]? with
          | some (.dct kvs) => if kvs.length < 1000 then .ok () (c2.set k (.dct (putKD kvs (.inr s) d))) else .stuck
          | _ => .stuck : Mi.R Unit).bind fun _ c3 => .ok l c3) := A2
        cases q : c2[k]? with
        | none => rw [q] at A3; exact A3.elim
        | some x =>
          rw [q] at A3
          cases x with
          | dct ds =>
            obtain ⟨n1, vs, h1, h2⟩ := R2.cell k a _ hk q
            have A4 : After (rL X.K) X.K I2 m2 H2 (fun cls dd H' => W cls dd σ H') Q ((if ds.length < 1000 then .ok () (c2.set k (.dct (putKD ds (.inr s) d))) else .stuck : Mi.R Unit).bind fun _ c3 => .ok l c3) := A3
            by_cases hz : ds.length < 1000
            · rw [if_pos hz] at A4
              refine ⟨a, _, rfl, DPut.k (k := .inr s) h1 (by rw [h2.length, sizeLine_eq]; omega), ?_⟩
              obtain ⟨R3, E3⟩ := R2.putD hk q (h2.put (k := .inr s) pd)
              exact A4 I2 m2 _ σ E3 R3 (L2.ext E3)
            · rw [if_neg hz] at A4; exact A4.elim
          | _ => exact A3.elim
      | _ => exact A2.elim
    | _ => exact A2.elim
end
end L2.Mi
namespace L2.Mi
open PySem PySem.Spec PyProof.Rows L2
/-! ### + of lists that stand in cells -/
def lstC (d : D) (c : Cs) : Option (List D) := match d with
  | .lst xs => some xs
  | .ref k => match c[k]? with
    | some (.lst xs) => some xs
    | some (.frz (.lst xs)) => some xs
    | _ => none
  | _ => none
theorem lstC_at {K : PySem.W.Frag} {I H : Hp} {m : List Addr} {c : Cs} {v : V} {d : D} {ds : List D} (R : Rel K I H m c) (p : Rep K I m v d) (h : lstC d c = some ds) : ∃ a vs, v = .ref a ∧ H a = some (.lst vs) ∧ Reps K I m vs ds := by
  cases p with
  | lst q r => cases h; exact ⟨_, _, rfl, R.same _ _ q, r⟩
  | @ref k a q =>
    have h : (match c[k]? with
      | some (.lst xs) => some xs
      | some (.frz (.lst xs)) => some xs
      | _ => none) = some ds := h
    cases e : c[k]? with
    | none => rw [e] at h; cases h
    | some x =>
      rw [e] at h
      have hc := R.cell k a x q e
      cases x with
      | lst xs => cases h; obtain ⟨_, vs, h1, h2⟩ := hc; exact ⟨a, vs, rfl, h1, h2⟩
      | frz d =>
        cases d with
        | lst xs =>
          cases h
          obtain ⟨_, hr⟩ := hc
          cases hr with
          | lst h1 h2 => exact ⟨a, _, rfl, R.same _ _ h1, h2⟩
        | _ => cases h
      | _ => cases h
  | _ => cases h
def addX (x y : D) (c : Cs) : R D := match lstC x c with
  | some a => match lstC y c with
    | some b => fits (a.length + b.length) (.ok (.lst (a ++ b)) c)
    | none => .stuck
  | none => addD x y c
theorem os_addX {K : PySem.W.Frag} : OpS K (rAddA K) addX := fun I H m c v1 v2 d1 d2 W Q R p1 p2 A => by
  unfold addX at A
  cases q : lstC d1 c with
  | none => rw [q] at A; exact os_add I H m c v1 v2 d1 d2 W Q R p1 p2 A
  | some a =>
    rw [q] at A
    have A : After (rD K) K I m H W Q (match lstC d2 c with
      | some b => fits (a.length + b.length) (.ok (.lst (a ++ b)) c)
      | none => .stuck) := A
    cases q2 : lstC d2 c with
    | none => rw [q2] at A; exact A.elim
    | some b =>
      rw [q2] at A
      obtain ⟨z, A⟩ := After.fits A
      obtain ⟨a1, vs1, rfl, h1, r1⟩ := lstC_at R p1 q
      obtain ⟨a2, vs2, rfl, h2, r2⟩ := lstC_at R p2 q2
      rw [← r1.length, ← r2.length] at z
      refine .inr (.inr (.inl ⟨_, _, _, _, rfl, rfl, h1, h2, z, fun p np => ?_⟩))
      exact A.new R np (.lst upd_same ((r1.append r2).mono (same_upd R.same np) (Pre.refl _)))

/-! ### words for the printed text -/
theorem names_of {X : Cx} {x : Str} (hg : Gl X x) (h : ∃ C, PySem.W.nsIn X.K mainGlobals x = some (some (.ref C))) (g : ∀ n C, PySem.W.nsIn X.K mainGlobals n = some (some (.ref C)) → X.mg n = some (.ref C)) (hd : (x == ("__debug__" : Str)) = false := by decide) :
    ∃ v, NamV X.K x v ∧ Names X x v := by
  obtain ⟨C, hC⟩ := h
  exact ⟨_, .inl hC, hg, hd, .inl (g _ _ hC)⟩
theorem all0 {α : Type} {P : α → Prop} : ∀ n ∈ ([] : List α), P n := fun _ h => absurd h List.not_mem_nil
theorem allc {α : Type} {P : α → Prop} {a : α} {l : List α} (h : P a) (t : ∀ n ∈ l, P n) : ∀ n ∈ a :: l, P n := fun n hn => by
  rcases List.mem_cons.mp hn with rfl | hn
  · exact h
  · exact t n hn
end L2.Mi
namespace L2.Mi
open PySem PySem.Spec PyProof.Rows L2
/-- a method's def, as it stands behind the top -/
def OwnF (K : PySem.W.Frag) (x qual : Str) (st : Stmt) (ps : List Str) (f : Addr) : Prop := ∃ fd, Fun K x qual st f fd ∧ Binds K fd ps []
end L2.Mi
namespace L2.Mi
open PySem PySem.Spec PyProof.Rows L2
theorem exm_mk {K : PySem.W.Frag} {cls : Value} {C : Addr} {b : Bool} (h1 : PySem.W.subIn K (.ref C) (.type "BaseException") = some true) (h2 : PySem.W.isClsIn K C = true) (h3 : PySem.W.typeIn K (.ref C) = some (.type "type")) (h4 : PySem.W.subIn K cls (.ref C) = some b) : PySem.W.exmOne K cls (.ref C) = some b := by
  unfold PySem.W.isClsIn at h2
  unfold PySem.W.exmOne PySem.W.kitCls
  rw [h1, if_pos (by rfl)]
  show (if ((PySem.W.clsIn K C).isSome && PySem.W.typeIn K (.ref C) == some (.type "type")) = true then PySem.W.subIn K cls (.ref C) else none) = some b
  rw [if_pos (by rw [h2, h3]; rfl), h4]
end L2.Mi

/-! walking whatever stands there: a tree, a text, a cell as it stands at each turn -/
namespace L2.Mi
open PySem PySem.Spec PyProof.Rows L2
abbrev Wk := Nat → Cs → Option (Option D)
abbrev MK := Ls → Cs → R Wk
def fixW (ds : List D) : Wk := fun i _ => some ds[i]?
def cellL (k : Nat) (c : Cs) : Option (List D) := match c[k]? with
  | some (.lst ds) => some ds
  | some (.frz (.lst ds)) => some ds
  | _ => none
def cellW (k : Nat) : Wk := fun i c => match cellL k c with
  | some ds => some ds[i]?
  | none => none
def WalksW (K : PySem.W.Frag) (I : Hp) (m : List Addr) (J : It) (w : Wk) : Prop := ∀ (i : Nat) (I' H : Hp) (m' : List Addr) (c : Cs), Same I I' → Pre m m' → Rel K I' H m' c →
  (∀ d, w i c = some (some d) → J.go i H ∧ ∀ x H', J.yld i H x H' → ∃ I'', Ext I' m' H I'' m' H' ∧ Rel K I'' H' m' c ∧ Rep K I'' m' x d) ∧ (w i c = some none → J.stop i H)
theorem WalksW.ext {K : PySem.W.Frag} {I I1 H H1 : Hp} {m m1 : List Addr} {J : It} {w : Wk} (h : WalksW K I m J w) (e : Ext I m H I1 m1 H1) : WalksW K I1 m1 J w := fun i I' H m' c s p => h i I' H m' c (e.same.trans s) (e.pre.trans p)
def rW (K : PySem.W.Frag) : Hp → List Addr → It → Wk → Prop := fun I m J w => WalksW K I m J w
def rdK (K : PySem.W.Frag) (W : WX) (f : MK) : TI := rd (rW K) K W f
theorem walks_fix {K : PySem.W.Frag} {I : Hp} {m : List Addr} {J : It} {ds : List D} (h : Walks K I m J ds) : WalksW K I m J (fixW ds) := fun i I' H m' c s p R => by
  obtain ⟨h1, h2⟩ := h i I' H m' c s p R
  refine ⟨fun d e => h1 d (Option.some.inj e), fun e => h2 (List.getElem?_eq_none_iff.mp (Option.some.inj e))⟩
/-- a list of items told beforehand -/
def kFix (it : MI) : MK := fun l c => (it l c).bind fun ds c1 => .ok (fixW ds) c1
theorem mk_fix {X : Cx} {W : WX} {tg it : Expr} {fi : MI} (h : PI X tg it (rdI X.K W fi)) : PI X tg it (rdK X.K W (kFix fi)) := PIi h fun σ H Q ⟨I, m, l, c, R, L, A⟩ =>
  ⟨I, m, l, c, R, L, After.mono (After.bind (rep := rI' X.K) A) fun J H1 ⟨I1, m1, c1, ds, E1, R1, w1, A1⟩ => A1.here R1 (walks_fix w1)⟩
theorem walks_cell {K : PySem.W.Frag} {I : Hp} {m : List Addr} {k : Nat} {a : Addr} (hk : m[k]? = some a) : WalksW K I m (Itl K a) (cellW k) := fun i I' H m' c s p R => by
  have hk' := p _ _ hk
  have one : ∀ ds, cellL k c = some ds → ∃ vs, SqL K H a vs ∧ Reps K I' m' vs ds := fun ds e => by
    unfold cellL at e
    cases q : c[k]? with
    | none => rw [q] at e; cases e
    | some x =>
      rw [q] at e
      have hc := R.cell k a x hk' q
      cases x with
      | lst xs => cases e; obtain ⟨_, vs, h1, h2⟩ := hc; exact ⟨vs, SqL.of h1, h2⟩
      | frz d =>
        cases d with
        | lst xs =>
          cases e
          obtain ⟨_, hr⟩ := hc
          cases hr with
          | lst h1 h2 => exact ⟨_, SqL.of (R.same _ _ h1), h2⟩
        | _ => cases e
      | _ => cases e
  unfold cellW
  cases q : cellL k c with
  | none => exact ⟨fun d e => by simp at e, fun e => by simp at e⟩
  | some ds =>
    obtain ⟨vs, hs, hr⟩ := one ds q
    refine ⟨fun d e => ?_, fun e => ⟨vs, hs, ?_⟩⟩
    · have e : ds[i]? = some d := Option.some.inj e
      obtain ⟨v, hv, pv⟩ := hr.get e
      refine ⟨⟨vs, v, hs, hv⟩, fun x H' y => ?_⟩
      obtain ⟨e2, y⟩ := y
      subst e2
      have ev : x = v := by
        have z := y vs hs
        rw [hv] at z
        exact (Option.some.inj z).symm
      subst ev
      exact ⟨I', Ext.refl _ _ _, R, pv⟩
    · have e : ds[i]? = none := Option.some.inj e
      rw [hr.length]
      exact List.getElem?_eq_none_iff.mp e
def wAny (x : D) (c : Cs) : R Wk := match x with
  | .lst ds => .ok (fixW ds) c
  | .ro ds => .ok (fixW ds) c
  | .tup ds => .ok (fixW ds) c
  | .str s => .ok (fixW (chrs s)) c
  | .ref k => match cellL k c with
    | some _ => .ok (cellW k) c
    | none => .stuck
  | _ => .stuck
def kAny (a : ME) : MK := fun l c => (a l c).bind fun x c1 => wAny x c1
def iSeq (K : PySem.W.Frag) (tl : TE) : TI := fun σ H R => tl σ H fun x H1 => (∃ a, x = .ref a ∧ (∃ xs, SqL K H1 a xs) ∧ R (Itl K a) H1) ∨ (∃ a, x = .ref a ∧ (∃ xs, SqT K H1 a xs) ∧ R (Itt K a) H1) ∨ ∃ y, x = .str y ∧ R (Its y) H1
theorem pi_seq {X : Cx} {tg l : Expr} {tl : TE} (hl : PE X l tl) : PI X tg l (iSeq X.K tl) := by
  refine ⟨fun pins s σ H R I h => ?_⟩
  refine thn (hl.run pins s σ H _ I h) fun v s1 ⟨x, H1, I1, r1, q1⟩ => ?_
  rcases q1 with ⟨a, e, ⟨xs, hq⟩, q⟩ | ⟨a, e, ⟨xs, hq⟩, q⟩ | ⟨y, e, q⟩
  · subst e
    cases r1
    obtain ⟨its, rv, p, hz⟩ := I1.list hq
    refine wpAny_pyIter_list p.isList ?_
    refine ⟨s1.heap.objs.size, [s1.heap.objs.size], _, _, H1, rfl, I1.kept (t' := s1.toks) fun b o e => Heap.get?_push_of_some _ e, turn_list a _, ⟨_, Heap.get?_push_size _ rfl, rfl, rfl⟩, fun b hb => ?_, q⟩
    have e : b = s1.heap.objs.size := by simpa using hb
    subst e
    exact I1.fpOk (Nat.le_refl _) (I1.hok.fresh (Nat.le_refl _))
  · subst e
    cases r1
    obtain ⟨its, rv, p, hz⟩ := I1.tuple hq
    refine wpAny_pyIter_tuple (show s1.heap.IsTuple a its.toArray from p) ?_
    refine ⟨s1.heap.objs.size, [s1.heap.objs.size], _, _, H1, rfl, I1.kept (t' := s1.toks) fun b o e => Heap.get?_push_of_some _ e, turn_tuple a _, ⟨_, Heap.get?_push_size _ rfl, rfl, rfl⟩, fun b hb => ?_, q⟩
    have e : b = s1.heap.objs.size := by simpa using hb
    subst e
    exact I1.fpOk (Nat.le_refl _) (I1.hok.fresh (Nat.le_refl _))
  · subst e
    obtain ⟨t, rfl⟩ := r1
    cases ha : y.cps.all (· < 128)
    · exact wpAny_pyIter_wide ha (pi_one (tk := s1.toks) I1 _ (turn_str _ y t "str_iterator" (.inr rfl)) ⟨_, Heap.get?_push_size _ rfl, rfl, rfl⟩ q)
    · exact wpAny_pyIter_ascii ha (pi_one (tk := s1.toks) I1 _ (turn_str _ y t "str_ascii_iterator" (.inl rfl)) ⟨_, Heap.get?_push_size _ rfl, rfl, rfl⟩ q)
theorem mk_any {X : Cx} {W : WX} {tg e : Expr} {fa : ME} (h : PE X e (rdE X.K W fa)) : PI X tg e (rdK X.K W (kAny fa)) := PIi (pi_seq h) fun σ H Q ⟨I, m, l, c, R, L, A⟩ =>
  ⟨I, m, l, c, R, L, After.mono (After.bind (rep := rD X.K) A) fun v1 H1 ⟨I1, m1, c1, d1, E1, R1, p1, A1⟩ => by
    cases p1 with
    | @lst a vs ds h r => exact .inl ⟨a, rfl, ⟨vs, SqL.of (R1.same _ _ h)⟩, A1.here R1 (walks_fix (walks_list (SqL.of h) r))⟩
    | @ro a vs ds h r => exact .inl ⟨a, rfl, ⟨vs, R1.same.seq h⟩, A1.here R1 (walks_fix (walks_list h r))⟩
    | @tup a vs ds h r => exact .inr (.inl ⟨a, rfl, ⟨vs, sqT_same R1.same h⟩, A1.here R1 (walks_fix (walks_tup h r))⟩)
    | str s => exact .inr (.inr ⟨s, rfl, A1.here R1 (walks_fix walks_str)⟩)
    | @ref k a hk =>
      have A2 : After (rW X.K) X.K I1 m1 H1 (fun cls dd H' => W cls dd σ H') Q (match cellL k c1 with
        | some _ => .ok (cellW k) c1
        | none => .stuck) := A1
      cases q : cellL k c1 with
      | none => rw [q] at A2; exact A2.elim
      | some ds =>
        rw [q] at A2
        refine .inl ⟨a, rfl, ?_, A2.here R1 (walks_cell hk)⟩
        have q0 := q
        unfold cellL at q
        cases z : c1[k]? with
        | none => rw [z] at q; cases q
        | some x =>
          rw [z] at q
          have hc := R1.cell k a x hk z
          cases x with
          | lst xs => obtain ⟨_, vs, h1, h2⟩ := hc; exact ⟨vs, SqL.of h1⟩
          | frz d =>
            cases d with
            | lst xs =>
              obtain ⟨_, hr⟩ := hc
              cases hr with
              | lst h1 h2 => exact ⟨_, SqL.of (R1.same _ _ h1)⟩
            | _ => cases q
          | _ => cases q
    | _ => exact A1.elim⟩

/-! ### for -/
def forW (g : MG) (f : MS) (w : Wk) : Nat → Nat → Ls → Cs → RS
  | 0, _, _, _ => .stuck
  | n + 1, i, l, c => match w i c with
    | none => .stuck
    | some none => .go (.nx l) c
    | some (some d) => (g d l c).seq l fun l1 c1 => match f l1 c1 with
      | .go (.nx l2) c2 => forW g f w n (i + 1) l2 c2
      | .go (.ct l2) c2 => forW g f w n (i + 1) l2 c2
      | .go (.bk l2) c2 => .go (.nx l2) c2
      | r => r
def fuelW : Nat := 20000000
def sForW (it : MK) (g : MG) (f : MS) : MS := fun l c => (it l c).seq l fun w c1 => forW g f w fuelW 0 l c1
theorem ms_forW {X : Cx} {W : WX} {tg iter : Expr} {body : List Stmt} {pos : Pos} {fi : MK} {g : MG} {f : MS} (hp : PassesOwn (model X.prog X.w) X.A X.env X.xe) (hc : X.calm = true) (hi : PI X tg iter (rdK X.K W fi)) (hg : PG X tg (rdG X.K W g)) (hb : PSs X body (rdS X.K W f))
    (hs : ∀ x, foldedSetIterable iter X.env x = pure x := by intro _; rfl) : PS X (.For tg iter body [] pos) (rdS X.K W (sForW fi g f)) := PSi (ps_for hp hc hi hg hb hs) fun D σ H ⟨I, m, l, c, R, L, A⟩ => by
  refine ⟨I, m, l, c, R, L, After.mono (AfterS.seq (rep := rW X.K) L A) fun J H1 ⟨I1, m1, c1, w, E1, R1, w1, A1⟩ => ?_⟩
  refine ⟨fun i n σ H => ∃ I' m' l' c', Ext I1 m1 H1 I' m' H ∧ Rel X.K I' H m' c' ∧ Locs X.K I' m' σ l' ∧ AfterS X.K I' m' H W D (forW g f w n i l' c'), ⟨_, I1, m1, l, c1, Ext.refl _ _ _, R1, L.ext E1, A1⟩, ?_⟩
  rintro i n σ' H' ⟨I', m', l', c', E', R', L', A'⟩
  obtain ⟨wg, ws⟩ := w1 i I' H' m' c' E'.same E'.pre R'
  cases n with
  | zero => exact A'.elim
  | succ n =>
    have A' : AfterS X.K I' m' H' W D (match w i c' with
      | none => .stuck
      | some none => .go (.nx l') c'
      | some (some d) => (g d l' c').seq l' fun l1 c1 => match f l1 c1 with
        | .go (.nx l2) c2 => forW g f w n (i + 1) l2 c2
        | .go (.ct l2) c2 => forW g f w n (i + 1) l2 c2
        | .go (.bk l2) c2 => .go (.nx l2) c2
        | r => r) := A'
    cases q : w i c' with
    | none => rw [q] at A'; exact A'.elim
    | some od =>
      rw [q] at A'
      cases od with
      | none => exact .inl ⟨ws q, A' I' m' H' σ' (Ext.refl _ _ _) R' L'⟩
      | some d =>
        obtain ⟨go, yl⟩ := wg d q
        refine .inr ⟨go, fun σ2 H2 => ∃ I2 m2 l2 c2, Ext I1 m1 H1 I2 m2 H2 ∧ Rel X.K I2 H2 m2 c2 ∧ Locs X.K I2 m2 σ2 l2 ∧ AfterS X.K I2 m2 H2 W D (forW g f w n (i + 1) l2 c2),
          fun σ2 H2 ⟨I2, m2, l2, c2, e2, r2, L2, a2⟩ => ⟨n, Nat.lt_succ_self n, I2, m2, l2, c2, e2, r2, L2, a2⟩, fun x H3 y => ?_⟩
        obtain ⟨I3, E3, R3, p3⟩ := yl x H3 y
        have A3 := AfterS.ext E3 A'
        refine ⟨I3, m', l', c', d, R3, L'.ext E3, p3, After.mono (AfterS.seq (rep := rL X.K) (L'.ext E3) A3) fun σ4 H4 ⟨I4, m4, c4, l4, E4, R4, L4, A4⟩ => ?_⟩
        refine ⟨I4, m4, l4, c4, R4, L4, ?_⟩
        have EE := (E'.trans E3).trans E4
        have A5 : AfterS X.K I4 m4 H4 W D (match f l4 c4 with
          | .go (.nx l2) c2 => forW g f w n (i + 1) l2 c2
          | .go (.ct l2) c2 => forW g f w n (i + 1) l2 c2
          | .go (.bk l2) c2 => .go (.nx l2) c2
          | r => r) := A4
        cases qf : f l4 c4 with
        | stuck => rw [qf] at A5; exact A5
        | exc x l' c' => rw [qf] at A5; exact A5
        | go fl c5 =>
          rw [qf] at A5
          cases fl with
          | nx l5 => exact fun I6 m6 H6 σ6 e6 r6 L6 => ⟨I6, m6, l5, c5, EE.trans e6, r6, L6, AfterS.ext e6 A5⟩
          | ct l5 => exact fun I6 m6 H6 σ6 e6 r6 L6 => ⟨I6, m6, l5, c5, EE.trans e6, r6, L6, AfterS.ext e6 A5⟩
          | bk l5 => exact A5
          | rt d => exact A5

/-! ### comprehensions -/
def compW (g : MG) (t : MT) (e : ME) (lw : Ls) (w : Wk) : Nat → Nat → List D → Cs → R (List D)
  | 0, _, _, _ => .stuck
  | n + 1, i, acc, c => match w i c with
    | none => .stuck
    | some none => .ok acc c
    | some (some d) => (g d lw c).nox.bind fun l1 c1 => (t l1 c1).nox.bind fun k c2 => match k with
      | true => (e l1 c2).nox.bind fun x c3 => if acc.length < sizeLine then compW g t e lw w n (i + 1) (acc ++ [x]) c3 else .stuck
      | false => compW g t e lw w n (i + 1) acc c2
def mLcW (it : MK) (js : List Nat) (g : MG) (t : MT) (e : ME) : ME := fun l c => (it l c).bind fun w c1 => (compW g t e (wipeL l js) w fuelW 0 [] c1).bind fun xs c2 => .ok (.lst xs) c2
theorem lc_readW {K : PySem.W.Frag} {W : WX} {fi : MK} {g : MG} {ft : MT} {fe : ME} {js : List Nat} {g0 : TG} (good : Good g0 js) (rg : ∀ v σ H Q, rdG K W0 g v σ H Q → g0 v σ H Q) {σ : St} {H : Hp} {Q : VK} (h : rdE K W (mLcW fi js g ft fe) σ H Q) :
    tLc (rdK K W fi) g0 (rdT K W0 ft) (rdE K W0 fe) js σ H Q := by
  obtain ⟨I, m, l, c, R, L, A⟩ := h
  refine ⟨I, m, l, c, R, L, After.mono (After.bind (rep := rW K) A) fun J H1 ⟨I1, m1, c1, w, E1, R1, w1, A1⟩ => ?_⟩
  intro Dn hD
  have nI := R1.same.free hD
  have nm := R1.fresh hD
  refine ⟨fun i n H => ∃ I' m' c' acc vs, Ext I1 m1 H1 I' m' H ∧ Rel K I' H m' c' ∧ Reps K I' m' vs acc ∧ H Dn = some (.lst vs) ∧ I' Dn = none ∧ Dn ∉ m' ∧
    After (rD K) K I1 m1 H1 (fun cls dd H' => W cls dd σ H') Q ((compW g ft fe (wipeL l js) w n i acc c').bind fun xs c2 => .ok (.lst xs) c2),
    ⟨_, I1, m1, c1, [], [], ⟨Same.refl _, Pre.refl _, fun b o h1 h2 h3 => ⟨by rw [upd_ne (ne_of_none h1 hD)]; exact h1, h2, h3⟩⟩, R1.side (vs := []) (.inl hD) nI nm, .nil, upd_same, nI, nm, A1⟩, ?_⟩
  rintro i n H' ⟨I', m', c', acc, vs, E', R', p', hH', hI', hm', A'⟩
  obtain ⟨wg, ws⟩ := w1 i I' H' m' c' E'.same E'.pre R'
  have asc : ∀ {α β γ : Type} (r : Mi.R α) (f : α → Cs → Mi.R β) (h : β → Cs → Mi.R γ), (r.bind f).bind h = r.bind fun a c => (f a c).bind h := fun r f h => by cases r <;> rfl
  cases n with
  | zero => exact A'.elim
  | succ n =>
    have A' : After (rD K) K I1 m1 H1 (fun cls dd H' => W cls dd σ H') Q ((match w i c' with
      | none => .stuck
      | some none => .ok acc c'
      | some (some d) => (g d (wipeL l js) c').nox.bind fun l1 c1 => (ft l1 c1).nox.bind fun k c2 => match k with
        | true => (fe l1 c2).nox.bind fun x c3 => if acc.length < sizeLine then compW g ft fe (wipeL l js) w n (i + 1) (acc ++ [x]) c3 else .stuck
        | false => compW g ft fe (wipeL l js) w n (i + 1) acc c2 : Mi.R (List D)).bind fun xs c2 => .ok (.lst xs) c2) := A'
    cases q : w i c' with
    | none => rw [q] at A'; exact A'.elim
    | some od =>
      rw [q] at A'
      cases od with
      | none =>
        refine .inl ⟨ws q, ?_⟩
        have sI : Same I' (upd I' Dn (.lst vs)) := fun b o e => by rw [upd_ne (ne_of_none e hI')]; exact e
        refine A' (upd I' Dn (.lst vs)) m' H' (.ref Dn) ⟨E'.same.trans sI, E'.pre, fun b o h1 h2 h3 => ?_⟩ (R'.adopt hH' hI' hm') (.lst upd_same (p'.mono sI (Pre.refl _)))
        obtain ⟨q1, q2, q3⟩ := E'.fr b o h1 h2 h3
        exact ⟨q1, by rw [upd_ne (ne_of_none h1 hD)]; exact q2, q3⟩
      | some d =>
        obtain ⟨go, yl⟩ := wg d q
        refine .inr ⟨go, fun H2 => ∃ I2 m2 c2 acc2 vs2, Ext I1 m1 H1 I2 m2 H2 ∧ Rel K I2 H2 m2 c2 ∧ Reps K I2 m2 vs2 acc2 ∧ H2 Dn = some (.lst vs2) ∧ I2 Dn = none ∧ Dn ∉ m2 ∧
          After (rD K) K I1 m1 H1 (fun cls dd H' => W cls dd σ H') Q ((compW g ft fe (wipeL l js) w n (i + 1) acc2 c2).bind fun xs c2 => .ok (.lst xs) c2),
          fun H2 ⟨I2, m2, c2, acc2, vs2, e2, r2, pp2, h2, i2, n2, a2⟩ => ⟨n, Nat.lt_succ_self n, I2, m2, c2, acc2, vs2, e2, r2, pp2, h2, i2, n2, a2⟩, fun x H3 y => ?_⟩
        obtain ⟨I3, E3, R3, p3⟩ := yl x H3 y
        have Lw := ((locs_wipe L js).ext E1).ext (E'.trans E3)
        have A3 : After (rD K) K I1 m1 H1 (fun cls dd H' => W cls dd σ H') Q (((g d (wipeL l js) c').nox.bind fun l1 c1 => (ft l1 c1).nox.bind fun k c2 => match k with
          | true => (fe l1 c2).nox.bind fun x c3 => if acc.length < sizeLine then compW g ft fe (wipeL l js) w n (i + 1) (acc ++ [x]) c3 else .stuck
          | false => compW g ft fe (wipeL l js) w n (i + 1) acc c2).bind fun xs c2 => .ok (.lst xs) c2) := A'
        rw [asc] at A3
        refine good x σ H3 _ (rg _ _ _ _ ⟨I3, m', wipeL l js, c', d, R3, Lw, p3, After.mono (After.nox (After.bindAt (rep := rL K) A3 (E'.trans E3))) fun σ4 H4 ⟨I4, m4, c4, l4, E4, R4, L4, A4⟩ => ?_⟩)
        rw [asc] at A4
        have EE := (E'.trans E3).trans E4
        refine ⟨I4, m4, l4, c4, R4, L4, After.mono (After.nox (After.bindAt (rep := rB) A4 EE)) fun b H5 ⟨I5, m5, c5, b5, E5, R5, p5, A5⟩ => ?_⟩
        cases (show b = b5 from p5)
        have F5 := (E3.trans E4).trans E5
        cases b with
        | false =>
          obtain ⟨f1, f2, f3⟩ := F5.fr _ _ hH' hI' hm'
          exact iteF ⟨I5, m5, c5, acc, vs, EE.trans E5, R5, p'.ext F5, f1, f2, f3, A5⟩
        | true =>
          have A6 : After (rD K) K I1 m1 H1 (fun cls dd H' => W cls dd σ H') Q (((fe l4 c5).nox.bind fun x c3 => if acc.length < sizeLine then compW g ft fe (wipeL l js) w n (i + 1) (acc ++ [x]) c3 else .stuck).bind fun xs c2 => .ok (.lst xs) c2) := A5
          rw [asc] at A6
          have L4' : Locs K I4 m4 σ4 l4 := L4
          refine iteT ⟨I5, m5, l4, c5, R5, L4'.ext E5, After.mono (After.nox (After.bindAt (rep := rD K) A6 (EE.trans E5))) fun z H7 ⟨I7, m7, c7, d7, E7, R7, p7, A7⟩ => ?_⟩
          have F7 := F5.trans E7
          obtain ⟨f1, f2, f3⟩ := F7.fr _ _ hH' hI' hm'
          by_cases hz : acc.length < sizeLine
          · have A8 : After (rD K) K I1 m1 H1 (fun cls dd H' => W cls dd σ H') Q ((if acc.length < sizeLine then compW g ft fe (wipeL l js) w n (i + 1) (acc ++ [d7]) c7 else .stuck).bind fun xs c2 => .ok (.lst xs) c2) := A7
            rw [if_pos hz] at A8
            refine ⟨vs, f1, by rw [p'.length]; exact hz, I7, m7, c7, acc ++ [d7], vs ++ [z], ?_, R7.side (.inr f1) f2 f3, (p'.ext F7).append (.cons p7 .nil), upd_same, f2, f3, A8⟩
            have G := (EE.trans E5).trans E7
            refine ⟨G.same, G.pre, fun b o h1 h2 h3 => ?_⟩
            obtain ⟨q1, q2, q3⟩ := G.fr b o h1 h2 h3
            exact ⟨by rw [upd_ne (ne_of_none h1 hD)]; exact q1, q2, q3⟩
          · have A8 : After (rD K) K I1 m1 H1 (fun cls dd H' => W cls dd σ H') Q ((if acc.length < sizeLine then compW g ft fe (wipeL l js) w n (i + 1) (acc ++ [d7]) c7 else .stuck).bind fun xs c2 => .ok (.lst xs) c2) := A7
            rw [if_neg hz] at A8
            exact A8.elim
end L2.Mi

/-! operations of own classes -/
namespace L2.Mi
open PySem PySem.Spec PyProof.Rows L2
/-- a special method of the class named n -/
structure SpcK (P : Program) (w : World) (K : PySem.W.Frag) (mg : Str → Option Value) (base : Heap) (n mm : Str) (g : List D → Cs → R D) (k : Nat) : Prop where
  ex : ∃ (C f : Addr) (fd : FuncData) (ps : List Str), NamV K n (.ref C) ∧ (PySem.W.findIn K (.ref C) mm = some (some (.ref f)) ∧ PySem.W.isFn K (.ref f) = true ∧ PySem.W.fnIn K f = true ∧ PySem.W.selfFirst K C = true) ∧ GFn P w K mg base k f fd ps g ∧ Binds K fd ps []
section
variable {X : Cx} {W : WX} {e o a b : Expr} {es : List Expr} {fa fb fo : ME} {ga : MA} {ns : List Str} {pos p : Pos} {k : Nat} {tbl : Tbl} {mm : Str} {g0 : D → D → Cs → R D}
/-- the callee runs at a place below the body -/
theorem run_gAt {A' : Around} {pins : List (Addr × Obj)} {σ : St} {H : Hp} {s : Shared} {Q : VK} {us : List Value} {vs : List V} {I : Hp} {m : List Addr} {c : Cs} {ds : List D} {f : Addr} {fd : FuncData} {ps : List Str} {g : List D → Cs → R D} (F : GFn X.prog X.w X.K X.mg X.base k f fd ps g) (hr : Room k A') (hgd : A'.guards = some [])
    (e0 : Env0 X.prog X.w X.K X.mg X.base A' X.stack s H) (hb : Binds X.K fd ps []) (tk : Takes X W) (J : Inv X pins σ H s) (r : Vals vs us) (R : Rel X.K I H m c) (p : Reps X.K I m vs ds) (a : After (rD X.K) X.K I m H (fun cls d H' => W cls d σ H') Q (g ds c)) :
    wpAny (model X.prog X.w) A' (call (.ref f) us) (EP X pins σ Q) X.xe s := by
  have hl : us.length = ps.length := by rw [← r.length, p.length]; exact F.len ds c (after_nonstuck a)
  have hb2 : BindsTo s fd ⟨us, []⟩ (ps.zip us) := by
    have z := hb s us J.kIn (by rw [List.append_nil]; exact hl)
    rw [List.append_nil] at z
    exact z
  refine wpAny_call (codeAny_mono (F.run A' X.stack s H ⟨us, []⟩ us vs Q (fun cls d H' => W cls d σ H') I m c ds hr hgd e0 hb2 r R p a) fun res s' hq => ?_)
  cases res with
  | error e => exact tk e s' (XE.of_call J (fun _ _ _ h => h) hq)
  | ok fl =>
    cases fl with
    | ret u => exact J.after hq
    | next => exact False.elim hq
    | brk => exact False.elim hq
    | cont => exact False.elim hq
/-- .. a special method's call, told of the instance -/
theorem spc_run {pins : List (Addr × Obj)} {σ : St} {H : Hp} {s : Shared} {Q : VK} {I : Hp} {m : List Addr} {c : Cs} {α : Type} {rep : Hp → List Addr → V → α → Prop} {v : V} {u : Value} {d : D} {r : (List D → Cs → R D) → Mi.R α} (hT : ∀ q ∈ tbl, SpcK X.prog X.w X.K X.mg X.base q.1 mm q.2 k)
    (J : Inv X pins σ H s) (R : Rel X.K I H m c) (pd : Rep X.K I m v d) (rv : RelV v u) (A : After rep X.K I m H (fun cls dd H' => W cls dd σ H') Q (viaT tbl d c fun g _ => r g)) :
    ∃ (a C f : Addr) (ox : Obj) (od : Obj) (g : List D → Cs → Mi.R D) (n : Str), u = .ref a ∧ v = .ref a ∧ NamV X.K n (.ref C) ∧ (∃ fs, insOf d c = some (n, fs)) ∧ PySem.W.InstAt s.heap a ox C (some od) ∧ ox.data = .plain ∧ (PySem.W.findIn X.K (.ref C) mm = some (some (.ref f)) ∧ PySem.W.isFn X.K (.ref f) = true ∧ PySem.W.fnIn X.K f = true ∧ PySem.W.selfFirst X.K C = true) ∧ After rep X.K I m H (fun cls dd H' => W cls dd σ H') Q (r g) ∧
      ∀ (A' : Around) (us : List Value) (vs : List V) (ds : List D) (Q2 : VK), Room k A' → A'.guards = some [] → Env0 X.prog X.w X.K X.mg X.base A' X.stack s H → Takes X W → Vals vs us → Reps X.K I m vs ds →
        After (rD X.K) X.K I m H (fun cls d H' => W cls d σ H') Q2 (g ds c) → wpAny (model X.prog X.w) A' (call (.ref f) us) (EP X pins σ Q2) X.xe s := by
  have A0 := A
  unfold viaT at A
  cases q : insOf d c with
  | none => rw [q] at A; exact A.elim
  | some nf =>
    obtain ⟨n, fs⟩ := nf
    rw [q] at A
    have A : After rep X.K I m H (fun cls dd H' => W cls dd σ H') Q (match tbl.lookup n with
      | some g => r g
      | none => .stuck) := A
    cases z : tbl.lookup n with
    | none => rw [z] at A; exact A.elim
    | some g =>
      rw [z] at A
      obtain ⟨a, C, dx, ws, rfl, h1, h2, h3⟩ := ins_at R pd q
      obtain rfl : u = Value.ref a := rv
      obtain ⟨C', f, fd, ps, k1, kk, F, hb⟩ := (hT _ (tbl_mem z)).ex
      cases h1.one k1
      obtain ⟨mA, O, _⟩ := ins_get J.hok h2
      obtain ⟨od, JJ, _⟩ := O.look
      exact ⟨a, C, f, _, od, g, n, rfl, rfl, h1, ⟨fs, rfl⟩, JJ, rfl, kk, A, fun A' us vs ds Q2 hr hgd e0 tk r p a2 => run_gAt F hr hgd e0 hb tk J r R p a2⟩
theorem fr_of {pins : List (Addr × Obj)} {σ : St} {H : Hp} {s : Shared} (J : Inv X pins σ H s) : ∃ m, Fr X.base X.env.locals s.heap m := J.fr
/-! ### two operands -/
def rX (K : PySem.W.Frag) (W : WX) (σ : St) (g : D → D → Cs → R D) (x y : V) (H : Hp) (Q : VK) : Prop := ∃ I m c d e, Rel K I H m c ∧ Rep K I m x d ∧ Rep K I m y e ∧ After (rD K) K I m H (fun cls dd H' => W cls dd σ H') Q (g d e c)
def OpX (X : Cx) (W : WX) (f : Value → Value → Sem Value) (g : D → D → Cs → R D) : Prop := ∀ (pins : List (Addr × Obj)) (s : Shared) (σ : St) (H : Hp) (x y : V) (v u : Value) (Q : VK), Inv X pins σ H s → RelV x v → RelV y u → rX X.K W σ g x y H Q →
  wpAny (model X.prog X.w) X.A (f v u) (EP X pins σ Q) X.xe s
theorem OpX.of {f : Value → Value → Sem Value} {r : R2} (ho : OpR X f r) (hs : OpS X.K r g0) : OpX X W f g0 := fun pins s σ H x y v u Q J rx ry ⟨I, m, c, d, e, R, p, q, A⟩ => ho pins s σ H x y v u Q J rx ry (hs _ _ _ _ _ _ _ _ _ _ R p q A)
theorem opX_read {σ : St} {H : Hp} {Q : VK} {K : PySem.W.Frag} (h : rdE K W (mOp g0 fa fb) σ H Q) : rdE K W fa σ H fun x H1 => rdE K W fb σ H1 fun y H2 => rX K W σ g0 x y H2 Q := by
  obtain ⟨I, m, l, c, R, L, A⟩ := h
  refine ⟨I, m, l, c, R, L, After.mono (After.bind (rep := rD K) A) fun v1 H1 ⟨I1, m1, c1, d1, E1, R1, p1, A1⟩ => ?_⟩
  refine ⟨I1, m1, l, c1, R1, L.ext E1, After.mono (After.bind (rep := rD K) A1) fun v2 H2 ⟨I2, m2, c2, d2, E2, R2, p2, A2⟩ => ?_⟩
  exact ⟨I2, m2, c2, d1, d2, R2, Rep.ext p1 E2, p2, A2⟩
theorem me_opX {op : Operator} (ho : OpX X W (binaryOp op) g0) (ha : PE X a (rdE X.K W fa)) (hb : PE X b (rdE X.K W fb)) : PE X (.BinOp a op b pos) (rdE X.K W (mOp g0 fa fb)) := by
  refine ⟨fun pins s σ H Q J h => ?_⟩
  exact wpAny_BinOp (binT ha hb J (opX_read h) fun v u s2 x y H2 I2 rx ry q => ho pins s2 σ H2 x y v u Q I2 rx ry q)
theorem me_cmpX {op : CmpOp} (ho : OpX X W (compareOp op) g0) (ha : PE X a (rdE X.K W fa)) (hb : PE X b (rdE X.K W fb)) (hm : behindInMarks op b = false) : PE X (.Compare a [op] [b] pos) (rdE X.K W (mOp g0 fa fb)) := by
  refine ⟨fun pins s σ H Q J h => ?_⟩
  exact wpAny_Compare1 (binT ha hb J (opX_read h) fun v u s2 x y H2 I2 rx ry q => ho pins s2 σ H2 x y v u Q I2 rx ry q) hm
theorem mt_cmpX {op : CmpOp} (ho : OpX X W (compareOp op) g0) (ha : PE X a (rdE X.K W fa)) (hb : PE X b (rdE X.K W fb)) (hm : behindInMarks op b = false) : PT X (.Compare a [op] [b] pos) (rdT X.K W (mT (mOp g0 fa fb))) := by
  refine ⟨fun pins s σ H Q J h => ?_⟩
  obtain ⟨I, m, l, c, R, L, A⟩ := h
  have h2 : rdE X.K W (mOp g0 fa fb) σ H fun x H' => ∃ k, x = .bl k ∧ Q k H' := ⟨I, m, l, c, R, L, After.mono (After.bind (rep := rD X.K) A) fun v1 H1 ⟨I1, m1, c1, d1, E1, R1, p1, A1⟩ => by
    cases p1 with
    | bl k => exact ⟨k, rfl, A1.here R1 rfl⟩
    | _ => exact A1.elim⟩
  refine wpAny_isTrue_Compare1 (binT ha hb J (opX_read h2) fun v u s2 x y H2 I2 rx ry q => thn (ho pins s2 σ H2 x y v u _ I2 rx ry q) fun c s3 ⟨z, H3, I3, r3, k, e, q3⟩ => ?_) hm
  subst e
  cases r3
  exact wpAny_truthy_bool ⟨H3, I3, q3⟩
/-- x in y, y perhaps an instance -/
def inI (tbl : Tbl) (neg : Bool) (g0 : D → D → Cs → R D) (x y : D) (c : Cs) : R D := match insOf y c with
  | some _ => (viaT tbl y c fun g _ => g [y, x] c).bind fun r c2 => match r with
    | .bl b => .ok (.bl (sgn neg b)) c2
    | _ => .stuck
  | none => g0 x y c
theorem ox_in {neg : Bool} (hT : ∀ q ∈ tbl, SpcK X.prog X.w X.K X.mg X.base q.1 "__contains__" q.2 k) (hr : Room k X.A) (hgd : X.A.guards = some []) (tk : Takes X W) (h0 : OpX X W (compareOp (if neg then .NotIn else .In)) g0) : OpX X W (compareOp (if neg then .NotIn else .In)) (inI tbl neg g0) :=
  fun pins s σ H x y v u Q J rx ry ⟨I, m, c, d, e, R, p, q, A⟩ => by
    unfold inI at A
    cases z : insOf e c with
    | none => rw [z] at A; exact h0 pins s σ H x y v u Q J rx ry ⟨I, m, c, d, e, R, p, q, A⟩
    | some nf =>
      rw [z] at A
      have A : After (rD X.K) X.K I m H (fun cls dd H' => W cls dd σ H') Q ((viaT tbl e c fun g _ => g [e, d] c).bind fun r c2 => match r with
        | .bl b => .ok (.bl (sgn neg b)) c2
        | _ => .stuck) := A
      obtain ⟨a, C, f, ox, od, g, n, rfl, rfl, _, _, JJ, _, kk, A2, run⟩ := spc_run hT J R q ry (After.bind (rep := rD X.K) A)
      obtain ⟨m0, F⟩ := J.fr
      have body : wpAny (model X.prog X.w) X.A (call (.ref f) [.ref a, v]) (fun r s' => wpAny (model X.prog X.w) X.A (truthy r) (fun b => EP X pins σ Q (.bool (sgn neg b))) X.xe s') X.xe s :=
        wpAny_mono (run X.A [.ref a, v] [.ref a, x] [e, d] _ hr hgd J.env0 tk (.cons rfl (.cons rx .nil)) (.cons q (.cons p .nil)) A2) (fun w s' ⟨z, H', J', rz, I1, m1, c1, d1, E1, R1, p1, A3⟩ => by
          cases p1 with
          | bl b =>
            cases (show w = Value.bool b from rz)
            exact wpAny_truthy_bool ⟨.bl (sgn neg b), H', J', rfl, A3.here R1 (.bl _)⟩
          | _ => exact A3.elim) fun _ _ z => z
      cases neg with
      | false => exact PySem.W.in_K F J.ok.mod.kin JJ kk.1 kk.2.1 body
      | true => exact PySem.W.notIn_K F J.ok.mod.kin JJ kk.1 kk.2.1 body
/-- x == y, x perhaps an instance -/
def eqTy (n : Str) (y : D) (c : Cs) : Bool := match insOf y c with
  | some (n2, _) => n2 == n
  | none => (tyD y c).isSome
def eqI (tbl : Tbl) (g0 : D → D → Cs → R D) (x y : D) (c : Cs) : R D := match insOf x c with
  | some (n, _) => if eqTy n y c = true then viaT tbl x c fun g _ => g [x, y] c else .stuck
  | none => g0 x y c
theorem ty_ins {y : V} {e : D} {n : Str} {fs : List (Str × D)} {I H : Hp} {m : List Addr} {c : Cs} {pins : List (Addr × Obj)} {σ : St} {s : Shared} {C : Addr} {u : Value} (J : Inv X pins σ H s) (R : Rel X.K I H m c) (q : Rep X.K I m y e) (ry : RelV y u) (hn : NamV X.K n (.ref C)) (z : insOf e c = some (n, fs)) : PySem.W.Looks (model X.prog X.w) s.heap (typeOf u) (.ref C) := by
  obtain ⟨a, C', dx, ws, rfl, h1, h2, h3⟩ := ins_at R q z
  obtain rfl : u = Value.ref a := ry
  cases h1.one hn
  obtain ⟨mA, O, _⟩ := ins_get J.hok h2
  obtain ⟨od, JJ, _⟩ := O.look
  exact JJ.type
theorem ty_looks {y : V} {e : D} {t : String} {I H : Hp} {m : List Addr} {c : Cs} {pins : List (Addr × Obj)} {σ : St} {s : Shared} {u : Value} (J : Inv X pins σ H s) (R : Rel X.K I H m c) (q : Rep X.K I m y e) (ry : RelV y u) (z : tyD e c = some t) : PySem.W.Looks (model X.prog X.w) s.heap (typeOf u) (.type t) := by
  obtain ⟨P, kk, hp, _⟩ := kit_of J ry (tyD_is R q z)
  exact kk.ty _ _ J.kIn hp
def EqT (K : PySem.W.Frag) (n : Str) : Prop := ∃ C, NamV K n (.ref C) ∧ ∀ t ∈ tyNames, PySem.W.notFirst K C (.type t) = true
theorem ox_eq (hT : ∀ q ∈ tbl, SpcK X.prog X.w X.K X.mg X.base q.1 "__eq__" q.2 k) (hE : ∀ q ∈ tbl, EqT X.K q.1) (hr : Room k X.A) (hgd : X.A.guards = some []) (tk : Takes X W) (h0 : OpX X W (compareOp .Eq) g0) : OpX X W (compareOp .Eq) (eqI tbl g0) :=
  fun pins s σ H x y v u Q J rx ry ⟨I, m, c, d, e, R, p, q, A⟩ => by
    unfold eqI at A
    cases z : insOf d c with
    | none => rw [z] at A; exact h0 pins s σ H x y v u Q J rx ry ⟨I, m, c, d, e, R, p, q, A⟩
    | some nf =>
      obtain ⟨n, fs⟩ := nf
      rw [z] at A
      have A : After (rD X.K) X.K I m H (fun cls dd H' => W cls dd σ H') Q (if eqTy n e c = true then viaT tbl d c fun g _ => g [d, e] c else .stuck) := A
      by_cases hq : eqTy n e c = true
      · rw [if_pos hq] at A
        have hmem : ∃ g, (n, g) ∈ tbl := by
          have A' := A
          unfold viaT at A'
          rw [z] at A'
          have A' : After (rD X.K) X.K I m H (fun cls dd H' => W cls dd σ H') Q (match tbl.lookup n with
            | some g => g [d, e] c
            | none => .stuck) := A'
          cases zz : tbl.lookup n with
          | none => rw [zz] at A'; exact A'.elim
          | some g => exact ⟨g, tbl_mem zz⟩
        obtain ⟨a, C, f, ox, od, g, n', rfl, rfl, hn, ⟨fs', hz'⟩, JJ, _, kk, A2, run⟩ := spc_run hT J R p rx A
        rw [z] at hz'
        cases hz'
        obtain ⟨g', hm⟩ := hmem
        obtain ⟨C', hn', ht⟩ := hE _ hm
        cases hn.one hn'
        obtain ⟨m0, F⟩ := J.fr
        have hty : ∃ tb, PySem.W.Looks (model X.prog X.w) s.heap (typeOf u) tb ∧ PySem.W.notFirst X.K C tb = true := by
          unfold eqTy at hq
          cases zy : insOf e c with
          | some nf2 =>
            obtain ⟨n2, fs2⟩ := nf2
            rw [zy] at hq
            have e2 : n2 = n := eq_of_beq hq
            subst e2
            exact ⟨.ref C, ty_ins J R q ry hn zy, by simp [PySem.W.notFirst]⟩
          | none =>
            rw [zy] at hq
            obtain ⟨t, e2⟩ := Option.isSome_iff_exists.mp hq
            exact ⟨.type t, ty_looks J R q ry e2, ht t (tyD_mem e2)⟩
        obtain ⟨tb, hl, hnf⟩ := hty
        show wpAny _ _ (richCompare .Eq _ _) _ _ _
        refine PySem.W.cmp_K (op := .Eq) (tb := tb) hr.units0 F J.ok.mod.kin JJ hl hnf kk.1 kk.2.1 ?_
        exact wpAny_mono (run X.A [.ref a, u] [.ref a, y] [d, e] Q hr hgd J.env0 tk (.cons rfl (.cons ry .nil)) (.cons p (.cons q .nil)) A2) (fun w s' ⟨z, H', J', rz, qz⟩ => SlX.cmpback rz ⟨z, H', J', rz, qz⟩) fun _ _ z => z
      · rw [if_neg hq] at A
        exact A.elim
/-- x + y, x perhaps an instance -/
def BinT (K : PySem.W.Frag) (n : Str) (op : Operator) : Prop := ∃ C, NamV K n (.ref C) ∧ (∃ rc, PySem.W.findIn K (.ref C) (PySem.dunderR op.info.2) = some rc ∧ (rc = none ∨ ∃ g : Addr, rc = some (.ref g))) ∧ ∀ t ∈ tyNames, (∃ fo ro, PySem.W.findIn K (.type t) (PySem.dunder op.info.2) = some fo ∧ PySem.W.findIn K (.type t) (PySem.dunderR op.info.2) = some ro) ∧ PySem.W.subIn K (.type t) (.ref C) = some false
theorem ksp_binL {prog : Program} {w : World} {A : Around} {E : Value → Shared → Prop} {s : Shared} {K : PySem.W.Frag} {x C L f : Addr} {h₀ : Heap} {m : Str → Option Value} {ox : Obj} {od : Option Obj} {T : String} {op : Operator} {b : Value} {fo ro rc : Option Value} {Q : Value → Shared → Prop} (F : Fr h₀ L s.heap m) (X₀ : K.In h₀) (I : PySem.W.InstAt s.heap x ox C od) (hb : PySem.W.Looks (model prog w) s.heap (typeOf b) (.type T)) (hc : PySem.W.selfFirst K C = true)
    (hs : PySem.W.findIn K (.ref C) (PySem.dunder op.info.2) = some (some (.ref f))) (hf : PySem.W.isFn K (.ref f) = true) (hr : PySem.W.findIn K (.ref C) (PySem.dunderR op.info.2) = some rc) (hp : rc = none ∨ ∃ g : Addr, rc = some (.ref g))
    (h1 : PySem.W.findIn K (.type T) (PySem.dunder op.info.2) = some fo) (h2 : PySem.W.findIn K (.type T) (PySem.dunderR op.info.2) = some ro) (hsub : PySem.W.subIn K (.type T) (.ref C) = some false)
    (h : wpAny (model prog w) A (call (.ref f) [.ref x, b]) (PySem.W.CmpBack Q) E s) : wpAny (model prog w) A (binaryOp op (.ref x) b) Q E s := by
  open PySem.W in
  have X := X₀.keeps F.keep
  obtain ⟨cd, rest, hcd, hm⟩ := PySem.W.ksp_first hc
  rcases hi : op.info with ⟨sym, nm'⟩
  rw [hi] at hs hr h1 h2
  dsimp only at hs hr h1 h2
  have one := PySem.W.ksp_try X I hs hf h
  obtain ⟨hh, g, d, tt, os⟩ := s
  have L1 : PySem.W.Looks (model prog w) hh (typeOf (.ref x)) (.ref C) := I.type
  have L2 : PySem.W.Looks (model prog w) hh (typeOf b) (.type T) := hb
  have L3 : PySem.W.Looks (model prog w) hh (fillsNumberSlot (.ref C) nm') true := PySem.W.fills_K X hcd hm hs
  have L4 : PySem.W.Looks (model prog w) hh (fillsNumberSlot (.type T) nm') ((fo.isSome && !isSeqSlot fo) || (ro.isSome && !isSeqSlot ro)) := PySem.W.ksp_fillsT X h1 h2
  have L5 : PySem.W.Looks (model prog w) hh (isSubtype (.type T) (.ref C)) false := PySem.W.looks_subIn X hsub
  have L6 : PySem.W.Looks (model prog w) hh (numberSlotInPython (.ref C) nm') true := PySem.W.ksp_inPy X hs hr hp
  have L7 : PySem.W.Looks (model prog w) hh (numberSlotInPython (.type T) nm') false := PySem.W.Looks.of_pure rfl
  have L8 : PySem.W.Looks (model prog w) hh (typeLookup (.type T) (PySem.dunderR nm')) ro := PySem.W.looks_findIn X h2
  generalize ((fo.isSome && !isSeqSlot fo) || (ro.isSome && !isSeqSlot ro)) = right at L4
  have hne : (Value.ref C == Value.type T) = false := Bool.eq_false_iff.mpr fun q => by cases beq_iff_eq.mp q
  simp only [binaryOp, hi]
  refine wpAny_holding (wpAny_bind ?_)
  unfold binaryOp1
  refine wpAny_bind (L1.at (wpAny_bind (L2.at (wpAny_bind (L3.at ?_)))))
  simp only [hne, Bool.false_eq_true, if_false]
  cases right with
  | false =>
    ksp_lk
    refine wpAny_mono one (fun r s' hr' => ?_) fun _ _ e => e
    obtain ⟨v, rfl, hq⟩ := hr'
    ksp_lk
    exact hq
  | true =>
    ksp_lk
    refine wpAny_mono one (fun r s' hr' => ?_) fun _ _ e => e
    obtain ⟨v, rfl, hq⟩ := hr'
    ksp_lk
    exact hq
theorem ox_bin {op : Operator} (hT : ∀ q ∈ tbl, SpcK X.prog X.w X.K X.mg X.base q.1 (PySem.dunder op.info.2) q.2 k) (hE : ∀ q ∈ tbl, BinT X.K q.1 op) (hr : Room k X.A) (hgd : X.A.guards = some []) (tk : Takes X W) (h0 : OpX X W (binaryOp op) g0) : OpX X W (binaryOp op) (eqI tbl g0) :=
  fun pins s σ H x y v u Q J rx ry ⟨I, m, c, d, e, R, p, q, A⟩ => by
    unfold eqI at A
    cases z : insOf d c with
    | none => rw [z] at A; exact h0 pins s σ H x y v u Q J rx ry ⟨I, m, c, d, e, R, p, q, A⟩
    | some nf =>
      obtain ⟨n, fs⟩ := nf
      rw [z] at A
      have A : After (rD X.K) X.K I m H (fun cls dd H' => W cls dd σ H') Q (if eqTy n e c = true then viaT tbl d c fun g _ => g [d, e] c else .stuck) := A
      by_cases hq : eqTy n e c = true
      · rw [if_pos hq] at A
        have hmem : ∃ g, (n, g) ∈ tbl := by
          have A' := A
          unfold viaT at A'
          rw [z] at A'
          have A' : After (rD X.K) X.K I m H (fun cls dd H' => W cls dd σ H') Q (match tbl.lookup n with
            | some g => g [d, e] c
            | none => .stuck) := A'
          cases zz : tbl.lookup n with
          | none => rw [zz] at A'; exact A'.elim
          | some g => exact ⟨g, tbl_mem zz⟩
        obtain ⟨a, C, f, ox, od, g, n', rfl, rfl, hn, ⟨fs', hz'⟩, JJ, _, kk, A2, run⟩ := spc_run hT J R p rx A
        rw [z] at hz'
        cases hz'
        obtain ⟨g', hm⟩ := hmem
        obtain ⟨C', hn', ⟨rc, hrc, hrp⟩, ht⟩ := hE _ hm
        cases hn.one hn'
        obtain ⟨m0, F⟩ := J.fr
        have body : wpAny (model X.prog X.w) X.A (call (.ref f) [.ref a, u]) (PySem.W.CmpBack (EP X pins σ Q)) X.xe s :=
          wpAny_mono (run X.A [.ref a, u] [.ref a, y] [d, e] Q hr hgd J.env0 tk (.cons rfl (.cons ry .nil)) (.cons p (.cons q .nil)) A2) (fun w s' ⟨z, H', J', rz, qz⟩ => SlX.cmpback rz ⟨z, H', J', rz, qz⟩) fun _ _ z => z
        unfold eqTy at hq
        cases zy : insOf e c with
        | some nf2 =>
          obtain ⟨n2, fs2⟩ := nf2
          rw [zy] at hq
          have e2 : n2 = n := eq_of_beq hq
          subst e2
          exact PySem.W.binop_K F J.ok.mod.kin JJ (ty_ins J R q ry hn zy) kk.2.2.2 kk.1 kk.2.1 body
        | none =>
          rw [zy] at hq
          obtain ⟨t, e2⟩ := Option.isSome_iff_exists.mp hq
          obtain ⟨⟨fo, ro, k1, k2⟩, k3⟩ := ht t (tyD_mem e2)
          exact ksp_binL F J.ok.mod.kin JJ (ty_looks J R q ry e2) kk.2.2.2 kk.1 kk.2.1 hrc hrp k1 k2 k3 body
      · rw [if_neg hq] at A
        exact A.elim
end
end L2.Mi

/-! lists and texts once more: *, join, count, and results that stand in cells -/
namespace L2.Mi
open PySem PySem.Spec PyProof.Rows L2
section
variable {K : PySem.W.Frag} {I H : Hp} {m : List Addr} {c : Cs}
theorem After.cell {W : XK} {Q : VK} {p : Addr} {vs : List V} {ds : List D} (A : After (rD K) K I m H W Q (.ok (.ref c.length) (c ++ [.lst ds]))) (R : Rel K I H m c) (np : H p = none) (r : Reps K I m vs ds) : Q (.ref p) (upd H p (.lst vs)) := by
  obtain ⟨R2, E2⟩ := R.push np r
  refine A _ _ _ _ E2 R2 (Rep.ref ?_)
  rw [← R.len, List.getElem?_append_right (Nat.le_refl _), Nat.sub_self]
  rfl
/-- a + b, the result a new cell -/
def addM (x y : D) (c : Cs) : R D := match lstC x c with
  | some a => match lstC y c with
    | some b => if a.length + b.length ≤ sizeLine then .ok (.ref c.length) (c ++ [.lst (a ++ b)]) else .stuck
    | none => .stuck
  | none => .stuck
theorem os_addM : OpS K (rAddA K) addM := fun I H m c v1 v2 d1 d2 W Q R p1 p2 A => by
  unfold addM at A
  cases q : lstC d1 c with
  | none => rw [q] at A; exact A.elim
  | some a =>
    rw [q] at A
    have A : After (rD K) K I m H W Q (match lstC d2 c with
      | some b => if a.length + b.length ≤ sizeLine then .ok (.ref c.length) (c ++ [.lst (a ++ b)]) else .stuck
      | none => .stuck) := A
    cases q2 : lstC d2 c with
    | none => rw [q2] at A; exact A.elim
    | some b =>
      rw [q2] at A
      have A : After (rD K) K I m H W Q (if a.length + b.length ≤ sizeLine then .ok (.ref c.length) (c ++ [.lst (a ++ b)]) else .stuck) := A
      by_cases z : a.length + b.length ≤ sizeLine
      · rw [if_pos z] at A
        obtain ⟨a1, vs1, rfl, h1, r1⟩ := lstC_at R p1 q
        obtain ⟨a2, vs2, rfl, h2, r2⟩ := lstC_at R p2 q2
        rw [← r1.length, ← r2.length] at z
        exact .inr (.inr (.inl ⟨_, _, _, _, rfl, rfl, h1, h2, z, fun p np => A.cell R np (r1.append r2)⟩))
      · rw [if_neg z] at A; exact A.elim
/-! ### * -/
def repL {α : Type} (xs : List α) (k : Int) : List α := (List.replicate k.toNat xs).flatten
theorem Reps.rep {vs : List V} {ds : List D} (r : Reps K I m vs ds) : ∀ n : Nat, Reps K I m (List.replicate n vs).flatten (List.replicate n ds).flatten
  | 0 => .nil
  | n + 1 => by
    rw [List.replicate_succ, List.replicate_succ, List.flatten_cons, List.flatten_cons]
    exact r.append (Reps.rep r n)
def mulLim (n : Nat) (k : Int) : Prop := n * k.toNat ≤ 100000 ∧ -1000 ≤ k ∧ k ≤ 100000
instance (n : Nat) (k : Int) : Decidable (mulLim n k) := inferInstanceAs (Decidable (n * k.toNat ≤ 100000 ∧ -1000 ≤ k ∧ k ≤ 100000))
def mulT (xs : List D) (k : Int) (c : Cs) : R D := if xs.length ≠ 0 ∧ 2 ≤ k ∧ k ≤ 1000 ∧ xs.length ≤ 1000 then .ok (.tup (repL xs k)) c else .stuck
def mulL (cell : Bool) (x : D) (k : Int) (c : Cs) : R D := match lstC x c with
  | some xs => if mulLim xs.length k then (if cell then .ok (.ref c.length) (c ++ [.lst (repL xs k)]) else .ok (.lst (repL xs k)) c) else .stuck
  | none => .stuck
def mulX (cell : Bool) (x y : D) (c : Cs) : R D := match y with
  | .int k => match x with
    | .int i => mulI (.int i) (.int k) c
    | .str s => if mulLim s.length k then .ok (.str (Txt.mul s k)) c else .stuck
    | .tup xs => mulT xs k c
    | x => mulL cell x k c
  | _ => .stuck
def rMulS : R2 := fun x y H Q => ∃ s k, x = .str s ∧ y = .int k ∧ MulOk s k ∧ Q (.str (Txt.mul s k)) H
theorem op_mulS {X : Cx} : OpR X (binaryOp .Mult) rMulS := by
  intro pins s σ H x y v u Q J rx ry h
  obtain ⟨z, k, rfl, rfl, hz, q⟩ := h
  obtain ⟨t, rfl⟩ := rx
  obtain ⟨t2, rfl⟩ := ry
  exact PySem.SB.mul hz fun t' k' => ⟨.str _, H, J.tok _, ⟨t', rfl⟩, q⟩
theorem mulOk {s : Str} {k : Int} (h : mulLim s.length k) : MulOk s k := by
  obtain ⟨h1, h2, h3⟩ := h
  refine ⟨?_, fun a b => ?_, fun a b => PyProof.Rows.short24 (by omega)⟩
  · rw [Bool.or_eq_false_iff]
    exact ⟨decide_eq_false (by omega), decide_eq_false (by omega)⟩
  · have a1 : 1 ≤ k := by omega
    have hs : s.length ≤ 100000 := by
      have : s.length * 1 ≤ s.length * k.toNat := Nat.mul_le_mul_left _ (by omega)
      omega
    have : (100000 : Int) ≤ (2 ^ 63 - 1) / k := Int.le_ediv_of_mul_le (by omega) (by omega)
    omega
def rMulX (K : PySem.W.Frag) : R2 := fun x y H Q => (rI CMul fun i j => .int (i * j)) x y H Q ∨ rMulS x y H Q ∨ rRepT K x y H Q ∨ rRep x y H Q
theorem op_mulXX {X : Cx} : OpR X (binaryOp .Mult) (rMulX X.K) := op_mul.or (op_mulS.or (op_repT.or op_rep))
theorem os_mulX {cell : Bool} : OpS K (rMulX K) (mulX cell) := fun I H m c v1 v2 d1 d2 W Q R p1 p2 A => by
  have lst : ∀ k : Int, v2 = .int k → After (rD K) K I m H W Q (mulL cell d1 k c) → rMulX K v1 v2 H Q := fun k e A => by
    subst e
    unfold mulL at A
    cases q : lstC d1 c with
    | none => rw [q] at A; exact A.elim
    | some xs =>
      rw [q] at A
      have A : After (rD K) K I m H W Q (if mulLim xs.length k then (if cell = true then .ok (.ref c.length) (c ++ [.lst (repL xs k)]) else .ok (.lst (repL xs k)) c) else .stuck) := A
      by_cases z : mulLim xs.length k
      · rw [if_pos z] at A
        obtain ⟨a1, vs1, rfl, h1, r1⟩ := lstC_at R p1 q
        have z2 := z
        rw [← r1.length] at z2
        obtain ⟨z1, z3, z4⟩ := z2
        have hz : sizeLine = 16777216 := sizeLine_eq
        refine .inr (.inr (.inr ⟨_, _, _, rfl, rfl, h1, by omega, by omega, by omega, fun p np => ?_⟩))
        cases cell with
        | true => exact After.cell (show After (rD K) K I m H W Q (.ok (.ref c.length) (c ++ [.lst (repL xs k)])) from A) R np (r1.rep _)
        | false =>
          have A : After (rD K) K I m H W Q (.ok (.lst (repL xs k)) c) := A
          exact A.new R np (.lst upd_same ((r1.rep _).mono (same_upd R.same np) (Pre.refl _)))
      · rw [if_neg z] at A; exact A.elim
  cases p2 with
  | int k =>
    cases p1 with
    | int i => exact .inl (os_mulI I H m c _ _ _ _ W Q R (.int i) (.int k) A)
    | str s =>
      have A : After (rD K) K I m H W Q (if mulLim s.length k then .ok (.str (Txt.mul s k)) c else .stuck) := A
      by_cases z : mulLim s.length k
      · rw [if_pos z] at A
        exact .inr (.inl ⟨s, k, rfl, rfl, mulOk z, A.here R (.str _)⟩)
      · rw [if_neg z] at A; exact A.elim
    | @tup a vs ds h r =>
      have A : After (rD K) K I m H W Q (if ds.length ≠ 0 ∧ 2 ≤ k ∧ k ≤ 1000 ∧ ds.length ≤ 1000 then .ok (.tup (repL ds k)) c else .stuck) := A
      by_cases z : ds.length ≠ 0 ∧ 2 ≤ k ∧ k ≤ 1000 ∧ ds.length ≤ 1000
      · rw [if_pos z] at A
        obtain ⟨z1, z2, z3, z4⟩ := z
        refine .inr (.inr (.inl ⟨a, k, vs, rfl, rfl, sqT_same R.same h, fun e => ?_, z2, z3, by rw [r.length]; exact z4, fun p np => A.new R np (.tup ?_ ((r.rep _).mono (same_upd R.same np) (Pre.refl _)))⟩))
        · have := r.length
          rw [e] at this
          exact z1 this.symm
        · exact .inl (.inl upd_same)
      · rw [if_neg z] at A; exact A.elim
    | lst h r => exact lst k rfl A
    | ref h => exact lst k rfl A
    | _ => exact lst k rfl A
  | _ => exact A.elim
/-! ### sep.join of what stands in a cell too -/
def joinX (x y : D) (c : Cs) : R D := match y with
  | .ref k => match x with
    | .str a => match lstC (.ref k) c with
      | some ds => joinL a ds c
      | none => .stuck
    | _ => .stuck
  | y => joinD x y c
theorem m1_joinX : M1S K (fun x xs H Q => ∃ a p, ∃ ys : List Str, x = .str a ∧ xs = [.ref p] ∧ (SqL K H p (ys.map V.str) ∨ SqT K H p (ys.map V.str)) ∧ (ys.map (·.length)).sum + ys.length * a.length ≤ 16777216 ∧ Q (.str (Txt.join a ys)) H) joinX :=
  fun I H m c v1 v2 d1 d2 W Q R p1 p2 A => by
    have old : After (rD K) K I m H W Q (joinD d1 d2 c) → _ := fun A => m1_join I H m c v1 v2 d1 d2 W Q R p1 p2 A
    cases d2 with
    | ref k =>
      cases p1 with
      | str a =>
        have A : After (rD K) K I m H W Q (match lstC (.ref k) c with
          | some ds => joinL a ds c
          | none => .stuck) := A
        cases e : lstC (.ref k) c with
        | none => rw [e] at A; exact A.elim
        | some ds =>
          rw [e] at A
          obtain ⟨p, vs, rfl, h1, r⟩ := lstC_at R p2 e
          have A : After (rD K) K I m H W Q (joinL a ds c) := A
          unfold joinL at A
          cases q : strsOf ds with
          | none => rw [q] at A; exact A.elim
          | some ys =>
            rw [q] at A
            have A : After (rD K) K I m H W Q (if (ys.map (·.length)).sum + ys.length * a.length ≤ 16777216 then .ok (.str (Txt.join a ys)) c else .stuck) := A
            by_cases hz : (ys.map (·.length)).sum + ys.length * a.length ≤ 16777216
            · rw [if_pos hz] at A
              refine ⟨a, p, ys, rfl, rfl, .inl ?_, hz, A.here R (.str _)⟩
              rw [← strs_reps r q]
              exact SqL.of h1
            · rw [if_neg hz] at A; exact A.elim
      | _ => exact A.elim
    | _ => exact old A
/-! ### s.count(t) -/
def countD (x y : D) (c : Cs) : R D := match x, y with
  | .str a, .str b => .ok (.int (Txt.count a b)) c
  | _, _ => .stuck
theorem m1_count : M1S K (fun x xs H Q => ∃ a b, x = .str a ∧ xs = [.str b] ∧ Q (.int (Txt.count a b)) H) countD := fun I H m c v1 v2 d1 d2 W Q R p1 p2 A => by
  cases p1 with
  | str a => cases p2 with
    | str b => exact ⟨a, b, rfl, rfl, A.here R (.int _)⟩
    | _ => exact A.elim
  | _ => cases p2 <;> exact A.elim
/-! ### list(x), the list a cell -/
def listMP (d : D) (c : Cs) : R D := match seqOf d c with
  | some xs => .ok (.ref c.length) (c ++ [.lst xs])
  | none => .stuck
def listM : List D → Cs → R D := on1 listMP
theorem cs_listM : CallS K (rList K) listM := fun I H m c vs ds W Q R p A => by
  obtain ⟨v, d, rfl, rfl, pd, A⟩ := on1_arg p A
  have A2 : After (rD K) K I m H W Q (match seqOf d c with
    | some xs => .ok (.ref c.length) (c ++ [.lst xs])
    | none => .stuck) := A
  cases e : seqOf d c with
  | none => rw [e] at A2; exact A2.elim
  | some xs =>
    rw [e] at A2
    obtain ⟨a, ys, rfl, h1, h2⟩ := seq_at R pd e
    exact ⟨a, ys, rfl, h1, fun l nl => After.cell A2 R nl h2⟩
end
/-! ### a class's constant, isinstance of an own class -/
def CCI (K : PySem.W.Frag) (n f : Str) (i : Int) : Prop := ∃ C mc t, PySem.W.nsIn K mainGlobals n = some (some (.ref C)) ∧ ClX.CRead K C mc ∧ ClX.CVal K C mc f (.int i) (.int i t)
section
variable {X : Cx} {W : WX} {e o : Expr} {es : List Expr} {f n : Str} {fa fo : ME} {ga : MA} {ns : List Str} {pos p p2 : Pos}
theorem me_ccI {i : Int} (T : CCI X.K n f i) (hg : Gl X n) (gx : ∀ n C, PySem.W.nsIn X.K mainGlobals n = some (some (.ref C)) → X.mg n = some (.ref C)) (hd : (n == ("__debug__" : Str)) = false := by decide) (hb : attributeBase (.Name n p) f X.env (eval (.Name n p) X.env) = eval (.Name n p) X.env := by rfl) :
    PE X (.Attribute (.Name n p) f pos) (rdE X.K W (mC (.int i))) := by
  obtain ⟨C, mc, t, h1, h2, h3⟩ := T
  exact PEi (ClX.pe_cval (pe_glob (v := .ref C) hg (gx _ _ h1) rfl hd) hb) fun σ H Q ⟨I, m, l, c, R, L, A⟩ => ⟨C, mc, .int i, _, rfl, h2, h3, A.here R (.int i)⟩
structure IsoK (K : PySem.W.Frag) (n : Str) (ns : List Str) : Prop where
  ex : ∃ C, PySem.W.nsIn K mainGlobals n = some (some (.ref C)) ∧ (∀ m ∈ ns, ∃ D', NamV K m (.ref D') ∧ Cls K D' ∧ PySem.W.findIn K (.ref D') "__class__" = some (some (.builtin "object.__class__")) ∧ PySem.W.specialIn K (.builtin "object.__class__") "__get__" = some (some (.builtin "getset_descriptor.__get__")) ∧
    PySem.W.takesIn K (.builtin "object.__class__") = some true ∧ PySem.W.mroIn K D' (.type "object") = some true ∧ PySem.W.kitOne K (.ref D') (.ref C) = some (m == n)) ∧ ∀ t ∈ tyNames, PySem.W.kitOne K (.type t) (.ref C) = some false
def isoR (n : Str) (ns : List Str) (x : D) (c : Cs) : R D := match insOf x c with
  | some (k, _) => if k ∈ ns then .ok (.bl (k == n)) c else .stuck
  | none => match tyD x c with
    | some _ => .ok (.bl false) c
    | none => .stuck
def mIso (n : Str) (ns : List Str) (a : ME) : ME := fun l c => (a l c).bind fun x c1 => isoR n ns x c1
theorem me_iso {q : Pos} (T : IsoK X.K n ns) (hg : Gl X "isinstance") (hm : X.mg "isinstance" = none) (hgn : Gl X n) (gx : ∀ n C, PySem.W.nsIn X.K mainGlobals n = some (some (.ref C)) → X.mg n = some (.ref C)) (ha : PE X e (rdE X.K W fa)) (hd : (n == ("__debug__" : Str)) = false := by decide)
    (he : starEach [e, .Name n p2] X.env = (false, eval e X.env) :: starEach [.Name n p2] X.env := by rfl) (hpl : (backTo pos (starEach [.Name n p2] X.env)).any (·.1) = false := by rfl) :
    PE X (.Call (.Name "isinstance" p) [e, .Name n p2] [] pos) (rdE X.K W (mIso n ns fa)) := by
  obtain ⟨C, h1, h2, h3⟩ := T.ex
  refine PEi (pe_callB (call_isi (X := X)) hg hm bt_isinstance (pa_cons ha (pa_cons (pe_glob (v := .ref C) hgn (gx _ _ h1) rfl hd) pa_nil) he) (he := he) (hpl := hpl)) fun σ H Q ⟨I, m, l, c, R, L, A⟩ =>
    ⟨I, m, l, c, R, L, After.mono (After.bind (rep := rD X.K) A) fun v1 H1 ⟨I1, m1, c1, d1, E1, R1, p1, A1⟩ => ?_⟩
  have A1 : After (rD X.K) X.K I1 m1 H1 (fun cls dd H' => W cls dd σ H') Q (match insOf d1 c1 with
    | some (k, _) => if k ∈ ns then .ok (.bl (k == n)) c1 else .stuck
    | none => match tyD d1 c1 with
      | some _ => .ok (.bl false) c1
      | none => .stuck) := A1
  cases q : insOf d1 c1 with
  | some nf =>
    obtain ⟨k, fs⟩ := nf
    rw [q] at A1
    have A1 : After (rD X.K) X.K I1 m1 H1 (fun cls dd H' => W cls dd σ H') Q (if k ∈ ns then .ok (.bl (k == n)) c1 else .stuck) := A1
    by_cases hk : k ∈ ns
    · rw [if_pos hk] at A1
      obtain ⟨a, C', dx, ws, rfl, k1, k2, k3⟩ := ins_at R1 p1 q
      obtain ⟨D', j1, j2, j3, j4, j5, j6, j7⟩ := h2 k hk
      cases k1.one j1
      exact ⟨.ref a, .ref C, _, .ref C, _, rfl, .own C, .base (.ins k2 j2 j3 j4 j5 j6), j7, A1.here R1 (.bl _)⟩
    · rw [if_neg hk] at A1; exact A1.elim
  | none =>
    rw [q] at A1
    have A1 : After (rD X.K) X.K I1 m1 H1 (fun cls dd H' => W cls dd σ H') Q (match tyD d1 c1 with
      | some _ => .ok (.bl false) c1
      | none => .stuck) := A1
    cases z : tyD d1 c1 with
    | none => rw [z] at A1; exact A1.elim
    | some t =>
      rw [z] at A1
      exact ⟨v1, .ref C, _, .ref C, _, rfl, .own C, tyD_is R1 p1 z, h3 t (tyD_mem z), A1.here R1 (.bl _)⟩
end
end L2.Mi
namespace L2.Mi
open PySem PySem.Spec PyProof.Rows L2
/-- v.append(e.f), e the caught exception -/
theorem ms_appXf {X : Cx} {ns : List Str} {n f v : Str} {i j : Nat} {a : Addr} {oe : Obj} {cls : Value} {d : Option Addr} {pn : List (Addr × Obj)} {q0 q1 q2 q3 p1 p2 : Pos} (hT : ∀ k ∈ ns, XOwn X.prog X.K k f) (hz : Zc cls d oe) (hf : ∃ vs, oe.data = .fields vs)
    (hvj : PE (X.suite a ((a, oe) :: pn)) (.Name v q0) (tVar j)) (hv : PE (X.suite a ((a, oe) :: pn)) (.Name n p1) (tVar i)) (hb : attributeBase (.Name n p1) f X.env (eval (.Name n p1) X.env) = eval (.Name n p1) X.env := by rfl)
    (hbase : attributeBase (.Name v q0) "append" X.env (eval (.Name v q0) X.env) = eval (.Name v q0) X.env := by rfl)
    (hfew : ((backTo q2 (starEach [.Attribute (.Name n p1) f p2] X.env)).all (fun x => !x.1) && (backToKw q2 (keywordEach [] X.env)).all (fun x => x.1.isSome) && decide ([Expr.Attribute (.Name n p1) f p2].length + ([] : List Keyword).length + (if ([] : List Keyword).isEmpty then 0 else 1) < 30)) = true := by rfl)
    (hline : (q1.endLine == q2.line) = true := by rfl) (hs : starEach [.Attribute (.Name n p1) f p2] X.env = (false, eval (.Attribute (.Name n p1) f p2) X.env) :: starEach [] X.env := by rfl) (hplain : (backTo q2 (starEach [] X.env)).any (·.1) = false := by rfl)
    (hsw : swapsWith (.Call (.Attribute (.Name v q0) "append" q1) [.Attribute (.Name n p1) f p2] [] q2) none q3.line X.env = pure false := by rfl) :
    PSs (X.suite a ((a, oe) :: pn)) [.Expr (.Call (.Attribute (.Name v q0) "append" q1) [.Attribute (.Name n p1) f p2] [] q2) q3] (tsX X.K i (fun x => sExpr (mBM appendD (mVar j) (aCons (mXf ns f x) aNil))) a cls d) := by
  refine ⟨fun pins st σ H DD J ⟨x, I, m, l, c, hσ, px, R, L, A⟩ => ?_⟩
  have A : AfterS X.K I m H WF DD (sExpr (mBM appendD (mVar j) (aCons (mXf ns f x) aNil)) l c) := A
  have stuck : sExpr (mBM appendD (mVar j) (aCons (mXf ns f x) aNil)) l c ≠ .stuck := fun e => by rw [e] at A; exact A.elim
  by_cases hx : x.cls ∈ ns
  · cases hl : x.fs.lookup f with
    | none => exact absurd (by
        have e2 : mXf ns f x l c = .stuck := by simp [mXf, hx, hl]
        have e3 : ∀ c', mXf ns f x l c' = .stuck := fun c' => by simp [mXf, hx, hl]
        unfold sExpr mBM mVar
        cases z : l[j]? with
        | none => rfl
        | some o =>
          cases o with
          | none => rfl
          | some dv =>
            show ((if isL dv c = true then _ else _ : Mi.R D)).seq l _ = _
            split
            · simp [aCons, e3, Mi.R.bind, Mi.R.seq]
            · rfl) stuck
    | some dv =>
      cases z : l[j]? with
      | none => exact absurd (by unfold sExpr mBM mVar; rw [z]; rfl) stuck
      | some o =>
        cases o with
        | none => exact absurd (by unfold sExpr mBM mVar; rw [z]; rfl) stuck
        | some dl =>
          by_cases hL : isL dl c = true
          · have e : sExpr (mBM appendD (mVar j) (aCons (mXf ns f x) aNil)) l c = (appendD dl [dv] c).seq l fun _ c1 => .go (.nx l) c1 := by
              unfold sExpr mBM mVar
              rw [z]
              show ((if isL dl c = true then _ else _ : Mi.R D)).seq l _ = _
              rw [if_pos hL]
              simp [aCons, mXf, hx, hl, aNil]
            rw [e] at A
            obtain ⟨C, rfl, T, hno⟩ := xfc_of (hT _ hx) px.1
            rcases px.2 with ⟨_, h2⟩ | ⟨ad, vs, h1, h2, h3⟩
            · rw [h2] at hl; cases hl
            · obtain ⟨v', q1', q2'⟩ := h3.look hl
              obtain ⟨w, hw, pw⟩ := L.at_ j dl z
              obtain ⟨ds, hds⟩ := Option.isSome_iff_exists.mp hL
              obtain ⟨al, xs, e1, hl1, _⟩ := lst_at R pw hds
              subst e1
              refine (pss_one (ps_expr (pe_bm PySem.F.plainAttrs_list PySem.F.slot_list_append PySem.F.type_list_append mt_append hvj (pa_cons (pe_xf T hno hz hf hv hb) pa_nil hs) hbase hfew hline hs hplain) hsw)).run pins st σ H DD J ?_
              refine ⟨.ref al, hw, .inl ⟨rfl, xs, hl1⟩, .ref a, hσ, rfl, rfl, ad, vs, v', h1, R.same _ _ h2, q1', ?_⟩
              refine (show rAppend (V.ref al) [v'] H fun _ H1 => DD.nx σ H1 from meth_append I H m c _ _ _ _ _ _ R pw (.cons q2' .nil) (After.mono (AfterS.seq (rep := rD X.K) L A) fun v2 H2 ⟨I2, m2, c2, d2, E2, R2, p2', A2⟩ => ?_))
              exact A2 I2 m2 H2 σ (Ext.refl _ _ _) R2 (L.ext E2)
          · exact absurd (by
              unfold sExpr mBM mVar
              rw [z]
              show ((if isL dl c = true then _ else _ : Mi.R D)).seq l _ = _
              rw [if_neg hL]
              rfl) stuck
  · exact absurd (by
      have e3 : ∀ c', mXf ns f x l c' = .stuck := fun c' => by simp [mXf, hx]
      unfold sExpr mBM mVar
      cases z : l[j]? with
      | none => rfl
      | some o =>
        cases o with
        | none => rfl
        | some dv =>
          show ((if isL dv c = true then _ else _ : Mi.R D)).seq l _ = _
          split
          · simp [aCons, e3, Mi.R.bind, Mi.R.seq]
          · rfl) stuck
end L2.Mi

/-! the classmethod of(cls, *rows): return cls(rows); one-operand operations of own classes -/
namespace L2.Mi
open PySem PySem.Spec PyProof.Rows L2
def OfRun (P : Program) (w : World) (K : PySem.W.Frag) (mg : Str → Option Value) (base : Heap) (n : Str) (C f : Addr) (g : List D → Cs → R D) (k : Nat) : Prop :=
  ∀ (A : Around) (outer : List Env) (s : Shared) (H : Hp) (us : List Value) (vs : List V) (Q : VK) (E : XK) (I : Hp) (m : List Addr) (c : Cs) (ds : List D), Room k A → A.guards = some [] → Env0 P w K mg base A outer s H → Vals vs us → Rel K I H m c → Reps K I m vs ds → ds.length ≤ sizeLine →
    After (rD K) K I m H E Q (mkR n g [.tup ds] c) → codeAny (model P w) A (.call (.ref f) ⟨.ref C :: us, []⟩) (CR (CX P w) outer P w H s Q E) s
/-- the body's call -/
def tOfB (K : PySem.W.Frag) (n : Str) (C : Addr) (g : List D → Cs → R D) (W : WX) : TE := fun σ H Q => ∃ I m c ds v1, σ[0]? = some (some (V.ref C)) ∧ σ[1]? = some (some v1) ∧ Rel K I H m c ∧ Rep K I m v1 (.tup ds) ∧ After (rD K) K I m H (fun cls d H' => W cls d σ H') Q (mkR n g [.tup ds] c)
theorem pe_ofB {X : Cx} {W : WX} {n x y : Str} {C fi : Addr} {g : List D → Cs → R D} {fd : FuncData} {ps : List Str} {k : Nat} {p1 p2 p3 : Pos} (M : Mk X.K C fi) (hn : NamV X.K n (.ref C)) (F : GFn X.prog X.w X.K X.mg X.base k fi fd ps g) (hb : Binds X.K fd ps []) (hr : Room (k + 1) X.A) (hgd : X.A.guards = some []) (tk : Takes X W)
    (h0 : PE X (.Name x p1) (tVar 0)) (h1 : PE X (.Name y p2) (tVar 1)) (he : starEach [.Name y p2] X.env = (false, eval (.Name y p2) X.env) :: starEach [] X.env := by rfl) (hpl : (backTo p3 (starEach [] X.env)).any (·.1) = false := by rfl) :
    PE X (.Call (.Name x p1) [.Name y p2] [] p3) (tOfB X.K n C g W) := by
  refine ⟨fun pins s σ H Q J ⟨I, m, c, ds, v1, e0, e1, R, p, A⟩ => ?_⟩
  have z0 := h0.run pins s σ H (fun v H' => v = V.ref C ∧ H' = H) J ⟨_, e0, rfl, rfl⟩
  refine wpAny_Call_Name_kw (thn z0 fun u s0 ⟨v, H0, J0, r0, ev, eH⟩ => ?_)
  subst ev; subst eH
  obtain rfl : u = Value.ref C := r0
  refine PySem.W.callWith_K (h₀ := X.base) J0.ok.mod.kin M.kp (thn ((pa_cons h1 pa_nil he).run p3 pins s0 σ _ (fun vs H' => vs = [v1] ∧ H' = H0) J0 ⟨v1, e1, rfl, rfl⟩) fun us s1 ⟨vs, H1, J1, r, ev, eH⟩ => ⟨J1.kIn, ?_⟩) he hpl
  subst ev; subst eH
  exact run_makeG M hn F hr hgd hb tk J1 r R (.cons p .nil) A
theorem lvis_par {N P : List Str} {sc : Scope} (S : FnScope N P sc) {x : Str} (h : x ∈ P) : Vis sc x := by
  rcases S.par x h with e | e
  · exact Or.inl e
  · exact Or.inr (Or.inl e)
theorem of_run {P : Program} {w : World} {K : PySem.W.Frag} {mg : Str → Option Value} {base : Heap} {n x y qual : Str} {st : Stmt} {C fi f : Addr} {g : List D → Cs → R D} {fd fdo : FuncData} {ps : List Str} {k : Nat} {p1 p2 p3 p4 : Pos} (M : Mk K C fi) (hn : NamV K n (.ref C)) (F : GFn P w K mg base k fi fd ps g) (hb : Binds K fd ps [])
    (FO : Fun K "of" qual st f fdo) (hbind : ∀ u : Value, ∀ rest : List Value, bindArgs fdo ⟨u :: rest, []⟩ = (newTuple rest >>= fun t => pure [(x, u), (y, t)])) (S : FnScope [x, y] [x, y] (defScope st))
    (hbody : defBody st = [.Return (some (.Call (.Name x p1) [.Name y p2] [] p3)) p4]) (hx : (x == ("__debug__" : Str)) = false) (hx2 : (x == ("__classdict__" : Str)) = false) (hy : (y == ("__debug__" : Str)) = false) (hy2 : (y == ("__classdict__" : Str)) = false) : OfRun P w K mg base n C f g (k + 2) := by
  intro A outer s H us vs Q E I m c ds hr hgd e0 r R p hz a
  obtain ⟨oc, od, kV, doc, pm, an, cdv, ct, osl, rfl, lk, hcd⟩ := FO.ex
  have hn0 : H s.heap.objs.size = Option.none := e0.hok.fresh (Nat.le_refl _)
  have hl2 : us.length ≤ sizeLine := by rw [← r.length, p.length]; exact hz
  refine StX.run_bnd (CX := CX P w) (N := [x, y]) (ps := [x, y]) lk hcd S hr e0 (G := fun xs H2 => H2 = upd H s.heap.objs.size (.tup vs) ∧ xs = [V.ref C, V.ref s.heap.objs.size]) (fun A' Ex Q' h => ?_) fun s2 H2 xs ⟨eH, ex⟩ hr' => ?_
  · rw [hbind]
    refine wpAny_bind (wpAny_newTuple (wpAny_pure ?_) hl2)
    have new : ObjOk P w (upd H s.heap.objs.size (.tup vs)) (s.heap.push ({ cls := .type "tuple", data := .seq us.toArray } : Obj)) s.heap.objs.size (.tup vs) := ⟨by rw [p.length]; exact hz, us, r, ⟨_, Heap.get?_push_size _ rfl, rfl, _, rfl⟩⟩
    have un := StX.un_laid (fs := frs outer) (s := s) (o := ({ cls := .type "tuple", data := .seq us.toArray } : Obj)) (u := .tup vs) hn0
    exact h _ _ [V.ref C, V.ref s.heap.objs.size] [Value.ref C, Value.ref s.heap.objs.size] (StX.env0_laid e0 new) un rfl (fun e s' => StX.cxUp outer s H _ _ E e s' un (fun b o q => Heap.get?_push_of_some _ q) rfl) (.cons rfl (.cons rfl .nil)) rfl ⟨rfl, rfl⟩
  · subst ex eH
    have tk := takes_of (X := cxOf (CX P w) P w K mg base [x, y] qual (defScope st) f cdv A outer s2 (upd H s.heap.objs.size (.tup vs)) E) (E := E) rfl rfl rfl rfl
    have v0 : Vis (defScope st) x := lvis_par S (List.mem_cons_self)
    have v1 : Vis (defScope st) y := lvis_par S (List.mem_cons_of_mem _ List.mem_cons_self)
    have b := pe_ofB (X := cxOf (CX P w) P w K mg base [x, y] qual (defScope st) f cdv A outer s2 (upd H s.heap.objs.size (.tup vs)) E) (p1 := p1) (p2 := p2) (p3 := p3) M hn F hb hr' hgd tk (pe_var (i := 0) rfl v0 hx hx2) (pe_var (i := 1) rfl v1 hy hy2)
    refine ⟨_, by rw [hbody]; exact pss_one (ps_ret b), ?_⟩
    obtain ⟨R2, E2⟩ := alloc (o := .tup vs) R hn0
    exact ⟨_, m, c, ds, V.ref s.heap.objs.size, rfl, rfl, R2, .tup (.inl (.inl upd_same)) (p.ext E2), After.ext (rep := rD K) E2 a⟩
/-- n.of(e, ..) -/
structure OfK (P : Program) (w : World) (K : PySem.W.Frag) (mg : Str → Option Value) (base : Heap) (n : Str) (g : List D → Cs → R D) (k : Nat) : Prop where
  ex : ∃ C mc p f, PySem.W.nsIn K mainGlobals n = some (some (.ref C)) ∧ ClX.CRead K C mc ∧ ClX.CMet K C mc "of" p f ∧ OfRun P w K mg base n C f g k
def ofR (n : Str) (g : List D → Cs → R D) (xs : List D) (c : Cs) : R D := if xs.length ≤ sizeLine then mkR n g [.tup xs] c else .stuck
def mOf (n : Str) (g : List D → Cs → R D) (t : MA) : ME := fun l c => (t l c).bind fun xs c1 => ofR n g xs c1
section
variable {X : Cx} {W : WX} {n : Str} {g : List D → Cs → R D} {k : Nat} {e : Expr} {es : List Expr} {ga : MA} {p0 apos pos : Pos} {pl : Sem Bool}
theorem of_call {pins : List (Addr × Obj)} {σ : St} {H : Hp} {s : Shared} {Q : VK} {q C f : Addr} {us : List Value} {vs : List V} {I : Hp} {m : List Addr} {c : Cs} {ds : List D} (O : OfRun X.prog X.w X.K X.mg X.base n C f g k) (hr : Room k X.A) (hgd : X.A.guards = some []) (tk : Takes X W)
    (J : Inv X ((q, PySem.W.methodObj (.ref f) (.ref C)) :: pins) σ H s) (r : Vals vs us) (R : Rel X.K I H m c) (p : Reps X.K I m vs ds) (a : After (rD X.K) X.K I m H (fun cls dd H' => W cls dd σ H') Q (ofR n g ds c)) : wpAny (model X.prog X.w) X.A (call (.ref q) us) (EP X pins σ Q) X.xe s := by
  unfold ofR at a
  by_cases hz : ds.length ≤ sizeLine
  · rw [if_pos hz] at a
    have z : wpAny (model X.prog X.w) X.A (call (.ref q) us) (EP X ((q, PySem.W.methodObj (.ref f) (.ref C)) :: pins) σ Q) X.xe s := by
      refine wpAny_call (PySem.W.method_call (ClX.pin_at J) (codeAny_mono (O X.A X.stack s H us vs Q (fun cls d H' => W cls d σ H') I m c ds hr hgd J.env0 r R p hz a) fun res s' hq => ?_))
      cases res with
      | error e => exact tk e s' (XE.of_call J (fun _ _ _ h => h) hq)
      | ok fl =>
        cases fl with
        | ret u => exact J.after hq
        | next => exact False.elim hq
        | brk => exact False.elim hq
        | cont => exact False.elim hq
    exact thn z fun _ _ y => ClX.unpinE y
  · rw [if_neg hz] at a; exact a.elim
theorem me_of (T : OfK X.prog X.w X.K X.mg X.base n g k) (hr : Room k X.A) (hgd : X.A.guards = some []) (tk : Takes X W) (hg : Gl X n) (gx : ∀ n C, PySem.W.nsIn X.K mainGlobals n = some (some (.ref C)) → X.mg n = some (.ref C)) (ha : PA X (e :: es) (rdA X.K W ga)) (hd : (n == ("__debug__" : Str)) = false := by decide)
    (hst : starEach (e :: es) X.env = (false, eval e X.env) :: starEach es X.env := by rfl) (hpl : (backTo pos (starEach es X.env)).any (·.1) = false := by rfl)
    (ht : eval (.Call (.Attribute (.Name n p0) "of" apos) (e :: es) [] pos) X.env = (do
      let ov ← eval (.Name n p0) X.env
      standAt apos.atName
      let (f, first) ← holding [ov] (getMethod ov "of" pl)
      callWith pos f first (backTo pos (starEach (e :: es) X.env)) (backToKw pos (keywordEach [] X.env))) := by rfl) :
    PE X (.Call (.Attribute (.Name n p0) "of" apos) (e :: es) [] pos) (rdE X.K W (mOf n g ga)) := by
  obtain ⟨C, mc, p, f, h1, h2, h3, O⟩ := T.ex
  refine ⟨fun pins s σ H Q J ⟨I, m, l, c, R, L, A⟩ => ?_⟩
  refine PySem.W.methodCall_KW (pl := pl) (thn ((pe_glob (v := .ref C) hg (gx _ _ h1) rfl hd).run pins s σ H (fun v H' => v = V.ref C ∧ H' = H) J ⟨rfl, rfl⟩) fun u s1 ⟨x, H1, J1, rx, ex, eH⟩ => ?_) ht
  subst ex; subst eH
  obtain rfl : u = Value.ref C := rx
  refine ClX.getmethcm_ok J1 h2 h3 fun s2 J2 => ?_
  refine ClX.callwith_cm J2 (ClX.base_none J1 (Nat.le_refl _)) h3.fi (thn (ha.run pos _ s2 σ _ _ J2 ⟨I, m, l, c, R, L, After.bind (rep := rA X.K) A⟩) fun us s3 ⟨vs, H2, J3, rv, I1, m1, c1, ds, E1, R1, p1, A1⟩ => ⟨⟨ClX.pin_at J3, J3.kIn⟩, ?_⟩) hst hpl
  exact of_call O hr hgd tk J3 rv R1 p1 A1
theorem me_of0 (T : OfK X.prog X.w X.K X.mg X.base n g k) (hr : Room k X.A) (hgd : X.A.guards = some []) (tk : Takes X W) (hg : Gl X n) (gx : ∀ n C, PySem.W.nsIn X.K mainGlobals n = some (some (.ref C)) → X.mg n = some (.ref C)) (hd : (n == ("__debug__" : Str)) = false := by decide)
    (ht : eval (.Call (.Attribute (.Name n p0) "of" apos) [] [] pos) X.env = (do
      let ov ← eval (.Name n p0) X.env
      standAt apos.atName
      let (f, first) ← holding [ov] (getMethod ov "of" pl)
      callWith pos f first (backTo pos (starEach [] X.env)) (backToKw pos (keywordEach [] X.env))) := by rfl) :
    PE X (.Call (.Attribute (.Name n p0) "of" apos) [] [] pos) (rdE X.K W (mOf n g aNil)) := by
  obtain ⟨C, mc, p, f, h1, h2, h3, O⟩ := T.ex
  refine ⟨fun pins s σ H Q J ⟨I, m, l, c, R, L, A⟩ => ?_⟩
  refine PySem.W.methodCall_KW (pl := pl) (thn ((pe_glob (v := .ref C) hg (gx _ _ h1) rfl hd).run pins s σ H (fun v H' => v = V.ref C ∧ H' = H) J ⟨rfl, rfl⟩) fun u s1 ⟨x, H1, J1, rx, ex, eH⟩ => ?_) ht
  subst ex; subst eH
  obtain rfl : u = Value.ref C := rx
  refine ClX.getmethcm_ok J1 h2 h3 fun s2 J2 => ?_
  exact PySem.W.callWith_M0 (K := X.K) ⟨ClX.pin_at J2, J2.kIn⟩ h3.fi (of_call (us := []) O hr hgd tk J2 .nil R .nil A)
end
/-! ### one operand -/
section
variable {X : Cx} {W : WX} {a b e : Expr} {fa fb : ME} {ga : MA} {pos p : Pos} {k : Nat} {tbl : Tbl}
/-- -x -/
def negI (tbl : Tbl) (g0 : D → Cs → R D) (x : D) (c : Cs) : R D := match insOf x c with
  | some _ => viaT tbl x c fun g _ => g [x] c
  | none => g0 x c
theorem me_negI {r : V → Hp → VK → Prop} {g0 : D → Cs → R D} (hT : ∀ q ∈ tbl, SpcK X.prog X.w X.K X.mg X.base q.1 "__neg__" q.2 k) (hr : Room k X.A) (hgd : X.A.guards = some []) (tk : Takes X W) (ho : UnR X (unaryOp .USub) r) (hs : UnS X.K r g0) (ha : PE X a (rdE X.K W fa)) : PE X (.UnaryOp .USub a pos) (rdE X.K W (mUn (negI tbl g0) fa)) := by
  refine ⟨fun pins s σ H Q J ⟨I, m, l, c, R, L, A⟩ => ?_⟩
  refine UnaryOp_ (thn (ha.run pins s σ H _ J ⟨I, m, l, c, R, L, After.bind (rep := rD X.K) A⟩) fun v s1 ⟨x, H1, J1, r1, I1, m1, c1, d1, E1, R1, p1, A1⟩ => ?_)
  have A1 : After (rD X.K) X.K I1 m1 H1 (fun cls dd H' => W cls dd σ H') Q (match insOf d1 c1 with
    | some _ => viaT tbl d1 c1 fun g _ => g [d1] c1
    | none => g0 d1 c1) := A1
  cases z : insOf d1 c1 with
  | none => rw [z] at A1; exact ho pins s1 σ H1 x v Q J1 r1 (hs _ _ _ _ _ _ _ _ R1 p1 A1)
  | some nf =>
    rw [z] at A1
    obtain ⟨ad, C, f, ox, od, g, n, rfl, rfl, _, _, JJ, _, kk, A2, run⟩ := spc_run hT J1 R1 p1 r1 A1
    obtain ⟨m0, F⟩ := J1.fr
    exact PySem.W.ksp_neg F J1.ok.mod.kin JJ kk.1 kk.2.1 (run X.A [.ref ad] [.ref ad] [d1] Q hr hgd J1.env0 tk (.cons rfl .nil) (.cons p1 .nil) A2)
/-- x[i] -/
def ixI (tbl : Tbl) (g0 : D → D → Cs → R D) (x y : D) (c : Cs) : R D := match insOf x c with
  | some _ => viaT tbl x c fun g _ => g [x, y] c
  | none => g0 x y c
theorem me_ixI {r : R2} {g0 : D → D → Cs → R D} (hT : ∀ q ∈ tbl, SpcK X.prog X.w X.K X.mg X.base q.1 "__getitem__" q.2 k) (hr : Room (k + 1) X.A) (hgd : X.A.guards = some []) (tk : Takes X W) (ho : IxR X r) (hs : OpS X.K r g0) (ha : PE X a (rdE X.K W fa)) (hb : PE X b (rdE X.K W fb)) (hp : PlainIx b)
    (hsl : ∀ o i, subscripted b true o i = runValue (.builtin "lifetime.subscript" ⟨[o, i], []⟩) := by intro _ _; with_unfolding_all rfl) : PE X (.Subscript a b pos) (rdE X.K W (mOp (ixI tbl g0) fa fb)) := by
  refine ⟨fun pins s σ H Q J h => ?_⟩
  refine Subscript_ (binT ha hb J (opX_read h) fun v u s2 x y H2 J2 rx ry ⟨I, m, c, d, e, R, p, q, A⟩ => ?_)
  unfold ixI at A
  cases z : insOf d c with
  | none => rw [z] at A; exact ho a b pins s2 σ H2 x y v u Q J2 rx ry (hs _ _ _ _ _ _ _ _ _ _ R p q A) (hp _ _)
  | some nf =>
    rw [z] at A
    obtain ⟨ad, C, f, ox, od, g, n, rfl, rfl, _, _, JJ, _, kk, A2, run⟩ := spc_run hT J2 R p rx A
    obtain ⟨m0, F⟩ := J2.fr
    exact PySem.W.sub_K F J2.ok.mod.kin JJ kk.1 kk.2.2.1 kk.2.1 (run X.A.in1 [.ref ad, u] [.ref ad, y] [d, e] Q hr.in1 hgd J2.env0.in1 tk (.cons rfl (.cons ry .nil)) (.cons p (.cons q .nil)) A2) (hsl _ _)
/-- len(x) -/
def lenI (tbl : Tbl) (ds : List D) (c : Cs) : R D := match ds with
  | [x] => match insOf x c with
    | some _ => (viaT tbl x c fun g _ => g [x] c).bind fun r c2 => match r with
      | .int i => if 0 ≤ i ∧ i < 2 ^ 63 then .ok (.int i) c2 else .stuck
      | _ => .stuck
    | none => lenD [x] c
  | _ => .stuck
theorem me_lenI (hT : ∀ q ∈ tbl, SpcK X.prog X.w X.K X.mg X.base q.1 "__len__" q.2 k) (hr : Room (k + 1) X.A) (hgd : X.A.guards = some []) (tk : Takes X W) (hg : Gl X "len") (hm : X.mg "len" = none) (ha : PE X e (rdE X.K W fa))
    (he : starEach [e] X.env = (false, eval e X.env) :: starEach [] X.env := by rfl) (hpl : (backTo pos (starEach [] X.env)).any (·.1) = false := by rfl) : PE X (.Call (.Name "len" p) [e] [] pos) (rdE X.K W (mCB (lenI tbl) (aCons fa aNil))) := by
  refine ⟨fun pins s σ H Q J h => ?_⟩
  refine wpAny_Call_Name_kw (ld_blt J hg hm bt_len ?_ (by decide) (by decide))
  have hA : PA X [e] (rdA X.K W (aCons fa aNil)) := ma_cons ha ma_nil he
  obtain ⟨I, m, l, c, R, L, A⟩ := h
  refine PyProof.Rows.callWith_builtin1 (thn (hA.run pos pins s σ H _ J ⟨I, m, l, c, R, L, After.bind (rep := rA X.K) A⟩) fun us s1 ⟨vs, H1, J1, r1, I1, m1, c1, ds, E1, R1, p1, A1⟩ => ?_) he hpl
  cases p1 with
  | nil => exact A1.elim
  | @cons x xs d dss hx t =>
    cases t with
    | cons _ _ => exact A1.elim
    | nil =>
      have A1 : After (rD X.K) X.K I1 m1 H1 (fun cls dd H' => W cls dd σ H') Q (match insOf d c1 with
        | some _ => (viaT tbl d c1 fun g _ => g [d] c1).bind fun r c2 => match r with
          | .int i => if 0 ≤ i ∧ i < 2 ^ 63 then .ok (.int i) c2 else .stuck
          | _ => .stuck
        | none => lenD [d] c1) := A1
      cases z : insOf d c1 with
      | none =>
        rw [z] at A1
        exact call_len pins s1 σ H1 [x] us Q J1 r1 (cs_len _ _ _ _ _ _ _ _ R1 (.cons hx .nil) A1)
      | some nf =>
        rw [z] at A1
        obtain ⟨u, rfl, rx⟩ := vals1 r1
        obtain ⟨ad, C, f, ox, od, g, n, rfl, rfl, _, _, JJ, _, kk, A2, run⟩ := spc_run hT J1 R1 hx rx (After.bind (rep := rD X.K) A1)
        obtain ⟨m0, F⟩ := J1.fr
        refine PySem.W.len_K F J1.ok.mod.kin JJ kk.1 kk.2.1 (wpAny_mono (run X.A.in1 [.ref ad] [.ref ad] [d] _ hr.in1 hgd J1.env0.in1 tk (.cons rfl .nil) (.cons hx .nil) A2) (fun w s' ⟨zv, H', J', rz, I2, m2, c2, d2, E2, R2, p2, A3⟩ => ?_) fun _ _ z => z)
        cases p2 with
        | int i =>
          obtain ⟨t, rfl⟩ := rz
          have A3 : After (rD X.K) X.K I2 m2 H' (fun cls dd H' => W cls dd σ H') Q (if 0 ≤ i ∧ i < 2 ^ 63 then .ok (.int i) c2 else .stuck) := A3
          by_cases hz : 0 ≤ i ∧ i < 2 ^ 63
          · rw [if_pos hz] at A3
            exact ⟨hz, ⟨.int i, H', J'.tok _, ⟨_, rfl⟩, A3.here R2 (.int i)⟩⟩
          · rw [if_neg hz] at A3; exact A3.elim
        | _ => exact A3.elim
end
end L2.Mi
namespace L2.Mi
open PySem PySem.Spec PyProof.Rows L2
/-! ### x == [], x != [] -/
def rE0 (neg : Bool) (K : PySem.W.Frag) : R2 := fun x y H Q => ∃ a b xs, x = .ref a ∧ y = .ref b ∧ SqL K H a xs ∧ SqL K H b [] ∧ Q (.bl (sgn neg xs.isEmpty)) H
theorem op_e0 {X : Cx} (hu : X.A.units + 64 < cLine) : OpR X (compareOp .Eq) (rE0 false X.K) := by
  intro pins s σ H x y v u Q J rx ry h
  obtain ⟨a, b, xs, rfl, rfl, h1, h2, q⟩ := h
  cases rx; cases ry
  obtain ⟨its, rv, p, hz⟩ := J.list h1
  obtain ⟨its2, rv2, p2, hz2⟩ := J.list h2
  have e2 : its2 = [] := List.length_eq_zero_iff.mp (by rw [← rv2.length]; rfl)
  subst e2
  cases xs with
  | nil =>
    have e1 : its = [] := List.length_eq_zero_iff.mp (by rw [← rv.length]; rfl)
    subst e1
    refine SeqAt.eq_listAt (e := fun _ => true) p.isList p2.isList rfl (by omega) (fun j h1 _ => absurd h1 (Nat.not_lt_zero _)) ⟨.bl true, H, J, rfl, q⟩
  | cons x r =>
    have : its.length ≠ 0 := by rw [← rv.length]; simp
    exact SeqAt.eq_list_lengthsAt p.isList p2.isList (by simp; intro e; exact this (by rw [e]; rfl)) (by omega) ⟨.bl false, H, J, rfl, q⟩
theorem op_ne0 {X : Cx} (hu : X.A.units + 64 < cLine) : OpR X (compareOp .NotEq) (rE0 true X.K) := by
  intro pins s σ H x y v u Q J rx ry h
  obtain ⟨a, b, xs, rfl, rfl, h1, h2, q⟩ := h
  cases rx; cases ry
  obtain ⟨its, rv, p, hz⟩ := J.list h1
  obtain ⟨its2, rv2, p2, hz2⟩ := J.list h2
  have e2 : its2 = [] := List.length_eq_zero_iff.mp (by rw [← rv2.length]; rfl)
  subst e2
  cases xs with
  | nil =>
    have e1 : its = [] := List.length_eq_zero_iff.mp (by rw [← rv.length]; rfl)
    subst e1
    exact SeqAt.RcNeAt.lists (e := fun _ => true) p.isList p2.isList rfl (by omega) (fun j h1 _ => absurd h1 (Nat.not_lt_zero _)) _ _ _ _ ⟨.bl false, H, J, rfl, q⟩
  | cons x r =>
    have : its.length ≠ 0 := by rw [← rv.length]; simp
    exact SeqAt.RcNeAt.lists_lengths p.isList p2.isList (by simp; intro e; exact this (by rw [e]; rfl)) (by omega) _ _ _ _ ⟨.bl true, H, J, rfl, q⟩
def e0 (neg : Bool) (x y : D) (c : Cs) : R D := match y with
  | .lst [] => match lstC x c with
    | some xs => .ok (.bl (sgn neg xs.isEmpty)) c
    | none => .stuck
  | _ => .stuck
theorem os_e0 {K : PySem.W.Frag} {neg : Bool} : OpS K (rE0 neg K) (e0 neg) := fun I H m c v1 v2 d1 d2 W Q R p1 p2 A => by
  cases p2 with
  | @lst b vs ds h r =>
    cases r with
    | cons _ _ => exact A.elim
    | nil =>
      have A : After (rD K) K I m H W Q (match lstC d1 c with
        | some xs => .ok (.bl (sgn neg xs.isEmpty)) c
        | none => .stuck) := A
      cases q : lstC d1 c with
      | none => rw [q] at A; exact A.elim
      | some xs =>
        rw [q] at A
        obtain ⟨a, vs, rfl, h1, r1⟩ := lstC_at R p1 q
        refine ⟨a, b, vs, rfl, rfl, SqL.of h1, SqL.of (R.same _ _ h), ?_⟩
        have e : vs.isEmpty = xs.isEmpty := by cases r1 <;> rfl
        rw [e]
        exact A.here R (.bl _)
  | _ => exact A.elim
end L2.Mi

namespace L2.Mi
open PySem PySem.Spec PyProof.Rows L2

/-! ### what a computation comes to -/
def Ok {α : Type} (r : R α) (Q : α → Cs → Prop) : Prop := ∃ a c, r = .ok a c ∧ Q a c
theorem Ok.bind {α β : Type} {r : R α} {f : α → Cs → R β} {Q : β → Cs → Prop} (h : Ok r fun a c => Ok (f a c) Q) : Ok (r.bind f) Q := by
  obtain ⟨a, c, rfl, h⟩ := h
  exact h
theorem Ok.mono {α : Type} {r : R α} {Q Q' : α → Cs → Prop} (h : Ok r Q) (w : ∀ a c, Q a c → Q' a c) : Ok r Q' := by
  obtain ⟨a, c, e, h⟩ := h
  exact ⟨a, c, e, w a c h⟩
theorem Ok.of {α : Type} {r : R α} {Q : α → Cs → Prop} {a : α} {c : Cs} (e : r = .ok a c) (h : Q a c) : Ok r Q := ⟨a, c, e, h⟩
def OkS (r : RS) (Q : Fl → Cs → Prop) : Prop := ∃ f c, r = .go f c ∧ Q f c
theorem OkS.seq {α : Type} {r : R α} {l : Ls} {f : α → Cs → RS} {Q : Fl → Cs → Prop} (h : Ok r fun a c => OkS (f a c) Q) : OkS (r.seq l f) Q := by
  obtain ⟨a, c, rfl, h⟩ := h
  exact h
theorem OkS.mono {r : RS} {Q Q' : Fl → Cs → Prop} (h : OkS r Q) (w : ∀ a c, Q a c → Q' a c) : OkS r Q' := by
  obtain ⟨a, c, e, h⟩ := h
  exact ⟨a, c, e, w a c h⟩
theorem OkS.next {r : RS} {g : Ls → Cs → RS} {Q : Fl → Cs → Prop} (h : OkS r fun f c => match f with
  | .nx l => OkS (g l c) Q
  | f => Q f c) : OkS (r.next g) Q := by
  obtain ⟨f, c, rfl, h⟩ := h
  cases f with
  | nx l => exact h
  | rt d => exact ⟨_, _, rfl, h⟩
  | bk l => exact ⟨_, _, rfl, h⟩
  | ct l => exact ⟨_, _, rfl, h⟩
/-- a loop, by what holds between its turns -/
theorem OkS.for {g : MG} {f : MS} {Q : Fl → Cs → Prop} (P : List D → Ls → Cs → Prop) (hd : ∀ l c, P [] l c → Q (.nx l) c)
    (ht : ∀ d ds l c, P (d :: ds) l c → Ok (g d l c) fun l1 c1 => OkS (f l1 c1) fun fl c2 => match fl with
      | .nx l2 => P ds l2 c2
      | .ct l2 => P ds l2 c2
      | .bk l2 => Q (.nx l2) c2
      | .rt d => Q (.rt d) c2) : ∀ ds l c, P ds l c → OkS (forD g f ds l c) Q
  | [], l, c, h => ⟨_, _, rfl, hd l c h⟩
  | d :: ds, l, c, h => by
    obtain ⟨l1, c1, e1, fl, c2, e2, q⟩ := ht d ds l c h
    unfold forD
    rw [e1]
    simp only [R.seq_ok]
    rw [e2]
    cases fl with
    | nx l2 => exact OkS.for P hd ht ds l2 c2 q
    | ct l2 => exact OkS.for P hd ht ds l2 c2 q
    | bk l2 => exact ⟨_, _, rfl, q⟩
    | rt d => exact ⟨_, _, rfl, q⟩
theorem Ok.fun {n a : Nat} {b : MS} {ds : List D} {c : Cs} {Q : D → Cs → Prop} (hl : ds.length = a) (h : OkS (b (ds.map some ++ List.replicate (n - a) none) c) fun f c => match f with
  | .rt d => Q d c
  | .nx _ => Q .non c
  | _ => False) : Ok (mFun n a b ds c) Q := by
  obtain ⟨f, c', e, h⟩ := h
  unfold mFun
  rw [if_pos hl, e]
  cases f with
  | nx l => exact ⟨_, _, rfl, h⟩
  | rt d => exact ⟨_, _, rfl, h⟩
  | bk l => exact h.elim
  | ct l => exact h.elim

/-! ### rules, by combinator -/
section
variable {l : Ls} {c : Cs} {Q : D → Cs → Prop} {a b e : ME} {t : MA} {QS : Fl → Cs → Prop}
theorem ok_ret {α : Type} {d : α} {Q : α → Cs → Prop} (h : Q d c) : Ok (.ok d c) Q := ⟨_, _, rfl, h⟩
theorem ok_var {i : Nat} {d : D} (e : l[i]? = some (some d)) (h : Q d c) : Ok (mVar i l c) Q := ⟨d, c, by unfold mVar; rw [e], h⟩
theorem ok_c {d : D} (h : Q d c) : Ok (mC d l c) Q := ⟨d, c, rfl, h⟩
theorem ok_op {g : D → D → Cs → R D} (h : Ok (a l c) fun x c1 => Ok (b l c1) fun y c2 => Ok (g x y c2) Q) : Ok (mOp g a b l c) Q := Ok.bind (h.mono fun _ _ h => Ok.bind h)
theorem ok_un {g : D → Cs → R D} (h : Ok (a l c) fun x c1 => Ok (g x c1) Q) : Ok (mUn g a l c) Q := Ok.bind h
theorem ok_cb {g : List D → Cs → R D} (h : Ok (t l c) fun xs c1 => Ok (g xs c1) Q) : Ok (mCB g t l c) Q := Ok.bind h
theorem ok_anil {Q : List D → Cs → Prop} (h : Q [] c) : Ok (aNil l c) Q := ⟨_, _, rfl, h⟩
theorem ok_acons {Q : List D → Cs → Prop} (h : Ok (a l c) fun x c1 => Ok (t l c1) fun xs c2 => Q (x :: xs) c2) : Ok (aCons a t l c) Q := Ok.bind (h.mono fun _ _ h => Ok.bind (h.mono fun _ _ h => ⟨_, _, rfl, h⟩))
theorem ok_fits {α : Type} {n : Nat} {r : R α} {Q : α → Cs → Prop} (hn : n ≤ sizeLine) (h : Ok r Q) : Ok (fits n r) Q := by
  unfold fits
  rw [if_pos hn]
  exact h
theorem ok_lst (h : Ok (t l c) fun xs c1 => xs.length ≤ sizeLine ∧ Q (.lst xs) c1) : Ok (mLst t l c) Q := Ok.bind (h.mono fun _ _ h => ok_fits h.1 ⟨_, _, rfl, h.2⟩)
theorem ok_tup (h : Ok (t l c) fun xs c1 => xs.length ≤ sizeLine ∧ Q (.tup xs) c1) : Ok (mTup t l c) Q := Ok.bind (h.mono fun _ _ h => ok_fits h.1 ⟨_, _, rfl, h.2⟩)
theorem ok_lstM (h : Ok (t l c) fun xs c1 => xs.length ≤ sizeLine ∧ Q (.ref c1.length) (c1 ++ [.lst xs])) : Ok (mLstM t l c) Q := Ok.bind (h.mono fun _ _ h => ok_fits h.1 ⟨_, _, rfl, h.2⟩)
theorem ok_dict1 {k : Key} (h : Ok (a l c) fun d c1 => Q (.dct [(k, d)]) c1) : Ok (mDict1 k a l c) Q := Ok.bind (h.mono fun _ _ h => ⟨_, _, rfl, h⟩)
theorem ok_and (h : Ok (a l c) fun x c1 => ∃ k, x = .bl k ∧ (k = true → Ok (b l c1) Q) ∧ (k = false → Q (.bl false) c1)) : Ok (mAnd a b l c) Q := Ok.bind (h.mono fun x c1 ⟨k, e, h1, h2⟩ => by
  subst e
  cases k with
  | true => exact h1 rfl
  | false => exact ⟨_, _, rfl, h2 rfl⟩)
theorem ok_or (h : Ok (a l c) fun x c1 => ∃ k, x = .bl k ∧ (k = true → Q (.bl true) c1) ∧ (k = false → Ok (b l c1) Q)) : Ok (mOr a b l c) Q := Ok.bind (h.mono fun x c1 ⟨k, e, h1, h2⟩ => by
  subst e
  cases k with
  | true => exact ⟨_, _, rfl, h1 rfl⟩
  | false => exact h2 rfl)
theorem ok_not (h : Ok (a l c) fun x c1 => ∃ k, x = .bl k ∧ Q (.bl (!k)) c1) : Ok (mNot a l c) Q := Ok.bind (h.mono fun x c1 ⟨k, e, h⟩ => by subst e; exact ⟨_, _, rfl, h⟩)
theorem ok_chain {f g : D → D → Cs → R D} {d : ME} (h : Ok (a l c) fun x c1 => Ok (b l c1) fun y c2 => Ok (f x y c2) fun z c3 => ∃ k, z = .bl k ∧ (k = true → Ok (d l c3) fun w c4 => Ok (g y w c4) Q) ∧ (k = false → Q (.bl false) c3)) : Ok (mChain f g a b d l c) Q :=
  Ok.bind (h.mono fun x c1 h => Ok.bind (h.mono fun y c2 h => Ok.bind (h.mono fun z c3 ⟨k, e, h1, h2⟩ => by
    subst e
    cases k with
    | true => exact Ok.bind (h1 rfl)
    | false => exact ⟨_, _, rfl, h2 rfl⟩)))
theorem ok_t {Q : Bool → Cs → Prop} (h : Ok (a l c) fun x c1 => ∃ k, x = .bl k ∧ Q k c1) : Ok (mT a l c) Q := Ok.bind (h.mono fun x c1 ⟨k, e, h⟩ => by subst e; exact ⟨_, _, rfl, h⟩)
theorem ok_tnot {p : MT} {Q : Bool → Cs → Prop} (h : Ok (p l c) fun k c1 => Q (!k) c1) : Ok (tNotM p l c) Q := Ok.bind (h.mono fun _ _ h => ⟨_, _, rfl, h⟩)
theorem ok_tand {p q : MT} {Q : Bool → Cs → Prop} (h : Ok (p l c) fun k c1 => (k = true → Ok (q l c1) Q) ∧ (k = false → Q false c1)) : Ok (tAndM p q l c) Q := Ok.bind (h.mono fun k c1 ⟨h1, h2⟩ => by
  cases k with
  | true => exact h1 rfl
  | false => exact ⟨_, _, rfl, h2 rfl⟩)
theorem ok_tor {p q : MT} {Q : Bool → Cs → Prop} (h : Ok (p l c) fun k c1 => (k = true → Q true c1) ∧ (k = false → Ok (q l c1) Q)) : Ok (tOrM p q l c) Q := Ok.bind (h.mono fun k c1 ⟨h1, h2⟩ => by
  cases k with
  | true => exact ⟨_, _, rfl, h1 rfl⟩
  | false => exact h2 rfl)
theorem ok_if {p : MT} (h : Ok (p l c) fun k c1 => (k = true → Ok (a l c1) Q) ∧ (k = false → Ok (b l c1) Q)) : Ok (mIf p a b l c) Q := Ok.bind (h.mono fun k c1 ⟨h1, h2⟩ => by
  cases k with
  | true => exact h1 rfl
  | false => exact h2 rfl)
theorem ok_onone {Q : Option Int → Cs → Prop} (h : Q none c) : Ok (oNone l c) Q := ⟨_, _, rfl, h⟩
theorem ok_osome {Q : Option Int → Cs → Prop} (h : Ok (a l c) fun x c1 => ∃ i, x = .int i ∧ Q (some i) c1) : Ok (oSome a l c) Q := Ok.bind (h.mono fun x c1 ⟨k, e, h⟩ => by subst e; exact ⟨_, _, rfl, h⟩)
theorem ok_slice {p q : MO} (h : Ok (a l c) fun x c1 => Ok (p l c1) fun i c2 => Ok (q l c2) fun j c3 => Ok (sliceD x i j c3) Q) : Ok (mSlice a p q l c) Q := Ok.bind (h.mono fun _ _ h => Ok.bind (h.mono fun _ _ h => Ok.bind h))
theorem ok_m1 {g : D → D → Cs → R D} (h : Ok (a l c) fun x c1 => ∃ s, x = .str s ∧ Ok (b l c1) fun y c2 => Ok (g (.str s) y c2) Q) : Ok (mM1 g a b l c) Q := Ok.bind (h.mono fun x c1 ⟨s, e, h⟩ => by subst e; exact Ok.bind h)
theorem ok_frz (h : Ok (a l c) fun x c1 => ∃ k ds, x = .ref k ∧ c1[k]? = some (.lst ds) ∧ Q (.lst ds) (c1.set k (.frz (.lst ds)))) : Ok (mFrz a l c) Q := Ok.bind (h.mono fun x c1 ⟨k, ds, e, e2, h⟩ => by
  subst e
  refine ⟨_, _, ?_, h⟩
  simp only [frzD, e2])
theorem ok_ilst {Q : List D → Cs → Prop} (h : Ok (a l c) fun x c1 => (∃ ds, x = .lst ds ∧ Q ds c1) ∨ ∃ ds, x = .ro ds ∧ Q ds c1) : Ok (iLst a l c) Q := Ok.bind (h.mono fun x c1 h => by
  rcases h with ⟨ds, e, h⟩ | ⟨ds, e, h⟩ <;> (subst e; exact ⟨_, _, rfl, h⟩))
theorem ok_itup {Q : List D → Cs → Prop} (h : Ok (a l c) fun x c1 => ∃ ds, x = .tup ds ∧ Q ds c1) : Ok (iTup' a l c) Q := Ok.bind (h.mono fun x c1 ⟨s, e, h⟩ => by subst e; exact ⟨_, _, rfl, h⟩)
theorem ok_istr {Q : List D → Cs → Prop} (h : Ok (a l c) fun x c1 => ∃ s, x = .str s ∧ Q (chrs s) c1) : Ok (iStr' a l c) Q := Ok.bind (h.mono fun x c1 ⟨s, e, h⟩ => by subst e; exact ⟨_, _, rfl, h⟩)
theorem ok_r1 {Q : List D → Cs → Prop} (h : Ok (t l c) fun xs c1 => ∃ j, xs = [.int j] ∧ small62 j ∧ Q (rangeL 0 j.toNat) c1) : Ok (iR1 t l c) Q := Ok.bind (h.mono fun x c1 ⟨j, e, hj, h⟩ => by subst e; exact ⟨_, _, if_pos hj, h⟩)
theorem ok_r2 {Q : List D → Cs → Prop} (h : Ok (t l c) fun xs c1 => ∃ i j, xs = [.int i, .int j] ∧ small62 i ∧ small62 j ∧ Q (rangeL i (j - i).toNat) c1) : Ok (iR2 t l c) Q := Ok.bind (h.mono fun x c1 ⟨i, j, e, hi, hj, h⟩ => by subst e; exact ⟨_, _, if_pos ⟨hi, hj⟩, h⟩)
theorem ok_intC {C : Int → Int → Prop} [∀ i j, Decidable (C i j)] {g : Int → Int → Int} {i j : Int} (hc : C i j) (h : Q (.int (g i j)) c) : Ok (intC C g (.int i) (.int j) c) Q := ⟨_, _, if_pos hc, h⟩
/-- statements -/
theorem os_nil (h : QS (.nx l) c) : OkS (sNil l c) QS := ⟨_, _, rfl, h⟩
theorem os_brk (h : QS (.bk l) c) : OkS (sBreak l c) QS := ⟨_, _, rfl, h⟩
theorem os_cnt (h : QS (.ct l) c) : OkS (sCont l c) QS := ⟨_, _, rfl, h⟩
theorem os_seq {f g : MS} (h : OkS (f l c) fun fl c1 => match fl with
  | .nx l1 => OkS (g l1 c1) QS
  | fl => QS fl c1) : OkS (sSeq f g l c) QS := OkS.next h
theorem os_expr (h : Ok (a l c) fun _ c1 => QS (.nx l) c1) : OkS (sExpr a l c) QS := OkS.seq (h.mono fun _ _ h => ⟨_, _, rfl, h⟩)
theorem os_ret (h : Ok (a l c) fun d c1 => QS (.rt d) c1) : OkS (sRet a l c) QS := OkS.seq (h.mono fun _ _ h => ⟨_, _, rfl, h⟩)
theorem os_retn (h : QS (.rt .non) c) : OkS (sRetN l c) QS := ⟨_, _, rfl, h⟩
theorem os_if {p : MT} {f g : MS} (h : Ok (p l c) fun k c1 => (k = true → OkS (f l c1) QS) ∧ (k = false → OkS (g l c1) QS)) : OkS (sIf p f g l c) QS := OkS.seq (h.mono fun k c1 ⟨h1, h2⟩ => by
  cases k with
  | true => exact h1 rfl
  | false => exact h2 rfl)
theorem os_set {i : Nat} (h : Ok (a l c) fun d c1 => QS (.nx (l.set i (some d))) c1) : OkS (sSet i a l c) QS := OkS.seq (h.mono fun _ _ h => ⟨_, _, rfl, h⟩)
theorem os_asg {g : MG} (h : Ok (a l c) fun d c1 => Ok (g d l c1) fun l2 c2 => QS (.nx l2) c2) : OkS (sAsg a g l c) QS := OkS.seq (h.mono fun _ _ h => OkS.seq (h.mono fun _ _ h => ⟨_, _, rfl, h⟩))
theorem os_par {js : List Nat} (h : Ok (t l c) fun ds c1 => Ok (gNs js ds l c1) fun l2 c2 => QS (.nx l2) c2) : OkS (sPar js t l c) QS := OkS.seq (h.mono fun _ _ h => OkS.seq (h.mono fun _ _ h => ⟨_, _, rfl, h⟩))
theorem os_for {it : MI} {g : MG} {f : MS} (h : Ok (it l c) fun ds c1 => OkS (forD g f ds l c1) QS) : OkS (sFor it g f l c) QS := OkS.seq h
theorem ok_gn {i : Nat} {d : D} {Q : Ls → Cs → Prop} (h : Q (l.set i (some d)) c) : Ok (gN i d l c) Q := ⟨_, _, rfl, h⟩
/-- a comprehension, by its loop -/
theorem ok_lc {it : MI} {js : List Nat} {g : MG} {p : MT} (h : Ok (it l c) fun ds c1 => Ok (compD g p e (wipeL l js) ds [] c1) fun xs c2 => Q (.lst xs) c2) : Ok (mLc it js g p e l c) Q := Ok.bind (h.mono fun _ _ h => Ok.bind (h.mono fun _ _ h => ⟨_, _, rfl, h⟩))
/-- .. whose test and element change nothing -/
theorem comp_pure {g : MG} {p : MT} {lw : Ls} {P : D → Bool} {F : D → D} {lt : D → Ls} : ∀ (ds acc : List D), acc.length + ds.length ≤ sizeLine → (∀ d ∈ ds, g d lw c = .ok (lt d) c ∧ p (lt d) c = .ok (P d) c ∧ (P d = true → e (lt d) c = .ok (F d) c)) →
    compD g p e lw ds acc c = .ok (acc ++ (ds.filter P).map F) c
  | [], acc, _, _ => by simp [compD]
  | d :: ds, acc, hl, h => by
    obtain ⟨h1, h2, h3⟩ := h d List.mem_cons_self
    have hr := fun acc hl => comp_pure ds acc hl fun x hx => h x (List.mem_cons_of_mem _ hx)
    unfold compD
    rw [h1]
    simp only [R.nox_ok, R.bind_ok]
    rw [h2]
    simp only [R.nox_ok, R.bind_ok]
    simp only [List.length_cons] at hl
    cases q : P d with
    | true =>
      simp only []
      rw [h3 q]
      simp only [R.nox_ok, R.bind_ok]
      rw [if_pos (by omega), hr _ (by simp; omega)]
      simp [q]
    | false =>
      simp only []
      rw [hr _ (by omega)]
      simp [q]
/-- .. by what holds between its turns -/
theorem comp_ok {g : MG} {p : MT} {lw : Ls} {Q : List D → Cs → Prop} (I : List D → List D → Cs → Prop) (hd : ∀ acc c, I [] acc c → Q acc c)
    (ht : ∀ d ds acc c, I (d :: ds) acc c → Ok (g d lw c) fun l1 c1 => Ok (p l1 c1) fun k c2 => match k with
      | true => Ok (e l1 c2) fun x c3 => acc.length < sizeLine ∧ I ds (acc ++ [x]) c3
      | false => I ds acc c2) : ∀ ds acc c, I ds acc c → Ok (compD g p e lw ds acc c) Q
  | [], acc, c, h => ⟨_, _, rfl, hd acc c h⟩
  | d :: ds, acc, c, h => by
    obtain ⟨l1, c1, e1, k, c2, e2, q⟩ := ht d ds acc c h
    unfold compD
    rw [e1]
    simp only [R.nox_ok, R.bind_ok]
    rw [e2]
    simp only [R.nox_ok, R.bind_ok]
    cases k with
    | true =>
      obtain ⟨x, c3, e3, hz, q⟩ := q
      simp only []
      rw [e3]
      simp only [R.nox_ok, R.bind_ok]
      rw [if_pos hz]
      exact comp_ok I hd ht ds _ _ q
    | false => exact comp_ok I hd ht ds _ _ q
end

/-! ### the box that a law draws from -/
def Bx (c : Cs) (k : Nat) (n : Int) : Prop := ∃ a b z : Int, c[k]? = some (.lst [.int a, .int b, .int z]) ∧ 0 ≤ a ∧ 0 ≤ b ∧ b < 2147483629 ∧ 0 ≤ z ∧ z ≤ n

theorem ok_il {l : Ls} {c : Cs} {a : ME} {Q : List D → Cs → Prop} (h : Ok (a l c) fun x c1 => ∃ ds, x = .lst ds ∧ Q ds c1) : Ok (iLst a l c) Q := ok_ilst (h.mono fun _ _ h => Or.inl h)
theorem os_fcons {g : MG} {f : MS} {d : D} {ds : List D} {l : Ls} {c : Cs} {Q : Fl → Cs → Prop} (h : Ok (g d l c) fun l1 c1 => OkS (f l1 c1) fun fl c2 => match fl with
    | .nx l2 => OkS (forD g f ds l2 c2) Q
    | .ct l2 => OkS (forD g f ds l2 c2) Q
    | .bk l2 => Q (.nx l2) c2
    | .rt d => Q (.rt d) c2) : OkS (forD g f (d :: ds) l c) Q := by
  obtain ⟨l1, c1, e1, fl, c2, e2, q⟩ := h
  unfold forD
  rw [e1]
  simp only [R.seq_ok]
  rw [e2]
  cases fl with
  | nx l2 => exact q
  | ct l2 => exact q
  | bk l2 => exact ⟨_, _, rfl, q⟩
  | rt d => exact ⟨_, _, rfl, q⟩
theorem os_fnil {g : MG} {f : MS} {l : Ls} {c : Cs} {Q : Fl → Cs → Prop} (h : Q (.nx l) c) : OkS (forD g f [] l c) Q := ⟨_, _, rfl, h⟩
theorem rangeL_mem {lo : Int} {n : Nat} {d : D} (h : d ∈ rangeL lo n) : ∃ i : Nat, i < n ∧ d = .int (lo + i) := by
  obtain ⟨i, h1, rfl⟩ := List.mem_map.mp h
  exact ⟨i, List.mem_range.mp h1, rfl⟩
theorem rangeL_len {lo : Int} {n : Nat} : (rangeL lo n).length = n := by simp [rangeL]
/-! ### texts: their lengths, their signs -/
def SB (n : Nat) (s : Str) : Prop := s.length ≤ n ∧ ∀ k ∈ s.cps.toList, k < 1114112
theorem SB.mono {n m : Nat} {s : Str} (h : SB n s) (hm : n ≤ m) : SB m s := ⟨Nat.le_trans h.1 hm, h.2⟩
theorem SB.app {n m : Nat} {s t : Str} (h : SB n s) (g : SB m t) : SB (n + m) (s ++ t) := by
  refine ⟨?_, fun k hk => ?_⟩
  · rw [Str.length_append]
    exact Nat.add_le_add h.1 g.1
  · have e : (s ++ t).cps.toList = s.cps.toList ++ t.cps.toList := Array.toList_append
    rw [e] at hk
    rcases List.mem_append.mp hk with q | q
    · exact h.2 k q
    · exact g.2 k q
theorem SB.cut {n : Nat} {s : Str} (lo hi : Option Int) (h : SB n s) : SB n (cutS s lo hi) := by
  refine ⟨?_, fun k hk => h.2 k ?_⟩
  · have := h.1
    have e : (cutS s lo hi).length = ((s.cps.toList.drop (HT.sIx s.length 0 lo)).take (HT.sIx s.length s.length hi - HT.sIx s.length 0 lo)).length := List.size_toArray
    rw [e, List.length_take, List.length_drop]
    have e2 : s.cps.toList.length = s.length := Array.length_toList
    omega
  · unfold cutS at hk
    simp only [List.toList_toArray] at hk
    exact List.mem_of_mem_drop (List.mem_of_mem_take hk)
theorem SB.one {k : Nat} (h : k < 1114112) : SB 1 ⟨#[k]⟩ := ⟨Nat.le_refl _, fun x hx => by simp at hx; omega⟩
theorem ok_add_str {s t : Str} {c : Cs} {Q : D → Cs → Prop} (h : s.length + t.length ≤ sizeLine) (q : Q (.str (s ++ t)) c) : Ok (addD (.str s) (.str t) c) Q := ⟨_, _, if_pos h, q⟩
theorem ok_add_lst {s t : List D} {c : Cs} {Q : D → Cs → Prop} (h : s.length + t.length ≤ sizeLine) (q : Q (.lst (s ++ t)) c) : Ok (addD (.lst s) (.lst t) c) Q := ⟨_, _, if_pos h, q⟩
theorem ok_slice_str {s : Str} {i j : Option Int} {c : Cs} {Q : D → Cs → Prop} (h : s.length ≤ sizeLine) (q : Q (.str (cutS s i j)) c) : Ok (sliceD (.str s) i j c) Q := ⟨_, _, if_pos h, q⟩
theorem ok_item_lst {xs : List D} {i : Int} {c : Cs} {Q : D → Cs → Prop} (h0 : 0 ≤ i) (h : i < xs.length) (q : ∀ d, xs[i.toNat]? = some d → Q d c) : Ok (itemD (.lst xs) (.int i) c) Q := by
  have hl : i.toNat < xs.length := by omega
  refine ⟨xs[i.toNat], c, ?_, q _ (List.getElem?_eq_getElem hl)⟩
  simp [itemD, itL, atI, ixN, h0, h, List.getElem?_eq_getElem hl]
theorem ok_item_mem {xs : List D} {i : Int} {c : Cs} {Q : D → Cs → Prop} (h0 : 0 ≤ i) (h : i < xs.length) (q : ∀ d ∈ xs, Q d c) : Ok (itemD (.lst xs) (.int i) c) Q := ok_item_lst h0 h fun d hd => q d (List.mem_of_getElem? hd)
def intB : D → Bool
  | .int _ => true
  | _ => false
theorem ok_item_int {xs : List D} {i : Int} {c : Cs} {Q : D → Cs → Prop} (ha : xs.all intB = true) (h0 : 0 ≤ i) (h : i < xs.length) (q : ∀ z : Int, Q (.int z) c) : Ok (itemD (.lst xs) (.int i) c) Q := ok_item_mem h0 h fun d hd => by
  have z := List.all_eq_true.mp ha d hd
  cases d with
  | int i => exact q i
  | _ => cases z
theorem ok_item_str {s : Str} {i : Int} {c : Cs} {Q : D → Cs → Prop} (hs : s.length ≤ sizeLine) (h0 : 0 ≤ i) (h : i < s.length) (q : ∀ k ∈ s.cps.toList, Q (.str ⟨#[k]⟩) c) : Ok (itemD (.str s) (.int i) c) Q := by
  have e2 : s.cps.toList.length = s.length := Array.length_toList
  have hl : i.toNat < s.cps.toList.length := by omega
  have ha : atI s.cps.toList i = some s.cps.toList[i.toNat] := by
    simp only [atI, ixN, if_pos h0, e2, if_pos h, Option.bind_some, List.getElem?_eq_getElem hl]
  refine ⟨_, c, ?_, q _ (List.getElem_mem hl)⟩
  show fits s.length _ = _
  unfold fits
  rw [if_pos hs, ha]
theorem ok_len_str {s : Str} {c : Cs} {Q : D → Cs → Prop} (h : s.length ≤ sizeLine) (q : Q (.int s.length) c) : Ok (lenD [.str s] c) Q := ⟨_, _, by simp [lenD, lenC, h], q⟩
theorem ok_join {s : Str} {ys : List Str} {ds : List D} {c : Cs} {Q : D → Cs → Prop} (e : strsOf ds = some ys) (h : (ys.map (·.length)).sum + ys.length * s.length ≤ 16777216) (q : Q (.str (Txt.join s ys)) c) : Ok (joinD (.str s) (.lst ds) c) Q :=
  ⟨_, _, by simp only [joinD, joinL, e, if_pos h], q⟩
theorem strs_ones : ∀ ks : List Nat, strsOf (ks.map fun k => .str ⟨#[k]⟩) = some (ks.map fun k => ⟨#[k]⟩)
  | [] => rfl
  | k :: ks => by simp [strsOf, strs_ones ks]
theorem join_ones' (ks : List Nat) : Txt.join ("" : Str) (ks.map fun k => (⟨#[k]⟩ : Str)) = ⟨ks.toArray⟩ := by
  show Builtin.Str.glued _ _ = _
  rw [StrLaws.glued_eq_join]
  exact join_ones ks
section
variable {l : Ls} {c : Cs} {Q : D → Cs → Prop} {a b e : ME} {t tk : MA} {QS : Fl → Cs → Prop}
theorem ok_bm {g : D → List D → Cs → R D} (h : Ok (a l c) fun x c1 => isL x c1 = true ∧ Ok (t l c1) fun xs c2 => Ok (g x xs c2) Q) : Ok (mBM g a t l c) Q := Ok.bind (h.mono fun x c1 ⟨h1, h2⟩ => by
  rw [if_pos h1]
  exact Ok.bind h2)
theorem ok_gs {o i : ME} {d : D} {Q : Ls → Cs → Prop} (h : Ok (o l c) fun x c1 => Ok (i l c1) fun y c2 => Ok (putD x y d c2) fun _ c3 => Q l c3) : Ok (gS o i d l c) Q := Ok.bind (h.mono fun _ _ h => Ok.bind (h.mono fun _ _ h => Ok.bind (h.mono fun _ _ h => ⟨_, _, rfl, h⟩)))
theorem ok_cbd {g : List D → Cs → R D} {n : Nat} {df : List D} (h : Ok (t l c) fun xs c1 => xs.length = n ∧ Ok (g (xs ++ df) c1) Q) : Ok (mCBd g n df t l c) Q := Ok.bind (h.mono fun x c1 ⟨h1, h2⟩ => by
  rw [if_pos h1]
  exact h2)
theorem ok_cbk {g : List D → Cs → R D} {gd : List D → List D → List D} {n j : Nat} (h : Ok (t l c) fun xs c1 => Ok (tk l c1) fun ys c2 => (xs.length = n ∧ ys.length = j) ∧ Ok (g (gd xs ys) c2) Q) : Ok (mCBk g gd n j t tk l c) Q :=
  Ok.bind (h.mono fun x c1 h => Ok.bind (h.mono fun y c2 ⟨h1, h2⟩ => by
    rw [if_pos h1]
    exact h2))
theorem os_ifNm {i : Nat} {h : D → D → Cs → R D} {f g : MS} (q : Ok (a l c) fun x c1 => Ok (b (l.set i (some x)) c1) fun y c2 => Ok (h x y c2) fun z c3 => ∃ k, z = .bl k ∧ (k = true → OkS (f (l.set i (some x)) c3) QS) ∧ (k = false → OkS (g (l.set i (some x)) c3) QS)) :
    OkS (sIfNm i h a b f g l c) QS := OkS.seq (q.mono fun x c1 q => OkS.seq (q.mono fun y c2 q => OkS.seq (q.mono fun z c3 ⟨k, e, h1, h2⟩ => by
  subst e
  cases k with
  | true => exact h1 rfl
  | false => exact h2 rfl)))
theorem isL_ref {k : Nat} {xs : List D} (h : c[k]? = some (.lst xs)) : isL (.ref k) c = true := by
  have e : lstOf (.ref k) c = (match c[k]? with
    | some (.lst xs) => some xs
    | _ => none) := rfl
  unfold isL
  rw [e, h]
  rfl
theorem ok_append {k : Nat} {xs : List D} {y : D} (h : c[k]? = some (.lst xs)) (hz : xs.length < sizeLine) (q : Q .non (c.set k (.lst (xs ++ [y])))) : Ok (appendD (.ref k) [y] c) Q := by
  have e : appendD (.ref k) [y] c = (match c[k]? with
    | some (.lst xs) => if xs.length < sizeLine then .ok .non (c.set k (.lst (xs ++ [y]))) else .stuck
    | _ => .stuck) := rfl
  refine ⟨_, _, ?_, q⟩
  rw [e, h]
  exact if_pos hz
end
end L2.Mi

namespace L2.Mi
open PySem PySem.Spec PyProof.Rows L2
/-! ### how long a shown value is -/
mutual
def wP : PyData → Nat
  | .none => 4
  | .bool _ => 5
  | .int _ => 45
  | .str s => 10 * s.length + 2
  | .list xs => wPs xs + 2
  | .tuple xs => wPs xs + 3
  | .dict kvs => wPk kvs + 2
def wPs : List PyData → Nat
  | [] => 0
  | x :: xs => wP x + 2 + wPs xs
def wPk : List (PyData × PyData) → Nat
  | [] => 0
  | (k, v) :: r => wP k + wP v + 4 + wPk r
end
mutual
def bP : PyData → Bool
  | .none => true
  | .bool _ => true
  | .int i => decide (i.natAbs < 10 ^ 40)
  | .str s => s.cps.toList.all fun k => decide (k < 1114112)
  | .list xs => bPs xs
  | .tuple xs => bPs xs
  | .dict kvs => bPk kvs
def bPs : List PyData → Bool
  | [] => true
  | x :: xs => bP x && bPs xs
def bPk : List (PyData × PyData) → Bool
  | [] => true
  | (k, v) :: r => bP k && bP v && bPk r
end
theorem join_le : ∀ ts : List Str, (Str.join ", " ts).length ≤ piled ts
  | [] => Nat.zero_le _
  | t :: ts => by have := join_length_add (t :: ts) (by simp); omega
theorem textFrom_pile : ∀ (ts : List Str) (k : Nat) (acc : Str), (textFrom k acc ts).length ≤ acc.length + piled ts
  | [], k, acc => by simp [textFrom]
  | t :: ts, k, acc => by
    have ih := textFrom_pile ts (k + 1) (acc ++ (if k > 0 then ", " else "" : String) ++ t)
    have e : (acc ++ (if k > 0 then ", " else "" : String) ++ t).length = acc.length + (if k > 0 then 2 else 0) + t.length := by
      rw [strLen_append, strLen_append]
      split <;> rfl
    rw [e] at ih
    have e3 : textFrom k acc (t :: ts) = textFrom (k + 1) (acc ++ (if k > 0 then ", " else "" : String) ++ t) ts := rfl
    rw [e3, piled_cons]
    have e4 : (if k > 0 then 2 else 0) ≤ 2 := by split <;> omega
    omega
mutual
theorem shown_w : ∀ p : PyData, bP p = true → p.showable = true ∧ p.shown.length ≤ wP p
  | .none, _ => ⟨rfl, by decide +kernel⟩
  | .bool b, _ => ⟨rfl, by cases b <;> decide +kernel⟩
  | .int i, h => by
    have h : i.natAbs < 10 ^ 40 := of_decide_eq_true h
    have h3 : (10 : Nat) ^ 40 < 2 ^ 1920 := by decide +kernel
    refine ⟨?_, ?_⟩
    · show decide (i.natAbs.log2 < 1920) = true
      by_cases h0 : i.natAbs = 0
      · rw [h0]; decide
      · exact decide_eq_true ((Nat.log2_lt h0).mpr (by omega))
    · have hl := int_text_length_le10 (k := 40) (by decide) h
      show (Str.ofString (toString i)).length ≤ 45
      have e : (Str.ofString (toString i)).cps.toList = (toString i).toList.map Char.toNat := by first | exact signs_ofString _ | exact PyProof.Rows.signs_ofString _ | exact PySem.signs_ofString _ | exact PySem.W.signs_ofString _
      have e2 : (Str.ofString (toString i)).length = (Str.ofString (toString i)).cps.toList.length := Array.length_toList.symm
      rw [e2, e, List.length_map, String.length_toList]
      omega
  | .str s, h => by
    refine ⟨rfl, ?_⟩
    have r := StrLaws.reprText_len s fun k hk => by
      have := of_decide_eq_true (List.all_eq_true.mp h k (by simpa using hk))
      omega
    show (reprText s).length ≤ 10 * s.length + 2
    omega
  | .list xs, h => by
    obtain ⟨h1, h2⟩ := shown_ws xs h
    refine ⟨h1, ?_⟩
    show (listText (PyData.shownAll xs)).length ≤ wPs xs + 2
    unfold listText
    rw [strLen_append]
    have q := textFrom_pile (PyData.shownAll xs) 0 "["
    have a : ("[" : Str).length = 1 := rfl
    have b : ("]" : Str).length = 1 := rfl
    omega
  | .tuple xs, h => by
    obtain ⟨h1, h2⟩ := shown_ws xs h
    refine ⟨h1, ?_⟩
    show (tupleText (PyData.shownAll xs)).length ≤ wPs xs + 3
    unfold tupleText
    rw [strLen_append, strLen_append]
    have q := join_le (PyData.shownAll xs)
    have a : ("(" : Str).length = 1 := rfl
    have b : (if (PyData.shownAll xs).length == 1 then ",)" else ")" : String).length ≤ 2 := by split <;> decide
    have b2 : (Str.ofString (if (PyData.shownAll xs).length == 1 then ",)" else ")" : String)).length ≤ 2 := by split <;> decide
    omega
  | .dict kvs, h => by
    obtain ⟨h1, h2⟩ := shown_wk kvs h
    refine ⟨h1, ?_⟩
    show (dictText (PyData.shownKv kvs)).length ≤ wPk kvs + 2
    unfold dictText
    rw [strLen_append, strLen_append]
    have q := join_le (PyData.shownKv kvs)
    have a : ("{" : Str).length = 1 := rfl
    have b : ("}" : Str).length = 1 := rfl
    omega
theorem shown_ws : ∀ ps : List PyData, bPs ps = true → PyData.showableAll ps = true ∧ piled (PyData.shownAll ps) ≤ wPs ps
  | [], _ => ⟨rfl, by decide⟩
  | p :: ps, h => by
    obtain ⟨a, b⟩ := Bool.and_eq_true_iff.mp h
    obtain ⟨h1, h2⟩ := shown_w p a
    obtain ⟨h3, h4⟩ := shown_ws ps b
    refine ⟨by show (PyData.showable p && PyData.showableAll ps) = true; rw [h1, h3]; rfl, ?_⟩
    show piled (p.shown :: PyData.shownAll ps) ≤ wP p + 2 + wPs ps
    rw [piled_cons]
    omega
theorem shown_wk : ∀ ps : List (PyData × PyData), bPk ps = true → PyData.showableKv ps = true ∧ piled (PyData.shownKv ps) ≤ wPk ps
  | [], _ => ⟨rfl, by decide⟩
  | (k, v) :: ps, h => by
    obtain ⟨ab, b⟩ := Bool.and_eq_true_iff.mp h
    obtain ⟨a, a2⟩ := Bool.and_eq_true_iff.mp ab
    obtain ⟨h1, h2⟩ := shown_w k a
    obtain ⟨g1, g2⟩ := shown_w v a2
    obtain ⟨h3, h4⟩ := shown_wk ps b
    refine ⟨by show (PyData.showable k && PyData.showable v && PyData.showableKv ps) = true; rw [h1, g1, h3]; rfl, ?_⟩
    show piled ((k.shown ++ ": " ++ v.shown) :: PyData.shownKv ps) ≤ wP k + wP v + 4 + wPk ps
    rw [piled_cons, strLen_append, strLen_append]
    have e : (Str.ofString ": ").length = 2 := rfl
    omega
end
theorem okR_w {p : PyData} (h1 : bP p = true) (h2 : wP p ≤ 16777216) (h3 : p.depth ≤ 60) : okR p = true := by
  obtain ⟨a, b⟩ := shown_w p h1
  have hz : sizeLine = 16777216 := sizeLine_eq
  simp only [okR, Bool.and_eq_true, decide_eq_true_eq]
  exact ⟨⟨h3, a⟩, by omega⟩
end L2.Mi

/-! plain reasoning about walks of whatever stands there -/
namespace L2.Mi
open PySem PySem.Spec PyProof.Rows L2
theorem wAny_seq {x : D} {c : Cs} {xs : List D} (h : seqOf x c = some xs) : ∃ w, wAny x c = .ok w c ∧ ∀ i, w i c = some xs[i]? := by
  cases x with
  | lst ys => cases h; exact ⟨_, rfl, fun _ => rfl⟩
  | tup ys => cases h; exact ⟨_, rfl, fun _ => rfl⟩
  | ro ys => cases h; exact ⟨_, rfl, fun _ => rfl⟩
  | ref k =>
    have h : (match c[k]? with
      | some (.lst xs) => some xs
      | _ => none) = some xs := h
    cases q : c[k]? with
    | none => rw [q] at h; cases h
    | some y =>
      rw [q] at h
      cases y with
      | lst ys =>
        cases h
        have e : cellL k c = some xs := by unfold cellL; rw [q]
        refine ⟨cellW k, ?_, fun i => ?_⟩
        · show (match cellL k c with
            | some _ => (.ok (cellW k) c : R Wk)
            | none => .stuck) = _
          rw [e]
        · unfold cellW
          rw [e]
      | _ => cases h
  | _ => cases h
theorem wAny_str {s : Str} {c : Cs} : wAny (.str s) c = .ok (fixW (chrs s)) c := rfl
theorem compW_pure {g : MG} {t : MT} {e : ME} {lw : Ls} {w : Wk} {c : Cs} {xs : List D} {P : D → Bool} {F : D → D} {lt : D → Ls} (hw : ∀ i, w i c = some xs[i]?) (h : ∀ d ∈ xs, g d lw c = .ok (lt d) c ∧ t (lt d) c = .ok (P d) c ∧ (P d = true → e (lt d) c = .ok (F d) c)) :
    ∀ (k n i : Nat) (acc : List D), xs.length - i = k → k < n → acc.length + k ≤ sizeLine → compW g t e lw w n i acc c = .ok (acc ++ ((xs.drop i).filter P).map F) c
  | 0, 0, i, acc, hk, hn, hl => absurd hn (Nat.lt_irrefl _)
  | 0, n + 1, i, acc, hk, hn, hl => by
    have hi : xs.length ≤ i := by omega
    unfold compW
    rw [hw, List.getElem?_eq_none hi, List.drop_eq_nil_of_le hi]
    simp
  | k + 1, 0, i, acc, hk, hn, hl => absurd hn (by omega)
  | k + 1, n + 1, i, acc, hk, hn, hl => by
    have hi : i < xs.length := by omega
    obtain ⟨h1, h2, h3⟩ := h xs[i] (List.getElem_mem hi)
    unfold compW
    rw [hw, List.getElem?_eq_getElem hi, List.drop_eq_getElem_cons hi]
    simp only []
    rw [h1]
    simp only [R.nox_ok, R.bind_ok]
    rw [h2]
    simp only [R.nox_ok, R.bind_ok]
    have ih := fun acc hl => compW_pure hw h k n (i + 1) acc (by omega) (by omega) hl
    cases q : P xs[i] with
    | true =>
      simp only []
      rw [h3 q]
      simp only [R.nox_ok, R.bind_ok]
      rw [if_pos (by omega), ih _ (by simp; omega), List.filter_cons_of_pos q, List.map_cons, List.append_assoc]
      rfl
    | false =>
      simp only []
      rw [ih _ (by omega), List.filter_cons_of_neg (by rw [q]; exact Bool.false_ne_true)]
theorem lcW_pure {it : MK} {js : List Nat} {g : MG} {t : MT} {e : ME} {l : Ls} {c : Cs} {w : Wk} {xs : List D} {P : D → Bool} {F : D → D} {lt : D → Ls} (hit : it l c = .ok w c) (hw : ∀ i, w i c = some xs[i]?) (hl : xs.length ≤ 1000000)
    (h : ∀ d ∈ xs, g d (wipeL l js) c = .ok (lt d) c ∧ t (lt d) c = .ok (P d) c ∧ (P d = true → e (lt d) c = .ok (F d) c)) : mLcW it js g t e l c = .ok (.lst ((xs.filter P).map F)) c := by
  have hz : sizeLine = 16777216 := sizeLine_eq
  unfold mLcW
  rw [hit]
  simp only [R.bind_ok]
  rw [compW_pure hw h xs.length fuelW 0 [] (by omega) (by unfold fuelW; omega) (by simp; omega)]
  simp
/-- a loop over what stands there and stays so -/
theorem OkS.forW {g : MG} {f : MS} {w : Wk} {xs : List D} {Q : Fl → Cs → Prop} (P : List D → Ls → Cs → Prop) (hw : ∀ ds l c, P ds l c → ∀ i, w i c = some xs[i]?) (hd : ∀ l c, P [] l c → Q (.nx l) c)
    (ht : ∀ d ds l c, P (d :: ds) l c → Ok (g d l c) fun l1 c1 => OkS (f l1 c1) fun fl c2 => match fl with
      | .nx l2 => P ds l2 c2
      | .ct l2 => P ds l2 c2
      | .bk l2 => Q (.nx l2) c2
      | .rt d => Q (.rt d) c2) : ∀ (k n i : Nat) (l : Ls) (c : Cs), xs.length - i = k → k < n → P (xs.drop i) l c → OkS (forW g f w n i l c) Q
  | _, 0, i, l, c, hk, hn, h => absurd hn (by omega)
  | 0, n + 1, i, l, c, hk, hn, h => by
    have hi : xs.length ≤ i := by omega
    have e := hw _ _ _ h i
    rw [List.drop_eq_nil_of_le hi] at h
    unfold Mi.forW
    rw [e, List.getElem?_eq_none hi]
    exact ⟨_, _, rfl, hd _ _ h⟩
  | k + 1, n + 1, i, l, c, hk, hn, h => by
    have hi : i < xs.length := by omega
    have e := hw _ _ _ h i
    rw [List.drop_eq_getElem_cons hi] at h
    unfold Mi.forW
    rw [e, List.getElem?_eq_getElem hi]
    obtain ⟨l1, c1, e1, fl, c2, e2, q⟩ := ht _ _ _ _ h
    simp only []
    rw [e1]
    simp only [R.seq_ok]
    rw [e2]
    cases fl with
    | nx l2 => exact OkS.forW P hw hd ht k n (i + 1) l2 c2 (by omega) (by omega) q
    | ct l2 => exact OkS.forW P hw hd ht k n (i + 1) l2 c2 (by omega) (by omega) q
    | bk l2 => exact ⟨_, _, rfl, q⟩
    | rt d => exact ⟨_, _, rfl, q⟩
theorem ok_kany {a : ME} {l : Ls} {c : Cs} {Q : Wk → Cs → Prop} (h : Ok (a l c) fun x c1 => Ok (wAny x c1) Q) : Ok (kAny a l c) Q := Ok.bind h
theorem os_forW {it : MK} {g : MG} {f : MS} {l : Ls} {c : Cs} {QS : Fl → Cs → Prop} (h : Ok (it l c) fun w c1 => OkS (forW g f w fuelW 0 l c1) QS) : OkS (sForW it g f l c) QS := OkS.seq h
theorem mapO_mono {α β : Type} {f g : α → Option β} (h : ∀ a b, f a = some b → g a = some b) : ∀ {xs : List α} {ys : List β}, mapO f xs = some ys → mapO g xs = some ys
  | [], ys, e => e
  | x :: xs, ys, e => by
    unfold mapO at e ⊢
    cases q : f x with
    | none => rw [q] at e; cases e
    | some y =>
      cases q2 : mapO f xs with
      | none => rw [q, q2] at e; cases e
      | some zs => rw [q, q2] at e; rw [h _ _ q, mapO_mono h q2]; exact e
theorem mapO_app {α β : Type} {f : α → Option β} {y : α} {z : β} (hy : f y = some z) : ∀ {xs : List α} {ys : List β}, mapO f xs = some ys → mapO f (xs ++ [y]) = some (ys ++ [z])
  | [], ys, e => by cases e; simp [mapO, hy]
  | x :: xs, ys, e => by
    rw [List.cons_append]
    unfold mapO at e ⊢
    cases q : f x with
    | none => rw [q] at e; cases e
    | some y' =>
      cases q2 : mapO f xs with
      | none => rw [q, q2] at e; cases e
      | some zs => rw [q, q2] at e; rw [mapO_app hy q2]; cases e; rfl
/-- what is read without a cell is read so with any -/
theorem toPyC_free : ∀ {n m : Nat} {c : Cs} {d : D} {p : PyData}, n ≤ m → toPyC n [] d = some p → toPyC m c d = some p
  | 0, m, c, d, p, h, e => by cases e
  | n + 1, 0, c, d, p, h, e => absurd h (by omega)
  | n + 1, m + 1, c, d, p, h, e => by
    have ih := fun a b => toPyC_free (n := n) (m := m) (c := c) (d := a) (p := b) (by omega)
    cases d with
    | lst xs =>
      obtain ⟨ps, e1, rfl⟩ := Option.map_eq_some_iff.mp e
      exact Option.map_eq_some_iff.mpr ⟨ps, mapO_mono ih e1, rfl⟩
    | ro xs =>
      obtain ⟨ps, e1, rfl⟩ := Option.map_eq_some_iff.mp e
      exact Option.map_eq_some_iff.mpr ⟨ps, mapO_mono ih e1, rfl⟩
    | tup xs =>
      obtain ⟨ps, e1, rfl⟩ := Option.map_eq_some_iff.mp e
      exact Option.map_eq_some_iff.mpr ⟨ps, mapO_mono ih e1, rfl⟩
    | dct xs =>
      obtain ⟨ps, e1, rfl⟩ := Option.map_eq_some_iff.mp e
      refine Option.map_eq_some_iff.mpr ⟨ps, mapO_mono (fun a b q => ?_) e1, rfl⟩
      obtain ⟨z, q1, rfl⟩ := Option.map_eq_some_iff.mp q
      exact Option.map_eq_some_iff.mpr ⟨z, ih _ _ q1, rfl⟩
    | ref k => cases e
    | _ => exact e
theorem toPyC_lst {n k : Nat} {c : Cs} {xs : List D} (hk : c[k]? = some (.lst xs)) : toPyC (n + 1) c (.ref k) = (mapO (toPyC n c) xs).map .list := by
  conv => lhs; unfold toPyC
  simp only [hk]
theorem toPyC_dct {n k : Nat} {c : Cs} {xs : List (Key × D)} (hk : c[k]? = some (.dct xs)) : toPyC (n + 1) c (.ref k) = (mapO (fun p => (toPyC n c p.2).map fun q => (kP p.1, q)) xs).map .dict := by
  conv => lhs; unfold toPyC
  simp only [hk]
theorem wPs_app : ∀ (ps : List PyData) (p : PyData), wPs (ps ++ [p]) = wPs ps + wP p + 2
  | [], p => by simp [wPs]
  | q :: ps, p => by
    have := wPs_app ps p
    simp only [List.cons_append, wPs]
    omega
theorem bPs_app : ∀ (ps : List PyData) (p : PyData), bPs ps = true → bP p = true → bPs (ps ++ [p]) = true
  | [], p, _, h => by simp [bPs, h]
  | q :: ps, p, h, h2 => by
    obtain ⟨a, b⟩ := Bool.and_eq_true_iff.mp h
    have := bPs_app ps p b h2
    simp [bPs, a, this]
theorem depth_app : ∀ (ps : List PyData) (p : PyData), PyData.depthAll (ps ++ [p]) ≤ max (PyData.depthAll ps) p.depth
  | [], p => by simp [PyData.depthAll]
  | q :: ps, p => by
    have := depth_app ps p
    simp only [List.cons_append, PyData.depthAll]
    omega

theorem bx_app {c : Cs} {k : Nat} {n : Int} (h : Bx c k n) (x : Cs) : Bx (c ++ x) k n := by
  obtain ⟨a, b, z, h, r⟩ := h
  exact ⟨a, b, z, by rw [List.getElem?_append_left (List.getElem?_eq_some_iff.mp h).1]; exact h, r⟩
theorem bx_lt {c : Cs} {k : Nat} {n : Int} (h : Bx c k n) : k < c.length := by
  obtain ⟨a, b, z, h, r⟩ := h
  exact (List.getElem?_eq_some_iff.mp h).1
theorem bx_at {c c' : Cs} {k : Nat} {n : Int} (h : Bx c k n) (e : c'[k]? = c[k]?) : Bx c' k n := by
  obtain ⟨a, b, z, h, r⟩ := h
  exact ⟨a, b, z, by rw [e]; exact h, r⟩
theorem bx_set {c : Cs} {k j : Nat} {n : Int} (h : Bx c k n) (hj : j ≠ k) (x : Cell) : Bx (c.set j x) k n := by
  obtain ⟨a, b, z, h, r⟩ := h
  exact ⟨a, b, z, by rw [List.getElem?_set_ne hj]; exact h, r⟩
theorem compW_fix {g : MG} {t : MT} {e : ME} {lw : Ls} {ds : List D} : ∀ (k n i : Nat) (acc : List D) (c : Cs), ds.length - i = k → k < n → compW g t e lw (fixW ds) n i acc c = compD g t e lw (ds.drop i) acc c
  | _, 0, i, acc, c, hk, hn => absurd hn (by omega)
  | 0, n + 1, i, acc, c, hk, hn => by
    have hi : ds.length ≤ i := by omega
    unfold compW fixW
    rw [List.getElem?_eq_none hi, List.drop_eq_nil_of_le hi]
    rfl
  | k + 1, n + 1, i, acc, c, hk, hn => by
    have hi : i < ds.length := by omega
    have ih := fun acc c => compW_fix (g := g) (t := t) (e := e) (lw := lw) (ds := ds) k n (i + 1) acc c (by omega) (by omega)
    rw [List.drop_eq_getElem_cons hi]
    unfold compW compD
    rw [show fixW ds i c = some (some ds[i]) by unfold fixW; rw [List.getElem?_eq_getElem hi]]
    simp only [ih] <;> rfl
theorem forW_fix {g : MG} {f : MS} {ds : List D} : ∀ (k n i : Nat) (l : Ls) (c : Cs), ds.length - i = k → k < n → forW g f (fixW ds) n i l c = forD g f (ds.drop i) l c
  | _, 0, i, l, c, hk, hn => absurd hn (by omega)
  | 0, n + 1, i, l, c, hk, hn => by
    have hi : ds.length ≤ i := by omega
    unfold Mi.forW fixW
    rw [List.getElem?_eq_none hi, List.drop_eq_nil_of_le hi]
    rfl
  | k + 1, n + 1, i, l, c, hk, hn => by
    have hi : i < ds.length := by omega
    have ih := fun l c => forW_fix (g := g) (f := f) (ds := ds) k n (i + 1) l c (by omega) (by omega)
    rw [List.drop_eq_getElem_cons hi]
    unfold Mi.forW forD
    rw [show fixW ds i c = some (some ds[i]) by unfold fixW; rw [List.getElem?_eq_getElem hi]]
    simp only [ih] <;> rfl
theorem os_forL {it : MK} {g : MG} {f : MS} {l : Ls} {c : Cs} {QS : Fl → Cs → Prop} {ds : List D} (hl : ds.length ≤ 1000000) (h : it l c = .ok (fixW ds) c) (q : OkS (forD g f ds l c) QS) : OkS (sForW it g f l c) QS := by
  refine os_forW (Ok.of h ?_)
  rw [forW_fix ds.length fuelW 0 l c (by omega) (by unfold fuelW; omega)]
  exact q
theorem ok_lcL {it : MK} {js : List Nat} {g : MG} {t : MT} {e : ME} {l : Ls} {c : Cs} {Q : D → Cs → Prop} {ds : List D} (hl : ds.length ≤ 1000000) (h : it l c = .ok (fixW ds) c) (q : Ok (compD g t e (wipeL l js) ds [] c) fun xs c2 => Q (.lst xs) c2) : Ok (mLcW it js g t e l c) Q := by
  unfold mLcW
  rw [h]
  simp only [R.bind_ok]
  rw [compW_fix ds.length fuelW 0 [] c (by omega) (by unfold fuelW; omega)]
  exact Ok.bind (q.mono fun _ _ h => ⟨_, _, rfl, h⟩)
end L2.Mi

/-! x.translate(table), the table a tracked dict of numbers -/
namespace PySem
open Builtin Builtin.Str
theorem mapOf_keepsM {prog : Program} {w : World} {K : Type} [DecidableEq K] {knd : KeyKind prog w K} {h h' : Heap} {a : Addr} {f : K → Option Value} (m : h.MapOf knd a f) (k : ∀ b o, h.get? b = some o → h'.get? b = some o) : h'.MapOf knd a f := by
  obtain ⟨o, es, ep, ho, r⟩ := m
  exact ⟨o, es, ep, k _ _ ho, r⟩
/-- what the table tells of a sign -/
def TellsG (f : L2.Key → Option Value) (g : Nat → Nat) : Prop := ∀ c : Nat, (g c < 128 ∧ ∃ t, f (.inl (c : Int)) = some (.int (g c : Int) t)) ∨ (g c = c ∧ f (.inl (c : Int)) = none)
section
variable {prog : Program} {w : World} {A : Around} {E : Value → Shared → Prop} {s : Shared} {d : Addr} {c : Nat} {g : Nat → Nat}
theorem wpAny_tlG {f : L2.Key → Option Value} {Q : Mapped → Shared → Prop} (hh : A.handled = none) (hd : (d == sysModules) = false) (hm : s.heap.MapOf (L2.mixKind prog w) d f) (hk : TellsG f g)
    (h1 : g c < 128 → ∀ h' k, (∀ b o, s.heap.get? b = some o → h'.get? b = some o) → Q (.char (g c)) { s with heap := h', toks := k })
    (h2 : g c = c → ∀ h' k, (∀ b o, s.heap.get? b = some o → h'.get? b = some o) → Q .keep { s with heap := h', toks := k }) : wpAny (model prog w) A (tableLookup (.ref d) c) Q E s := by
  unfold tableLookup
  refine wpAny_bind (wpAny_attempt (wpAny_bind (wpAny_mkInt ?_)))
  rcases hk c with ⟨hw, t, hf⟩ | ⟨hw, hf⟩
  · refine wpAny_getItem_of (knd := L2.mixKind prog w) (k := .inl (c : Int)) (L2.mixKind_int _ _ _ _) hm hf ?_
    show wpAny _ _ (do let o ← asInt? (Value.int (g c : Int) t); _) _ _ _
    refine wpAny_bind (wpAny_of_eq (a := some (g c : Int)) rfl ?_)
    show wpAny _ _ (if (decide (((g c : Nat) : Int) < 0) || decide (((g c : Nat) : Int) > 0x10FFFF)) = true then _ else pure (Mapped.char ((g c : Nat) : Int).toNat)) _ _ _
    rw [if_neg (by
      rw [Bool.or_eq_true, not_or]
      exact ⟨by rw [decide_eq_true_iff]; omega, by rw [decide_eq_true_iff]; omega⟩), Int.toNat_natCast]
    exact wpAny_pure (h1 hw s.heap _ fun _ _ e => e)
  · refine wpAny_getItem_missing_of (knd := L2.mixKind prog w) (k := .inl (c : Int)) (L2.mixKind_int _ _ _ _) hd hh hm hf fun h' e hx => ?_
    show wpAny _ _ (do let b ← isInstance (.ref e) (.type "LookupError"); _) _ _ _
    obtain ⟨ob, t, ho, hc, _⟩ := hx.there
    refine wpAny_bind (wpAny_isInstance (T := "KeyError") (b := true) ⟨ob, ho, hc⟩ key_is_lookup ?_)
    show wpAny _ _ (if true = true then (do rule "str.translate.not-in-table"; pure Mapped.keep) else _) _ _ _
    rw [if_pos rfl]
    exact wpAny_bind (wpAny_rule (wpAny_pure (h2 hw h' _ hx.keeps)))
end
theorem pieces_cpsG (g : Nat → Nat) : ∀ (l : List Nat) (acc : Array Nat), List.foldl (fun acc (p : Str) => acc ++ p.cps) acc (l.map fun c => (⟨#[g c]⟩ : Str)) = acc ++ (l.map g).toArray
  | [], acc => by
    show acc = acc ++ #[]
    rw [Array.append_empty]
  | c :: l, acc => by
    rw [List.map_cons, List.foldl_cons, pieces_cpsG g l]
    apply Array.toList_inj.mp
    simp
def TrAtG (g : Nat → Nat) (x : List Nat) (fast0 : Bool) (s : Shared) (rest : List Nat) (st : List Str × Nat × Bool × List (Nat × Option Nat) × Bool) (s' : Shared) : Prop :=
  ∃ (past : List Nat) (pieces : List Str) (known : List (Nat × Option Nat)) (h' : Heap) (k : Nat), x = past ++ rest ∧ st = (pieces, past.length, fast0, known, false) ∧ pieces.reverse = past.map (fun c => (⟨#[g c]⟩ : Str)) ∧
    (∀ c a, List.lookup c known = some a → a = some (g c)) ∧ s' = { s with heap := h', toks := k } ∧ ∀ b o, s.heap.get? b = some o → h'.get? b = some o
theorem TrAtG.next {g : Nat → Nat} {x : List Nat} {fast0 : Bool} {s : Shared} {rest past : List Nat} {c : Nat} {pieces : List Str} {known : List (Nat × Option Nat)} {h' : Heap} {k : Nat} (h1 : x = past ++ c :: rest)
    (h3 : pieces.reverse = past.map (fun c => (⟨#[g c]⟩ : Str))) (h4 : ∀ c a, List.lookup c known = some a → a = some (g c)) (h6 : ∀ b o, s.heap.get? b = some o → h'.get? b = some o) :
    TrAtG g x fast0 s rest (⟨#[g c]⟩ :: pieces, past.length + 1, fast0, known, false) { s with heap := h', toks := k } := by
  refine ⟨past ++ [c], ⟨#[g c]⟩ :: pieces, known, h', k, ?_, ?_, ?_, h4, rfl, h6⟩
  · rw [h1, List.append_assoc] <;> rfl
  · rw [List.length_append] <;> rfl
  · rw [List.reverse_cons, h3, List.map_append] <;> rfl
theorem meets_translateG {prog : Program} {w : World} (g : Nat → Nat) (x : List Nat) (t : Tok) (d : Addr) (hd : (d == sysModules) = false) (hz : x.length ≤ 16000000) : MeetsIn prog w («str.translate» ⟨[.str (SX.S x) t, .ref d], []⟩) (fun A R s =>
    A.handled = none ∧ (∃ f, s.heap.MapOf (L2.mixKind prog w) d f ∧ TellsG f g) ∧ ∀ (v : Value) (h' : Heap) (k : Nat), (∀ b o, s.heap.get? b = some o → h'.get? b = some o) → (∃ t', v = .str (SX.S (x.map g)) t') → R (.ok (.ret v)) { s with heap := h', toks := k }) := by
  refine .of_wp fun A R s h => ?_
  obtain ⟨hh, ⟨f, hm, hk⟩, h⟩ := h
  have hh1 : A.in1.handled = none := hh
  show wpAny _ _ (if ((SX.S x).length == 0) = true then (do rule "str.translate.empty"; ret (.str (SX.S x) t)) else (do
    let st ← forIn (SX.S x).cps (([], 0, (SX.S x).cps.all fun y => decide (y < 128), [], false) : List Str × Nat × Bool × List (Nat × Option Nat) × Bool) _
    _)) _ _ s
  by_cases h0 : ((SX.S x).length == 0) = true
  · rw [if_pos h0]
    have hx : x = [] := by
      rw [beq_iff_eq, SX.S_len] at h0
      exact List.eq_nil_of_length_eq_zero h0
    subst hx
    exact wpAny_bind (wpAny_rule (wpAny_pure ⟨_, rfl, h _ s.heap s.toks (fun _ _ e => e) ⟨t, rfl⟩⟩))
  · rw [if_neg h0]
    generalize ((SX.S x).cps.all fun y => decide (y < 128)) = fast0
    refine wpAny_bind (MeetsSeq2.wpAny_forIn_array _ (TrAtG g x fast0 s) _ (fun c rest st s' hI => ?turn) (fun st s' hI => ?fin) (SX.S x).cps ([], 0, fast0, [], false) ?h0)
    case h0 =>
      refine ⟨[], [], [], s.heap, s.toks, ?_, rfl, rfl, fun c a z => ?_, rfl, fun _ _ e => e⟩
      · show x = [] ++ x.toArray.toList
        rw [List.toList_toArray, List.nil_append]
      · rw [List.lookup_nil] at z
        cases z
    case turn =>
      obtain ⟨past, pieces, known, h', k, e1, e2, e3, e4, e5, e6⟩ := hI
      subst e2
      subst e5
      have hpl : past.length ≤ 16000000 := by
        have q := congrArg List.length e1
        rw [List.length_append] at q
        omega
      have hm' : ({ s with heap := h', toks := k } : Shared).heap.MapOf (L2.mixKind prog w) d f := mapOf_keepsM hm e6
      show wpAny _ _ (if tooLong past.length = true then _ else (if fast0 = true then _ else _)) _ _ _
      rw [show tooLong past.length = false from PyProof.Rows.short24 (by omega), if_neg Bool.false_ne_true]
      cases fast0 with
      | true =>
        rw [if_pos rfl]
        cases hl : List.lookup c known with
        | some a =>
          have ha := e4 c a hl
          subst ha
          refine wpAny_bind (wpAny_pure ?_)
          exact wpAny_pure (TrAtG.next e1 e3 e4 e6)
        | none =>
          have new : ∀ b, b = some (g c) → ∀ c' a, List.lookup c' ((c, b) :: known) = some a → a = some (g c') := fun b hb c' a z => by
            rcases lookup_new z with ⟨q1, q2⟩ | q
            · rw [q2, hb, q1]
            · exact e4 c' a q
          refine wpAny_bind (wpAny_tlG hh1 hd hm' hk (fun hw h2 k2 k3 => ?_) (fun hw h2 k2 k3 => ?_))
          · dsimp only
            simp only [if_pos hw]
            refine wpAny_bind (wpAny_pure ?_)
            refine wpAny_pure ?_
            exact TrAtG.next (g := g) (fast0 := true) (k := k2) (known := (c, some (g c)) :: known) e1 e3 (new (some (g c)) rfl) (fun b o z => k3 b o (e6 b o z))
          · refine wpAny_bind (wpAny_pure ?_)
            refine wpAny_pure ?_
            have q := TrAtG.next (g := g) (fast0 := true) (k := k2) (known := (c, some c) :: known) e1 e3 (new (some c) (by rw [hw])) (fun b o z => k3 b o (e6 b o z))
            rw [hw] at q
            exact q
      | false =>
        rw [if_neg Bool.false_ne_true]
        show wpAny _ _ (if false = true then _ else _) _ _ _
        rw [if_neg Bool.false_ne_true]
        refine wpAny_bind (wpAny_tlG hh1 hd hm' hk (fun hw h2 k2 k3 => ?_) (fun hw h2 k2 k3 => ?_))
        · refine wpAny_pure ?_
          exact TrAtG.next (fast0 := false) (k := k2) e1 e3 e4 (fun b o z => k3 b o (e6 b o z))
        · refine wpAny_pure ?_
          have q := TrAtG.next (g := g) (fast0 := false) (k := k2) e1 e3 e4 (fun b o z => k3 b o (e6 b o z))
          rw [hw] at q
          exact q
    case fin =>
      obtain ⟨past, pieces, known, h', k, e1, e2, e3, e4, e5, e6⟩ := hI
      subst e2
      subst e5
      have ex : x = past := by rw [e1, List.append_nil]
      show wpAny _ _ (if tooLong past.length = true then _ else retStr { cps := List.foldl (fun acc (p : Str) => acc ++ p.cps) #[] pieces.reverse }) _ _ _
      rw [show tooLong past.length = false from PyProof.Rows.short24 (by rw [← ex]; omega), if_neg Bool.false_ne_true, e3, pieces_cpsG, ← ex]
      have ev : (⟨#[] ++ (x.map g).toArray⟩ : Str) = SX.S (x.map g) := by
        rw [Array.empty_append] <;> rfl
      rw [ev]
      exact wpAny_bind (wpAny_mkStr (wpAny_pure ⟨_, rfl, h _ h' _ e6 ⟨_, rfl⟩⟩) (by rw [SX.S_len, List.length_map, sizeLine_eq]; omega))
end PySem

/-! str.maketrans("01", "10") and x.translate of it -/
namespace PySem
open Builtin Builtin.Str
theorem mk_kind : builtinKind "str.maketrans" = some .staticMethod := by decide +kernel
theorem mk_split : splitId "str.maketrans" = some ("str", "maketrans") := by decide +kernel
theorem mk_plain : plainId "str.maketrans" = true := by decide +kernel
theorem mk_entry : entryFor table "str.maketrans" = some Builtin.«str.maketrans» := entryFor_of_tree (by kernel_rfl)
theorem mk_args (a b : Value) : argsOk "str.maketrans" ⟨[a, b], []⟩ := by unfold argsOk; kernel_rfl
theorem mk_get (K : PySem.W.Frag) : PySem.W.findCls K (.type "str") (.type "type") (PySem.Str.ofString "maketrans") = some (.val (.builtin "str.maketrans")) := by first | rfl | kernel_rfl
section
variable {prog : Program} {w : World} {A : Around} {E : Value → Shared → Prop} {s : Shared}
theorem call_static {id : String} {b : Builtin} {ow nm : String} {args : List Value} {Q : Value → Shared → Prop} (hk : builtinKind id = some .staticMethod) (hs : splitId id = some (ow, nm)) (hp : plainId id = true)
    (hb : entryFor table id = some b) (ha : argsOk id ⟨args, []⟩)
    (hc : wpAny (model prog w) A.in1 (b ⟨args, []⟩) (fun fin s' => ∃ v, fin = .done (.ret v) ∧ Q v s') E s) : wpAny (model prog w) A (call (.builtin id) args) Q E s := by
  refine wpAny_call (codeAny_call_builtin hp hb ?_)
  have hfin := wpAny_mono hc (Q' := fun fin s' => match fin with
      | .done f => (match (Except.ok f : Result) with | .ok (.ret v) => Q v s' | .ok _ => False | .error e => E e s')
      | .again c' => c'.quiet = true ∧ codeAny (model prog w) A c' (fun r s' => match r with | .ok (.ret v) => Q v s' | .ok _ => False | .error e => E e s') s')
    (fun fin s' h' => by obtain ⟨v, rfl, hv⟩ := h'; exact hv) fun _ _ h' => h'
  simp only [checkBuiltinCall, hk, hs]
  cases hsig : Manifest.signature? id with
  | none => exact wpAny_pure hfin
  | some sig =>
    simp only [argsOk, hsig] at ha
    have h2 : Bind.checkArgs id sig ⟨args, []⟩ = pure () := ha
    show wpAny _ A.in1 (Bind.checkArgs id sig ⟨args, []⟩) _ _ s
    rw [h2]; exact wpAny_pure hfin
end
end PySem
namespace L2.Mi
open PySem PySem.Spec PyProof.Rows L2 Builtin Builtin.Str
/-- the table of maketrans("01", "10") -/
abbrev tab01 : List (Key × V) := [(.inl 48, .int 49), (.inl 49, .int 48)]
def exch (c : Nat) : Nat := if c = 48 then 49 else if c = 49 then 48 else c
theorem KV.two {t1 t2 : Tok} : KV tab01 [(.inl 48, Value.int 49 t1), (.inl 49, Value.int 48 t2)] := .cons ⟨rfl, ⟨t1, rfl⟩⟩ (.cons ⟨rfl, ⟨t2, rfl⟩⟩ .nil)
theorem tells01 {vs : List (Key × Value)} (r : KV tab01 vs) : TellsG (valueAt vs) exch := fun c => by
  have q := r.val (.inl (c : Int))
  by_cases h1 : c = 48
  · subst h1
    obtain ⟨w', hw, t, e⟩ := RelO.some_of (v := .int 49) (o := valueAt vs (.inl ((48 : Nat) : Int))) q
    subst e
    exact .inl ⟨by decide, t, hw⟩
  · by_cases h2 : c = 49
    · subst h2
      obtain ⟨w', hw, t, e⟩ := RelO.some_of (v := .int 48) (o := valueAt vs (.inl ((49 : Nat) : Int))) q
      subst e
      exact .inl ⟨by decide, t, hw⟩
    · refine .inr ⟨by unfold exch; rw [if_neg h1, if_neg h2], ?_⟩
      have e : valV tab01 (.inl (c : Int)) = none := by
        rw [valV_neg (by intro e; injection e with e; exact h1 (by omega)), valV_neg (by intro e; injection e with e; exact h2 (by omega))]
        rfl
      rw [e] at q
      cases z : valueAt vs (.inl (c : Int)) with
      | none => rfl
      | some _ => rw [z] at q; exact (show False from q).elim
/-- x.translate(the table) -/
def rTr : V → List V → Hp → VK → Prop := fun x xs H Q => ∃ (t : List Nat) (a : Addr), x = .str (SX.S t) ∧ xs = [.ref a] ∧ H a = some (.dK tab01) ∧ t.length ≤ 16000000 ∧ Q (.str (SX.S (t.map exch))) H
theorem mt_tr {X : Cx} (hc : X.calm = true) : MtR X "str.translate" rTr := by
  intro pins s σ H x xs v us Q I rx rs h
  obtain ⟨a, d, rfl, rfl, hd, h3, h⟩ := h
  obtain ⟨t, rfl⟩ := rx
  cases rs with
  | cons r1 rs =>
    cases rs
    cases r1
    obtain ⟨z, hl, vs, rel, dd⟩ := dk_of I.hok hd
    refine call_meetsIn F.slot_str_translate (typeIs_str _ _ _) F.entry_str_translate (F.args_str_translate_2 _ _) (meets_translateG exch a t d hl h3) ⟨I.ok.hd hc, ⟨_, dd.mapOf, tells01 rel⟩, ?_⟩
    intro v h' k hk ⟨t', e⟩
    subst e
    exact ⟨.str _, H, I.kept (t' := k) hk, ⟨t', rfl⟩, h⟩
end L2.Mi

namespace PySem
open Builtin Builtin.Str
theorem zip01 : (("01" : Str).cps.toList.zip ("10" : Str).cps.toList) = [(48, 49), (49, 48)] := by decide +kernel
theorem mk_run {prog : Program} {w : World} {A : Around} {E : Value → Shared → Prop} {s : Shared} {t1 t2 : Tok} {Q : Fin → Shared → Prop}
    (h : ∀ h' k vs, L2.KV L2.Mi.tab01 vs → h'.DictOf (L2.mixKind prog w) s.heap.objs.size vs → (∀ b o, s.heap.get? b = some o → h'.get? b = some o) → Q (.done (.ret (.ref s.heap.objs.size))) { s with heap := h', toks := k }) :
    wpAny (model prog w) A («str.maketrans» ⟨[.str "01" t1, .str "10" t2], []⟩) Q E s := by
  unfold «str.maketrans»
  refine wpAny_bind (m := noKeywords _ _) (wpAny_pure ?_)
  refine wpAny_bind (m := checkCount _ _ _ _) (wpAny_pure ?_)
  refine wpAny_bind (m := Option.mapM _ _) (wpAny_pure (a := some ("10" : Str)) ?_)
  refine wpAny_bind (m := Option.mapM _ _) (wpAny_pure (a := none) ?_)
  simp only [newDict, newObj]
  refine wpAny_bind (wpAny_bind (wpAny_alloc (wpAny_pure ?_)))
  have D0 : ({ s with heap := s.heap.push { cls := .type "dict", data := .dict #[] } } : Shared).heap.DictOf (L2.mixKind prog w) s.heap.objs.size [] := Heap.DictOf.new s.heap
  dsimp only
  refine wpAny_bind (wpAny_holding ?_)
  refine wpAny_bind (m := asStr? _) (wpAny_pure (a := some ("01" : Str)) ?_)
  dsimp only
  rw [if_neg (by decide +kernel), zip01]
  refine wpAny_bind (?_ : wpAny _ _ _ _ _ _)
  simp only [List.forIn_cons]
  refine wpAny_bind (wpAny_bind (wpAny_mkInt (wpAny_bind (wpAny_mkInt (wpAny_bind ?_)))))
  refine wpAny_dictSet_pairs (knd := L2.mixKind prog w) (k := .inl 48) (L2.mixKind_int _ _ _ _) D0 (fun h1 D1 B1 => ?_) (Nat.zero_le _)
  refine wpAny_pure ?_
  dsimp only
  refine wpAny_bind (wpAny_bind (wpAny_mkInt (wpAny_bind (wpAny_mkInt (wpAny_bind ?_)))))
  refine wpAny_dictSet_pairs (knd := L2.mixKind prog w) (k := .inl 49) (L2.mixKind_int _ _ _ _) D1 (fun h2 D2 B2 => ?_) (by rw [sizeLine_eq]; show (1 : Nat) ≤ _; decide)
  refine wpAny_pure ?_
  dsimp only
  refine wpAny_pure ?_
  refine wpAny_bind (wpAny_pure ?_)
  refine wpAny_pure ?_
  refine wpAny_pure ?_
  refine h h2 _ _ ?_ D2 fun b o e => ?_
  · exact L2.Mi.KV.two
  · have hb : b ≠ s.heap.objs.size := Nat.ne_of_lt (Heap.lt_size e)
    rw [B2.2 b hb, B1.2 b hb]
    exact Heap.get?_push_of_some _ e
end PySem
namespace L2.Mi
open PySem PySem.Spec PyProof.Rows L2 Builtin Builtin.Str
/-- str.maketrans("01", "10") -/
def rMk : List V → Hp → VK → Prop := fun xs H Q => xs = [.str "01", .str "10"] ∧ ∀ p, H p = none → Q (.ref p) (upd H p (.dK tab01))
theorem call_mk {X : Cx} : CallR X (.builtin "str.maketrans") rMk := by
  intro pins s σ H xs us Q I r h
  obtain ⟨rfl, q⟩ := h
  obtain ⟨u, w', rfl, ⟨t1, rfl⟩, ⟨t2, rfl⟩⟩ := vals2 r
  refine call_static mk_kind mk_split mk_plain mk_entry (mk_args _ _) (mk_run fun h' k vs rel D2 keep => ?_)
  refine ⟨_, rfl, .ref s.heap.objs.size, _, I.laid (a := s.heap.objs.size) (o := .dK tab01) (t' := k) (fun b u e => keep b u e) (Nat.le_refl _) ⟨by rw [sizeLine_eq]; decide, beq_eq_false_iff_ne.mpr (Ne.symm (Nat.ne_of_lt I.big)), vs, rel, D2⟩, rfl, q _ (I.hok.fresh (Nat.le_refl _))⟩
section
variable {prog : Program} {w : World} {A : Around} {E : Value → Shared → Prop} {s : Shared} {K : PySem.W.Frag}
theorem mk_getm {pl : Sem Bool} {Q : Value × List Value → Shared → Prop} (X : K.In s.heap)
    (h : Q (.builtin "str.maketrans", []) { s with toks := s.toks + 1 }) : wpAny (model prog w) A (getMethod (.type "str") (PySem.Str.ofString "maketrans") pl) Q E s := by
  have hstub : opaqueClassAbove (.type "str") = pure none := by unfold opaqueClassAbove; dsimp only; rw [show Manifest.isStub "str" = false by decide +kernel]; rfl
  have ht : typeOf (.type "str") = pure (.type "type") := by first | rfl | kernel_rfl
  have L0 : PySem.W.Looks (model prog w) s.heap (typeOf (.type "str")) (.type "type") := PySem.W.Looks.of_pure ht
  have hg : PySem.W.findIn K (.type "type") "__getattribute__" = some (some (.builtin "type.__getattribute__")) := PySem.W.type_tga
  unfold getMethod specialOf
  refine wpAny_bind (wpAny_bind (L0.here ((PySem.W.looks_findIn X hg).here ?_)))
  dsimp only
  rw [if_pos PySem.W.canon_tga]
  refine wpAny_bind (wpAny_mono (Q := fun v => Q (v, [])) (E := E) ?_ (fun _ _ z => wpAny_pure z) fun _ _ z => z)
  have LO : PySem.W.Looks (model prog w) s.heap (opaqueClassAbove (.type "str")) none := PySem.W.Looks.of_pure hstub
  refine PySem.W.cls_open X LO L0 hg (PySem.W.looks_hook X (r := none) (by rfl)) (by show PySem.W.subIn K _ _ = _; rfl) (mk_get K) ?_
  exact wpAny_pure (wpAny_pure h)
end
section
variable {X : Cx} {o e : Expr} {es : List Expr} {to : TE} {t : TA} {apos pos : Pos}
def tMk (to : TE) (t : TA) : TE := fun σ H Q => to σ H fun x H1 => x = .ty "str" ∧ t σ H1 fun vs H2 => rMk vs H2 Q
theorem pe_mk {pl : Sem Bool} (ho : PE X o to) (ha : PA X (e :: es) t) (hst : starEach (e :: es) X.env = (false, eval e X.env) :: starEach es X.env := by rfl) (hpl : (backTo pos (starEach es X.env)).any (·.1) = false := by rfl)
    (ht : eval (.Call (.Attribute o "maketrans" apos) (e :: es) [] pos) X.env = (do
      let ov ← eval o X.env
      standAt apos.atName
      let (f, first) ← holding [ov] (getMethod ov "maketrans" pl)
      callWith pos f first (backTo pos (starEach (e :: es) X.env)) (backToKw pos (keywordEach [] X.env))) := by rfl) :
    PE X (.Call (.Attribute o "maketrans" apos) (e :: es) [] pos) (tMk to t) := by
  refine ⟨fun pins s σ H Q I h => ?_⟩
  refine PySem.W.methodCall_KW (pl := pl) (thn (ho.run pins s σ H _ I h) fun v s1 ⟨x, H1, I1, rx, ex, q⟩ => ?_) ht
  subst ex
  obtain rfl : v = Value.type "str" := rx
  refine mk_getm I1.kIn ?_
  have I2 := I1.tok (s1.toks + 1)
  show wpAny _ _ (callWith pos (.builtin "str.maketrans") [] (backTo pos (starEach (e :: es) X.env)) []) _ _ _
  exact PyProof.Rows.callWith_builtin1 (thn (ha.run pos pins _ σ _ _ I2 q) fun us s2 ⟨vs, H2, I3, rv, hr⟩ => call_mk pins s2 σ H2 vs us Q I3 rv hr) hst hpl
end
end L2.Mi

/-! x.translate(str.maketrans("01", "10")) -/
namespace L2.Mi
open PySem PySem.Spec PyProof.Rows L2
section
variable {X : Cx} {W : WX} {o es : Expr} {fa : ME} {p p1 p2 p3 p4 pos : Pos}
def exchS (s : Str) : Str := SX.S (s.cps.toList.map exch)
def exchD (x : D) (c : Cs) : R D := match x with
  | .str s => if s.length ≤ 16000000 then .ok (.str (exchS s)) c else .stuck
  | _ => .stuck
def mExch (a : ME) : ME := fun l c => (a l c).bind exchD
theorem me_exch {pl : Sem Bool} {j k : Nat} {p5 p6 : Pos} (hc : X.calm = true) (hst : PE X (.Name "str" p) (tC (.ty "str"))) (ho : PE X o (rdE X.K W fa))
    (ht : eval (.Call (.Attribute (.Name "str" p) "maketrans" p1) [.Constant (.str "01") j p5, .Constant (.str "10") k p6] [] p2) X.env = (do
      let ov ← eval (.Name "str" p) X.env
      standAt p1.atName
      let (f, first) ← holding [ov] (getMethod ov "maketrans" pl)
      callWith p2 f first (backTo p2 (starEach [.Constant (.str "01") j p5, .Constant (.str "10") k p6] X.env)) (backToKw p2 (keywordEach [] X.env))) := by rfl)
    (hs : starEach [Expr.Call (.Attribute (.Name "str" p) "maketrans" p1) [.Constant (.str "01") j p5, .Constant (.str "10") k p6] [] p2] X.env = [(false, eval (Expr.Call (.Attribute (.Name "str" p) "maketrans" p1) [.Constant (.str "01") j p5, .Constant (.str "10") k p6] [] p2) X.env)] := by rfl)
    (hbase : attributeBase o "translate" X.env (eval o X.env) = eval o X.env := by rfl) (hline : (p3.endLine == p4.line) = true := by rfl) :
    PE X (.Call (.Attribute o "translate" p3) [.Call (.Attribute (.Name "str" p) "maketrans" p1) [.Constant (.str "01") j p5, .Constant (.str "10") k p6] [] p2] [] p4) (rdE X.K W (mExch fa)) :=
  PEi (pe_m1 F.slot_str_translate F.type_str_translate (mt_tr hc) ho (pe_mk (pl := pl) hst (pa_cons pe_str (pa_cons pe_str pa_nil)) (ht := ht)) hs hbase hline) fun σ H Q ⟨I, m, l, c, R, L, A⟩ =>
    ⟨I, m, l, c, R, L, After.mono (After.bind (rep := rD X.K) A) fun v1 H1 ⟨I1, m1, c1, d1, E1, R1, p1, A1⟩ => by
      cases p1 with
      | str s =>
        have A2 : After (rD X.K) X.K I1 m1 H1 (fun cls dd H' => W cls dd σ H') Q (if s.length ≤ 16000000 then .ok (.str (exchS s)) c1 else .stuck) := A1
        by_cases z : s.length ≤ 16000000
        · rw [if_pos z] at A2
          refine ⟨⟨s, rfl⟩, rfl, rfl, fun q nq => ⟨s.cps.toList, q, ?_, rfl, upd_same, ?_, ?_⟩⟩
          · cases s; rfl
          · cases s with
            | mk a => show a.toList.length ≤ _; rw [Array.length_toList]; exact z
          · obtain ⟨r1, e1⟩ := alloc (o := .dK tab01) R1 nq
            exact A2 _ _ _ _ e1 r1 (.str _)
        · rw [if_neg z] at A2; exact A2.elim
      | _ => exact A1.elim⟩
end
end L2.Mi

/-! pop, insert, reverse, clear of a cell -/
namespace L2.Mi
open PySem PySem.Spec PyProof.Rows L2
section
variable {K : PySem.W.Frag} {I H : Hp} {m : List Addr} {c : Cs}
theorem Reps.dropLast {vs : List V} {ds : List D} (r : Reps K I m vs ds) : Reps K I m vs.dropLast ds.dropLast := by
  rw [List.dropLast_eq_take, List.dropLast_eq_take, r.length]
  exact Reps.take _ r
theorem Reps.eraseIdx {vs : List V} {ds : List D} (i : Nat) (r : Reps K I m vs ds) : Reps K I m (vs.eraseIdx i) (ds.eraseIdx i) := by
  rw [List.eraseIdx_eq_take_drop_succ, List.eraseIdx_eq_take_drop_succ]
  exact Reps.append (Reps.take _ r) (Reps.drop _ r)
theorem Reps.reverse : ∀ {vs : List V} {ds : List D}, Reps K I m vs ds → Reps K I m vs.reverse ds.reverse
  | _, _, .nil => .nil
  | _, _, .cons h t => by
    rw [List.reverse_cons, List.reverse_cons]
    exact Reps.append (Reps.reverse t) (.cons h .nil)
def cellX (x : D) (c : Cs) : Option (Nat × List D) := match x with
  | .ref k => match c[k]? with
    | some (.lst xs) => some (k, xs)
    | _ => none
  | _ => none
theorem cellX_at {v : V} {d : D} {k : Nat} {xs : List D} (R : Rel K I H m c) (p : Rep K I m v d) (q : cellX d c = some (k, xs)) : ∃ a ws, v = .ref a ∧ m[k]? = some a ∧ c[k]? = some (.lst xs) ∧ H a = some (.lst ws) ∧ Reps K I m ws xs := by
  cases p with
  | @ref j a hm =>
    have q : (match c[j]? with
      | some (.lst xs) => some (j, xs)
      | _ => none) = some (k, xs) := q
    cases e : c[j]? with
    | none => rw [e] at q; cases q
    | some x =>
      rw [e] at q
      cases x with
      | lst ys =>
        cases q
        obtain ⟨_, ws, h1, h2⟩ := R.cell _ a _ hm e
        exact ⟨a, ws, rfl, hm, e, h1, h2⟩
      | _ => cases q
  | _ => cases q
/-- a method that changes a list -/
def mutM (f : List D → List D → Option (D × List D)) : D → List D → Cs → R D := fun d ds c => match cellX d c with
  | some (k, xs) => match f ds xs with
    | some (r, ys) => .ok r (c.set k (.lst ys))
    | none => .stuck
  | none => .stuck
def MutS (K : PySem.W.Frag) (r : V → List V → Hp → VK → Prop) (f : List D → List D → Option (D × List D)) : Prop := ∀ (I H : Hp) (m : List Addr) (l : Addr) (ws vs : List V) (ds xs : List D) (res : D) (ys : List D) (Q : VK),
  Reps K I m ws xs → Reps K I m vs ds → H l = some (.lst ws) → f ds xs = some (res, ys) → (∀ v' ws', Rep K I m v' res → Reps K I m ws' ys → Q v' (upd H l (.lst ws'))) → r (.ref l) vs H Q
theorem meth_mut {r : V → List V → Hp → VK → Prop} {f : List D → List D → Option (D × List D)} (hf : MutS K r f) : MethS K r (mutM f) := fun I H m c v vs d ds W Q R p ps A => by
  unfold mutM at A
  cases q : cellX d c with
  | none => rw [q] at A; exact A.elim
  | some kx =>
    obtain ⟨k, xs⟩ := kx
    rw [q] at A
    have A : After (rD K) K I m H W Q (match f ds xs with
      | some (r, ys) => .ok r (c.set k (.lst ys))
      | none => .stuck) := A
    obtain ⟨a, ws, rfl, hm, hc, h1, h2⟩ := cellX_at R p q
    cases z : f ds xs with
    | none => rw [z] at A; exact A.elim
    | some ry =>
      obtain ⟨res, ys⟩ := ry
      rw [z] at A
      refine hf I H m a ws vs ds xs res ys Q h2 ps h1 z fun v' ws' p1 p2 => ?_
      obtain ⟨R2, E2⟩ := R.put hm hc p2
      exact A _ _ _ _ E2 R2 p1
def popF : List D → List D → Option (D × List D) := fun ds xs => match ds with
  | [] => match xs[xs.length - 1]? with
    | some y => some (y, xs.dropLast)
    | none => none
  | _ => none
theorem ms_popF : MutS K rPop popF := fun I H m l ws vs ds xs res ys Q r ps h e q => by
  cases ps with
  | cons _ _ => cases e
  | nil =>
    have e : (match xs[xs.length - 1]? with
      | some y => some (y, xs.dropLast)
      | none => none) = some (res, ys) := e
    cases z : xs[xs.length - 1]? with
    | none => rw [z] at e; cases e
    | some y =>
      rw [z] at e
      cases e
      rw [← r.length] at z
      obtain ⟨v, h1, h2⟩ := r.get z
      exact ⟨l, ws, v, rfl, rfl, h, h1, q v _ h2 r.dropLast⟩
def popAtF : List D → List D → Option (D × List D) := fun ds xs => match ds with
  | [.int i] => if -(2 ^ 63) ≤ i ∧ i < 2 ^ 63 then (match seqIndex? i xs.length with
    | some k => match xs[k]? with
      | some y => some (y, xs.eraseIdx k)
      | none => none
    | none => none) else none
  | _ => none
theorem one_of {vs : List V} {d : D} (r : Reps K I m vs [d]) : ∃ v, vs = [v] ∧ Rep K I m v d := by
  cases r with
  | cons h t => cases t; exact ⟨_, rfl, h⟩
theorem ms_popAtF : MutS K rPopAt popAtF := fun I H m l ws vs ds xs res ys Q r ps h e q => by
  unfold popAtF at e
  split at e
  · rename_i i
    split at e
    · rename_i hi
      split at e
      · rename_i k hk
        split at e
        · rename_i y hy
          cases e
          obtain ⟨v, rfl, pv⟩ := one_of ps
          cases pv with
          | int =>
            rw [← r.length] at hk
            obtain ⟨w, h1, h2⟩ := r.get hy
            exact ⟨l, ws, i, k, w, rfl, rfl, h, hi.1, hi.2, hk, h1, q w _ h2 (r.eraseIdx k)⟩
        · cases e
      · cases e
    · cases e
  · cases e
def revF : List D → List D → Option (D × List D) := fun ds xs => match ds with
  | [] => some (.non, xs.reverse)
  | _ => none
theorem ms_revF : MutS K rReverse revF := fun I H m l ws vs ds xs res ys Q r ps h e q => by
  cases ps with
  | cons _ _ => cases e
  | nil => cases e; exact ⟨l, ws, rfl, rfl, h, q _ _ .non r.reverse⟩
def clrF : List D → List D → Option (D × List D) := fun ds xs => match ds with
  | [] => some (.non, [])
  | _ => none
theorem ms_clrF : MutS K rClear clrF := fun I H m l ws vs ds xs res ys Q r ps h e q => by
  cases ps with
  | cons _ _ => cases e
  | nil => cases e; exact ⟨l, ws, rfl, rfl, h, q _ _ .non .nil⟩
def rInsert : V → List V → Hp → VK → Prop := fun x vs H Q => ∃ (l : Addr) (xs : List V) (i : Int) (y : V), x = .ref l ∧ vs = [.int i, y] ∧ H l = some (.lst xs) ∧ xs.length < sizeLine ∧ 0 ≤ i ∧ i < 2 ^ 63 ∧
    Q .non (upd H l (.lst (xs.take i.toNat ++ [y] ++ xs.drop i.toNat)))
def insF : List D → List D → Option (D × List D) := fun ds xs => match ds with
  | [.int i, y] => if xs.length < sizeLine ∧ 0 ≤ i ∧ i < 2 ^ 63 then some (.non, xs.take i.toNat ++ [y] ++ xs.drop i.toNat) else none
  | _ => none
theorem ms_insF : MutS K rInsert insF := fun I H m l ws vs ds xs res ys Q r ps h e q => by
  unfold insF at e
  split at e
  · rename_i i y
    split at e
    · rename_i hi
      cases e
      cases ps with
      | cons p1 t =>
        obtain ⟨v, rfl, pv⟩ := one_of t
        cases p1 with
        | int => exact ⟨l, ws, i, v, rfl, rfl, h, by rw [r.length]; exact hi.1, hi.2.1, hi.2.2, q _ _ .non (Reps.append (Reps.append (Reps.take _ r) (.cons pv .nil)) (Reps.drop _ r))⟩
    · cases e
  · cases e
end
/-- a method without arguments -/
theorem me_bm0 {X : Cx} {W : WX} {e : Expr} {fa : ME} {r : V → List V → Hp → VK → Prop} {g : D → List D → Cs → R D} (h : PE X e (tBM0 X.K "list" r (rdE X.K W fa))) (hs : MethS X.K r g) : PE X e (rdE X.K W (mBM g fa aNil)) :=
  PEi h fun σ H Q ⟨I, m, l, c, R, L, A⟩ => ⟨I, m, l, c, R, L, After.mono (After.bind (rep := rD X.K) A) fun v1 H1 ⟨I1, m1, c1, d1, E1, R1, p1, A1⟩ => by
    have A1 : After (rD X.K) X.K I1 m1 H1 _ Q (if isL d1 c1 = true then (Mi.R.ok ([] : List D) c1).bind fun xs c2 => g d1 xs c2 else .stuck) := A1
    by_cases hl : isL d1 c1 = true
    · rw [if_pos hl] at A1
      obtain ⟨ds, hds⟩ := Option.isSome_iff_exists.mp hl
      obtain ⟨a, xs, e1, h1, _⟩ := lst_at R1 p1 hds
      subst e1
      exact ⟨.inl ⟨rfl, xs, h1⟩, hs I1 H1 m1 c1 _ [] d1 [] _ Q R1 p1 .nil A1⟩
    · rw [if_neg hl] at A1
      exact A1.elim⟩
end L2.Mi

/-! sum, max, min of a list of numbers -/
namespace L2.Mi
open PySem PySem.Spec PyProof.Rows L2
section
variable {K : PySem.W.Frag} {I H : Hp} {m : List Addr} {c : Cs}
def intsOf : List D → Option (List Int)
  | [] => some []
  | .int b :: r => match intsOf r with
    | some bs => some (b :: bs)
    | none => none
  | _ :: _ => none
theorem ints_reps : ∀ {vs : List V} {ds : List D} {bs : List Int}, Reps K I m vs ds → intsOf ds = some bs → vs = bs.map V.int
  | _, _, _, .nil, e => by cases e; rfl
  | _, _, _, .cons (d := d) (ds := ds) h t, e => by
    cases h with
    | int b =>
      unfold intsOf at e
      cases q : intsOf ds with
      | none => rw [q] at e; cases e
      | some bs =>
        rw [q] at e
        cases e
        rw [ints_reps t q]; rfl
    | _ => cases e
theorem intsOf_map (bs : List Int) : intsOf (bs.map D.int) = some bs := by
  induction bs with
  | nil => rfl
  | cons b r ih => show (match intsOf (r.map D.int) with | some bs => some (b :: bs) | none => none) = _; rw [ih]
def onInts (f : List Int → Option Int) (d : D) (c : Cs) : R D := match lstC d c with
  | some ds => match intsOf ds with
    | some ns => match f ns with
      | some k => .ok (.int k) c
      | none => .stuck
    | none => .stuck
  | none => .stuck
theorem cs_ints {r : List V → Hp → VK → Prop} {f : List Int → Option Int} (h : ∀ (H : Hp) (a : Addr) (ns : List Int) (k : Int) (Q : VK), H a = some (.lst (ns.map V.int)) → f ns = some k → Q (.int k) H → r [.ref a] H Q) : CallS K r (on1 (onInts f)) := fun I H m c vs ds W Q R p A => by
  obtain ⟨v, d, rfl, rfl, pd, A⟩ := on1_arg p A
  unfold onInts at A
  cases e : lstC d c with
  | none => rw [e] at A; exact A.elim
  | some xs =>
    rw [e] at A
    have A : After (rD K) K I m H W Q (match intsOf xs with
      | some ns => match f ns with
        | some k => .ok (.int k) c
        | none => .stuck
      | none => .stuck) := A
    obtain ⟨a, ws, rfl, h1, h2⟩ := lstC_at R pd e
    cases z : intsOf xs with
    | none => rw [z] at A; exact A.elim
    | some ns =>
      rw [z] at A
      have A : After (rD K) K I m H W Q (match f ns with
        | some k => .ok (.int k) c
        | none => .stuck) := A
      cases y : f ns with
      | none => rw [y] at A; exact A.elim
      | some k =>
        rw [y] at A
        rw [ints_reps h2 z] at h1
        exact h H a ns k Q h1 y (A.here R (.int k))
def sumM : List D → Cs → R D := on1 (onInts fun ns => some ns.sum)
theorem cs_sum : CallS K (rSum K) sumM := cs_ints fun H a ns k Q h e q => by
  cases e
  exact ⟨a, ns, rfl, SqL.of h, q⟩
def maxM : List D → Cs → R D := on1 (onInts fun ns => ns.max?)
theorem cs_maxM : CallS K (rMax K) maxM := cs_ints fun H a ns k Q h e q => by
  obtain ⟨h1, h2⟩ := List.max?_eq_some_iff.mp e
  refine ⟨a, ns, rfl, SqL.of h, List.length_pos_of_mem h1, fun m hm hb => ?_⟩
  have : m = k := Int.le_antisymm (h2 m hm) (hb k h1)
  rw [this]; exact q
def minM : List D → Cs → R D := on1 (onInts fun ns => ns.min?)
theorem cs_minM : CallS K (rMin K) minM := cs_ints fun H a ns k Q h e q => by
  obtain ⟨h1, h2⟩ := List.min?_eq_some_iff.mp e
  refine ⟨a, ns, rfl, SqL.of h, List.length_pos_of_mem h1, fun m hm hb => ?_⟩
  have : m = k := Int.le_antisymm (hb k h1) (h2 m hm)
  rw [this]; exact q
end
end L2.Mi
namespace L2.Mi
open PySem
theorem bt_sum : bootBuiltins "sum" = some (.builtin "sum") := by decide +kernel
theorem bt_sorted : bootBuiltins "sorted" = some (.builtin "sorted") := by decide +kernel
theorem bt_abs : bootBuiltins "abs" = some (.builtin "abs") := by decide +kernel
end L2.Mi

/-! a written dict of several keys, a new cell -/
namespace L2.Mi
open PySem PySem.Spec PyProof.Rows L2
abbrev MD := Ls → Cs → R (List (D × D))
def rP (K : PySem.W.Frag) : Hp → List Addr → List (V × V) → List (D × D) → Prop := fun I m vs ds => Paired (fun v d => Rep K I m v.1 d.1 ∧ Rep K I m v.2 d.2) vs ds
def dNil : MD := fun _ c => .ok [] c
def dCons (a b : ME) (t : MD) : MD := fun l c => (a l c).bind fun x c1 => (b l c1).bind fun y c2 => (t l c2).bind fun ps c3 => .ok ((x, y) :: ps) c3
/-- the written pairs, read -/
def MPs (K : PySem.W.Frag) (W : WX) (trs : List (TE × TE)) (f : MD) : Prop := ∀ σ H Q, rd (rP K) K W f σ H Q → tPairs trs σ H Q
theorem mps_nil {K : PySem.W.Frag} {W : WX} : MPs K W [] dNil := fun σ H Q ⟨I, m, l, c, R, L, A⟩ => A.here R .nil
theorem mps_cons {K : PySem.W.Frag} {W : WX} {fa fb : ME} {trs : List (TE × TE)} {f : MD} (h : MPs K W trs f) : MPs K W ((rdE K W fa, rdE K W fb) :: trs) (dCons fa fb f) := fun σ H Q ⟨I, m, l, c, R, L, A⟩ =>
  ⟨I, m, l, c, R, L, After.mono (After.bind (rep := rD K) A) fun v1 H1 ⟨I1, m1, c1, d1, E1, R1, p1, A1⟩ =>
    ⟨I1, m1, l, c1, R1, L.ext E1, After.mono (After.bind (rep := rD K) A1) fun v2 H2 ⟨I2, m2, c2, d2, E2, R2, p2, A2⟩ =>
      h σ H2 _ ⟨I2, m2, l, c2, R2, (L.ext E1).ext E2, After.mono (After.bind (rep := rP K) A2) fun vs H3 ⟨I3, m3, c3, ds, E3, R3, p3, A3⟩ =>
        A3.here R3 (.cons ⟨Rep.ext (Rep.ext p1 E2) E3, Rep.ext p2 E3⟩ p3)⟩⟩⟩
def keyed : List (D × D) → Option (List (Key × D))
  | [] => some []
  | (.int i, d) :: r => match keyed r with
    | some ks => some ((.inl i, d) :: ks)
    | none => none
  | (.str s, d) :: r => match keyed r with
    | some ks => some ((.inr s, d) :: ks)
    | none => none
  | _ :: _ => none
theorem keyed_reps {K : PySem.W.Frag} {I : Hp} {m : List Addr} : ∀ {vs : List (V × V)} {ds : List (D × D)} {ks : List (Key × D)}, rP K I m vs ds → keyed ds = some ks → ∃ kvs : List (Key × V), vs = kvs.map (fun kv => (kV kv.1, kv.2)) ∧ RepK K I m kvs ks
  | _, _, _, .nil, e => by cases e; exact ⟨[], rfl, .nil⟩
  | _, _, _, .cons (a := v) (b := d) (l₂ := ds) h t, e => by
    obtain ⟨v1, v2⟩ := v
    obtain ⟨d1, d2⟩ := d
    obtain ⟨p1, p2⟩ := h
    have p1 : Rep K I m v1 d1 := p1
    have p2 : Rep K I m v2 d2 := p2
    cases p1 with
    | int i =>
      have e : (match keyed ds with
        | some ks => some ((Sum.inl i, d2) :: ks)
        | none => none) = some _ := e
      cases q : keyed ds with
      | none => rw [q] at e; cases e
      | some ks =>
        rw [q] at e
        cases e
        obtain ⟨kvs, rfl, r⟩ := keyed_reps t q
        exact ⟨(.inl i, v2) :: kvs, rfl, .cons p2 r⟩
    | str i =>
      have e : (match keyed ds with
        | some ks => some ((Sum.inr i, d2) :: ks)
        | none => none) = some _ := e
      cases q : keyed ds with
      | none => rw [q] at e; cases e
      | some ks =>
        rw [q] at e
        cases e
        obtain ⟨kvs, rfl, r⟩ := keyed_reps t q
        exact ⟨(.inr i, v2) :: kvs, rfl, .cons p2 r⟩
    | _ => cases e
def mergeKD (kvs more : List (Key × D)) : List (Key × D) := more.foldl (fun acc kv => putKD acc kv.1 kv.2) kvs
theorem RepK.merge {K : PySem.W.Frag} {I : Hp} {m : List Addr} : ∀ {more : List (Key × V)} {rs : List (Key × D)} {kvs : List (Key × V)} {ds : List (Key × D)}, RepK K I m more rs → RepK K I m kvs ds → RepK K I m (mergeK kvs more) (mergeKD ds rs)
  | _, _, _, _, .nil, r => r
  | _, _, _, _, .cons (k := k) (v := v) (vs := vs) (d := d) (ds := ds) h t, r => by
    have q := RepK.merge t (RepK.put (k := k) h r)
    exact q
def mDict (f : MD) : ME := fun l c => (f l c).bind fun ps c1 => match keyed ps with
  | some ks => if ks.length ≤ 15 then .ok (.ref c1.length) (c1 ++ [.dct (mergeKD [] ks)]) else .stuck
  | none => .stuck
theorem me_dict {X : Cx} {W : WX} {pos : Pos} {keys : List (Option Expr)} {values : List Expr} {trs : List (TE × TE)} {f : MD} (h : PPs X pos keys values trs) (hm : MPs X.K W trs f) (hall : keys.all (·.isSome) = true) (hl : keys.length = values.length) (h0 : keys ≠ []) (h15 : keys.length ≤ 15) : PE X (.Dict keys values pos) (rdE X.K W (mDict f)) :=
  PEi (pe_disp h hall hl h0 h15) fun σ H Q ⟨I, m, l, c, R, L, A⟩ => by
    intro p np
    have nI := R.same.free np
    have nm := R.fresh np
    have E0 : Ext I m H I m (upd H p (.dK [])) := ⟨Same.refl I, Pre.refl m, fun b o h1 h2 h3 => ⟨by rw [upd_ne (ne_of_none h1 np)]; exact h1, h2, h3⟩⟩
    refine hm σ _ _ ⟨I, m, l, c, R.sideO (fun x z => by rw [np] at z; cases z) nI nm, L, After.mono (After.bindAt (rep := rP X.K) A E0) fun v H2 ⟨I2, m2, c2, d2, E2, R2, p2, A2⟩ => ?_⟩
    obtain ⟨f1, f2, f3⟩ := E2.fr p _ upd_same nI nm
    have A2 : After (rD X.K) X.K I m H _ _ (match keyed d2 with
      | some ks => if ks.length ≤ 15 then .ok (.ref c2.length) (c2 ++ [.dct (mergeKD [] ks)]) else .stuck
      | none => .stuck) := A2
    cases q : keyed d2 with
    | none => rw [q] at A2; exact A2.elim
    | some ks =>
      rw [q] at A2
      obtain ⟨kvs, e, r⟩ := keyed_reps p2 q
      by_cases z : ks.length ≤ 15
      · have A2 : After (rD X.K) X.K I m H _ _ (if ks.length ≤ 15 then .ok (.ref c2.length) (c2 ++ [.dct (mergeKD [] ks)]) else .stuck) := A2
        rw [if_pos z] at A2
        refine ⟨f1, kvs, e, by rw [r.length]; exact z, ?_⟩
        have R3 : Rel X.K I2 (upd H2 p (.dK (mergeK [] kvs))) m2 c2 := R2.sideO (fun x z => by rw [f1] at z; cases z) f2 f3
        have R4 : Rel X.K I2 (upd H2 p (.dK (mergeK [] kvs))) (m2 ++ [p]) (c2 ++ [.dct (mergeKD [] ks)]) := R3.adoptC f3 f2 (fun x z => by rw [upd_same] at z; cases z) ⟨f2, mergeK [] kvs, upd_same, (RepK.merge r .nil).mono (Same.refl _) (pre_app _ _)⟩
        refine A2 _ _ _ _ ⟨(E0.trans E2).same, (E0.trans E2).pre.trans (pre_app _ _), fun b o h1 h2 h3 => ?_⟩ R4 (.ref ?_)
        · obtain ⟨q1, q2, q3⟩ := (E0.trans E2).fr b o h1 h2 h3
          have nb : b ≠ p := ne_of_none h1 np
          refine ⟨by rw [upd_ne nb]; exact q1, q2, fun z => ?_⟩
          rcases List.mem_append.mp z with z | z
          · exact q3 z
          · simp only [List.mem_singleton] at z; exact nb z
        · rw [← R2.len, List.getElem?_append_right (Nat.le_refl _), Nat.sub_self]
          rfl
      · have A2 : After (rD X.K) X.K I m H _ _ (if ks.length ≤ 15 then .ok (.ref c2.length) (c2 ++ [.dct (mergeKD [] ks)]) else .stuck) := A2
        rw [if_neg z] at A2; exact A2.elim
end L2.Mi

/-! dict(pairs) -/
namespace L2.Mi
open PySem PySem.Spec PyProof.Rows L2
section
variable {K : PySem.W.Frag} {I H : Hp} {m : List Addr} {c : Cs}
def keyOf : D → Option Key
  | .int i => some (.inl i)
  | .str s => some (.inr s)
  | _ => none
theorem keyOf_at {v : V} {d : D} {k : Key} (p : Rep K I m v d) (e : keyOf d = some k) : v = kV k := by
  cases p <;> first | (cases e; rfl) | cases e
def pairsOf : List D → Option (List (Key × D))
  | [] => some []
  | .tup [a, b] :: r => match keyOf a with
    | some k => match pairsOf r with
      | some ks => some ((k, b) :: ks)
      | none => none
    | none => none
  | _ :: _ => none
theorem pairs_at (hs : Same I H) : ∀ {vs : List V} {ds : List D} {ks : List (Key × D)}, Reps K I m vs ds → pairsOf ds = some ks → ∃ (ps : List Addr) (kvs : List (Key × V)), vs = ps.map V.ref ∧ Paired (fun p kv => SqT K H p [kV kv.1, kv.2]) ps kvs ∧ RepK K I m kvs ks
  | _, _, _, .nil, e => by cases e; exact ⟨[], [], rfl, .nil, .nil⟩
  | _, _, _, .cons (d := d) (ds := ds) h t, e => by
    unfold pairsOf at e
    split at e
    · rename_i heq; cases heq
    · rename_i a b r heq
      cases heq
      split at e
      · rename_i k hk
        split at e
        · rename_i ks hks
          cases e
          obtain ⟨ps, kvs, e1, e2, e3⟩ := pairs_at hs t hks
          cases h with
          | @tup p ws _ hq rr =>
            cases rr with
            | cons ra rr =>
              obtain ⟨y, rfl, rb⟩ := one_of rr
              rw [keyOf_at ra hk] at hq
              exact ⟨p :: ps, (k, y) :: kvs, by rw [e1]; rfl, .cons (sqT_same hs hq) e2, .cons rb e3⟩
        · cases e
      · cases e
    · cases e
def dictP (cell : Bool) (d : D) (c : Cs) : R D := match lstC d c with
  | some ds => match pairsOf ds with
    | some ks => if cell then .ok (.ref c.length) (c ++ [.dct (mergeKD [] ks)]) else .ok (.dct (mergeKD [] ks)) c
    | none => .stuck
  | none => .stuck
def dictPM (cell : Bool) : List D → Cs → R D := on1 (dictP cell)
def rDictP (K : PySem.W.Frag) : List V → Hp → VK → Prop := fun xs H Q => ∃ (a : Addr) (ps : List Addr) (kvs : List (Key × V)), xs = [.ref a] ∧ SqL K H a (ps.map V.ref) ∧ Paired (fun p kv => SqT K H p [kV kv.1, kv.2]) ps kvs ∧
    ∀ p, H p = none → Q (.ref p) (upd H p (.dK (mergeK [] kvs)))
theorem cs_dictP {cell : Bool} : CallS K (rDictP K) (dictPM cell) := fun I H m c vs ds W Q R p A => by
  obtain ⟨v, d, rfl, rfl, pd, A⟩ := on1_arg p A
  unfold dictP at A
  cases e : lstC d c with
  | none => rw [e] at A; exact A.elim
  | some xs =>
    rw [e] at A
    have A : After (rD K) K I m H W Q (match pairsOf xs with
      | some ks => if cell then .ok (.ref c.length) (c ++ [.dct (mergeKD [] ks)]) else .ok (.dct (mergeKD [] ks)) c
      | none => .stuck) := A
    obtain ⟨a, ws, rfl, h1, h2⟩ := lstC_at R pd e
    cases z : pairsOf xs with
    | none => rw [z] at A; exact A.elim
    | some ks =>
      rw [z] at A
      obtain ⟨ps, kvs, rfl, e2, e3⟩ := pairs_at R.same h2 z
      refine ⟨a, ps, kvs, rfl, SqL.of h1, e2, fun q nq => ?_⟩
      have e4 := RepK.merge e3 (RepK.nil (K := K) (I := I) (m := m))
      cases cell with
      | true =>
        have A : After (rD K) K I m H W Q (.ok (.ref c.length) (c ++ [.dct (mergeKD [] ks)])) := A
        obtain ⟨R2, E2⟩ := R.pushC (o := .dK (mergeK [] kvs)) (x := .dct (mergeKD [] ks)) nq ⟨R.same.free nq, _, upd_same, e4.mono (Same.refl _) (pre_app _ _)⟩
        refine A _ _ _ _ E2 R2 (.ref ?_)
        rw [← R.len, List.getElem?_append_right (Nat.le_refl _), Nat.sub_self]
        rfl
      | false =>
        have A : After (rD K) K I m H W Q (.ok (.dct (mergeKD [] ks)) c) := A
        exact A.new R nq (.dct upd_same (e4.mono (same_upd R.same nq) (Pre.refl _)))
end
end L2.Mi

/-! [*xs, ..] -/
namespace L2.Mi
open PySem PySem.Spec PyProof.Rows L2
section
variable {X : Cx} {W : WX} {e : Expr} {es : List Expr} {fa : ME} {ga : MA} {p : Pos}
def aStar (a : ME) (t : MA) : MA := fun l c => (a l c).bind fun x c1 => match seqOf x c1 with
  | some xs => (t l c1).bind fun ys c2 => .ok (xs ++ ys) c2
  | none => .stuck
theorem ma_star (he : PE X e (rdE X.K W fa)) (hr : PA X es (rdA X.K W ga)) (hs : starEach (.Starred e p :: es) X.env = (true, eval e X.env) :: starEach es X.env := by rfl) : PA X (.Starred e p :: es) (rdA X.K W (aStar fa ga)) :=
  PAi (StX.pa_star he hr hs) fun σ H Q ⟨I, m, l, c, R, L, A⟩ => ⟨I, m, l, c, R, L, After.mono (After.bind (rep := rD X.K) A) fun v1 H1 ⟨I1, m1, c1, d1, E1, R1, p1, A1⟩ => by
    have A1 : After (rA X.K) X.K I1 m1 H1 _ Q (match seqOf d1 c1 with
      | some xs => (ga l c1).bind fun ys c2 => .ok (xs ++ ys) c2
      | none => .stuck) := A1
    cases q : seqOf d1 c1 with
    | none => rw [q] at A1; exact A1.elim
    | some xs =>
      rw [q] at A1
      obtain ⟨a, ys, rfl, h1, h2⟩ := seq_at R1 p1 q
      refine ⟨a, ys, rfl, (by first | exact h1 | exact h1.symm), I1, m1, l, c1, R1, L.ext E1, After.mono (After.bind (rep := rA X.K) A1) fun v2 H2 ⟨I2, m2, c2, d2, E2, R2, p2, A2⟩ => ?_⟩
      exact A2.here R2 (Reps.append (Reps.ext h2 E2) p2)⟩
end
end L2.Mi

/-! range(a, b, c) -/
namespace L2.Mi
open PySem PySem.Spec PyProof.Rows L2
def rangeC (lo s : Int) (n : Nat) : List D := (List.range n).map fun i => .int (lo + (i : Nat) * s)
theorem walks_rngC {K : PySem.W.Frag} {I : Hp} {m : List Addr} {lo s : Int} {n : Nat} : Walks K I m (Itc lo s n) (rangeC lo s n) := fun i I' H m' c _ _ R => by
  refine ⟨fun d hd => ?_, fun h => by simp [rangeC] at h; exact h⟩
  have hi : i < n := by have := (List.getElem?_eq_some_iff.mp hd).1; simpa [rangeC] using this
  refine ⟨hi, fun x H' y => ?_⟩
  obtain ⟨e, ex⟩ := y
  subst e; subst ex
  refine ⟨I', Ext.refl _ _ _, R, ?_⟩
  have e2 : d = .int (lo + (i : Nat) * s) := by
    unfold rangeC at hd
    rw [List.getElem?_map, List.getElem?_range hi] at hd
    exact (Option.some.inj hd).symm
  rw [e2]
  exact .int _
def r3ok (i j s : Int) : Prop := s ≠ 0 ∧ s.natAbs < 1073741824 ∧ Builtin.Range.small i j s = true ∧ 0 ≤ Builtin.Range.rangeSize i j s
instance (i j s : Int) : Decidable (r3ok i j s) := inferInstanceAs (Decidable (s ≠ 0 ∧ s.natAbs < 1073741824 ∧ Builtin.Range.small i j s = true ∧ 0 ≤ Builtin.Range.rangeSize i j s))
def r3 (i j s : Int) (c : Cs) : R (List D) := if r3ok i j s then .ok (rangeC i s (Builtin.Range.rangeSize i j s).toNat) c else .stuck
def iR3 (t : MA) : MI := fun l c => (t l c).bind fun xs c1 => match xs with
  | [.int i, .int j, .int s] => r3 i j s c1
  | _ => .stuck
theorem three_of {K : PySem.W.Frag} {I : Hp} {m : List Addr} {vs : List V} {i j s : Int} (r : Reps K I m vs [.int i, .int j, .int s]) : vs = [.int i, .int j, .int s] := by
  cases r with
  | cons h t => cases t with
    | cons h2 t2 => cases t2 with
      | cons h3 t3 => cases t3; cases h; cases h2; cases h3; rfl
theorem mi_r3 {X : Cx} {W : WX} {tg it : Expr} {ga : MA} (h : PI X tg it (iRng3 (rdA X.K W ga))) : PI X tg it (rdI X.K W (iR3 ga)) := PIi h fun σ H Q ⟨I, m, l, c, R, L, A⟩ =>
  ⟨I, m, l, c, R, L, After.mono (After.bind (rep := rA X.K) A) fun v1 H1 ⟨I1, m1, c1, d1, E1, R1, p1, A1⟩ => by
    dsimp only at A1
    split at A1
    · rename_i i j s
      cases three_of p1
      unfold r3 at A1
      by_cases hj : r3ok i j s
      · rw [if_pos hj] at A1
        exact ⟨i, j, s, _, rfl, ⟨hj.1, hj.2.1, hj.2.2.1, (Int.toNat_of_nonneg hj.2.2.2).symm⟩, A1.here R1 walks_rngC⟩
      · rw [if_neg hj] at A1
        exact A1.elim
    · exact A1.elim⟩
end L2.Mi

/-! zip and enumerate over lists, tuples, texts in any mix -/
namespace L2.Mi
open PySem PySem.Spec PyProof.Rows L2

inductive Sr where
  | l (a : Addr)
  | t (a : Addr)
  | s (z : Str)
def Sr.v : Sr → V
  | .l a => .ref a
  | .t a => .ref a
  | .s z => .str z
def Sr.adr : Sr → List Addr
  | .l a => [a]
  | .t a => [a]
  | .s _ => []
def signsV (z : Str) : List V := z.cps.toList.map fun k => .str ⟨#[k]⟩
def Sr.Items (K : PySem.W.Frag) (H : Hp) (vs : List V) : Sr → Prop
  | .l a => SqL K H a vs
  | .t a => SqT K H a vs
  | .s z => vs = signsV z
def Sr.Itr (it : Addr) (i : Nat) (h : Heap) : Sr → Prop
  | .l a => h.IsListIter it a i
  | .t a => h.IsTupleIter it a i
  | .s z => ∃ t, h.IsStrIter it (strIterType z) z t i
theorem Sr.obj {src : Sr} {it : Addr} {i : Nat} {h : Heap} (st : src.Itr it i h) : ∃ o, h.get? it = some o ∧ ∀ v, o.data ≠ .cell v := by
  cases src with
  | l a => obtain ⟨o, h1, h2, h3⟩ := st; exact ⟨o, h1, fun v q => by rw [h3] at q; cases q⟩
  | t a => obtain ⟨o, h1, h2, h3⟩ := st; exact ⟨o, h1, fun v q => by rw [h3] at q; cases q⟩
  | s z => obtain ⟨t, o, h1, h2, h3⟩ := st; exact ⟨o, h1, fun v q => by rw [h3] at q; cases q⟩
theorem Sr.at {src : Sr} {it : Addr} {i : Nat} {h h' : Heap} (st : src.Itr it i h) (k : ∀ o, h.get? it = some o → h'.get? it = some o) : src.Itr it i h' := by
  cases src with
  | l a => obtain ⟨o, h1, h2⟩ := st; exact ⟨o, k o h1, h2⟩
  | t a => obtain ⟨o, h1, h2⟩ := st; exact ⟨o, k o h1, h2⟩
  | s z => obtain ⟨t, o, h1, h2⟩ := st; exact ⟨t, o, k o h1, h2⟩
theorem paired_getR {α β : Type} {R : α → β → Prop} : ∀ {xs : List α} {ys : List β} {j : Nat} {y : β}, Paired R xs ys → ys[j]? = some y → ∃ x, xs[j]? = some x ∧ R x y
  | _, _, _, _, .nil, e => by simp at e
  | _, _, 0, _, .cons h _, e => by simp at e; subst e; exact ⟨_, rfl, h⟩
  | _, _, j + 1, y, .cons _ t, e => by
    obtain ⟨x, h1, h2⟩ := paired_getR (j := j) (y := y) t (by simpa using e)
    exact ⟨x, by simpa using h1, h2⟩
section
variable {X : Cx} {pins : List (Addr × Obj)} {σ : St} {H : Hp} {s : Shared}
theorem Sr.inj {src : Sr} {xs ys : List V} (I : Inv X pins σ H s) (h1 : src.Items X.K H xs) (h2 : src.Items X.K H ys) : xs = ys := by
  cases src with
  | l a => exact I.list_inj h1 h2
  | t a => exact I.tuple_inj h1 h2
  | s z => exact (show xs = signsV z from h1).trans (show ys = signsV z from h2).symm
theorem Sr.lt {src : Sr} {xs : List V} (I : Inv X pins σ H s) (h1 : src.Items X.K H xs) : ∀ a ∈ src.adr, a < s.heap.objs.size := by
  cases src with
  | l a =>
    obtain ⟨its, rv, p, _⟩ := I.list h1
    intro b hb
    rw [List.mem_singleton.mp hb]
    exact p.lt
  | t a =>
    obtain ⟨its, rv, p, _⟩ := I.tuple h1
    intro b hb
    rw [List.mem_singleton.mp hb]
    obtain ⟨o, e, _⟩ := (show s.heap.IsTuple a its.toArray from p)
    exact Heap.lt_size e
  | s z => intro b hb; cases hb
theorem Sr.draws {src : Sr} {it : Addr} {i : Nat} {vs : List V} (I : Inv X pins σ H s) (hc : X.calm = true) (hq : src.Items X.K H vs) (st : src.Itr it i s.heap) (hne : ∀ a ∈ src.adr, a ≠ it) :
    ∃ (P : Nat → Value → Prop) (S : Nat → Heap → Prop), Draws X.prog X.w X.A.in1 it (it :: src.adr) vs.length P S ∧ S i s.heap ∧ (∀ j h, S j h → src.Itr it j h) ∧ ∀ j u, P j u → ∃ x, vs[j]? = some x ∧ RelV x u := by
  have hh : X.A.in1.handled = none := I.ok.hd hc
  cases src with
  | l a =>
    obtain ⟨its, rv, p, hz⟩ := I.list hq
    refine ⟨fun i v => its.toArray[i]? = some v, fun i h => h.IsListIter it a i ∧ h.IsList a its.toArray, by have := Draws.list (prog := X.prog) (w := X.w) hh it a (hne a (by simp [Sr.adr])) its.toArray; rw [List.size_toArray, ← rv.length] at this; exact this, ⟨st, p.isList⟩, fun j h q => q.1, fun j u q => ?_⟩
    have q : its[j]? = some u := by simpa using q
    exact paired_getR rv q
  | t a =>
    obtain ⟨its, rv, p, hz⟩ := I.tuple hq
    refine ⟨fun i v => its.toArray[i]? = some v, fun i h => h.IsTupleIter it a i ∧ h.IsTuple a its.toArray, by have := Draws.tuple (prog := X.prog) (w := X.w) hh it a (hne a (by simp [Sr.adr])) its.toArray; rw [List.size_toArray, ← rv.length] at this; exact this, ⟨st, p⟩, fun j h q => q.1, fun j u q => ?_⟩
    have q : its[j]? = some u := by simpa using q
    exact paired_getR rv q
  | s z =>
    obtain ⟨t, st⟩ := st
    have hv : vs = signsV z := hq
    subst hv
    refine ⟨_, _, by have := Draws.text (prog := X.prog) (w := X.w) hh it z t; rw [show z.cps.size = (signsV z).length by simp [signsV]] at this; exact this, st, fun j h q => ⟨t, q⟩, fun j u q => ?_⟩
    obtain ⟨c, u', hc', rfl⟩ := q
    refine ⟨.str ⟨#[c]⟩, ?_, ⟨_, rfl⟩⟩
    unfold signsV
    rw [List.getElem?_map, Array.getElem?_toList, hc']
    rfl
theorem Sr.begins {src : Sr} {vs : List V} {u : Value} (I : Inv X pins σ H s) (hq : src.Items X.K H vs) (r : RelV src.v u) :
    ∃ (o : Obj) (G : Heap → Prop), Begins u o G ∧ G s.heap ∧ ∀ (h : Heap) (it : Addr), h.get? it = some o → src.Itr it 0 h := by
  cases src with
  | l a =>
    cases r
    obtain ⟨its, rv, p, hz⟩ := I.list hq
    exact ⟨_, _, begins_list a its.toArray, p.isList, fun h it e => ⟨_, e, rfl, rfl⟩⟩
  | t a =>
    cases r
    obtain ⟨its, rv, p, hz⟩ := I.tuple hq
    exact ⟨_, _, begins_tuple a its.toArray, p, fun h it e => ⟨_, e, rfl, rfl⟩⟩
  | s z =>
    obtain ⟨t, rfl⟩ := r
    exact ⟨_, _, begins_text z t, trivial, fun h it e => ⟨t, _, e, rfl, rfl⟩⟩
end

/-! ### zip -/
def ItzG (K : PySem.W.Frag) (s1 s2 : Sr) : It :=
  ⟨fun i H => ∃ (xs ys : List V) (x y : V), s1.Items K H xs ∧ s2.Items K H ys ∧ xs[i]? = some x ∧ ys[i]? = some y,
    fun i H v H' => ∃ T x y, v = .ref T ∧ H T = none ∧ H' = upd H T (.tup [x, y]) ∧ (∀ xs, s1.Items K H xs → xs[i]? = some x) ∧ ∀ ys, s2.Items K H ys → ys[i]? = some y,
    fun i H => ∃ xs ys : List V, s1.Items K H xs ∧ s2.Items K H ys ∧ i ≤ xs.length ∧ i ≤ ys.length ∧ (i = xs.length ∨ i = ys.length)⟩
theorem turn_zipG {P : Program} {w : World} {K : PySem.W.Frag} {elts : List Expr} {kk : Nat} {tpos : Pos} {s1 s2 : Sr} {z TI TO i1 i2 : Addr} (S : ZipSep2 z TI TO i1 i2 (i1 :: s1.adr) (i2 :: s2.adr)) (n1 : ∀ a ∈ s1.adr, a ≠ i1) (n2 : ∀ a ∈ s2.adr, a ≠ i2) :
    Turn P w K (.Tuple elts kk tpos) (ItzG K s1 s2) [z, TI, TO, i1, i2] z (fun i h => IsZip h z TI TO .none ∧ IsTupOf2 h TI (.ref i1) (.ref i2) ∧ (∃ x y, IsTupOf2 h TO x y) ∧ s1.Itr i1 i h ∧ s2.Itr i2 i h) where
  mem := by simp
  obj := fun i h st c hc => by
    obtain ⟨hz, hTI, ⟨x, y, hTO⟩, h1, h2⟩ := st
    have e' : c = z ∨ c = TI ∨ c = TO ∨ c = i1 ∨ c = i2 := by simpa using hc
    rcases e' with q | q | q | q | q
    · rw [q]; exact ⟨_, hz, fun v q => nomatch q⟩
    · rw [q]; exact ⟨_, hTI, fun v q => nomatch q⟩
    · rw [q]; exact ⟨_, hTO, fun v q => nomatch q⟩
    · rw [q]; exact Sr.obj h1
    · rw [q]; exact Sr.obj h2
  keep := fun i h h' st k => by
    obtain ⟨hz, hTI, ⟨x, y, hTO⟩, h1, h2⟩ := st
    exact ⟨k z (by simp) _ hz, k TI (by simp) _ hTI, ⟨x, y, k TO (by simp) _ hTO⟩, Sr.at h1 fun o q => k i1 (by simp) o q, Sr.at h2 fun o q => k i2 (by simp) o q⟩
  item := by
    intro X hP hw hK hc i pins s σ H E I hf st hg
    subst hP hw hK
    obtain ⟨hz, hTI, ⟨x0, y0, hTO⟩, h1, h2⟩ := st
    obtain ⟨xs, ys, x, y, hqx, hqy, hx, hy⟩ := hg
    obtain ⟨P1, S1, D1, q1, r1, p1⟩ := Sr.draws I hc hqx h1 n1
    obtain ⟨P2, S2, D2, q2, r2, p2⟩ := Sr.draws I hc hqy h2 n2
    have hzl : z < s.heap.objs.size := Heap.lt_size hz
    refine wpAny_pyNext_zipD2_item S D1 D2 hz hTI hTO q1 q2 (List.getElem?_eq_some_iff.mp hx).1 (List.getElem?_eq_some_iff.mp hy).1 fun u u2 h' tk y1 y2 z' TO' h1' h2' hT hsz hk => ?_
    refine ⟨_, rfl, wpAny_letOwnedTupleGo_zip (s := { s with heap := h', toks := tk }) z' fun h'' z'' sb => ?_⟩
    obtain ⟨x', hx', ru⟩ := p1 _ _ y1
    obtain ⟨y', hy', ru2⟩ := p2 _ _ y2
    rw [hx] at hx'; cases hx'
    rw [hy] at hy'; cases hy'
    have hT2 : h''.get? s.heap.objs.size = some { cls := .type "tuple", data := .seq #[u, u2] } := (sb.2 _ (Nat.ne_of_gt hzl)).trans hT
    have new : ObjOk X.prog X.w (upd H s.heap.objs.size (.tup [x, y])) h'' s.heap.objs.size (.tup [x, y]) :=
      ⟨by show 2 ≤ sizeLine; decide, [u, u2], .cons ru (.cons ru2 .nil), ⟨_, hT2, rfl, _, rfl⟩⟩
    have I1 : Inv X pins σ (upd H s.heap.objs.size (.tup [x, y])) { s with heap := h'', toks := tk } :=
      I.turnedNew (t' := tk) (ch := [z, TI, TO, i1, i2]) (fun c o hb q => (sb.2 c (fun q' => hb (by simp [q']))).trans (hk c o (fun q' => hb (by simp [q'])) (fun q' => hb (by simp [q'])) (fun q' => hb (by simp [q'])) (fun q' => hb (by simp [q'])) q)) hf (Nat.le_refl _) new
    refine ⟨.ref s.heap.objs.size, _, I1, rfl, ⟨_, x, y, rfl, I.hok.fresh (Nat.le_refl _), rfl, fun l hl => by rw [Sr.inj I hl hqx]; exact hx, fun l hl => by rw [Sr.inj I hl hqy]; exact hy⟩, ⟨z'', ?_, ⟨u, u2, ?_⟩, ?_, ?_⟩, fun c hcm => ?_⟩
    · exact (sb.2 _ S.TIz).trans (hk _ _ S.TIz S.TITO S.TIi1 S.TIi2 hTI)
    · exact (sb.2 _ S.TOz).trans TO'
    · exact Sr.at (r1 _ _ h1') fun o q => (sb.2 _ (Ne.symm S.zi1)).trans q
    · exact Sr.at (r2 _ _ h2') fun o q => (sb.2 _ (Ne.symm S.zi2)).trans q
    · have hlt : c < s.heap.objs.size := by
        have e' : c = z ∨ c = TI ∨ c = TO ∨ c = i1 ∨ c = i2 := by simpa using hcm
        rcases e' with q | q | q | q | q
        · rw [q]; exact hzl
        · rw [q]; exact Heap.lt_size hTI
        · rw [q]; exact Heap.lt_size hTO
        · rw [q]; obtain ⟨_, e1, _⟩ := Sr.obj h1; exact Heap.lt_size e1
        · rw [q]; obtain ⟨_, e2, _⟩ := Sr.obj h2; exact Heap.lt_size e2
      rw [upd_ne (Nat.ne_of_lt hlt)]
      exact (hf c hcm).1
  done := by
    intro X hP hw hK hc i pins s σ H E I hf st hg
    subst hP hw hK
    obtain ⟨hz, hTI, ⟨x0, y0, hTO⟩, h1, h2⟩ := st
    obtain ⟨xs, ys, hqx, hqy, l1, l2, hend⟩ := hg
    obtain ⟨P1, S1, D1, q1, r1, p1⟩ := Sr.draws I hc hqx h1 n1
    obtain ⟨P2, S2, D2, q2, r2, p2⟩ := Sr.draws I hc hqy h2 n2
    exact wpAny_pyNext_zipD2_end S D1 D2 hz hTI hTO q1 q2 l1 l2 hend fun h' tk hk => ⟨rfl, I.turnedL (t' := tk) (ch := [z, TI, TO, i1, i2]) (fun c o hb q =>
      hk c o (fun q' => hb (by simp [q'])) (fun q' => hb (by simp [q'])) (fun q' => hb (by simp [q'])) (fun q' => hb (by simp [q'])) q) hf⟩
  self := fun A i s Q E st h => wpAny_pyIter_zip st.1 h
def iZipG (K : PySem.W.Frag) (ta : TA) : TI := fun σ H R => ta σ H fun vs H1 => ∃ (s1 s2 : Sr) (xs ys : List V), vs = [s1.v, s2.v] ∧ s1.Items K H1 xs ∧ s2.Items K H1 ys ∧ R (ItzG K s1 s2) H1
theorem pi_zipG {X : Cx} {e e2 : Expr} {ta : TA} {p pos tpos : Pos} {elts : List Expr} {kk : Nat} (hg : Gl X "zip") (hm : X.mg "zip" = none) (ha : PA X [e, e2] ta)
    (hs : starEach [e, e2] X.env = (false, eval e X.env) :: starEach [e2] X.env := by rfl) (hpl : (backTo pos (starEach [e2] X.env)).any (·.1) = false := by rfl) :
    PI X (.Tuple elts kk tpos) (.Call (.Name "zip" p) [e, e2] [] pos) (iZipG X.K ta) := by
  refine ⟨fun pins s σ H R I h => ?_⟩
  refine Call_ (ld_blt I hg hm PyProof.Rows.boot_zip (PyProof.Rows.callWith_type1 (thn (ha.run pos pins s σ H _ I h) fun us s1 ⟨vs, H1, I1, r1, q1⟩ => ?_) hs hpl))
  obtain ⟨c1, c2, xs, ys, ex, hqx, hqy, q⟩ := q1
  subst ex
  cases r1 with
  | cons r rr =>
    cases rr with
    | cons r' rr =>
      cases rr
      obtain ⟨o1, G1, B1, g1, b1⟩ := Sr.begins I1 hqx r
      obtain ⟨o2, G2, B2, g2, b2⟩ := Sr.begins I1 hqy r'
      have la := Sr.lt I1 hqx
      have lb := Sr.lt I1 hqy
      refine zip_begins2 B1 B2 g1 g2 fun h' hz hTI hTO e1 e2 hsz hk => wpAny_pyIter_zip hz ?_
      have I2 : Inv X pins σ H1 { s1 with heap := h' } := I1.kept (t' := s1.toks) hk
      refine ⟨s1.heap.objs.size + 4, [s1.heap.objs.size + 4, s1.heap.objs.size + 2, s1.heap.objs.size + 3, s1.heap.objs.size, s1.heap.objs.size + 1], _, _, H1, rfl, I2, turn_zipG (s1 := c1) (s2 := c2) ?_ (fun a h => Nat.ne_of_lt (la a h)) (fun a h => Nat.ne_of_lt (Nat.lt_succ_of_lt (lb a h))), ⟨hz, hTI, ⟨_, _, hTO⟩, b1 _ _ e1, b2 _ _ e2⟩, fun c hcm => ?_, q⟩
      · have n1 : ∀ k : Nat, s1.heap.objs.size + k ∉ c1.adr := fun k h => Nat.not_lt.mpr (Nat.le_add_right s1.heap.objs.size k) (la _ h)
        have n2 : ∀ k : Nat, s1.heap.objs.size + k ∉ c2.adr := fun k h => Nat.not_lt.mpr (Nat.le_add_right s1.heap.objs.size k) (lb _ h)
        exact {
          TIz := show (s1.heap.objs.size + 2 : Nat) ≠ s1.heap.objs.size + 4 by omega
          TOz := show (s1.heap.objs.size + 3 : Nat) ≠ s1.heap.objs.size + 4 by omega
          TITO := show (s1.heap.objs.size + 2 : Nat) ≠ s1.heap.objs.size + 3 by omega
          TIi1 := show (s1.heap.objs.size + 2 : Nat) ≠ s1.heap.objs.size by omega
          mem1 := List.mem_cons_self
          zf1 := fun h => (List.mem_cons.mp h).elim (fun h => absurd (show (s1.heap.objs.size + 4 : Nat) = s1.heap.objs.size from h) (by omega)) (n1 4)
          Tf1 := fun h => (List.mem_cons.mp h).elim (fun h => absurd (show (s1.heap.objs.size + 3 : Nat) = s1.heap.objs.size from h) (by omega)) (n1 3)
          TIi2 := show (s1.heap.objs.size + 2 : Nat) ≠ s1.heap.objs.size + 1 by omega
          mem2 := List.mem_cons_self
          zf2 := fun h => (List.mem_cons.mp h).elim (fun h => absurd (show (s1.heap.objs.size + 4 : Nat) = s1.heap.objs.size + 1 from h) (by omega)) (n2 4)
          Tf2 := fun h => (List.mem_cons.mp h).elim (fun h => absurd (show (s1.heap.objs.size + 3 : Nat) = s1.heap.objs.size + 1 from h) (by omega)) (n2 3)
          sep1_2 := fun h => (List.mem_cons.mp h).elim (fun h => absurd (show (s1.heap.objs.size : Nat) = s1.heap.objs.size + 1 from h) (by omega)) (n2 0)
          sep2_1 := fun h => (List.mem_cons.mp h).elim (fun h => absurd (show (s1.heap.objs.size + 1 : Nat) = s1.heap.objs.size from h) (by omega)) (n1 1) }
      · have e' : c = s1.heap.objs.size + 4 ∨ c = s1.heap.objs.size + 2 ∨ c = s1.heap.objs.size + 3 ∨ c = s1.heap.objs.size ∨ c = s1.heap.objs.size + 1 := by simpa using hcm
        have hle : s1.heap.objs.size ≤ c := by
          rcases e' with z | z | z | z | z <;> rw [z] <;> first | exact Nat.le_refl _ | exact Nat.le_add_right _ _
        exact I1.fpOk hle (I1.hok.fresh hle)

/-! ### enumerate -/
theorem meets_enum1 {v : Value} {o : Obj} {G : Heap → Prop} (B : Begins v o G) :
    Meets (Builtin.«enumerate.__new__» ⟨[.type "enumerate", v], []⟩) (fun _ R s => G s.heap ∧
      R (.ok (.ret (.ref (s.heap.push o).objs.size))) { s with heap := (s.heap.push o).push { cls := .type "enumerate", data := .fields #[.none, .bool false, .ref s.heap.objs.size, rawInt 0, .none, .none] } }) :=
  .of_wp fun prog w A R s h => by
    obtain ⟨hp, g, d, tk, os⟩ := s; obtain ⟨h1, h⟩ := h
    have hsub := sub_enumerate
    have q1 : ∀ {A' : Around} {E : Value → Shared → Prop} {Q : Value → Shared → Prop}, Q (.ref hp.objs.size) ⟨hp.push o, g, d, tk, os⟩ → wpAny (model prog w) A' (pyIter v) Q E ⟨hp, g, d, tk, os⟩ :=
      fun q => B.iter prog w _ _ ⟨hp, g, d, tk, os⟩ _ h1 q
    wp_walk using q1
    refine wpAny_stack_any fun st => wpAny_pure ?_
    split
    · rename_i c _ _ _ _ _
      cases (c == Value.type "enumerate")
      · wp_walk using q1
        exact ⟨_, rfl, h⟩
      · wp_walk using q1
        exact ⟨_, rfl, h⟩
    · wp_walk using q1
      exact ⟨_, rfl, h⟩
theorem enum_begins1 {prog : Program} {w : World} {A : Around} {E : Value → Shared → Prop} {s : Shared} {v : Value} {o : Obj} {G : Heap → Prop} {Q : Value → Shared → Prop} (B : Begins v o G) (h1 : G s.heap)
    (h : ∀ h', IsEnum h' (s.heap.objs.size + 1) s.heap.objs.size 0 .none → h'.get? s.heap.objs.size = some o → h'.objs.size = s.heap.objs.size + 2 →
      (∀ b o, s.heap.get? b = some o → h'.get? b = some o) → Q (.ref (s.heap.objs.size + 1)) { s with heap := h' }) :
    wpAny (model prog w) A (call (.type "enumerate") [v]) Q E s := by
  refine callType_new F.called_enumerate (by decide) (F.typeCall_enumerate_1 _) (F.newCall_enumerate_1 _) (fun obj => F.args_object_init_2 obj _) F.entry_enumerate_new
    (meets_enum1 B) ⟨h1, ?_⟩
  have hz : (s.heap.push o).objs.size = s.heap.objs.size + 1 := Heap.size_push ..
  show _ ∧ _
  rw [hz]
  have he : IsEnum ((s.heap.push o).push { cls := .type "enumerate", data := .fields #[.none, .bool false, .ref s.heap.objs.size, rawInt 0, .none, .none] }) (s.heap.objs.size + 1) s.heap.objs.size 0 .none := by
    have := Heap.get?_push_size (s.heap.push o) (o := { cls := .type "enumerate", data := .fields #[.none, .bool false, .ref s.heap.objs.size, rawInt 0, .none, .none] }) rfl
    rw [hz] at this; exact this
  refine ⟨⟨_, he, rfl⟩, h _ he (Heap.get?_push_of_some _ (Heap.get?_push_size _ B.free)) (by rw [Heap.size_push, hz]) fun b o x => Heap.get?_push_of_some _ (Heap.get?_push_of_some _ x)⟩
def IteG (K : PySem.W.Frag) (s1 : Sr) : It :=
  ⟨fun i H => ∃ (xs : List V) (x : V), s1.Items K H xs ∧ xs[i]? = some x,
    fun i H v H' => ∃ T x, v = .ref T ∧ H T = none ∧ H' = upd H T (.tup [.int (i : Nat), x]) ∧ ∀ xs, s1.Items K H xs → xs[i]? = some x,
    fun i H => ∃ xs : List V, s1.Items K H xs ∧ i = xs.length⟩
theorem turn_enumG {P : Program} {w : World} {K : PySem.W.Frag} {elts : List Expr} {kk : Nat} {tpos : Pos} {s1 : Sr} {e it : Addr} (hne : e ≠ it) (hea : e ∉ s1.adr) (n1 : ∀ a ∈ s1.adr, a ≠ it) :
    Turn P w K (.Tuple elts kk tpos) (IteG K s1) [e, it] e (fun i h => (∃ old, IsEnum h e it ((i : Nat) : Int) old) ∧ s1.Itr it i h) where
  mem := by simp
  obj := fun i h st b hb => by
    obtain ⟨⟨old, he⟩, h1⟩ := st
    have e' : b = e ∨ b = it := by simpa using hb
    rcases e' with z | z
    · rw [z]; exact ⟨_, he, fun v q => nomatch q⟩
    · rw [z]; exact Sr.obj h1
  keep := fun i h h' st k => let ⟨⟨old, he⟩, hi⟩ := st; ⟨⟨old, k e (by simp) _ he⟩, Sr.at hi fun o q => k it (by simp) o q⟩
  item := by
    intro X hP hw hK hc i pins s σ H E I hf st hg
    subst hP hw hK
    obtain ⟨⟨old, he⟩, h1⟩ := st
    obtain ⟨xs, x, hqx, hx⟩ := hg
    obtain ⟨P1, S1, D1, q1, r1, p1⟩ := Sr.draws I hc hqx h1 n1
    have hel : e < s.heap.objs.size := Heap.lt_size he
    have hil : it < s.heap.objs.size := by obtain ⟨_, q, _⟩ := Sr.obj h1; exact Heap.lt_size q
    refine wpAny_pyNext_enum_itemD D1 he q1 (List.getElem?_eq_some_iff.mp hx).1 hne (fun h => by rcases List.mem_cons.mp h with h | h; exact hne h; exact hea h) fun u h' tk y1 ho h1' hT hsz hk => ?_
    refine ⟨_, rfl, wpAny_letOwnedTupleGo_enum (s := { s with heap := h', toks := tk + 1 }) ho fun h'' he' sb => ?_⟩
    obtain ⟨x', hx', ru⟩ := p1 _ _ y1
    rw [hx] at hx'; cases hx'
    have hT2 : h''.get? s.heap.objs.size = some { cls := .type "tuple", data := .seq #[.int i tk, u] } := (sb.2 _ (Nat.ne_of_gt hel)).trans hT
    have new : ObjOk X.prog X.w (upd H s.heap.objs.size (.tup [.int (i : Nat), x])) h'' s.heap.objs.size (.tup [.int (i : Nat), x]) :=
      ⟨by show 2 ≤ sizeLine; decide, [.int i tk, u], .cons ⟨_, rfl⟩ (.cons ru .nil), ⟨_, hT2, rfl, _, rfl⟩⟩
    have I1 : Inv X pins σ (upd H s.heap.objs.size (.tup [.int (i : Nat), x])) { s with heap := h'', toks := tk + 1 } :=
      I.turnedNew (t' := tk + 1) (ch := [e, it]) (fun b ob hb q => (sb.2 b (fun z => hb (by simp [z]))).trans (hk b ob (fun z => hb (by simp [z])) (fun z => hb (by simp [z])) q)) hf (Nat.le_refl _) new
    refine ⟨.ref s.heap.objs.size, _, I1, rfl, ⟨_, x, rfl, I.hok.fresh (Nat.le_refl _), rfl, fun ys hy => by rw [Sr.inj I hy hqx]; exact hx⟩, ⟨⟨u, ?_⟩, Sr.at (r1 _ _ h1') fun o q => (sb.2 it (Ne.symm hne)).trans q⟩, fun b hb => ?_⟩
    · have e1 : ((i + 1 : Nat) : Int) = (i : Int) + 1 := by omega
      rw [e1]; exact he'
    · have hb' : b < s.heap.objs.size := by
        have e' : b = e ∨ b = it := by simpa using hb
        rcases e' with z | z
        · rw [z]; exact hel
        · rw [z]; exact hil
      rw [upd_ne (Nat.ne_of_lt hb')]
      exact (hf b hb).1
  done := by
    intro X hP hw hK hc i pins s σ H E I hf st hg
    subst hP hw hK
    obtain ⟨⟨old, he⟩, h1⟩ := st
    obtain ⟨xs, hqx, rfl⟩ := hg
    obtain ⟨P1, S1, D1, q1, r1, p1⟩ := Sr.draws I hc hqx h1 n1
    obtain ⟨f0, f1, f2, f3, f4, f5⟩ := hf it (by simp)
    exact wpAny_pyNext_enum_endD D1 he q1 fun h' eb => ⟨rfl, I.turned (t' := s.toks) (fun b o hb q => eb b o hb q) f0 f1 f3 f4 f5⟩
  self := fun A i s Q E st h => let ⟨⟨_, he⟩, _⟩ := st; wpAny_pyIter_enum he h
def iEnumG (K : PySem.W.Frag) (ta : TA) : TI := fun σ H R => ta σ H fun vs H1 => ∃ (s1 : Sr) (xs : List V), vs = [s1.v] ∧ s1.Items K H1 xs ∧ R (IteG K s1) H1
theorem pi_enumG {X : Cx} {e : Expr} {ta : TA} {p pos tpos : Pos} {elts : List Expr} {kk : Nat} (hg : Gl X "enumerate") (hm : X.mg "enumerate" = none) (ha : PA X [e] ta) (hs : starEach [e] X.env = [(false, eval e X.env)] := by rfl) :
    PI X (.Tuple elts kk tpos) (.Call (.Name "enumerate" p) [e] [] pos) (iEnumG X.K ta) := by
  refine ⟨fun pins s σ H R I h => ?_⟩
  refine Call_ (ld_blt I hg hm boot_enumerate (PyProof.Rows.callWith_type1 (thn (ha.run pos pins s σ H _ I h) fun us s1 ⟨vs, H1, I1, r1, q1⟩ => ?_) hs rfl))
  obtain ⟨c1, xs, ex, hq, q⟩ := q1
  subst ex
  cases r1 with
  | cons r rr =>
    cases rr
    obtain ⟨o1, G1, B1, g1, b1⟩ := Sr.begins I1 hq r
    have la := Sr.lt I1 hq
    refine enum_begins1 B1 g1 fun h' he hit hsz hk => wpAny_pyIter_enum he ?_
    have I2 : Inv X pins σ H1 { s1 with heap := h' } := I1.kept (t' := s1.toks) hk
    refine ⟨s1.heap.objs.size + 1, [s1.heap.objs.size + 1, s1.heap.objs.size], _, _, H1, rfl, I2, turn_enumG (s1 := c1) (show (s1.heap.objs.size + 1 : Nat) ≠ s1.heap.objs.size by omega) (fun h => by have z : (s1.heap.objs.size + 1 : Nat) < s1.heap.objs.size := la _ h; omega) (fun a h => Nat.ne_of_lt (la a h)), ⟨⟨.none, he⟩, b1 _ _ hit⟩, fun b hb => ?_, q⟩
    have e' : b = s1.heap.objs.size + 1 ∨ b = s1.heap.objs.size := by simpa using hb
    have hle : s1.heap.objs.size ≤ b := by
      rcases e' with z | z <;> rw [z] <;> first | exact Nat.le_refl _ | exact Nat.le_add_right _ _
    exact I1.fpOk hle (I1.hok.fresh hle)

/-! ### over plain values -/
def seqW (x : D) (c : Cs) : Option (List D) := match x with
  | .lst ds => some ds
  | .ro ds => some ds
  | .tup ds => some ds
  | .str s => some (chrs s)
  | .ref k => cellL k c
  | _ => none
theorem reps_signs {K : PySem.W.Frag} {I : Hp} {m : List Addr} (z : Str) : Reps K I m (signsV z) (chrs z) := by
  unfold signsV chrs
  generalize z.cps.toList = ks
  induction ks with
  | nil => exact .nil
  | cons k ks ih => exact .cons (.str _) ih
theorem cellL_at {K : PySem.W.Frag} {I H : Hp} {m : List Addr} {c : Cs} {k : Nat} {a : Addr} {ds : List D} (R : Rel K I H m c) (hk : m[k]? = some a) (e : cellL k c = some ds) : ∃ vs, SqL K H a vs ∧ Reps K I m vs ds := by
  unfold cellL at e
  cases q : c[k]? with
  | none => rw [q] at e; cases e
  | some x =>
    rw [q] at e
    have hc := R.cell k a x hk q
    cases x with
    | lst xs => cases e; obtain ⟨_, vs, h1, h2⟩ := hc; exact ⟨vs, SqL.of h1, h2⟩
    | frz d =>
      cases d with
      | lst xs =>
        cases e
        obtain ⟨_, hr⟩ := hc
        cases hr with
        | lst h1 h2 => exact ⟨_, SqL.of (R.same _ _ h1), h2⟩
      | _ => cases e
    | _ => cases e
theorem seqW_src {K : PySem.W.Frag} {I H : Hp} {m : List Addr} {c : Cs} {v : V} {x : D} {ds0 : List D} (hv : Rep K I m v x) (h0 : seqW x c = some ds0) :
    ∃ src : Sr, v = src.v ∧ ∀ (I' H' : Hp) (m' : List Addr) (c' : Cs) (ds : List D), Same I I' → Pre m m' → Rel K I' H' m' c' → seqW x c' = some ds → ∃ vs, src.Items K H' vs ∧ Reps K I' m' vs ds := by
  cases hv with
  | @lst a vs ds h r => exact ⟨.l a, rfl, fun I' H' m' c' ds s p R e => by cases e; exact ⟨vs, SqL.of (R.same _ _ (s _ _ h)), r.mono s p⟩⟩
  | @ro a vs ds h r => exact ⟨.l a, rfl, fun I' H' m' c' ds s p R e => by cases e; exact ⟨vs, R.same.seq (s.seq h), r.mono s p⟩⟩
  | @tup a vs ds h r => exact ⟨.t a, rfl, fun I' H' m' c' ds s p R e => by cases e; exact ⟨vs, sqT_same R.same (sqT_same s h), r.mono s p⟩⟩
  | str z => exact ⟨.s z, rfl, fun I' H' m' c' ds s p R e => by cases e; exact ⟨_, rfl, reps_signs z⟩⟩
  | @ref k a hk => exact ⟨.l a, rfl, fun I' H' m' c' ds s p R e => cellL_at R (p _ _ hk) e⟩
  | _ => cases h0
def zipW (x y : D) : Wk := fun i c => match seqW x c, seqW y c with
  | some xs, some ys => match xs[i]?, ys[i]? with
    | some a, some b => some (some (.tup [a, b]))
    | _, _ => if i ≤ xs.length ∧ i ≤ ys.length then some none else none
  | _, _ => none
theorem new_tup {K : PySem.W.Frag} {I H : Hp} {m : List Addr} {c : Cs} {T : Addr} {vs : List V} {ds : List D} (R : Rel K I H m c) (np : H T = none) (r : Reps K I m vs ds) :
    ∃ I'', Ext I m H I'' m (upd H T (.tup vs)) ∧ Rel K I'' (upd H T (.tup vs)) m c ∧ Rep K I'' m (.ref T) (.tup ds) := by
  obtain ⟨r1, e1⟩ := alloc (o := .tup vs) R np
  exact ⟨_, e1, r1, .tup (Or.inl (Or.inl upd_same)) (r.mono e1.same (Pre.refl _))⟩
theorem walks_zip {K : PySem.W.Frag} {I : Hp} {m : List Addr} {x y : D} {s1 s2 : Sr} (h1 : ∀ (I' H' : Hp) (m' : List Addr) (c' : Cs) (ds : List D), Same I I' → Pre m m' → Rel K I' H' m' c' → seqW x c' = some ds → ∃ vs, s1.Items K H' vs ∧ Reps K I' m' vs ds)
    (h2 : ∀ (I' H' : Hp) (m' : List Addr) (c' : Cs) (ds : List D), Same I I' → Pre m m' → Rel K I' H' m' c' → seqW y c' = some ds → ∃ vs, s2.Items K H' vs ∧ Reps K I' m' vs ds) : WalksW K I m (ItzG K s1 s2) (zipW x y) := fun i I' H m' c s p R => by
  unfold zipW
  cases q1 : seqW x c with
  | none => exact ⟨fun d e => by simp at e, fun e => by simp at e⟩
  | some xs =>
    cases q2 : seqW y c with
    | none => exact ⟨fun d e => by simp at e, fun e => by simp at e⟩
    | some ys =>
      obtain ⟨vs, i1, r1⟩ := h1 I' H m' c xs s p R q1
      obtain ⟨us, i2, r2⟩ := h2 I' H m' c ys s p R q2
      have fin : xs[i]? = none ∨ ys[i]? = none → (if i ≤ xs.length ∧ i ≤ ys.length then some none else none : Option (Option D)) = some none → (ItzG K s1 s2).stop i H := fun hn e => by
        by_cases hle : i ≤ xs.length ∧ i ≤ ys.length
        · refine ⟨vs, us, i1, i2, by rw [r1.length]; exact hle.1, by rw [r2.length]; exact hle.2, ?_⟩
          rw [r1.length, r2.length]
          rcases hn with hn | hn
          · have := List.getElem?_eq_none_iff.mp hn; exact .inl (by omega)
          · have := List.getElem?_eq_none_iff.mp hn; exact .inr (by omega)
        · rw [if_neg hle] at e; cases e
      cases qa : xs[i]? with
      | none => simp only [qa]; exact ⟨fun d e => by split at e <;> simp at e, fun e => fin (.inl qa) e⟩
      | some a =>
        cases qb : ys[i]? with
        | none => simp only [qa, qb]; exact ⟨fun d e => by split at e <;> simp at e, fun e => fin (.inr qb) e⟩
        | some b =>
          simp only [qa, qb]
          refine ⟨fun d e => ?_, fun e => by simp at e⟩
          have e : D.tup [a, b] = d := by simpa using e
          subst e
          obtain ⟨va, hva, pa⟩ := r1.get qa
          obtain ⟨vb, hvb, pb⟩ := r2.get qb
          refine ⟨⟨vs, us, va, vb, i1, i2, hva, hvb⟩, fun z H' yl => ?_⟩
          obtain ⟨T, x', y', rfl, hT, rfl, f1, f2⟩ := yl
          have e1 := f1 vs i1
          have e2 := f2 us i2
          rw [hva] at e1; cases e1
          rw [hvb] at e2; cases e2
          obtain ⟨I2, g1, g2, g3⟩ := new_tup R hT (.cons pa (.cons pb .nil))
          exact ⟨I2, g1, g2, g3⟩
def kZip (t : MA) : MK := fun l c => (t l c).bind fun xs c1 => match xs with
  | [x, y] => if (seqW x c1).isSome = true ∧ (seqW y c1).isSome = true then .ok (zipW x y) c1 else .stuck
  | _ => .stuck
theorem mk_zip {X : Cx} {W : WX} {tg it : Expr} {ga : MA} (h : PI X tg it (iZipG X.K (rdA X.K W ga))) : PI X tg it (rdK X.K W (kZip ga)) := PIi h fun σ H Q ⟨I, m, l, c, R, L, A⟩ =>
  ⟨I, m, l, c, R, L, After.mono (After.bind (rep := rA X.K) A) fun v1 H1 ⟨I1, m1, c1, d1, E1, R1, p1, A1⟩ => by
    have p1 : Reps X.K I1 m1 v1 d1 := p1
    match d1, p1 with
    | [x, y], .cons hx (.cons hy .nil) =>
      have A2 : After (rW X.K) X.K I1 m1 H1 (fun cls dd H' => W cls dd σ H') Q (if (seqW x c1).isSome = true ∧ (seqW y c1).isSome = true then .ok (zipW x y) c1 else .stuck) := A1
      by_cases hs : (seqW x c1).isSome = true ∧ (seqW y c1).isSome = true
      · rw [if_pos hs] at A2
        obtain ⟨dx, ex⟩ := Option.isSome_iff_exists.mp hs.1
        obtain ⟨dy, ey⟩ := Option.isSome_iff_exists.mp hs.2
        obtain ⟨s1, rfl, f1⟩ := seqW_src (H := H1) hx ex
        obtain ⟨s2, rfl, f2⟩ := seqW_src (H := H1) hy ey
        obtain ⟨vs, i1, _⟩ := f1 I1 H1 m1 c1 dx (Same.refl _) (Pre.refl _) R1 ex
        obtain ⟨us, i2, _⟩ := f2 I1 H1 m1 c1 dy (Same.refl _) (Pre.refl _) R1 ey
        exact ⟨s1, s2, vs, us, rfl, i1, i2, A2.here R1 (walks_zip f1 f2)⟩
      · rw [if_neg hs] at A2; exact A2.elim
    | [], _ => exact A1.elim
    | [_], _ => exact A1.elim
    | _ :: _ :: _ :: _, _ => exact A1.elim⟩
def enumW (x : D) : Wk := fun i c => match seqW x c with
  | some xs => match xs[i]? with
    | some a => some (some (.tup [.int (i : Nat), a]))
    | none => if i = xs.length then some none else none
  | none => none
theorem walks_enum {K : PySem.W.Frag} {I : Hp} {m : List Addr} {x : D} {s1 : Sr} (h1 : ∀ (I' H' : Hp) (m' : List Addr) (c' : Cs) (ds : List D), Same I I' → Pre m m' → Rel K I' H' m' c' → seqW x c' = some ds → ∃ vs, s1.Items K H' vs ∧ Reps K I' m' vs ds) : WalksW K I m (IteG K s1) (enumW x) := fun i I' H m' c s p R => by
  unfold enumW
  cases q1 : seqW x c with
  | none => exact ⟨fun d e => by simp at e, fun e => by simp at e⟩
  | some xs =>
    obtain ⟨vs, i1, r1⟩ := h1 I' H m' c xs s p R q1
    cases qa : xs[i]? with
    | none =>
      simp only [qa]
      refine ⟨fun d e => by split at e <;> simp at e, fun e => ?_⟩
      by_cases hle : i = xs.length
      · exact ⟨vs, i1, by rw [r1.length]; exact hle⟩
      · rw [if_neg hle] at e; cases e
    | some a =>
      simp only [qa]
      refine ⟨fun d e => ?_, fun e => by simp at e⟩
      have e : D.tup [.int (i : Nat), a] = d := by simpa using e
      subst e
      obtain ⟨va, hva, pa⟩ := r1.get qa
      refine ⟨⟨vs, va, i1, hva⟩, fun z H' yl => ?_⟩
      obtain ⟨T, x', rfl, hT, rfl, f1⟩ := yl
      have e1 := f1 vs i1
      rw [hva] at e1; cases e1
      obtain ⟨I2, g1, g2, g3⟩ := new_tup R hT (.cons (.int (i : Nat)) (.cons pa .nil))
      exact ⟨I2, g1, g2, g3⟩
def kEnum (t : MA) : MK := fun l c => (t l c).bind fun xs c1 => match xs with
  | [x] => if (seqW x c1).isSome = true then .ok (enumW x) c1 else .stuck
  | _ => .stuck
theorem mk_enum {X : Cx} {W : WX} {tg it : Expr} {ga : MA} (h : PI X tg it (iEnumG X.K (rdA X.K W ga))) : PI X tg it (rdK X.K W (kEnum ga)) := PIi h fun σ H Q ⟨I, m, l, c, R, L, A⟩ =>
  ⟨I, m, l, c, R, L, After.mono (After.bind (rep := rA X.K) A) fun v1 H1 ⟨I1, m1, c1, d1, E1, R1, p1, A1⟩ => by
    have p1 : Reps X.K I1 m1 v1 d1 := p1
    match d1, p1 with
    | [x], .cons hx .nil =>
      have A2 : After (rW X.K) X.K I1 m1 H1 (fun cls dd H' => W cls dd σ H') Q (if (seqW x c1).isSome = true then .ok (enumW x) c1 else .stuck) := A1
      by_cases hs : (seqW x c1).isSome = true
      · rw [if_pos hs] at A2
        obtain ⟨dx, ex⟩ := Option.isSome_iff_exists.mp hs
        obtain ⟨s1, rfl, f1⟩ := seqW_src (H := H1) hx ex
        obtain ⟨vs, i1, _⟩ := f1 I1 H1 m1 c1 dx (Same.refl _) (Pre.refl _) R1 ex
        exact ⟨s1, vs, rfl, i1, A2.here R1 (walks_enum f1)⟩
      · rw [if_neg hs] at A2; exact A2.elim
    | [], _ => exact A1.elim
    | _ :: _ :: _, _ => exact A1.elim⟩
end L2.Mi

/-! x != y by an own ==; str(x) by an own __str__ -/
namespace L2.Mi
open PySem PySem.Spec PyProof.Rows L2

theorem objNe_K {prog : Program} {w : World} {A : Around} {E : Value → Shared → Prop} {s : Shared} {K : PySem.W.Frag} {x C f : Addr} {ox : Obj} {od : Option Obj} {b : Value} {Q : Fin → Shared → Prop} (X : K.In s.heap) (I : PySem.W.InstAt s.heap x ox C od) (hu : A.units < cLine)
    (hse : PySem.W.findIn K (.ref C) "__eq__" = some (some (.ref f))) (hf : PySem.W.isFn K (.ref f) = true)
    (h : wpAny (model prog w) A (call (.ref f) [.ref x, b]) (fun v s' => ∃ k, v = .bool k ∧ Q (.done (.ret (.bool (!k)))) s') E s) :
    wpAny (model prog w) A (Builtin.«object.__ne__» ⟨[.ref x, b], []⟩) Q E s := by
  unfold Builtin.«object.__ne__»
  repeat (first
    | with_reducible refine wpAny_cRoomFor hu ?_
    | (refine wpAny_bind (m := callSpecialIfBound? (.ref x) (Str.ofString "__eq__") [b])
        (PySem.W.ifBound_K X I hse hf (wpAny_mono h (fun r s' hr => by
          obtain ⟨k, rfl, hq⟩ := hr
          repeat (first | exact hq | exact wpAny_pure hq | exact wpAny_truthy_bool hq | (refine wpAny_bind (m := truthy (.bool _)) (wpAny_truthy_bool ?_)) | wp_step)) fun _ _ e => e)))
    | wp_step)
theorem ifBound_B {M : Model} {A : Around} {E : Value → Shared → Prop} {s : Shared} {K : PySem.W.Frag} {x C : Addr} {ox : Obj} {od : Option Obj} {name : Str} {id : String} {args : List Value} {Q : Option Value → Shared → Prop} (X : K.In s.heap) (I : PySem.W.InstAt s.heap x ox C od) (hs : PySem.W.findIn K (.ref C) name = some (some (.builtin id)))
    (hb : ∀ self, bindSpecial (.builtin id) self = pure (.builtin id, [self])) (h : wpAny M A (call (.builtin id) (.ref x :: args)) (fun v => Q (some v)) E s) : wpAny M A (callSpecialIfBound? (.ref x) name args) Q E s := by
  simp only [callSpecialIfBound?, bindSpecialIfBound?]
  refine wpAny_holding (wpAny_bind (wpAny_bind (wpAny_bind (I.type.here ((PySem.W.looks_findIn X hs).here ?_)))))
  refine wpAny_bind (wpAny_askSetting (wpAny_ite ?_))
  have fin : wpAny M A (call (.builtin id) ([.ref x] ++ args) >>= fun v => pure (some v)) Q E s := wpAny_bind (wpAny_mono h (fun v s' h' => wpAny_pure h') fun _ _ h' => h')
  split
  · exact wpAny_bind ((PySem.W.Looks.of_pure (hb _)).here (wpAny_pure (by exact fin)))
  · exact wpAny_tryCatch (wpAny_bind ((PySem.W.Looks.of_pure (hb _)).here (wpAny_pure (by exact fin))))
theorem bind_ne (self : Value) : bindSpecial (.builtin "object.__ne__") self = pure (.builtin "object.__ne__", [self]) := PySem.F.slot_enumerate_ne.bind _
theorem ne_K {prog : Program} {w : World} {A : Around} {E : Value → Shared → Prop} {s : Shared} {K : PySem.W.Frag} {x C L f : Addr} {h₀ : Heap} {m : Str → Option Value} {ox : Obj} {od : Option Obj} {b tb : Value} {Q : Value → Shared → Prop} (hu : A.in1.units < cLine) (hu0 : A.units < cLine) (F : Fr h₀ L s.heap m) (X₀ : K.In h₀) (I : PySem.W.InstAt s.heap x ox C od)
    (hb : PySem.W.Looks (model prog w) s.heap (typeOf b) tb) (hn : PySem.W.notFirst K C tb = true) (hs : PySem.W.findIn K (.ref C) "__ne__" = some (some (.builtin "object.__ne__"))) (ho : PySem.W.mroIn K C (.type "object") = some true)
    (hse : PySem.W.findIn K (.ref C) "__eq__" = some (some (.ref f))) (hf : PySem.W.isFn K (.ref f) = true)
    (h : wpAny (model prog w) A.in1 (call (.ref f) [.ref x, b]) (fun v s' => ∃ k, v = .bool k ∧ Q (.bool (!k)) s') E s) : wpAny (model prog w) A (richCompare .NotEq (.ref x) b) Q E s := by
  have X := X₀.keeps F.keep
  have one : wpAny (model prog w) A (tryCompare (.ref x) (cmpInfo .NotEq).2.1 b) (fun r s' => ∃ v, r = some v ∧ Q v s') E s := by
    unfold tryCompare
    refine wpAny_bind (ifBound_B X I hs bind_ne (wpAny_call (codeAny_call_builtin PySem.F.slot_enumerate_ne.plain PySem.F.cmpEntry_ne
      (PySem.W.check_slot PySem.F.cmpKind_ne PySem.F.cmpSplit_ne (I.type.andThen (PySem.W.looks_mroIn X ho)) (PySem.F.cmpArgs_ne _ _) (objNe_K X I hu hse hf (wpAny_mono h (fun v s' hv => ?_) fun _ _ e => e))))))
    obtain ⟨k, rfl, hq⟩ := hv
    exact ⟨k, rfl, wpAny_pure (show ∃ v, some (Value.bool !k) = some v ∧ Q v s' from ⟨_, rfl, hq⟩)⟩
  unfold richCompare
  simp only [oneThing_ref]
  refine wpAny_holding (wpAny_bind (wpAny_cRoomFor hu0 ?_))
  refine wpAny_bind (I.type.here (wpAny_bind (hb.here ?_)))
  split
  · rename_i q
    have e : PySem.W.subIn K tb (.ref C) = some false := by
      rcases Bool.or_eq_true_iff.mp hn with e | e
      · rw [beq_iff_eq.mp e] at q; simp at q
      · exact beq_iff_eq.mp e
    refine wpAny_bind ((PySem.W.looks_subIn X e).here ?_)
    simp only [Bool.false_eq_true, if_false]
    refine wpAny_bind (wpAny_mono one (fun r s' z => ?_) fun _ _ e => e)
    obtain ⟨v, rfl, hq⟩ := z
    exact wpAny_pure hq
  · refine wpAny_bind (wpAny_pure ?_)
    simp only [Bool.false_eq_true, if_false]
    refine wpAny_bind (wpAny_mono one (fun r s' z => ?_) fun _ _ e => e)
    obtain ⟨v, rfl, hq⟩ := z
    exact wpAny_pure hq
section
variable {X : Cx} {W : WX} {e o a b : Expr} {es : List Expr} {fa fb fo : ME} {ga : MA} {ns : List Str} {pos p : Pos} {k : Nat} {tbl : Tbl} {mm : Str} {g0 : D → D → Cs → R D}
def neI (tbl : Tbl) (g0 : D → D → Cs → R D) (x y : D) (c : Cs) : R D := match insOf x c with
  | some (n, _) => if eqTy n y c = true then (viaT tbl x c fun g _ => g [x, y] c).bind fun r c2 => match r with
    | .bl b => .ok (.bl (!b)) c2
    | _ => .stuck
    else .stuck
  | none => g0 x y c
def NeT (K : PySem.W.Frag) (n : Str) : Prop := ∃ C, NamV K n (.ref C) ∧ (PySem.W.findIn K (.ref C) "__ne__" = some (some (.builtin "object.__ne__")) ∧ PySem.W.mroIn K C (.type "object") = some true) ∧ ∀ t ∈ tyNames, PySem.W.notFirst K C (.type t) = true
theorem ox_ne (hT : ∀ q ∈ tbl, SpcK X.prog X.w X.K X.mg X.base q.1 "__eq__" q.2 k) (hE : ∀ q ∈ tbl, NeT X.K q.1) (hr : Room (k + 1) X.A) (hgd : X.A.guards = some []) (tk : Takes X W) (h0 : OpX X W (compareOp .NotEq) g0) : OpX X W (compareOp .NotEq) (neI tbl g0) :=
  fun pins s σ H x y v u Q J rx ry ⟨I, m, c, d, e, R, p, q, A⟩ => by
    unfold neI at A
    cases z : insOf d c with
    | none => rw [z] at A; exact h0 pins s σ H x y v u Q J rx ry ⟨I, m, c, d, e, R, p, q, A⟩
    | some nf =>
      obtain ⟨n, fs⟩ := nf
      rw [z] at A
      have A : After (rD X.K) X.K I m H (fun cls dd H' => W cls dd σ H') Q (if eqTy n e c = true then (viaT tbl d c fun g _ => g [d, e] c).bind fun r c2 => match r with
        | .bl b => .ok (.bl (!b)) c2
        | _ => .stuck
        else .stuck) := A
      by_cases hq : eqTy n e c = true
      · rw [if_pos hq] at A
        have A0 := After.bind (rep := rD X.K) A
        have hmem : ∃ g, (n, g) ∈ tbl := by
          have A' := A0
          unfold viaT at A'
          rw [z] at A'
          cases zz : tbl.lookup n with
          | none => simp only [zz] at A'; exact A'.elim
          | some g => exact ⟨g, tbl_mem zz⟩
        obtain ⟨a, C, f, ox, od, g, n', rfl, rfl, hn, ⟨fs', hz'⟩, JJ, _, kk, A2, run⟩ := spc_run hT J R p rx A0
        rw [z] at hz'
        cases hz'
        obtain ⟨g', hm⟩ := hmem
        obtain ⟨C', hn', hne, ht⟩ := hE _ hm
        cases hn.one hn'
        obtain ⟨m0, F⟩ := J.fr
        have hty : ∃ tb, PySem.W.Looks (model X.prog X.w) s.heap (typeOf u) tb ∧ PySem.W.notFirst X.K C tb = true := by
          unfold eqTy at hq
          cases zy : insOf e c with
          | some nf2 =>
            obtain ⟨n2, fs2⟩ := nf2
            rw [zy] at hq
            have e2 : n2 = n := eq_of_beq hq
            subst e2
            exact ⟨.ref C, ty_ins J R q ry hn zy, by simp [PySem.W.notFirst]⟩
          | none =>
            rw [zy] at hq
            obtain ⟨t, e2⟩ := Option.isSome_iff_exists.mp hq
            exact ⟨.type t, ty_looks J R q ry e2, ht t (tyD_mem e2)⟩
        obtain ⟨tb, hl, hnf⟩ := hty
        show wpAny _ _ (richCompare .NotEq _ _) _ _ _
        refine ne_K (tb := tb) hr.in1.units0 hr.units0 F J.ok.mod.kin JJ hl hnf hne.1 hne.2 kk.1 kk.2.1 ?_
        refine wpAny_mono (run X.A.in1 [.ref a, u] [.ref a, y] [d, e] _ hr.in1 hgd J.env0.in1 tk (.cons rfl (.cons ry .nil)) (.cons p (.cons q .nil)) A2) (fun w s' ⟨zv, H', J', rz, I1, m1, c1, d1, E1, R1, p1, A3⟩ => ?_) fun _ _ z => z
        cases p1 with
        | bl b =>
          cases (show w = Value.bool b from rz)
          exact ⟨b, rfl, .bl (!b), H', J', rfl, A3.here R1 (.bl _)⟩
        | _ => exact A3.elim
      · rw [if_neg hq] at A
        exact A.elim
def strI (tbl : Tbl) (ds : List D) (c : Cs) : R D := match ds with
  | [x] => match insOf x c with
    | some _ => (viaT tbl x c fun g _ => g [x] c).bind fun r c2 => match r with
      | .str y => .ok (.str y) c2
      | _ => .stuck
    | none => strFD [x] c
  | _ => .stuck
theorem me_strI (hT : ∀ q ∈ tbl, SpcK X.prog X.w X.K X.mg X.base q.1 "__str__" q.2 k) (hr : Room (k + 2) X.A) (hgd : X.A.guards = some []) (tk : Takes X W) (hg : Gl X "str") (hm : X.mg "str" = none) (ha : PE X e (rdE X.K W fa))
    (he : starEach [e] X.env = (false, eval e X.env) :: starEach [] X.env := by rfl) (hpl : (backTo pos (starEach [] X.env)).any (·.1) = false := by rfl) : PE X (.Call (.Name "str" p) [e] [] pos) (rdE X.K W (mCB (strI tbl) (aCons fa aNil))) := by
  refine ⟨fun pins s σ H Q J h => ?_⟩
  refine wpAny_Call_Name_kw (ld_blt J hg hm bt_str ?_ (by decide) (by decide))
  have hA : PA X [e] (rdA X.K W (aCons fa aNil)) := ma_cons ha ma_nil he
  obtain ⟨I, m, l, c, R, L, A⟩ := h
  refine PyProof.Rows.callWith_type1 (thn (hA.run pos pins s σ H _ J ⟨I, m, l, c, R, L, After.bind (rep := rA X.K) A⟩) fun us s1 ⟨vs, H1, J1, r1, I1, m1, c1, ds, E1, R1, p1, A1⟩ => ?_) he hpl
  cases p1 with
  | nil => exact A1.elim
  | @cons x xs d dss hx t =>
    cases t with
    | cons _ _ => exact A1.elim
    | nil =>
      have A1 : After (rD X.K) X.K I1 m1 H1 (fun cls dd H' => W cls dd σ H') Q (match insOf d c1 with
        | some _ => (viaT tbl d c1 fun g _ => g [d] c1).bind fun r c2 => match r with
          | .str y => .ok (.str y) c2
          | _ => .stuck
        | none => strFD [d] c1) := A1
      cases z : insOf d c1 with
      | none =>
        rw [z] at A1
        exact call_str_int pins s1 σ H1 [x] us Q J1 r1 (cs_strF _ _ _ _ _ _ _ _ R1 (.cons hx .nil) A1)
      | some nf =>
        rw [z] at A1
        obtain ⟨u, rfl, rx⟩ := vals1 r1
        obtain ⟨ad, C, f, ox, od, g, n, rfl, rfl, _, _, JJ, _, kk, A2, run⟩ := spc_run hT J1 R1 hx rx (After.bind (rep := rD X.K) A1)
        obtain ⟨m0, F⟩ := J1.fr
        refine PySem.W.kso_call hr.in1.in1.units0 (J1.ok.mod.kin.keeps F.keep) JJ kk.1 kk.2.1 (wpAny_mono (run X.A.in1.in1 [.ref ad] [.ref ad] [d] _ hr.in1.in1 hgd J1.env0.in1.in1 tk (.cons rfl .nil) (.cons hx .nil) A2) (fun w s' ⟨zv, H', J', rz, I2, m2, c2, d2, E2, R2, p2, A3⟩ => ?_) fun _ _ z => z)
        cases p2 with
        | str y =>
          obtain ⟨t, rfl⟩ := rz
          exact ⟨.str y, H', J', ⟨_, rfl⟩, A3.here R2 (.str y)⟩
        | _ => exact A3.elim
end
/-- the facts of isinstance with an own class -/
theorem kit_mk {K : PySem.W.Frag} {t : Value} {C : Addr} {b : Bool} (h2 : PySem.W.isClsIn K C = true) (h3 : PySem.W.typeIn K (.ref C) = some (.type "type")) (hne : (t == .ref C) = false) (h4 : PySem.W.subIn K t (.ref C) = some b) : PySem.W.kitOne K t (.ref C) = some b := by
  unfold PySem.W.isClsIn at h2
  unfold PySem.W.kitOne PySem.W.kitCls
  rw [hne]
  show (if ((PySem.W.clsIn K C).isSome && PySem.W.typeIn K (.ref C) == some (.type "type")) = true then PySem.W.subIn K t (.ref C) else none) = some b
  rw [if_pos (by rw [h2, h3]; rfl), h4]
theorem kit_self {K : PySem.W.Frag} {C : Addr} : PySem.W.kitOne K (.ref C) (.ref C) = some true := by
  unfold PySem.W.kitOne
  rw [if_pos (by simp)]
theorem all7 {P : String → Prop} (h1 : P "NoneType") (h2 : P "bool") (h3 : P "int") (h4 : P "str") (h5 : P "list") (h6 : P "tuple") (h7 : P "dict") : ∀ t ∈ tyNames, P t := fun t ht => by
  simp only [tyNames, List.mem_cons, List.not_mem_nil, or_false] at ht
  rcases ht with rfl | rfl | rfl | rfl | rfl | rfl | rfl <;> assumption
end L2.Mi

/-! plain reasoning: cells that only grow, walks over typed lists, own objects -/
namespace L2.Mi
open PySem PySem.Spec PyProof.Rows L2

/-- the cells of c stand at the head of c' -/
def Pfx (c c' : Cs) : Prop := ∃ e, c' = c ++ e
theorem Pfx.refl (c : Cs) : Pfx c c := ⟨[], by simp⟩
theorem Pfx.trans {a b c : Cs} (h : Pfx a b) (g : Pfx b c) : Pfx a c := by
  obtain ⟨e, rfl⟩ := h; obtain ⟨f, rfl⟩ := g
  exact ⟨e ++ f, by simp⟩
theorem Pfx.app {a b : Cs} (h : Pfx a b) (x : Cs) : Pfx a (b ++ x) := h.trans ⟨x, rfl⟩
theorem Pfx.one (c x : Cs) : Pfx c (c ++ x) := ⟨x, rfl⟩
theorem Pfx.get {c c' : Cs} {k : Nat} {x : Cell} (h : Pfx c c') (e : c[k]? = some x) : c'[k]? = some x := by
  obtain ⟨f, rfl⟩ := h
  rw [List.getElem?_append_left (List.getElem?_eq_some_iff.mp e).1]
  exact e
theorem Pfx.at {c c' : Cs} (h : Pfx c c') {k : Nat} (hk : k < c.length) : c'[k]? = c[k]? := by
  obtain ⟨f, rfl⟩ := h
  exact List.getElem?_append_left hk
theorem Pfx.len {c c' : Cs} (h : Pfx c c') : c.length ≤ c'.length := by obtain ⟨f, rfl⟩ := h; simp
theorem Pfx.bx {c c' : Cs} {k : Nat} {n : Int} (h : Pfx c c') (b : Bx c k n) : Bx c' k n := by obtain ⟨f, rfl⟩ := h; exact bx_app b f
/-- a cell above the first ones is set -/
theorem Pfx.set {c c' : Cs} (h : Pfx c c') {k : Nat} (hk : c.length ≤ k) (x : Cell) : Pfx c (c'.set k x) := by
  obtain ⟨f, rfl⟩ := h
  exact ⟨f.set (k - c.length) x, by rw [List.set_append_right _ _ hk]⟩
theorem Ok.nox {α : Type} {r : R α} {Q : α → Cs → Prop} (h : Ok r Q) : Ok r.nox Q := by
  obtain ⟨a, c, rfl, q⟩ := h
  exact ⟨a, c, rfl, q⟩
theorem Ok.eq {α : Type} {r : R α} {d : α} {c : Cs} (h : Ok r fun x c' => x = d ∧ c' = c) : r = .ok d c := by
  obtain ⟨a, c', e, rfl, rfl⟩ := h
  exact e

/-! ### comprehensions over typed lists -/
section
variable {α : Type} {g : MG} {t : MT} {e : ME} {l lw : Ls} {c c0 : Cs} {Q : D → Cs → Prop}
theorem compW_G {w : Wk} {xs : List α} {enc F : α → D} {P : α → Bool} (hw : ∀ c', Pfx c0 c' → ∀ i, i ≤ xs.length → w i c' = some (xs.map enc)[i]?)
    (h : ∀ a ∈ xs, ∀ c', Pfx c0 c' → Ok (g (enc a) lw c') fun l1 c1 => Pfx c0 c1 ∧ Ok (t l1 c1) fun k c2 => k = P a ∧ Pfx c0 c2 ∧ (P a = true → Ok (e l1 c2) fun d c3 => d = F a ∧ Pfx c0 c3)) :
    ∀ (k n i : Nat) (acc : List D) (c : Cs), xs.length - i = k → i ≤ xs.length → k < n → Pfx c0 c → acc.length + k ≤ sizeLine → ∃ c', Pfx c0 c' ∧ compW g t e lw w n i acc c = .ok (acc ++ ((xs.drop i).filter P).map F) c'
  | k, 0, _, _, _, _, _, hn, _, _ => absurd hn (Nat.not_lt_zero _)
  | 0, n + 1, i, acc, c, hk, hi, hn, hp, hl => by
    have hi : i = xs.length := by omega
    refine ⟨c, hp, ?_⟩
    unfold compW
    rw [hw c hp i (by omega), List.getElem?_eq_none (by simp; omega), List.drop_eq_nil_of_le (by omega)]
    simp
  | k + 1, n + 1, i, acc, c, hk, hi, hn, hp, hl => by
    have hi : i < xs.length := by omega
    obtain ⟨l1, c1, e1, p1, kb, c2, e2, hkb, p2, h3⟩ := h xs[i] (List.getElem_mem hi) c hp
    have ih := fun acc c' hp hl => compW_G hw h k n (i + 1) acc c' (by omega) (by omega) (by omega) hp hl
    have hd : xs.drop i = xs[i] :: xs.drop (i + 1) := List.drop_eq_getElem_cons hi
    unfold compW
    rw [hw c hp i (by omega), List.getElem?_map, List.getElem?_eq_getElem hi]
    simp only [Option.map_some, e1, R.nox_ok, R.bind_ok, e2]
    cases q : P xs[i] with
    | true =>
      rw [q] at hkb
      subst hkb
      obtain ⟨d, c3, e3, rfl, p3⟩ := h3 q
      obtain ⟨c', hp', e'⟩ := ih (acc ++ [F xs[i]]) c3 p3 (by simp; omega)
      refine ⟨c', hp', ?_⟩
      simp only [e3, R.nox_ok, R.bind_ok]
      rw [if_pos (by omega), e', hd, List.filter_cons_of_pos q]
      simp
    | false =>
      rw [q] at hkb
      subst hkb
      obtain ⟨c', hp', e'⟩ := ih acc c2 p2 (by omega)
      refine ⟨c', hp', ?_⟩
      simp only []
      rw [e', hd, List.filter_cons_of_neg (by rw [q]; exact Bool.false_ne_true)]
theorem ok_lcG {it : MK} {js : List Nat} (xs : List α) (enc F : α → D) (P : α → Bool) (hl : xs.length ≤ 1000000)
    (hit : Ok (it l c) fun w c1 => Pfx c c1 ∧ ∀ c', Pfx c1 c' → ∀ i, i ≤ xs.length → w i c' = some (xs.map enc)[i]?)
    (h : ∀ a ∈ xs, ∀ c', Pfx c c' → Ok (g (enc a) (wipeL l js) c') fun l1 c1 => Pfx c' c1 ∧ Ok (t l1 c1) fun k c2 => k = P a ∧ Pfx c1 c2 ∧ (P a = true → Ok (e l1 c2) fun d c3 => d = F a ∧ Pfx c2 c3))
    (q : ∀ c', Pfx c c' → Q (.lst ((xs.filter P).map F)) c') : Ok (mLcW it js g t e l c) Q := by
  have hz : sizeLine = 16777216 := sizeLine_eq
  refine Ok.bind (hit.mono fun w c1 ⟨p1, hw⟩ => ?_)
  obtain ⟨c', hp, e'⟩ := compW_G (g := g) (t := t) (e := e) (lw := wipeL l js) (F := F) (P := P) hw (fun a ha c' hp => (h a ha c' (p1.trans hp)).mono fun l1 c2 ⟨p2, h2⟩ => ⟨hp.trans p2, h2.mono fun k c3 ⟨e3, p3, h3⟩ => ⟨e3, (hp.trans p2).trans p3, fun ek => (h3 ek).mono fun d c4 ⟨e4, p4⟩ => ⟨e4, ((hp.trans p2).trans p3).trans p4⟩⟩⟩)
    xs.length fuelW 0 [] c1 (by omega) (by omega) (by unfold fuelW; omega) (Pfx.refl _) (by simp; omega)
  rw [List.drop_zero, List.nil_append] at e'
  exact ⟨_, _, by rw [e']; rfl, q c' (p1.trans hp)⟩
/-- .. nothing is changed -/
theorem ok_lcT {it : MK} {js : List Nat} (xs : List α) (enc F : α → D) (P : α → Bool) (hl : xs.length ≤ 1000000)
    (hit : Ok (it l c) fun w c1 => c1 = c ∧ ∀ i, i ≤ xs.length → w i c = some (xs.map enc)[i]?)
    (h : ∀ a ∈ xs, Ok (g (enc a) (wipeL l js) c) fun l1 c1 => c1 = c ∧ Ok (t l1 c) fun k c2 => k = P a ∧ c2 = c ∧ (P a = true → Ok (e l1 c) fun d c3 => d = F a ∧ c3 = c))
    (q : Q (.lst ((xs.filter P).map F)) c) : Ok (mLcW it js g t e l c) Q := by
  have hz : sizeLine = 16777216 := sizeLine_eq
  refine Ok.bind (hit.mono fun w c1 ⟨p1, hw⟩ => ?_)
  subst p1
  have go : ∀ (k n i : Nat) (acc : List D), xs.length - i = k → i ≤ xs.length → k < n → acc.length + k ≤ sizeLine → compW g t e (wipeL l js) w n i acc c1 = .ok (acc ++ ((xs.drop i).filter P).map F) c1 := by
    intro k
    induction k with
    | zero =>
      intro n i acc hk hi hn hl
      cases n with
      | zero => omega
      | succ n =>
        unfold compW
        rw [hw i (by omega), List.getElem?_eq_none (by simp; omega), List.drop_eq_nil_of_le (by omega)]
        simp
    | succ k ih =>
      intro n i acc hk hi hn hl
      cases n with
      | zero => omega
      | succ n =>
        have hi : i < xs.length := by omega
        obtain ⟨l1, c1', e1, rfl, kb, c2, e2, hkb, rfl, h3⟩ := h xs[i] (List.getElem_mem hi)
        have hd : xs.drop i = xs[i] :: xs.drop (i + 1) := List.drop_eq_getElem_cons hi
        unfold compW
        rw [hw i (by omega), List.getElem?_map, List.getElem?_eq_getElem hi]
        simp only [Option.map_some, e1, R.nox_ok, R.bind_ok, e2]
        cases qq : P xs[i] with
        | true =>
          rw [qq] at hkb
          subst hkb
          obtain ⟨d, c3, e3, rfl, rfl⟩ := h3 qq
          simp only [e3, R.nox_ok, R.bind_ok]
          rw [if_pos (by omega), ih n (i + 1) _ (by omega) (by omega) (by omega) (by simp; omega), hd, List.filter_cons_of_pos qq]
          simp
        | false =>
          rw [qq] at hkb
          subst hkb
          simp only []
          rw [ih n (i + 1) _ (by omega) (by omega) (by omega) (by omega), hd, List.filter_cons_of_neg (by rw [qq]; exact Bool.false_ne_true)]
  exact ⟨_, _, by rw [go xs.length fuelW 0 [] (by omega) (by omega) (by unfold fuelW; omega) (by simp; omega)]; rfl, by simpa using q⟩
theorem filter_all {β : Type} (xs : List β) : xs.filter (fun _ => true) = xs := List.filter_eq_self.mpr fun _ _ => rfl
theorem ok_lcY {it : MK} {js : List Nat} (xs : List α) (enc F : α → D) (hl : xs.length ≤ 1000000)
    (hit : Ok (it l c) fun w c1 => c1 = c ∧ ∀ i, i ≤ xs.length → w i c = some (xs.map enc)[i]?)
    (h : ∀ a ∈ xs, Ok (g (enc a) (wipeL l js) c) fun l1 c1 => c1 = c ∧ Ok (e l1 c) fun d c3 => d = F a ∧ c3 = c)
    (q : Q (.lst (xs.map F)) c) : Ok (mLcW it js g tYesM e l c) Q :=
  ok_lcT xs enc F (fun _ => true) hl hit (fun a ha => (h a ha).mono fun l1 c1 ⟨e1, h1⟩ => ⟨e1, ⟨true, c, rfl, rfl, rfl, fun _ => h1⟩⟩) (by rw [filter_all]; exact q)
theorem ok_lcGY {it : MK} {js : List Nat} (xs : List α) (enc F : α → D) (hl : xs.length ≤ 1000000)
    (hit : Ok (it l c) fun w c1 => Pfx c c1 ∧ ∀ c', Pfx c1 c' → ∀ i, i ≤ xs.length → w i c' = some (xs.map enc)[i]?)
    (h : ∀ a ∈ xs, ∀ c', Pfx c c' → Ok (g (enc a) (wipeL l js) c') fun l1 c1 => Pfx c' c1 ∧ Ok (e l1 c1) fun d c3 => d = F a ∧ Pfx c1 c3)
    (q : ∀ c', Pfx c c' → Q (.lst (xs.map F)) c') : Ok (mLcW it js g tYesM e l c) Q :=
  ok_lcG xs enc F (fun _ => true) hl hit (fun a ha c' hp => (h a ha c' hp).mono fun l1 c1 ⟨e1, h1⟩ => ⟨e1, ⟨true, c1, rfl, rfl, Pfx.refl _, fun _ => h1⟩⟩) (by rw [filter_all]; exact q)
/-- a list of items told beforehand, as a walk -/
theorem mLc_fix {it : MI} {js : List Nat} {ds : List D} (hit : it l c = .ok ds c) (hl : ds.length ≤ 1000000) : mLc it js g t e l c = mLcW (kFix it) js g t e l c := by
  unfold mLc mLcW kFix
  rw [hit]
  simp only [R.bind_ok]
  rw [compW_fix ds.length fuelW 0 [] c (by omega) (by unfold fuelW; omega), List.drop_zero]
theorem ok_mlc {it : MI} {js : List Nat} {ds : List D} (hit : it l c = .ok ds c) (hl : ds.length ≤ 1000000) (h : Ok (mLcW (kFix it) js g t e l c) Q) : Ok (mLc it js g t e l c) Q := by rw [mLc_fix hit hl]; exact h
theorem ok_kfix {it : MI} {ds : List D} {QW : Wk → Cs → Prop} (hit : it l c = .ok ds c) (q : QW (fixW ds) c) : Ok (kFix it l c) QW := ⟨_, _, by unfold kFix; rw [hit]; rfl, q⟩
/-- what is walked where nothing can change -/
def treeSeq : D → Option (List D)
  | .lst ds => some ds
  | .ro ds => some ds
  | .tup ds => some ds
  | .str s => some (chrs s)
  | _ => none
theorem wAny_tree {x : D} {ds : List D} (h : treeSeq x = some ds) : wAny x c = .ok (fixW ds) c := by
  cases x <;> first | (cases h; rfl) | cases h
theorem ok_ktree {a : ME} {xs : List α} {enc : α → D} (h : Ok (a l c) fun x c1 => c1 = c ∧ treeSeq x = some (xs.map enc)) : Ok (kAny a l c) fun w c1 => c1 = c ∧ ∀ i, i ≤ xs.length → w i c = some (xs.map enc)[i]? :=
  Ok.bind (h.mono fun x c1 ⟨e, ht⟩ => by subst e; exact ⟨_, _, wAny_tree ht, rfl, fun _ _ => rfl⟩)
theorem ok_ktreeG {a : ME} {xs : List α} {enc : α → D} (h : Ok (a l c) fun x c1 => Pfx c c1 ∧ treeSeq x = some (xs.map enc)) : Ok (kAny a l c) fun w c1 => Pfx c c1 ∧ ∀ c', Pfx c1 c' → ∀ i, i ≤ xs.length → w i c' = some (xs.map enc)[i]? :=
  Ok.bind (h.mono fun x c1 ⟨e, ht⟩ => ⟨_, _, wAny_tree ht, e, fun _ _ _ _ => rfl⟩)
theorem ok_kseq {a : ME} {xs : List α} {enc : α → D} (h : Ok (a l c) fun x c1 => c1 = c ∧ seqOf x c = some (xs.map enc)) : Ok (kAny a l c) fun w c1 => c1 = c ∧ ∀ i, i ≤ xs.length → w i c = some (xs.map enc)[i]? :=
  Ok.bind (h.mono fun x c1 ⟨e, ht⟩ => by subst e; obtain ⟨w, h1, h2⟩ := wAny_seq ht; exact ⟨_, _, h1, rfl, fun i _ => h2 i⟩)
theorem rangeL0 (n : Nat) : rangeL 0 n = (List.range n).map fun i => D.int (i : Nat) := by
  unfold rangeL
  refine List.map_congr_left fun i _ => ?_
  rw [Int.zero_add]
theorem small_nat {n : Nat} (h : n ≤ 1000000) : small62 (n : Int) := by
  have e : (2 : Int) ^ 62 = 4611686018427387904 := by decide
  unfold small62
  rw [e]
  omega
theorem r1_eq {t : MA} {n : Nat} (h : Ok (t l c) fun xs c1 => c1 = c ∧ xs = [.int (n : Int)]) (hn : n ≤ 1000000) : iR1 t l c = .ok ((List.range n).map fun i => D.int (i : Nat)) c := by
  have h2 : Ok (iR1 t l c) fun ds c1 => ds = rangeL 0 n ∧ c1 = c := ok_r1 (h.mono fun xs c1 ⟨e1, e2⟩ => ⟨n, e2, small_nat hn, by rw [Int.toNat_natCast], e1⟩)
  rw [h2.eq, rangeL0]
theorem ok_kr1 {t : MA} {n : Nat} {QW : Wk → Cs → Prop} (h : Ok (t l c) fun xs c1 => c1 = c ∧ xs = [.int (n : Int)]) (hn : n ≤ 1000000) (q : QW (fixW ((List.range n).map fun i => D.int (i : Nat))) c) : Ok (kFix (iR1 t) l c) QW :=
  ok_kfix (r1_eq h hn) q
/-- [e for i in range(n)] -/
theorem ok_lcR {m : MA} {js : List Nat} (n : Nat) (F : Nat → D) (hn : n ≤ 1000000) (hm : Ok (m l c) fun xs c1 => c1 = c ∧ xs = [.int (n : Int)])
    (h : ∀ i, i < n → Ok (g (.int (i : Nat)) (wipeL l js) c) fun l1 c1 => c1 = c ∧ Ok (e l1 c) fun d c3 => d = F i ∧ c3 = c)
    (q : Q (.lst ((List.range n).map F)) c) : Ok (mLc (iR1 m) js g tYesM e l c) Q :=
  ok_mlc (r1_eq hm hn) (by simp; exact hn) (ok_lcY (List.range n) (fun i => D.int (i : Nat)) F (by simp; exact hn) (ok_kr1 hm hn ⟨rfl, fun _ _ => rfl⟩) (fun a ha => h a (List.mem_range.mp ha)) q)
end

/-! ### loops over typed lists -/
section
variable {α : Type} {g : MG} {f : MS} {l : Ls} {c : Cs} {QS : Fl → Cs → Prop}
theorem forD_T {xs : List α} {enc : α → D} (P : List α → Ls → Cs → Prop) (hd : ∀ l c, P [] l c → QS (.nx l) c)
    (ht : ∀ x rest l c, P (x :: rest) l c → Ok (g (enc x) l c) fun l1 c1 => OkS (f l1 c1) fun fl c2 => match fl with
      | .nx l2 => P rest l2 c2
      | .ct l2 => P rest l2 c2
      | .bk l2 => QS (.nx l2) c2
      | .rt d => QS (.rt d) c2) : ∀ (xs : List α) l c, P xs l c → OkS (forD g f (xs.map enc) l c) QS := fun xs l c h =>
  OkS.for (fun ds l c => ∃ ys : List α, ds = ys.map enc ∧ P ys l c) (fun l c ⟨ys, e, p⟩ => by
      cases ys with
      | nil => exact hd l c p
      | cons y ys => simp at e) (fun d ds l c ⟨ys, e, p⟩ => by
      cases ys with
      | nil => simp at e
      | cons y ys =>
        simp only [List.map_cons, List.cons.injEq] at e
        obtain ⟨rfl, rfl⟩ := e
        refine (ht y ys l c p).mono fun l1 c1 h1 => h1.mono fun fl c2 h2 => ?_
        cases fl with
        | nx l2 => exact ⟨ys, rfl, h2⟩
        | ct l2 => exact ⟨ys, rfl, h2⟩
        | bk l2 => exact h2
        | rt d => exact h2) _ _ _ ⟨xs, rfl, h⟩
theorem os_forX {a : ME} (xs : List α) (enc : α → D) (P : List α → Ls → Cs → Prop) (hl : xs.length ≤ 1000000) (ha : Ok (a l c) fun x c1 => treeSeq x = some (xs.map enc) ∧ P xs l c1)
    (hd : ∀ l c, P [] l c → QS (.nx l) c)
    (ht : ∀ x rest l c, P (x :: rest) l c → Ok (g (enc x) l c) fun l1 c1 => OkS (f l1 c1) fun fl c2 => match fl with
      | .nx l2 => P rest l2 c2
      | .ct l2 => P rest l2 c2
      | .bk l2 => QS (.nx l2) c2
      | .rt d => QS (.rt d) c2) : OkS (sForW (kAny a) g f l c) QS := by
  refine os_forW (ok_kany (ha.mono fun x c1 ⟨h1, h2⟩ => ⟨_, _, wAny_tree h1, ?_⟩))
  show OkS (forW g f (fixW (xs.map enc)) fuelW 0 l c1) QS
  rw [forW_fix _ _ _ _ _ rfl (by rw [List.length_map]; unfold fuelW; omega), List.drop_zero]
  exact forD_T (xs := xs) P hd ht xs l c1 h2
theorem os_forY {it : MI} (xs : List α) (enc : α → D) (P : List α → Ls → Cs → Prop) (ha : Ok (it l c) fun ds c1 => ds = xs.map enc ∧ P xs l c1)
    (hd : ∀ l c, P [] l c → QS (.nx l) c)
    (ht : ∀ x rest l c, P (x :: rest) l c → Ok (g (enc x) l c) fun l1 c1 => OkS (f l1 c1) fun fl c2 => match fl with
      | .nx l2 => P rest l2 c2
      | .ct l2 => P rest l2 c2
      | .bk l2 => QS (.nx l2) c2
      | .rt d => QS (.rt d) c2) : OkS (sFor it g f l c) QS :=
  os_for (ha.mono fun ds c1 ⟨h1, h2⟩ => by subst h1; exact forD_T (xs := xs) P hd ht xs l c1 h2)
theorem os_forR {m : MA} (n : Nat) (P : List Nat → Ls → Cs → Prop) (hn : n ≤ 1000000) (hm : Ok (m l c) fun xs c1 => c1 = c ∧ xs = [.int (n : Int)]) (h0 : P (List.range n) l c)
    (hd : ∀ l c, P [] l c → QS (.nx l) c)
    (ht : ∀ x rest l c, P (x :: rest) l c → Ok (g (.int (x : Nat)) l c) fun l1 c1 => OkS (f l1 c1) fun fl c2 => match fl with
      | .nx l2 => P rest l2 c2
      | .ct l2 => P rest l2 c2
      | .bk l2 => QS (.nx l2) c2
      | .rt d => QS (.rt d) c2) : OkS (sFor (iR1 m) g f l c) QS :=
  os_forY (List.range n) (fun i => D.int (i : Nat)) P (Ok.of (r1_eq hm hn) ⟨rfl, h0⟩) hd ht
end

/-! ### zip, enumerate over trees -/
section
variable {l : Ls} {c : Cs}
theorem seqW_tree {x : D} {ds : List D} (h : treeSeq x = some ds) (c : Cs) : seqW x c = some ds := by
  cases x <;> first | (cases h; rfl) | cases h
theorem zipW_tree {x y : D} {xs ys : List D} (hx : treeSeq x = some xs) (hy : treeSeq y = some ys) (c : Cs) (i : Nat) (hi : i ≤ (List.zipWith (fun a b => D.tup [a, b]) xs ys).length) :
    zipW x y i c = some (List.zipWith (fun a b => D.tup [a, b]) xs ys)[i]? := by
  unfold zipW
  rw [seqW_tree hx, seqW_tree hy]
  simp only [List.getElem?_zipWith]
  rw [List.length_zipWith] at hi
  cases q1 : xs[i]? with
  | none =>
    have := List.getElem?_eq_none_iff.mp q1
    simp only []
    rw [if_pos (by omega)]
  | some a =>
    cases q2 : ys[i]? with
    | none =>
      have := List.getElem?_eq_none_iff.mp q2
      simp only []
      rw [if_pos (by omega)]
    | some b => rfl
theorem ok_kzip {t : MA} {x y : D} {xs ys : List D} {QW : Wk → Cs → Prop} (h : Ok (t l c) fun ds c1 => ds = [x, y] ∧ treeSeq x = some xs ∧ treeSeq y = some ys ∧ QW (zipW x y) c1) : Ok (kZip t l c) QW := by
  obtain ⟨ds, c1, e, rfl, h1, h2, q⟩ := h
  refine ⟨zipW x y, c1, ?_, q⟩
  show (t l c).bind _ = _
  rw [e]
  show (if (seqW x c1).isSome = true ∧ (seqW y c1).isSome = true then (.ok (zipW x y) c1 : R Wk) else .stuck) = _
  rw [if_pos ⟨by rw [seqW_tree h1]; rfl, by rw [seqW_tree h2]; rfl⟩]
def enumL (xs : List D) : List D := xs.mapIdx fun i a => .tup [.int (i : Nat), a]
theorem enumW_tree {x : D} {xs : List D} (hx : treeSeq x = some xs) (c : Cs) (i : Nat) (hi : i ≤ xs.length) : enumW x i c = some (enumL xs)[i]? := by
  unfold enumW enumL
  rw [seqW_tree hx]
  simp only [List.getElem?_mapIdx]
  cases q1 : xs[i]? with
  | none =>
    have := List.getElem?_eq_none_iff.mp q1
    simp only []
    rw [if_pos (by omega)]
    rfl
  | some a => rfl
theorem ok_kenum {t : MA} {x : D} {xs : List D} {QW : Wk → Cs → Prop} (h : Ok (t l c) fun ds c1 => ds = [x] ∧ treeSeq x = some xs ∧ QW (enumW x) c1) : Ok (kEnum t l c) QW := by
  obtain ⟨ds, c1, e, rfl, h1, q⟩ := h
  refine ⟨enumW x, c1, ?_, q⟩
  show (t l c).bind _ = _
  rw [e]
  show (if (seqW x c1).isSome = true then (.ok (enumW x) c1 : R Wk) else .stuck) = _
  rw [if_pos (by rw [seqW_tree h1]; rfl)]
end

section
variable {it : MI} {iw : MK} {js : List Nat} {g : MG} {t : MT} {e : ME} {f : MS} {l : Ls} {c : Cs} {Q : D → Cs → Prop} {QS : Fl → Cs → Prop}
theorem at_mul {x y : D} (h : Ok (mulI x y c) Q) : Ok (mulI x y c) Q := h
theorem at_mod {x y : D} (h : Ok (modI x y c) Q) : Ok (modI x y c) Q := h
theorem at_div {x y : D} (h : Ok (divI x y c) Q) : Ok (divI x y c) Q := h
theorem at_pow {x y : D} (h : Ok (powI x y c) Q) : Ok (powI x y c) Q := h
theorem at_lc (h : Ok (mLc it js g t e l c) Q) : Ok (mLc it js g t e l c) Q := h
theorem at_lcW (h : Ok (mLcW iw js g t e l c) Q) : Ok (mLcW iw js g t e l c) Q := h
theorem at_for (h : OkS (sFor it g f l c) QS) : OkS (sFor it g f l c) QS := h
theorem at_forW (h : OkS (sForW iw g f l c) QS) : OkS (sForW iw g f l c) QS := h
end
/-! ### own objects -/
section
variable {o a : ME} {t : MA} {l : Ls} {c : Cs} {Q : D → Cs → Prop} {n mm : Str} {g : List D → Cs → R D} {g0 : D → D → Cs → R D} {x y : D} {fs : List (Str × D)}
theorem viaT_eq {α : Type} {r : (List D → Cs → R D) → List (Str × D) → R α} (h : insOf x c = some (n, fs)) : viaT [(n, g)] x c r = r g fs := by
  unfold viaT
  rw [h]
  simp [List.lookup]
theorem ok_prop (h : Ok (o l c) fun x c1 => (∃ fs, insOf x c1 = some (n, fs)) ∧ Ok (g [x] c1) Q) : Ok (mProp [(n, g)] o l c) Q :=
  Ok.bind (h.mono fun x c1 ⟨⟨fs, h1⟩, h2⟩ => by rw [viaT_eq h1]; exact h2.nox)
theorem ok_meth (h : Ok (o l c) fun x c1 => (∃ fs, insOf x c1 = some (n, fs) ∧ fs.lookup mm = none) ∧ Ok (t l c1) fun xs c2 => Ok (g (x :: xs) c2) Q) : Ok (mMeth [(n, g)] mm o t l c) Q :=
  Ok.bind (h.mono fun x c1 ⟨⟨fs, h1, h3⟩, h2⟩ => by rw [viaT_eq h1, h3]; exact Ok.bind h2)
theorem ok_fld {f : Str} (h : Ok (o l c) fun x c1 => ∃ fs d, insOf x c1 = some (n, fs) ∧ fs.lookup f = some d ∧ Q d c1) : Ok (mFld [n] f o l c) Q :=
  Ok.bind (h.mono fun x c1 ⟨fs, d, h1, h2, q⟩ => ⟨d, c1, by simp [fldR, h1, fldO, h2], q⟩)
theorem ok_eqI (h : insOf x c = some (n, fs)) (ht : eqTy n y c = true) (q : Ok (g [x, y] c) Q) : Ok (eqI [(n, g)] g0 x y c) Q := by
  unfold eqI
  rw [h]
  simp only []
  rw [if_pos ht, viaT_eq h]
  exact q
theorem ok_neI (h : insOf x c = some (n, fs)) (ht : eqTy n y c = true) (q : Ok (g [x, y] c) fun r c2 => ∃ b, r = .bl b ∧ Q (.bl (!b)) c2) : Ok (neI [(n, g)] g0 x y c) Q := by
  unfold neI
  rw [h]
  simp only []
  rw [if_pos ht, viaT_eq h]
  exact Ok.bind (q.mono fun r c2 ⟨b, e, q⟩ => by subst e; exact ⟨_, _, rfl, q⟩)
theorem ok_inI {neg : Bool} (h : insOf y c = some (n, fs)) (q : Ok (g [y, x] c) fun r c2 => ∃ b, r = .bl b ∧ Q (.bl (sgn neg b)) c2) : Ok (inI [(n, g)] neg g0 x y c) Q := by
  unfold inI
  rw [h]
  simp only []
  rw [viaT_eq h]
  exact Ok.bind (q.mono fun r c2 ⟨b, e, q⟩ => by subst e; exact ⟨_, _, rfl, q⟩)
theorem ok_ixI (h : insOf x c = some (n, fs)) (q : Ok (g [x, y] c) Q) : Ok (ixI [(n, g)] g0 x y c) Q := by
  unfold ixI
  rw [h]
  simp only []
  rw [viaT_eq h]
  exact q
theorem ok_negI {g1 : D → Cs → R D} (h : insOf x c = some (n, fs)) (q : Ok (g [x] c) Q) : Ok (negI [(n, g)] g1 x c) Q := by
  unfold negI
  rw [h]
  simp only []
  rw [viaT_eq h]
  exact q
theorem ok_lenI (h : insOf x c = some (n, fs)) (q : Ok (g [x] c) fun r c2 => ∃ i : Int, r = .int i ∧ 0 ≤ i ∧ i < 2 ^ 63 ∧ Q (.int i) c2) : Ok (lenI [(n, g)] [x] c) Q := by
  unfold lenI
  simp only [h]
  rw [viaT_eq h]
  exact Ok.bind (q.mono fun r c2 ⟨i, e, h1, h2, q⟩ => by subst e; exact ⟨_, _, if_pos ⟨h1, h2⟩, q⟩)
theorem ok_strI (h : insOf x c = some (n, fs)) (q : Ok (g [x] c) fun r c2 => ∃ s, r = .str s ∧ Q (.str s) c2) : Ok (strI [(n, g)] [x] c) Q := by
  unfold strI
  simp only [h]
  rw [viaT_eq h]
  exact Ok.bind (q.mono fun r c2 ⟨i, e, q⟩ => by subst e; exact ⟨_, _, rfl, q⟩)
theorem ok_iso1 {ns : List Str} {k : Str} (h : Ok (a l c) fun x c1 => ∃ fs, insOf x c1 = some (k, fs) ∧ k ∈ ns ∧ Q (.bl (k == n)) c1) : Ok (mIso n ns a l c) Q :=
  Ok.bind (h.mono fun x c1 ⟨fs, h1, h2, q⟩ => ⟨_, _, by unfold isoR; rw [h1]; exact if_pos h2, q⟩)
theorem ok_iso0 {ns : List Str} (h : Ok (a l c) fun x c1 => insOf x c1 = none ∧ (tyD x c1).isSome = true ∧ Q (.bl false) c1) : Ok (mIso n ns a l c) Q :=
  Ok.bind (h.mono fun x c1 ⟨h1, h2, q⟩ => ⟨_, _, by
    unfold isoR
    rw [h1]
    obtain ⟨t, e⟩ := Option.isSome_iff_exists.mp h2
    rw [e], q⟩)
theorem ins_of_ty {x : D} {c : Cs} (h : (tyD x c).isSome = true) : insOf x c = none := by
  cases x with
  | ref k =>
    unfold tyD at h
    cases q : c[k]? with
    | none => simp [insOf, q]
    | some z =>
      simp only [q] at h
      cases z with
      | ins n fs => cases h
      | frz d => cases d <;> first | (simp [insOf, q]; done) | cases h
      | _ => simp [insOf, q]
  | obj => cases h
  | _ => rfl
theorem ok_star {Q : List D → Cs → Prop} (h : Ok (a l c) fun x c1 => ∃ xs, seqOf x c1 = some xs ∧ Ok (t l c1) fun ys c2 => Q (xs ++ ys) c2) : Ok (aStar a t l c) Q :=
  Ok.bind (h.mono fun x c1 ⟨xs, e, q⟩ => by
    rw [e]
    exact Ok.bind (q.mono fun ys c2 q => ⟨_, _, rfl, q⟩))
end
end L2.Mi

/-! a, b, .. = a list -/
namespace L2.Mi
open PySem PySem.Spec PyProof.Rows L2
def gOr (g1 g2 : TG) : TG := fun v σ H Q => g1 v σ H Q ∨ g2 v σ H Q
theorem pg_or {X : Cx} {e : Expr} {g1 g2 : TG} (h1 : PG X e g1) (h2 : PG X e g2) : PG X e (gOr g1 g2) := ⟨fun pins s σ H v u Q I r hw => hw.elim (h1.run pins s σ H v u Q I r) (h2.run pins s σ H v u Q I r)⟩
def gTL (js : List Nat) : MG := fun d l c => match d with
  | .tup ds => if ds.length = js.length then gNs js ds l c else .stuck
  | d => match lstOf d c with
    | some ds => if ds.length = js.length then gNs js ds l c else .stuck
    | none => .stuck
theorem lstOf_at {K : PySem.W.Frag} {I H : Hp} {m : List Addr} {c : Cs} {v : V} {d : D} {ds : List D} (R : Rel K I H m c) (p : Rep K I m v d) (h : lstOf d c = some ds) : ∃ a vs, v = .ref a ∧ SqL K H a vs ∧ Reps K I m vs ds := by
  cases p with
  | @lst a vs ds' h1 r => cases h; exact ⟨a, vs, rfl, SqL.of (R.same _ _ h1), r⟩
  | @ro a vs ds' h1 r => first | (cases h; exact ⟨a, vs, rfl, R.same.seq h1, r⟩) | cases h
  | @ref k a hk =>
    unfold lstOf at h
    cases q : c[k]? with
    | none => simp only [q] at h; cases h
    | some x =>
      simp only [q] at h
      have hc := R.cell k a x hk q
      cases x with
      | lst xs => cases h; obtain ⟨_, vs, h1, h2⟩ := hc; exact ⟨a, vs, rfl, SqL.of h1, h2⟩
      | frz d =>
        cases d with
        | lst xs =>
          first
          | (cases h
             obtain ⟨_, hr⟩ := hc
             cases hr with
             | lst h1 h2 => exact ⟨_, _, rfl, SqL.of (R.same _ _ h1), h2⟩)
          | cases h
        | _ => cases h
      | _ => cases h
  | _ => cases h
theorem mg_tupL {X : Cx} {W : WX} {es : List Expr} {k : Nat} {pos : Pos} {js : List Nat} (hc : X.calm = true) (h : PGs X es (rdGs X.K W (gNs js)))
    (hn : (assignEach es X.env).length = js.length := by rfl) (hst : (assignEach es X.env).findIdx? (·.1) = none := by rfl) : PG X (.Tuple es k pos) (rdG X.K W (gTL js)) :=
  PGi (pg_or (pg_tup hc h hn hst) (pg_unl hc h hn hst)) fun v σ H Q ⟨I, m, l, c, d, R, L, p, A⟩ => by
    have lst : ∀ d', d = d' → (match lstOf d' c with
        | some ds => if ds.length = js.length then gNs js ds l c else .stuck
        | none => .stuck) = gTL js d l c → gOr (gTup X.K js.length (rdGs X.K W (gNs js))) (gUnl X.K js.length (rdGs X.K W (gNs js))) v σ H Q := fun d' e hg => by
      subst e
      rw [← hg] at A
      cases q : lstOf d c with
      | none => rw [q] at A; exact A.elim
      | some ds =>
        rw [q] at A
        obtain ⟨a, vs, rfl, h1, r⟩ := lstOf_at R p q
        by_cases hl : ds.length = js.length
        · have A2 : After (rL X.K) X.K I m H (fun cls dd H' => W cls dd σ H') Q (if ds.length = js.length then gNs js ds l c else .stuck) := A
          rw [if_pos hl] at A2
          exact .inr ⟨a, vs, rfl, h1, r.length.trans hl, I, m, l, c, ds, R, L, r, A2⟩
        · have A2 : After (rL X.K) X.K I m H (fun cls dd H' => W cls dd σ H') Q (if ds.length = js.length then gNs js ds l c else .stuck) := A
          rw [if_neg hl] at A2
          exact A2.elim
    cases d with
    | tup ds =>
      cases p with
      | @tup a vs ds h r =>
        by_cases hl : ds.length = js.length
        · have A2 : After (rL X.K) X.K I m H (fun cls dd H' => W cls dd σ H') Q (if ds.length = js.length then gNs js ds l c else .stuck) := A
          rw [if_pos hl] at A2
          exact .inl ⟨a, vs, rfl, sqT_same R.same h, r.length.trans hl, I, m, l, c, ds, R, L, r, A2⟩
        · have A2 : After (rL X.K) X.K I m H (fun cls dd H' => W cls dd σ H') Q (if ds.length = js.length then gNs js ds l c else .stuck) := A
          rw [if_neg hl] at A2
          exact A2.elim
    | _ => exact lst _ rfl rfl
theorem ok_gtl {js : List Nat} {ds : List D} {l : Ls} {c : Cs} {Q : Ls → Cs → Prop} (hl : ds.length = js.length) (q : Ok (gNs js ds l c) Q) : Ok (gTL js (.lst ds) l c) Q := by
  show Ok (if ds.length = js.length then gNs js ds l c else .stuck) Q
  rw [if_pos hl]
  exact q
end L2.Mi

namespace L2.Mi
open PySem PySem.Spec PyProof.Rows L2
/-! comprehensions whose list is changed later: cells -/
theorem Rel.pushA {K : PySem.W.Frag} {I H : Hp} {m : List Addr} {c : Cs} (r : Rel K I H m c) {p : Addr} {vs : List V} {ds : List D} (hH : H p = some (.lst vs)) (hI : I p = none) (nm : p ∉ m) (q : Reps K I m vs ds) : Rel K I H (m ++ [p]) (c ++ [.lst ds]) := by
  have hp := pre_app m p
  refine ⟨r.same, by simp [r.len], fun i j a h1 h2 => ?_, fun k a x h1 h2 => ?_⟩
  · rcases Nat.lt_or_ge i m.length with hi | hi
    · rcases Nat.lt_or_ge j m.length with hj | hj
      · rw [List.getElem?_append_left hi] at h1
        rw [List.getElem?_append_left hj] at h2
        exact r.nd i j a h1 h2
      · rw [List.getElem?_append_left hi] at h1
        rw [List.getElem?_append_right hj] at h2
        have e : a = p := by
          cases z : j - m.length with
          | zero => rw [z] at h2; simpa using h2.symm
          | succ n => rw [z] at h2; simp at h2
        exact absurd (List.mem_of_getElem? h1) (e ▸ nm)
    · rcases Nat.lt_or_ge j m.length with hj | hj
      · rw [List.getElem?_append_left hj] at h2
        rw [List.getElem?_append_right hi] at h1
        have e : a = p := by
          cases z : i - m.length with
          | zero => rw [z] at h1; simpa using h1.symm
          | succ n => rw [z] at h1; simp at h1
        exact absurd (List.mem_of_getElem? h2) (e ▸ nm)
      · have hi' := (List.getElem?_eq_some_iff.mp h1).1
        have hj' := (List.getElem?_eq_some_iff.mp h2).1
        simp at hi' hj'
        omega
  · rcases Nat.lt_or_ge k m.length with hk | hk
    · rw [List.getElem?_append_left hk] at h1
      rw [List.getElem?_append_left (by rw [← r.len]; exact hk)] at h2
      have q := r.cell k a x h1 h2
      cases x with
      | lst es =>
        obtain ⟨q1, ws, q2, q3⟩ := q
        exact ⟨q1, ws, q2, q3.mono (Same.refl I) hp⟩
      | dct es =>
        obtain ⟨q1, ws, q2, q3⟩ := q
        exact ⟨q1, ws, q2, q3.mono (Same.refl I) hp⟩
      | ins C es =>
        obtain ⟨q1, dx, ws, q2, q3, q4, q5, q6⟩ := q
        exact ⟨q1, dx, ws, q2, fun z => by
          rcases List.mem_append.mp z with z | z
          · exact q3 z
          · simp only [List.mem_singleton] at z
            exact ne_of q4 hH (by intro y; cases y) z, q4, q5, q6.mono (Same.refl I) hp⟩
      | frz d => exact ⟨q.1, q.2.mono (Same.refl I) hp⟩
    · have hk' := (List.getElem?_eq_some_iff.mp h1).1
      simp at hk'
      have e : k = m.length := by omega
      subst e
      rw [List.getElem?_append_right (Nat.le_refl _)] at h1
      rw [r.len, List.getElem?_append_right (Nat.le_refl _)] at h2
      simp at h1 h2
      subst h1; subst h2
      exact ⟨hI, vs, hH, q.mono (Same.refl I) hp⟩

def mLcM (it : MI) (js : List Nat) (g : MG) (t : MT) (e : ME) : ME := fun l c => (it l c).bind fun ds c1 => (compD g t e (wipeL l js) ds [] c1).bind fun xs c2 => .ok (.ref c2.length) (c2 ++ [Cell.lst xs])
def mLcMW (it : MK) (js : List Nat) (g : MG) (t : MT) (e : ME) : ME := fun l c => (it l c).bind fun w c1 => (compW g t e (wipeL l js) w fuelW 0 [] c1).bind fun xs c2 => .ok (.ref c2.length) (c2 ++ [Cell.lst xs])
theorem lc_readM {K : PySem.W.Frag} {W : WX} {fi : MI} {g : MG} {ft : MT} {fe : ME} {js : List Nat} {g0 : TG} (good : Good g0 js) (rg : ∀ v σ H Q, rdG K W0 g v σ H Q → g0 v σ H Q) {σ : St} {H : Hp} {Q : VK} (h : rdE K W (mLcM fi js g ft fe) σ H Q) :
    tLc (rdI K W fi) g0 (rdT K W0 ft) (rdE K W0 fe) js σ H Q := by
  obtain ⟨I, m, l, c, R, L, A⟩ := h
  refine ⟨I, m, l, c, R, L, After.mono (After.bind (rep := rI' K) A) fun J H1 ⟨I1, m1, c1, ds, E1, R1, w1, A1⟩ => ?_⟩
  intro Dn hD
  have nI := R1.same.free hD
  have nm := R1.fresh hD
  refine ⟨fun i n H => ∃ I' m' c' acc vs, n = ds.length - i ∧ Ext I1 m1 H1 I' m' H ∧ Rel K I' H m' c' ∧ Reps K I' m' vs acc ∧ H Dn = some (.lst vs) ∧ I' Dn = none ∧ Dn ∉ m' ∧
    After (rD K) K I1 m1 H1 (fun cls dd H' => W cls dd σ H') Q ((compD g ft fe (wipeL l js) (ds.drop i) acc c').bind fun xs c2 => .ok (.ref c2.length) (c2 ++ [Cell.lst xs])),
    ⟨_, I1, m1, c1, [], [], rfl, ⟨Same.refl _, Pre.refl _, fun b o h1 h2 h3 => ⟨by rw [upd_ne (ne_of_none h1 hD)]; exact h1, h2, h3⟩⟩, R1.side (vs := []) (.inl hD) nI nm, .nil, upd_same, nI, nm, A1⟩, ?_⟩
  rintro i n H' ⟨I', m', c', acc, vs, rfl, E', R', p', hH', hI', hm', A'⟩
  obtain ⟨wg, ws⟩ := w1 i I' H' m' c' E'.same E'.pre R'
  cases q : ds[i]? with
  | none =>
    have hi : ds.length ≤ i := List.getElem?_eq_none_iff.mp q
    rw [List.drop_eq_nil_of_le hi] at A'
    refine .inl ⟨ws hi, ?_⟩
    have RP := R'.pushA hH' hI' hm' p'
    refine A' I' (m' ++ [Dn]) H' (.ref Dn) ⟨E'.same, E'.pre.trans (pre_app m' Dn), fun b o h1 h2 h3 => ?_⟩ RP (Rep.ref ?_)
    · obtain ⟨q1, q2, q3⟩ := E'.fr b o h1 h2 h3
      exact ⟨q1, q2, fun hm => (List.mem_append.mp hm).elim q3 fun hm => ne_of_none h1 hD (List.mem_singleton.mp hm)⟩
    · rw [← R'.len, List.getElem?_append_right (Nat.le_refl _), Nat.sub_self]
      rfl
  | some d =>
    have hi : i < ds.length := (List.getElem?_eq_some_iff.mp q).1
    have hd : ds.drop i = d :: ds.drop (i + 1) := by
      rw [List.drop_eq_getElem_cons hi, (List.getElem?_eq_some_iff.mp q).2]
    rw [hd] at A'
    obtain ⟨go, yl⟩ := wg d q
    refine .inr ⟨go, fun H2 => ∃ I2 m2 c2 acc2 vs2, Ext I1 m1 H1 I2 m2 H2 ∧ Rel K I2 H2 m2 c2 ∧ Reps K I2 m2 vs2 acc2 ∧ H2 Dn = some (.lst vs2) ∧ I2 Dn = none ∧ Dn ∉ m2 ∧
      After (rD K) K I1 m1 H1 (fun cls dd H' => W cls dd σ H') Q ((compD g ft fe (wipeL l js) (ds.drop (i + 1)) acc2 c2).bind fun xs c2 => .ok (.ref c2.length) (c2 ++ [Cell.lst xs])),
      fun H2 ⟨I2, m2, c2, acc2, vs2, e2, r2, pp2, h2, i2, n2, a2⟩ => ⟨ds.length - (i + 1), by omega, I2, m2, c2, acc2, vs2, rfl, e2, r2, pp2, h2, i2, n2, a2⟩, fun x H3 y => ?_⟩
    obtain ⟨I3, E3, R3, p3⟩ := yl x H3 y
    have Lw := ((locs_wipe L js).ext E1).ext (E'.trans E3)
    have A3 : After (rD K) K I1 m1 H1 (fun cls dd H' => W cls dd σ H') Q (((g d (wipeL l js) c').nox.bind fun l1 c1 => (ft l1 c1).nox.bind fun k c2 => match k with
      | true => (fe l1 c2).nox.bind fun x c3 => if acc.length < sizeLine then compD g ft fe (wipeL l js) (ds.drop (i + 1)) (acc ++ [x]) c3 else .stuck
      | false => compD g ft fe (wipeL l js) (ds.drop (i + 1)) acc c2).bind fun xs c2 => .ok (.ref c2.length) (c2 ++ [Cell.lst xs])) := A'
    have asc : ∀ {α β γ : Type} (r : Mi.R α) (f : α → Cs → Mi.R β) (h : β → Cs → Mi.R γ), (r.bind f).bind h = r.bind fun a c => (f a c).bind h := fun r f h => by cases r <;> rfl
    rw [asc] at A3
    refine good x σ H3 _ (rg _ _ _ _ ⟨I3, m', wipeL l js, c', d, R3, Lw, p3, After.mono (After.nox (After.bindAt (rep := rL K) A3 (E'.trans E3))) fun σ4 H4 ⟨I4, m4, c4, l4, E4, R4, L4, A4⟩ => ?_⟩)
    rw [asc] at A4
    have EE := (E'.trans E3).trans E4
    refine ⟨I4, m4, l4, c4, R4, L4, After.mono (After.nox (After.bindAt (rep := rB) A4 EE)) fun b H5 ⟨I5, m5, c5, b5, E5, R5, p5, A5⟩ => ?_⟩
    cases (show b = b5 from p5)
    have F5 := (E3.trans E4).trans E5
    cases b with
    | false =>
      obtain ⟨f1, f2, f3⟩ := F5.fr _ _ hH' hI' hm'
      exact iteF ⟨I5, m5, c5, acc, vs, EE.trans E5, R5, p'.ext F5, f1, f2, f3, A5⟩
    | true =>
      have A6 : After (rD K) K I1 m1 H1 (fun cls dd H' => W cls dd σ H') Q (((fe l4 c5).nox.bind fun x c3 => if acc.length < sizeLine then compD g ft fe (wipeL l js) (ds.drop (i + 1)) (acc ++ [x]) c3 else .stuck).bind fun xs c2 => .ok (.ref c2.length) (c2 ++ [Cell.lst xs])) := A5
      rw [asc] at A6
      have L4' : Locs K I4 m4 σ4 l4 := L4
      refine iteT ⟨I5, m5, l4, c5, R5, L4'.ext E5, After.mono (After.nox (After.bindAt (rep := rD K) A6 (EE.trans E5))) fun z H7 ⟨I7, m7, c7, d7, E7, R7, p7, A7⟩ => ?_⟩
      have F7 := F5.trans E7
      obtain ⟨f1, f2, f3⟩ := F7.fr _ _ hH' hI' hm'
      by_cases hz : acc.length < sizeLine
      · have A8 : After (rD K) K I1 m1 H1 (fun cls dd H' => W cls dd σ H') Q ((if acc.length < sizeLine then compD g ft fe (wipeL l js) (ds.drop (i + 1)) (acc ++ [d7]) c7 else .stuck).bind fun xs c2 => .ok (.ref c2.length) (c2 ++ [Cell.lst xs])) := A7
        rw [if_pos hz] at A8
        refine ⟨vs, f1, by rw [p'.length]; exact hz, I7, m7, c7, acc ++ [d7], vs ++ [z], ?_, R7.side (.inr f1) f2 f3, (p'.ext F7).append (.cons p7 .nil), upd_same, f2, f3, A8⟩
        have G := (EE.trans E5).trans E7
        refine ⟨G.same, G.pre, fun b o h1 h2 h3 => ?_⟩
        obtain ⟨q1, q2, q3⟩ := G.fr b o h1 h2 h3
        exact ⟨by rw [upd_ne (ne_of_none h1 hD)]; exact q1, q2, q3⟩
      · have A8 : After (rD K) K I1 m1 H1 (fun cls dd H' => W cls dd σ H') Q ((if acc.length < sizeLine then compD g ft fe (wipeL l js) (ds.drop (i + 1)) (acc ++ [d7]) c7 else .stuck).bind fun xs c2 => .ok (.ref c2.length) (c2 ++ [Cell.lst xs])) := A7
        rw [if_neg hz] at A8
        exact A8.elim

theorem lc_readMW {K : PySem.W.Frag} {W : WX} {fi : MK} {g : MG} {ft : MT} {fe : ME} {js : List Nat} {g0 : TG} (good : Good g0 js) (rg : ∀ v σ H Q, rdG K W0 g v σ H Q → g0 v σ H Q) {σ : St} {H : Hp} {Q : VK} (h : rdE K W (mLcMW fi js g ft fe) σ H Q) :
    tLc (rdK K W fi) g0 (rdT K W0 ft) (rdE K W0 fe) js σ H Q := by
  obtain ⟨I, m, l, c, R, L, A⟩ := h
  refine ⟨I, m, l, c, R, L, After.mono (After.bind (rep := rW K) A) fun J H1 ⟨I1, m1, c1, w, E1, R1, w1, A1⟩ => ?_⟩
  intro Dn hD
  have nI := R1.same.free hD
  have nm := R1.fresh hD
  refine ⟨fun i n H => ∃ I' m' c' acc vs, Ext I1 m1 H1 I' m' H ∧ Rel K I' H m' c' ∧ Reps K I' m' vs acc ∧ H Dn = some (.lst vs) ∧ I' Dn = none ∧ Dn ∉ m' ∧
    After (rD K) K I1 m1 H1 (fun cls dd H' => W cls dd σ H') Q ((compW g ft fe (wipeL l js) w n i acc c').bind fun xs c2 => .ok (.ref c2.length) (c2 ++ [Cell.lst xs])),
    ⟨_, I1, m1, c1, [], [], ⟨Same.refl _, Pre.refl _, fun b o h1 h2 h3 => ⟨by rw [upd_ne (ne_of_none h1 hD)]; exact h1, h2, h3⟩⟩, R1.side (vs := []) (.inl hD) nI nm, .nil, upd_same, nI, nm, A1⟩, ?_⟩
  rintro i n H' ⟨I', m', c', acc, vs, E', R', p', hH', hI', hm', A'⟩
  obtain ⟨wg, ws⟩ := w1 i I' H' m' c' E'.same E'.pre R'
  have asc : ∀ {α β γ : Type} (r : Mi.R α) (f : α → Cs → Mi.R β) (h : β → Cs → Mi.R γ), (r.bind f).bind h = r.bind fun a c => (f a c).bind h := fun r f h => by cases r <;> rfl
  cases n with
  | zero => exact A'.elim
  | succ n =>
    have A' : After (rD K) K I1 m1 H1 (fun cls dd H' => W cls dd σ H') Q ((match w i c' with
      | none => .stuck
      | some none => .ok acc c'
      | some (some d) => (g d (wipeL l js) c').nox.bind fun l1 c1 => (ft l1 c1).nox.bind fun k c2 => match k with
        | true => (fe l1 c2).nox.bind fun x c3 => if acc.length < sizeLine then compW g ft fe (wipeL l js) w n (i + 1) (acc ++ [x]) c3 else .stuck
        | false => compW g ft fe (wipeL l js) w n (i + 1) acc c2 : Mi.R (List D)).bind fun xs c2 => .ok (.ref c2.length) (c2 ++ [Cell.lst xs])) := A'
    cases q : w i c' with
    | none => rw [q] at A'; exact A'.elim
    | some od =>
      rw [q] at A'
      cases od with
      | none =>
        refine .inl ⟨ws q, ?_⟩
        have RP := R'.pushA hH' hI' hm' p'
        refine A' I' (m' ++ [Dn]) H' (.ref Dn) ⟨E'.same, E'.pre.trans (pre_app m' Dn), fun b o h1 h2 h3 => ?_⟩ RP (Rep.ref ?_)
        · obtain ⟨q1, q2, q3⟩ := E'.fr b o h1 h2 h3
          exact ⟨q1, q2, fun hm => (List.mem_append.mp hm).elim q3 fun hm => ne_of_none h1 hD (List.mem_singleton.mp hm)⟩
        · rw [← R'.len, List.getElem?_append_right (Nat.le_refl _), Nat.sub_self]
          rfl
      | some d =>
        obtain ⟨go, yl⟩ := wg d q
        refine .inr ⟨go, fun H2 => ∃ I2 m2 c2 acc2 vs2, Ext I1 m1 H1 I2 m2 H2 ∧ Rel K I2 H2 m2 c2 ∧ Reps K I2 m2 vs2 acc2 ∧ H2 Dn = some (.lst vs2) ∧ I2 Dn = none ∧ Dn ∉ m2 ∧
          After (rD K) K I1 m1 H1 (fun cls dd H' => W cls dd σ H') Q ((compW g ft fe (wipeL l js) w n (i + 1) acc2 c2).bind fun xs c2 => .ok (.ref c2.length) (c2 ++ [Cell.lst xs])),
          fun H2 ⟨I2, m2, c2, acc2, vs2, e2, r2, pp2, h2, i2, n2, a2⟩ => ⟨n, Nat.lt_succ_self n, I2, m2, c2, acc2, vs2, e2, r2, pp2, h2, i2, n2, a2⟩, fun x H3 y => ?_⟩
        obtain ⟨I3, E3, R3, p3⟩ := yl x H3 y
        have Lw := ((locs_wipe L js).ext E1).ext (E'.trans E3)
        have A3 : After (rD K) K I1 m1 H1 (fun cls dd H' => W cls dd σ H') Q (((g d (wipeL l js) c').nox.bind fun l1 c1 => (ft l1 c1).nox.bind fun k c2 => match k with
          | true => (fe l1 c2).nox.bind fun x c3 => if acc.length < sizeLine then compW g ft fe (wipeL l js) w n (i + 1) (acc ++ [x]) c3 else .stuck
          | false => compW g ft fe (wipeL l js) w n (i + 1) acc c2).bind fun xs c2 => .ok (.ref c2.length) (c2 ++ [Cell.lst xs])) := A'
        rw [asc] at A3
        refine good x σ H3 _ (rg _ _ _ _ ⟨I3, m', wipeL l js, c', d, R3, Lw, p3, After.mono (After.nox (After.bindAt (rep := rL K) A3 (E'.trans E3))) fun σ4 H4 ⟨I4, m4, c4, l4, E4, R4, L4, A4⟩ => ?_⟩)
        rw [asc] at A4
        have EE := (E'.trans E3).trans E4
        refine ⟨I4, m4, l4, c4, R4, L4, After.mono (After.nox (After.bindAt (rep := rB) A4 EE)) fun b H5 ⟨I5, m5, c5, b5, E5, R5, p5, A5⟩ => ?_⟩
        cases (show b = b5 from p5)
        have F5 := (E3.trans E4).trans E5
        cases b with
        | false =>
          obtain ⟨f1, f2, f3⟩ := F5.fr _ _ hH' hI' hm'
          exact iteF ⟨I5, m5, c5, acc, vs, EE.trans E5, R5, p'.ext F5, f1, f2, f3, A5⟩
        | true =>
          have A6 : After (rD K) K I1 m1 H1 (fun cls dd H' => W cls dd σ H') Q (((fe l4 c5).nox.bind fun x c3 => if acc.length < sizeLine then compW g ft fe (wipeL l js) w n (i + 1) (acc ++ [x]) c3 else .stuck).bind fun xs c2 => .ok (.ref c2.length) (c2 ++ [Cell.lst xs])) := A5
          rw [asc] at A6
          have L4' : Locs K I4 m4 σ4 l4 := L4
          refine iteT ⟨I5, m5, l4, c5, R5, L4'.ext E5, After.mono (After.nox (After.bindAt (rep := rD K) A6 (EE.trans E5))) fun z H7 ⟨I7, m7, c7, d7, E7, R7, p7, A7⟩ => ?_⟩
          have F7 := F5.trans E7
          obtain ⟨f1, f2, f3⟩ := F7.fr _ _ hH' hI' hm'
          by_cases hz : acc.length < sizeLine
          · have A8 : After (rD K) K I1 m1 H1 (fun cls dd H' => W cls dd σ H') Q ((if acc.length < sizeLine then compW g ft fe (wipeL l js) w n (i + 1) (acc ++ [d7]) c7 else .stuck).bind fun xs c2 => .ok (.ref c2.length) (c2 ++ [Cell.lst xs])) := A7
            rw [if_pos hz] at A8
            refine ⟨vs, f1, by rw [p'.length]; exact hz, I7, m7, c7, acc ++ [d7], vs ++ [z], ?_, R7.side (.inr f1) f2 f3, (p'.ext F7).append (.cons p7 .nil), upd_same, f2, f3, A8⟩
            have G := (EE.trans E5).trans E7
            refine ⟨G.same, G.pre, fun b o h1 h2 h3 => ?_⟩
            obtain ⟨q1, q2, q3⟩ := G.fr b o h1 h2 h3
            exact ⟨by rw [upd_ne (ne_of_none h1 hD)]; exact q1, q2, q3⟩
          · have A8 : After (rD K) K I1 m1 H1 (fun cls dd H' => W cls dd σ H') Q ((if acc.length < sizeLine then compW g ft fe (wipeL l js) w n (i + 1) (acc ++ [d7]) c7 else .stuck).bind fun xs c2 => .ok (.ref c2.length) (c2 ++ [Cell.lst xs])) := A7
            rw [if_neg hz] at A8
            exact A8.elim

end L2.Mi
namespace PySem
section
variable {prog : Program} {w : World} {A : Around} {E : Value → Shared → Prop} {s : Shared} {l : Addr} {xs : Array (Int × Tok)}
theorem iter_intTuple {Q : Value → Shared → Prop} (hl : s.heap.IsTuple l (intItems xs))
    (h : ∀ s₂ : Shared, s₂ = { s with heap := s.heap.push { cls := .type "tuple_iterator", data := .fields #[.ref l, .int 0 0] } } →
      (s₂.heap.IsTupleIter s.heap.objs.size l 0 ∧ s₂.heap.IsTuple l (intItems xs)) → (∀ b ∈ [s.heap.objs.size, l], b < s₂.heap.objs.size) → l ≠ s.heap.objs.size → Q (.ref s.heap.objs.size) s₂) :
    wpAny (model prog w) A (pyIter (.ref l)) Q E s := by
  have hlt : l < s.heap.objs.size := by obtain ⟨_, e, _⟩ := hl; exact Heap.lt_size e
  refine wpAny_pyIter_tuple hl (h _ rfl ⟨⟨_, Heap.get?_push_size _ rfl, rfl, rfl⟩, hl.push _⟩ (fun b hb => ?_) (Nat.ne_of_lt hlt))
  show b < (s.heap.push _).objs.size
  rw [Heap.size_push]
  rcases List.mem_cons.mp hb with rfl | hb
  · exact Nat.lt_succ_self _
  · rcases List.mem_cons.mp hb with rfl | hb
    · exact Nat.lt_succ_of_lt hlt
    · cases hb
theorem old_keptT {h' : Heap} (hk : ∀ b o, b ∉ [s.heap.objs.size] → (s.heap.push { cls := .type "tuple_iterator", data := .fields #[.ref l, .int 0 0] }).get? b = some o → h'.get? b = some o) :
    ∀ b o, s.heap.get? b = some o → h'.get? b = some o := fun b o e => by
  refine hk b o (fun hm => ?_) (Heap.get?_push_of_some _ e)
  rcases List.mem_cons.mp hm with e1 | hm
  · exact absurd (e1 ▸ Heap.lt_size e) (Nat.lt_irrefl _)
  · cases hm
theorem max_intTuple {Q : Value → Shared → Prop} (hh : A.handled = none) (hl : s.heap.IsTuple l (intItems xs)) (hne : 0 < xs.size)
    (h : ∀ v h' tk, (intItems xs)[argBest (fun i j => decide (numAt xs i > numAt xs j)) (xs.size - 1)]? = some v → (∀ b o, s.heap.get? b = some o → h'.get? b = some o) → Q v { s with heap := h', toks := tk }) :
    wpAny (model prog w) A (call (.builtin "max") [.ref l]) Q E s := by
  refine call_max_walk (iter_intTuple hl fun s₂ e st hfp hlI => ?_)
  subst e
  refine ⟨_, _, _, _, _, _, _, rfl, Walks.tuple (A := A.in1) hh _ l hlI (intItems xs), st, hfp, by simpa [intItems] using hne, CmpOf.ints_gt (numAt xs) (fun _ _ => intItems_at), fun v h' tk hP hk => ?_⟩
  exact h v h' tk (by simpa [intItems] using hP) (old_keptT hk)
theorem min_intTuple {Q : Value → Shared → Prop} (hh : A.handled = none) (hl : s.heap.IsTuple l (intItems xs)) (hne : 0 < xs.size)
    (h : ∀ v h' tk, (intItems xs)[argBest (fun i j => decide (numAt xs i < numAt xs j)) (xs.size - 1)]? = some v → (∀ b o, s.heap.get? b = some o → h'.get? b = some o) → Q v { s with heap := h', toks := tk }) :
    wpAny (model prog w) A (call (.builtin "min") [.ref l]) Q E s := by
  refine call_min_walk (iter_intTuple hl fun s₂ e st hfp hlI => ?_)
  subst e
  refine ⟨_, _, _, _, _, _, _, rfl, Walks.tuple (A := A.in1) hh _ l hlI (intItems xs), st, hfp, by simpa [intItems] using hne, CmpOf.ints_lt (numAt xs) (fun _ _ => intItems_at), fun v h' tk hP hk => ?_⟩
  exact h v h' tk (by simpa [intItems] using hP) (old_keptT hk)
theorem sum_intTuple {Q : Value → Shared → Prop} (hh : A.handled = none) (hl : s.heap.IsTuple l (intItems xs))
    (h : ∀ h' tk t', (∀ b o, s.heap.get? b = some o → h'.get? b = some o) → Q (.int (preSum (numAt xs) xs.size) t') { s with heap := h', toks := tk }) :
    wpAny (model prog w) A (call (.builtin "sum") [.ref l]) Q E s := by
  refine call_sum_walkG (iter_intTuple hl fun s₂ e st hfp hlI => ?_)
  subst e
  refine ⟨_, _, _, _, _, _, numAt xs, rfl, Walks.tuple (A := A.in1) hh _ l hlI (intItems xs), st, hfp, (fun _ _ => intItems_at), fun h' tk t' hk => ?_⟩
  have := h h' tk t' (old_keptT hk)
  simpa [intItems] using this
end
end PySem
namespace L2.Mi
open PySem PySem.Spec PyProof.Rows L2
section
variable {prog : Program} {w : World} {A : Around} {E : Value → Shared → Prop} {s : Shared} {l : Addr} {its : List Value} {ns : List Int} {Q : Value → Shared → Prop}
theorem sumT_raw (hh : A.handled = none) (hl : s.heap.IsTuple l its.toArray) (hi : IntsAre its ns)
    (h : ∀ h' tk t', (∀ b o, s.heap.get? b = some o → h'.get? b = some o) → Q (.int ns.sum t') { s with heap := h', toks := tk }) : wpAny (model prog w) A (call (.builtin "sum") [.ref l]) Q E s := by
  obtain ⟨xs, e⟩ := hi.allInts.items
  have hn : numsOf (intItems xs).toList = ns := by rw [← e]; exact hi.numsOf
  rw [nums_intItems] at hn
  rw [e] at hl
  refine PySem.sum_intTuple hh hl fun h' tk t' hk => ?_
  have := h h' tk t' hk
  rw [preSum_eq, List.take_of_length_le (by simp), hn]; exact this
theorem maxT_raw (hh : A.handled = none) (hl : s.heap.IsTuple l its.toArray) (hi : IntsAre its ns) (hne : 0 < ns.length)
    (h : ∀ h' tk M t', (∀ b o, s.heap.get? b = some o → h'.get? b = some o) → M ∈ ns → (∀ a, a ∈ ns → a ≤ M) → Q (.int M t') { s with heap := h', toks := tk }) : wpAny (model prog w) A (call (.builtin "max") [.ref l]) Q E s := by
  obtain ⟨xs, e⟩ := hi.allInts.items
  have hn : numsOf (intItems xs).toList = ns := by rw [← e]; exact hi.numsOf
  rw [nums_intItems] at hn
  subst hn
  rw [e] at hl
  have hsz : 0 < xs.size := by simpa using hne
  refine PySem.max_intTuple hh hl hsz fun v h' tk hv hk => ?_
  obtain ⟨t, rfl⟩ := intItems_at hv
  obtain ⟨h1, h2⟩ := argBest_gt (numAt xs) (xs.size - 1)
  refine h h' tk _ t hk ?_ fun a ha => ?_
  · rw [numAt_eq]; exact PySem.getD_mem (by rw [List.length_map, Array.length_toList]; omega)
  · obtain ⟨j, hj, rfl⟩ := mem_getD ha
    rw [List.length_map, Array.length_toList] at hj
    rw [← numAt_eq]; exact h2 j (by omega)
theorem minT_raw (hh : A.handled = none) (hl : s.heap.IsTuple l its.toArray) (hi : IntsAre its ns) (hne : 0 < ns.length)
    (h : ∀ h' tk M t', (∀ b o, s.heap.get? b = some o → h'.get? b = some o) → M ∈ ns → (∀ a, a ∈ ns → M ≤ a) → Q (.int M t') { s with heap := h', toks := tk }) : wpAny (model prog w) A (call (.builtin "min") [.ref l]) Q E s := by
  obtain ⟨xs, e⟩ := hi.allInts.items
  have hn : numsOf (intItems xs).toList = ns := by rw [← e]; exact hi.numsOf
  rw [nums_intItems] at hn
  subst hn
  rw [e] at hl
  have hsz : 0 < xs.size := by simpa using hne
  refine PySem.min_intTuple hh hl hsz fun v h' tk hv hk => ?_
  obtain ⟨t, rfl⟩ := intItems_at hv
  obtain ⟨h1, h2⟩ := argBest_lt (numAt xs) (xs.size - 1)
  refine h h' tk _ t hk ?_ fun a ha => ?_
  · rw [numAt_eq]; exact PySem.getD_mem (by rw [List.length_map, Array.length_toList]; omega)
  · obtain ⟨j, hj, rfl⟩ := mem_getD ha
    rw [List.length_map, Array.length_toList] at hj
    rw [← numAt_eq]; exact h2 j (by omega)
end
section
variable {X : Cx}
def SqY (K : PySem.W.Frag) (H : Hp) (a : Addr) (ns : List Int) : Prop := SqL K H a (ns.map V.int) ∨ SqT K H a (ns.map V.int)
def rSumY (K : PySem.W.Frag) : List V → Hp → VK → Prop := fun vs H Q => ∃ (a : Addr) (ns : List Int), vs = [V.ref a] ∧ SqY K H a ns ∧ Q (.int ns.sum) H
def rMaxY (K : PySem.W.Frag) : List V → Hp → VK → Prop := fun vs H Q => ∃ (a : Addr) (ns : List Int), vs = [V.ref a] ∧ SqY K H a ns ∧ 0 < ns.length ∧ ∀ m, m ∈ ns → (∀ y, y ∈ ns → y ≤ m) → Q (.int m) H
def rMinY (K : PySem.W.Frag) : List V → Hp → VK → Prop := fun vs H Q => ∃ (a : Addr) (ns : List Int), vs = [V.ref a] ∧ SqY K H a ns ∧ 0 < ns.length ∧ ∀ m, m ∈ ns → (∀ y, y ∈ ns → m ≤ y) → Q (.int m) H
theorem cr_sumY (hc : X.calm = true) : CallR X (.builtin "sum") (rSumY X.K) := by
  intro pins s σ H vs us Q I r h
  obtain ⟨a, ns, rfl, hs | hs, q⟩ := h
  · exact cr_sum hc _ _ _ _ _ _ _ I r ⟨a, ns, rfl, hs, q⟩
  · obtain ⟨its, rv, hl, _⟩ := I.tuple hs
    rw [Vals.ref1 r]
    exact sumT_raw (I.ok.hd hc) hl rv.ints fun h' tk t' hk => ⟨.int _, H, I.kept hk, ⟨_, rfl⟩, q⟩
theorem cr_maxY (hc : X.calm = true) : CallR X (.builtin "max") (rMaxY X.K) := by
  intro pins s σ H vs us Q I r h
  obtain ⟨a, ns, rfl, hs | hs, hne, q⟩ := h
  · exact cr_max hc _ _ _ _ _ _ _ I r ⟨a, ns, rfl, hs, hne, q⟩
  · obtain ⟨its, rv, hl, _⟩ := I.tuple hs
    rw [Vals.ref1 r]
    exact maxT_raw (I.ok.hd hc) hl rv.ints hne fun h' tk m t' hk h1 h2 => ⟨.int _, H, I.kept hk, ⟨_, rfl⟩, q m h1 h2⟩
theorem cr_minY (hc : X.calm = true) : CallR X (.builtin "min") (rMinY X.K) := by
  intro pins s σ H vs us Q I r h
  obtain ⟨a, ns, rfl, hs | hs, hne, q⟩ := h
  · exact cr_min hc _ _ _ _ _ _ _ I r ⟨a, ns, rfl, hs, hne, q⟩
  · obtain ⟨its, rv, hl, _⟩ := I.tuple hs
    rw [Vals.ref1 r]
    exact minT_raw (I.ok.hd hc) hl rv.ints hne fun h' tk m t' hk h1 h2 => ⟨.int _, H, I.kept hk, ⟨_, rfl⟩, q m h1 h2⟩
end
section
variable {K : PySem.W.Frag}
def onIntsY (f : List Int → Option Int) (d : D) (c : Cs) : R D := match d with
  | .tup ds => match intsOf ds with
    | some ns => match f ns with
      | some k => .ok (.int k) c
      | none => .stuck
    | none => .stuck
  | d => onInts f d c
theorem cs_intsY {r : List V → Hp → VK → Prop} {f : List Int → Option Int} (h : ∀ (H : Hp) (a : Addr) (ns : List Int) (k : Int) (Q : VK), SqY K H a ns → f ns = some k → Q (.int k) H → r [.ref a] H Q) : CallS K r (on1 (onIntsY f)) := fun I H m c vs ds W Q R p A => by
  have p' := p
  have A0 := A
  obtain ⟨v, d, rfl, rfl, pd, A⟩ := on1_arg p A
  cases d with
  | tup xs =>
    have A : After (rD K) K I m H W Q (match intsOf xs with
      | some ns => match f ns with
        | some k => .ok (.int k) c
        | none => .stuck
      | none => .stuck) := A
    cases pd with
    | @tup a ws _ h1 h2 =>
      cases z : intsOf xs with
      | none => rw [z] at A; exact A.elim
      | some ns =>
        rw [z] at A
        have A : After (rD K) K I m H W Q (match f ns with
          | some k => .ok (.int k) c
          | none => .stuck) := A
        cases y : f ns with
        | none => rw [y] at A; exact A.elim
        | some k =>
          rw [y] at A
          have h1' : SqT K H a (ns.map V.int) := by
            have := sqT_same R.same h1
            rw [ints_reps h2 z] at this
            exact this
          exact h H a ns k Q (.inr h1') y (A.here R (.int k))
  | _ => exact cs_ints (K := K) (r := r) (f := f) (fun H a ns k Q e1 e2 q => h H a ns k Q (.inl (SqL.of e1)) e2 q) I H m c _ _ W Q R p' A0
def sumY : List D → Cs → R D := on1 (onIntsY fun ns => some ns.sum)
theorem cs_sumY : CallS K (rSumY K) sumY := cs_intsY fun H a ns k Q h e q => by
  cases e
  exact ⟨a, ns, rfl, h, q⟩
def maxY : List D → Cs → R D := on1 (onIntsY fun ns => ns.max?)
theorem cs_maxY : CallS K (rMaxY K) maxY := cs_intsY fun H a ns k Q h e q => by
  obtain ⟨h1, h2⟩ := List.max?_eq_some_iff.mp e
  refine ⟨a, ns, rfl, h, List.length_pos_of_mem h1, fun m hm hb => ?_⟩
  have : m = k := Int.le_antisymm (h2 m hm) (hb k h1)
  rw [this]; exact q
def minY : List D → Cs → R D := on1 (onIntsY fun ns => ns.min?)
theorem cs_minY : CallS K (rMinY K) minY := cs_intsY fun H a ns k Q h e q => by
  obtain ⟨h1, h2⟩ := List.min?_eq_some_iff.mp e
  refine ⟨a, ns, rfl, h, List.length_pos_of_mem h1, fun m hm hb => ?_⟩
  have : m = k := Int.le_antisymm (hb k h1) (h2 m hm)
  rw [this]; exact q
end
theorem lookup_relabel_fc {env : Env} : ∀ {names : List (Str × NameKind)} {x : Str}, names.lookup x = some .cell ∨ names.lookup x = some .free →
    (names.map fun (n, k) => if (k == NameKind.free && env.scope.kind == .function && env.kindOf n == some .cell) then (n, NameKind.cell) else (n, k)).lookup x = some .cell ∨
    (names.map fun (n, k) => if (k == NameKind.free && env.scope.kind == .function && env.kindOf n == some .cell) then (n, NameKind.cell) else (n, k)).lookup x = some .free
  | [], x, h => by simp at h
  | (n, k) :: r, x, h => by
    have ih := @lookup_relabel_fc env r x
    show List.lookup x ((if (k == NameKind.free && env.scope.kind == .function && env.kindOf n == some .cell) = true then (n, NameKind.cell) else (n, k)) :: _) = _ ∨ List.lookup x ((if (k == NameKind.free && env.scope.kind == .function && env.kindOf n == some .cell) = true then (n, NameKind.cell) else (n, k)) :: _) = _
    cases hx : x == n with
    | true =>
      simp only [List.lookup_cons, hx] at h
      by_cases hc : (k == NameKind.free && env.scope.kind == .function && env.kindOf n == some .cell) = true
      · rw [if_pos hc]; simp only [List.lookup_cons, hx]; exact .inl trivial
      · rw [if_neg hc]; simp only [List.lookup_cons, hx]; exact h
    | false =>
      simp only [List.lookup_cons, hx] at h
      by_cases hc : (k == NameKind.free && env.scope.kind == .function && env.kindOf n == some .cell) = true
      · rw [if_pos hc]; simp only [List.lookup_cons, hx]; exact ih h
      · rw [if_neg hc]; simp only [List.lookup_cons, hx]; exact ih h
/-- a block within a block -/
theorem blkOk_in {N : List Str} {outer scope : Scope} {env : Env} {own : List (Str × Nat)} (h : blkC N outer scope own = true) : BlkOk N (relabel outer env) scope own := by
  obtain ⟨h1, h2, h3, h4, h5⟩ := blkOk_by h
  exact ⟨h1, h2, h3, fun y hy e => lookup_relabel_fc (h4 y hy e), h5⟩
end L2.Mi

/-! plain reasoning where exceptions are raised -/
namespace L2.Mi
open PySem PySem.Spec PyProof.Rows L2
def Xo {α : Type} (r : R α) (Q : α → Cs → Prop) (X : Ex → Cs → Prop) : Prop := match r with
  | .stuck => False
  | .ok a c => Q a c
  | .exc x c => X x c
def XS (r : RS) (Q : Fl → Cs → Prop) (X : Ex → Cs → Prop) : Prop := match r with
  | .stuck => False
  | .go f c => Q f c
  | .exc x _ c => X x c
section
variable {α β : Type} {X : Ex → Cs → Prop}
theorem Ok.xo {r : R α} {Q : α → Cs → Prop} (h : Ok r Q) : Xo r Q X := by
  obtain ⟨a, c, rfl, h⟩ := h
  exact h
theorem OkS.xs {r : RS} {Q : Fl → Cs → Prop} (h : OkS r Q) : XS r Q X := by
  obtain ⟨a, c, rfl, h⟩ := h
  exact h
theorem Xo.bind {r : R α} {f : α → Cs → R β} {Q : β → Cs → Prop} (h : Xo r (fun a c => Xo (f a c) Q X) X) : Xo (r.bind f) Q X := by
  cases r <;> exact h
theorem Ok.xbind {r : R α} {f : α → Cs → R β} {Q : β → Cs → Prop} (h : Ok r fun a c => Xo (f a c) Q X) : Xo (r.bind f) Q X := by
  obtain ⟨a, c, rfl, h⟩ := h
  exact h
theorem Xo.mono {r : R α} {Q Q' : α → Cs → Prop} {X' : Ex → Cs → Prop} (h : Xo r Q X) (w : ∀ a c, Q a c → Q' a c) (wx : ∀ x c, X x c → X' x c) : Xo r Q' X' := by
  cases r with
  | stuck => exact h
  | ok a c => exact w a c h
  | exc x c => exact wx x c h
theorem Xo.of {r : R α} {Q : α → Cs → Prop} {a : α} {c : Cs} (e : r = .ok a c) (h : Q a c) : Xo r Q X := by rw [e]; exact h
theorem Xo.ofx {r : R α} {Q : α → Cs → Prop} {x : Ex} {c : Cs} (e : r = .exc x c) (h : X x c) : Xo r Q X := by rw [e]; exact h
theorem XS.seq {r : R α} {l : Ls} {f : α → Cs → RS} {Q : Fl → Cs → Prop} (h : Xo r (fun a c => XS (f a c) Q X) X) : XS (r.seq l f) Q X := by
  cases r <;> exact h
theorem Ok.xseq {r : R α} {l : Ls} {f : α → Cs → RS} {Q : Fl → Cs → Prop} (h : Ok r fun a c => XS (f a c) Q X) : XS (r.seq l f) Q X := by
  obtain ⟨a, c, rfl, h⟩ := h
  exact h
theorem XS.mono {r : RS} {Q Q' : Fl → Cs → Prop} {X' : Ex → Cs → Prop} (h : XS r Q X) (w : ∀ a c, Q a c → Q' a c) (wx : ∀ x c, X x c → X' x c) : XS r Q' X' := by
  cases r with
  | stuck => exact h
  | go a c => exact w a c h
  | exc x l c => exact wx x c h
theorem XS.next {r : RS} {g : Ls → Cs → RS} {Q : Fl → Cs → Prop} (h : XS r (fun f c => match f with
  | .nx l => XS (g l c) Q X
  | f => Q f c) X) : XS (r.next g) Q X := by
  cases r with
  | stuck => exact h
  | exc x l c => exact h
  | go f c => cases f <;> exact h
theorem Xo.fun {n a : Nat} {b : MS} {ds : List D} {c : Cs} {Q : D → Cs → Prop} (hl : ds.length = a) (h : XS (b (ds.map some ++ List.replicate (n - a) none) c) (fun f c => match f with
  | .rt d => Q d c
  | .nx _ => Q .non c
  | _ => False) X) : Xo (mFun n a b ds c) Q X := by
  unfold mFun
  rw [if_pos hl]
  revert h
  generalize b (ds.map some ++ List.replicate (n - a) none) c = r
  intro h
  cases r with
  | stuck => exact h
  | exc x l c => exact h
  | go f c => cases f <;> first | exact h | exact h.elim
end
section
variable {l : Ls} {c : Cs} {Q : D → Cs → Prop} {a b e o : ME} {t : MA} {QS : Fl → Cs → Prop} {X : Ex → Cs → Prop} {f g : MS}
theorem xs_seq (h : XS (f l c) (fun fl c1 => match fl with
  | .nx l1 => XS (g l1 c1) QS X
  | fl => QS fl c1) X) : XS (sSeq f g l c) QS X := XS.next h
theorem xs_nil (h : QS (.nx l) c) : XS (sNil l c) QS X := h
theorem xs_expr (h : Xo (a l c) (fun _ c1 => QS (.nx l) c1) X) : XS (sExpr a l c) QS X := XS.seq (h.mono (fun _ _ h => h) fun _ _ h => h)
theorem xs_ret (h : Xo (a l c) (fun d c1 => QS (.rt d) c1) X) : XS (sRet a l c) QS X := XS.seq (h.mono (fun _ _ h => h) fun _ _ h => h)
theorem xs_set {i : Nat} (h : Xo (a l c) (fun d c1 => QS (.nx (l.set i (some d))) c1) X) : XS (sSet i a l c) QS X := XS.seq (h.mono (fun _ _ h => h) fun _ _ h => h)
theorem xs_if {p : MT} (h : Ok (p l c) fun k c1 => (k = true → XS (f l c1) QS X) ∧ (k = false → XS (g l c1) QS X)) : XS (sIf p f g l c) QS X := Ok.xseq (h.mono fun k c1 ⟨h1, h2⟩ => by
  cases k with
  | true => exact h1 rfl
  | false => exact h2 rfl)
theorem xs_raise {n s : Str} (h : Ok (a l c) fun d c1 => X ⟨n, [(s, d)]⟩ c1) : XS (sRaise n s a l c) QS X := Ok.xseq (h.mono fun _ _ h => h)
theorem xs_ifNm {i : Nat} {h : D → D → Cs → R D} (q : Ok (a l c) fun x c1 => Ok (b (l.set i (some x)) c1) fun y c2 => Ok (h x y c2) fun z c3 => ∃ k, z = .bl k ∧ (k = true → XS (f (l.set i (some x)) c3) QS X) ∧ (k = false → XS (g (l.set i (some x)) c3) QS X)) :
    XS (sIfNm i h a b f g l c) QS X := by
  obtain ⟨x, c1, e1, y, c2, e2, z, c3, e3, k, rfl, h1, h2⟩ := q
  unfold sIfNm
  rw [e1]
  simp only [R.seq_ok, e2, e3]
  cases k with
  | true => exact h1 rfl
  | false => exact h2 rfl
theorem xo_cb {h : List D → Cs → R D} (q : Ok (t l c) fun xs c1 => Xo (h xs c1) Q X) : Xo (mCB h t l c) Q X := Ok.xbind q
theorem xo_meth {n mm : Str} {h : List D → Cs → R D} (q : Xo (o l c) (fun x c1 => (∃ fs, insOf x c1 = some (n, fs) ∧ fs.lookup mm = none) ∧ Ok (t l c1) fun xs c2 => Xo (h (x :: xs) c2) Q X) X) : Xo (mMeth [(n, h)] mm o t l c) Q X :=
  Xo.bind (q.mono (fun x c1 ⟨⟨fs, h1, h2⟩, q⟩ => by
    unfold viaT
    rw [h1]
    simp only [List.lookup_cons, beq_self_eq_true, h2]
    exact Ok.xbind q) fun _ _ h => h)
theorem xo_make {n : Str} {h : List D → Cs → R D} (q : Ok (t l c) fun xs c1 => Xo (mkR n h xs c1) Q X) : Xo (mMake n h t l c) Q X := Ok.xbind q
theorem xo_mkR {n : Str} {h : List D → Cs → R D} {ds : List D} (q : Xo (h (.ref c.length :: ds) (c ++ [.ins n []])) (fun r c2 => r = .non ∧ Q (.ref c.length) c2) X) : Xo (mkR n h ds c) Q X :=
  Xo.bind (q.mono (fun r c2 ⟨e, q⟩ => by subst e; exact q) fun _ _ h => h)
theorem xo_frzI (q : Xo (a l c) (fun x c1 => ∃ k n fs, x = .ref k ∧ c1[k]? = some (.ins n fs) ∧ Q (.obj n fs) (c1.set k (.frz (.obj n fs)))) X) : Xo (mFrzI a l c) Q X :=
  Xo.bind (q.mono (fun x c1 ⟨k, n, fs, e, hk, q⟩ => by
    subst e
    show Xo (match c1[k]? with
      | some (.ins n fs) => .ok (.obj n fs) (c1.set k (.frz (.obj n fs)))
      | _ => .stuck) Q X
    rw [hk]
    exact q) fun _ _ h => h)
theorem xo_lst1 {s : Str} (q : Xo (a l c) (fun x c1 => Q (.lst [.str s, x]) c1) X) : Xo (mLst (aCons (mC (.str s)) (aCons a aNil)) l c) Q X := by
  have h2 : (2 : Nat) ≤ sizeLine := by decide
  unfold mLst aCons aNil mC
  simp only [R.bind_ok]
  refine Xo.bind (Xo.bind (Xo.bind (q.mono (fun x c1 h => ?_) fun _ _ h => h)))
  show Xo (fits 2 (.ok (.lst [.str s, x]) c1)) Q X
  unfold fits
  rw [if_pos h2]
  exact h
/-- try: what is raised goes to the handlers -/
theorem os_try {ns : List Str} {hs : List HE} (h : XS (f l c) QS fun x c1 => ∀ l1, l1.length = l.length → OkS (hdR ns hs x l1 c1) QS) (hl : ∀ x l1 c1, f l c = .exc x l1 c1 → l1.length = l.length) : OkS (sTry ns f hs l c) QS := by
  unfold sTry
  revert h hl
  generalize f l c = r
  intro h hl
  cases r with
  | stuck => exact h.elim
  | go fl c => exact ⟨_, _, rfl, h⟩
  | exc x l1 c1 => exact h l1 (hl _ _ _ rfl)
theorem ret_l {x : Ex} {l1 : Ls} {c1 : Cs} (h : sRet a l c = .exc x l1 c1) : l1.length = l.length := by
  unfold sRet at h
  revert h
  generalize a l c = r
  intro h
  cases r with
  | stuck => cases h
  | ok d c => cases h
  | exc y c2 => cases h; rfl
theorem xs_forW {α : Type} {it : MK} {g : MG} {f : MS} (xs : List α) (enc : α → D) (P : List α → Ls → Cs → Prop) (hl : xs.length ≤ 1000000)
    (hit : Ok (it l c) fun w c1 => P xs l c1 ∧ ∀ rest l' c', P rest l' c' → ∀ i, i ≤ xs.length → w i c' = some (xs.map enc)[i]?)
    (hd : ∀ l c, P [] l c → QS (.nx l) c)
    (ht : ∀ x rest l c, P (x :: rest) l c → Ok (g (enc x) l c) fun l1 c1 => XS (f l1 c1) (fun fl c2 => match fl with
      | .nx l2 => P rest l2 c2
      | .ct l2 => P rest l2 c2
      | .bk l2 => QS (.nx l2) c2
      | .rt d => QS (.rt d) c2) X) : XS (sForW it g f l c) QS X := by
  refine Ok.xseq (hit.mono fun w c1 ⟨p0, hw⟩ => ?_)
  have go : ∀ (k n i : Nat) (l : Ls) (c : Cs), xs.length - i = k → i ≤ xs.length → k < n → P (xs.drop i) l c → XS (forW g f w n i l c) QS X := by
    intro k
    induction k with
    | zero =>
      intro n i l c hk hi hn p
      cases n with
      | zero => omega
      | succ n =>
        unfold forW
        rw [hw _ _ _ p i (by omega), List.getElem?_eq_none (by simp; omega)]
        rw [List.drop_eq_nil_of_le (by omega)] at p
        exact hd l c p
    | succ k ih =>
      intro n i l c hk hi hn p
      cases n with
      | zero => omega
      | succ n =>
        have hi : i < xs.length := by omega
        have hdr : xs.drop i = xs[i] :: xs.drop (i + 1) := List.drop_eq_getElem_cons hi
        unfold forW
        rw [hw _ _ _ p i (by omega), List.getElem?_map, List.getElem?_eq_getElem hi]
        rw [hdr] at p
        obtain ⟨l1, c1, e1, q⟩ := ht _ _ l c p
        simp only [Option.map_some, e1, R.seq_ok]
        revert q
        generalize f l1 c1 = r
        intro q
        cases r with
        | stuck => exact q
        | exc x l c => exact q
        | go fl c2 => cases fl with
          | nx l2 => exact ih n (i + 1) l2 c2 (by omega) (by omega) (by omega) q
          | ct l2 => exact ih n (i + 1) l2 c2 (by omega) (by omega) (by omega) q
          | bk l2 => exact q
          | rt d => exact q
  exact go xs.length fuelW 0 l c1 (by omega) (by omega) (by unfold fuelW; omega) (by rw [List.drop_zero]; exact p0)
end
end L2.Mi

/-! list(text) -/
namespace L2.Mi
open PySem PySem.Spec PyProof.Rows L2
def sgnsV (s : Str) : List V := s.cps.toList.map fun k => V.str ⟨#[k]⟩
abbrev rListS : List V → Hp → VK → Prop := fun xs H Q => ∃ s : Str, xs = [.str s] ∧ s.length ≤ sizeLine ∧ ∀ l, H l = none → Q (.ref l) (upd H l (.lst (sgnsV s)))
theorem call_listS {X : Cx} (hc : X.calm = true) : CallR X (.type "list") rListS := by
  intro pins s σ H xs us Q I r h
  obtain ⟨z, rfl, hz, q⟩ := h
  obtain ⟨u, rfl, t, rfl⟩ := vals1 r
  refine PySem.call_list_str (I.ok.hd hc) z t (fun h' tk acc' c' hk hS' hacc => ?_) hz
  have hlen : (sgnsV z).length = z.cps.size := by simp [sgnsV]
  have hv : Vals (sgnsV z) acc'.toList := vals_of_idx _ _ (by rw [hlen, Array.length_toList, hacc.1]) fun j u hu => by
    obtain ⟨k, tk, hk, rfl⟩ := hacc.2 j u (by simpa using hu)
    exact ⟨.str ⟨#[k]⟩, by simp [sgnsV, hk], _, rfl⟩
  have e : acc' = acc'.toList.toArray := by simp
  exact ⟨.ref s.heap.objs.size, _, I.laid (t' := tk) hk (Nat.le_refl _) (show ObjOk X.prog X.w _ h' _ (.lst (sgnsV z)) from ⟨by rw [hlen]; exact hz, acc'.toList, c', hv, by rw [← e]; exact hS'⟩), rfl, q _ (I.hok.fresh (Nat.le_refl _))⟩
section
variable {K : PySem.W.Frag} {I : Hp} {m : List Addr}
theorem reps_chrs (s : Str) : Reps K I m (sgnsV s) (chrs s) := by
  unfold sgnsV chrs
  induction s.cps.toList with
  | nil => exact .nil
  | cons k ks ih => exact .cons (.str _) ih
end
def listAP (cell : Bool) (d : D) (c : Cs) : R D := match d with
  | .str s => if s.length ≤ sizeLine then (if cell then .ok (.ref c.length) (c ++ [.lst (chrs s)]) else .ok (.lst (chrs s)) c) else .stuck
  | d => if cell then listMP d c else listP d c
def listA (cell : Bool) : List D → Cs → R D := on1 (listAP cell)
theorem cs_listA {K : PySem.W.Frag} {cell : Bool} : CallS K (fun xs H Q => rList K xs H Q ∨ rListS xs H Q) (listA cell) := fun I H m c vs ds W Q R p A => by
  have p' := p
  have A0 := A
  obtain ⟨v, d, rfl, rfl, pd, A⟩ := on1_arg p A
  have other : (listAP cell d c = if cell then listMP d c else listP d c) → rList K [v] H Q ∨ rListS [v] H Q := fun e => by
    cases cell with
    | true =>
      have A2 : After (rD K) K I m H W Q (listM [d] c) := by
        rw [e] at A
        exact A
      exact .inl (cs_listM I H m c [v] [d] W Q R p' A2)
    | false =>
      have A2 : After (rD K) K I m H W Q (listD [d] c) := by
        rw [e] at A
        exact A
      exact .inl (cs_list I H m c [v] [d] W Q R p' A2)
  cases d with
  | str s =>
    cases pd with
    | str s =>
      have A2 : After (rD K) K I m H W Q (if s.length ≤ sizeLine then (if cell then .ok (.ref c.length) (c ++ [.lst (chrs s)]) else .ok (.lst (chrs s)) c) else .stuck) := A
      by_cases hs : s.length ≤ sizeLine
      · rw [if_pos hs] at A2
        refine .inr ⟨s, rfl, hs, fun l nl => ?_⟩
        cases cell with
        | true => exact After.cell A2 R nl (reps_chrs s)
        | false => exact A2.new R nl (.lst upd_same (reps_chrs s))
      · rw [if_neg hs] at A2
        exact A2.elim
  | _ => exact other rfl
end L2.Mi

/-! x in xs, of data of any depth; slices of tuples -/
namespace L2.Mi
open PySem PySem.Spec PyProof.Rows L2
def seqP : PyData → Option (List PyData)
  | .list xs => some xs
  | .tuple xs => some xs
  | _ => none
def inOk (a : PyData) (xs : List PyData) : Bool := PyData.canLayAll0 xs && a.canLay0 && decide (a.depth ≤ 60)
def rInDx (neg : Bool) (K : PySem.W.Frag) : R2 := fun x y H Q => ∃ d e xs, Dx K H x d ∧ Dx K H y e ∧ seqP e = some xs ∧ inOk d xs = true ∧ Q (.bl (sgn neg (xs.any fun z => PyData.eqv z d))) H
theorem op_inDx {X : Cx} (hu : X.A.units + 64 < cLine) : OpR X (compareOp .In) (rInDx false X.K) := by
  intro pins s σ H x y v u Q I rx ry h
  obtain ⟨d, e, xs, hd, he, hs, ho, q⟩ := h
  obtain ⟨as, r1⟩ := (Dx.rx I hd rx).reads
  obtain ⟨bs, r2⟩ := (Dx.rx I he ry).reads
  simp only [inOk, Bool.and_eq_true, decide_eq_true_eq] at ho
  have hm : min (PyData.depthAll xs) d.depth ≤ 60 := Nat.le_trans (Nat.min_le_right _ _) ho.2
  cases e with
  | list ys =>
    cases hs
    exact SeqAt.in_list_reads r2 r1 ho.1.1 ho.1.2 (by omega) ⟨.bl _, H, I, rfl, q⟩
  | tuple ys =>
    cases hs
    exact SeqAt.in_tuple_reads r2 r1 ho.1.1 ho.1.2 (by omega) ⟨.bl _, H, I, rfl, q⟩
  | _ => cases hs
theorem op_notinDx {X : Cx} (hu : X.A.units + 64 < cLine) : OpR X (compareOp .NotIn) (rInDx true X.K) := by
  intro pins s σ H x y v u Q I rx ry h
  obtain ⟨d, e, xs, hd, he, hs, ho, q⟩ := h
  obtain ⟨as, r1⟩ := (Dx.rx I hd rx).reads
  obtain ⟨bs, r2⟩ := (Dx.rx I he ry).reads
  simp only [inOk, Bool.and_eq_true, decide_eq_true_eq] at ho
  have hm : min (PyData.depthAll xs) d.depth ≤ 60 := Nat.le_trans (Nat.min_le_right _ _) ho.2
  cases e with
  | list ys =>
    cases hs
    exact SeqAt.notIn_list_reads r2 r1 ho.1.1 ho.1.2 (by omega) ⟨.bl _, H, I, rfl, q⟩
  | tuple ys =>
    cases hs
    exact SeqAt.notIn_tuple_reads r2 r1 ho.1.1 ho.1.2 (by omega) ⟨.bl _, H, I, rfl, q⟩
  | _ => cases hs
def inQ (neg : Bool) (d e : D) (c : Cs) : R D := match toPyC 30 c d with
  | some a => match toPyC 30 c e with
    | some b => match seqP b with
      | some xs => if inOk a xs = true then .ok (.bl (sgn neg (xs.any fun z => PyData.eqv z a))) c else .stuck
      | none => .stuck
    | none => .stuck
  | none => .stuck
def inY (neg : Bool) (d e : D) (c : Cs) : R D := match inX neg d e c with
  | .stuck => inQ neg d e c
  | r => r
def rInY (K : PySem.W.Frag) (neg : Bool) : R2 := fun x y H Q => rInA K neg x y H Q ∨ rInDx neg K x y H Q
theorem op_inY {X : Cx} (hu : X.A.units + 64 < cLine) : OpR X (compareOp .In) (rInY X.K false) := op_inA.or (op_inDx hu)
theorem op_notinY {X : Cx} (hu : X.A.units + 64 < cLine) : OpR X (compareOp .NotIn) (rInY X.K true) := op_notinA.or (op_notinDx hu)
theorem os_inY {K : PySem.W.Frag} {neg : Bool} : OpS K (rInY K neg) (inY neg) := fun I H m c v1 v2 d1 d2 W Q R p1 p2 A => by
  unfold inY at A
  cases e : inX neg d1 d2 c with
  | ok a c' => rw [e] at A; exact .inl (os_inX I H m c v1 v2 d1 d2 W Q R p1 p2 (by rw [e]; exact A))
  | exc x c' => rw [e] at A; exact .inl (os_inX I H m c v1 v2 d1 d2 W Q R p1 p2 (by rw [e]; exact A))
  | stuck =>
    rw [e] at A
    have A : After (rD K) K I m H W Q (inQ neg d1 d2 c) := A
    unfold inQ at A
    cases q1 : toPyC 30 c d1 with
    | none => rw [q1] at A; exact A.elim
    | some a =>
      cases q2 : toPyC 30 c d2 with
      | none => rw [q1, q2] at A; exact A.elim
      | some b =>
        rw [q1, q2] at A
        cases q3 : seqP b with
        | none => simp only [q3] at A; exact A.elim
        | some xs =>
          simp only [q3] at A
          by_cases ho : inOk a xs = true
          · rw [if_pos ho] at A
            exact .inr ⟨a, b, xs, dx_of R 30 _ _ _ p1 q1, dx_of R 30 _ _ _ p2 q2, q3, ho, A.here R (.bl _)⟩
          · rw [if_neg ho] at A
            exact A.elim
def sliceY (d : D) (lo hi : Option Int) (c : Cs) : R D := match d with
  | .tup ds => if HT.sIx ds.length 0 lo = 0 ∧ HT.sIx ds.length ds.length hi = ds.length then .stuck else .ok (.tup (cutD ds lo hi)) c
  | d => sliceD d lo hi c
def mSliceY (a : ME) (lo hi : MO) : ME := fun l c => (a l c).bind fun x c1 => (lo l c1).bind fun i c2 => (hi l c2).bind fun j c3 => sliceY x i j c3
theorem me_sliceY {X : Cx} {W : WX} {e : Expr} {lo hi : Option Expr} {f : ME} {fl fh : MO} {p2 pos : Pos} (he : PE X e (rdE X.K W f)) (hl : PO X lo (rdO X.K W fl)) (hh : PO X hi (rdO X.K W fh)) :
    PE X (.Subscript e (.Slice lo hi none p2) pos) (rdE X.K W (mSliceY f fl fh)) := PEi (pe_slice (r := fun x lo hi H Q => rSlA X.K x lo hi H Q ∨ rSlT X.K x lo hi H Q) ((sl_list.or sl_str).or sl_tup) he hl hh) fun σ H Q ⟨I, m, l, c, R, L, A⟩ => by
  refine ⟨I, m, l, c, R, L, After.mono (After.bind (rep := rD X.K) A) fun v1 H1 ⟨I1, m1, c1, d1, E1, R1, p1, A1⟩ => ?_⟩
  refine ⟨I1, m1, l, c1, R1, L.ext E1, After.mono (After.bind (rep := rO) A1) fun v2 H2 ⟨I2, m2, c2, d2, E2, R2, p2, A2⟩ => ?_⟩
  refine ⟨I2, m2, l, c2, R2, (L.ext E1).ext E2, After.mono (After.bind (rep := rO) A2) fun v3 H3 ⟨I3, m3, c3, d3, E3, R3, p3, A3⟩ => ?_⟩
  cases (show v2 = d2 from p2)
  cases (show v3 = d3 from p3)
  have p := Rep.ext (Rep.ext p1 E2) E3
  have new : ∀ {a : Addr} {vs : List V} {ds : List D}, v1 = .ref a → SqL X.K H3 a vs → Reps X.K I3 m3 vs ds → After (rD X.K) X.K I3 m3 H3 (fun cls dd H' => W cls dd σ H') Q (.ok (.lst (cutD ds v2 v3)) c3) → rSlA X.K v1 v2 v3 H3 Q := fun {a vs ds} e h r A =>
    .inl ⟨a, vs, e, h, fun q nq => A.new R3 nq (.lst upd_same ((cut_reps v2 v3 r).mono (same_upd R3.same nq) (Pre.refl _)))⟩
  cases p with
  | lst h r => exact .inl (new rfl (SqL.of (R3.same _ _ h)) r A3)
  | @tup a vs ds h r =>
    have A4 : After (rD X.K) X.K I3 m3 H3 (fun cls dd H' => W cls dd σ H') Q (if HT.sIx ds.length 0 v2 = 0 ∧ HT.sIx ds.length ds.length v3 = ds.length then .stuck else .ok (.tup (cutD ds v2 v3)) c3) := A3
    by_cases hw : HT.sIx ds.length 0 v2 = 0 ∧ HT.sIx ds.length ds.length v3 = ds.length
    · rw [if_pos hw] at A4
      exact A4.elim
    · rw [if_neg hw] at A4
      refine .inr ⟨a, vs, rfl, sqT_same R3.same h, by rw [r.length]; exact hw, fun q nq => A4.new R3 nq (.tup (SqT.of upd_same) ((cut_reps v2 v3 r).mono (same_upd R3.same nq) (Pre.refl _)))⟩
  | str s =>
    obtain ⟨z, A4⟩ := After.fits (show After (rD X.K) X.K I3 m3 H3 (fun cls dd H' => W cls dd σ H') Q (fits s.length (.ok (.str (cutS s v2 v3)) c3)) from A3)
    exact .inl (.inr ⟨s, rfl, z, A4.here R3 (.str _)⟩)
  | @ref k a h =>
    have A4 : After (rD X.K) X.K I3 m3 H3 (fun cls dd H' => W cls dd σ H') Q (match c3[k]? with
      | some (.lst ds) => .ok (.lst (cutD ds v2 v3)) c3
      | _ => .stuck) := A3
    cases q : c3[k]? with
    | none => rw [q] at A4; exact A4.elim
    | some x =>
      rw [q] at A4
      cases x with
      | lst ds =>
        obtain ⟨_, vs, h1, h2⟩ := R3.cell k a _ h q
        exact .inl (new rfl (SqL.of h1) h2 A4)
      | _ => exact A4.elim
  | _ => exact A3.elim

end L2.Mi

namespace L2.Lw
open PySem PySem.Spec PyProof.Rows L2 L2.Mi
def top (i : Nat) : Stmt := PySem.Challenge.pw_weavegraph_k09_turned_crossings.main.body.getD i (.Pass ⟨0, 0, 0, 0⟩)
abbrev s_law_box : Stmt := top 29
abbrev s_law_cell : Stmt := top 28
abbrev s_law_take : Stmt := top 30
abbrev s_law_rows : Stmt := top 32
abbrev sis_sequence : Stmt := top 16
abbrev sis_pattern : Stmt := top 23
abbrev sare_rows : Stmt := top 24
abbrev sCloth____init__ : Stmt := inClass (top 26) 1
abbrev s_law_crossings : Stmt := top 33
abbrev s_law_odd : Stmt := top 31
abbrev s_law_spoilt : Stmt := top 35
abbrev s_law_turned : Stmt := top 34
abbrev s_law_due : Stmt := top 36
abbrev sneed_items : Stmt := top 20
abbrev sis_integer : Stmt := top 15
abbrev sis_crossing : Stmt := top 18
abbrev sCloth__weft_count : Stmt := inClass (top 26) 12
abbrev sCloth__warp_count : Stmt := inClass (top 26) 11
abbrev sexchanged : Stmt := top 25
abbrev sCloth__turned : Stmt := inClass (top 26) 21
abbrev sCloth__rows : Stmt := inClass (top 26) 13
abbrev s_law_caught : Stmt := top 37
abbrev s_law_right : Stmt := top 38
abbrev slaw : Stmt := top 39
abbrev sxDuplicate : Stmt := inClass (top 10) 0
abbrev sxInvalidCrossing : Stmt := inClass (top 6) 0
abbrev sxInvalidList : Stmt := inClass (top 8) 0
abbrev sxInvalidRows : Stmt := inClass (top 7) 0
def c_law_box : MS := sRet (mLstM (aCons (mCB max2 (aCons (mC (.int 0)) (aCons (mOp subD (mVar 0) (mOp powI (mC (.int 10)) (mC (.int 18)))) (aNil)))) (aCons (mOp modI (mVar 0) (mC (.int 2147483629))) (aCons (mC (.int 0)) (aNil)))))
abbrev g_law_box : List D → Cs → R D := mFun 1 1 c_law_box
theorem sc_law_box : FnScope ["_law_cell_here"] ["_law_cell_here"] (defScope s_law_box) := ⟨rfl, rfl, rfl, by decide +kernel, rfl, by decide +kernel, by decide +kernel⟩
def c_law_cell : MS := sSeq (sIf (mT (mOp ltD (mVar 1) (mCB lenD (aCons (mVar 0) (aNil))))) (sRet (mOp itemD (mVar 0) (mVar 1))) (sNil)) (sRet (mOp addD (mOp mulI (mC (.int 7919)) (mVar 1)) (mC (.int 613))))
abbrev g_law_cell : List D → Cs → R D := mFun 2 2 c_law_cell
theorem sc_law_cell : FnScope ["_law_script", "_law_k"] ["_law_script", "_law_k"] (defScope s_law_cell) := ⟨rfl, rfl, rfl, by decide +kernel, rfl, by decide +kernel, by decide +kernel⟩
def c_law_take : MS := sSeq (sIf (mT (mOp gtD (mOp itemD (mVar 0) (mC (.int 0))) (mC (.int 0)))) (sSeq (sSet 3 (mOp modI (mOp itemD (mVar 0) (mC (.int 0))) (mVar 1))) (sSeq (sAsg (mOp divI (mOp itemD (mVar 0) (mC (.int 0))) (mVar 1)) (gS (mVar 0) (mC (.int 0)))) (sRet (mVar 3)))) (sNil)) (sSeq (sAsg (mOp addD (mOp itemD (mVar 0) (mC (.int 2))) (mC (.int 1))) (gS (mVar 0) (mC (.int 2)))) (sSeq (sSet 2 (mOp modI (mOp powI (mOp addD (mOp addD (mOp itemD (mVar 0) (mC (.int 1))) (mOp mulI (mC (.int 7907)) (mOp itemD (mVar 0) (mC (.int 2))))) (mC (.int 613))) (mC (.int 5))) (mC (.int 2147483647)))) (sSeq (sSet 2 (mOp modI (mOp powI (mOp addD (mVar 2) (mOp mulI (mC (.int 104723)) (mOp itemD (mVar 0) (mC (.int 2))))) (mC (.int 3))) (mC (.int 2147483587)))) (sRet (mOp modI (mOp divI (mVar 2) (mC (.int 16))) (mVar 1))))))
abbrev g_law_take : List D → Cs → R D := mFun 4 2 c_law_take
theorem sc_law_take : FnScope ["_law_box_here", "_law_many", "_law_mixed", "_law_digit"] ["_law_box_here", "_law_many"] (defScope s_law_take) := ⟨rfl, rfl, rfl, by decide +kernel, rfl, by decide +kernel, by decide +kernel⟩
def c_law_rows : MS := sSeq (sAsg (mTup (aCons (mOp addD (mC (.int 1)) (mCB g_law_take (aCons (mVar 0) (aCons (mC (.int 8)) (aNil))))) (aCons (mOp addD (mC (.int 1)) (mCB g_law_take (aCons (mVar 0) (aCons (mC (.int 8)) (aNil))))) (aCons (mOp itemD (mLst (aCons (mC (.int 1)) (aCons (mC (.int 2)) (aCons (mC (.int 3)) (aCons (mC (.int 5)) (aNil)))))) (mCB g_law_take (aCons (mVar 0) (aCons (mC (.int 4)) (aNil))))) (aNil))))) (gT [2, 3, 4])) (sSeq (sPar [5, 6] (aCons (mLc (iR1 (aCons (mVar 2) (aNil))) [10] (gN 10) (tYesM) (mCB g_law_take (aCons (mVar 0) (aCons (mVar 4) (aNil))))) (aCons (mLc (iR1 (aCons (mVar 3) (aNil))) [10] (gN 10) (tYesM) (mCB g_law_take (aCons (mVar 0) (aCons (mVar 4) (aNil))))) (aNil)))) (sSeq (sAsg (mTup (aCons (mOp itemD (mLst (aCons (mC (.int 2)) (aCons (mC (.int 2)) (aCons (mC (.int 3)) (aCons (mC (.int 6)) (aNil)))))) (mCB g_law_take (aCons (mVar 0) (aCons (mC (.int 4)) (aNil))))) (aCons (mLstM (aNil)) (aNil)))) (gT [7, 8])) (sSeq (sForW (kAny (mVar 6)) (gN 1) (sSeq (sSet 9 (mLcW (kAny (mVar 5)) [11] (gN 11) (tYesM) (mIf (mT (mOp neX (mVar 11) (mVar 1))) (mCB intFD (aCons (mOp gtD (mVar 11) (mVar 1)) (aNil))) (mCB intFD (aCons (mOp gtD (mCB g_law_take (aCons (mVar 0) (aCons (mVar 7) (aNil)))) (mC (.int 0))) (aNil)))))) (sExpr (mBM appendD (mVar 8) (aCons (mM1 joinX (mC (.str "")) (mLcW (kAny (mVar 9)) [12] (gN 12) (tYesM) (mCB strFD (aCons (mVar 12) (aNil))))) (aNil)))))) (sRet (mFrz (mVar 8))))))
abbrev g_law_rows : List D → Cs → R D := mFun 13 1 c_law_rows
theorem sc_law_rows : FnScope ["_law_box_here", "_law_low", "_law_warps", "_law_wefts", "_law_many", "_law_up", "_law_down", "_law_bias", "_law_rows_here", "_law_signs", "_law_k", "_law_high", "_law_sign"] ["_law_box_here"] (defScope s_law_rows) := ⟨rfl, rfl, rfl, by decide +kernel, rfl, by decide +kernel, by decide +kernel⟩
def cis_sequence : MS := sRet (mCB isiD (aCons (mVar 0) (aCons (mTup (aCons (mC (.ty "list")) (aCons (mC (.ty "tuple")) (aNil)))) (aNil))))
abbrev gis_sequence : List D → Cs → R D := mFun 1 1 cis_sequence
theorem scis_sequence : FnScope ["value"] ["value"] (defScope sis_sequence) := ⟨rfl, rfl, rfl, by decide +kernel, rfl, by decide +kernel, by decide +kernel⟩
def cis_pattern : MS := sRet (mAnd (mCB isiD (aCons (mVar 0) (aCons (mC (.ty "str")) (aNil)))) (mAnd (mOp eqX (mCB lenD (aCons (mVar 0) (aNil))) (mVar 1)) (mCB allD (aCons (mLcW (kAny (mVar 0)) [2] (gN 2) (tYesM) (mOp (inY false) (mVar 2) (mC (.str "01")))) (aNil)))))
abbrev gis_pattern : List D → Cs → R D := mFun 3 2 cis_pattern
theorem scis_pattern : FnScope ["value", "length", "sign"] ["value", "length"] (defScope sis_pattern) := ⟨rfl, rfl, rfl, by decide +kernel, rfl, by decide +kernel, by decide +kernel⟩
def care_rows : MS := sSeq (sIf (tOrM (tNotM (mT (mCB gis_sequence (aCons (mVar 0) (aNil))))) (tNotM (mT (mChain leD leD (mC (.int 1)) (mCB lenD (aCons (mVar 0) (aNil))) (mVar 1))))) (sRet (mC (.bl false))) (sNil)) (sSeq (sIf (tOrM (tNotM (mT (mCB isiD (aCons (mOp itemD (mVar 0) (mC (.int 0))) (aCons (mC (.ty "str")) (aNil)))))) (tNotM (mT (mChain leD leD (mC (.int 1)) (mCB lenD (aCons (mOp itemD (mVar 0) (mC (.int 0))) (aNil))) (mVar 1))))) (sRet (mC (.bl false))) (sNil)) (sRet (mCB allD (aCons (mLcW (kAny (mVar 0)) [2] (gN 2) (tYesM) (mCB gis_pattern (aCons (mVar 2) (aCons (mCB lenD (aCons (mOp itemD (mVar 0) (mC (.int 0))) (aNil))) (aNil))))) (aNil)))))
abbrev gare_rows : List D → Cs → R D := mFun 3 2 care_rows
theorem scare_rows : FnScope ["value", "most", "row"] ["value", "most"] (defScope sare_rows) := ⟨rfl, rfl, rfl, by decide +kernel, rfl, by decide +kernel, by decide +kernel⟩
def cCloth____init__ : MS := sSeq (sIf (tNotM (mT (mCB gare_rows (aCons (mVar 1) (aCons (mC (.int 8)) (aNil)))))) (sRaise "InvalidRows" "value" (mVar 1)) (sNil)) (sFldM ["Cloth"] "kept_rows" (mVar 0) (mCB listD (aCons (mVar 1) (aNil))))
abbrev gCloth____init__ : List D → Cs → R D := mFun 2 2 cCloth____init__
theorem scCloth____init__ : FnScope ["self", "rows"] ["self", "rows"] (defScope sCloth____init__) := ⟨rfl, rfl, rfl, by decide +kernel, rfl, by decide +kernel, by decide +kernel⟩
def c_law_crossings : MS := sSeq (sSet 2 (mOp mulI (mCB lenD (aCons (mVar 1) (aNil))) (mCB lenD (aCons (mOp itemD (mVar 1) (mC (.int 0))) (aNil))))) (sSeq (sSet 3 (mLcM (iR1 (aCons (mVar 2) (aNil))) [6] (gN 6) (tYesM) (mTup (aCons (mOp modI (mVar 6) (mCB lenD (aCons (mOp itemD (mVar 1) (mC (.int 0))) (aNil)))) (aCons (mOp divI (mVar 6) (mCB lenD (aCons (mOp itemD (mVar 1) (mC (.int 0))) (aNil)))) (aNil)))))) (sSeq (sSet 4 (mLstM (aNil))) (sSeq (sFor (iR1 (aCons (mOp itemD (mLst (aCons (mC (.int 0)) (aCons (mC (.int 1)) (aCons (mC (.int 2)) (aCons (mVar 2) (aCons (mCB g_law_take (aCons (mVar 0) (aCons (mOp addD (mVar 2) (mC (.int 1))) (aNil)))) (aNil))))))) (mCB g_law_take (aCons (mVar 0) (aCons (mC (.int 5)) (aNil))))) (aNil))) (gN 5) (sIf (mT (mOp (e0 true) (mVar 3) (mLst (aNil)))) (sExpr (mBM appendD (mVar 4) (aCons (mBM (mutM popAtF) (mVar 3) (aCons (mCB g_law_take (aCons (mVar 0) (aCons (mCB lenD (aCons (mVar 3) (aNil))) (aNil)))) (aNil))) (aNil)))) (sNil))) (sRet (mFrz (mVar 4))))))
abbrev g_law_crossings : List D → Cs → R D := mFun 7 2 c_law_crossings
theorem sc_law_crossings : FnScope ["_law_box_here", "_law_rows_here", "_law_many", "_law_left", "_law_found", "_law_turn", "_law_at"] ["_law_box_here", "_law_rows_here"] (defScope s_law_crossings) := ⟨rfl, rfl, rfl, by decide +kernel, rfl, by decide +kernel, by decide +kernel⟩
def c_law_odd : MS := sSeq (sSet 1 (mLst (aCons (mC .non) (aCons (mC (.bl true)) (aCons (mC (.bl false)) (aCons (mUn negD (mC (.int 1))) (aCons (mC (.int 0)) (aCons (mC (.int 1)) (aCons (mC (.int 8)) (aCons (mOp powI (mC (.int 10)) (mC (.int 29))) (aCons (mC (.str "")) (aCons (mC (.str "p")) (aCons (mC (.str "p8")) (aCons (mC (.str "warp")) (aCons (mLstM (aNil)) (aCons (mTup (aNil)) (aCons (mDictM0) (aCons (mDictM1 (.inr "a") (mC (.int 1))) (aCons (mLstM (aCons (mC .non) (aNil))) (aCons (mTup (aCons (mC (.int 0)) (aNil))) (aNil))))))))))))))))))))) (sSeq (sSet 1 (mOp addD (mVar 1) (mLst (aCons (mLstM (aCons (mC (.str "warp")) (aCons (mC (.int 0)) (aNil)))) (aCons (mTup (aCons (mC (.str "warp")) (aNil))) (aCons (mTup (aCons (mC (.str "warp")) (aCons (mC (.bl true)) (aNil)))) (aCons (mTup (aCons (mC (.str "weft")) (aCons (mUn negD (mC (.int 1))) (aNil)))) (aCons (mTup (aCons (mC (.str "warp")) (aCons (mC (.str "0")) (aNil)))) (aCons (mTup (aCons (mC (.str "warp")) (aCons (mC (.int 0)) (aCons (mC (.int 0)) (aNil))))) (aCons (mTup (aCons (mC (.str "fill")) (aCons (mC (.int 0)) (aNil)))) (aNil))))))))))) (sSeq (sSet 1 (mOp addD (mVar 1) (mLst (aCons (mTup (aCons (mC (.int 0)) (aCons (mC (.int 8)) (aNil)))) (aCons (mTup (aCons (mC (.bl true)) (aCons (mC (.int 0)) (aNil)))) (aCons (mLstM (aCons (mC (.int 0)) (aCons (mC (.int 0)) (aNil)))) (aCons (mTup (aCons (mC (.int 0)) (aCons (mC (.int 0)) (aCons (mC (.int 0)) (aNil))))) (aCons (mTup (aCons (mC (.str "0")) (aCons (mC (.int 0)) (aNil)))) (aCons (mLstM (aCons (mLstM (aCons (mC (.str "warp")) (aCons (mC (.int 0)) (aNil)))) (aNil))) (aCons (mLstM (aCons (mTup (aCons (mC (.int 0)) (aCons (mC (.int 0)) (aNil)))) (aNil))) (aCons (mTup (aCons (mC (.int 0)) (aCons (mUn negD (mC (.int 1))) (aNil)))) (aCons (mTup (aCons (mC (.str "warp")) (aCons (mC (.int 8)) (aNil)))) (aNil))))))))))))) (sSeq (sSet 1 (mOp addD (mVar 1) (mLst (aCons (mTup (aCons (mC (.str "weft")) (aCons (mC (.bl true)) (aNil)))) (aCons (mTup (aCons (mC (.str "warp")) (aCons (mUn negD (mC (.int 1))) (aNil)))) (aCons (mTup (aCons (mC (.str "weft")) (aCons (mC (.str "0")) (aNil)))) (aCons (mTup (aCons (mUn negD (mC (.int 1))) (aCons (mC (.int 0)) (aNil)))) (aCons (mTup (aCons (mC (.int 0)) (aCons (mC (.bl true)) (aNil)))) (aCons (mTup (aCons (mC (.int 0)) (aCons (mC (.str "0")) (aNil)))) (aCons (mTup (aCons (mC (.int 0)) (aCons (mOp powI (mC (.int 10)) (mC (.int 29))) (aNil)))) (aNil))))))))))) (sSeq (sSet 1 (mOp addD (mVar 1) (mLst (aCons (mTup (aCons (mLstM (aCons (mC (.str "warp")) (aNil))) (aCons (mC (.int 0)) (aNil)))) (aCons (mTup (aCons (mC (.dct [])) (aCons (mC (.int 0)) (aNil)))) (aCons (mTup (aCons (mTup (aCons (mC (.str "warp")) (aNil))) (aCons (mC (.int 0)) (aNil)))) (aCons (mTup (aCons (mC (.str "warp")) (aCons (mLst (aNil)) (aNil)))) (aCons (mC (.str "p0 ")) (aCons (mC (.str "01")) (aCons (mLstM (aCons (mC (.str "01")) (aNil))) (aNil))))))))))) (sRet (mOp itemD (mVar 1) (mCB g_law_take (aCons (mVar 0) (aCons (mCB lenD (aCons (mVar 1) (aNil))) (aNil))))))))))
abbrev g_law_odd : List D → Cs → R D := mFun 2 1 c_law_odd
theorem sc_law_odd : FnScope ["_law_box_here", "_law_some"] ["_law_box_here"] (defScope s_law_odd) := ⟨rfl, rfl, rfl, by decide +kernel, rfl, by decide +kernel, by decide +kernel⟩
def c_law_spoilt : MS := sSeq (sSet 3 (mLst (aCons (mCB g_law_odd (aCons (mVar 0) (aNil))) (aCons (mTup (aCons (mCB lenD (aCons (mOp itemD (mVar 1) (mC (.int 0))) (aNil))) (aCons (mC (.int 0)) (aNil)))) (aCons (mTup (aCons (mC (.int 0)) (aCons (mCB lenD (aCons (mVar 1) (aNil))) (aNil)))) (aCons (mTup (aCons (mC (.bl true)) (aCons (mC (.int 0)) (aNil)))) (aCons (mTup (aCons (mC (.int 0)) (aCons (mC (.bl true)) (aNil)))) (aCons (mLstM (aCons (mC (.int 0)) (aCons (mC (.int 0)) (aNil)))) (aCons (mTup (aCons (mC (.str "warp")) (aCons (mC (.int 0)) (aNil)))) (aCons (mTup (aCons (mC (.int 0)) (aCons (mC (.int 0)) (aNil)))) (aNil))))))))))) (sSeq (sIf (mT (mOp (e0 true) (mVar 2) (mLst (aNil)))) (sSet 3 (mOp addD (mVar 3) (mOp (mulX false) (mLst (aCons (mOp itemD (mVar 2) (mCB g_law_take (aCons (mVar 0) (aCons (mCB lenD (aCons (mVar 2) (aNil))) (aNil))))) (aNil))) (mC (.int 4))))) (sNil)) (sSeq (sSet 4 (mCB listM (aCons (mVar 2) (aNil)))) (sSeq (sFor (iR1 (aCons (mOp addD (mC (.int 1)) (mCB g_law_take (aCons (mVar 0) (aCons (mC (.int 2)) (aNil))))) (aNil))) (gN 5) (sExpr (mBM (mutM insF) (mVar 4) (aCons (mCB g_law_take (aCons (mVar 0) (aCons (mOp addD (mCB lenD (aCons (mVar 4) (aNil))) (mC (.int 1))) (aNil)))) (aCons (mOp itemD (mVar 3) (mCB g_law_take (aCons (mVar 0) (aCons (mCB lenD (aCons (mVar 3) (aNil))) (aNil))))) (aNil)))))) (sRet (mVar 4)))))
abbrev g_law_spoilt : List D → Cs → R D := mFun 6 3 c_law_spoilt
theorem sc_law_spoilt : FnScope ["_law_box_here", "_law_rows_here", "_law_crossings_here", "_law_some", "_law_found", "_law_turn"] ["_law_box_here", "_law_rows_here", "_law_crossings_here"] (defScope s_law_spoilt) := ⟨rfl, rfl, rfl, by decide +kernel, rfl, by decide +kernel, by decide +kernel⟩
def c_law_turned : MS := sSeq (sSet 2 (mLstM (aNil))) (sSeq (sForW (kEnum (aCons (mVar 0) (aNil))) (gT [3, 4]) (sSeq (sSet 5 (mLcW (kEnum (aCons (mVar 4) (aNil))) [6, 7] (gT [6, 7]) (tYesM) (mIf (mT (mOp (inY false) (mTup (aCons (mVar 6) (aCons (mVar 3) (aNil)))) (mVar 1))) (mOp itemD (mC (.str "10")) (mCB intFD (aCons (mVar 7) (aNil)))) (mVar 7)))) (sExpr (mBM appendD (mVar 2) (aCons (mM1 joinX (mC (.str "")) (mVar 5)) (aNil)))))) (sRet (mFrz (mVar 2))))
abbrev g_law_turned : List D → Cs → R D := mFun 8 2 c_law_turned
theorem sc_law_turned : FnScope ["_law_rows_here", "_law_crossings_here", "_law_found", "_law_j", "_law_row", "_law_signs", "_law_i", "_law_sign"] ["_law_rows_here", "_law_crossings_here"] (defScope s_law_turned) := ⟨rfl, rfl, rfl, by decide +kernel, rfl, by decide +kernel, by decide +kernel⟩
def c_law_due : MS := sSeq (sIf (tOrM (tNotM (mT (mCB isiD (aCons (mVar 1) (aCons (mTup (aCons (mC (.ty "list")) (aCons (mC (.ty "tuple")) (aNil)))) (aNil)))))) (mT (mOp gtD (mCB lenD (aCons (mVar 1) (aNil))) (mC (.int 64))))) (sRet (mLst (aCons (mC (.str "list")) (aCons (mVar 1) (aNil))))) (sNil)) (sSeq (sSet 2 (mLc (iR1 (aCons (mOp mulI (mCB lenD (aCons (mVar 0) (aNil))) (mCB lenD (aCons (mOp itemD (mVar 0) (mC (.int 0))) (aNil)))) (aNil))) [5] (gN 5) (tYesM) (mCB reprX (aCons (mTup (aCons (mOp modI (mVar 5) (mCB lenD (aCons (mOp itemD (mVar 0) (mC (.int 0))) (aNil)))) (aCons (mOp divI (mVar 5) (mCB lenD (aCons (mOp itemD (mVar 0) (mC (.int 0))) (aNil)))) (aNil)))) (aNil))))) (sSeq (sSet 3 (mLstM (aNil))) (sSeq (sForW (kAny (mVar 1)) (gN 4) (sSeq (sIf (tOrM (tNotM (mT (mCB isiD (aCons (mVar 4) (aCons (mC (.ty "tuple")) (aNil)))))) (mT (mOp (inY true) (mCB reprX (aCons (mVar 4) (aNil))) (mVar 2)))) (sRet (mLst (aCons (mC (.str "crossing")) (aCons (mVar 4) (aNil))))) (sNil)) (sSeq (sIf (mT (mOp (inY false) (mVar 4) (mVar 3))) (sRet (mLst (aCons (mC (.str "twice")) (aCons (mVar 4) (aNil))))) (sNil)) (sExpr (mBM appendD (mVar 3) (aCons (mVar 4) (aNil))))))) (sRet (mLst (aCons (mC (.str "returned")) (aCons (mCB g_law_turned (aCons (mVar 0) (aCons (mVar 3) (aNil)))) (aNil))))))))
abbrev g_law_due : List D → Cs → R D := mFun 6 2 c_law_due
theorem sc_law_due : FnScope ["_law_rows_here", "_law_value", "_law_pairs", "_law_seen", "_law_item", "_law_at"] ["_law_rows_here", "_law_value"] (defScope s_law_due) := ⟨rfl, rfl, rfl, by decide +kernel, rfl, by decide +kernel, by decide +kernel⟩
def cneed_items : MS := sIf (tOrM (tNotM (mT (mCB gis_sequence (aCons (mVar 0) (aNil))))) (mT (mOp gtD (mCB lenD (aCons (mVar 0) (aNil))) (mVar 1)))) (sRaise "InvalidList" "value" (mVar 0)) (sNil)
abbrev gneed_items : List D → Cs → R D := mFun 2 2 cneed_items
theorem scneed_items : FnScope ["items", "most"] ["items", "most"] (defScope sneed_items) := ⟨rfl, rfl, rfl, by decide +kernel, rfl, by decide +kernel, by decide +kernel⟩
def cis_integer : MS := sRet (mAnd (mCB isiD (aCons (mVar 0) (aCons (mC (.ty "int")) (aNil)))) (mAnd (mNot (mCB isiD (aCons (mVar 0) (aCons (mC (.ty "bool")) (aNil))))) (mChain leD leD (mVar 1) (mVar 0) (mVar 2))))
abbrev gis_integer : List D → Cs → R D := mFun 3 3 cis_integer
theorem scis_integer : FnScope ["value", "low", "high"] ["value", "low", "high"] (defScope sis_integer) := ⟨rfl, rfl, rfl, by decide +kernel, rfl, by decide +kernel, by decide +kernel⟩
def cis_crossing : MS := sSeq (sIf (tOrM (tNotM (mT (mCB isiD (aCons (mVar 0) (aCons (mC (.ty "tuple")) (aNil)))))) (mT (mOp neX (mCB lenD (aCons (mVar 0) (aNil))) (mC (.int 2))))) (sRet (mC (.bl false))) (sNil)) (sRet (mAnd (mCB gis_integer (aCons (mOp itemD (mVar 0) (mC (.int 0))) (aCons (mC (.int 0)) (aCons (mOp subD (mVar 1) (mC (.int 1))) (aNil))))) (mCB gis_integer (aCons (mOp itemD (mVar 0) (mC (.int 1))) (aCons (mC (.int 0)) (aCons (mOp subD (mVar 2) (mC (.int 1))) (aNil)))))))
abbrev gis_crossing : List D → Cs → R D := mFun 3 3 cis_crossing
theorem scis_crossing : FnScope ["value", "warps", "wefts"] ["value", "warps", "wefts"] (defScope sis_crossing) := ⟨rfl, rfl, rfl, by decide +kernel, rfl, by decide +kernel, by decide +kernel⟩
def cCloth__weft_count : MS := sRet (mCB lenD (aCons (mFld ["Cloth"] "kept_rows" (mVar 0)) (aNil)))
abbrev gCloth__weft_count : List D → Cs → R D := mFun 1 1 cCloth__weft_count
theorem scCloth__weft_count : FnScope ["self"] ["self"] (defScope sCloth__weft_count) := ⟨rfl, rfl, rfl, by decide +kernel, rfl, by decide +kernel, by decide +kernel⟩
def cCloth__warp_count : MS := sRet (mCB lenD (aCons (mOp itemD (mFld ["Cloth"] "kept_rows" (mVar 0)) (mC (.int 0))) (aNil)))
abbrev gCloth__warp_count : List D → Cs → R D := mFun 1 1 cCloth__warp_count
theorem scCloth__warp_count : FnScope ["self"] ["self"] (defScope sCloth__warp_count) := ⟨rfl, rfl, rfl, by decide +kernel, rfl, by decide +kernel, by decide +kernel⟩
def cexchanged : MS := sRet (mExch (mVar 0))
abbrev gexchanged : List D → Cs → R D := mFun 1 1 cexchanged
theorem scexchanged : FnScope ["row"] ["row"] (defScope sexchanged) := ⟨rfl, rfl, rfl, by decide +kernel, rfl, by decide +kernel, by decide +kernel⟩
def cCloth__turned : MS := sSeq (sExpr (mCB gneed_items (aCons (mVar 1) (aCons (mOp mulI (mC (.int 8)) (mC (.int 8))) (aNil))))) (sSeq (sForW (kEnum (aCons (mVar 1) (aNil))) (gT [3, 4]) (sSeq (sIf (tNotM (mT (mCB gis_crossing (aCons (mVar 4) (aCons (mProp [("Cloth", gCloth__warp_count)] (mVar 0)) (aCons (mProp [("Cloth", gCloth__weft_count)] (mVar 0)) (aNil))))))) (sRaise "InvalidCrossing" "value" (mVar 4)) (sNil)) (sIf (mT (mOp (inY false) (mVar 4) (mSliceY (mVar 1) (oNone) (oSome (mVar 3))))) (sRaise "Duplicate" "value" (mVar 4)) (sNil)))) (sSeq (sSet 2 (mLcW (kAny (mFld ["Cloth"] "kept_rows" (mVar 0))) [7] (gN 7) (tYesM) (mCB (listA true) (aCons (mVar 7) (aNil))))) (sSeq (sForW (kAny (mVar 1)) (gT [5, 6]) (sAsg (mCB gexchanged (aCons (mOp itemD (mOp itemD (mVar 2) (mVar 6)) (mVar 5)) (aNil))) (gS (mOp itemD (mVar 2) (mVar 6)) (mVar 5)))) (sRet (mFrzI (mMake "Cloth" gCloth____init__ (aCons (mLcW (kAny (mVar 2)) [7] (gN 7) (tYesM) (mM1 joinX (mC (.str "")) (mVar 7))) (aNil))))))))
abbrev gCloth__turned : List D → Cs → R D := mFun 8 2 cCloth__turned
theorem scCloth__turned : FnScope ["self", "crossings", "rows", "index", "crossing", "warp", "weft", "row"] ["self", "crossings"] (defScope sCloth__turned) := ⟨rfl, rfl, rfl, by decide +kernel, rfl, by decide +kernel, by decide +kernel⟩
def cCloth__rows : MS := sRet (mCB listD (aCons (mFld ["Cloth"] "kept_rows" (mVar 0)) (aNil)))
abbrev gCloth__rows : List D → Cs → R D := mFun 1 1 cCloth__rows
theorem scCloth__rows : FnScope ["self"] ["self"] (defScope sCloth__rows) := ⟨rfl, rfl, rfl, by decide +kernel, rfl, by decide +kernel, by decide +kernel⟩
def c_law_caught : MS := sTry ["InvalidRows", "InvalidList", "InvalidCrossing", "Duplicate"] (sRet (mLst (aCons (mC (.str "returned")) (aCons (mMeth [("Cloth", gCloth__rows)] "rows" (mMeth [("Cloth", gCloth__turned)] "turned" (mVar 0) (aCons (mVar 1) (aNil))) aNil) (aNil))))) [.cl "InvalidList" (some 2) (fun x => sRet (mLst (aCons (mC (.str "list")) (aCons (mXf ["InvalidList"] "value" x) aNil)))), .cl "InvalidCrossing" (some 2) (fun x => sRet (mLst (aCons (mC (.str "crossing")) (aCons (mXf ["InvalidCrossing"] "value" x) aNil)))), .cl "Duplicate" (some 2) (fun x => sRet (mLst (aCons (mC (.str "twice")) (aCons (mXf ["Duplicate"] "value" x) aNil)))), .stop]
abbrev g_law_caught : List D → Cs → R D := mFun 3 2 c_law_caught
theorem sc_law_caught : FnScope ["_law_cloth", "_law_value", "e"] ["_law_cloth", "_law_value"] (defScope s_law_caught) := ⟨rfl, rfl, rfl, by decide +kernel, rfl, by decide +kernel, by decide +kernel⟩
def c_law_right : MS := sSeq (sPar [4, 5] (aCons (mCB reprX (aCons (mVar 2) (aNil))) (aCons (mCB g_law_due (aCons (mVar 1) (aCons (mVar 2) (aNil)))) (aNil)))) (sSeq (sSet 3 (mCB g_law_caught (aCons (mVar 0) (aCons (mVar 2) (aNil))))) (sSeq (sIf (tOrM (mT (mOp neX (mCB reprX (aCons (mVar 3) (aNil))) (mCB reprX (aCons (mVar 5) (aNil))))) (tOrM (mT (mOp neX (mCB reprX (aCons (mVar 2) (aNil))) (mVar 4))) (mT (mOp neX (mMeth [("Cloth", gCloth__rows)] "rows" (mVar 0) aNil) (mVar 1))))) (sRet (mC (.bl false))) (sNil)) (sSeq (sIf (tAndM (mT (mOp neX (mOp itemD (mVar 5) (mC (.int 0))) (mC (.str "returned")))) (mT (mCB isiD (aCons (mOp itemD (mVar 5) (mC (.int 1))) (aCons (mC (.ty "list")) (aNil)))))) (sSeq (sExpr (mBM appendD (mOp itemD (mVar 5) (mC (.int 1))) (aCons (mC (.str "more")) (aNil)))) (sRet (mOp eqX (mCB reprX (aCons (mVar 3) (aNil))) (mCB reprX (aCons (mVar 5) (aNil)))))) (sNil)) (sRet (mC (.bl true))))))
abbrev g_law_right : List D → Cs → R D := mFun 6 3 c_law_right
theorem sc_law_right : FnScope ["_law_cloth", "_law_rows_here", "_law_value", "_law_found", "_law_stood", "_law_due_here"] ["_law_cloth", "_law_rows_here", "_law_value"] (defScope s_law_right) := ⟨rfl, rfl, rfl, by decide +kernel, rfl, by decide +kernel, by decide +kernel⟩
def claw : MS := sSeq (sFor (iR1 (aCons (mCB max2 (aCons (mC (.int 2)) (aCons (mCB min2 (aCons (mC (.int 8)) (aCons (mCB lenD (aCons (mVar 0) (aNil))) (aNil)))) (aNil)))) (aNil))) (gN 1) (sSeq (sSet 2 (mCB g_law_box (aCons (mCB g_law_cell (aCons (mVar 0) (aCons (mVar 1) (aNil)))) (aNil)))) (sSeq (sSet 3 (mCB g_law_rows (aCons (mVar 2) (aNil)))) (sSeq (sSet 4 (mFrzI (mMake "Cloth" gCloth____init__ (aCons (mVar 3) (aNil))))) (sSeq (sFor (iR1 (aCons (mC (.int 6)) (aNil))) (gN 5) (sSeq (sSet 7 (mCB g_law_crossings (aCons (mVar 2) (aCons (mVar 3) (aNil))))) (sSeq (sSet 8 (mOp itemD (mLst (aCons (mCB listM (aCons (mVar 7) (aNil))) (aCons (mCB tupleD (aCons (mVar 7) (aNil))) (aNil)))) (mCB g_law_take (aCons (mVar 2) (aCons (mC (.int 2)) (aNil)))))) (sSeq (sSet 9 (mCB g_law_spoilt (aCons (mVar 2) (aCons (mVar 3) (aCons (mVar 7) (aNil)))))) (sSeq (sIf (tOrM (tNotM (mT (mCB g_law_right (aCons (mVar 4) (aCons (mVar 3) (aCons (mVar 8) (aNil))))))) (tNotM (mT (mCB g_law_right (aCons (mVar 4) (aCons (mVar 3) (aCons (mVar 9) (aNil)))))))) (sRet (mC (.bl false))) (sNil)) (sIf (tOrM (tNotM (mT (mCB g_law_right (aCons (mVar 4) (aCons (mVar 3) (aCons (mCB tupleD (aCons (mVar 9) (aNil))) (aNil))))))) (tNotM (mT (mCB g_law_right (aCons (mVar 4) (aCons (mVar 3) (aCons (mCB g_law_odd (aCons (mVar 2) (aNil))) (aNil)))))))) (sRet (mC (.bl false))) (sNil))))))) (sSeq (sSet 6 (mOp (mulX true) (mLst (aCons (mTup (aCons (mC (.int 0)) (aCons (mC (.int 0)) (aNil)))) (aNil))) (mOp addD (mC (.int 64)) (mCB g_law_take (aCons (mVar 2) (aCons (mC (.int 2)) (aNil))))))) (sIf (tOrM (tNotM (mT (mCB g_law_right (aCons (mVar 4) (aCons (mVar 3) (aCons (mVar 6) (aNil))))))) (tNotM (mT (mCB g_law_right (aCons (mVar 4) (aCons (mVar 3) (aCons (mOp (mulX true) (mLst (aCons (mLst (aCons (mC (.int 0)) (aCons (mC (.int 0)) (aNil)))) (aNil))) (mC (.int 65))) (aNil)))))))) (sRet (mC (.bl false))) (sNil)))))))) (sRet (mC (.bl true)))
abbrev glaw : List D → Cs → R D := mFun 10 1 claw
theorem sclaw : FnScope ["_law_script", "_law_k", "_law_box_here", "_law_rows_here", "_law_cloth", "_law_turn", "_law_many", "_law_crossings_here", "_law_handed", "_law_spoilt_here"] ["_law_script"] (defScope slaw) := ⟨rfl, rfl, rfl, by decide +kernel, rfl, by decide +kernel, by decide +kernel⟩
/-- what the top leaves -/
structure Txt (P : Program) (K : PySem.W.Frag) (mg : Str → Option Value) where
  b_all : mg "all" = none
  b_bool : mg "bool" = none
  b_enumerate : mg "enumerate" = none
  b_int : mg "int" = none
  b_isinstance : mg "isinstance" = none
  b_len : mg "len" = none
  b_list : mg "list" = none
  b_max : mg "max" = none
  b_min : mg "min" = none
  b_range : mg "range" = none
  b_repr : mg "repr" = none
  b_str : mg "str" = none
  b_tuple : mg "tuple" = none
  cSIGNS : IsC K mg "SIGNS" (.str "01")
  gx : ∀ n C, PySem.W.nsIn K mainGlobals n = some (some (.ref C)) → mg n = some (.ref C)
  xm : XMod K mg
  x_Duplicate : XOwn P K "Duplicate" "value"
  x_InvalidCrossing : XOwn P K "InvalidCrossing" "value"
  x_InvalidList : XOwn P K "InvalidList" "value"
  x_InvalidRows : XOwn P K "InvalidRows" "value"
  n_Duplicate : ∃ C, PySem.W.nsIn K mainGlobals "Duplicate" = some (some (.ref C))
  n_InvalidCrossing : ∃ C, PySem.W.nsIn K mainGlobals "InvalidCrossing" = some (some (.ref C))
  n_InvalidList : ∃ C, PySem.W.nsIn K mainGlobals "InvalidList" = some (some (.ref C))
  e_InvalidRows_Duplicate : EXM K "InvalidRows" "Duplicate"
  e_InvalidList_Duplicate : EXM K "InvalidList" "Duplicate"
  e_InvalidCrossing_Duplicate : EXM K "InvalidCrossing" "Duplicate"
  e_Duplicate_Duplicate : EXM K "Duplicate" "Duplicate"
  e_InvalidRows_InvalidCrossing : EXM K "InvalidRows" "InvalidCrossing"
  e_InvalidList_InvalidCrossing : EXM K "InvalidList" "InvalidCrossing"
  e_InvalidCrossing_InvalidCrossing : EXM K "InvalidCrossing" "InvalidCrossing"
  e_Duplicate_InvalidCrossing : EXM K "Duplicate" "InvalidCrossing"
  e_InvalidRows_InvalidList : EXM K "InvalidRows" "InvalidList"
  e_InvalidList_InvalidList : EXM K "InvalidList" "InvalidList"
  e_InvalidCrossing_InvalidList : EXM K "InvalidCrossing" "InvalidList"
  e_Duplicate_InvalidList : EXM K "Duplicate" "InvalidList"
  fl_Cloth_kept_rows : FldK K "Cloth" "kept_rows"
  cc_Cloth_MOST : CCI K "Cloth" "MOST" 8
  mk_Cloth : ∃ C f, PySem.W.nsIn K mainGlobals "Cloth" = some (some (.ref C)) ∧ Mk K C f ∧ OwnF K "__init__" "Cloth.__init__" sCloth____init__ ["self", "rows"] f
  me_Cloth_rows : ∃ C f, NamV K "Cloth" (.ref C) ∧ Cls K C ∧ Meth K C "rows" f ∧ OwnF K "rows" "Cloth.rows" sCloth__rows ["self"] f
  me_Cloth_turned : ∃ C f, NamV K "Cloth" (.ref C) ∧ Cls K C ∧ Meth K C "turned" f ∧ OwnF K "turned" "Cloth.turned" sCloth__turned ["self", "crossings"] f
  pr_Cloth_warp_count : ∃ C p f, NamV K "Cloth" (.ref C) ∧ Cls K C ∧ PropOf K C "warp_count" p f ∧ OwnF K "warp_count" "Cloth.warp_count" sCloth__warp_count ["self"] f
  pr_Cloth_weft_count : ∃ C p f, NamV K "Cloth" (.ref C) ∧ Cls K C ∧ PropOf K C "weft_count" p f ∧ OwnF K "weft_count" "Cloth.weft_count" sCloth__weft_count ["self"] f
  f_law_box : Own K mg "_law_box" s_law_box ["_law_cell_here"]
  f_law_cell : Own K mg "_law_cell" s_law_cell ["_law_script", "_law_k"]
  f_law_take : Own K mg "_law_take" s_law_take ["_law_box_here", "_law_many"]
  f_law_rows : Own K mg "_law_rows" s_law_rows ["_law_box_here"]
  fis_sequence : Own K mg "is_sequence" sis_sequence ["value"]
  fis_pattern : Own K mg "is_pattern" sis_pattern ["value", "length"]
  fare_rows : Own K mg "are_rows" sare_rows ["value", "most"]
  f_law_crossings : Own K mg "_law_crossings" s_law_crossings ["_law_box_here", "_law_rows_here"]
  f_law_odd : Own K mg "_law_odd" s_law_odd ["_law_box_here"]
  f_law_spoilt : Own K mg "_law_spoilt" s_law_spoilt ["_law_box_here", "_law_rows_here", "_law_crossings_here"]
  f_law_turned : Own K mg "_law_turned" s_law_turned ["_law_rows_here", "_law_crossings_here"]
  f_law_due : Own K mg "_law_due" s_law_due ["_law_rows_here", "_law_value"]
  fneed_items : Own K mg "need_items" sneed_items ["items", "most"]
  fis_integer : Own K mg "is_integer" sis_integer ["value", "low", "high"]
  fis_crossing : Own K mg "is_crossing" sis_crossing ["value", "warps", "wefts"]
  fexchanged : Own K mg "exchanged" sexchanged ["row"]
  f_law_caught : Own K mg "_law_caught" s_law_caught ["_law_cloth", "_law_value"]
  f_law_right : Own K mg "_law_right" s_law_right ["_law_cloth", "_law_rows_here", "_law_value"]
  flaw : Own K mg "law" slaw ["_law_script"]
section
variable {P : Program} {w : World} {K : PySem.W.Frag} {mg : Str → Option Value} {base : Heap}
theorem k_law_box (T : Txt P K mg) : GFn P w K mg base 1 T.f_law_box.a T.f_law_box.fd ["_law_cell_here"] g_law_box := by
  refine gfn_of (k := 0) T.f_law_box.F sc_law_box fun cdv A outer s H E hr hgd => ?_
  have scN := sc_law_box.nd
  have tk := takes_of (X := cxOf (CX P w) P w K mg base ["_law_cell_here"] "_law_box" (defScope s_law_box) T.f_law_box.a cdv A outer s H E) (E := E) rfl rfl rfl rfl
  exact ms_one (ms_ret (me_lstM (ma_cons (me_cb (pe_callB (call_max2 rfl) (by rfl) T.b_max bt_max (ma_cons (me_int) (ma_cons (me_op op_sub os_sub (me_var (pv 0)) (me_op op_pow os_powI (me_int) (me_int))) (ma_nil)))) cs_max2) (ma_cons (me_op op_modN os_modI (me_var (pv 0)) (me_int)) (ma_cons (me_int) (ma_nil))))))
theorem k_law_cell (T : Txt P K mg) : GFn P w K mg base 1 T.f_law_cell.a T.f_law_cell.fd ["_law_script", "_law_k"] g_law_cell := by
  refine gfn_of (k := 0) T.f_law_cell.F sc_law_cell fun cdv A outer s H E hr hgd => ?_
  have scN := sc_law_cell.nd
  have tk := takes_of (X := cxOf (CX P w) P w K mg base ["_law_script", "_law_k"] "_law_cell" (defScope s_law_cell) T.f_law_cell.a cdv A outer s H E) (E := E) rfl rfl rfl rfl
  exact ms_cons (ms_if (mt_cmp op_ltA os_lt (me_var (pv 1)) (me_cb (pe_callB call_len (by rfl) T.b_len bt_len (ma_cons (me_var (pv 0)) (ma_nil))) cs_len) (nomark _)) (ms_one (ms_ret (me_ix ix_seq os_item (me_var (pv 0)) (me_var (pv 1)) (fun _ _ => rfl)))) (ms_nil)) (ms_one (ms_ret (me_op op_addA os_add (me_op op_mul os_mulI (me_int) (me_var (pv 1))) (me_int))))
theorem k_law_take (T : Txt P K mg) : GFn P w K mg base 1 T.f_law_take.a T.f_law_take.fd ["_law_box_here", "_law_many"] g_law_take := by
  refine gfn_of (k := 0) T.f_law_take.F sc_law_take fun cdv A outer s H E hr hgd => ?_
  have scN := sc_law_take.nd
  have tk := takes_of (X := cxOf (CX P w) P w K mg base ["_law_box_here", "_law_many", "_law_mixed", "_law_digit"] "_law_take" (defScope s_law_take) T.f_law_take.a cdv A outer s H E) (E := E) rfl rfl rfl rfl
  exact ms_cons (ms_if (mt_cmp op_gt os_cmpI (me_ix ix_seq os_item (me_var (pv 0)) (me_int) (fun _ _ => rfl)) (me_int) (nomark _)) (ms_cons (ms_set (i := 3) scN rfl (by first | exact Or.inl rfl | exact Or.inr rfl) (me_op op_modN os_modI (me_ix ix_seq os_item (me_var (pv 0)) (me_int) (fun _ _ => rfl)) (me_var (pv 1)))) (ms_cons (ms_asg (me_op op_fdivN os_divI (me_ix ix_seq os_item (me_var (pv 0)) (me_int) (fun _ _ => rfl)) (me_var (pv 1))) (mg_sub (pg_sub (me_var (pv 0)) (me_int) set_list))) (ms_one (ms_ret (me_var (pv 3)))))) (ms_nil)) (ms_cons (ms_asg (me_op op_addA os_add (me_ix ix_seq os_item (me_var (pv 0)) (me_int) (fun _ _ => rfl)) (me_int)) (mg_sub (pg_sub (me_var (pv 0)) (me_int) set_list))) (ms_cons (ms_set (i := 2) scN rfl (by first | exact Or.inl rfl | exact Or.inr rfl) (me_op op_modN os_modI (me_op op_pow os_powI (me_op op_addA os_add (me_op op_addA os_add (me_ix ix_seq os_item (me_var (pv 0)) (me_int) (fun _ _ => rfl)) (me_op op_mul os_mulI (me_int) (me_ix ix_seq os_item (me_var (pv 0)) (me_int) (fun _ _ => rfl)))) (me_int)) (me_int)) (me_int))) (ms_cons (ms_set (i := 2) scN rfl (by first | exact Or.inl rfl | exact Or.inr rfl) (me_op op_modN os_modI (me_op op_pow os_powI (me_op op_addA os_add (me_var (pv 2)) (me_op op_mul os_mulI (me_int) (me_ix ix_seq os_item (me_var (pv 0)) (me_int) (fun _ _ => rfl)))) (me_int)) (me_int))) (ms_one (ms_ret (me_op op_modN os_modI (me_op op_fdivN os_divI (me_var (pv 2)) (me_int)) (me_var (pv 1))))))))
theorem k_law_rows (T : Txt P K mg) : GFn P w K mg base 2 T.f_law_rows.a T.f_law_rows.fd ["_law_box_here"] g_law_rows := by
  refine gfn_of (k := 1) T.f_law_rows.F sc_law_rows fun cdv A outer s H E hr hgd => ?_
  have scN := sc_law_rows.nd
  have tk := takes_of (X := cxOf (CX P w) P w K mg base ["_law_box_here", "_law_low", "_law_warps", "_law_wefts", "_law_many", "_law_up", "_law_down", "_law_bias", "_law_rows_here", "_law_signs", "_law_k", "_law_high", "_law_sign"] "_law_rows" (defScope s_law_rows) T.f_law_rows.a cdv A outer s H E) (E := E) rfl rfl rfl rfl
  exact ms_cons (ms_asg (me_tup (ma_cons (me_op op_addA os_add (me_int) (me_call (k_law_take T) (hr.mono (by decide)) hgd (by rfl) T.f_law_take.mgf T.f_law_take.F.kp T.f_law_take.b tk (ma_cons (me_var (pv 0)) (ma_cons (me_int) (ma_nil))))) (ma_cons (me_op op_addA os_add (me_int) (me_call (k_law_take T) (hr.mono (by decide)) hgd (by rfl) T.f_law_take.mgf T.f_law_take.F.kp T.f_law_take.b tk (ma_cons (me_var (pv 0)) (ma_cons (me_int) (ma_nil))))) (ma_cons (me_ix ix_seq os_item (me_lst (ma_cons (me_int) (ma_cons (me_int) (ma_cons (me_int) (ma_cons (me_int) (ma_nil)))))) (me_call (k_law_take T) (hr.mono (by decide)) hgd (by rfl) T.f_law_take.mgf T.f_law_take.F.kp T.f_law_take.b tk (ma_cons (me_var (pv 0)) (ma_cons (me_int) (ma_nil)))) (fun _ _ => rfl)) (ma_nil))))) (mg_tup rfl (mgs_cons (i := 2) scN rfl (by first | exact Or.inl rfl | exact Or.inr rfl) (mgs_cons (i := 3) scN rfl (by first | exact Or.inl rfl | exact Or.inr rfl) (mgs_cons (i := 4) scN rfl (by first | exact Or.inl rfl | exact Or.inr rfl) (mgs_nil)))))) (ms_cons (ms_par2 (i := 5) (j := 6) rfl scN rfl rfl (by decide) rfl rfl (ma_cons (PEi (pe_lc (own := [("_law_k", 10)]) rfl scN (mi_r1 (pi_range1 (by rfl) T.b_range (ma_cons (me_var (pv 2)) (ma_nil)))) (blkOk_by (N := ["_law_box_here", "_law_low", "_law_warps", "_law_wefts", "_law_many", "_law_up", "_law_down", "_law_bias", "_law_rows_here", "_law_signs", "_law_k", "_law_high", "_law_sign"]) (sc := defScope s_law_rows) (by decide +kernel)) (fun _ _ _ _ _ => pg_name (i := 10) scN rfl (by first | exact Or.inl rfl | exact Or.inr rfl)) (fun _ _ _ _ _ => mts_nil) (fun _ _ _ _ _ => me_call (k_law_take T) (hr.mono (by decide)) hgd (by rfl) T.f_law_take.mgf T.f_law_take.F.kp T.f_law_take.b takesW0 (ma_cons (me_var (pv 0)) (ma_cons (me_var (pv 4)) (ma_nil))))) (fun _ _ _ h => lc_read (good_name (by decide)) (rg_name) h)) (ma_cons (PEi (pe_lc (own := [("_law_k", 10)]) rfl scN (mi_r1 (pi_range1 (by rfl) T.b_range (ma_cons (me_var (pv 3)) (ma_nil)))) (blkOk_by (N := ["_law_box_here", "_law_low", "_law_warps", "_law_wefts", "_law_many", "_law_up", "_law_down", "_law_bias", "_law_rows_here", "_law_signs", "_law_k", "_law_high", "_law_sign"]) (sc := defScope s_law_rows) (by decide +kernel)) (fun _ _ _ _ _ => pg_name (i := 10) scN rfl (by first | exact Or.inl rfl | exact Or.inr rfl)) (fun _ _ _ _ _ => mts_nil) (fun _ _ _ _ _ => me_call (k_law_take T) (hr.mono (by decide)) hgd (by rfl) T.f_law_take.mgf T.f_law_take.F.kp T.f_law_take.b takesW0 (ma_cons (me_var (pv 0)) (ma_cons (me_var (pv 4)) (ma_nil))))) (fun _ _ _ h => lc_read (good_name (by decide)) (rg_name) h)) (ma_nil))) (by first | rfl | with_unfolding_all rfl | kernel_rfl)) (ms_cons (ms_asg (me_tup (ma_cons (me_ix ix_seq os_item (me_lst (ma_cons (me_int) (ma_cons (me_int) (ma_cons (me_int) (ma_cons (me_int) (ma_nil)))))) (me_call (k_law_take T) (hr.mono (by decide)) hgd (by rfl) T.f_law_take.mgf T.f_law_take.F.kp T.f_law_take.b tk (ma_cons (me_var (pv 0)) (ma_cons (me_int) (ma_nil)))) (fun _ _ => rfl)) (ma_cons (me_lstM (ma_nil)) (ma_nil)))) (mg_tup rfl (mgs_cons (i := 7) scN rfl (by first | exact Or.inl rfl | exact Or.inr rfl) (mgs_cons (i := 8) scN rfl (by first | exact Or.inl rfl | exact Or.inr rfl) (mgs_nil))))) (ms_cons (ms_forW (passes_of rfl) rfl (mk_any (me_var (pv 6))) (mg_name (i := 1) scN rfl (by first | exact Or.inl rfl | exact Or.inr rfl)) (ms_cons ((by first | exact ms_setT (ps_setLc (i := 9) (own := [("_law_high", 11)]) rfl scN rfl rfl (sw_true rfl rfl rfl (by decide +kernel)) (mk_any (me_var (pv 5))) (blkOk_by (N := ["_law_box_here", "_law_low", "_law_warps", "_law_wefts", "_law_many", "_law_up", "_law_down", "_law_bias", "_law_rows_here", "_law_signs", "_law_k", "_law_high", "_law_sign"]) (sc := defScope s_law_rows) (by decide +kernel)) (fun _ _ _ _ _ => pg_name (i := 11) scN rfl (by first | exact Or.inl rfl | exact Or.inr rfl)) (fun _ _ _ _ _ => mts_nil) (fun _ _ _ _ _ => me_if (mt_cmp (op_neY hr.units) os_neX (me_var (pv 11)) (me_var (pv 1)) (nomark _)) (me_cb (pe_callTy call_intF (by rfl) T.b_int bt_int (ma_cons (me_cmp op_gt os_cmpI (me_var (pv 11)) (me_var (pv 1)) (nomark _)) (ma_nil))) cs_intF) (me_cb (pe_callTy call_intF (by rfl) T.b_int bt_int (ma_cons (me_cmp op_gt os_cmpI (me_call (k_law_take T) (hr.mono (by decide)) hgd (by rfl) T.f_law_take.mgf T.f_law_take.F.kp T.f_law_take.b takesW0 (ma_cons (me_var (pv 0)) (ma_cons (me_var (pv 7)) (ma_nil)))) (me_int) (nomark _)) (ma_nil))) cs_intF))) (fun _ _ _ h => lc_readW (good_name (by decide)) (rg_name) h) | exact ms_set (i := 9) scN rfl (by first | exact Or.inl rfl | exact Or.inr rfl) (PEi (pe_lc (own := [("_law_high", 11)]) rfl scN (mk_any (me_var (pv 5))) (blkOk_by (N := ["_law_box_here", "_law_low", "_law_warps", "_law_wefts", "_law_many", "_law_up", "_law_down", "_law_bias", "_law_rows_here", "_law_signs", "_law_k", "_law_high", "_law_sign"]) (sc := defScope s_law_rows) (by decide +kernel)) (fun _ _ _ _ _ => pg_name (i := 11) scN rfl (by first | exact Or.inl rfl | exact Or.inr rfl)) (fun _ _ _ _ _ => mts_nil) (fun _ _ _ _ _ => me_if (mt_cmp (op_neY hr.units) os_neX (me_var (pv 11)) (me_var (pv 1)) (nomark _)) (me_cb (pe_callTy call_intF (by rfl) T.b_int bt_int (ma_cons (me_cmp op_gt os_cmpI (me_var (pv 11)) (me_var (pv 1)) (nomark _)) (ma_nil))) cs_intF) (me_cb (pe_callTy call_intF (by rfl) T.b_int bt_int (ma_cons (me_cmp op_gt os_cmpI (me_call (k_law_take T) (hr.mono (by decide)) hgd (by rfl) T.f_law_take.mgf T.f_law_take.F.kp T.f_law_take.b takesW0 (ma_cons (me_var (pv 0)) (ma_cons (me_var (pv 7)) (ma_nil)))) (me_int) (nomark _)) (ma_nil))) cs_intF))) (fun _ _ _ h => lc_readW (good_name (by decide)) (rg_name) h)))) (ms_one (ms_expr (me_bm (pe_bm PySem.F.plainAttrs_list PySem.F.slot_list_append PySem.F.type_list_append mt_append (me_var (pv 8)) (ma_cons (me_m1 (pe_join (me_str) (PEi (pe_lc (own := [("_law_sign", 12)]) rfl scN (mk_any (me_var (pv 9))) (blkOk_by (N := ["_law_box_here", "_law_low", "_law_warps", "_law_wefts", "_law_many", "_law_up", "_law_down", "_law_bias", "_law_rows_here", "_law_signs", "_law_k", "_law_high", "_law_sign"]) (sc := defScope s_law_rows) (by decide +kernel)) (fun _ _ _ _ _ => pg_name (i := 12) scN rfl (by first | exact Or.inl rfl | exact Or.inr rfl)) (fun _ _ _ _ _ => mts_nil) (fun _ _ _ _ _ => me_cb (pe_callTy call_str_int (by rfl) T.b_str bt_str (ma_cons (me_var (pv 12)) (ma_nil))) cs_strF)) (fun _ _ _ h => lc_readW (good_name (by decide)) (rg_name) h))) m1_joinX) (ma_nil))) meth_append))))) (ms_one (ms_ret (me_frz (me_var (pv 8))))))))
theorem kis_sequence (T : Txt P K mg) : GFn P w K mg base 1 T.fis_sequence.a T.fis_sequence.fd ["value"] gis_sequence := by
  refine gfn_of (k := 0) T.fis_sequence.F scis_sequence fun cdv A outer s H E hr hgd => ?_
  have scN := scis_sequence.nd
  have tk := takes_of (X := cxOf (CX P w) P w K mg base ["value"] "is_sequence" (defScope sis_sequence) T.fis_sequence.a cdv A outer s H E) (E := E) rfl rfl rfl rfl
  exact ms_one (ms_ret (me_cb (pe_callB call_isiA (by rfl) T.b_isinstance bt_isinstance (ma_cons (me_var (pv 0)) (ma_cons (me_tup (ma_cons (me_c (pe_bltn (v := .ty "list") (by rfl) T.b_list bt_list rfl) (fun _ _ => .ty _)) (ma_cons (me_c (pe_bltn (v := .ty "tuple") (by rfl) T.b_tuple bt_tuple rfl) (fun _ _ => .ty _)) (ma_nil)))) (ma_nil)))) cs_isi))
theorem kis_pattern (T : Txt P K mg) : GFn P w K mg base 1 T.fis_pattern.a T.fis_pattern.fd ["value", "length"] gis_pattern := by
  refine gfn_of (k := 0) T.fis_pattern.F scis_pattern fun cdv A outer s H E hr hgd => ?_
  have scN := scis_pattern.nd
  have tk := takes_of (X := cxOf (CX P w) P w K mg base ["value", "length", "sign"] "is_pattern" (defScope sis_pattern) T.fis_pattern.a cdv A outer s H E) (E := E) rfl rfl rfl rfl
  exact ms_one (ms_ret (me_and (me_cb (pe_callB call_isiA (by rfl) T.b_isinstance bt_isinstance (ma_cons (me_var (pv 0)) (ma_cons (me_c (pe_bltn (v := .ty "str") (by rfl) T.b_str bt_str rfl) (fun _ _ => .ty _)) (ma_nil)))) cs_isi) (me_and (me_cmp (op_eqY hr.units) os_eqX (me_cb (pe_callB call_len (by rfl) T.b_len bt_len (ma_cons (me_var (pv 0)) (ma_nil))) cs_len) (me_var (pv 1)) (nomark _)) (me_one (me_cb (pe_callB (cr_all rfl) (by rfl) T.b_all bt_all (ma_cons (PEi (pe_lc (own := [("sign", 2)]) rfl scN (mk_any (me_var (pv 0))) (blkOk_by (N := ["value", "length", "sign"]) (sc := defScope sis_pattern) (by decide +kernel)) (fun _ _ _ _ _ => pg_name (i := 2) scN rfl (by first | exact Or.inl rfl | exact Or.inr rfl)) (fun _ _ _ _ _ => mts_nil) (fun _ _ _ _ _ => me_cmp (op_inY hr.units) os_inY (me_var (pv 2)) (me_const (by rfl) T.cSIGNS) (by with_unfolding_all rfl))) (fun _ _ _ h => lc_readW (good_name (by decide)) (rg_name) h)) (ma_nil))) cs_all)))))
theorem kare_rows (T : Txt P K mg) : GFn P w K mg base 2 T.fare_rows.a T.fare_rows.fd ["value", "most"] gare_rows := by
  refine gfn_of (k := 1) T.fare_rows.F scare_rows fun cdv A outer s H E hr hgd => ?_
  have scN := scare_rows.nd
  have tk := takes_of (X := cxOf (CX P w) P w K mg base ["value", "most", "row"] "are_rows" (defScope sare_rows) T.fare_rows.a cdv A outer s H E) (E := E) rfl rfl rfl rfl
  exact ms_cons (ms_if (PW.pt (mw_or (mt_not (mt_val (me_call (kis_sequence T) (hr.mono (by decide)) hgd (by rfl) T.fis_sequence.mgf T.fis_sequence.F.kp T.fis_sequence.b tk (ma_cons (me_var (pv 0)) (ma_nil))))) (mw_or1 (mt_not (mt_chain op_leA os_le op_leA os_le (me_int) (me_cb (pe_callB call_len (by rfl) T.b_len bt_len (ma_cons (me_var (pv 0)) (ma_nil))) cs_len) (me_var (pv 1))))))) (ms_one (ms_ret (me_bl))) (ms_nil)) (ms_cons (ms_if (PW.pt (mw_or (mt_not (mt_val (me_cb (pe_callB call_isiA (by rfl) T.b_isinstance bt_isinstance (ma_cons (me_ix ix_seq os_item (me_var (pv 0)) (me_int) (fun _ _ => rfl)) (ma_cons (me_c (pe_bltn (v := .ty "str") (by rfl) T.b_str bt_str rfl) (fun _ _ => .ty _)) (ma_nil)))) cs_isi))) (mw_or1 (mt_not (mt_chain op_leA os_le op_leA os_le (me_int) (me_cb (pe_callB call_len (by rfl) T.b_len bt_len (ma_cons (me_ix ix_seq os_item (me_var (pv 0)) (me_int) (fun _ _ => rfl)) (ma_nil))) cs_len) (me_var (pv 1))))))) (ms_one (ms_ret (me_bl))) (ms_nil)) (ms_one (ms_ret (me_cb (pe_callB (cr_all rfl) (by rfl) T.b_all bt_all (ma_cons (PEi (pe_lc (own := [("row", 2)]) rfl scN (mk_any (me_var (pv 0))) (blkOk_by (N := ["value", "most", "row"]) (sc := defScope sare_rows) (by decide +kernel)) (fun _ _ _ _ _ => pg_name (i := 2) scN rfl (by first | exact Or.inl rfl | exact Or.inr rfl)) (fun _ _ _ _ _ => mts_nil) (fun _ _ _ _ _ => me_call (kis_pattern T) (hr.mono (by decide)) hgd (by rfl) T.fis_pattern.mgf T.fis_pattern.F.kp T.fis_pattern.b takesW0 (ma_cons (me_var (pv 2)) (ma_cons (me_cb (pe_callB call_len (by rfl) T.b_len bt_len (ma_cons (me_ix ix_seq os_item (me_var (pv 0)) (me_int) (fun _ _ => rfl)) (ma_nil))) cs_len) (ma_nil))))) (fun _ _ _ h => lc_readW (good_name (by decide)) (rg_name) h)) (ma_nil))) cs_all))))
theorem kCloth____init__ (T : Txt P K mg) {f : Addr} (O : OwnF K "__init__" "Cloth.__init__" sCloth____init__ ["self", "rows"] f) : ∃ fd, GFn P w K mg base 3 f fd ["self", "rows"] gCloth____init__ ∧ Binds K fd ["self", "rows"] [] := by
  obtain ⟨fd, F, hb⟩ := O
  refine ⟨fd, gfn_of (k := 2) F scCloth____init__ fun cdv A outer s H E hr hgd => ?_, hb⟩
  have scN := scCloth____init__.nd
  have tk := takes_of (X := cxOf (CX P w) P w K mg base ["self", "rows"] "Cloth.__init__" (defScope sCloth____init__) f cdv A outer s H E) (E := E) rfl rfl rfl rfl
  exact ms_cons (ms_if (mt_not (mt_val (me_call (kare_rows T) (hr.mono (by decide)) hgd (by rfl) T.fare_rows.mgf T.fare_rows.F.kp T.fare_rows.b tk (ma_cons (me_var (pv 1)) (ma_cons (me_ccI T.cc_Cloth_MOST (by rfl) T.gx) (ma_nil)))))) (ms_one (ms_raise rfl tk T.x_InvalidRows T.xm (hr.mono (by decide)) (by rfl) (T.gx _) (me_var (pv 1)))) (ms_nil)) (ms_one (ms_fld (allc (T.fl_Cloth_kept_rows) (all0)) (me_var (pv 0)) (me_cb (pe_callTy call_list_of (by rfl) T.b_list bt_list (ma_cons (me_var (pv 1)) (ma_nil))) cs_list)))
theorem mkCloth (T : Txt P K mg) : MakK P w K mg base "Cloth" gCloth____init__ 3 := by
  obtain ⟨C, f, h1, h2, h3⟩ := T.mk_Cloth
  obtain ⟨fd, F, hb⟩ := kCloth____init__ (w := w) (base := base) T h3
  exact ⟨C, f, fd, _, h1, T.gx _ _ h1, h2, F, hb⟩
theorem k_law_crossings (T : Txt P K mg) : GFn P w K mg base 2 T.f_law_crossings.a T.f_law_crossings.fd ["_law_box_here", "_law_rows_here"] g_law_crossings := by
  refine gfn_of (k := 1) T.f_law_crossings.F sc_law_crossings fun cdv A outer s H E hr hgd => ?_
  have scN := sc_law_crossings.nd
  have tk := takes_of (X := cxOf (CX P w) P w K mg base ["_law_box_here", "_law_rows_here", "_law_many", "_law_left", "_law_found", "_law_turn", "_law_at"] "_law_crossings" (defScope s_law_crossings) T.f_law_crossings.a cdv A outer s H E) (E := E) rfl rfl rfl rfl
  exact ms_cons (ms_set (i := 2) scN rfl (by first | exact Or.inl rfl | exact Or.inr rfl) (me_op op_mul os_mulI (me_cb (pe_callB call_len (by rfl) T.b_len bt_len (ma_cons (me_var (pv 1)) (ma_nil))) cs_len) (me_cb (pe_callB call_len (by rfl) T.b_len bt_len (ma_cons (me_ix ix_seq os_item (me_var (pv 1)) (me_int) (fun _ _ => rfl)) (ma_nil))) cs_len))) (ms_cons ((by first | exact ms_setT (ps_setLc (i := 3) (own := [("_law_at", 6)]) rfl scN rfl rfl (sw_true rfl rfl rfl (by decide +kernel)) (mi_r1 (pi_range1 (by rfl) T.b_range (ma_cons (me_var (pv 2)) (ma_nil)))) (blkOk_by (N := ["_law_box_here", "_law_rows_here", "_law_many", "_law_left", "_law_found", "_law_turn", "_law_at"]) (sc := defScope s_law_crossings) (by decide +kernel)) (fun _ _ _ _ _ => pg_name (i := 6) scN rfl (by first | exact Or.inl rfl | exact Or.inr rfl)) (fun _ _ _ _ _ => mts_nil) (fun _ _ _ _ _ => me_tup (ma_cons (me_op op_modN os_modI (me_var (pv 6)) (me_cb (pe_callB call_len (by rfl) T.b_len bt_len (ma_cons (me_ix ix_seq os_item (me_var (pv 1)) (me_int) (fun _ _ => rfl)) (ma_nil))) cs_len)) (ma_cons (me_op op_fdivN os_divI (me_var (pv 6)) (me_cb (pe_callB call_len (by rfl) T.b_len bt_len (ma_cons (me_ix ix_seq os_item (me_var (pv 1)) (me_int) (fun _ _ => rfl)) (ma_nil))) cs_len)) (ma_nil))))) (fun _ _ _ h => lc_readM (good_name (by decide)) (rg_name) h) | exact ms_set (i := 3) scN rfl (by first | exact Or.inl rfl | exact Or.inr rfl) (PEi (pe_lc (own := [("_law_at", 6)]) rfl scN (mi_r1 (pi_range1 (by rfl) T.b_range (ma_cons (me_var (pv 2)) (ma_nil)))) (blkOk_by (N := ["_law_box_here", "_law_rows_here", "_law_many", "_law_left", "_law_found", "_law_turn", "_law_at"]) (sc := defScope s_law_crossings) (by decide +kernel)) (fun _ _ _ _ _ => pg_name (i := 6) scN rfl (by first | exact Or.inl rfl | exact Or.inr rfl)) (fun _ _ _ _ _ => mts_nil) (fun _ _ _ _ _ => me_tup (ma_cons (me_op op_modN os_modI (me_var (pv 6)) (me_cb (pe_callB call_len (by rfl) T.b_len bt_len (ma_cons (me_ix ix_seq os_item (me_var (pv 1)) (me_int) (fun _ _ => rfl)) (ma_nil))) cs_len)) (ma_cons (me_op op_fdivN os_divI (me_var (pv 6)) (me_cb (pe_callB call_len (by rfl) T.b_len bt_len (ma_cons (me_ix ix_seq os_item (me_var (pv 1)) (me_int) (fun _ _ => rfl)) (ma_nil))) cs_len)) (ma_nil))))) (fun _ _ _ h => lc_readM (good_name (by decide)) (rg_name) h)))) (ms_cons (ms_set (i := 4) scN rfl (by first | exact Or.inl rfl | exact Or.inr rfl) (me_lstM (ma_nil))) (ms_cons (ms_for (passes_of rfl) rfl (mi_r1 (pi_range1 (by rfl) T.b_range (ma_cons (me_ix ix_seq os_item (me_lst (ma_cons (me_int) (ma_cons (me_int) (ma_cons (me_int) (ma_cons (me_var (pv 2)) (ma_cons (me_call (k_law_take T) (hr.mono (by decide)) hgd (by rfl) T.f_law_take.mgf T.f_law_take.F.kp T.f_law_take.b tk (ma_cons (me_var (pv 0)) (ma_cons (me_op op_addA os_add (me_var (pv 2)) (me_int)) (ma_nil)))) (ma_nil))))))) (me_call (k_law_take T) (hr.mono (by decide)) hgd (by rfl) T.f_law_take.mgf T.f_law_take.F.kp T.f_law_take.b tk (ma_cons (me_var (pv 0)) (ma_cons (me_int) (ma_nil)))) (fun _ _ => rfl)) (ma_nil)))) (mg_name (i := 5) scN rfl (by first | exact Or.inl rfl | exact Or.inr rfl)) (ms_one (ms_if (mt_cmp (op_ne0 hr.units) os_e0 (me_var (pv 3)) (me_lst (ma_nil)) (nomark _)) (ms_one (ms_expr (me_bm (pe_bm PySem.F.plainAttrs_list PySem.F.slot_list_append PySem.F.type_list_append mt_append (me_var (pv 4)) (ma_cons (me_bm (pe_bm PySem.F.plainAttrs_list PySem.F.slot_list_pop PySem.F.type_list_pop mt_popAt (me_var (pv 3)) (ma_cons (me_call (k_law_take T) (hr.mono (by decide)) hgd (by rfl) T.f_law_take.mgf T.f_law_take.F.kp T.f_law_take.b tk (ma_cons (me_var (pv 0)) (ma_cons (me_cb (pe_callB call_len (by rfl) T.b_len bt_len (ma_cons (me_var (pv 3)) (ma_nil))) cs_len) (ma_nil)))) (ma_nil))) (meth_mut ms_popAtF)) (ma_nil))) meth_append))) (ms_nil)))) (ms_one (ms_ret (me_frz (me_var (pv 4))))))))
theorem k_law_odd (T : Txt P K mg) : GFn P w K mg base 2 T.f_law_odd.a T.f_law_odd.fd ["_law_box_here"] g_law_odd := by
  refine gfn_of (k := 1) T.f_law_odd.F sc_law_odd fun cdv A outer s H E hr hgd => ?_
  have scN := sc_law_odd.nd
  have tk := takes_of (X := cxOf (CX P w) P w K mg base ["_law_box_here", "_law_some"] "_law_odd" (defScope s_law_odd) T.f_law_odd.a cdv A outer s H E) (E := E) rfl rfl rfl rfl
  exact ms_cons (ms_set (i := 1) scN rfl (by first | exact Or.inl rfl | exact Or.inr rfl) (me_lst (ma_cons (me_non) (ma_cons (me_bl) (ma_cons (me_bl) (ma_cons (me_un un_neg us_neg (me_int)) (ma_cons (me_int) (ma_cons (me_int) (ma_cons (me_int) (ma_cons (me_op op_pow os_powI (me_int) (me_int)) (ma_cons (me_str) (ma_cons (me_str) (ma_cons (me_str) (ma_cons (me_str) (ma_cons (me_lstM (ma_nil)) (ma_cons (me_tup (ma_nil)) (ma_cons (me_dictM0) (ma_cons (me_dictM1 (me_int)) (ma_cons (me_lstM (ma_cons (me_non) (ma_nil))) (ma_cons (me_tup (ma_cons (me_int) (ma_nil))) (ma_nil))))))))))))))))))))) (ms_cons (ms_set (i := 1) scN rfl (by first | exact Or.inl rfl | exact Or.inr rfl) (me_op op_addA os_add (me_var (pv 1)) (me_lst (ma_cons (me_lstM (ma_cons (me_str) (ma_cons (me_int) (ma_nil)))) (ma_cons (me_tup (ma_cons (me_str) (ma_nil))) (ma_cons (me_tup (ma_cons (me_str) (ma_cons (me_bl) (ma_nil)))) (ma_cons (me_tup (ma_cons (me_str) (ma_cons (me_un un_neg us_neg (me_int)) (ma_nil)))) (ma_cons (me_tup (ma_cons (me_str) (ma_cons (me_str) (ma_nil)))) (ma_cons (me_tup (ma_cons (me_str) (ma_cons (me_int) (ma_cons (me_int) (ma_nil))))) (ma_cons (me_tup (ma_cons (me_str) (ma_cons (me_int) (ma_nil)))) (ma_nil))))))))))) (ms_cons (ms_set (i := 1) scN rfl (by first | exact Or.inl rfl | exact Or.inr rfl) (me_op op_addA os_add (me_var (pv 1)) (me_lst (ma_cons (me_tup (ma_cons (me_int) (ma_cons (me_int) (ma_nil)))) (ma_cons (me_tup (ma_cons (me_bl) (ma_cons (me_int) (ma_nil)))) (ma_cons (me_lstM (ma_cons (me_int) (ma_cons (me_int) (ma_nil)))) (ma_cons (me_tup (ma_cons (me_int) (ma_cons (me_int) (ma_cons (me_int) (ma_nil))))) (ma_cons (me_tup (ma_cons (me_str) (ma_cons (me_int) (ma_nil)))) (ma_cons (me_lstM (ma_cons (me_lstM (ma_cons (me_str) (ma_cons (me_int) (ma_nil)))) (ma_nil))) (ma_cons (me_lstM (ma_cons (me_tup (ma_cons (me_int) (ma_cons (me_int) (ma_nil)))) (ma_nil))) (ma_cons (me_tup (ma_cons (me_int) (ma_cons (me_un un_neg us_neg (me_int)) (ma_nil)))) (ma_cons (me_tup (ma_cons (me_str) (ma_cons (me_int) (ma_nil)))) (ma_nil))))))))))))) (ms_cons (ms_set (i := 1) scN rfl (by first | exact Or.inl rfl | exact Or.inr rfl) (me_op op_addA os_add (me_var (pv 1)) (me_lst (ma_cons (me_tup (ma_cons (me_str) (ma_cons (me_bl) (ma_nil)))) (ma_cons (me_tup (ma_cons (me_str) (ma_cons (me_un un_neg us_neg (me_int)) (ma_nil)))) (ma_cons (me_tup (ma_cons (me_str) (ma_cons (me_str) (ma_nil)))) (ma_cons (me_tup (ma_cons (me_un un_neg us_neg (me_int)) (ma_cons (me_int) (ma_nil)))) (ma_cons (me_tup (ma_cons (me_int) (ma_cons (me_bl) (ma_nil)))) (ma_cons (me_tup (ma_cons (me_int) (ma_cons (me_str) (ma_nil)))) (ma_cons (me_tup (ma_cons (me_int) (ma_cons (me_op op_pow os_powI (me_int) (me_int)) (ma_nil)))) (ma_nil))))))))))) (ms_cons (ms_set (i := 1) scN rfl (by first | exact Or.inl rfl | exact Or.inr rfl) (me_op op_addA os_add (me_var (pv 1)) (me_lst (ma_cons (me_tup (ma_cons (me_lstM (ma_cons (me_str) (ma_nil))) (ma_cons (me_int) (ma_nil)))) (ma_cons (me_tup (ma_cons (me_dict0) (ma_cons (me_int) (ma_nil)))) (ma_cons (me_tup (ma_cons (me_tup (ma_cons (me_str) (ma_nil))) (ma_cons (me_int) (ma_nil)))) (ma_cons (me_tup (ma_cons (me_str) (ma_cons (me_lst (ma_nil)) (ma_nil)))) (ma_cons (me_str) (ma_cons (me_str) (ma_cons (me_lstM (ma_cons (me_str) (ma_nil))) (ma_nil))))))))))) (ms_one (ms_ret (me_ix ix_seq os_item (me_var (pv 1)) (me_call (k_law_take T) (hr.mono (by decide)) hgd (by rfl) T.f_law_take.mgf T.f_law_take.F.kp T.f_law_take.b tk (ma_cons (me_var (pv 0)) (ma_cons (me_cb (pe_callB call_len (by rfl) T.b_len bt_len (ma_cons (me_var (pv 1)) (ma_nil))) cs_len) (ma_nil)))) (fun _ _ => rfl))))))))
theorem k_law_spoilt (T : Txt P K mg) : GFn P w K mg base 3 T.f_law_spoilt.a T.f_law_spoilt.fd ["_law_box_here", "_law_rows_here", "_law_crossings_here"] g_law_spoilt := by
  refine gfn_of (k := 2) T.f_law_spoilt.F sc_law_spoilt fun cdv A outer s H E hr hgd => ?_
  have scN := sc_law_spoilt.nd
  have tk := takes_of (X := cxOf (CX P w) P w K mg base ["_law_box_here", "_law_rows_here", "_law_crossings_here", "_law_some", "_law_found", "_law_turn"] "_law_spoilt" (defScope s_law_spoilt) T.f_law_spoilt.a cdv A outer s H E) (E := E) rfl rfl rfl rfl
  exact ms_cons (ms_set (i := 3) scN rfl (by first | exact Or.inl rfl | exact Or.inr rfl) (me_lst (ma_cons (me_call (k_law_odd T) (hr.mono (by decide)) hgd (by rfl) T.f_law_odd.mgf T.f_law_odd.F.kp T.f_law_odd.b tk (ma_cons (me_var (pv 0)) (ma_nil))) (ma_cons (me_tup (ma_cons (me_cb (pe_callB call_len (by rfl) T.b_len bt_len (ma_cons (me_ix ix_seq os_item (me_var (pv 1)) (me_int) (fun _ _ => rfl)) (ma_nil))) cs_len) (ma_cons (me_int) (ma_nil)))) (ma_cons (me_tup (ma_cons (me_int) (ma_cons (me_cb (pe_callB call_len (by rfl) T.b_len bt_len (ma_cons (me_var (pv 1)) (ma_nil))) cs_len) (ma_nil)))) (ma_cons (me_tup (ma_cons (me_bl) (ma_cons (me_int) (ma_nil)))) (ma_cons (me_tup (ma_cons (me_int) (ma_cons (me_bl) (ma_nil)))) (ma_cons (me_lstM (ma_cons (me_int) (ma_cons (me_int) (ma_nil)))) (ma_cons (me_tup (ma_cons (me_str) (ma_cons (me_int) (ma_nil)))) (ma_cons (me_tup (ma_cons (me_int) (ma_cons (me_int) (ma_nil)))) (ma_nil))))))))))) (ms_cons (ms_if (mt_cmp (op_ne0 hr.units) os_e0 (me_var (pv 2)) (me_lst (ma_nil)) (nomark _)) (ms_one (ms_set (i := 3) scN rfl (by first | exact Or.inl rfl | exact Or.inr rfl) (me_op op_addA os_add (me_var (pv 3)) (me_op op_mulXX os_mulX (me_lst (ma_cons (me_ix ix_seq os_item (me_var (pv 2)) (me_call (k_law_take T) (hr.mono (by decide)) hgd (by rfl) T.f_law_take.mgf T.f_law_take.F.kp T.f_law_take.b tk (ma_cons (me_var (pv 0)) (ma_cons (me_cb (pe_callB call_len (by rfl) T.b_len bt_len (ma_cons (me_var (pv 2)) (ma_nil))) cs_len) (ma_nil)))) (fun _ _ => rfl)) (ma_nil))) (me_int))))) (ms_nil)) (ms_cons (ms_set (i := 4) scN rfl (by first | exact Or.inl rfl | exact Or.inr rfl) (me_cb (pe_callTy call_list_of (by rfl) T.b_list bt_list (ma_cons (me_var (pv 2)) (ma_nil))) cs_listM)) (ms_cons (ms_for (passes_of rfl) rfl (mi_r1 (pi_range1 (by rfl) T.b_range (ma_cons (me_op op_addA os_add (me_int) (me_call (k_law_take T) (hr.mono (by decide)) hgd (by rfl) T.f_law_take.mgf T.f_law_take.F.kp T.f_law_take.b tk (ma_cons (me_var (pv 0)) (ma_cons (me_int) (ma_nil))))) (ma_nil)))) (mg_name (i := 5) scN rfl (by first | exact Or.inl rfl | exact Or.inr rfl)) (ms_one (ms_expr (me_bm (pe_bm PySem.F.plainAttrs_list PySem.F.slot_list_insert PySem.F.type_list_insert mt_insert (me_var (pv 4)) (ma_cons (me_call (k_law_take T) (hr.mono (by decide)) hgd (by rfl) T.f_law_take.mgf T.f_law_take.F.kp T.f_law_take.b tk (ma_cons (me_var (pv 0)) (ma_cons (me_op op_addA os_add (me_cb (pe_callB call_len (by rfl) T.b_len bt_len (ma_cons (me_var (pv 4)) (ma_nil))) cs_len) (me_int)) (ma_nil)))) (ma_cons (me_ix ix_seq os_item (me_var (pv 3)) (me_call (k_law_take T) (hr.mono (by decide)) hgd (by rfl) T.f_law_take.mgf T.f_law_take.F.kp T.f_law_take.b tk (ma_cons (me_var (pv 0)) (ma_cons (me_cb (pe_callB call_len (by rfl) T.b_len bt_len (ma_cons (me_var (pv 3)) (ma_nil))) cs_len) (ma_nil)))) (fun _ _ => rfl)) (ma_nil)))) (meth_mut ms_insF))))) (ms_one (ms_ret (me_var (pv 4)))))))
theorem k_law_turned (T : Txt P K mg) : GFn P w K mg base 1 T.f_law_turned.a T.f_law_turned.fd ["_law_rows_here", "_law_crossings_here"] g_law_turned := by
  refine gfn_of (k := 0) T.f_law_turned.F sc_law_turned fun cdv A outer s H E hr hgd => ?_
  have scN := sc_law_turned.nd
  have tk := takes_of (X := cxOf (CX P w) P w K mg base ["_law_rows_here", "_law_crossings_here", "_law_found", "_law_j", "_law_row", "_law_signs", "_law_i", "_law_sign"] "_law_turned" (defScope s_law_turned) T.f_law_turned.a cdv A outer s H E) (E := E) rfl rfl rfl rfl
  exact ms_cons (ms_set (i := 2) scN rfl (by first | exact Or.inl rfl | exact Or.inr rfl) (me_lstM (ma_nil))) (ms_cons (ms_forW (passes_of rfl) rfl (mk_enum (pi_enumG (by rfl) T.b_enumerate (ma_cons (me_var (pv 0)) (ma_nil)))) (mg_tup rfl (mgs_cons (i := 3) scN rfl (by first | exact Or.inl rfl | exact Or.inr rfl) (mgs_cons (i := 4) scN rfl (by first | exact Or.inl rfl | exact Or.inr rfl) (mgs_nil)))) (ms_cons ((by first | exact ms_setT (ps_setLc (i := 5) (own := [("_law_i", 6), ("_law_sign", 7)]) rfl scN rfl rfl (sw_true rfl rfl rfl (by decide +kernel)) (mk_enum (pi_enumG (by rfl) T.b_enumerate (ma_cons (me_var (pv 4)) (ma_nil)))) (blkOk_by (N := ["_law_rows_here", "_law_crossings_here", "_law_found", "_law_j", "_law_row", "_law_signs", "_law_i", "_law_sign"]) (sc := defScope s_law_turned) (by decide +kernel)) (fun _ _ _ _ _ => pg_tup rfl (pgs_cons (pg_name (i := 6) scN rfl (by first | exact Or.inl rfl | exact Or.inr rfl)) (pgs_cons (pg_name (i := 7) scN rfl (by first | exact Or.inl rfl | exact Or.inr rfl)) pgs_nil))) (fun _ _ _ _ _ => mts_nil) (fun _ _ _ _ _ => me_if (mt_cmp (op_inY hr.units) os_inY (me_tup (ma_cons (me_var (pv 6)) (ma_cons (me_var (pv 3)) (ma_nil)))) (me_var (pv 1)) (by with_unfolding_all rfl)) (me_ix ix_seq os_item (me_str) (me_cb (pe_callTy call_intF (by rfl) T.b_int bt_int (ma_cons (me_var (pv 7)) (ma_nil))) cs_intF) (fun _ _ => rfl)) (me_var (pv 7)))) (fun _ _ _ h => lc_readW (good_names (by decide) (by decide)) (rg_names) h) | exact ms_set (i := 5) scN rfl (by first | exact Or.inl rfl | exact Or.inr rfl) (PEi (pe_lc (own := [("_law_i", 6), ("_law_sign", 7)]) rfl scN (mk_enum (pi_enumG (by rfl) T.b_enumerate (ma_cons (me_var (pv 4)) (ma_nil)))) (blkOk_by (N := ["_law_rows_here", "_law_crossings_here", "_law_found", "_law_j", "_law_row", "_law_signs", "_law_i", "_law_sign"]) (sc := defScope s_law_turned) (by decide +kernel)) (fun _ _ _ _ _ => pg_tup rfl (pgs_cons (pg_name (i := 6) scN rfl (by first | exact Or.inl rfl | exact Or.inr rfl)) (pgs_cons (pg_name (i := 7) scN rfl (by first | exact Or.inl rfl | exact Or.inr rfl)) pgs_nil))) (fun _ _ _ _ _ => mts_nil) (fun _ _ _ _ _ => me_if (mt_cmp (op_inY hr.units) os_inY (me_tup (ma_cons (me_var (pv 6)) (ma_cons (me_var (pv 3)) (ma_nil)))) (me_var (pv 1)) (by with_unfolding_all rfl)) (me_ix ix_seq os_item (me_str) (me_cb (pe_callTy call_intF (by rfl) T.b_int bt_int (ma_cons (me_var (pv 7)) (ma_nil))) cs_intF) (fun _ _ => rfl)) (me_var (pv 7)))) (fun _ _ _ h => lc_readW (good_names (by decide) (by decide)) (rg_names) h)))) (ms_one (ms_expr (me_bm (pe_bm PySem.F.plainAttrs_list PySem.F.slot_list_append PySem.F.type_list_append mt_append (me_var (pv 2)) (ma_cons (me_m1 (pe_join (me_str) (me_var (pv 5))) m1_joinX) (ma_nil))) meth_append))))) (ms_one (ms_ret (me_frz (me_var (pv 2))))))
theorem k_law_due (T : Txt P K mg) : GFn P w K mg base 2 T.f_law_due.a T.f_law_due.fd ["_law_rows_here", "_law_value"] g_law_due := by
  refine gfn_of (k := 1) T.f_law_due.F sc_law_due fun cdv A outer s H E hr hgd => ?_
  have scN := sc_law_due.nd
  have tk := takes_of (X := cxOf (CX P w) P w K mg base ["_law_rows_here", "_law_value", "_law_pairs", "_law_seen", "_law_item", "_law_at"] "_law_due" (defScope s_law_due) T.f_law_due.a cdv A outer s H E) (E := E) rfl rfl rfl rfl
  exact ms_cons (ms_if (PW.pt (mw_or (mt_not (mt_val (me_cb (pe_callB call_isiA (by rfl) T.b_isinstance bt_isinstance (ma_cons (me_var (pv 1)) (ma_cons (me_tup (ma_cons (me_c (pe_bltn (v := .ty "list") (by rfl) T.b_list bt_list rfl) (fun _ _ => .ty _)) (ma_cons (me_c (pe_bltn (v := .ty "tuple") (by rfl) T.b_tuple bt_tuple rfl) (fun _ _ => .ty _)) (ma_nil)))) (ma_nil)))) cs_isi))) (mw_or1 (mt_cmp op_gt os_cmpI (me_cb (pe_callB call_len (by rfl) T.b_len bt_len (ma_cons (me_var (pv 1)) (ma_nil))) cs_len) (me_int) (nomark _))))) (ms_one (ms_ret (me_lst (ma_cons (me_str) (ma_cons (me_var (pv 1)) (ma_nil)))))) (ms_nil)) (ms_cons ((by first | exact ms_setT (ps_setLc (i := 2) (own := [("_law_at", 5)]) rfl scN rfl rfl (sw_true rfl rfl rfl (by decide +kernel)) (mi_r1 (pi_range1 (by rfl) T.b_range (ma_cons (me_op op_mul os_mulI (me_cb (pe_callB call_len (by rfl) T.b_len bt_len (ma_cons (me_var (pv 0)) (ma_nil))) cs_len) (me_cb (pe_callB call_len (by rfl) T.b_len bt_len (ma_cons (me_ix ix_seq os_item (me_var (pv 0)) (me_int) (fun _ _ => rfl)) (ma_nil))) cs_len)) (ma_nil)))) (blkOk_by (N := ["_law_rows_here", "_law_value", "_law_pairs", "_law_seen", "_law_item", "_law_at"]) (sc := defScope s_law_due) (by decide +kernel)) (fun _ _ _ _ _ => pg_name (i := 5) scN rfl (by first | exact Or.inl rfl | exact Or.inr rfl)) (fun _ _ _ _ _ => mts_nil) (fun _ _ _ _ _ => me_cb (pe_callB (call_reprX hgd (u100 hr)) (by rfl) T.b_repr bt_repr (ma_cons (me_tup (ma_cons (me_op op_modN os_modI (me_var (pv 5)) (me_cb (pe_callB call_len (by rfl) T.b_len bt_len (ma_cons (me_ix ix_seq os_item (me_var (pv 0)) (me_int) (fun _ _ => rfl)) (ma_nil))) cs_len)) (ma_cons (me_op op_fdivN os_divI (me_var (pv 5)) (me_cb (pe_callB call_len (by rfl) T.b_len bt_len (ma_cons (me_ix ix_seq os_item (me_var (pv 0)) (me_int) (fun _ _ => rfl)) (ma_nil))) cs_len)) (ma_nil)))) (ma_nil))) cs_reprX)) (fun _ _ _ h => lc_read (good_name (by decide)) (rg_name) h) | exact ms_set (i := 2) scN rfl (by first | exact Or.inl rfl | exact Or.inr rfl) (PEi (pe_lc (own := [("_law_at", 5)]) rfl scN (mi_r1 (pi_range1 (by rfl) T.b_range (ma_cons (me_op op_mul os_mulI (me_cb (pe_callB call_len (by rfl) T.b_len bt_len (ma_cons (me_var (pv 0)) (ma_nil))) cs_len) (me_cb (pe_callB call_len (by rfl) T.b_len bt_len (ma_cons (me_ix ix_seq os_item (me_var (pv 0)) (me_int) (fun _ _ => rfl)) (ma_nil))) cs_len)) (ma_nil)))) (blkOk_by (N := ["_law_rows_here", "_law_value", "_law_pairs", "_law_seen", "_law_item", "_law_at"]) (sc := defScope s_law_due) (by decide +kernel)) (fun _ _ _ _ _ => pg_name (i := 5) scN rfl (by first | exact Or.inl rfl | exact Or.inr rfl)) (fun _ _ _ _ _ => mts_nil) (fun _ _ _ _ _ => me_cb (pe_callB (call_reprX hgd (u100 hr)) (by rfl) T.b_repr bt_repr (ma_cons (me_tup (ma_cons (me_op op_modN os_modI (me_var (pv 5)) (me_cb (pe_callB call_len (by rfl) T.b_len bt_len (ma_cons (me_ix ix_seq os_item (me_var (pv 0)) (me_int) (fun _ _ => rfl)) (ma_nil))) cs_len)) (ma_cons (me_op op_fdivN os_divI (me_var (pv 5)) (me_cb (pe_callB call_len (by rfl) T.b_len bt_len (ma_cons (me_ix ix_seq os_item (me_var (pv 0)) (me_int) (fun _ _ => rfl)) (ma_nil))) cs_len)) (ma_nil)))) (ma_nil))) cs_reprX)) (fun _ _ _ h => lc_read (good_name (by decide)) (rg_name) h)))) (ms_cons (ms_set (i := 3) scN rfl (by first | exact Or.inl rfl | exact Or.inr rfl) (me_lstM (ma_nil))) (ms_cons (ms_forW (passes_of rfl) rfl (mk_any (me_var (pv 1))) (mg_name (i := 4) scN rfl (by first | exact Or.inl rfl | exact Or.inr rfl)) (ms_cons (ms_if (PW.pt (mw_or (mt_not (mt_val (me_cb (pe_callB call_isiA (by rfl) T.b_isinstance bt_isinstance (ma_cons (me_var (pv 4)) (ma_cons (me_c (pe_bltn (v := .ty "tuple") (by rfl) T.b_tuple bt_tuple rfl) (fun _ _ => .ty _)) (ma_nil)))) cs_isi))) (mw_or1 (mt_cmp (op_notinY hr.units) os_inY (me_cb (pe_callB (call_reprX hgd (u100 hr)) (by rfl) T.b_repr bt_repr (ma_cons (me_var (pv 4)) (ma_nil))) cs_reprX) (me_var (pv 2)) (by with_unfolding_all rfl))))) (ms_one (ms_ret (me_lst (ma_cons (me_str) (ma_cons (me_var (pv 4)) (ma_nil)))))) (ms_nil)) (ms_cons (ms_if (mt_cmp (op_inY hr.units) os_inY (me_var (pv 4)) (me_var (pv 3)) (by with_unfolding_all rfl)) (ms_one (ms_ret (me_lst (ma_cons (me_str) (ma_cons (me_var (pv 4)) (ma_nil)))))) (ms_nil)) (ms_one (ms_expr (me_bm (pe_bm PySem.F.plainAttrs_list PySem.F.slot_list_append PySem.F.type_list_append mt_append (me_var (pv 3)) (ma_cons (me_var (pv 4)) (ma_nil))) meth_append)))))) (ms_one (ms_ret (me_lst (ma_cons (me_str) (ma_cons (me_call (k_law_turned T) (hr.mono (by decide)) hgd (by rfl) T.f_law_turned.mgf T.f_law_turned.F.kp T.f_law_turned.b tk (ma_cons (me_var (pv 0)) (ma_cons (me_var (pv 3)) (ma_nil)))) (ma_nil)))))))))
theorem kneed_items (T : Txt P K mg) : GFn P w K mg base 2 T.fneed_items.a T.fneed_items.fd ["items", "most"] gneed_items := by
  refine gfn_of (k := 1) T.fneed_items.F scneed_items fun cdv A outer s H E hr hgd => ?_
  have scN := scneed_items.nd
  have tk := takes_of (X := cxOf (CX P w) P w K mg base ["items", "most"] "need_items" (defScope sneed_items) T.fneed_items.a cdv A outer s H E) (E := E) rfl rfl rfl rfl
  exact ms_one (ms_if (PW.pt (mw_or (mt_not (mt_val (me_call (kis_sequence T) (hr.mono (by decide)) hgd (by rfl) T.fis_sequence.mgf T.fis_sequence.F.kp T.fis_sequence.b tk (ma_cons (me_var (pv 0)) (ma_nil))))) (mw_or1 (mt_cmp op_gt os_cmpI (me_cb (pe_callB call_len (by rfl) T.b_len bt_len (ma_cons (me_var (pv 0)) (ma_nil))) cs_len) (me_var (pv 1)) (nomark _))))) (ms_one (ms_raise rfl tk T.x_InvalidList T.xm (hr.mono (by decide)) (by rfl) (T.gx _) (me_var (pv 0)))) (ms_nil))
theorem kis_integer (T : Txt P K mg) : GFn P w K mg base 1 T.fis_integer.a T.fis_integer.fd ["value", "low", "high"] gis_integer := by
  refine gfn_of (k := 0) T.fis_integer.F scis_integer fun cdv A outer s H E hr hgd => ?_
  have scN := scis_integer.nd
  have tk := takes_of (X := cxOf (CX P w) P w K mg base ["value", "low", "high"] "is_integer" (defScope sis_integer) T.fis_integer.a cdv A outer s H E) (E := E) rfl rfl rfl rfl
  exact ms_one (ms_ret (me_and (me_cb (pe_callB call_isiA (by rfl) T.b_isinstance bt_isinstance (ma_cons (me_var (pv 0)) (ma_cons (me_c (pe_bltn (v := .ty "int") (by rfl) T.b_int bt_int rfl) (fun _ _ => .ty _)) (ma_nil)))) cs_isi) (me_and (me_not (me_cb (pe_callB call_isiA (by rfl) T.b_isinstance bt_isinstance (ma_cons (me_var (pv 0)) (ma_cons (me_c (pe_bltn (v := .ty "bool") (by rfl) T.b_bool bt_bool rfl) (fun _ _ => .ty _)) (ma_nil)))) cs_isi)) (me_one (me_chain op_leA os_le op_leA os_le (me_var (pv 1)) (me_var (pv 0)) (me_var (pv 2)))))))
theorem kis_crossing (T : Txt P K mg) : GFn P w K mg base 2 T.fis_crossing.a T.fis_crossing.fd ["value", "warps", "wefts"] gis_crossing := by
  refine gfn_of (k := 1) T.fis_crossing.F scis_crossing fun cdv A outer s H E hr hgd => ?_
  have scN := scis_crossing.nd
  have tk := takes_of (X := cxOf (CX P w) P w K mg base ["value", "warps", "wefts"] "is_crossing" (defScope sis_crossing) T.fis_crossing.a cdv A outer s H E) (E := E) rfl rfl rfl rfl
  exact ms_cons (ms_if (PW.pt (mw_or (mt_not (mt_val (me_cb (pe_callB call_isiA (by rfl) T.b_isinstance bt_isinstance (ma_cons (me_var (pv 0)) (ma_cons (me_c (pe_bltn (v := .ty "tuple") (by rfl) T.b_tuple bt_tuple rfl) (fun _ _ => .ty _)) (ma_nil)))) cs_isi))) (mw_or1 (mt_cmp (op_neY hr.units) os_neX (me_cb (pe_callB call_len (by rfl) T.b_len bt_len (ma_cons (me_var (pv 0)) (ma_nil))) cs_len) (me_int) (nomark _))))) (ms_one (ms_ret (me_bl))) (ms_nil)) (ms_one (ms_ret (me_and (me_call (kis_integer T) (hr.mono (by decide)) hgd (by rfl) T.fis_integer.mgf T.fis_integer.F.kp T.fis_integer.b tk (ma_cons (me_ix ix_seq os_item (me_var (pv 0)) (me_int) (fun _ _ => rfl)) (ma_cons (me_int) (ma_cons (me_op op_sub os_sub (me_var (pv 1)) (me_int)) (ma_nil))))) (me_one (me_call (kis_integer T) (hr.mono (by decide)) hgd (by rfl) T.fis_integer.mgf T.fis_integer.F.kp T.fis_integer.b tk (ma_cons (me_ix ix_seq os_item (me_var (pv 0)) (me_int) (fun _ _ => rfl)) (ma_cons (me_int) (ma_cons (me_op op_sub os_sub (me_var (pv 2)) (me_int)) (ma_nil)))))))))
theorem kCloth__weft_count (T : Txt P K mg) {f : Addr} (O : OwnF K "weft_count" "Cloth.weft_count" sCloth__weft_count ["self"] f) : ∃ fd, GFn P w K mg base 1 f fd ["self"] gCloth__weft_count ∧ Binds K fd ["self"] [] := by
  obtain ⟨fd, F, hb⟩ := O
  refine ⟨fd, gfn_of (k := 0) F scCloth__weft_count fun cdv A outer s H E hr hgd => ?_, hb⟩
  have scN := scCloth__weft_count.nd
  have tk := takes_of (X := cxOf (CX P w) P w K mg base ["self"] "Cloth.weft_count" (defScope sCloth__weft_count) f cdv A outer s H E) (E := E) rfl rfl rfl rfl
  exact ms_one (ms_ret (me_cb (pe_callB call_len (by rfl) T.b_len bt_len (ma_cons (me_fld (allc (T.fl_Cloth_kept_rows) (all0)) (me_var (pv 0))) (ma_nil))) cs_len))
theorem pCloth__weft_count (T : Txt P K mg) {k : Nat} (hk : 1 ≤ k := by decide) : PrpK P w K mg base "Cloth" "weft_count" gCloth__weft_count k := by
  obtain ⟨C, p, f, h1, h2, h3, h4⟩ := T.pr_Cloth_weft_count
  obtain ⟨fd, F, hb⟩ := kCloth__weft_count (w := w) (base := base) T h4
  exact ⟨C, p, f, fd, _, h1, h2, h3, F.mono hk, hb⟩
theorem kCloth__warp_count (T : Txt P K mg) {f : Addr} (O : OwnF K "warp_count" "Cloth.warp_count" sCloth__warp_count ["self"] f) : ∃ fd, GFn P w K mg base 1 f fd ["self"] gCloth__warp_count ∧ Binds K fd ["self"] [] := by
  obtain ⟨fd, F, hb⟩ := O
  refine ⟨fd, gfn_of (k := 0) F scCloth__warp_count fun cdv A outer s H E hr hgd => ?_, hb⟩
  have scN := scCloth__warp_count.nd
  have tk := takes_of (X := cxOf (CX P w) P w K mg base ["self"] "Cloth.warp_count" (defScope sCloth__warp_count) f cdv A outer s H E) (E := E) rfl rfl rfl rfl
  exact ms_one (ms_ret (me_cb (pe_callB call_len (by rfl) T.b_len bt_len (ma_cons (me_ix ix_seq os_item (me_fld (allc (T.fl_Cloth_kept_rows) (all0)) (me_var (pv 0))) (me_int) (fun _ _ => rfl)) (ma_nil))) cs_len))
theorem pCloth__warp_count (T : Txt P K mg) {k : Nat} (hk : 1 ≤ k := by decide) : PrpK P w K mg base "Cloth" "warp_count" gCloth__warp_count k := by
  obtain ⟨C, p, f, h1, h2, h3, h4⟩ := T.pr_Cloth_warp_count
  obtain ⟨fd, F, hb⟩ := kCloth__warp_count (w := w) (base := base) T h4
  exact ⟨C, p, f, fd, _, h1, h2, h3, F.mono hk, hb⟩
theorem kexchanged (T : Txt P K mg) : GFn P w K mg base 1 T.fexchanged.a T.fexchanged.fd ["row"] gexchanged := by
  refine gfn_of (k := 0) T.fexchanged.F scexchanged fun cdv A outer s H E hr hgd => ?_
  have scN := scexchanged.nd
  have tk := takes_of (X := cxOf (CX P w) P w K mg base ["row"] "exchanged" (defScope sexchanged) T.fexchanged.a cdv A outer s H E) (E := E) rfl rfl rfl rfl
  exact ms_one (ms_ret (me_exch rfl (pe_bltn (v := .ty "str") (by rfl) T.b_str bt_str rfl) (me_var (pv 0))))
theorem kCloth__turned (T : Txt P K mg) {f : Addr} (O : OwnF K "turned" "Cloth.turned" sCloth__turned ["self", "crossings"] f) : ∃ fd, GFn P w K mg base 5 f fd ["self", "crossings"] gCloth__turned ∧ Binds K fd ["self", "crossings"] [] := by
  obtain ⟨fd, F, hb⟩ := O
  refine ⟨fd, gfn_of (k := 4) F scCloth__turned fun cdv A outer s H E hr hgd => ?_, hb⟩
  have scN := scCloth__turned.nd
  have tk := takes_of (X := cxOf (CX P w) P w K mg base ["self", "crossings", "rows", "index", "crossing", "warp", "weft", "row"] "Cloth.turned" (defScope sCloth__turned) f cdv A outer s H E) (E := E) rfl rfl rfl rfl
  exact ms_cons (ms_expr (me_call (kneed_items T) (hr.mono (by decide)) hgd (by rfl) T.fneed_items.mgf T.fneed_items.F.kp T.fneed_items.b tk (ma_cons (me_var (pv 1)) (ma_cons (me_op op_mul os_mulI (me_ccI T.cc_Cloth_MOST (by rfl) T.gx) (me_ccI T.cc_Cloth_MOST (by rfl) T.gx)) (ma_nil))))) (ms_cons (ms_forW (passes_of rfl) rfl (mk_enum (pi_enumG (by rfl) T.b_enumerate (ma_cons (me_var (pv 1)) (ma_nil)))) (mg_tup rfl (mgs_cons (i := 3) scN rfl (by first | exact Or.inl rfl | exact Or.inr rfl) (mgs_cons (i := 4) scN rfl (by first | exact Or.inl rfl | exact Or.inr rfl) (mgs_nil)))) (ms_cons (ms_if (mt_not (mt_val (me_call (kis_crossing T) (hr.mono (by decide)) hgd (by rfl) T.fis_crossing.mgf T.fis_crossing.F.kp T.fis_crossing.b tk (ma_cons (me_var (pv 4)) (ma_cons ((me_prop (tbl := [("Cloth", gCloth__warp_count)]) (k := 1) (allc (pCloth__warp_count T) (all0)) (hr.mono (by decide)) hgd (me_var (pv 0)))) (ma_cons ((me_prop (tbl := [("Cloth", gCloth__weft_count)]) (k := 1) (allc (pCloth__weft_count T) (all0)) (hr.mono (by decide)) hgd (me_var (pv 0)))) (ma_nil))))))) (ms_one (ms_raise rfl tk T.x_InvalidCrossing T.xm (hr.mono (by decide)) (by rfl) (T.gx _) (me_var (pv 4)))) (ms_nil)) (ms_one (ms_if (mt_cmp (op_inY hr.units) os_inY (me_var (pv 4)) (me_sliceY (me_var (pv 1)) (mo_none) (mo_some (me_var (pv 3)))) (by with_unfolding_all rfl)) (ms_one (ms_raise rfl tk T.x_Duplicate T.xm (hr.mono (by decide)) (by rfl) (T.gx _) (me_var (pv 4)))) (ms_nil))))) (ms_cons ((by first | exact ms_setT (ps_setLc (i := 2) (own := [("row", 7)]) rfl scN rfl rfl (sw_true rfl rfl rfl (by decide +kernel)) (mk_any (me_fld (allc (T.fl_Cloth_kept_rows) (all0)) (me_var (pv 0)))) (blkOk_by (N := ["self", "crossings", "rows", "index", "crossing", "warp", "weft", "row"]) (sc := defScope sCloth__turned) (by decide +kernel)) (fun _ _ _ _ _ => pg_name (i := 7) scN rfl (by first | exact Or.inl rfl | exact Or.inr rfl)) (fun _ _ _ _ _ => mts_nil) (fun _ _ _ _ _ => me_cb (pe_callTy (CallR.or call_list_of (call_listS rfl)) (by rfl) T.b_list bt_list (ma_cons (me_var (pv 7)) (ma_nil))) (cs_listA (cell := true)))) (fun _ _ _ h => lc_readW (good_name (by decide)) (rg_name) h) | exact ms_set (i := 2) scN rfl (by first | exact Or.inl rfl | exact Or.inr rfl) (PEi (pe_lc (own := [("row", 7)]) rfl scN (mk_any (me_fld (allc (T.fl_Cloth_kept_rows) (all0)) (me_var (pv 0)))) (blkOk_by (N := ["self", "crossings", "rows", "index", "crossing", "warp", "weft", "row"]) (sc := defScope sCloth__turned) (by decide +kernel)) (fun _ _ _ _ _ => pg_name (i := 7) scN rfl (by first | exact Or.inl rfl | exact Or.inr rfl)) (fun _ _ _ _ _ => mts_nil) (fun _ _ _ _ _ => me_cb (pe_callTy (CallR.or call_list_of (call_listS rfl)) (by rfl) T.b_list bt_list (ma_cons (me_var (pv 7)) (ma_nil))) (cs_listA (cell := true)))) (fun _ _ _ h => lc_readW (good_name (by decide)) (rg_name) h)))) (ms_cons (ms_forW (passes_of rfl) rfl (mk_any (me_var (pv 1))) (mg_tup rfl (mgs_cons (i := 5) scN rfl (by first | exact Or.inl rfl | exact Or.inr rfl) (mgs_cons (i := 6) scN rfl (by first | exact Or.inl rfl | exact Or.inr rfl) (mgs_nil)))) (ms_one (ms_asg (me_call (kexchanged T) (hr.mono (by decide)) hgd (by rfl) T.fexchanged.mgf T.fexchanged.F.kp T.fexchanged.b tk (ma_cons (me_ix ix_seq os_item (me_ix ix_seq os_item (me_var (pv 2)) (me_var (pv 6)) (fun _ _ => rfl)) (me_var (pv 5)) (fun _ _ => rfl)) (ma_nil))) (mg_sub (pg_sub (me_ix ix_seq os_item (me_var (pv 2)) (me_var (pv 6)) (fun _ _ => rfl)) (me_var (pv 5)) set_list))))) (ms_one (ms_ret (me_frzI ((me_make (mkCloth T) (hr.mono (by decide)) hgd (by rfl) tk (ma_cons (PEi (pe_lc (own := [("row", 7)]) rfl scN (mk_any (me_var (pv 2))) (blkOk_by (N := ["self", "crossings", "rows", "index", "crossing", "warp", "weft", "row"]) (sc := defScope sCloth__turned) (by decide +kernel)) (fun _ _ _ _ _ => pg_name (i := 7) scN rfl (by first | exact Or.inl rfl | exact Or.inr rfl)) (fun _ _ _ _ _ => mts_nil) (fun _ _ _ _ _ => me_m1 (pe_join (me_str) (me_var (pv 7))) m1_joinX)) (fun _ _ _ h => lc_readW (good_name (by decide)) (rg_name) h)) (ma_nil))))))))))
theorem mCloth__turned (T : Txt P K mg) {k : Nat} (hk : 5 ≤ k := by decide) : MthK P w K mg base "Cloth" "turned" gCloth__turned k := by
  obtain ⟨C, f, h1, h2, h3, h4⟩ := T.me_Cloth_turned
  obtain ⟨fd, F, hb⟩ := kCloth__turned (w := w) (base := base) T h4
  exact ⟨C, f, fd, _, h1, h2, h3, F.mono hk, hb⟩
theorem kCloth__rows (T : Txt P K mg) {f : Addr} (O : OwnF K "rows" "Cloth.rows" sCloth__rows ["self"] f) : ∃ fd, GFn P w K mg base 1 f fd ["self"] gCloth__rows ∧ Binds K fd ["self"] [] := by
  obtain ⟨fd, F, hb⟩ := O
  refine ⟨fd, gfn_of (k := 0) F scCloth__rows fun cdv A outer s H E hr hgd => ?_, hb⟩
  have scN := scCloth__rows.nd
  have tk := takes_of (X := cxOf (CX P w) P w K mg base ["self"] "Cloth.rows" (defScope sCloth__rows) f cdv A outer s H E) (E := E) rfl rfl rfl rfl
  exact ms_one (ms_ret (me_cb (pe_callTy call_list_of (by rfl) T.b_list bt_list (ma_cons (me_fld (allc (T.fl_Cloth_kept_rows) (all0)) (me_var (pv 0))) (ma_nil))) cs_list))
theorem mCloth__rows (T : Txt P K mg) {k : Nat} (hk : 1 ≤ k := by decide) : MthK P w K mg base "Cloth" "rows" gCloth__rows k := by
  obtain ⟨C, f, h1, h2, h3, h4⟩ := T.me_Cloth_rows
  obtain ⟨fd, F, hb⟩ := kCloth__rows (w := w) (base := base) T h4
  exact ⟨C, f, fd, _, h1, h2, h3, F.mono hk, hb⟩
theorem k_law_caught (T : Txt P K mg) : GFn P w K mg base 6 T.f_law_caught.a T.f_law_caught.fd ["_law_cloth", "_law_value"] g_law_caught := by
  refine gfn_of (k := 5) T.f_law_caught.F sc_law_caught fun cdv A outer s H E hr hgd => ?_
  have scN := sc_law_caught.nd
  have tk := takes_of (X := cxOf (CX P w) P w K mg base ["_law_cloth", "_law_value", "e"] "_law_caught" (defScope s_law_caught) T.f_law_caught.a cdv A outer s H E) (E := E) rfl rfl rfl rfl
  exact ms_one (ms_try rfl rfl tk (fun W pn xe tk _ => ms_one (ms_ret (me_lst (ma_cons (me_str) (ma_cons ((me_meth0 (tbl := [("Cloth", gCloth__rows)]) (k := 1) (allc (mCloth__rows T) (all0)) (hr.mono (by decide)) hgd tk ((me_meth (tbl := [("Cloth", gCloth__turned)]) (k := 5) (allc (mCloth__turned T) (all0)) (hr.mono (by decide)) hgd tk (me_var (pv 0)) (ma_cons (me_var (pv 1)) (ma_nil)))))) (ma_nil)))))) (HdsM.as scN (i := 2) rfl rfl (names_of (by rfl) T.n_InvalidList T.gx) (allc (T.e_InvalidRows_InvalidList) (allc (T.e_InvalidList_InvalidList) (allc (T.e_InvalidCrossing_InvalidList) (allc (T.e_Duplicate_InvalidList) (all0))))) (fun a oe cls d pn hz hf => ms_retXf (allc (T.x_InvalidList) (all0)) hz hf (pv 2)) (HdsM.as scN (i := 2) rfl rfl (names_of (by rfl) T.n_InvalidCrossing T.gx) (allc (T.e_InvalidRows_InvalidCrossing) (allc (T.e_InvalidList_InvalidCrossing) (allc (T.e_InvalidCrossing_InvalidCrossing) (allc (T.e_Duplicate_InvalidCrossing) (all0))))) (fun a oe cls d pn hz hf => ms_retXf (allc (T.x_InvalidCrossing) (all0)) hz hf (pv 2)) (HdsM.as scN (i := 2) rfl rfl (names_of (by rfl) T.n_Duplicate T.gx) (allc (T.e_InvalidRows_Duplicate) (allc (T.e_InvalidList_Duplicate) (allc (T.e_InvalidCrossing_Duplicate) (allc (T.e_Duplicate_Duplicate) (all0))))) (fun a oe cls d pn hz hf => ms_retXf (allc (T.x_Duplicate) (all0)) hz hf (pv 2)) (HdsM.stop)))))
theorem k_law_right (T : Txt P K mg) : GFn P w K mg base 7 T.f_law_right.a T.f_law_right.fd ["_law_cloth", "_law_rows_here", "_law_value"] g_law_right := by
  refine gfn_of (k := 6) T.f_law_right.F sc_law_right fun cdv A outer s H E hr hgd => ?_
  have scN := sc_law_right.nd
  have tk := takes_of (X := cxOf (CX P w) P w K mg base ["_law_cloth", "_law_rows_here", "_law_value", "_law_found", "_law_stood", "_law_due_here"] "_law_right" (defScope s_law_right) T.f_law_right.a cdv A outer s H E) (E := E) rfl rfl rfl rfl
  exact ms_cons (ms_par2 (i := 4) (j := 5) rfl scN rfl rfl (by decide) rfl rfl (ma_cons (me_cb (pe_callB (call_reprX hgd (u100 hr)) (by rfl) T.b_repr bt_repr (ma_cons (me_var (pv 2)) (ma_nil))) cs_reprX) (ma_cons (me_call (k_law_due T) (hr.mono (by decide)) hgd (by rfl) T.f_law_due.mgf T.f_law_due.F.kp T.f_law_due.b tk (ma_cons (me_var (pv 1)) (ma_cons (me_var (pv 2)) (ma_nil)))) (ma_nil))) (by first | rfl | with_unfolding_all rfl | kernel_rfl)) (ms_cons (ms_set (i := 3) scN rfl (by first | exact Or.inl rfl | exact Or.inr rfl) (me_call (k_law_caught T) (hr.mono (by decide)) hgd (by rfl) T.f_law_caught.mgf T.f_law_caught.F.kp T.f_law_caught.b tk (ma_cons (me_var (pv 0)) (ma_cons (me_var (pv 2)) (ma_nil))))) (ms_cons (ms_if (PW.pt (mw_or (mt_cmp (op_neY hr.units) os_neX (me_cb (pe_callB (call_reprX hgd (u100 hr)) (by rfl) T.b_repr bt_repr (ma_cons (me_var (pv 3)) (ma_nil))) cs_reprX) (me_cb (pe_callB (call_reprX hgd (u100 hr)) (by rfl) T.b_repr bt_repr (ma_cons (me_var (pv 5)) (ma_nil))) cs_reprX) (nomark _)) (mw_or (mt_cmp (op_neY hr.units) os_neX (me_cb (pe_callB (call_reprX hgd (u100 hr)) (by rfl) T.b_repr bt_repr (ma_cons (me_var (pv 2)) (ma_nil))) cs_reprX) (me_var (pv 4)) (nomark _)) (mw_or1 (mt_cmp (op_neY hr.units) os_neX ((me_meth0 (tbl := [("Cloth", gCloth__rows)]) (k := 1) (allc (mCloth__rows T) (all0)) (hr.mono (by decide)) hgd tk (me_var (pv 0)))) (me_var (pv 1)) (nomark _)))))) (ms_one (ms_ret (me_bl))) (ms_nil)) (ms_cons (ms_if (PW.pt (mw_and (mt_cmp (op_neY hr.units) os_neX (me_ix ix_seq os_item (me_var (pv 5)) (me_int) (fun _ _ => rfl)) (me_str) (nomark _)) (mw_and1 (mt_val (me_cb (pe_callB call_isiA (by rfl) T.b_isinstance bt_isinstance (ma_cons (me_ix ix_seq os_item (me_var (pv 5)) (me_int) (fun _ _ => rfl)) (ma_cons (me_c (pe_bltn (v := .ty "list") (by rfl) T.b_list bt_list rfl) (fun _ _ => .ty _)) (ma_nil)))) cs_isi))))) (ms_cons (ms_expr (me_bm (pe_bm PySem.F.plainAttrs_list PySem.F.slot_list_append PySem.F.type_list_append mt_append (me_ix ix_seq os_item (me_var (pv 5)) (me_int) (fun _ _ => rfl)) (ma_cons (me_str) (ma_nil))) meth_append)) (ms_one (ms_ret (me_cmp (op_eqY hr.units) os_eqX (me_cb (pe_callB (call_reprX hgd (u100 hr)) (by rfl) T.b_repr bt_repr (ma_cons (me_var (pv 3)) (ma_nil))) cs_reprX) (me_cb (pe_callB (call_reprX hgd (u100 hr)) (by rfl) T.b_repr bt_repr (ma_cons (me_var (pv 5)) (ma_nil))) cs_reprX) (nomark _))))) (ms_nil)) (ms_one (ms_ret (me_bl))))))
theorem klaw (T : Txt P K mg) : GFn P w K mg base 8 T.flaw.a T.flaw.fd ["_law_script"] glaw := by
  refine gfn_of (k := 7) T.flaw.F sclaw fun cdv A outer s H E hr hgd => ?_
  have scN := sclaw.nd
  have tk := takes_of (X := cxOf (CX P w) P w K mg base ["_law_script", "_law_k", "_law_box_here", "_law_rows_here", "_law_cloth", "_law_turn", "_law_many", "_law_crossings_here", "_law_handed", "_law_spoilt_here"] "law" (defScope slaw) T.flaw.a cdv A outer s H E) (E := E) rfl rfl rfl rfl
  exact ms_cons (ms_for (passes_of rfl) rfl (mi_r1 (pi_range1 (by rfl) T.b_range (ma_cons (me_cb (pe_callB (call_max2 rfl) (by rfl) T.b_max bt_max (ma_cons (me_int) (ma_cons (me_cb (pe_callB (call_min2 rfl) (by rfl) T.b_min bt_min (ma_cons (me_int) (ma_cons (me_cb (pe_callB call_len (by rfl) T.b_len bt_len (ma_cons (me_var (pv 0)) (ma_nil))) cs_len) (ma_nil)))) cs_min2) (ma_nil)))) cs_max2) (ma_nil)))) (mg_name (i := 1) scN rfl (by first | exact Or.inl rfl | exact Or.inr rfl)) (ms_cons (ms_set (i := 2) scN rfl (by first | exact Or.inl rfl | exact Or.inr rfl) (me_call (k_law_box T) (hr.mono (by decide)) hgd (by rfl) T.f_law_box.mgf T.f_law_box.F.kp T.f_law_box.b tk (ma_cons (me_call (k_law_cell T) (hr.mono (by decide)) hgd (by rfl) T.f_law_cell.mgf T.f_law_cell.F.kp T.f_law_cell.b tk (ma_cons (me_var (pv 0)) (ma_cons (me_var (pv 1)) (ma_nil)))) (ma_nil)))) (ms_cons (ms_set (i := 3) scN rfl (by first | exact Or.inl rfl | exact Or.inr rfl) (me_call (k_law_rows T) (hr.mono (by decide)) hgd (by rfl) T.f_law_rows.mgf T.f_law_rows.F.kp T.f_law_rows.b tk (ma_cons (me_var (pv 2)) (ma_nil)))) (ms_cons (ms_set (i := 4) scN rfl (by first | exact Or.inl rfl | exact Or.inr rfl) (me_frzI ((me_make (mkCloth T) (hr.mono (by decide)) hgd (by rfl) tk (ma_cons (me_var (pv 3)) (ma_nil)))))) (ms_cons (ms_for (passes_of rfl) rfl (mi_r1 (pi_range1 (by rfl) T.b_range (ma_cons (me_int) (ma_nil)))) (mg_name (i := 5) scN rfl (by first | exact Or.inl rfl | exact Or.inr rfl)) (ms_cons (ms_set (i := 7) scN rfl (by first | exact Or.inl rfl | exact Or.inr rfl) (me_call (k_law_crossings T) (hr.mono (by decide)) hgd (by rfl) T.f_law_crossings.mgf T.f_law_crossings.F.kp T.f_law_crossings.b tk (ma_cons (me_var (pv 2)) (ma_cons (me_var (pv 3)) (ma_nil))))) (ms_cons (ms_set (i := 8) scN rfl (by first | exact Or.inl rfl | exact Or.inr rfl) (me_ix ix_seq os_item (me_lst (ma_cons (me_cb (pe_callTy call_list_of (by rfl) T.b_list bt_list (ma_cons (me_var (pv 7)) (ma_nil))) cs_listM) (ma_cons (me_cb (pe_callTy call_tuple_of (by rfl) T.b_tuple bt_tuple (ma_cons (me_var (pv 7)) (ma_nil))) cs_tuple) (ma_nil)))) (me_call (k_law_take T) (hr.mono (by decide)) hgd (by rfl) T.f_law_take.mgf T.f_law_take.F.kp T.f_law_take.b tk (ma_cons (me_var (pv 2)) (ma_cons (me_int) (ma_nil)))) (fun _ _ => rfl))) (ms_cons (ms_set (i := 9) scN rfl (by first | exact Or.inl rfl | exact Or.inr rfl) (me_call (k_law_spoilt T) (hr.mono (by decide)) hgd (by rfl) T.f_law_spoilt.mgf T.f_law_spoilt.F.kp T.f_law_spoilt.b tk (ma_cons (me_var (pv 2)) (ma_cons (me_var (pv 3)) (ma_cons (me_var (pv 7)) (ma_nil)))))) (ms_cons (ms_if (PW.pt (mw_or (mt_not (mt_val (me_call (k_law_right T) (hr.mono (by decide)) hgd (by rfl) T.f_law_right.mgf T.f_law_right.F.kp T.f_law_right.b tk (ma_cons (me_var (pv 4)) (ma_cons (me_var (pv 3)) (ma_cons (me_var (pv 8)) (ma_nil))))))) (mw_or1 (mt_not (mt_val (me_call (k_law_right T) (hr.mono (by decide)) hgd (by rfl) T.f_law_right.mgf T.f_law_right.F.kp T.f_law_right.b tk (ma_cons (me_var (pv 4)) (ma_cons (me_var (pv 3)) (ma_cons (me_var (pv 9)) (ma_nil)))))))))) (ms_one (ms_ret (me_bl))) (ms_nil)) (ms_one (ms_if (PW.pt (mw_or (mt_not (mt_val (me_call (k_law_right T) (hr.mono (by decide)) hgd (by rfl) T.f_law_right.mgf T.f_law_right.F.kp T.f_law_right.b tk (ma_cons (me_var (pv 4)) (ma_cons (me_var (pv 3)) (ma_cons (me_cb (pe_callTy call_tuple_of (by rfl) T.b_tuple bt_tuple (ma_cons (me_var (pv 9)) (ma_nil))) cs_tuple) (ma_nil))))))) (mw_or1 (mt_not (mt_val (me_call (k_law_right T) (hr.mono (by decide)) hgd (by rfl) T.f_law_right.mgf T.f_law_right.F.kp T.f_law_right.b tk (ma_cons (me_var (pv 4)) (ma_cons (me_var (pv 3)) (ma_cons (me_call (k_law_odd T) (hr.mono (by decide)) hgd (by rfl) T.f_law_odd.mgf T.f_law_odd.F.kp T.f_law_odd.b tk (ma_cons (me_var (pv 2)) (ma_nil))) (ma_nil)))))))))) (ms_one (ms_ret (me_bl))) (ms_nil)))))))) (ms_cons (ms_set (i := 6) scN rfl (by first | exact Or.inl rfl | exact Or.inr rfl) (me_op op_mulXX os_mulX (me_lst (ma_cons (me_tup (ma_cons (me_int) (ma_cons (me_int) (ma_nil)))) (ma_nil))) (me_op op_addA os_add (me_int) (me_call (k_law_take T) (hr.mono (by decide)) hgd (by rfl) T.f_law_take.mgf T.f_law_take.F.kp T.f_law_take.b tk (ma_cons (me_var (pv 2)) (ma_cons (me_int) (ma_nil))))))) (ms_one (ms_if (PW.pt (mw_or (mt_not (mt_val (me_call (k_law_right T) (hr.mono (by decide)) hgd (by rfl) T.f_law_right.mgf T.f_law_right.F.kp T.f_law_right.b tk (ma_cons (me_var (pv 4)) (ma_cons (me_var (pv 3)) (ma_cons (me_var (pv 6)) (ma_nil))))))) (mw_or1 (mt_not (mt_val (me_call (k_law_right T) (hr.mono (by decide)) hgd (by rfl) T.f_law_right.mgf T.f_law_right.F.kp T.f_law_right.b tk (ma_cons (me_var (pv 4)) (ma_cons (me_var (pv 3)) (ma_cons (me_op op_mulXX os_mulX (me_lst (ma_cons (me_lst (ma_cons (me_int) (ma_cons (me_int) (ma_nil)))) (ma_nil))) (me_int)) (ma_nil)))))))))) (ms_one (ms_ret (me_bl))) (ms_nil))))))))) (ms_one (ms_ret (me_bl)))
end
theorem law_fin {P : Program} {w : World} {h : Heap} {K : PySem.W.Frag} {mg : Str → Option Value} {fa : Addr} (X : K.In h) (G : h.Ns mainGlobals mg) (hmg : mg "law" = some (.ref fa))
    (z_all : PySem.W.nsIn K mainGlobals "all" = some none)
    (z_bool : PySem.W.nsIn K mainGlobals "bool" = some none)
    (z_enumerate : PySem.W.nsIn K mainGlobals "enumerate" = some none)
    (z_int : PySem.W.nsIn K mainGlobals "int" = some none)
    (z_isinstance : PySem.W.nsIn K mainGlobals "isinstance" = some none)
    (z_len : PySem.W.nsIn K mainGlobals "len" = some none)
    (z_list : PySem.W.nsIn K mainGlobals "list" = some none)
    (z_max : PySem.W.nsIn K mainGlobals "max" = some none)
    (z_min : PySem.W.nsIn K mainGlobals "min" = some none)
    (z_range : PySem.W.nsIn K mainGlobals "range" = some none)
    (z_repr : PySem.W.nsIn K mainGlobals "repr" = some none)
    (z_str : PySem.W.nsIn K mainGlobals "str" = some none)
    (z_tuple : PySem.W.nsIn K mainGlobals "tuple" = some none)
    {t_SIGNS : Tok}
    (a_SIGNS : PySem.W.nsIn K mainGlobals "SIGNS" = some (some (.str "01" t_SIGNS)))
    (z_super : PySem.W.nsIn K mainGlobals "super" = some none)
    (z_third : PySem.W.nsIn K cStatics "thirdparty.any" = some none)
    (z_top : (P.main.scope.names.lookup ("super" : Str)).isSome = false)
    {CDuplicate fIDuplicate ccDuplicate cdaDuplicate NDuplicate : Addr} {bmDuplicate bsDuplicate subDuplicate : List Value} {nmDuplicate qDuplicate fileDuplicate : Str} {snDuplicate : List Str} {abDuplicate : Bool} {colDuplicate : Option Bool} {ddDuplicate anDuplicate odDuplicate cddDuplicate cldDuplicate : Option Addr} {k0Duplicate k1Duplicate k2Duplicate k3Duplicate k5Duplicate : Option Value} {tfDuplicate : Tok} {kVDuplicate dcDuplicate pmDuplicate ctDuplicate ocDuplicate cclDuplicate clDuplicate : Value} {osDuplicate csDuplicate ssDuplicate : Array (Option Value)} {vsDuplicate : Array Value}
    (xaDuplicate : PySem.W.nsIn K mainGlobals "Duplicate" = some (some (.ref CDuplicate)))
    (xcDuplicate : K.lookup CDuplicate = some (excClassObj nmDuplicate qDuplicate CDuplicate NDuplicate bsDuplicate bmDuplicate true snDuplicate subDuplicate abDuplicate colDuplicate ddDuplicate k0Duplicate k1Duplicate k2Duplicate k3Duplicate k5Duplicate "ValueError.__new__"))
    (xtDuplicate : PySem.W.excTail [.type "ValueError", .type "Exception", .type "BaseException", .type "object"] bmDuplicate = true)
    (xsDuplicate : PySem.W.ks_superIn K CDuplicate CDuplicate "__init__" = some (some (.builtin "ValueError.__init__")))
    (xbDuplicate : PySem.W.subIn K (.ref CDuplicate) (.type "ValueError") = some true)
    (xiDuplicate : PySem.W.findIn K (.ref CDuplicate) "__init__" = some (some (.ref fIDuplicate)))
    (xyDuplicate : PySem.W.typeIn K (.ref fIDuplicate) = some (.type "function"))
    (xlDuplicate : K.lookup fIDuplicate = some ⟨ocDuplicate, odDuplicate, .func (PySem.W.ksFn "__init__" "Duplicate.__init__" (defArgs sxDuplicate) (defBody sxDuplicate) (defScope sxDuplicate) .none kVDuplicate dcDuplicate pmDuplicate anDuplicate (.ref cdaDuplicate) ctDuplicate ccDuplicate), osDuplicate⟩)
    (xoDuplicate : PySem.W.codeIn K (.ref cdaDuplicate) "Duplicate.__init__" = true)
    (xdDuplicate : K.lookup cdaDuplicate = some ⟨cclDuplicate, cddDuplicate, .fields vsDuplicate, csDuplicate⟩)
    (xvDuplicate : vsDuplicate[2]? = some (.str fileDuplicate tfDuplicate))
    (xfDuplicate : ((P.main.file : Str) == fileDuplicate) = true)
    (xeDuplicate : K.lookup ccDuplicate = some ⟨clDuplicate, cldDuplicate, .cell (some (.ref CDuplicate)), ssDuplicate⟩)
    (xmDuplicate : PySem.W.mroIn K CDuplicate (.ref CDuplicate) = some true)
    (xpDuplicate : PySem.W.findIn K (.ref CDuplicate) "__setattr__" = some (some (.builtin "object.__setattr__")))
    (xnDuplicate : PySem.W.findIn K (.ref CDuplicate) "value" = some none)
    (xqDuplicate : PySem.W.subIn K (.ref CDuplicate) (.type "BaseException") = some true)
    (xrDuplicate : PySem.W.typeIn K (.ref CDuplicate) = some (.type "type"))
    (xkDuplicate : PySem.W.keepIn K (.ref CDuplicate) = true)
    (xgDuplicate : PySem.W.findIn K (.ref CDuplicate) "__getattribute__" = some (some (.builtin "BaseException.__getattribute__")))
    (xhDuplicate : PySem.W.findIn K (.ref CDuplicate) "__getattr__" = some none)
    (xjDuplicate : PySem.W.hasDictIn K CDuplicate = true)
    {CInvalidCrossing fIInvalidCrossing ccInvalidCrossing cdaInvalidCrossing NInvalidCrossing : Addr} {bmInvalidCrossing bsInvalidCrossing subInvalidCrossing : List Value} {nmInvalidCrossing qInvalidCrossing fileInvalidCrossing : Str} {snInvalidCrossing : List Str} {abInvalidCrossing : Bool} {colInvalidCrossing : Option Bool} {ddInvalidCrossing anInvalidCrossing odInvalidCrossing cddInvalidCrossing cldInvalidCrossing : Option Addr} {k0InvalidCrossing k1InvalidCrossing k2InvalidCrossing k3InvalidCrossing k5InvalidCrossing : Option Value} {tfInvalidCrossing : Tok} {kVInvalidCrossing dcInvalidCrossing pmInvalidCrossing ctInvalidCrossing ocInvalidCrossing cclInvalidCrossing clInvalidCrossing : Value} {osInvalidCrossing csInvalidCrossing ssInvalidCrossing : Array (Option Value)} {vsInvalidCrossing : Array Value}
    (xaInvalidCrossing : PySem.W.nsIn K mainGlobals "InvalidCrossing" = some (some (.ref CInvalidCrossing)))
    (xcInvalidCrossing : K.lookup CInvalidCrossing = some (excClassObj nmInvalidCrossing qInvalidCrossing CInvalidCrossing NInvalidCrossing bsInvalidCrossing bmInvalidCrossing true snInvalidCrossing subInvalidCrossing abInvalidCrossing colInvalidCrossing ddInvalidCrossing k0InvalidCrossing k1InvalidCrossing k2InvalidCrossing k3InvalidCrossing k5InvalidCrossing "ValueError.__new__"))
    (xtInvalidCrossing : PySem.W.excTail [.type "ValueError", .type "Exception", .type "BaseException", .type "object"] bmInvalidCrossing = true)
    (xsInvalidCrossing : PySem.W.ks_superIn K CInvalidCrossing CInvalidCrossing "__init__" = some (some (.builtin "ValueError.__init__")))
    (xbInvalidCrossing : PySem.W.subIn K (.ref CInvalidCrossing) (.type "ValueError") = some true)
    (xiInvalidCrossing : PySem.W.findIn K (.ref CInvalidCrossing) "__init__" = some (some (.ref fIInvalidCrossing)))
    (xyInvalidCrossing : PySem.W.typeIn K (.ref fIInvalidCrossing) = some (.type "function"))
    (xlInvalidCrossing : K.lookup fIInvalidCrossing = some ⟨ocInvalidCrossing, odInvalidCrossing, .func (PySem.W.ksFn "__init__" "InvalidCrossing.__init__" (defArgs sxInvalidCrossing) (defBody sxInvalidCrossing) (defScope sxInvalidCrossing) .none kVInvalidCrossing dcInvalidCrossing pmInvalidCrossing anInvalidCrossing (.ref cdaInvalidCrossing) ctInvalidCrossing ccInvalidCrossing), osInvalidCrossing⟩)
    (xoInvalidCrossing : PySem.W.codeIn K (.ref cdaInvalidCrossing) "InvalidCrossing.__init__" = true)
    (xdInvalidCrossing : K.lookup cdaInvalidCrossing = some ⟨cclInvalidCrossing, cddInvalidCrossing, .fields vsInvalidCrossing, csInvalidCrossing⟩)
    (xvInvalidCrossing : vsInvalidCrossing[2]? = some (.str fileInvalidCrossing tfInvalidCrossing))
    (xfInvalidCrossing : ((P.main.file : Str) == fileInvalidCrossing) = true)
    (xeInvalidCrossing : K.lookup ccInvalidCrossing = some ⟨clInvalidCrossing, cldInvalidCrossing, .cell (some (.ref CInvalidCrossing)), ssInvalidCrossing⟩)
    (xmInvalidCrossing : PySem.W.mroIn K CInvalidCrossing (.ref CInvalidCrossing) = some true)
    (xpInvalidCrossing : PySem.W.findIn K (.ref CInvalidCrossing) "__setattr__" = some (some (.builtin "object.__setattr__")))
    (xnInvalidCrossing : PySem.W.findIn K (.ref CInvalidCrossing) "value" = some none)
    (xqInvalidCrossing : PySem.W.subIn K (.ref CInvalidCrossing) (.type "BaseException") = some true)
    (xrInvalidCrossing : PySem.W.typeIn K (.ref CInvalidCrossing) = some (.type "type"))
    (xkInvalidCrossing : PySem.W.keepIn K (.ref CInvalidCrossing) = true)
    (xgInvalidCrossing : PySem.W.findIn K (.ref CInvalidCrossing) "__getattribute__" = some (some (.builtin "BaseException.__getattribute__")))
    (xhInvalidCrossing : PySem.W.findIn K (.ref CInvalidCrossing) "__getattr__" = some none)
    (xjInvalidCrossing : PySem.W.hasDictIn K CInvalidCrossing = true)
    {CInvalidList fIInvalidList ccInvalidList cdaInvalidList NInvalidList : Addr} {bmInvalidList bsInvalidList subInvalidList : List Value} {nmInvalidList qInvalidList fileInvalidList : Str} {snInvalidList : List Str} {abInvalidList : Bool} {colInvalidList : Option Bool} {ddInvalidList anInvalidList odInvalidList cddInvalidList cldInvalidList : Option Addr} {k0InvalidList k1InvalidList k2InvalidList k3InvalidList k5InvalidList : Option Value} {tfInvalidList : Tok} {kVInvalidList dcInvalidList pmInvalidList ctInvalidList ocInvalidList cclInvalidList clInvalidList : Value} {osInvalidList csInvalidList ssInvalidList : Array (Option Value)} {vsInvalidList : Array Value}
    (xaInvalidList : PySem.W.nsIn K mainGlobals "InvalidList" = some (some (.ref CInvalidList)))
    (xcInvalidList : K.lookup CInvalidList = some (excClassObj nmInvalidList qInvalidList CInvalidList NInvalidList bsInvalidList bmInvalidList true snInvalidList subInvalidList abInvalidList colInvalidList ddInvalidList k0InvalidList k1InvalidList k2InvalidList k3InvalidList k5InvalidList "ValueError.__new__"))
    (xtInvalidList : PySem.W.excTail [.type "ValueError", .type "Exception", .type "BaseException", .type "object"] bmInvalidList = true)
    (xsInvalidList : PySem.W.ks_superIn K CInvalidList CInvalidList "__init__" = some (some (.builtin "ValueError.__init__")))
    (xbInvalidList : PySem.W.subIn K (.ref CInvalidList) (.type "ValueError") = some true)
    (xiInvalidList : PySem.W.findIn K (.ref CInvalidList) "__init__" = some (some (.ref fIInvalidList)))
    (xyInvalidList : PySem.W.typeIn K (.ref fIInvalidList) = some (.type "function"))
    (xlInvalidList : K.lookup fIInvalidList = some ⟨ocInvalidList, odInvalidList, .func (PySem.W.ksFn "__init__" "InvalidList.__init__" (defArgs sxInvalidList) (defBody sxInvalidList) (defScope sxInvalidList) .none kVInvalidList dcInvalidList pmInvalidList anInvalidList (.ref cdaInvalidList) ctInvalidList ccInvalidList), osInvalidList⟩)
    (xoInvalidList : PySem.W.codeIn K (.ref cdaInvalidList) "InvalidList.__init__" = true)
    (xdInvalidList : K.lookup cdaInvalidList = some ⟨cclInvalidList, cddInvalidList, .fields vsInvalidList, csInvalidList⟩)
    (xvInvalidList : vsInvalidList[2]? = some (.str fileInvalidList tfInvalidList))
    (xfInvalidList : ((P.main.file : Str) == fileInvalidList) = true)
    (xeInvalidList : K.lookup ccInvalidList = some ⟨clInvalidList, cldInvalidList, .cell (some (.ref CInvalidList)), ssInvalidList⟩)
    (xmInvalidList : PySem.W.mroIn K CInvalidList (.ref CInvalidList) = some true)
    (xpInvalidList : PySem.W.findIn K (.ref CInvalidList) "__setattr__" = some (some (.builtin "object.__setattr__")))
    (xnInvalidList : PySem.W.findIn K (.ref CInvalidList) "value" = some none)
    (xqInvalidList : PySem.W.subIn K (.ref CInvalidList) (.type "BaseException") = some true)
    (xrInvalidList : PySem.W.typeIn K (.ref CInvalidList) = some (.type "type"))
    (xkInvalidList : PySem.W.keepIn K (.ref CInvalidList) = true)
    (xgInvalidList : PySem.W.findIn K (.ref CInvalidList) "__getattribute__" = some (some (.builtin "BaseException.__getattribute__")))
    (xhInvalidList : PySem.W.findIn K (.ref CInvalidList) "__getattr__" = some none)
    (xjInvalidList : PySem.W.hasDictIn K CInvalidList = true)
    {CInvalidRows fIInvalidRows ccInvalidRows cdaInvalidRows NInvalidRows : Addr} {bmInvalidRows bsInvalidRows subInvalidRows : List Value} {nmInvalidRows qInvalidRows fileInvalidRows : Str} {snInvalidRows : List Str} {abInvalidRows : Bool} {colInvalidRows : Option Bool} {ddInvalidRows anInvalidRows odInvalidRows cddInvalidRows cldInvalidRows : Option Addr} {k0InvalidRows k1InvalidRows k2InvalidRows k3InvalidRows k5InvalidRows : Option Value} {tfInvalidRows : Tok} {kVInvalidRows dcInvalidRows pmInvalidRows ctInvalidRows ocInvalidRows cclInvalidRows clInvalidRows : Value} {osInvalidRows csInvalidRows ssInvalidRows : Array (Option Value)} {vsInvalidRows : Array Value}
    (xaInvalidRows : PySem.W.nsIn K mainGlobals "InvalidRows" = some (some (.ref CInvalidRows)))
    (xcInvalidRows : K.lookup CInvalidRows = some (excClassObj nmInvalidRows qInvalidRows CInvalidRows NInvalidRows bsInvalidRows bmInvalidRows true snInvalidRows subInvalidRows abInvalidRows colInvalidRows ddInvalidRows k0InvalidRows k1InvalidRows k2InvalidRows k3InvalidRows k5InvalidRows "ValueError.__new__"))
    (xtInvalidRows : PySem.W.excTail [.type "ValueError", .type "Exception", .type "BaseException", .type "object"] bmInvalidRows = true)
    (xsInvalidRows : PySem.W.ks_superIn K CInvalidRows CInvalidRows "__init__" = some (some (.builtin "ValueError.__init__")))
    (xbInvalidRows : PySem.W.subIn K (.ref CInvalidRows) (.type "ValueError") = some true)
    (xiInvalidRows : PySem.W.findIn K (.ref CInvalidRows) "__init__" = some (some (.ref fIInvalidRows)))
    (xyInvalidRows : PySem.W.typeIn K (.ref fIInvalidRows) = some (.type "function"))
    (xlInvalidRows : K.lookup fIInvalidRows = some ⟨ocInvalidRows, odInvalidRows, .func (PySem.W.ksFn "__init__" "InvalidRows.__init__" (defArgs sxInvalidRows) (defBody sxInvalidRows) (defScope sxInvalidRows) .none kVInvalidRows dcInvalidRows pmInvalidRows anInvalidRows (.ref cdaInvalidRows) ctInvalidRows ccInvalidRows), osInvalidRows⟩)
    (xoInvalidRows : PySem.W.codeIn K (.ref cdaInvalidRows) "InvalidRows.__init__" = true)
    (xdInvalidRows : K.lookup cdaInvalidRows = some ⟨cclInvalidRows, cddInvalidRows, .fields vsInvalidRows, csInvalidRows⟩)
    (xvInvalidRows : vsInvalidRows[2]? = some (.str fileInvalidRows tfInvalidRows))
    (xfInvalidRows : ((P.main.file : Str) == fileInvalidRows) = true)
    (xeInvalidRows : K.lookup ccInvalidRows = some ⟨clInvalidRows, cldInvalidRows, .cell (some (.ref CInvalidRows)), ssInvalidRows⟩)
    (xmInvalidRows : PySem.W.mroIn K CInvalidRows (.ref CInvalidRows) = some true)
    (xpInvalidRows : PySem.W.findIn K (.ref CInvalidRows) "__setattr__" = some (some (.builtin "object.__setattr__")))
    (xnInvalidRows : PySem.W.findIn K (.ref CInvalidRows) "value" = some none)
    (xqInvalidRows : PySem.W.subIn K (.ref CInvalidRows) (.type "BaseException") = some true)
    (xrInvalidRows : PySem.W.typeIn K (.ref CInvalidRows) = some (.type "type"))
    (xkInvalidRows : PySem.W.keepIn K (.ref CInvalidRows) = true)
    (xgInvalidRows : PySem.W.findIn K (.ref CInvalidRows) "__getattribute__" = some (some (.builtin "BaseException.__getattribute__")))
    (xhInvalidRows : PySem.W.findIn K (.ref CInvalidRows) "__getattr__" = some none)
    (xjInvalidRows : PySem.W.hasDictIn K CInvalidRows = true)
    (hbDuplicate : PySem.W.subIn K (.ref CDuplicate) (.type "BaseException") = some true)
    (hcDuplicate : PySem.W.isClsIn K CDuplicate = true)
    (htDuplicate : PySem.W.typeIn K (.ref CDuplicate) = some (.type "type"))
    (em_InvalidRows_Duplicate : PySem.W.subIn K (.ref CInvalidRows) (.ref CDuplicate) = some false)
    (em_InvalidList_Duplicate : PySem.W.subIn K (.ref CInvalidList) (.ref CDuplicate) = some false)
    (em_InvalidCrossing_Duplicate : PySem.W.subIn K (.ref CInvalidCrossing) (.ref CDuplicate) = some false)
    (em_Duplicate_Duplicate : PySem.W.subIn K (.ref CDuplicate) (.ref CDuplicate) = some true)
    (hbInvalidCrossing : PySem.W.subIn K (.ref CInvalidCrossing) (.type "BaseException") = some true)
    (hcInvalidCrossing : PySem.W.isClsIn K CInvalidCrossing = true)
    (htInvalidCrossing : PySem.W.typeIn K (.ref CInvalidCrossing) = some (.type "type"))
    (em_InvalidRows_InvalidCrossing : PySem.W.subIn K (.ref CInvalidRows) (.ref CInvalidCrossing) = some false)
    (em_InvalidList_InvalidCrossing : PySem.W.subIn K (.ref CInvalidList) (.ref CInvalidCrossing) = some false)
    (em_InvalidCrossing_InvalidCrossing : PySem.W.subIn K (.ref CInvalidCrossing) (.ref CInvalidCrossing) = some true)
    (em_Duplicate_InvalidCrossing : PySem.W.subIn K (.ref CDuplicate) (.ref CInvalidCrossing) = some false)
    (hbInvalidList : PySem.W.subIn K (.ref CInvalidList) (.type "BaseException") = some true)
    (hcInvalidList : PySem.W.isClsIn K CInvalidList = true)
    (htInvalidList : PySem.W.typeIn K (.ref CInvalidList) = some (.type "type"))
    (em_InvalidRows_InvalidList : PySem.W.subIn K (.ref CInvalidRows) (.ref CInvalidList) = some false)
    (em_InvalidList_InvalidList : PySem.W.subIn K (.ref CInvalidList) (.ref CInvalidList) = some true)
    (em_InvalidCrossing_InvalidList : PySem.W.subIn K (.ref CInvalidCrossing) (.ref CInvalidList) = some false)
    (em_Duplicate_InvalidList : PySem.W.subIn K (.ref CDuplicate) (.ref CInvalidList) = some false)
    {ACloth : Addr}
    (caCloth : PySem.W.nsIn K mainGlobals "Cloth" = some (some (.ref ACloth)))
    (cpCloth : PySem.W.plainGet K ACloth Str.empty = true)
    (cdCloth : PySem.W.hasDictIn K ACloth = true)
    (coCloth : PySem.W.plainOver K ACloth = true)
    (csCloth : PySem.W.findIn K (.ref ACloth) "__setattr__" = some (some (.builtin "object.__setattr__")))
    (fn_Cloth_kept_rows : PySem.W.findIn K (.ref ACloth) "kept_rows" = some none)
    (rdCloth : PySem.W.readsIn K ACloth (.type "type") = true)
    (rgCloth : PySem.W.specialIn K (.ref ACloth) "__getattribute__" = some (some (.builtin "type.__getattribute__")))
    {tkClothMOST : Tok}
    (cv_Cloth_MOST : PySem.W.findCls K (.ref ACloth) (.type "type") "MOST" = some (.val (.int 8 tkClothMOST)))
    {fCloth____init__ : Addr}
    (kiCloth : PySem.W.makesIn K ACloth = true)
    (kfCloth : PySem.W.findIn K (.ref ACloth) "__init__" = some (some (.ref fCloth____init__)))
    (knCloth : PySem.W.isFn K (.ref fCloth____init__) = true)
    (kkCloth : PySem.W.keepIn K (.ref ACloth) = true)
    {ocCloth____init__ : Value} {odCloth____init__ anCloth____init__ : Option Addr} {slCloth____init__ : Array (Option Value)} {kVCloth____init__ dcCloth____init__ pmCloth____init__ cdCloth____init__ ctCloth____init__ : Value}
    (lCloth____init__ : K.lookup fCloth____init__ = some ⟨ocCloth____init__, odCloth____init__, .func (PySem.W.fnOf "__init__" "Cloth.__init__" (defArgs sCloth____init__) (defBody sCloth____init__) (defScope sCloth____init__) .none kVCloth____init__ dcCloth____init__ pmCloth____init__ anCloth____init__ cdCloth____init__ ctCloth____init__), slCloth____init__⟩)
    (cCloth____init__ : PySem.W.codeIn K cdCloth____init__ "Cloth.__init__" = true)
    (kCloth____init__ : PySem.W.keepIn K (.ref fCloth____init__) = true)
    {fCloth__rows : Addr}
    (mfCloth__rows : PySem.W.findIn K (.ref ACloth) "rows" = some (some (.ref fCloth__rows)))
    (mnCloth__rows : PySem.W.isFn K (.ref fCloth__rows) = true)
    {ocCloth__rows : Value} {odCloth__rows anCloth__rows : Option Addr} {slCloth__rows : Array (Option Value)} {kVCloth__rows dcCloth__rows pmCloth__rows cdCloth__rows ctCloth__rows : Value}
    (lCloth__rows : K.lookup fCloth__rows = some ⟨ocCloth__rows, odCloth__rows, .func (PySem.W.fnOf "rows" "Cloth.rows" (defArgs sCloth__rows) (defBody sCloth__rows) (defScope sCloth__rows) .none kVCloth__rows dcCloth__rows pmCloth__rows anCloth__rows cdCloth__rows ctCloth__rows), slCloth__rows⟩)
    (cCloth__rows : PySem.W.codeIn K cdCloth__rows "Cloth.rows" = true)
    (kCloth__rows : PySem.W.keepIn K (.ref fCloth__rows) = true)
    {fCloth__turned : Addr}
    (mfCloth__turned : PySem.W.findIn K (.ref ACloth) "turned" = some (some (.ref fCloth__turned)))
    (mnCloth__turned : PySem.W.isFn K (.ref fCloth__turned) = true)
    {ocCloth__turned : Value} {odCloth__turned anCloth__turned : Option Addr} {slCloth__turned : Array (Option Value)} {kVCloth__turned dcCloth__turned pmCloth__turned cdCloth__turned ctCloth__turned : Value}
    (lCloth__turned : K.lookup fCloth__turned = some ⟨ocCloth__turned, odCloth__turned, .func (PySem.W.fnOf "turned" "Cloth.turned" (defArgs sCloth__turned) (defBody sCloth__turned) (defScope sCloth__turned) .none kVCloth__turned dcCloth__turned pmCloth__turned anCloth__turned cdCloth__turned ctCloth__turned), slCloth__turned⟩)
    (cCloth__turned : PySem.W.codeIn K cdCloth__turned "Cloth.turned" = true)
    (kCloth__turned : PySem.W.keepIn K (.ref fCloth__turned) = true)
    {fCloth__warp_count pCloth__warp_count : Addr} {rsCloth__warp_count : List Value}
    (pfCloth__warp_count : PySem.W.findIn K (.ref ACloth) "warp_count" = some (some (.ref pCloth__warp_count)))
    (pgCloth__warp_count : PySem.W.specialIn K (.ref pCloth__warp_count) "__get__" = some (some (.builtin "property.__get__")))
    (ptCloth__warp_count : PySem.W.takesIn K (.ref pCloth__warp_count) = some true)
    (prCloth__warp_count : PySem.W.recIn K pCloth__warp_count "property" = some (.ref fCloth__warp_count :: rsCloth__warp_count))
    {ocCloth__warp_count : Value} {odCloth__warp_count anCloth__warp_count : Option Addr} {slCloth__warp_count : Array (Option Value)} {kVCloth__warp_count dcCloth__warp_count pmCloth__warp_count cdCloth__warp_count ctCloth__warp_count : Value}
    (lCloth__warp_count : K.lookup fCloth__warp_count = some ⟨ocCloth__warp_count, odCloth__warp_count, .func (PySem.W.fnOf "warp_count" "Cloth.warp_count" (defArgs sCloth__warp_count) (defBody sCloth__warp_count) (defScope sCloth__warp_count) .none kVCloth__warp_count dcCloth__warp_count pmCloth__warp_count anCloth__warp_count cdCloth__warp_count ctCloth__warp_count), slCloth__warp_count⟩)
    (cCloth__warp_count : PySem.W.codeIn K cdCloth__warp_count "Cloth.warp_count" = true)
    (kCloth__warp_count : PySem.W.keepIn K (.ref fCloth__warp_count) = true)
    {fCloth__weft_count pCloth__weft_count : Addr} {rsCloth__weft_count : List Value}
    (pfCloth__weft_count : PySem.W.findIn K (.ref ACloth) "weft_count" = some (some (.ref pCloth__weft_count)))
    (pgCloth__weft_count : PySem.W.specialIn K (.ref pCloth__weft_count) "__get__" = some (some (.builtin "property.__get__")))
    (ptCloth__weft_count : PySem.W.takesIn K (.ref pCloth__weft_count) = some true)
    (prCloth__weft_count : PySem.W.recIn K pCloth__weft_count "property" = some (.ref fCloth__weft_count :: rsCloth__weft_count))
    {ocCloth__weft_count : Value} {odCloth__weft_count anCloth__weft_count : Option Addr} {slCloth__weft_count : Array (Option Value)} {kVCloth__weft_count dcCloth__weft_count pmCloth__weft_count cdCloth__weft_count ctCloth__weft_count : Value}
    (lCloth__weft_count : K.lookup fCloth__weft_count = some ⟨ocCloth__weft_count, odCloth__weft_count, .func (PySem.W.fnOf "weft_count" "Cloth.weft_count" (defArgs sCloth__weft_count) (defBody sCloth__weft_count) (defScope sCloth__weft_count) .none kVCloth__weft_count dcCloth__weft_count pmCloth__weft_count anCloth__weft_count cdCloth__weft_count ctCloth__weft_count), slCloth__weft_count⟩)
    (cCloth__weft_count : PySem.W.codeIn K cdCloth__weft_count "Cloth.weft_count" = true)
    (kCloth__weft_count : PySem.W.keepIn K (.ref fCloth__weft_count) = true)
    {f_law_box : Addr} {oc_law_box : Value} {od_law_box an_law_box : Option Addr} {sl_law_box : Array (Option Value)} {kV_law_box dc_law_box pm_law_box cd_law_box ct_law_box : Value}
    (a_law_box : PySem.W.nsIn K mainGlobals "_law_box" = some (some (.ref f_law_box)))
    (l_law_box : K.lookup f_law_box = some ⟨oc_law_box, od_law_box, .func (PySem.W.fnOf "_law_box" "_law_box" (defArgs s_law_box) (defBody s_law_box) (defScope s_law_box) .none kV_law_box dc_law_box pm_law_box an_law_box cd_law_box ct_law_box), sl_law_box⟩)
    (c_law_box : PySem.W.codeIn K cd_law_box "_law_box" = true)
    (k_law_box : PySem.W.keepIn K (.ref f_law_box) = true)
    {f_law_cell : Addr} {oc_law_cell : Value} {od_law_cell an_law_cell : Option Addr} {sl_law_cell : Array (Option Value)} {kV_law_cell dc_law_cell pm_law_cell cd_law_cell ct_law_cell : Value}
    (a_law_cell : PySem.W.nsIn K mainGlobals "_law_cell" = some (some (.ref f_law_cell)))
    (l_law_cell : K.lookup f_law_cell = some ⟨oc_law_cell, od_law_cell, .func (PySem.W.fnOf "_law_cell" "_law_cell" (defArgs s_law_cell) (defBody s_law_cell) (defScope s_law_cell) .none kV_law_cell dc_law_cell pm_law_cell an_law_cell cd_law_cell ct_law_cell), sl_law_cell⟩)
    (c_law_cell : PySem.W.codeIn K cd_law_cell "_law_cell" = true)
    (k_law_cell : PySem.W.keepIn K (.ref f_law_cell) = true)
    {f_law_take : Addr} {oc_law_take : Value} {od_law_take an_law_take : Option Addr} {sl_law_take : Array (Option Value)} {kV_law_take dc_law_take pm_law_take cd_law_take ct_law_take : Value}
    (a_law_take : PySem.W.nsIn K mainGlobals "_law_take" = some (some (.ref f_law_take)))
    (l_law_take : K.lookup f_law_take = some ⟨oc_law_take, od_law_take, .func (PySem.W.fnOf "_law_take" "_law_take" (defArgs s_law_take) (defBody s_law_take) (defScope s_law_take) .none kV_law_take dc_law_take pm_law_take an_law_take cd_law_take ct_law_take), sl_law_take⟩)
    (c_law_take : PySem.W.codeIn K cd_law_take "_law_take" = true)
    (k_law_take : PySem.W.keepIn K (.ref f_law_take) = true)
    {f_law_rows : Addr} {oc_law_rows : Value} {od_law_rows an_law_rows : Option Addr} {sl_law_rows : Array (Option Value)} {kV_law_rows dc_law_rows pm_law_rows cd_law_rows ct_law_rows : Value}
    (a_law_rows : PySem.W.nsIn K mainGlobals "_law_rows" = some (some (.ref f_law_rows)))
    (l_law_rows : K.lookup f_law_rows = some ⟨oc_law_rows, od_law_rows, .func (PySem.W.fnOf "_law_rows" "_law_rows" (defArgs s_law_rows) (defBody s_law_rows) (defScope s_law_rows) .none kV_law_rows dc_law_rows pm_law_rows an_law_rows cd_law_rows ct_law_rows), sl_law_rows⟩)
    (c_law_rows : PySem.W.codeIn K cd_law_rows "_law_rows" = true)
    (k_law_rows : PySem.W.keepIn K (.ref f_law_rows) = true)
    {fis_sequence : Addr} {ocis_sequence : Value} {odis_sequence anis_sequence : Option Addr} {slis_sequence : Array (Option Value)} {kVis_sequence dcis_sequence pmis_sequence cdis_sequence ctis_sequence : Value}
    (ais_sequence : PySem.W.nsIn K mainGlobals "is_sequence" = some (some (.ref fis_sequence)))
    (lis_sequence : K.lookup fis_sequence = some ⟨ocis_sequence, odis_sequence, .func (PySem.W.fnOf "is_sequence" "is_sequence" (defArgs sis_sequence) (defBody sis_sequence) (defScope sis_sequence) .none kVis_sequence dcis_sequence pmis_sequence anis_sequence cdis_sequence ctis_sequence), slis_sequence⟩)
    (cis_sequence : PySem.W.codeIn K cdis_sequence "is_sequence" = true)
    (kis_sequence : PySem.W.keepIn K (.ref fis_sequence) = true)
    {fis_pattern : Addr} {ocis_pattern : Value} {odis_pattern anis_pattern : Option Addr} {slis_pattern : Array (Option Value)} {kVis_pattern dcis_pattern pmis_pattern cdis_pattern ctis_pattern : Value}
    (ais_pattern : PySem.W.nsIn K mainGlobals "is_pattern" = some (some (.ref fis_pattern)))
    (lis_pattern : K.lookup fis_pattern = some ⟨ocis_pattern, odis_pattern, .func (PySem.W.fnOf "is_pattern" "is_pattern" (defArgs sis_pattern) (defBody sis_pattern) (defScope sis_pattern) .none kVis_pattern dcis_pattern pmis_pattern anis_pattern cdis_pattern ctis_pattern), slis_pattern⟩)
    (cis_pattern : PySem.W.codeIn K cdis_pattern "is_pattern" = true)
    (kis_pattern : PySem.W.keepIn K (.ref fis_pattern) = true)
    {fare_rows : Addr} {ocare_rows : Value} {odare_rows anare_rows : Option Addr} {slare_rows : Array (Option Value)} {kVare_rows dcare_rows pmare_rows cdare_rows ctare_rows : Value}
    (aare_rows : PySem.W.nsIn K mainGlobals "are_rows" = some (some (.ref fare_rows)))
    (lare_rows : K.lookup fare_rows = some ⟨ocare_rows, odare_rows, .func (PySem.W.fnOf "are_rows" "are_rows" (defArgs sare_rows) (defBody sare_rows) (defScope sare_rows) .none kVare_rows dcare_rows pmare_rows anare_rows cdare_rows ctare_rows), slare_rows⟩)
    (care_rows : PySem.W.codeIn K cdare_rows "are_rows" = true)
    (kare_rows : PySem.W.keepIn K (.ref fare_rows) = true)
    {f_law_crossings : Addr} {oc_law_crossings : Value} {od_law_crossings an_law_crossings : Option Addr} {sl_law_crossings : Array (Option Value)} {kV_law_crossings dc_law_crossings pm_law_crossings cd_law_crossings ct_law_crossings : Value}
    (a_law_crossings : PySem.W.nsIn K mainGlobals "_law_crossings" = some (some (.ref f_law_crossings)))
    (l_law_crossings : K.lookup f_law_crossings = some ⟨oc_law_crossings, od_law_crossings, .func (PySem.W.fnOf "_law_crossings" "_law_crossings" (defArgs s_law_crossings) (defBody s_law_crossings) (defScope s_law_crossings) .none kV_law_crossings dc_law_crossings pm_law_crossings an_law_crossings cd_law_crossings ct_law_crossings), sl_law_crossings⟩)
    (c_law_crossings : PySem.W.codeIn K cd_law_crossings "_law_crossings" = true)
    (k_law_crossings : PySem.W.keepIn K (.ref f_law_crossings) = true)
    {f_law_odd : Addr} {oc_law_odd : Value} {od_law_odd an_law_odd : Option Addr} {sl_law_odd : Array (Option Value)} {kV_law_odd dc_law_odd pm_law_odd cd_law_odd ct_law_odd : Value}
    (a_law_odd : PySem.W.nsIn K mainGlobals "_law_odd" = some (some (.ref f_law_odd)))
    (l_law_odd : K.lookup f_law_odd = some ⟨oc_law_odd, od_law_odd, .func (PySem.W.fnOf "_law_odd" "_law_odd" (defArgs s_law_odd) (defBody s_law_odd) (defScope s_law_odd) .none kV_law_odd dc_law_odd pm_law_odd an_law_odd cd_law_odd ct_law_odd), sl_law_odd⟩)
    (c_law_odd : PySem.W.codeIn K cd_law_odd "_law_odd" = true)
    (k_law_odd : PySem.W.keepIn K (.ref f_law_odd) = true)
    {f_law_spoilt : Addr} {oc_law_spoilt : Value} {od_law_spoilt an_law_spoilt : Option Addr} {sl_law_spoilt : Array (Option Value)} {kV_law_spoilt dc_law_spoilt pm_law_spoilt cd_law_spoilt ct_law_spoilt : Value}
    (a_law_spoilt : PySem.W.nsIn K mainGlobals "_law_spoilt" = some (some (.ref f_law_spoilt)))
    (l_law_spoilt : K.lookup f_law_spoilt = some ⟨oc_law_spoilt, od_law_spoilt, .func (PySem.W.fnOf "_law_spoilt" "_law_spoilt" (defArgs s_law_spoilt) (defBody s_law_spoilt) (defScope s_law_spoilt) .none kV_law_spoilt dc_law_spoilt pm_law_spoilt an_law_spoilt cd_law_spoilt ct_law_spoilt), sl_law_spoilt⟩)
    (c_law_spoilt : PySem.W.codeIn K cd_law_spoilt "_law_spoilt" = true)
    (k_law_spoilt : PySem.W.keepIn K (.ref f_law_spoilt) = true)
    {f_law_turned : Addr} {oc_law_turned : Value} {od_law_turned an_law_turned : Option Addr} {sl_law_turned : Array (Option Value)} {kV_law_turned dc_law_turned pm_law_turned cd_law_turned ct_law_turned : Value}
    (a_law_turned : PySem.W.nsIn K mainGlobals "_law_turned" = some (some (.ref f_law_turned)))
    (l_law_turned : K.lookup f_law_turned = some ⟨oc_law_turned, od_law_turned, .func (PySem.W.fnOf "_law_turned" "_law_turned" (defArgs s_law_turned) (defBody s_law_turned) (defScope s_law_turned) .none kV_law_turned dc_law_turned pm_law_turned an_law_turned cd_law_turned ct_law_turned), sl_law_turned⟩)
    (c_law_turned : PySem.W.codeIn K cd_law_turned "_law_turned" = true)
    (k_law_turned : PySem.W.keepIn K (.ref f_law_turned) = true)
    {f_law_due : Addr} {oc_law_due : Value} {od_law_due an_law_due : Option Addr} {sl_law_due : Array (Option Value)} {kV_law_due dc_law_due pm_law_due cd_law_due ct_law_due : Value}
    (a_law_due : PySem.W.nsIn K mainGlobals "_law_due" = some (some (.ref f_law_due)))
    (l_law_due : K.lookup f_law_due = some ⟨oc_law_due, od_law_due, .func (PySem.W.fnOf "_law_due" "_law_due" (defArgs s_law_due) (defBody s_law_due) (defScope s_law_due) .none kV_law_due dc_law_due pm_law_due an_law_due cd_law_due ct_law_due), sl_law_due⟩)
    (c_law_due : PySem.W.codeIn K cd_law_due "_law_due" = true)
    (k_law_due : PySem.W.keepIn K (.ref f_law_due) = true)
    {fneed_items : Addr} {ocneed_items : Value} {odneed_items anneed_items : Option Addr} {slneed_items : Array (Option Value)} {kVneed_items dcneed_items pmneed_items cdneed_items ctneed_items : Value}
    (aneed_items : PySem.W.nsIn K mainGlobals "need_items" = some (some (.ref fneed_items)))
    (lneed_items : K.lookup fneed_items = some ⟨ocneed_items, odneed_items, .func (PySem.W.fnOf "need_items" "need_items" (defArgs sneed_items) (defBody sneed_items) (defScope sneed_items) .none kVneed_items dcneed_items pmneed_items anneed_items cdneed_items ctneed_items), slneed_items⟩)
    (cneed_items : PySem.W.codeIn K cdneed_items "need_items" = true)
    (kneed_items : PySem.W.keepIn K (.ref fneed_items) = true)
    {fis_integer : Addr} {ocis_integer : Value} {odis_integer anis_integer : Option Addr} {slis_integer : Array (Option Value)} {kVis_integer dcis_integer pmis_integer cdis_integer ctis_integer : Value}
    (ais_integer : PySem.W.nsIn K mainGlobals "is_integer" = some (some (.ref fis_integer)))
    (lis_integer : K.lookup fis_integer = some ⟨ocis_integer, odis_integer, .func (PySem.W.fnOf "is_integer" "is_integer" (defArgs sis_integer) (defBody sis_integer) (defScope sis_integer) .none kVis_integer dcis_integer pmis_integer anis_integer cdis_integer ctis_integer), slis_integer⟩)
    (cis_integer : PySem.W.codeIn K cdis_integer "is_integer" = true)
    (kis_integer : PySem.W.keepIn K (.ref fis_integer) = true)
    {fis_crossing : Addr} {ocis_crossing : Value} {odis_crossing anis_crossing : Option Addr} {slis_crossing : Array (Option Value)} {kVis_crossing dcis_crossing pmis_crossing cdis_crossing ctis_crossing : Value}
    (ais_crossing : PySem.W.nsIn K mainGlobals "is_crossing" = some (some (.ref fis_crossing)))
    (lis_crossing : K.lookup fis_crossing = some ⟨ocis_crossing, odis_crossing, .func (PySem.W.fnOf "is_crossing" "is_crossing" (defArgs sis_crossing) (defBody sis_crossing) (defScope sis_crossing) .none kVis_crossing dcis_crossing pmis_crossing anis_crossing cdis_crossing ctis_crossing), slis_crossing⟩)
    (cis_crossing : PySem.W.codeIn K cdis_crossing "is_crossing" = true)
    (kis_crossing : PySem.W.keepIn K (.ref fis_crossing) = true)
    {fexchanged : Addr} {ocexchanged : Value} {odexchanged anexchanged : Option Addr} {slexchanged : Array (Option Value)} {kVexchanged dcexchanged pmexchanged cdexchanged ctexchanged : Value}
    (aexchanged : PySem.W.nsIn K mainGlobals "exchanged" = some (some (.ref fexchanged)))
    (lexchanged : K.lookup fexchanged = some ⟨ocexchanged, odexchanged, .func (PySem.W.fnOf "exchanged" "exchanged" (defArgs sexchanged) (defBody sexchanged) (defScope sexchanged) .none kVexchanged dcexchanged pmexchanged anexchanged cdexchanged ctexchanged), slexchanged⟩)
    (cexchanged : PySem.W.codeIn K cdexchanged "exchanged" = true)
    (kexchanged : PySem.W.keepIn K (.ref fexchanged) = true)
    {f_law_caught : Addr} {oc_law_caught : Value} {od_law_caught an_law_caught : Option Addr} {sl_law_caught : Array (Option Value)} {kV_law_caught dc_law_caught pm_law_caught cd_law_caught ct_law_caught : Value}
    (a_law_caught : PySem.W.nsIn K mainGlobals "_law_caught" = some (some (.ref f_law_caught)))
    (l_law_caught : K.lookup f_law_caught = some ⟨oc_law_caught, od_law_caught, .func (PySem.W.fnOf "_law_caught" "_law_caught" (defArgs s_law_caught) (defBody s_law_caught) (defScope s_law_caught) .none kV_law_caught dc_law_caught pm_law_caught an_law_caught cd_law_caught ct_law_caught), sl_law_caught⟩)
    (c_law_caught : PySem.W.codeIn K cd_law_caught "_law_caught" = true)
    (k_law_caught : PySem.W.keepIn K (.ref f_law_caught) = true)
    {f_law_right : Addr} {oc_law_right : Value} {od_law_right an_law_right : Option Addr} {sl_law_right : Array (Option Value)} {kV_law_right dc_law_right pm_law_right cd_law_right ct_law_right : Value}
    (a_law_right : PySem.W.nsIn K mainGlobals "_law_right" = some (some (.ref f_law_right)))
    (l_law_right : K.lookup f_law_right = some ⟨oc_law_right, od_law_right, .func (PySem.W.fnOf "_law_right" "_law_right" (defArgs s_law_right) (defBody s_law_right) (defScope s_law_right) .none kV_law_right dc_law_right pm_law_right an_law_right cd_law_right ct_law_right), sl_law_right⟩)
    (c_law_right : PySem.W.codeIn K cd_law_right "_law_right" = true)
    (k_law_right : PySem.W.keepIn K (.ref f_law_right) = true)
    {flaw : Addr} {oclaw : Value} {odlaw anlaw : Option Addr} {sllaw : Array (Option Value)} {kVlaw dclaw pmlaw cdlaw ctlaw : Value}
    (alaw : PySem.W.nsIn K mainGlobals "law" = some (some (.ref flaw)))
    (llaw : K.lookup flaw = some ⟨oclaw, odlaw, .func (PySem.W.fnOf "law" "law" (defArgs slaw) (defBody slaw) (defScope slaw) .none kVlaw dclaw pmlaw anlaw cdlaw ctlaw), sllaw⟩)
    (claw : PySem.W.codeIn K cdlaw "law" = true)
    (klaw : PySem.W.keepIn K (.ref flaw) = true) :
    ∃ fd : FuncData, (∀ (s : Shared) (u : Value), BindsTo s fd ⟨[u], []⟩ [("_law_script", u)]) ∧ ∀ base : Heap, K.In base → base.Ns mainGlobals mg → GFn P w K mg base 8 fa fd ["_law_script"] glaw := by
  have T : Txt P K mg := ⟨PySem.W.mg_none_of X G z_all,
   PySem.W.mg_none_of X G z_bool,
   PySem.W.mg_none_of X G z_enumerate,
   PySem.W.mg_none_of X G z_int,
   PySem.W.mg_none_of X G z_isinstance,
   PySem.W.mg_none_of X G z_len,
   PySem.W.mg_none_of X G z_list,
   PySem.W.mg_none_of X G z_max,
   PySem.W.mg_none_of X G z_min,
   PySem.W.mg_none_of X G z_range,
   PySem.W.mg_none_of X G z_repr,
   PySem.W.mg_none_of X G z_str,
   PySem.W.mg_none_of X G z_tuple,
   isc_str (PySem.W.mg_of X G a_SIGNS),
   fun _ _ h => PySem.W.mg_of X G h,
   ⟨PySem.W.mg_none_of X G z_super, z_third⟩,
   ⟨⟨CDuplicate, fIDuplicate, xaDuplicate, ⟨_, _, _, _, bmDuplicate, _, _, _, _, _, _, _, _, _, _, _, _, _, _, PySem.Mxe.xb_ValueError, xcDuplicate, xtDuplicate, xsDuplicate, xbDuplicate⟩, xiDuplicate, xyDuplicate, ⟨ccDuplicate, cdaDuplicate, _, _, _, _, _, _, _, _, _, _, _, _, _, _, _, _, _, _, _, _, _, _, _, vsDuplicate, _, ⟨rfl, rfl, rfl, by decide +kernel, rfl, rfl, rfl, rfl, by decide, by decide, z_top, ⟨_, _, _, _, _, _, _, _, _, _, _, rfl, rfl⟩⟩, xlDuplicate, xoDuplicate, xdDuplicate, xvDuplicate, xfDuplicate, xeDuplicate, rfl, rfl, fun _ _ _ => .of_eq rfl⟩, xmDuplicate, xpDuplicate, xnDuplicate, xqDuplicate, xrDuplicate, xkDuplicate, xgDuplicate, xhDuplicate, xjDuplicate⟩⟩,
   ⟨⟨CInvalidCrossing, fIInvalidCrossing, xaInvalidCrossing, ⟨_, _, _, _, bmInvalidCrossing, _, _, _, _, _, _, _, _, _, _, _, _, _, _, PySem.Mxe.xb_ValueError, xcInvalidCrossing, xtInvalidCrossing, xsInvalidCrossing, xbInvalidCrossing⟩, xiInvalidCrossing, xyInvalidCrossing, ⟨ccInvalidCrossing, cdaInvalidCrossing, _, _, _, _, _, _, _, _, _, _, _, _, _, _, _, _, _, _, _, _, _, _, _, vsInvalidCrossing, _, ⟨rfl, rfl, rfl, by decide +kernel, rfl, rfl, rfl, rfl, by decide, by decide, z_top, ⟨_, _, _, _, _, _, _, _, _, _, _, rfl, rfl⟩⟩, xlInvalidCrossing, xoInvalidCrossing, xdInvalidCrossing, xvInvalidCrossing, xfInvalidCrossing, xeInvalidCrossing, rfl, rfl, fun _ _ _ => .of_eq rfl⟩, xmInvalidCrossing, xpInvalidCrossing, xnInvalidCrossing, xqInvalidCrossing, xrInvalidCrossing, xkInvalidCrossing, xgInvalidCrossing, xhInvalidCrossing, xjInvalidCrossing⟩⟩,
   ⟨⟨CInvalidList, fIInvalidList, xaInvalidList, ⟨_, _, _, _, bmInvalidList, _, _, _, _, _, _, _, _, _, _, _, _, _, _, PySem.Mxe.xb_ValueError, xcInvalidList, xtInvalidList, xsInvalidList, xbInvalidList⟩, xiInvalidList, xyInvalidList, ⟨ccInvalidList, cdaInvalidList, _, _, _, _, _, _, _, _, _, _, _, _, _, _, _, _, _, _, _, _, _, _, _, vsInvalidList, _, ⟨rfl, rfl, rfl, by decide +kernel, rfl, rfl, rfl, rfl, by decide, by decide, z_top, ⟨_, _, _, _, _, _, _, _, _, _, _, rfl, rfl⟩⟩, xlInvalidList, xoInvalidList, xdInvalidList, xvInvalidList, xfInvalidList, xeInvalidList, rfl, rfl, fun _ _ _ => .of_eq rfl⟩, xmInvalidList, xpInvalidList, xnInvalidList, xqInvalidList, xrInvalidList, xkInvalidList, xgInvalidList, xhInvalidList, xjInvalidList⟩⟩,
   ⟨⟨CInvalidRows, fIInvalidRows, xaInvalidRows, ⟨_, _, _, _, bmInvalidRows, _, _, _, _, _, _, _, _, _, _, _, _, _, _, PySem.Mxe.xb_ValueError, xcInvalidRows, xtInvalidRows, xsInvalidRows, xbInvalidRows⟩, xiInvalidRows, xyInvalidRows, ⟨ccInvalidRows, cdaInvalidRows, _, _, _, _, _, _, _, _, _, _, _, _, _, _, _, _, _, _, _, _, _, _, _, vsInvalidRows, _, ⟨rfl, rfl, rfl, by decide +kernel, rfl, rfl, rfl, rfl, by decide, by decide, z_top, ⟨_, _, _, _, _, _, _, _, _, _, _, rfl, rfl⟩⟩, xlInvalidRows, xoInvalidRows, xdInvalidRows, xvInvalidRows, xfInvalidRows, xeInvalidRows, rfl, rfl, fun _ _ _ => .of_eq rfl⟩, xmInvalidRows, xpInvalidRows, xnInvalidRows, xqInvalidRows, xrInvalidRows, xkInvalidRows, xgInvalidRows, xhInvalidRows, xjInvalidRows⟩⟩,
   ⟨_, xaDuplicate⟩,
   ⟨_, xaInvalidCrossing⟩,
   ⟨_, xaInvalidList⟩,
   exm_of (.inl xaInvalidRows) (.inl xaDuplicate) (exm_mk hbDuplicate hcDuplicate htDuplicate em_InvalidRows_Duplicate) (by decide +kernel),
   exm_of (.inl xaInvalidList) (.inl xaDuplicate) (exm_mk hbDuplicate hcDuplicate htDuplicate em_InvalidList_Duplicate) (by decide +kernel),
   exm_of (.inl xaInvalidCrossing) (.inl xaDuplicate) (exm_mk hbDuplicate hcDuplicate htDuplicate em_InvalidCrossing_Duplicate) (by decide +kernel),
   exm_of (.inl xaDuplicate) (.inl xaDuplicate) (exm_mk hbDuplicate hcDuplicate htDuplicate em_Duplicate_Duplicate) (by decide +kernel),
   exm_of (.inl xaInvalidRows) (.inl xaInvalidCrossing) (exm_mk hbInvalidCrossing hcInvalidCrossing htInvalidCrossing em_InvalidRows_InvalidCrossing) (by decide +kernel),
   exm_of (.inl xaInvalidList) (.inl xaInvalidCrossing) (exm_mk hbInvalidCrossing hcInvalidCrossing htInvalidCrossing em_InvalidList_InvalidCrossing) (by decide +kernel),
   exm_of (.inl xaInvalidCrossing) (.inl xaInvalidCrossing) (exm_mk hbInvalidCrossing hcInvalidCrossing htInvalidCrossing em_InvalidCrossing_InvalidCrossing) (by decide +kernel),
   exm_of (.inl xaDuplicate) (.inl xaInvalidCrossing) (exm_mk hbInvalidCrossing hcInvalidCrossing htInvalidCrossing em_Duplicate_InvalidCrossing) (by decide +kernel),
   exm_of (.inl xaInvalidRows) (.inl xaInvalidList) (exm_mk hbInvalidList hcInvalidList htInvalidList em_InvalidRows_InvalidList) (by decide +kernel),
   exm_of (.inl xaInvalidList) (.inl xaInvalidList) (exm_mk hbInvalidList hcInvalidList htInvalidList em_InvalidList_InvalidList) (by decide +kernel),
   exm_of (.inl xaInvalidCrossing) (.inl xaInvalidList) (exm_mk hbInvalidList hcInvalidList htInvalidList em_InvalidCrossing_InvalidList) (by decide +kernel),
   exm_of (.inl xaDuplicate) (.inl xaInvalidList) (exm_mk hbInvalidList hcInvalidList htInvalidList em_Duplicate_InvalidList) (by decide +kernel),
   ⟨ACloth, .inl caCloth, ⟨cpCloth, cdCloth, coCloth, csCloth⟩, fn_Cloth_kept_rows⟩,
   ⟨ACloth, .type "type", _, caCloth, ⟨rdCloth, rgCloth⟩, ⟨cv_Cloth_MOST, ⟨_, rfl⟩⟩⟩,
   ⟨ACloth, fCloth____init__, caCloth, ⟨kiCloth, kfCloth, knCloth, kkCloth⟩, ⟨_, fun_mk (st := sCloth____init__) lCloth____init__ cCloth____init__ kCloth____init__, (fun_mk (st := sCloth____init__) lCloth____init__ cCloth____init__ kCloth____init__).binds fun _ _ _ _ _ _ us hl => match us, hl with | [_, _], _ => rfl⟩⟩,
   ⟨ACloth, fCloth__rows, .inl caCloth, ⟨cpCloth, cdCloth, coCloth, csCloth⟩, ⟨mfCloth__rows, mnCloth__rows, kCloth__rows⟩, ⟨_, fun_mk (st := sCloth__rows) lCloth__rows cCloth__rows kCloth__rows, (fun_mk (st := sCloth__rows) lCloth__rows cCloth__rows kCloth__rows).binds fun _ _ _ _ _ _ us hl => match us, hl with | [_], _ => rfl⟩⟩,
   ⟨ACloth, fCloth__turned, .inl caCloth, ⟨cpCloth, cdCloth, coCloth, csCloth⟩, ⟨mfCloth__turned, mnCloth__turned, kCloth__turned⟩, ⟨_, fun_mk (st := sCloth__turned) lCloth__turned cCloth__turned kCloth__turned, (fun_mk (st := sCloth__turned) lCloth__turned cCloth__turned kCloth__turned).binds fun _ _ _ _ _ _ us hl => match us, hl with | [_, _], _ => rfl⟩⟩,
   ⟨ACloth, pCloth__warp_count, fCloth__warp_count, .inl caCloth, ⟨cpCloth, cdCloth, coCloth, csCloth⟩, ⟨pfCloth__warp_count, pgCloth__warp_count, ptCloth__warp_count, ⟨rsCloth__warp_count, prCloth__warp_count⟩⟩, ⟨_, fun_mk (st := sCloth__warp_count) lCloth__warp_count cCloth__warp_count kCloth__warp_count, (fun_mk (st := sCloth__warp_count) lCloth__warp_count cCloth__warp_count kCloth__warp_count).binds fun _ _ _ _ _ _ us hl => match us, hl with | [_], _ => rfl⟩⟩,
   ⟨ACloth, pCloth__weft_count, fCloth__weft_count, .inl caCloth, ⟨cpCloth, cdCloth, coCloth, csCloth⟩, ⟨pfCloth__weft_count, pgCloth__weft_count, ptCloth__weft_count, ⟨rsCloth__weft_count, prCloth__weft_count⟩⟩, ⟨_, fun_mk (st := sCloth__weft_count) lCloth__weft_count cCloth__weft_count kCloth__weft_count, (fun_mk (st := sCloth__weft_count) lCloth__weft_count cCloth__weft_count kCloth__weft_count).binds fun _ _ _ _ _ _ us hl => match us, hl with | [_], _ => rfl⟩⟩,
   ⟨f_law_box, _, PySem.W.mg_of X G a_law_box, fun_mk (st := s_law_box) l_law_box c_law_box k_law_box, (fun_mk (st := s_law_box) l_law_box c_law_box k_law_box).binds fun _ _ _ _ _ _ us hl => match us, hl with | [_], _ => rfl⟩,
   ⟨f_law_cell, _, PySem.W.mg_of X G a_law_cell, fun_mk (st := s_law_cell) l_law_cell c_law_cell k_law_cell, (fun_mk (st := s_law_cell) l_law_cell c_law_cell k_law_cell).binds fun _ _ _ _ _ _ us hl => match us, hl with | [_, _], _ => rfl⟩,
   ⟨f_law_take, _, PySem.W.mg_of X G a_law_take, fun_mk (st := s_law_take) l_law_take c_law_take k_law_take, (fun_mk (st := s_law_take) l_law_take c_law_take k_law_take).binds fun _ _ _ _ _ _ us hl => match us, hl with | [_, _], _ => rfl⟩,
   ⟨f_law_rows, _, PySem.W.mg_of X G a_law_rows, fun_mk (st := s_law_rows) l_law_rows c_law_rows k_law_rows, (fun_mk (st := s_law_rows) l_law_rows c_law_rows k_law_rows).binds fun _ _ _ _ _ _ us hl => match us, hl with | [_], _ => rfl⟩,
   ⟨fis_sequence, _, PySem.W.mg_of X G ais_sequence, fun_mk (st := sis_sequence) lis_sequence cis_sequence kis_sequence, (fun_mk (st := sis_sequence) lis_sequence cis_sequence kis_sequence).binds fun _ _ _ _ _ _ us hl => match us, hl with | [_], _ => rfl⟩,
   ⟨fis_pattern, _, PySem.W.mg_of X G ais_pattern, fun_mk (st := sis_pattern) lis_pattern cis_pattern kis_pattern, (fun_mk (st := sis_pattern) lis_pattern cis_pattern kis_pattern).binds fun _ _ _ _ _ _ us hl => match us, hl with | [_, _], _ => rfl⟩,
   ⟨fare_rows, _, PySem.W.mg_of X G aare_rows, fun_mk (st := sare_rows) lare_rows care_rows kare_rows, (fun_mk (st := sare_rows) lare_rows care_rows kare_rows).binds fun _ _ _ _ _ _ us hl => match us, hl with | [_, _], _ => rfl⟩,
   ⟨f_law_crossings, _, PySem.W.mg_of X G a_law_crossings, fun_mk (st := s_law_crossings) l_law_crossings c_law_crossings k_law_crossings, (fun_mk (st := s_law_crossings) l_law_crossings c_law_crossings k_law_crossings).binds fun _ _ _ _ _ _ us hl => match us, hl with | [_, _], _ => rfl⟩,
   ⟨f_law_odd, _, PySem.W.mg_of X G a_law_odd, fun_mk (st := s_law_odd) l_law_odd c_law_odd k_law_odd, (fun_mk (st := s_law_odd) l_law_odd c_law_odd k_law_odd).binds fun _ _ _ _ _ _ us hl => match us, hl with | [_], _ => rfl⟩,
   ⟨f_law_spoilt, _, PySem.W.mg_of X G a_law_spoilt, fun_mk (st := s_law_spoilt) l_law_spoilt c_law_spoilt k_law_spoilt, (fun_mk (st := s_law_spoilt) l_law_spoilt c_law_spoilt k_law_spoilt).binds fun _ _ _ _ _ _ us hl => match us, hl with | [_, _, _], _ => rfl⟩,
   ⟨f_law_turned, _, PySem.W.mg_of X G a_law_turned, fun_mk (st := s_law_turned) l_law_turned c_law_turned k_law_turned, (fun_mk (st := s_law_turned) l_law_turned c_law_turned k_law_turned).binds fun _ _ _ _ _ _ us hl => match us, hl with | [_, _], _ => rfl⟩,
   ⟨f_law_due, _, PySem.W.mg_of X G a_law_due, fun_mk (st := s_law_due) l_law_due c_law_due k_law_due, (fun_mk (st := s_law_due) l_law_due c_law_due k_law_due).binds fun _ _ _ _ _ _ us hl => match us, hl with | [_, _], _ => rfl⟩,
   ⟨fneed_items, _, PySem.W.mg_of X G aneed_items, fun_mk (st := sneed_items) lneed_items cneed_items kneed_items, (fun_mk (st := sneed_items) lneed_items cneed_items kneed_items).binds fun _ _ _ _ _ _ us hl => match us, hl with | [_, _], _ => rfl⟩,
   ⟨fis_integer, _, PySem.W.mg_of X G ais_integer, fun_mk (st := sis_integer) lis_integer cis_integer kis_integer, (fun_mk (st := sis_integer) lis_integer cis_integer kis_integer).binds fun _ _ _ _ _ _ us hl => match us, hl with | [_, _, _], _ => rfl⟩,
   ⟨fis_crossing, _, PySem.W.mg_of X G ais_crossing, fun_mk (st := sis_crossing) lis_crossing cis_crossing kis_crossing, (fun_mk (st := sis_crossing) lis_crossing cis_crossing kis_crossing).binds fun _ _ _ _ _ _ us hl => match us, hl with | [_, _, _], _ => rfl⟩,
   ⟨fexchanged, _, PySem.W.mg_of X G aexchanged, fun_mk (st := sexchanged) lexchanged cexchanged kexchanged, (fun_mk (st := sexchanged) lexchanged cexchanged kexchanged).binds fun _ _ _ _ _ _ us hl => match us, hl with | [_], _ => rfl⟩,
   ⟨f_law_caught, _, PySem.W.mg_of X G a_law_caught, fun_mk (st := s_law_caught) l_law_caught c_law_caught k_law_caught, (fun_mk (st := s_law_caught) l_law_caught c_law_caught k_law_caught).binds fun _ _ _ _ _ _ us hl => match us, hl with | [_, _], _ => rfl⟩,
   ⟨f_law_right, _, PySem.W.mg_of X G a_law_right, fun_mk (st := s_law_right) l_law_right c_law_right k_law_right, (fun_mk (st := s_law_right) l_law_right c_law_right k_law_right).binds fun _ _ _ _ _ _ us hl => match us, hl with | [_, _, _], _ => rfl⟩,
   ⟨flaw, _, PySem.W.mg_of X G alaw, fun_mk (st := slaw) llaw claw klaw, (fun_mk (st := slaw) llaw claw klaw).binds fun _ _ _ _ _ _ us hl => match us, hl with | [_], _ => rfl⟩⟩
  cases hmg.symm.trans T.flaw.mgf
  refine ⟨T.flaw.fd, fun s u => ?_, fun base _ _ => L2.Lw.klaw T⟩
  obtain ⟨_, _, _, _, _, _, _, _, _, e, _, _⟩ := T.flaw.F.ex
  rw [e]
  exact .of_eq rfl
end L2.Lw

namespace L2.Lw
open PySem PySem.Spec PyProof.Rows L2 L2.Mi
local macro_rules | `(tactic| walk_at "ok0") => `(tactic| first
  | with_reducible refine os_seq ?_ | with_reducible refine os_set ?_ | with_reducible refine os_ret ?_ | with_reducible refine os_asg ?_ | with_reducible refine os_par ?_ | with_reducible refine os_for ?_
  | with_reducible refine os_expr ?_ | with_reducible refine os_nil ?_ | with_reducible refine os_retn ?_ | with_reducible refine os_brk ?_ | with_reducible refine os_cnt ?_
  | with_reducible refine ok_op ?_ | (with_reducible refine ok_var ?_ ?_; (focus rfl)) | with_reducible refine ok_c ?_ | with_reducible refine ok_un ?_ | with_reducible refine ok_cb ?_ | with_reducible refine ok_anil ?_ | with_reducible refine ok_acons ?_
  | with_reducible refine ok_lst ?_ | with_reducible refine ok_tup ?_ | with_reducible refine ok_lstM ?_ | with_reducible refine ok_dict1 ?_
  | with_reducible refine ok_and ?_ | with_reducible refine ok_or ?_ | with_reducible refine ok_not ?_ | with_reducible refine ok_chain ?_ | with_reducible refine ok_t ?_ | with_reducible refine ok_tnot ?_ | with_reducible refine ok_tand ?_
  | with_reducible refine ok_tor ?_ | with_reducible refine ok_if ?_ | with_reducible refine ok_onone ?_ | with_reducible refine ok_osome ?_ | with_reducible refine ok_slice ?_ | with_reducible refine ok_m1 ?_
  | with_reducible refine ok_bm ?_ | with_reducible refine ok_gs ?_ | with_reducible refine ok_cbd ?_ | with_reducible refine ok_cbk ?_ | with_reducible refine os_ifNm ?_ | with_reducible refine ok_frz ?_ | with_reducible refine ok_itup ?_ | with_reducible refine ok_istr ?_ | with_reducible refine ok_r1 ?_ | with_reducible refine ok_r2 ?_ | with_reducible refine ok_il ?_ | with_reducible refine ok_gn ?_ | with_reducible refine ok_lc ?_
  | refine And.intro (Nat.le_of_ble_eq_true rfl) ?_ | refine Exists.intro _ (And.intro rfl ?_) | refine And.intro (fun _ => ?_) (fun hk => Bool.noConfusion hk) | refine And.intro (fun hk => Bool.noConfusion hk) (fun _ => ?_)
  | ((fail_if_success (with_reducible refine Ok.fun ?_ ?_)); refine ok_ret ?_))
local macro_rules | `(tactic| walk_at "ok1") => `(tactic| first | with_reducible refine os_if ?_ | with_reducible refine os_fcons ?_ | with_reducible refine os_fnil ?_ | walk_at "ok0")
local macro_rules | `(tactic| walk_at "okn") => `(tactic| repeat (walk_at "ok0"))
local macro_rules | `(tactic| walk_at "ok") => `(tactic| repeat (walk_at "ok1"))
local macro_rules | `(tactic| walk_at "nolp") => `(tactic| (fail_if_success (with_reducible refine at_lc ?_); fail_if_success (with_reducible refine at_lcW ?_); fail_if_success (with_reducible refine at_for ?_); fail_if_success (with_reducible refine at_forW ?_); fail_if_success (with_reducible refine at_mul ?_); fail_if_success (with_reducible refine at_mod ?_); fail_if_success (with_reducible refine at_div ?_); fail_if_success (with_reducible refine at_pow ?_)))
local macro_rules | `(tactic| walk_at "ok3") => `(tactic| first
  | with_reducible refine os_seq ?_ | with_reducible refine os_set ?_ | with_reducible refine os_ret ?_ | with_reducible refine os_asg ?_ | with_reducible refine os_par ?_ 
  | with_reducible refine os_expr ?_ | with_reducible refine os_nil ?_ | with_reducible refine os_retn ?_ | with_reducible refine os_brk ?_ | with_reducible refine os_cnt ?_
  | with_reducible refine ok_op ?_ | (with_reducible refine ok_var ?_ ?_; (focus rfl)) | with_reducible refine ok_c ?_ | with_reducible refine ok_un ?_ | with_reducible refine ok_cb ?_ | with_reducible refine ok_anil ?_ | with_reducible refine ok_acons ?_
  | with_reducible refine ok_lst ?_ | with_reducible refine ok_tup ?_ | with_reducible refine ok_lstM ?_ | with_reducible refine ok_dict1 ?_
  | with_reducible refine ok_and ?_ | with_reducible refine ok_or ?_ | with_reducible refine ok_not ?_ | with_reducible refine ok_chain ?_ | with_reducible refine ok_t ?_ | with_reducible refine ok_tnot ?_ | with_reducible refine ok_tand ?_
  | with_reducible refine ok_tor ?_ | with_reducible refine ok_if ?_ | with_reducible refine ok_onone ?_ | with_reducible refine ok_osome ?_ | with_reducible refine ok_slice ?_ | with_reducible refine ok_m1 ?_
  | with_reducible refine ok_bm ?_ | with_reducible refine ok_gs ?_ | with_reducible refine ok_cbd ?_ | with_reducible refine ok_cbk ?_ | with_reducible refine os_ifNm ?_ | with_reducible refine ok_frz ?_ | with_reducible refine ok_gn ?_ 
  | refine And.intro (Nat.le_of_ble_eq_true rfl) ?_ | (walk_at "nolp"; refine Exists.intro _ (And.intro rfl ?_)) | refine And.intro (fun _ => ?_) (fun hk => Bool.noConfusion hk) | refine And.intro (fun hk => Bool.noConfusion hk) (fun _ => ?_)
  | (walk_at "nolp"; (fail_if_success (with_reducible refine Ok.fun ?_ ?_)); refine ok_ret ?_))
local macro_rules | `(tactic| walk_at "okm") => `(tactic| repeat (first | with_reducible refine os_if ?_ | walk_at "ok3"))

theorem ok_eq {α : Type} {r : Mi.R α} {x : α} {c : Cs} (h : Ok r fun d c' => d = x ∧ c' = c) : r = .ok x c := by
  obtain ⟨d, c', e, rfl, rfl⟩ := h
  exact e
structure ElV (x : D) (c : Cs) : Prop where
  ex : ∃ t, tyD x c = some t ∧ (t = "str" → ∃ s, x = .str s ∧ s.length ≤ 5000)
structure SeqV (v : D) (c : Cs) (xs : List D) : Prop where
  sq : seqOf v c = some xs
  ty : tyD v c = some "list" ∨ tyD v c = some "tuple"
  ln : xs.length ≤ 10000
  el : ∀ x ∈ xs, ElV x c
  nr : ∀ ys, v ≠ .ro ys
theorem len_seq {v : D} {c : Cs} {xs : List D} (h : seqOf v c = some xs) : lenD [v] c = .ok (.int xs.length) c := by
  cases v with
  | lst ys => cases h; rfl
  | tup ys => cases h; rfl
  | ro ys => cases h; rfl
  | ref k =>
    have h : (match c[k]? with
      | some (.lst xs) => some xs
      | _ => none) = some xs := h
    cases q : c[k]? with
    | none => rw [q] at h; cases h
    | some y =>
      rw [q] at h
      cases y with
      | lst ys => cases h; simp [lenD, lenC, q]
      | _ => cases h
  | _ => cases h
theorem item_seq {v : D} {c : Cs} {xs : List D} {i : Nat} {x : D} (h : seqOf v c = some xs) (hx : xs[i]? = some x) : itemD v (.int (i : Nat)) c = .ok x c := by
  have hl := (List.getElem?_eq_some_iff.mp hx).1
  have e : ∀ ys : List D, ys = xs → itL ys (i : Nat) c = .ok x c := fun ys e => by subst e; simp [itL, atI, ixN, hl, hx]; exact (List.getElem?_eq_some_iff.mp hx).2
  cases v with
  | lst ys => cases h; exact e _ rfl
  | tup ys => cases h; exact e _ rfl
  | ro ys => cases h; exact e _ rfl
  | ref k =>
    have h : (match c[k]? with
      | some (.lst xs) => some xs
      | _ => none) = some xs := h
    cases q : c[k]? with
    | none => rw [q] at h; cases h
    | some y =>
      rw [q] at h
      cases y with
      | lst ys =>
        cases h
        simp only [itemD, q]
        exact e _ rfl
      | _ => cases h
  | _ => cases h
theorem isi_str {x : D} {c : Cs} {t : String} (h : tyD x c = some t) : isiD [x, .ty "str"] c = .ok (.bl (isT t "str")) c := by simp [isiD, h, tyNames]
theorem isT_str {t : String} (h : t ∈ tyNames) : isT t "str" = (t == "str") := by
  simp only [tyNames, List.mem_cons, List.not_mem_nil, or_false] at h
  rcases h with rfl | rfl | rfl | rfl | rfl | rfl | rfl <;> decide
theorem isi_seq {x : D} {c : Cs} {t : String} (h : tyD x c = some t) : isiD [x, .tup [.ty "list", .ty "tuple"]] c = .ok (.bl (t == "list" || t == "tuple")) c := by
  have hm := tyD_mem h
  have e : isiD [x, .tup [.ty "list", .ty "tuple"]] c = .ok (.bl (isiAny t ["list", "tuple"])) c := by simp [isiD, h, clsL, tyNames]
  rw [e]
  simp only [tyNames, List.mem_cons, List.not_mem_nil, or_false] at hm
  rcases hm with rfl | rfl | rfl | rfl | rfl | rfl | rfl <;> rfl
def bitB (k : Nat) : Bool := k == 48 || k == 49
def rowB (n : Int) (d : D) : Bool := match d with
  | .str s => decide ((s.length : Int) = n) && s.cps.toList.all bitB
  | _ => false
theorem in_dec (k : Nat) : (decide (k ∈ ("01" : Str).cps.toList)) = bitB k := by
  have : ("01" : Str).cps.toList = [48, 49] := by decide +kernel
  rw [this]
  simp [bitB, Bool.decide_or]
  rfl
theorem bls_map {α : Type} (f : α → Bool) : ∀ xs : List α, blsOf (xs.map fun x => D.bl (f x)) = some (xs.map f)
  | [] => rfl
  | x :: xs => by simp [blsOf, bls_map f xs]
theorem all_bls {α : Type} (f : α → Bool) (xs : List α) (c : Cs) : allD [.lst (xs.map fun x => D.bl (f x))] c = .ok (.bl (xs.all f)) c := by
  have e : allD [.lst (xs.map fun x => D.bl (f x))] c = .ok (.bl ((xs.map f).all id)) c := by simp [allD, on1, allP, bls_map]
  rw [e, List.all_map]
  rfl
theorem filter_yes {α : Type} (xs : List α) : xs.filter (fun _ => true) = xs := List.filter_eq_self.mpr fun _ _ => rfl
theorem pattern_eq {d : D} {n : Int} {c : Cs} (h : ElV d c) : gis_pattern [d, .int n] c = .ok (.bl (rowB n d)) c := by
  obtain ⟨t, ht, hs⟩ := h.ex
  have hz : sizeLine = 16777216 := sizeLine_eq
  refine ok_eq (Ok.fun rfl ?_)
  unfold cis_pattern
  walk_at "ok"
  refine Ok.of (isi_str ht) ?_
  rw [isT_str (tyD_mem ht)]
  refine ⟨_, rfl, fun q => ?_, fun q => ?_⟩
  · obtain ⟨s, rfl, hl⟩ := hs (eq_of_beq q)
    walk_at "ok"
    refine ok_len_str (by omega) ?_
    walk_at "ok"
    refine ⟨fun q => ?_, fun q => ?_⟩
    · walk_at "ok"
      refine Ok.of (lcW_pure (w := fixW (chrs s)) (xs := chrs s) (P := fun _ => true) (F := fun x => match x with | .str ⟨a⟩ => .bl (a.toList.all bitB) | _ => .bl false) (lt := fun x => (wipeL [some (.str s), some (.int n), none] [2]).set 2 (some x)) rfl (fun _ => rfl) ?_ ?_) ?_
      · simp only [chrs, List.length_map, Array.length_toList]; have : s.cps.size = s.length := rfl; omega
      · intro x hx
        obtain ⟨k, hk, rfl⟩ := List.mem_map.mp hx
        refine ⟨rfl, rfl, fun _ => ?_⟩
        refine ok_eq ?_
        walk_at "ok"
        refine ⟨?_, rfl⟩
        show D.bl (decide (k ∈ ("01" : Str).cps.toList)) = D.bl ([k].all bitB)
        rw [in_dec]
        simp
      · walk_at "ok"
        have e : ((chrs s).filter fun _ => true).map (fun x => match x with | .str ⟨a⟩ => D.bl (a.toList.all bitB) | _ => .bl false) = s.cps.toList.map fun k => D.bl (bitB k) := by
          rw [filter_yes]
          unfold chrs
          rw [List.map_map]
          refine List.map_congr_left fun k _ => ?_
          simp [Function.comp]
        rw [e]
        refine Ok.of (all_bls bitB _ c) ?_
        simp only [rowB, q, Bool.true_and]
        exact ⟨trivial, trivial⟩
    · refine ⟨?_, rfl⟩
      simp only [rowB, q, Bool.false_and]
  · refine ⟨?_, rfl⟩
    have : ∀ s, d ≠ .str s := fun s e => by
      subst e
      cases ht
      cases q
    cases d <;> first | rfl | exact absurd rfl (this _)
def isRows (xs : List D) : Bool := decide (1 ≤ xs.length) && decide (xs.length ≤ 8) && (match xs with
  | .str s :: _ => decide (1 ≤ s.length) && decide (s.length ≤ 8) && xs.all (rowB s.length)
  | _ => false)

theorem is_sequence_eq {v : D} {c : Cs} {t : String} (h : tyD v c = some t) : gis_sequence [v] c = .ok (.bl (t == "list" || t == "tuple")) c := by
  refine ok_eq (Ok.fun rfl ?_)
  unfold cis_sequence
  walk_at "ok"
  refine Ok.of (isi_seq h) ?_
  exact ⟨rfl, rfl⟩
theorem are_rows_non {v : D} {c : Cs} {t : String} (h : tyD v c = some t) (hn : (t == "list" || t == "tuple") = false) : gare_rows [v, .int 8] c = .ok (.bl false) c := by
  refine ok_eq (Ok.fun rfl ?_)
  unfold care_rows
  walk_at "ok"
  refine Ok.of (is_sequence_eq h) ?_
  rw [hn]
  walk_at "ok"
  exact ⟨rfl, rfl⟩
theorem SeqV.tt {v : D} {c : Cs} {xs : List D} (h : SeqV v c xs) : ∃ t, tyD v c = some t ∧ (t == "list" || t == "tuple") = true := by
  rcases h.ty with e | e
  · exact ⟨_, e, rfl⟩
  · exact ⟨_, e, rfl⟩
theorem are_rows_seq {v : D} {c : Cs} {xs : List D} (h : SeqV v c xs) : gare_rows [v, .int 8] c = .ok (.bl (isRows xs)) c := by
  have hz : sizeLine = 16777216 := sizeLine_eq
  obtain ⟨t, ht, htt⟩ := h.tt
  refine ok_eq (Ok.fun rfl ?_)
  unfold care_rows
  walk_at "ok"
  refine Ok.of (is_sequence_eq ht) ?_
  rw [htt]
  walk_at "ok"
  refine Ok.of (len_seq h.sq) ?_
  walk_at "ok"
  refine ⟨fun q1 => ?_, fun q1 => ?_⟩
  · have q1 := of_decide_eq_true q1
    walk_at "ok"
    refine ⟨fun q2 => ?_, fun q2 => ?_⟩
    · have q2 : ¬ ((xs.length : Int) ≤ 8) := by simpa using q2
      walk_at "ok"
      refine ⟨?_, rfl⟩
      have : decide (xs.length ≤ 8) = false := decide_eq_false (by omega)
      simp [isRows, this]
    · have q2 : (xs.length : Int) ≤ 8 := by simpa using q2
      cases xs with
      | nil => simp at q1
      | cons x r =>
        have hx := h.el x List.mem_cons_self
        obtain ⟨t2, ht2, hs2⟩ := hx.ex
        have i0 := item_seq (i := 0) h.sq rfl
        walk_at "ok"
        refine Ok.of i0 ?_
        walk_at "ok"
        refine Ok.of (isi_str ht2) ?_
        rw [isT_str (tyD_mem ht2)]
        by_cases hstr : t2 = "str"
        · obtain ⟨s, rfl, hsl⟩ := hs2 hstr
          subst hstr
          rw [show (("str" : String) == "str") = true from rfl]
          walk_at "ok"
          refine Ok.of i0 ?_
          walk_at "ok"
          refine ok_len_str (by omega) ?_
          walk_at "ok"
          have d1 : decide (1 ≤ (D.str s :: r).length) = true := by simp
          have d2 : decide ((D.str s :: r).length ≤ 8) = true := decide_eq_true (by omega)
          refine ⟨fun q3 => ?_, fun q3 => ?_⟩
          · have q3 := of_decide_eq_true q3
            walk_at "ok"
            refine ⟨fun q4 => ?_, fun q4 => ?_⟩
            · have q4 : ¬ ((s.length : Int) ≤ 8) := by simpa using q4
              walk_at "ok"
              refine ⟨?_, rfl⟩
              have e4 : decide (s.length ≤ 8) = false := decide_eq_false (by omega)
              simp [isRows, e4]
            · have q4 : (s.length : Int) ≤ 8 := by simpa using q4
              obtain ⟨w, hw1, hw2⟩ := wAny_seq h.sq
              walk_at "ok"
              refine Ok.of (lcW_pure (w := w) (xs := D.str s :: r) (P := fun _ => true) (F := fun y => .bl (rowB s.length y)) (lt := fun y => (wipeL [some v, some (.int 8), none] [2]).set 2 (some y)) hw1 hw2 (by have := h.ln; omega) (fun y hy => ⟨rfl, rfl, fun _ => ?_⟩)) ?_
              · refine ok_eq ?_
                walk_at "ok"
                refine Ok.of i0 ?_
                walk_at "ok"
                refine ok_len_str (by omega) ?_
                walk_at "ok"
                refine Ok.of (pattern_eq (h.el y hy)) ?_
                exact ⟨rfl, rfl⟩
              · rw [filter_yes]
                walk_at "ok"
                refine Ok.of (all_bls _ _ c) ?_
                refine ⟨?_, rfl⟩
                have e3 : decide (1 ≤ s.length) = true := decide_eq_true (by omega)
                have e4 : decide (s.length ≤ 8) = true := decide_eq_true (by omega)
                simp only [isRows, d1, d2, e3, e4, Bool.true_and]
          · have q3 := of_decide_eq_false q3
            walk_at "ok"
            refine ⟨?_, rfl⟩
            have e3 : decide (1 ≤ s.length) = false := decide_eq_false (by omega)
            simp [isRows, e3]
        · rw [show (t2 == "str") = false from beq_eq_false_iff_ne.mpr hstr]
          walk_at "ok"
          refine ⟨?_, rfl⟩
          have : ∀ s, x ≠ .str s := fun s e => by
            subst e
            cases ht2
            exact hstr rfl
          cases x <;> first | rfl | exact absurd rfl (this _) | (simp [isRows])
  · have q1 := of_decide_eq_false q1
    walk_at "ok"
    refine ⟨?_, rfl⟩
    have : decide (1 ≤ xs.length) = false := decide_eq_false (by omega)
    simp [isRows, this]

def okStr (y : D) : Bool := match y with
  | .str s => decide (1 ≤ s.length) && decide (s.length ≤ 8)
  | _ => false
theorem okStrs : ∀ {xs : List D}, xs.all okStr = true → ∃ ys : List Str, xs = ys.map D.str ∧ ∀ y ∈ ys, 1 ≤ y.length ∧ y.length ≤ 8
  | [], _ => ⟨[], rfl, fun _ h => absurd h List.not_mem_nil⟩
  | x :: xs, h => by
    obtain ⟨h1, h2⟩ := Bool.and_eq_true_iff.mp (show (okStr x && xs.all okStr) = true from h)
    obtain ⟨ys, rfl, hy⟩ := okStrs h2
    cases x with
    | str s =>
      obtain ⟨a, b⟩ := Bool.and_eq_true_iff.mp h1
      refine ⟨s :: ys, rfl, fun y hm => ?_⟩
      rcases List.mem_cons.mp hm with rfl | hm
      · exact ⟨of_decide_eq_true a, of_decide_eq_true b⟩
      · exact hy y hm
    | _ => cases h1
theorem strsOf_map : ∀ ys : List Str, strsOf (ys.map D.str) = some ys
  | [] => rfl
  | y :: ys => by simp [strsOf, strsOf_map ys]
def flat (ys : List Str) : List Nat := (ys.map fun y => y.cps.toList).flatten
theorem sjoin_flat : ∀ ys : List Str, (Str.join "" ys).cps.toList = flat ys
  | [] => rfl
  | [x] => by show x.cps.toList = _; simp [flat]
  | x :: y :: r => by
    have ih := sjoin_flat (y :: r)
    have e : Str.join "" (x :: y :: r) = x ++ "" ++ Str.join "" (y :: r) := rfl
    have a : ∀ s t : Str, (s ++ t).cps.toList = s.cps.toList ++ t.cps.toList := fun s t => Array.toList_append
    rw [e, a, a, ih]
    have z : ("" : Str).cps.toList = [] := rfl
    rw [z, List.append_nil]
    simp [flat]
theorem join_flat (ys : List Str) : (Txt.join "" ys).cps.toList = flat ys := by
  have e : Txt.join "" ys = Str.join "" ys := StrLaws.glued_eq_join _ _
  rw [e, sjoin_flat]
theorem len_cps (s : Str) : s.cps.toList.length = s.length := Array.length_toList
theorem flat_len : ∀ ys : List Str, (flat ys).length = (ys.map (·.length)).sum
  | [] => rfl
  | y :: ys => by
    have ih := flat_len ys
    have e : flat (y :: ys) = y.cps.toList ++ flat ys := by simp [flat]
    rw [e, List.length_append, ih, len_cps]
    simp
theorem cnt_bits : ∀ l : List Nat, (PyProof.Rows.cnt 48 l + PyProof.Rows.cnt 49 l ≤ l.length) ∧ ((PyProof.Rows.cnt 48 l + PyProof.Rows.cnt 49 l = l.length) ↔ l.all bitB = true)
  | [] => by simp [PyProof.Rows.cnt_nil]
  | k :: l => by
    obtain ⟨h1, h2⟩ := cnt_bits l
    rw [PyProof.Rows.cnt_cons, PyProof.Rows.cnt_cons]
    simp only [List.length_cons, List.all_cons, bitB]
    by_cases a : k = 48
    · subst a
      simp
      refine ⟨by omega, ?_⟩
      constructor
      · intro h
        have := h2.mp (by omega)
        simpa [bitB] using this
      · intro h
        have := h2.mpr (by simpa [bitB] using h)
        omega
    · by_cases b : k = 49
      · subst b
        simp
        refine ⟨by omega, ?_⟩
        constructor
        · intro h
          have := h2.mp (by omega)
          simpa [bitB] using this
        · intro h
          have := h2.mpr (by simpa [bitB] using h)
          omega
      · simp [a, b]
        omega
theorem sum_le8 : ∀ ys : List Str, (∀ y ∈ ys, y.length ≤ 8) → (ys.map (·.length)).sum ≤ 8 * ys.length
  | [], _ => by simp
  | y :: ys, h => by
    have a1 := sum_le8 ys fun z hz => h z (List.mem_cons_of_mem _ hz)
    have a2 := h y List.mem_cons_self
    simp only [List.map_cons, List.sum_cons, List.length_cons]
    omega
theorem join_seq {v : D} {c : Cs} {ys : List Str} (h : SeqV v c (ys.map D.str)) (hl : ∀ y ∈ ys, 1 ≤ y.length ∧ y.length ≤ 8) : joinX (.str "") v c = .ok (.str (Txt.join "" ys)) c := by
  have hs : (ys.map (·.length)).sum ≤ 8 * ys.length := by
    clear h
    induction ys with
    | nil => simp
    | cons y ys ih =>
      have := ih fun z hz => hl z (List.mem_cons_of_mem _ hz)
      have := (hl y List.mem_cons_self).2
      simp only [List.map_cons, List.sum_cons, List.length_cons]
      omega
  have hn := h.ln
  rw [List.length_map] at hn
  have e0' : ("" : Str).length = 0 := rfl
  have e : joinL "" (ys.map D.str) c = .ok (.str (Txt.join "" ys)) c := by
    unfold joinL
    rw [strsOf_map]
    exact if_pos (by rw [e0']; omega)
  have hq := h.sq
  cases v with
  | lst zs => cases hq; exact e
  | tup zs => cases hq; exact e
  | ro zs => exact absurd rfl (h.nr zs)
  | ref k =>
    have hq : (match c[k]? with
      | some (.lst xs) => some xs
      | _ => none) = some (ys.map D.str) := hq
    cases q : c[k]? with
    | none => rw [q] at hq; cases hq
    | some y =>
      rw [q] at hq
      cases y with
      | lst zs =>
        cases hq
        have l : lstC (.ref k) c = some (ys.map D.str) := by simp [lstC, q]
        show (match lstC (.ref k) c with
          | some ds => joinL "" ds c
          | none => .stuck) = _
        rw [l]
        exact e
      | _ => cases hq
  | _ => cases hq
theorem flat_all {p : Nat → Bool} (ys : List Str) : (flat ys).all p = ys.all fun y => y.cps.toList.all p := by
  induction ys with
  | nil => rfl
  | cons y ys ih =>
    have e : flat (y :: ys) = y.cps.toList ++ flat ys := by simp [flat]
    rw [e, List.all_append, ih]
    simp
theorem isRows_of {xs : List D} (h : isRows xs = true) : ∃ y0 yr, xs = (y0 :: yr).map D.str ∧ (y0 :: yr).length ≤ 8 ∧ (∀ y ∈ y0 :: yr, y.length = y0.length ∧ y.cps.toList.all bitB = true) ∧ 1 ≤ y0.length ∧ y0.length ≤ 8 := by
  simp only [isRows, Bool.and_eq_true, decide_eq_true_eq] at h
  obtain ⟨⟨h1, h2⟩, h3⟩ := h
  cases xs with
  | nil => cases h3
  | cons x r =>
    cases x with
    | str s =>
      simp only [Bool.and_eq_true, decide_eq_true_eq] at h3
      obtain ⟨⟨h4, h5⟩, h6⟩ := h3
      have go : ∀ zs : List D, zs.all (rowB s.length) = true → ∃ ys : List Str, zs = ys.map D.str ∧ ∀ y ∈ ys, y.length = s.length ∧ y.cps.toList.all bitB = true := fun zs => by
        induction zs with
        | nil => intro _; exact ⟨[], rfl, fun _ h => absurd h List.not_mem_nil⟩
        | cons z zs ih =>
          intro h
          obtain ⟨a, b⟩ := Bool.and_eq_true_iff.mp (show (rowB s.length z && zs.all (rowB s.length)) = true from h)
          obtain ⟨ys, rfl, hy⟩ := ih b
          cases z with
          | str w =>
            obtain ⟨a1, a2⟩ := Bool.and_eq_true_iff.mp a
            have a1 := of_decide_eq_true a1
            refine ⟨w :: ys, rfl, fun y hm => ?_⟩
            rcases List.mem_cons.mp hm with rfl | hm
            · exact ⟨by exact_mod_cast a1, a2⟩
            · exact hy y hm
          | _ => cases a
      have h7 : (rowB s.length (.str s) && r.all (rowB s.length)) = true := h6
      obtain ⟨a, b⟩ := Bool.and_eq_true_iff.mp h7
      obtain ⟨ys, rfl, hy⟩ := go r b
      refine ⟨s, ys, rfl, by simpa using h2, fun y hm => ?_, h4, h5⟩
      rcases List.mem_cons.mp hm with rfl | hm
      · exact ⟨rfl, (Bool.and_eq_true_iff.mp a).2⟩
      · exact hy y hm
    | _ => cases h3
theorem isRows_mk {y0 : Str} {yr : List Str} (h1 : (y0 :: yr).length ≤ 8) (h2 : ∀ y ∈ y0 :: yr, y.length = y0.length ∧ y.cps.toList.all bitB = true) (h3 : 1 ≤ y0.length) (h4 : y0.length ≤ 8) : isRows ((y0 :: yr).map D.str) = true := by
  have e1 : decide (1 ≤ ((y0 :: yr).map D.str).length) = true := by simp
  have e2 : decide (((y0 :: yr).map D.str).length ≤ 8) = true := decide_eq_true (by rw [List.length_map]; exact h1)
  have e5 : ((y0 :: yr).map D.str).all (rowB y0.length) = true := by
    refine List.all_eq_true.mpr fun x hx => ?_
    obtain ⟨y, hy, rfl⟩ := List.mem_map.mp hx
    obtain ⟨a, b⟩ := h2 y hy
    show (decide ((y.length : Int) = y0.length) && y.cps.toList.all bitB) = true
    rw [b, decide_eq_true (by rw [a])]
    rfl
  show (decide (1 ≤ ((y0 :: yr).map D.str).length) && decide (((y0 :: yr).map D.str).length ≤ 8) && (decide (1 ≤ y0.length) && decide (y0.length ≤ 8) && ((y0 :: yr).map D.str).all (rowB y0.length))) = true
  rw [e1, e2, e5, decide_eq_true h3, decide_eq_true h4]
  rfl

theorem tyD_app {x : D} {c : Cs} {t : String} (h : tyD x c = some t) (y : Cs) : tyD x (c ++ y) = some t := by
  cases x with
  | ref k =>
    simp only [tyD] at h ⊢
    cases q : c[k]? with
    | none => rw [q] at h; cases h
    | some z =>
      rw [List.getElem?_append_left (List.getElem?_eq_some_iff.mp q).1, q]
      rw [q] at h
      exact h
  | _ => exact h
theorem SeqV.app {v : D} {c : Cs} {xs : List D} (h : SeqV v c xs) (y : Cs) : SeqV v (c ++ y) xs := by
  refine ⟨?_, h.ty.imp (tyD_app · y) (tyD_app · y), h.ln, fun x hx => ?_, h.nr⟩
  · have hq := h.sq
    cases v with
    | ref k =>
      simp only [seqOf] at hq ⊢
      cases q : c[k]? with
      | none => rw [q] at hq; cases hq
      | some z =>
        rw [List.getElem?_append_left (List.getElem?_eq_some_iff.mp q).1, q]
        rw [q] at hq
        exact hq
    | _ => exact hq
  · obtain ⟨t, ht, hs⟩ := (h.el x hx).ex
    exact ⟨t, tyD_app ht y, hs⟩
def invR (v : D) : Ex := ⟨"InvalidRows", [("value", v)]⟩
theorem init_bad {k : Nat} {v : D} {c : Cs} (h : gare_rows [v, .int 8] c = .ok (.bl false) c) : gCloth____init__ [.ref k, v] c = .exc (invR v) c := by
  unfold gCloth____init__ mFun cCloth____init__
  generalize gare_rows = F at h ⊢
  simp [sSeq, sIf, tNotM, mT, mCB, aCons, aNil, mVar, mC, h, sRaise, invR]
theorem init_ok {k : Nat} {v : D} {c : Cs} {xs : List D} (h : gare_rows [v, .int 8] c = .ok (.bl true) c) (hs : seqOf v c = some xs) (hk : c[k]? = some (.ins "Cloth" [])) : gCloth____init__ [.ref k, v] c = .ok .non (c.set k (.ins "Cloth" [("kept_rows", .lst xs)])) := by
  have e : listD [v] c = .ok (.lst xs) c := by simp [listD, on1, listP, hs]
  unfold gCloth____init__ mFun cCloth____init__
  generalize gare_rows = F at h ⊢
  simp [sSeq, sIf, tNotM, mT, mCB, aCons, aNil, mVar, mC, h, sNil, sFldM, e, fldS, hk, putFD]
theorem cell_last {c : Cs} (x : Cell) : (c ++ [x])[c.length]? = some x := by rw [List.getElem?_append_right (Nat.le_refl _), Nat.sub_self]; rfl
theorem set_last {c : Cs} (x y : Cell) : (c ++ [x]).set c.length y = c ++ [y] := by
  induction c with
  | nil => rfl
  | cons a c ih => simp [ih]
theorem make_bad {v : D} {c : Cs} (h : ∀ y, gare_rows [v, .int 8] (c ++ y) = .ok (.bl false) (c ++ y)) : mkR "Cloth" gCloth____init__ [v] c = .exc (invR v) (c ++ [.ins "Cloth" []]) := by
  have e := init_bad (k := c.length) (h [.ins "Cloth" []])
  unfold mkR
  rw [e]
  rfl
theorem make_ok {v : D} {c : Cs} {xs : List D} (h : SeqV v c xs) (hr : isRows xs = true) : mkR "Cloth" gCloth____init__ [v] c = .ok (.ref c.length) (c ++ [.ins "Cloth" [("kept_rows", .lst xs)]]) := by
  have h2 := h.app [.ins "Cloth" []]
  have e := init_ok (k := c.length) (by rw [are_rows_seq h2, hr]) h2.sq (cell_last _)
  unfold mkR
  rw [e, set_last]
  rfl

/-! ### the draws -/
theorem take_big (c : Cs) (k : Nat) (a b z many : Int) (hc : c[k]? = some (.lst [.int a, .int b, .int z])) (ha : 0 < a) (hm : 0 < many) (hm2 : many ≤ 1000000) :
    g_law_take [.ref k, .int many] c = .ok (.int (a.fmod many)) (c.set k (.lst [.int (a.fdiv many), .int b, .int z])) := by
  have h1 : many ≠ 0 := by omega
  have h2 : many.natAbs < 1073741824 := by omega
  simp [g_law_take, mFun, c_law_take, sSeq, sIf, mT, mOp, mVar, mC, itemD, hc, itL, atI, ixN, gtD, cmpI, ha, sSet, modI, divI, intC, CNz, CDivN, sRet, sAsg, gS, putD, h1, h2]
theorem take_hash (c : Cs) (k : Nat) (a b z many : Int) (hc : c[k]? = some (.lst [.int a, .int b, .int z])) (ha : ¬ 0 < a) (hm : 0 < many) (hm2 : many ≤ 1000000) (hb : 0 ≤ b) (hb2 : b < 2147483629) (hz : 0 ≤ z) (hz2 : z ≤ 1000000) :
    ∃ d : Int, 0 ≤ d ∧ d < many ∧ g_law_take [.ref k, .int many] c = .ok (.int d) (c.set k (.lst [.int a, .int b, .int (z + 1)])) := by
  have h1 : many ≠ 0 := by omega
  have hs : ∀ x, (c.set k x)[k]? = some x := fun x => by rw [List.getElem?_set_self (List.getElem?_eq_some_iff.mp hc).1]
  have h3 : (b + 7907 * (z + 1) + 613).natAbs < 18446744073709551616 := by omega
  refine ⟨(((((b + 7907 * (z + 1) + 613) ^ 5).fmod 2147483647 + 104723 * (z + 1)) ^ 3).fmod 2147483587).fdiv 16 |>.fmod many, Int.fmod_nonneg_of_pos _ hm, Int.fmod_lt_of_pos _ hm, ?_⟩
  have h5 : 0 ≤ ((b + 7907 * (z + 1) + 613) ^ 5).fmod 2147483647 := Int.fmod_nonneg_of_pos _ (by decide)
  have h6 : ((b + 7907 * (z + 1) + 613) ^ 5).fmod 2147483647 < 2147483647 := Int.fmod_lt_of_pos _ (by decide)
  generalize e : ((b + 7907 * (z + 1) + 613) ^ 5).fmod 2147483647 = y at h5 h6 ⊢
  have h4 : (y + 104723 * (z + 1)).natAbs < 18446744073709551616 := by omega
  simp [g_law_take, mFun, c_law_take, sSeq, sIf, mT, mOp, mVar, mC, itemD, hc, itL, atI, ixN, gtD, cmpI, ha, sSet, modI, divI, intC, CNz, CDivN, sRet, sAsg, gS, putD, h1, addD, mulI, powI, CMul, CPow, h3, h4, e, sNil, hs, -List.getElem?_set_self]
/-- a draw changes the box alone -/
theorem take_ok {c : Cs} {k : Nat} {n many : Int} {Q : D → Cs → Prop} (h : Bx c k n) (hn : n ≤ 1000000) (hm : 0 < many) (hm2 : many ≤ 1000000)
    (q : ∀ (i : Int) (c' : Cs), 0 ≤ i → i < many → Bx c' k (n + 1) → c'.length = c.length → (∀ j, j ≠ k → c'[j]? = c[j]?) → Q (.int i) c') : Ok (g_law_take [.ref k, .int many] c) Q := by
  obtain ⟨a, b, z, hc, ha, hb, hb2, hz, hz2⟩ := h
  have hk := (List.getElem?_eq_some_iff.mp hc).1
  have fin : ∀ x : Cell, (c.set k x).length = c.length ∧ ∀ j, j ≠ k → (c.set k x)[j]? = c[j]? := fun x => ⟨by simp, fun j hj => by rw [List.getElem?_set_ne (Ne.symm hj)]⟩
  by_cases h0 : 0 < a
  · exact ⟨_, _, take_big c k a b z many hc h0 hm hm2, q _ _ (Int.fmod_nonneg_of_pos _ hm) (Int.fmod_lt_of_pos _ hm) ⟨a.fdiv many, b, z, by rw [List.getElem?_set_self hk], by rw [Int.fdiv_eq_ediv_of_nonneg _ (Int.le_of_lt hm)]; exact Int.ediv_nonneg ha (Int.le_of_lt hm), hb, hb2, hz, by omega⟩ (fin _).1 (fin _).2⟩
  · obtain ⟨d, hd, hd2, e⟩ := take_hash c k a b z many hc h0 hm hm2 hb hb2 hz (by omega)
    exact ⟨_, _, e, q _ _ hd hd2 ⟨a, b, z + 1, by rw [List.getElem?_set_self hk], ha, hb, hb2, by omega, by omega⟩ (fin _).1 (fin _).2⟩
theorem bx_mono {c : Cs} {k : Nat} {n n' : Int} (h : Bx c k n) (hn : n ≤ n') : Bx c k n' := by
  obtain ⟨a, b, z, hc, ha, hb, hb2, hz, hz2⟩ := h
  exact ⟨a, b, z, hc, ha, hb, hb2, hz, by omega⟩
theorem cell_ok {ns : List Int} {i : Nat} {c : Cs} {Q : D → Cs → Prop} (hl : ns.length ≤ 63) (hi : i ≤ 1000) (q : ∀ v : Int, Q (.int v) c) : Ok (g_law_cell [.ro (ns.map D.int), .int i] c) Q := by
  refine Ok.fun rfl ?_
  refine os_seq (os_if (ok_t (ok_op (ok_var rfl (ok_cb (ok_acons (ok_var rfl (ok_anil ⟨_, _, rfl, ⟨_, _, rfl, ⟨_, rfl, fun h => ?_, fun h => ?_⟩⟩⟩))))))))
  · refine os_ret (ok_op (ok_var rfl (ok_var rfl ?_)))
    have hi : i < ns.length := by simpa using h
    refine ⟨.int ns[i], c, ?_, q _⟩
    simp [itemD, itL, atI, ixN, hi]
  · refine os_nil (os_ret (ok_op (ok_op (ok_c (ok_var rfl ?_)))))
    exact ok_intC (Or.inl ⟨by decide, by decide⟩) (ok_c ⟨_, _, rfl, q _⟩)
theorem box_ok {v : Int} {c : Cs} {Q : D → Cs → Prop} (q : ∀ c', Bx c' c.length 0 → c'.length = c.length + 1 → (∀ j, j ≠ c.length → c'[j]? = c[j]?) → Q (.ref c.length) c') : Ok (g_law_box [.int v] c) Q := by
  refine Ok.fun rfl ?_
  refine os_ret (ok_lstM (ok_acons (ok_cb (ok_acons (ok_c (ok_acons (ok_op (ok_var rfl (ok_op (ok_c (ok_c ?_)))) ) ) ) ) ) ) )
  refine ok_intC ⟨by decide, by decide, by decide⟩ ⟨_, _, rfl, ok_anil ⟨_, _, rfl, ok_acons (ok_op (ok_var rfl (ok_c (ok_intC (show (2147483629 : Int) ≠ 0 by decide) (ok_acons (ok_c (ok_anil ⟨Nat.le_of_ble_eq_true rfl, ?_⟩)))))))⟩⟩
  refine q _ ⟨_, _, _, by rw [List.getElem?_append_right (Nat.le_refl _), Nat.sub_self]; rfl, ?_, Int.fmod_nonneg_of_pos _ (by decide), Int.fmod_lt_of_pos _ (by decide), Int.le_refl _, Int.le_refl _⟩ (by simp) fun j hj => ?_
  · dsimp only
    split <;> omega
  · rcases Nat.lt_or_ge j c.length with h | h
    · rw [List.getElem?_append_left h]
    · rw [List.getElem?_eq_none (by simp; omega), List.getElem?_eq_none (by omega)]

def bitS (s : Str) : Prop := s.cps.toList.all bitB = true
def Rows (rs : List D) : Prop := ∃ y0 yr, rs = (y0 :: yr).map D.str ∧ (y0 :: yr).length ≤ 8 ∧ (∀ y ∈ y0 :: yr, y.length = y0.length ∧ bitS y) ∧ 1 ≤ y0.length ∧ y0.length ≤ 8
theorem Rows.is {rs : List D} (h : Rows rs) : isRows rs = true := by
  obtain ⟨y0, yr, rfl, h1, h2, h3, h4⟩ := h
  exact isRows_mk h1 h2 h3 h4
/-- n draws below many -/
theorem draws_ok {l : Ls} {c : Cs} {k j : Nat} {n : Int} {a : ME} {m : Nat} {js : Int} {Q : List D → Cs → Prop} (hm : m ≤ 8) (hn : n ≤ 900000) (hjs : 1 ≤ js ∧ js ≤ 100) (hb : Bx c k n)
    (ha : ∀ (d : D) (c' : Cs) (Q : D → Cs → Prop), Q (.int js) c' → Ok (a ((wipeL l [j]).set j (some d)) c') Q) (hv : ∀ (d : D), ((wipeL l [j]).set j (some d))[0]? = some (some (.ref k)))
    (q : ∀ (zs : List Int) (c' : Cs), zs.length = m → Bx c' k (n + m) → c'.length = c.length → (∀ i, i ≠ k → c'[i]? = c[i]?) → Q (zs.map D.int) c') :
    Ok (compD (gN j) tYesM (mCB g_law_take (aCons (mVar 0) (aCons a (aNil)))) (wipeL l [j]) (rangeL 0 m) [] c) Q := by
  have hz : sizeLine = 16777216 := sizeLine_eq
  refine comp_ok (fun ds acc c' => ∃ zs : List Int, acc = zs.map D.int ∧ zs.length + ds.length = m ∧ Bx c' k (n + zs.length) ∧ c'.length = c.length ∧ ∀ i, i ≠ k → c'[i]? = c[i]?) ?_ ?_ _ _ _ ⟨[], rfl, by simp [rangeL_len], by simpa using hb, rfl, fun _ _ => rfl⟩
  · rintro acc c' ⟨zs, rfl, hl, b, h1, h2⟩
    simp only [List.length_nil, Nat.add_zero] at hl
    exact q zs c' hl (hl ▸ b) h1 h2
  · rintro d ds acc c' ⟨zs, rfl, hl, b, h1, h2⟩
    simp only [List.length_cons] at hl
    refine ok_gn (ok_ret ?_)
    refine ok_cb (ok_acons (ok_var (hv d) (ok_acons (ha d _ _ (ok_anil ?_)))))
    refine take_ok b (by omega) (by omega) (by omega) fun i c2 g0 g1 b2 l2 f2 => ?_
    exact ⟨by simp; omega, zs ++ [i], by simp, by simp; omega, by simpa [Int.add_assoc] using b2, by omega, fun i hi => by rw [f2 i hi, h2 i hi]⟩
theorem item_ints {xs : List Int} {c : Cs} {i : Int} {Q : D → Cs → Prop} (h0 : 0 ≤ i) (h : i < xs.length) (q : ∀ z ∈ xs, Q (.int z) c) : Ok (itemD (.lst (xs.map D.int)) (.int i) c) Q :=
  ok_item_mem h0 (by simpa using h) fun d hd => by
    obtain ⟨z, hz, rfl⟩ := List.mem_map.mp hd
    exact q z hz
theorem str_bit (b : Bool) (c : Cs) : strFD [.int (if b = true then 1 else 0)] c = .ok (.str ⟨#[if b = true then 49 else 48]⟩) c := by
  cases b <;> first | rfl | kernel_rfl
theorem rows_ok {c : Cs} {k : Nat} {n : Int} {Q : D → Cs → Prop} (hb : Bx c k n) (hn : n ≤ 800000)
    (q : ∀ (rs : List D) (c' : Cs), Rows rs → Bx c' k (n + 100) → c.length ≤ c'.length → (∀ j, j ≠ k → j < c.length → c'[j]? = c[j]?) → Q (.lst rs) c') : Ok (g_law_rows [.ref k] c) Q := by
  have hz : sizeLine = 16777216 := sizeLine_eq
  have hk := bx_lt hb
  refine Ok.fun rfl ?_
  unfold c_law_rows
  walk_at "ok"
  refine take_ok hb (by omega) (by decide) (by decide) fun w0 c1 h0 h1 b1 l1 f1 => ?_
  walk_at "ok"
  refine take_ok b1 (by omega) (by decide) (by decide) fun t0 c2 g0 g1 b2 l2 f2 => ?_
  walk_at "ok"
  refine take_ok b2 (by omega) (by decide) (by decide) fun i3 c3 e0 e1 b3 l3 f3 => ?_
  refine item_ints (xs := [1, 2, 3, 5]) e0 e1 fun many hmany => ?_
  have hmany : 1 ≤ many ∧ many ≤ 100 := by
    simp only [List.mem_cons, List.not_mem_nil, or_false] at hmany
    rcases hmany with rfl | rfl | rfl | rfl <;> decide
  walk_at "ok"
  refine ⟨⟨by omega, by omega⟩, ?_⟩
  refine draws_ok (k := k) (j := 10) (js := many) (a := mVar 4) (by omega) (by omega) hmany b3 (fun d c' Q q => ok_var rfl q) (fun d => rfl) fun up c4 hup b4 l4 f4 => ?_
  walk_at "ok"
  refine ⟨⟨by omega, by omega⟩, ?_⟩
  refine draws_ok (k := k) (j := 10) (js := many) (a := mVar 4) (by omega) (by omega) hmany b4 (fun d c' Q q => ok_var rfl q) (fun d => rfl) fun down c5 hdown b5 l5 f5 => ?_
  walk_at "ok"
  refine take_ok b5 (by omega) (by decide) (by decide) fun i6 c6 e0 e1 b6 l6 f6 => ?_
  refine item_ints (xs := [2, 2, 3, 6]) e0 e1 fun bias hbias => ?_
  have hbias : 2 ≤ bias ∧ bias ≤ 100 := by
    simp only [List.mem_cons, List.not_mem_nil, or_false] at hbias
    rcases hbias with rfl | rfl | rfl | rfl <;> decide
  walk_at "ok"
  have hc7 : (c6 ++ [Cell.lst []])[c6.length]? = some (.lst []) := by rw [List.getElem?_append_right (Nat.le_refl _), Nat.sub_self]; rfl
  have b7 := bx_app b6 [Cell.lst []]
  have l7 : (c6 ++ [Cell.lst []]).length = c.length + 1 := by simp; omega
  have f7 : ∀ j, j ≠ k → j < c.length → (c6 ++ [Cell.lst []])[j]? = c[j]? := fun j hj hl => by
    rw [List.getElem?_append_left (by omega), f6 j hj, f5 j hj, f4 j hj, f3 j hj, f2 j hj, f1 j hj]
  have hkr : c6.length = c.length := by omega
  rw [hkr] at hc7 ⊢
  generalize c6 ++ [Cell.lst []] = c7 at hc7 b7 l7 f7 ⊢
  have hup1 : 1 ≤ up.length ∧ up.length ≤ 8 := by omega
  have hdn1 : 1 ≤ down.length ∧ down.length ≤ 8 := by omega
  refine os_forL (ds := down.map D.int) (by simp; omega) rfl ?_
  refine OkS.for (fun ds l c' => (∃ o1 o9 o10 o11 o12, l = [some (.ref k), o1, some (.int (1 + w0)), some (.int (1 + t0)), some (.int many), some (.lst (up.map D.int)), some (.lst (down.map D.int)), some (.int bias), some (.ref c.length), o9, o10, o11, o12]) ∧
    ∃ ys : List Str, c'[c.length]? = some (.lst (ys.map D.str)) ∧ (∀ y ∈ ys, y.length = up.length ∧ bitS y) ∧ ys.length + ds.length = down.length ∧ Bx c' k (n + 20 + 8 * ys.length) ∧ c'.length = c.length + 1 ∧ (∀ j, j ≠ k → j < c.length → c'[j]? = c[j]?) ∧ ∀ d ∈ ds, ∃ z : Int, d = .int z) ?_ ?_ _ _ _
    ⟨⟨_, _, _, _, _, rfl⟩, [], hc7, fun _ h => absurd h List.not_mem_nil, by simp, bx_mono b7 (by simp; omega), l7, f7, fun d hd => by obtain ⟨z, _, rfl⟩ := List.mem_map.mp hd; exact ⟨z, rfl⟩⟩
  · rintro l c' ⟨⟨o1, o9, o10, o11, o12, rfl⟩, ys, hc, hy, hl, hbx, hlen, hf, _⟩
    simp only [List.length_nil, Nat.add_zero] at hl
    walk_at "ok"
    refine ⟨_, _, rfl, hc, ?_⟩
    obtain ⟨y0, yr, rfl⟩ : ∃ y0 yr, ys = y0 :: yr := by
      cases ys with
      | nil => simp at hl; omega
      | cons a b => exact ⟨a, b, rfl⟩
    have h0 := hy y0 List.mem_cons_self
    refine q _ _ ⟨y0, yr, rfl, by omega, fun y hm => ⟨by rw [(hy y hm).1, h0.1], (hy y hm).2⟩, by omega, by omega⟩ ?_ (by simp; omega) fun j hj hl2 => ?_
    · exact bx_mono (bx_set hbx (by omega) _) (by omega)
    · rw [List.getElem?_set_ne (by omega)]
      exact hf j hj hl2
  · rintro d ds l c' ⟨⟨o1, o9, o10, o11, o12, rfl⟩, ys, hc, hy, hl, hbx, hlen, hf, hds⟩
    simp only [List.length_cons] at hl
    obtain ⟨low, rfl⟩ := hds d List.mem_cons_self
    walk_at "ok"
    refine ok_lcL (ds := up.map D.int) (by simp; omega) rfl ?_
    refine comp_ok (fun es acc c2 => ∃ bs : List Bool, acc = bs.map (fun b => D.int (if b = true then 1 else 0)) ∧ bs.length + es.length = up.length ∧ Bx c2 k (n + 20 + 8 * ys.length + bs.length) ∧ c2.length = c'.length ∧ (∀ j, j ≠ k → c2[j]? = c'[j]?) ∧ ∀ d ∈ es, ∃ z : Int, d = .int z) ?_ ?_ _ _ _
      ⟨[], rfl, by simp, by simpa using hbx, rfl, fun _ _ => rfl, fun d hd => by obtain ⟨z, _, rfl⟩ := List.mem_map.mp hd; exact ⟨z, rfl⟩⟩
    · rintro acc c2 ⟨bs, rfl, hbl, bb, bl, bf, _⟩
      simp only [List.length_nil, Nat.add_zero] at hbl
      have hc2 : c2[c.length]? = some (.lst (ys.map D.str)) := by rw [bf _ (by omega)]; exact hc
      walk_at "ok"
      refine ⟨isL_ref hc2, ?_⟩
      walk_at "ok"
      refine Ok.of (lcW_pure (w := fixW (bs.map fun b => D.int (if b = true then 1 else 0))) (xs := bs.map fun b => D.int (if b = true then 1 else 0)) (P := fun _ => true) (F := fun x => match x with | .int i => .str ⟨#[if i = 1 then 49 else 48]⟩ | _ => .non) (lt := fun x => (wipeL [some (D.ref k), some (.int low), some (.int (1 + w0)), some (.int (1 + t0)), some (.int many), some (.lst (up.map D.int)), some (.lst (down.map D.int)), some (.int bias), some (.ref c.length), some (.lst (bs.map fun b => D.int (if b = true then 1 else 0))), o10, o11, o12] [12]).set 12 (some x)) rfl (fun _ => rfl) (by simp; omega) (fun x hx => ⟨rfl, rfl, fun _ => ?_⟩)) ?_
      · obtain ⟨b, _, rfl⟩ := List.mem_map.mp hx
        refine ok_eq (ok_cb (ok_acons (ok_var rfl (ok_anil (Ok.of (str_bit b _) ⟨?_, rfl⟩)))))
        cases b <;> rfl
      · have e : ((bs.map fun b => D.int (if b = true then 1 else 0)).filter fun _ => true).map (fun x => match x with | .int i => D.str ⟨#[if i = 1 then 49 else 48]⟩ | _ => .non) = (bs.map fun b => if b = true then 49 else 48).map fun k => D.str ⟨#[k]⟩ := by
          rw [filter_yes, List.map_map, List.map_map]
          refine List.map_congr_left fun b _ => ?_
          cases b <;> rfl
        rw [e]
        have hjn : joinX (.str "") (.lst ((bs.map fun b => if b = true then 49 else 48).map fun k => D.str ⟨#[k]⟩)) c2 = .ok (.str ⟨(bs.map fun b => if b = true then 49 else 48).toArray⟩) c2 := by
          show joinL "" _ c2 = _
          unfold joinL
          rw [strs_ones]
          have e1 : (((bs.map fun b => if b = true then 49 else 48).map fun k => (⟨#[k]⟩ : Str)).map (·.length)).sum ≤ 8 * bs.length := by
            have := sum_le8 ((bs.map fun b => if b = true then 49 else 48).map fun k => (⟨#[k]⟩ : Str)) fun y hm => by
              obtain ⟨z, _, rfl⟩ := List.mem_map.mp hm
              show 1 ≤ 8
              omega
            simpa using this
          have e0' : ("" : Str).length = 0 := rfl
          refine (if_pos (by rw [e0']; omega)).trans ?_
          rw [join_ones']
        walk_at "ok"
        refine Ok.of hjn ?_
        walk_at "ok"
        refine ok_append hc2 (by rw [List.length_map]; omega) ?_
        refine ⟨⟨_, _, _, _, _, rfl⟩, ys ++ [⟨(bs.map fun b => if b = true then 49 else 48).toArray⟩], by rw [List.getElem?_set_self (by omega)]; simp, fun y hm => ?_, by simp; omega, ?_, by simp; omega, fun j hj hl2 => ?_, fun d hd => hds d (List.mem_cons_of_mem _ hd)⟩
        · rcases List.mem_append.mp hm with hm | hm
          · exact hy y hm
          · simp only [List.mem_singleton] at hm
            subst hm
            refine ⟨?_, ?_⟩
            · show (List.toArray _).size = _
              simp [hbl]
            · show ((List.toArray _).toList).all bitB = true
              rw [List.toList_toArray]
              refine List.all_eq_true.mpr fun z hz2 => ?_
              obtain ⟨b, _, rfl⟩ := List.mem_map.mp hz2
              cases b <;> rfl
        · exact bx_mono (bx_set bb (by omega) _) (by simp; omega)
        · rw [List.getElem?_set_ne (by omega), bf j hj]
          exact hf j hj hl2
    · rintro x es acc c2 ⟨bs, rfl, hbl, bb, bl, bf, hes⟩
      simp only [List.length_cons] at hbl
      obtain ⟨hi, rfl⟩ := hes x List.mem_cons_self
      refine ok_gn (ok_ret ?_)
      walk_at "ok"
      refine ⟨fun qq => ?_, fun qq => ?_⟩
      · walk_at "ok"
        refine ⟨by simp; omega, bs ++ [decide (low < hi)], by simp, by simp; omega, bx_mono bb (by simp; omega), bl, bf, fun d hd => hes d (List.mem_cons_of_mem _ hd)⟩
      · walk_at "ok"
        refine take_ok bb (by omega) (by omega) (by omega) fun i8 c8 g0 g1 b8 l8 f8 => ?_
        walk_at "ok"
        refine ⟨by simp; omega, bs ++ [decide (0 < i8)], by simp, by simp; omega, bx_mono b8 (by simp; omega), by omega, fun j hj => by rw [f8 j hj, bf j hj], fun d hd => hes d (List.mem_cons_of_mem _ hd)⟩

def FRB (d : D) : Bool := match toPyC 17 [] d with
  | some p => bP p && decide (wP p ≤ 20000) && decide (p.depth ≤ 10)
  | none => false
def top0 : D → Bool
  | .non => true
  | .bl _ => true
  | .int _ => true
  | .str _ => true
  | .tup _ => true
  | _ => false
def PV (v : D) (c : Cs) : Prop := (FRB v = true ∧ (top0 v = true ∨ ∃ xs, v = .lst xs ∧ Rows xs)) ∨ (∃ k xs, v = .ref k ∧ c[k]? = some (.lst xs) ∧ xs.length ≤ 100 ∧ ∀ x ∈ xs, FRB x = true) ∨
  ∃ k kvs, v = .ref k ∧ c[k]? = some (.dct kvs) ∧ (kvs = [] ∨ kvs = [(.inr "a", .int 1)])
theorem frb_of {d : D} (h : FRB d = true) : ∃ p, toPyC 17 [] d = some p ∧ bP p = true ∧ wP p ≤ 20000 ∧ p.depth ≤ 10 := by
  unfold FRB at h
  cases q : toPyC 17 [] d with
  | none => rw [q] at h; cases h
  | some p =>
    rw [q] at h
    simp only [Bool.and_eq_true, decide_eq_true_eq] at h
    exact ⟨p, rfl, h.1.1, h.1.2, h.2⟩
theorem el_of {n : Nat} {x : D} {q : PyData} {c : Cs} (h : toPyC n [] x = some q) (hw : wP q ≤ 40000) : ElV x c := by
  cases n with
  | zero => cases h
  | succ n =>
    cases x with
    | str s =>
      cases h
      have hw : 10 * s.length + 2 ≤ 40000 := hw
      exact ⟨"str", rfl, fun _ => ⟨s, rfl, by omega⟩⟩
    | ref k => cases h
    | obj => cases h
    | adr => cases h
    | ty => cases h
    | _ => exact ⟨_, rfl, fun e => by simp at e⟩
theorem mapO_mem {α β : Type} {f : α → Option β} {x : α} : ∀ {xs : List α} {ys : List β}, mapO f xs = some ys → x ∈ xs → ∃ y ∈ ys, f x = some y
  | [], _, _, h => absurd h List.not_mem_nil
  | z :: xs, ys, e, h => by
    unfold mapO at e
    cases q : f z with
    | none => rw [q] at e; cases e
    | some y =>
      cases q2 : mapO f xs with
      | none => rw [q, q2] at e; cases e
      | some zs =>
        rw [q, q2] at e
        cases e
        rcases List.mem_cons.mp h with rfl | h
        · exact ⟨y, List.mem_cons_self, q⟩
        · obtain ⟨w, hw, e⟩ := mapO_mem q2 h
          exact ⟨w, List.mem_cons_of_mem _ hw, e⟩
theorem mapO_len {α β : Type} {f : α → Option β} : ∀ {xs : List α} {ys : List β}, mapO f xs = some ys → ys.length = xs.length
  | [], _, e => by cases e; rfl
  | z :: xs, ys, e => by
    unfold mapO at e
    cases q : f z with
    | none => rw [q] at e; cases e
    | some y =>
      cases q2 : mapO f xs with
      | none => rw [q, q2] at e; cases e
      | some zs => rw [q, q2] at e; cases e; simp [mapO_len q2]
theorem wPs_mem {q : PyData} : ∀ {ps : List PyData}, q ∈ ps → wP q ≤ wPs ps
  | [], h => absurd h List.not_mem_nil
  | p :: ps, h => by
    simp only [wPs]
    rcases List.mem_cons.mp h with rfl | h
    · omega
    · have := wPs_mem h; omega
theorem wPs_len : ∀ ps : List PyData, 2 * ps.length ≤ wPs ps
  | [] => by simp
  | p :: ps => by have := wPs_len ps; simp only [wPs, List.length_cons]; omega
theorem seq_of_py {v : D} {c : Cs} {xs : List D} {ps : List PyData} (hs : seqOf v c = some xs) (ht : tyD v c = some "list" ∨ tyD v c = some "tuple") (hr : ∀ ys, v ≠ .ro ys) (h : mapO (toPyC 16 []) xs = some ps) (hw : wPs ps ≤ 20000) : SeqV v c xs := by
  refine ⟨hs, ht, ?_, fun x hx => ?_, hr⟩
  · have := wPs_len ps
    have := mapO_len h
    omega
  · obtain ⟨q, hq, e⟩ := mapO_mem h hx
    have := wPs_mem hq
    exact el_of e (by omega)
theorem pv_cases {v : D} {c : Cs} (h : PV v c) : (∃ xs, SeqV v c xs) ∨ ∃ t, tyD v c = some t ∧ (t == "list" || t == "tuple") = false := by
  rcases h with ⟨h, ht⟩ | ⟨k, xs, rfl, hk, hl, hx⟩ | ⟨k, kvs, rfl, hk, _⟩
  · obtain ⟨p, hp, hb, hw, _⟩ := frb_of h
    cases v with
    | tup xs =>
      obtain ⟨ps, e1, rfl⟩ := Option.map_eq_some_iff.mp hp
      have hw : wPs ps + 3 ≤ 20000 := hw
      exact .inl ⟨xs, seq_of_py rfl (.inr rfl) nofun e1 (by omega)⟩
    | lst xs =>
      obtain ⟨ps, e1, rfl⟩ := Option.map_eq_some_iff.mp hp
      have hw : wPs ps + 2 ≤ 20000 := hw
      exact .inl ⟨xs, seq_of_py rfl (.inl rfl) nofun e1 (by omega)⟩
    | non => exact .inr ⟨_, rfl, by decide⟩
    | bl _ => exact .inr ⟨_, rfl, by decide⟩
    | int _ => exact .inr ⟨_, rfl, by decide⟩
    | str _ => exact .inr ⟨_, rfl, by decide⟩
    | _ => rcases ht with ht | ⟨_, e, _⟩ <;> first | cases ht | cases e
  · refine .inl ⟨xs, by simp [seqOf, hk], .inl (by simp [tyD, hk]), by omega, fun x hm => ?_, nofun⟩
    obtain ⟨p, hp, _, hw, _⟩ := frb_of (hx x hm)
    exact el_of hp (by omega)
  · exact .inr ⟨"dict", by simp [tyD, hk], by decide⟩
theorem frs_ok : ∀ {xs : List D}, (∀ x ∈ xs, FRB x = true) → ∃ ps, mapO (toPyC 17 []) xs = some ps ∧ bPs ps = true ∧ wPs ps ≤ 20002 * xs.length ∧ PyData.depthAll ps ≤ 10
  | [], _ => ⟨[], rfl, rfl, by decide, by decide⟩
  | x :: xs, h => by
    obtain ⟨p, h2, h3, h4, h5⟩ := frb_of (h x List.mem_cons_self)
    obtain ⟨ps, g2, g3, g4, g5⟩ := frs_ok fun y hy => h y (List.mem_cons_of_mem _ hy)
    refine ⟨p :: ps, by simp only [mapO, h2, g2], by simp [bPs, h3, g3], ?_, ?_⟩
    · simp only [wPs, List.length_cons]; omega
    · simp only [PyData.depthAll]; omega
theorem pv_py {v : D} {c : Cs} (h : PV v c) {n : Nat} (hn : 18 ≤ n) : ∃ p, toPyC n c v = some p ∧ bP p = true ∧ wP p ≤ 3000000 ∧ p.depth ≤ 15 := by
  obtain ⟨n, rfl⟩ : ∃ m, n = m + 1 := ⟨n - 1, by omega⟩
  rcases h with ⟨h, ht⟩ | ⟨k, xs, rfl, hk, hl, hx⟩ | ⟨k, kvs, rfl, hk, hv⟩
  · obtain ⟨p, hp, hb, hw, hd⟩ := frb_of h
    exact ⟨p, toPyC_free (by omega) hp, hb, by omega, by omega⟩
  · obtain ⟨ps, g2, g3, g4, g5⟩ := frs_ok hx
    refine ⟨.list ps, ?_, g3, ?_, ?_⟩
    · rw [toPyC_lst hk]
      exact Option.map_eq_some_iff.mpr ⟨ps, mapO_mono (fun a b => toPyC_free (by omega)) g2, rfl⟩
    · show wPs ps + 2 ≤ _
      have : 20002 * xs.length ≤ 20002 * 100 := Nat.mul_le_mul_left _ hl
      omega
    · simp only [PyData.depth]; omega
  · rcases hv with rfl | rfl
    · refine ⟨.dict [], ?_, rfl, by decide, by decide⟩
      rw [toPyC_dct hk]; rfl
    · refine ⟨.dict [(.str "a", .int 1)], ?_, by decide +kernel, by decide +kernel, by decide +kernel⟩
      obtain ⟨m, rfl⟩ : ∃ m, n = m + 1 := ⟨n - 1, by omega⟩
      rw [toPyC_dct hk]; rfl
theorem repr_py {d : D} {c : Cs} {p : PyData} (e : toPyC 30 c d = some p) (h1 : bP p = true) (h2 : wP p ≤ 16777216) (h3 : p.depth ≤ 60) : ∃ s, reprX [d] c = .ok (.str s) c := by
  refine ⟨p.shown, ?_⟩
  show reprQ d c = _
  unfold reprQ
  rw [e]
  exact if_pos (okR_w h1 h2 h3)
theorem toPyC_up {n m : Nat} {c : Cs} : ∀ {d : D} {p : PyData}, n ≤ m → toPyC n c d = some p → toPyC m c d = some p := by
  induction n generalizing m with
  | zero => intro d p h e; cases e
  | succ n ih =>
    intro d p h e
    cases m with
    | zero => omega
    | succ m =>
      have ih := fun a b => ih (m := m) (d := a) (p := b) (by omega)
      cases d with
      | lst xs =>
        obtain ⟨ps, e1, rfl⟩ := Option.map_eq_some_iff.mp e
        exact Option.map_eq_some_iff.mpr ⟨ps, mapO_mono ih e1, rfl⟩
      | ro xs =>
        obtain ⟨ps, e1, rfl⟩ := Option.map_eq_some_iff.mp e
        exact Option.map_eq_some_iff.mpr ⟨ps, mapO_mono ih e1, rfl⟩
      | tup xs =>
        obtain ⟨ps, e1, rfl⟩ := Option.map_eq_some_iff.mp e
        exact Option.map_eq_some_iff.mpr ⟨ps, mapO_mono ih e1, rfl⟩
      | dct xs =>
        obtain ⟨ps, e1, rfl⟩ := Option.map_eq_some_iff.mp e
        refine Option.map_eq_some_iff.mpr ⟨ps, mapO_mono (fun a b q => ?_) e1, rfl⟩
        obtain ⟨z, q1, rfl⟩ := Option.map_eq_some_iff.mp q
        exact Option.map_eq_some_iff.mpr ⟨z, ih _ _ q1, rfl⟩
      | ref k =>
        cases q : c[k]? with
        | none => simp [toPyC, q] at e
        | some x =>
          cases x with
          | lst xs =>
            rw [toPyC_lst q] at e ⊢
            obtain ⟨ps, e1, rfl⟩ := Option.map_eq_some_iff.mp e
            exact Option.map_eq_some_iff.mpr ⟨ps, mapO_mono ih e1, rfl⟩
          | dct xs =>
            rw [toPyC_dct q] at e ⊢
            obtain ⟨ps, e1, rfl⟩ := Option.map_eq_some_iff.mp e
            refine Option.map_eq_some_iff.mpr ⟨ps, mapO_mono (fun a b q => ?_) e1, rfl⟩
            obtain ⟨z, q1, rfl⟩ := Option.map_eq_some_iff.mp q
            exact Option.map_eq_some_iff.mpr ⟨z, ih _ _ q1, rfl⟩
          | frz d => simp only [toPyC, q] at e ⊢; exact ih _ _ e
          | ins n fs => simp [toPyC, q] at e
      | _ => exact e
theorem repr_word {v : D} {c : Cs} {p : PyData} (w : Str) (hw : SB 20 w) (e : toPyC 20 c v = some p) (h1 : bP p = true) (h2 : wP p ≤ 3000000) (h3 : p.depth ≤ 15) : ∃ s, reprX [.lst [.str w, v]] c = .ok (.str s) c := by
  refine repr_py (p := .list [.str w, p]) ?_ ?_ ?_ ?_
  · show (mapO (toPyC 29 c) [.str w, v]).map PyData.list = _
    have e2 : toPyC 29 c v = some p := toPyC_up (by omega) e
    simp only [mapO, e2]
    rfl
  · show (bP (.str w) && (bP p && true)) = true
    have : bP (.str w) = true := List.all_eq_true.mpr fun k hk => decide_eq_true (hw.2 k (by simpa using hk))
    rw [h1, this]; rfl
  · show ((10 * w.length + 2) + 2 + (wP p + 2 + 0)) + 2 ≤ 16777216
    have := hw.1
    omega
  · simp only [PyData.depth, PyData.depthAll]
    omega
theorem bits_cp {s : Str} (h : bitS s) : ∀ k ∈ s.cps.toList, k < 1114112 := fun k hk => by
  have := List.all_eq_true.mp h k hk
  simp only [bitB, Bool.or_eq_true, beq_iff_eq] at this
  omega
theorem mapO_strs : ∀ ys : List Str, mapO (toPyC 16 []) (ys.map D.str) = some (ys.map PyData.str)
  | [] => rfl
  | y :: ys => by
    rw [List.map_cons, List.map_cons]
    unfold mapO
    rw [mapO_strs ys]
    rfl
theorem strs_py : ∀ ys : List Str, (∀ y ∈ ys, y.length ≤ 8 ∧ bitS y) → bPs (ys.map PyData.str) = true ∧ wPs (ys.map PyData.str) ≤ 84 * ys.length ∧ PyData.depthAll (ys.map PyData.str) ≤ 1
  | [], _ => ⟨rfl, by decide, by decide⟩
  | y :: ys, h => by
    obtain ⟨g1, g2, g3⟩ := strs_py ys fun z hz => h z (List.mem_cons_of_mem _ hz)
    obtain ⟨a, b⟩ := h y List.mem_cons_self
    refine ⟨?_, ?_, ?_⟩
    · show (bP (.str y) && bPs (ys.map PyData.str)) = true
      have : bP (.str y) = true := List.all_eq_true.mpr fun k hk => decide_eq_true (bits_cp b k (by simpa using hk))
      rw [this, g1]; rfl
    · show (10 * y.length + 2) + 2 + wPs (ys.map PyData.str) ≤ _
      simp only [List.length_cons]
      omega
    · simp only [List.map_cons, PyData.depthAll, PyData.depth]
      omega
theorem rows_frb {rs : List D} (h : Rows rs) : FRB (.lst rs) = true := by
  obtain ⟨y0, yr, rfl, h1, h2, h3, h4⟩ := h
  obtain ⟨g1, g2, g3⟩ := strs_py (y0 :: yr) fun y hy => ⟨by rw [(h2 y hy).1]; exact h4, (h2 y hy).2⟩
  have e : toPyC 17 [] (.lst ((y0 :: yr).map D.str)) = some (.list ((y0 :: yr).map PyData.str)) := Option.map_eq_some_iff.mpr ⟨_, mapO_strs _, rfl⟩
  have w : wP (.list ((y0 :: yr).map PyData.str)) ≤ 20000 := by show wPs _ + 2 ≤ _; omega
  have dd : (PyData.list ((y0 :: yr).map PyData.str)).depth ≤ 10 := by simp only [PyData.depth]; omega
  have bb : bP (.list ((y0 :: yr).map PyData.str)) = true := g1
  unfold FRB
  rw [e]
  show (bP _ && decide (wP _ ≤ 20000) && decide (_ ≤ 10)) = true
  rw [bb, decide_eq_true w, decide_eq_true dd]
  rfl
theorem isRows_Rows {xs : List D} (h : isRows xs = true) : Rows xs := by
  obtain ⟨y0, yr, e, h1, h2, h3, h4⟩ := isRows_of h
  exact ⟨y0, yr, e, h1, h2, h3, h4⟩
theorem PV.app {v : D} {c : Cs} (h : PV v c) (y : Cs) : PV v (c ++ y) := by
  rcases h with h | ⟨k, xs, rfl, hk, r⟩ | ⟨k, kvs, rfl, hk, r⟩
  · exact .inl h
  · exact .inr (.inl ⟨k, xs, rfl, by rw [List.getElem?_append_left (List.getElem?_eq_some_iff.mp hk).1]; exact hk, r⟩)
  · exact .inr (.inr ⟨k, kvs, rfl, by rw [List.getElem?_append_left (List.getElem?_eq_some_iff.mp hk).1]; exact hk, r⟩)
theorem PV.at {v : D} {c c' : Cs} (h : PV v c) (e : ∀ k, v = .ref k → c'[k]? = c[k]?) : PV v c' := by
  rcases h with h | ⟨k, xs, rfl, hk, r⟩ | ⟨k, kvs, rfl, hk, r⟩
  · exact .inl h
  · exact .inr (.inl ⟨k, xs, rfl, by rw [e k rfl]; exact hk, r⟩)
  · exact .inr (.inr ⟨k, kvs, rfl, by rw [e k rfl]; exact hk, r⟩)
def bitLists : Nat → List (List Nat)
  | 0 => [[]]
  | n + 1 => (bitLists n).flatMap fun l => [48 :: l, 49 :: l]
theorem bitLists_mem : ∀ {ks : List Nat}, ks.all bitB = true → ks ∈ bitLists ks.length
  | [], _ => by simp [bitLists]
  | k :: ks, h => by
    obtain ⟨a, b⟩ := Bool.and_eq_true_iff.mp (show (bitB k && ks.all bitB) = true from h)
    have ih := bitLists_mem b
    have hk : k = 48 ∨ k = 49 := by simpa [bitB] using a
    show k :: ks ∈ (bitLists ks.length).flatMap fun l => [48 :: l, 49 :: l]
    refine List.mem_flatMap.mpr ⟨ks, ih, ?_⟩
    rcases hk with rfl | rfl <;> simp
def intOk (ks : List Nat) : Bool := match intText? ⟨ks.toArray⟩ with
  | some n => decide (n.natAbs < 10 ^ 30)
  | none => false
theorem ints_ok : ((List.range 8).all fun n => (bitLists (n + 1)).all intOk) = true := by decide +kernel
theorem int_row {s : Str} (hb : bitS s) (h1 : 1 ≤ s.length) (h8 : s.length ≤ 8) (c : Cs) : ∃ n : Int, n.natAbs < 10 ^ 30 ∧ intFD [.str s] c = .ok (.int n) c := by
  have hl : s.cps.toList.length = s.length := len_cps s
  have hm := bitLists_mem hb
  have := List.all_eq_true.mp (List.all_eq_true.mp ints_ok (s.length - 1) (List.mem_range.mpr (by omega))) s.cps.toList (by rw [show s.length - 1 + 1 = s.cps.toList.length by omega]; exact hm)
  unfold intOk at this
  have es : (⟨s.cps.toList.toArray⟩ : Str) = s := by simp
  rw [es] at this
  cases q : intText? s with
  | none => rw [q] at this; cases this
  | some n =>
    rw [q] at this
    refine ⟨n, of_decide_eq_true this, ?_⟩
    show (match intText? s with
      | some n => if s.length ≤ 640 then (.ok (.int n) c : Mi.R D) else .stuck
      | none => .stuck) = _
    rw [q]
    exact if_pos (by omega)
def FRE (d : D) : Prop := ∃ p, toPyC 16 [] d = some p ∧ bP p = true ∧ wP p ≤ 900 ∧ p.depth ≤ 4
theorem FRE.frb {d : D} (h : FRE d) : FRB d = true := by
  obtain ⟨p, e, h1, h2, h3⟩ := h
  have e2 : toPyC 17 [] d = some p := toPyC_free (by omega) e
  unfold FRB
  rw [e2]
  show (bP p && decide (wP p ≤ 20000) && decide (p.depth ≤ 10)) = true
  rw [h1, decide_eq_true (show wP p ≤ 20000 by omega), decide_eq_true (show p.depth ≤ 10 by omega)]
  rfl
theorem fre_str {s : Str} {n : Nat} (h : SB n s) (hn : n ≤ 80) : FRE (.str s) :=
  ⟨.str s, rfl, List.all_eq_true.mpr fun k hk => decide_eq_true (h.2 k (by simpa using hk)), by show 10 * s.length + 2 ≤ _; have := h.1; omega, by simp [PyData.depth]⟩
theorem fre_int {i : Int} (h : i.natAbs < 10 ^ 30) : FRE (.int i) :=
  ⟨.int i, rfl, decide_eq_true (Nat.lt_of_lt_of_le h (by decide +kernel)), by show 45 ≤ 900; decide, by simp [PyData.depth]⟩
theorem fre_non : FRE .non := ⟨.none, rfl, rfl, by decide, by simp [PyData.depth]⟩
theorem fre_one {s : Str} {n : Nat} (h : SB n s) (hn : n ≤ 80) : FRE (.lst [.str s]) := by
  refine ⟨.list [.str s], rfl, ?_, ?_, by simp [PyData.depth, PyData.depthAll]⟩
  · show (bP (.str s) && true) = true
    have : bP (.str s) = true := List.all_eq_true.mpr fun k hk => decide_eq_true (h.2 k (by simpa using hk))
    rw [this]; rfl
  · show ((10 * s.length + 2) + 2 + 0) + 2 ≤ 900
    have := h.1
    omega
theorem fres_ok : ∀ {xs : List D}, (∀ x ∈ xs, FRE x) → ∃ ps, mapO (toPyC 16 []) xs = some ps ∧ bPs ps = true ∧ wPs ps ≤ 902 * xs.length ∧ PyData.depthAll ps ≤ 4
  | [], _ => ⟨[], rfl, rfl, by decide, by decide⟩
  | x :: xs, h => by
    obtain ⟨p, h2, h3, h4, h5⟩ := h x List.mem_cons_self
    obtain ⟨ps, g2, g3, g4, g5⟩ := fres_ok fun y hy => h y (List.mem_cons_of_mem _ hy)
    refine ⟨p :: ps, by simp only [mapO, h2, g2], by simp [bPs, h3, g3], ?_, ?_⟩
    · simp only [wPs, List.length_cons]; omega
    · simp only [PyData.depthAll]; omega
theorem frb_tup {xs : List D} (h : ∀ x ∈ xs, FRE x) (hl : xs.length ≤ 20) : FRB (.tup xs) = true := by
  obtain ⟨ps, g2, g3, g4, g5⟩ := fres_ok h
  have e : toPyC 17 [] (.tup xs) = some (.tuple ps) := Option.map_eq_some_iff.mpr ⟨ps, g2, rfl⟩
  have w : wP (.tuple ps) ≤ 20000 := by show wPs ps + 3 ≤ _; omega
  have dd : (PyData.tuple ps).depth ≤ 10 := by simp only [PyData.depth]; omega
  have bb : bP (.tuple ps) = true := g3
  unfold FRB
  rw [e]
  show (bP _ && decide (wP _ ≤ 20000) && decide (_ ≤ 10)) = true
  rw [bb, decide_eq_true w, decide_eq_true dd]
  rfl
theorem row_sb {s : Str} (hb : bitS s) (h8 : s.length ≤ 8) : SB 8 s := ⟨h8, bits_cp hb⟩
theorem rows_fre {rs : List D} (h : Rows rs) : ∀ x ∈ rs, FRE x := by
  obtain ⟨y0, yr, rfl, h1, h2, h3, h4⟩ := h
  intro x hx
  obtain ⟨y, hy, rfl⟩ := List.mem_map.mp hx
  exact fre_str (row_sb (h2 y hy).2 (by rw [(h2 y hy).1]; exact h4)) (by omega)
theorem rows_len {rs : List D} (h : Rows rs) : 1 ≤ rs.length ∧ rs.length ≤ 8 := by
  obtain ⟨y0, yr, rfl, h1, h2, h3, h4⟩ := h
  rw [List.length_map]
  exact ⟨by simp, h1⟩
theorem cutD_mem {xs : List D} {a b : Option Int} : (∀ x ∈ Mi.cutD xs a b, x ∈ xs) ∧ (Mi.cutD xs a b).length ≤ xs.length := by
  unfold Mi.cutD
  refine ⟨fun x hx => List.mem_of_mem_drop (List.mem_of_mem_take hx), ?_⟩
  rw [List.length_take, List.length_drop]
  omega

theorem pv_el {v : D} {c : Cs} (h : PV v c) : ElV v c := by
  rcases h with ⟨h, ht⟩ | ⟨k, xs, rfl, hk, hl, hx⟩ | ⟨k, kvs, rfl, hk, _⟩
  · obtain ⟨p, hp, hb, hw, _⟩ := frb_of h
    exact el_of hp (by omega)
  · exact ⟨"list", by simp [tyD, hk], fun e => by simp at e⟩
  · exact ⟨"dict", by simp [tyD, hk], fun e => by simp at e⟩
theorem PV.lt {v : D} {c : Cs} (h : PV v c) : ∀ j, v = .ref j → j < c.length := fun j e => by
  rcases h with ⟨hf, _⟩ | ⟨k', xs, e', hk, _⟩ | ⟨k', kvs, e', hk, _⟩
  · subst e
    obtain ⟨p, hp, _⟩ := frb_of hf
    cases hp
  · rw [e] at e'; cases e'
    exact (List.getElem?_eq_some_iff.mp hk).1
  · rw [e] at e'; cases e'
    exact (List.getElem?_eq_some_iff.mp hk).1
theorem PV.keep {v : D} {c c' : Cs} {kb : Nat} (h : PV v c) (hv : v ≠ .ref kb) (f : ∀ j, j ≠ kb → j < c.length → c'[j]? = c[j]?) : PV v c' :=
  h.at fun k e => f k (fun ek => hv (by rw [e, ek])) (h.lt k e)
theorem repL_mem {xs : List D} {k : Int} : ∀ x ∈ repL xs k, x ∈ xs := fun x hx => by
  obtain ⟨l, hl, hxl⟩ := List.mem_flatten.mp hx
  rw [(List.mem_replicate.mp hl).2] at hxl
  exact hxl
theorem repL_len (xs : List D) : (repL xs 8).length = 8 * xs.length := by
  show (List.replicate 8 xs).flatten.length = _
  simp
  omega

/-! ### values of threads.py -/
theorem ty_ref {k : Nat} {c : Cs} {t : String} (h : tyD (.ref k) c = some t) : t = "list" ∨ t = "dict" := by
  unfold tyD at h
  cases q : c[k]? with
  | none => simp only [q] at h; cases h
  | some x =>
    simp only [q] at h
    cases x with
    | lst xs => cases h; exact .inl rfl
    | dct xs => cases h; exact .inr rfl
    | frz d => cases d <;> first | (cases h; exact .inl rfl) | cases h
    | _ => cases h
def isInt (d : D) (lo hi : Int) : Bool := match d with
  | .int i => decide (lo ≤ i) && decide (i ≤ hi)
  | _ => false
theorem is_integer_eq {d : D} {lo hi : Int} {c : Cs} (h : (tyD d c).isSome = true) : gis_integer [d, .int lo, .int hi] c = .ok (.bl (isInt d lo hi)) c := by
  obtain ⟨t, ht⟩ := Option.isSome_iff_exists.mp h
  have hm := tyD_mem ht
  have e1 : isiD [d, .ty "int"] c = .ok (.bl (isT t "int")) c := by simp [isiD, ht, tyNames]
  have e2 : isiD [d, .ty "bool"] c = .ok (.bl (isT t "bool")) c := by simp [isiD, ht, tyNames]
  have non : isT t "int" = false → isInt d lo hi = false → gis_integer [d, .int lo, .int hi] c = .ok (.bl (isInt d lo hi)) c := fun h1 h2 => by
    rw [h2]
    simp [gis_integer, mFun, cis_integer, sRet, mAnd, mCB, aCons, aNil, mVar, mC, e1, h1]
  cases d with
  | int i =>
    cases ht
    by_cases h1 : lo ≤ i
    · by_cases h2 : i ≤ hi
      · simp [gis_integer, mFun, cis_integer, sRet, mAnd, mNot, mCB, aCons, aNil, mVar, mC, isiD, tyD, isT, tyNames, mChain, leD, isInt, h1, h2]
      · simp [gis_integer, mFun, cis_integer, sRet, mAnd, mNot, mCB, aCons, aNil, mVar, mC, isiD, tyD, isT, tyNames, mChain, leD, isInt, h1, h2]
    · simp [gis_integer, mFun, cis_integer, sRet, mAnd, mNot, mCB, aCons, aNil, mVar, mC, isiD, tyD, isT, tyNames, mChain, leD, isInt, h1]
  | bl b =>
    cases ht
    simp [gis_integer, mFun, cis_integer, sRet, mAnd, mNot, mCB, aCons, aNil, mVar, mC, isiD, tyD, isT, tyNames, isInt]
  | ref k => rcases ty_ref ht with rfl | rfl <;> exact non rfl rfl
  | obj => cases ht
  | adr => cases ht
  | ty => cases ht
  | _ => cases ht; exact non rfl rfl
/-- a value as the laws draw it -/
def Val (d : D) (c : Cs) : Prop := match d with
  | .tup xs => ∀ x ∈ xs, (tyD x c).isSome = true
  | .ref k => (∃ xs, c[k]? = some (.lst xs)) ∨ ∃ kvs, c[k]? = some (.dct kvs)
  | .ro _ => False
  | d => (tyD d c).isSome = true
def isThr (d : D) (w h : Int) : Bool := match d with
  | .tup [.str s, x] => if s = "warp" then isInt x 0 (w - 1) else if s = "weft" then isInt x 0 (h - 1) else false
  | _ => false
theorem in_kinds (s : Str) (c : Cs) : inX false (.str s) (.tup [.str "warp", .str "weft"]) c = .ok (.bl (decide (s = "warp") || decide (s = "weft"))) c := by
  have e : ∀ a s : Str, (a == s) = decide (s = a) := fun a s => by rw [Bool.eq_iff_iff, beq_iff_eq, decide_eq_true_iff]; exact ⟨Eq.symm, Eq.symm⟩
  simp [inX, inD, inL, flatD, eqF, sgn, e]
theorem pv_val {v : D} {c : Cs} (h : PV v c) : Val v c := by
  rcases h with ⟨h, ht⟩ | ⟨k, xs, rfl, hk, hl, hx⟩ | ⟨k, kvs, rfl, hk, _⟩
  · obtain ⟨p, hp, hb, hw, _⟩ := frb_of h
    cases v with
    | tup xs =>
      obtain ⟨ps, e1, rfl⟩ := Option.map_eq_some_iff.mp hp
      intro x hx
      obtain ⟨q, hq, e⟩ := mapO_mem e1 hx
      have hw : wPs ps + 3 ≤ 20000 := hw
      have := wPs_mem hq
      obtain ⟨t, h1, _⟩ := (el_of (c := c) e (by omega)).ex
      rw [h1]; rfl
    | lst xs => rfl
    | non => rfl
    | bl _ => rfl
    | int _ => rfl
    | str _ => rfl
    | _ => rcases ht with ht | ⟨_, e, _⟩ <;> first | cases ht | cases e
  · exact .inl ⟨xs, hk⟩
  · exact .inr ⟨kvs, hk⟩

/-! ### cloths -/
structure RwS (ys : List Str) (w : Nat) : Prop where
  n1 : 1 ≤ ys.length
  n8 : ys.length ≤ 8
  w1 : 1 ≤ w
  w8 : w ≤ 8
  len : ∀ y ∈ ys, y.length = w
  bit : ∀ y ∈ ys, bitS y
theorem Rows.rws {rs : List D} (h : Rows rs) : ∃ ys w, rs = ys.map D.str ∧ RwS ys w := by
  obtain ⟨y0, yr, e, h1, h2, h3, h4⟩ := h
  exact ⟨y0 :: yr, y0.length, e, by simp, h1, h3, h4, fun y hy => (h2 y hy).1, fun y hy => (h2 y hy).2⟩
theorem RwS.rows {ys : List Str} {w : Nat} (h : RwS ys w) : Rows (ys.map D.str) := by
  cases ys with
  | nil => exact absurd h.n1 (by simp)
  | cons y0 yr =>
    have e := h.len y0 List.mem_cons_self
    exact ⟨y0, yr, rfl, h.n8, fun y hy => ⟨by rw [h.len y hy, e], h.bit y hy⟩, by rw [e]; exact h.w1, by rw [e]; exact h.w8⟩
theorem RwS.is {ys : List Str} {w : Nat} (h : RwS ys w) : isRows (ys.map D.str) = true := h.rows.is
theorem RwS.head {ys : List Str} {w : Nat} (h : RwS ys w) : ∃ y0 yr, ys = y0 :: yr ∧ y0.length = w := by
  cases ys with
  | nil => exact absurd h.n1 (by simp)
  | cons y0 yr => exact ⟨y0, yr, rfl, h.len y0 List.mem_cons_self⟩
def clD (ys : List Str) : List (Str × D) := [("kept_rows", .lst (ys.map D.str))]
def clo (ys : List Str) : D := .obj "Cloth" (clD ys)
def IsCl (x : D) (c : Cs) (ys : List Str) : Prop := insOf x c = some (("Cloth" : Str), clD ys)
theorem clo_is (ys : List Str) (c : Cs) : IsCl (clo ys) c ys := rfl
theorem IsCl.ext {x : D} {c c' : Cs} {ys : List Str} (h : IsCl x c ys) (p : Pfx c c') : IsCl x c' ys := by
  unfold IsCl at h ⊢
  cases x with
  | ref k =>
    unfold insOf at h ⊢
    cases q : c[k]? with
    | none => simp only [q] at h; cases h
    | some z => simp only [q] at h; simp only [p.get q]; exact h
  | _ => exact h
theorem lk_kept (ys : List Str) : (clD ys).lookup ("kept_rows" : Str) = some (D.lst (ys.map D.str)) := by
  simp [clD, List.lookup]
theorem ok_kept {o : ME} {l : Ls} {c : Cs} {Q : D → Cs → Prop} (h : Ok (o l c) fun x c1 => ∃ ys, IsCl x c1 ys ∧ Q (.lst (ys.map D.str)) c1) : Ok (mFld ["Cloth"] "kept_rows" o l c) Q :=
  ok_fld (h.mono fun x c1 ⟨ys, h1, q⟩ => ⟨_, _, h1, lk_kept ys, q⟩)
theorem lk_ne {ys : List Str} {mm : Str} (h : (mm == ("kept_rows" : Str)) = false) : (clD ys).lookup mm = none := by
  simp [clD, List.lookup, h]
theorem ok_clmeth {g : List D → Cs → R D} {mm : Str} {o : ME} {t : MA} {l : Ls} {c : Cs} {Q : D → Cs → Prop} (hm : (mm == ("kept_rows" : Str)) = false) (h : Ok (o l c) fun x c1 => (∃ ys, IsCl x c1 ys) ∧ Ok (t l c1) fun xs c2 => Ok (g (x :: xs) c2) Q) : Ok (mMeth [("Cloth", g)] mm o t l c) Q :=
  ok_meth (h.mono fun x c1 ⟨⟨ys, h1⟩, q⟩ => ⟨⟨_, h1, lk_ne hm⟩, q⟩)
theorem ok_clprop {g : List D → Cs → R D} {o : ME} {l : Ls} {c : Cs} {Q : D → Cs → Prop} (h : Ok (o l c) fun x c1 => (∃ ys, IsCl x c1 ys) ∧ Ok (g [x] c1) Q) : Ok (mProp [("Cloth", g)] o l c) Q :=
  ok_prop (h.mono fun x c1 ⟨⟨ys, h1⟩, q⟩ => ⟨⟨_, h1⟩, q⟩)
theorem weft_eq {x : D} {c : Cs} {ys : List Str} (h : IsCl x c ys) : gCloth__weft_count [x] c = .ok (.int ys.length) c := by
  refine Ok.eq (Ok.fun rfl ?_)
  unfold cCloth__weft_count
  refine os_ret (ok_cb (ok_acons (ok_kept (ok_var rfl ⟨ys, h, ok_anil (Ok.of (len_seq rfl) ?_)⟩))))
  rw [List.length_map]
  exact ⟨rfl, rfl⟩
theorem warp_eq {x : D} {c : Cs} {ys : List Str} {w : Nat} (h : IsCl x c ys) (hr : RwS ys w) : gCloth__warp_count [x] c = .ok (.int w) c := by
  have hz : sizeLine = 16777216 := sizeLine_eq
  obtain ⟨y0, yr, rfl, e0⟩ := hr.head
  have := hr.w8
  refine Ok.eq (Ok.fun rfl ?_)
  unfold cCloth__warp_count
  refine os_ret (ok_cb (ok_acons (ok_op (ok_kept (ok_var rfl ⟨_, h, ok_c (Ok.of (item_seq (i := 0) rfl rfl) (ok_anil (ok_len_str (by omega) ?_)))⟩)))))
  rw [e0]
  exact ⟨rfl, rfl⟩
def thrK (k : Str) (n : Nat) : List D := (List.range n).map fun i => .tup [.str k, .int (i : Nat)]
def thrs (w h : Nat) : List D := thrK "warp" w ++ thrK "weft" h
theorem cl_make {v : D} {c : Cs} {ys : List Str} {w : Nat} (h : SeqV v c (ys.map D.str)) (hr : RwS ys w) : (mkR "Cloth" gCloth____init__ [v] c).bind (fun d c1 => frzI d c1) = .ok (clo ys) (c ++ [.frz (clo ys)]) := by
  rw [make_ok h hr.is]
  show (match (c ++ [Cell.ins "Cloth" [("kept_rows", D.lst (ys.map D.str))]])[c.length]? with
    | some (.ins n fs) => (.ok (.obj n fs) ((c ++ [Cell.ins "Cloth" [("kept_rows", D.lst (ys.map D.str))]]).set c.length (.frz (.obj n fs))) : Mi.R D)
    | _ => .stuck) = _
  rw [cell_last]
  show Mi.R.ok _ ((c ++ [_]).set c.length _) = _
  rw [set_last]
  rfl
theorem ok_clmake {t : MA} {l : Ls} {c : Cs} {Q : D → Cs → Prop} (h : Ok (t l c) fun xs c1 => ∃ v ys w, xs = [v] ∧ SeqV v c1 (ys.map D.str) ∧ RwS ys w ∧ Q (clo ys) (c1 ++ [.frz (clo ys)])) : Ok (mFrzI (mMake "Cloth" gCloth____init__ t) l c) Q := by
  obtain ⟨xs, c1, e, v, ys, w, rfl, hv, hr, q⟩ := h
  refine ⟨clo ys, c1 ++ [.frz (clo ys)], ?_, q⟩
  have := cl_make hv hr
  unfold mFrzI mMake
  rw [e]
  exact this
theorem str_seq {ys : List Str} {v : D} {c : Cs} (hs : seqOf v c = some (ys.map D.str)) (ht : tyD v c = some "list" ∨ tyD v c = some "tuple") (hr : ∀ zs, v ≠ .ro zs) (hl : ys.length ≤ 10000) (h : ∀ y ∈ ys, y.length ≤ 5000) : SeqV v c (ys.map D.str) :=
  ⟨hs, ht, by rw [List.length_map]; exact hl, fun x hx => by
    obtain ⟨y, hy, rfl⟩ := List.mem_map.mp hx
    exact ⟨"str", rfl, fun _ => ⟨y, rfl, h y hy⟩⟩, hr⟩
theorem RwS.seqL {ys : List Str} {w : Nat} (h : RwS ys w) (c : Cs) : SeqV (.lst (ys.map D.str)) c (ys.map D.str) := str_seq rfl (.inl rfl) nofun (by have := h.n8; omega) fun y hy => by rw [h.len y hy]; have := h.w8; omega
theorem RwS.seqT {ys : List Str} {w : Nat} (h : RwS ys w) (c : Cs) : SeqV (.tup (ys.map D.str)) c (ys.map D.str) := str_seq rfl (.inr rfl) nofun (by have := h.n8; omega) fun y hy => by rw [h.len y hy]; have := h.w8; omega
theorem RwS.seqR {ys : List Str} {w k : Nat} {c : Cs} (h : RwS ys w) (hk : c[k]? = some (.lst (ys.map D.str))) : SeqV (.ref k) c (ys.map D.str) := str_seq (by simp [seqOf, hk]) (.inl (by simp [tyD, hk])) nofun (by have := h.n8; omega) fun y hy => by rw [h.len y hy]; have := h.w8; omega

/-! ### slices -/
def cutL {α : Type} (xs : List α) (lo hi : Option Int) : List α := (xs.drop (HT.sIx xs.length 0 lo)).take (HT.sIx xs.length xs.length hi - HT.sIx xs.length 0 lo)
theorem cutD_map {α : Type} (f : α → D) (ys : List α) (a b : Option Int) : Mi.cutD (ys.map f) a b = (cutL ys a b).map f := by
  unfold Mi.cutD cutL
  rw [List.length_map, List.map_take, List.map_drop]
theorem sIx_pos {n d : Nat} {i : Int} (h : 0 ≤ i) : HT.sIx n d (some i) = min i.toNat n := by
  have := HT.sIx_nat n d i.toNat
  rw [Int.toNat_of_nonneg h] at this
  exact this
theorem cutL_to {α : Type} (xs : List α) {i : Int} (h : 0 ≤ i) : cutL xs none (some i) = xs.take i.toNat := by
  unfold cutL
  rw [sIx_pos h, HT.sIx_none, List.drop_zero, Nat.sub_zero]
  rcases Nat.le_total i.toNat xs.length with q | q
  · rw [Nat.min_eq_left q]
  · rw [Nat.min_eq_right q, List.take_of_length_le q, List.take_of_length_le (Nat.le_refl _)]
theorem cutL_from {α : Type} (xs : List α) {i : Int} (h : 0 ≤ i) : cutL xs (some i) none = xs.drop i.toNat := by
  unfold cutL
  rw [sIx_pos h, HT.sIx_none]
  rcases Nat.le_total i.toNat xs.length with q | q
  · rw [Nat.min_eq_left q, List.take_of_length_le (by simp)]
  · rw [Nat.min_eq_right q, List.drop_of_length_le q, List.drop_of_length_le (Nat.le_refl _)]
    simp
theorem cutL_mid {α : Type} (xs : List α) {i j : Int} (h : 0 ≤ i) (h2 : i ≤ j) (h3 : j.toNat ≤ xs.length) : cutL xs (some i) (some j) = (xs.drop i.toNat).take (j.toNat - i.toNat) := by
  unfold cutL
  rw [sIx_pos h, sIx_pos (n := xs.length) (i := j) (by omega), Nat.min_eq_left (show i.toNat ≤ xs.length by omega), Nat.min_eq_left h3]
theorem cutL_mem {α : Type} {xs : List α} {a b : Option Int} : ∀ x ∈ cutL xs a b, x ∈ xs := fun x hx => List.mem_of_mem_drop (List.mem_of_mem_take hx)
theorem cutS_list (s : Str) (a b : Option Int) : (cutS s a b).cps.toList = cutL s.cps.toList a b := by
  have e : s.cps.toList.length = s.length := Array.length_toList
  unfold cutS cutL
  rw [List.toList_toArray, e]
theorem str_len (s : Str) : s.length = s.cps.toList.length := Array.length_toList.symm
theorem bitS_cut {s : Str} (h : bitS s) (a b : Option Int) : bitS (cutS s a b) := by
  unfold bitS at h ⊢
  rw [cutS_list]
  exact List.all_eq_true.mpr fun k hk => List.all_eq_true.mp h k (cutL_mem k hk)
theorem app_list (s t : Str) : (s ++ t).cps.toList = s.cps.toList ++ t.cps.toList := Array.toList_append
theorem bitS_app {s t : Str} (h : bitS s) (g : bitS t) : bitS (s ++ t) := by
  unfold bitS at h g ⊢
  rw [app_list, List.all_append, h, g]
  rfl
theorem slice_strs (ys : List Str) (a b : Option Int) (c : Cs) : sliceD (.lst (ys.map D.str)) a b c = .ok (.lst ((cutL ys a b).map D.str)) c := by
  show (Mi.R.ok (D.lst (Mi.cutD (ys.map D.str) a b)) c : Mi.R D) = _
  rw [cutD_map]
theorem RwS.of_mem {ys zs : List Str} {w : Nat} (h : RwS ys w) (h1 : 1 ≤ zs.length) (h8 : zs.length ≤ 8) (hm : ∀ z ∈ zs, z ∈ ys) : RwS zs w :=
  ⟨h1, h8, h.w1, h.w8, fun z hz => h.len z (hm z hz), fun z hz => h.bit z (hm z hz)⟩
theorem add_strs {s t : List Str} {c : Cs} {Q : D → Cs → Prop} (h : s.length + t.length ≤ sizeLine) (q : Q (.lst ((s ++ t).map D.str)) c) : Ok (addD (.lst (s.map D.str)) (.lst (t.map D.str)) c) Q :=
  ok_add_lst (by simpa using h) (by rw [← List.map_append]; exact q)
/-- an item of texts -/
theorem item_strs {ys : List Str} {i : Int} {c : Cs} {Q : D → Cs → Prop} (h0 : 0 ≤ i) (h : i < ys.length) (q : ∀ y, ys[i.toNat]? = some y → Q (.str y) c) : Ok (itemD (.lst (ys.map D.str)) (.int i) c) Q :=
  ok_item_lst h0 (by simpa using h) fun d hd => by
    rw [List.getElem?_map] at hd
    obtain ⟨y, hy, rfl⟩ := Option.map_eq_some_iff.mp hd
    exact q y hy
theorem int_bit {k : Nat} (h : bitB k = true) (c : Cs) : intFD [.str ⟨#[k]⟩] c = .ok (.int (if k = 49 then 1 else 0)) c := by
  have hk : k = 48 ∨ k = 49 := by simpa [bitB] using h
  rcases hk with rfl | rfl <;> first | rfl | kernel_rfl
theorem bit_one {k : Nat} (h : bitB k = true) : bitS ⟨#[k]⟩ := by
  show [k].all bitB = true
  simp [h]
theorem os_if2 {p q : MT} {f g : MS} {l : Ls} {c : Cs} {QS : Fl → Cs → Prop} (h : Ok (p l c) fun k c1 => c1 = c ∧ Ok (q l c) fun k2 c2 => c2 = c ∧ (k = true → k2 = true → OkS (f l c) QS) ∧ (¬ (k = true ∧ k2 = true) → OkS (g l c) QS)) : OkS (sIf (tAndM p q) f g l c) QS := by
  obtain ⟨k, c1, e1, rfl, k2, c2, e2, rfl, h1, h2⟩ := h
  refine os_if (ok_tand ⟨k, _, e1, fun hk => ⟨k2, _, e2, fun h => h1 hk h, fun h => h2 (by simp [h])⟩, fun hk => ⟨fun h => Bool.noConfusion h, fun _ => h2 (by simp [hk])⟩⟩)
theorem ok_r3 {t : MA} {l : Ls} {c : Cs} {Q : List D → Cs → Prop} (h : Ok (t l c) fun xs c1 => ∃ i j s, xs = [.int i, .int j, .int s] ∧ r3ok i j s ∧ Q (rangeC i s (Builtin.Range.rangeSize i j s).toNat) c1) : Ok (iR3 t l c) Q :=
  Ok.bind (h.mono fun x c1 ⟨i, j, s, e, hj, h⟩ => by subst e; exact ⟨_, _, if_pos hj, h⟩)
theorem fmod_nat (a b : Nat) : (a : Int).fmod (b : Int) = ((a % b : Nat) : Int) := by
  rw [Int.fmod_eq_emod_of_nonneg _ (by omega)]; rfl
theorem fdiv_nat (a b : Nat) : (a : Int).fdiv (b : Int) = ((a / b : Nat) : Int) := by
  rw [Int.fdiv_eq_ediv_of_nonneg _ (by omega)]; rfl

/-- the box may change, else the cells only grow -/
def Gr (kb : Nat) (c c' : Cs) : Prop := c.length ≤ c'.length ∧ ∀ j, j ≠ kb → j < c.length → c'[j]? = c[j]?
theorem Gr.refl (kb : Nat) (c : Cs) : Gr kb c c := ⟨Nat.le_refl _, fun _ _ _ => rfl⟩
theorem Gr.trans {kb : Nat} {a b c : Cs} (h : Gr kb a b) (g : Gr kb b c) : Gr kb a c := ⟨Nat.le_trans h.1 g.1, fun j hj hl => by rw [g.2 j hj (Nat.lt_of_lt_of_le hl h.1), h.2 j hj hl]⟩
theorem Gr.of {kb : Nat} {a b : Cs} (h : Pfx a b) : Gr kb a b := ⟨h.len, fun _ _ hl => h.at hl⟩
theorem Gr.app {kb : Nat} {a b : Cs} (h : Gr kb a b) (x : Cs) : Gr kb a (b ++ x) := h.trans (.of (Pfx.one b x))
theorem Gr.get {kb : Nat} {c c' : Cs} {k : Nat} {x : Cell} (h : Gr kb c c') (hk : k ≠ kb) (e : c[k]? = some x) : c'[k]? = some x := by
  rw [h.2 k hk (List.getElem?_eq_some_iff.mp e).1]
  exact e
theorem Gr.set {kb : Nat} {a b : Cs} (h : Gr kb a b) {k : Nat} (hk : a.length ≤ k) (x : Cell) : Gr kb a (b.set k x) := ⟨by rw [List.length_set]; exact h.1, fun j hj hl => by rw [List.getElem?_set_ne (by omega)]; exact h.2 j hj hl⟩
theorem Gr.take {kb : Nat} {c c' : Cs} (hl : c'.length = c.length) (f : ∀ j, j ≠ kb → c'[j]? = c[j]?) : Gr kb c c' := ⟨by omega, fun j hj _ => f j hj⟩
/-- a draw -/
theorem take_gr {c : Cs} {k : Nat} {n many : Int} {Q : D → Cs → Prop} (h : Bx c k n) (hn : n ≤ 1000000) (hm : 0 < many) (hm2 : many ≤ 1000000)
    (q : ∀ (i : Int) (c' : Cs), 0 ≤ i → i < many → Bx c' k (n + 1) → Gr k c c' → c'.length = c.length → Q (.int i) c') : Ok (g_law_take [.ref k, .int many] c) Q :=
  take_ok h hn hm hm2 fun i c' h0 h1 b l f => q i c' h0 h1 b (.take l f) l

/-! ### turning, in plain lists -/
def tR (j : Nat) (r : List Nat) (ps : List (Nat × Nat)) : List Nat := r.mapIdx fun i k => if (i, j) ∈ ps then exch k else k
theorem tR_nil (j : Nat) (r : List Nat) : tR j r [] = r := by
  refine List.ext_getElem (by simp [tR]) fun i h1 h2 => ?_
  simp [tR]
theorem tR_len (j : Nat) (r : List Nat) (ps : List (Nat × Nat)) : (tR j r ps).length = r.length := by simp [tR]
theorem tR_other {j j' i : Nat} (r : List Nat) (ps : List (Nat × Nat)) (h : j' ≠ j) : tR j' r (ps ++ [(i, j)]) = tR j' r ps := by
  refine List.ext_getElem (by simp [tR]) fun x h1 h2 => ?_
  have e : ¬ ((x, j') = (i, j)) := fun e => h (Prod.mk.inj e).2
  simp [tR, e, h]
theorem tR_at {j i : Nat} {r : List Nat} {ps : List (Nat × Nat)} (hn : (i, j) ∉ ps) (hi : i < r.length) : (tR j r ps)[i]? = some r[i] := by
  simp [tR, hn, hi]
theorem tR_snoc {j i : Nat} {r : List Nat} {ps : List (Nat × Nat)} (hi : i < r.length) : tR j r (ps ++ [(i, j)]) = (tR j r ps).set i (exch r[i]) := by
  refine List.ext_getElem (by simp [tR]) fun x h1 h2 => ?_
  rw [List.getElem_set]
  by_cases e : i = x
  · subst e
    simp [tR]
  · have e2 : ¬ x = i := fun h => e h.symm
    simp [tR, e, e2]
def chD (ks : List Nat) : List D := ks.map fun k => D.str ⟨#[k]⟩
def mkS (ks : List Nat) : Str := ⟨ks.toArray⟩
theorem mkS_cps (ks : List Nat) : (mkS ks).cps.toList = ks := by simp [mkS]
theorem mkS_of (s : Str) : mkS s.cps.toList = s := by simp [mkS]
theorem chrs_mk (ks : List Nat) : chrs (mkS ks) = chD ks := by simp [chrs, chD, mkS]
theorem exch_bit {k : Nat} (h : bitB k = true) : bitB (exch k) = true ∧ exch k = if k = 49 then 48 else 49 := by
  have : k = 48 ∨ k = 49 := by simpa [bitB] using h
  rcases this with rfl | rfl <;> decide
theorem tR_bits {j : Nat} {r : List Nat} {ps : List (Nat × Nat)} (h : r.all bitB = true) : (tR j r ps).all bitB = true := by
  refine List.all_eq_true.mpr fun k hk => ?_
  obtain ⟨i, hi, e⟩ := List.mem_mapIdx.mp hk
  have hb := List.all_eq_true.mp h r[i] (List.getElem_mem hi)
  rw [← e]
  split
  · exact (exch_bit hb).1
  · exact hb
/-- the rows, turned -/
def tS (ys : List Str) (ps : List (Nat × Nat)) : List Str := ys.mapIdx fun j y => mkS (tR j y.cps.toList ps)
theorem tS_len (ys : List Str) (ps : List (Nat × Nat)) : (tS ys ps).length = ys.length := by simp [tS]
theorem RwS.turn {ys : List Str} {w : Nat} (h : RwS ys w) (ps : List (Nat × Nat)) : RwS (tS ys ps) w := by
  have hm : ∀ z ∈ tS ys ps, ∃ j, ∃ y ∈ ys, z = mkS (tR j y.cps.toList ps) := fun z hz => by
    obtain ⟨j, hj, e⟩ := List.mem_mapIdx.mp hz
    exact ⟨j, ys[j], List.getElem_mem hj, e.symm⟩
  refine ⟨by rw [tS_len]; exact h.n1, by rw [tS_len]; exact h.n8, h.w1, h.w8, fun z hz => ?_, fun z hz => ?_⟩
  · obtain ⟨j, y, hy, rfl⟩ := hm z hz
    rw [← len_cps, mkS_cps, tR_len, len_cps]
    exact h.len y hy
  · obtain ⟨j, y, hy, rfl⟩ := hm z hz
    unfold bitS
    rw [mkS_cps]
    exact tR_bits (h.bit y hy)
/-! ### crossings -/
def crD (p : Nat × Nat) : D := .tup [.int p.1, .int p.2]
def crOf (w h : Nat) (x : D) : Option (Nat × Nat) := match x with
  | .tup [.int i, .int j] => if 0 ≤ i ∧ i < w ∧ 0 ≤ j ∧ j < h then some (i.toNat, j.toNat) else none
  | _ => none
theorem crOf_at {w h : Nat} {x : D} {p : Nat × Nat} (e : crOf w h x = some p) : x = crD p ∧ p.1 < w ∧ p.2 < h := by
  unfold crOf at e
  split at e
  · rename_i i j
    split at e
    · rename_i hc
      cases e
      obtain ⟨a, b, c, d⟩ := hc
      refine ⟨?_, by omega, by omega⟩
      unfold crD
      rw [Int.toNat_of_nonneg a, Int.toNat_of_nonneg c]
    · cases e
  · cases e
theorem crOf_cr {w h : Nat} {p : Nat × Nat} (h1 : p.1 < w) (h2 : p.2 < h) : crOf w h (crD p) = some p := by
  unfold crOf crD
  simp only []
  rw [if_pos ⟨by omega, by omega, by omega, by omega⟩]
  simp
def crP (p : Nat × Nat) : PyData := .tuple [.int p.1, .int p.2]
theorem py_cr (n : Nat) (c : Cs) (p : Nat × Nat) : toPyC (n + 2) c (crD p) = some (crP p) := rfl
theorem crP_eqv (p q : Nat × Nat) : PyData.eqv (crP p) (crP q) = decide (p = q) := by
  obtain ⟨a, b⟩ := p
  obtain ⟨a', b'⟩ := q
  have e : PyData.eqv (crP (a, b)) (crP (a', b')) = (((a : Int) == (a' : Int)) && (((b : Int) == (b' : Int)) && true)) := by simp only [crP, PyData.eqv, PyData.eqvAll]
  rw [e]
  by_cases h1 : a = a'
  · by_cases h2 : b = b'
    · subst h1; subst h2; simp
    · have q : ((b : Int) == (b' : Int)) = false := beq_eq_false_iff_ne.mpr (by omega)
      rw [q]
      simp [h1, h2]
  · have q : ((a : Int) == (a' : Int)) = false := beq_eq_false_iff_ne.mpr (by omega)
    rw [q]
    simp [h1]
theorem crP_any (ps : List (Nat × Nat)) (p : Nat × Nat) : ((ps.map crP).any fun z => PyData.eqv z (crP p)) = decide (p ∈ ps) := by
  induction ps with
  | nil => rfl
  | cons q ps ih =>
    rw [List.map_cons, List.any_cons, ih, crP_eqv]
    by_cases h : q = p
    · subst h; simp
    · have h2 : ¬ p = q := fun e => h e.symm
      simp [h, h2]
theorem crP_lay : ∀ ps : List (Nat × Nat), PyData.canLayAll0 (ps.map crP) = true
  | [] => rfl
  | p :: ps => by
    rw [List.map_cons]
    show ((crP p).canLay0 && PyData.canLayAll0 (ps.map crP)) = true
    rw [crP_lay ps]
    rfl
theorem crP_ok (ps : List (Nat × Nat)) (p : Nat × Nat) : inOk (crP p) (ps.map crP) = true := by
  show (PyData.canLayAll0 (ps.map crP) && (crP p).canLay0 && decide ((crP p).depth ≤ 60)) = true
  rw [crP_lay]
  rfl
theorem mapO_map {α : Type} {f : D → Option PyData} {e : α → D} {g : α → PyData} (h : ∀ a, f (e a) = some (g a)) : ∀ xs : List α, mapO f (xs.map e) = some (xs.map g)
  | [] => rfl
  | x :: xs => by
    rw [List.map_cons, List.map_cons]
    unfold mapO
    rw [h, mapO_map h xs]
/-- a crossing in a list or tuple of crossings -/
theorem in_cr {neg : Bool} {p : Nat × Nat} {v : D} {c : Cs} {ps : List (Nat × Nat)} (hs : seqOf v c = some (ps.map crD)) (hr : ∀ xs, v ≠ .ro xs) : inY neg (crD p) v c = .ok (.bl (sgn neg (decide (p ∈ ps)))) c := by
  have hm : mapO (toPyC 29 c) (ps.map crD) = some (ps.map crP) := mapO_map (fun p => py_cr 27 c p) ps
  have e1 : inX neg (crD p) v c = .stuck := by
    cases v with
    | lst xs => rfl
    | tup xs => rfl
    | ro xs => exact absurd rfl (hr xs)
    | ref k =>
      show (match lstOf (.ref k) c with
        | some xs => inL neg (crD p) xs c
        | none => .stuck) = _
      cases lstOf (.ref k) c <;> rfl
    | _ => cases hs
  have e2 : ∃ b, toPyC 30 c v = some b ∧ seqP b = some (ps.map crP) := by
    cases v with
    | lst xs => cases hs; exact ⟨_, by show (mapO (toPyC 29 c) _).map PyData.list = _; rw [hm]; rfl, rfl⟩
    | tup xs => cases hs; exact ⟨_, by show (mapO (toPyC 29 c) _).map PyData.tuple = _; rw [hm]; rfl, rfl⟩
    | ro xs => exact absurd rfl (hr xs)
    | ref k =>
      have hs : (match c[k]? with
        | some (.lst xs) => some xs
        | _ => none) = some (ps.map crD) := hs
      cases q : c[k]? with
      | none => rw [q] at hs; cases hs
      | some y =>
        rw [q] at hs
        cases y with
        | lst zs =>
          cases hs
          exact ⟨_, by rw [toPyC_lst q, hm]; rfl, rfl⟩
        | _ => cases hs
    | _ => cases hs
  obtain ⟨b, e2, e3⟩ := e2
  unfold inY
  rw [e1]
  show inQ neg (crD p) v c = _
  unfold inQ
  rw [show toPyC 30 c (crD p) = some (crP p) from rfl, e2]
  simp only [e3]
  rw [if_pos (crP_ok ps p), crP_any]

theorem XS.oks {r : RS} {Q : Fl → Cs → Prop} (h : XS r Q fun _ _ => False) : OkS r Q := by
  cases r with
  | stuck => exact h.elim
  | go f c => exact ⟨_, _, rfl, h⟩
  | exc x l c => exact h.elim
theorem enum_map {β : Type} (f : β → D) (d : β) (ys : List β) : enumL (ys.map f) = (List.range ys.length).map fun j => D.tup [.int (j : Nat), f (ys.getD j d)] := by
  refine List.ext_getElem (by simp [enumL]) fun i h1 h2 => ?_
  simp [enumL] at h1
  simp [enumL, h1]
theorem chD_range (ks : List Nat) : (List.range ks.length).map (fun i => D.str ⟨#[ks.getD i 0]⟩) = chD ks := by
  refine List.ext_getElem (by simp [chD]) fun i h1 h2 => ?_
  simp [chD] at h2
  simp [chD, h2]
theorem join_chD (ks : List Nat) (hl : ks.length ≤ 1000) (c : Cs) : joinX (.str "") (.lst (chD ks)) c = .ok (.str (mkS ks)) c := by
  show joinL "" _ c = _
  unfold joinL chD
  rw [strs_ones]
  have e1 : ∀ ks : List Nat, ((ks.map fun k => (⟨#[k]⟩ : Str)).map (·.length)).sum = ks.length := fun ks => by
    induction ks with
    | nil => rfl
    | cons k ks ih =>
      simp only [List.map_cons, List.sum_cons, List.length_cons, ih]
      have : Str.length ⟨#[k]⟩ = 1 := rfl
      omega
  have e0' : ("" : Str).length = 0 := rfl
  refine (if_pos (by rw [e0', e1]; omega)).trans ?_
  rw [join_ones']
  rfl
theorem join_ref {k : Nat} {ks : List Nat} {c : Cs} (h : c[k]? = some (.lst (chD ks))) (hl : ks.length ≤ 1000) : joinX (.str "") (.ref k) c = .ok (.str (mkS ks)) c := by
  have e : lstC (.ref k) c = some (chD ks) := by simp [lstC, h]
  have := join_chD ks hl c
  show (match lstC (.ref k) c with
    | some ds => joinL "" ds c
    | none => .stuck) = _
  rw [e]
  exact this
theorem ten_item {k : Nat} (h : bitB k = true) (c : Cs) : itemD (.str "10") (.int (if k = 49 then 1 else 0)) c = .ok (.str ⟨#[exch k]⟩) c := by
  have : k = 48 ∨ k = 49 := by simpa [bitB] using h
  rcases this with rfl | rfl <;> kernel_rfl
theorem law_turned_ok {ys : List Str} {w : Nat} {k : Nat} {ps : List (Nat × Nat)} {c : Cs} {Q : D → Cs → Prop} (hr : RwS ys w) (hk : c[k]? = some (.lst (ps.map crD)))
    (q : ∀ x, Q (.lst ((tS ys ps).map D.str)) (c ++ [x])) : Ok (g_law_turned [.lst (ys.map D.str), .ref k] c) Q := by
  have hz : sizeLine = 16777216 := sizeLine_eq
  have n8 := hr.n8
  have w8 := hr.w8
  refine Ok.fun rfl ?_
  unfold c_law_turned
  refine os_seq (os_set (ok_lstM (ok_anil ⟨Nat.zero_le _, ?_⟩)))
  have hk2 : ∀ x : Cell, (c ++ [x])[k]? = some (.lst (ps.map crD)) := fun x => by rw [List.getElem?_append_left (List.getElem?_eq_some_iff.mp hk).1]; exact hk
  refine os_seq (XS.oks (xs_forW (List.range ys.length) (fun j => D.tup [.int (j : Nat), .str (ys.getD j "")])
    (fun rest l c' => ∃ n, rest = (List.range ys.length).drop n ∧ n ≤ ys.length ∧ (∃ o3 o4 o5 o6 o7, l = [some (.lst (ys.map D.str)), some (.ref k), some (.ref c.length), o3, o4, o5, o6, o7]) ∧ c' = c ++ [.lst (((tS ys ps).take n).map D.str)])
    (by simp; omega) ?_ ?_ ?_))
  · refine ok_kenum (x := .lst (ys.map D.str)) (xs := ys.map D.str) (ok_acons (ok_var rfl (ok_anil ⟨rfl, rfl, ⟨0, rfl, Nat.zero_le _, ⟨_, _, _, _, _, rfl⟩, by simp⟩, fun rest l' c' _ i hi => ?_⟩)))
    rw [enumW_tree rfl c' i (by simpa using hi), enum_map D.str ""]
  · rintro l c' ⟨n, hn, hle, ⟨o3, o4, o5, o6, o7, rfl⟩, rfl⟩
    have : ys.length ≤ n := by
      have := congrArg List.length hn
      simp at this
      omega
    refine os_ret (ok_frz (ok_var rfl ⟨_, _, rfl, cell_last _, ?_⟩))
    rw [set_last, List.take_of_length_le (by rw [tS_len]; exact this)]
    exact q _
  · rintro x rest l c' ⟨n, hn, hle, ⟨o3, o4, o5, o6, o7, rfl⟩, rfl⟩
    have hlt : n < ys.length := by
      have := congrArg List.length hn
      simp at this
      omega
    have hdr : (List.range ys.length).drop n = n :: (List.range ys.length).drop (n + 1) := by
      rw [List.drop_eq_getElem_cons (by simpa using hlt)]
      simp
    rw [hdr] at hn
    obtain ⟨rfl, rfl⟩ := List.cons.inj hn
    have hy : ys.getD x "" = ys[x] := by simp [hlt]
    rw [hy]
    have hm := List.getElem_mem hlt
    have hlen := hr.len _ hm
    have hbit := hr.bit _ hm
    obtain ⟨ks, hks⟩ : ∃ ks, ks = ys[x].cps.toList := ⟨_, rfl⟩
    have hkl : ks.length = w := by rw [hks, len_cps, hlen]
    refine ⟨_, _, rfl, ?_⟩
    refine OkS.xs (os_seq (os_set (ok_lcY (List.range ks.length) (fun i => D.tup [.int (i : Nat), .str ⟨#[ks.getD i 0]⟩]) (fun i => D.str ⟨#[(tR x ks ps).getD i 0]⟩) (by simp; omega) ?_ ?_ ?_)))
    · refine ok_kenum (x := .str ys[x]) (xs := chrs ys[x]) (ok_acons (ok_var rfl (ok_anil ⟨rfl, rfl, rfl, fun i hi => ?_⟩)))
      have e : chrs ys[x] = ks.map fun k => D.str ⟨#[k]⟩ := by rw [hks]; rfl
      rw [enumW_tree rfl _ i (by rw [e]; simpa using hi), e, enum_map (fun k => D.str ⟨#[k]⟩) 0]
    · intro i hi
      have hi := List.mem_range.mp hi
      have hb : bitB ks[i] = true := List.all_eq_true.mp (show ks.all bitB = true by rw [hks]; exact hbit) _ (List.getElem_mem hi)
      have e1 : ks.getD i 0 = ks[i] := by simp [hi]
      rw [e1]
      refine ⟨_, _, rfl, rfl, ?_⟩
      refine ok_if (ok_t (ok_op (ok_tup (ok_acons (ok_var rfl (ok_acons (ok_var rfl (ok_anil ⟨Nat.le_of_ble_eq_true rfl, ok_var rfl (Ok.of (in_cr (ps := ps) (p := (i, x)) (by simp [seqOf, hk2]) nofun) ⟨_, rfl, fun h => ?_, fun h => ?_⟩)⟩))))))))
      · have h : (i, x) ∈ ps := by simpa [sgn] using h
        refine ok_op (ok_c (ok_cb (ok_acons (ok_var rfl (ok_anil (Ok.of (int_bit hb _) (Ok.of (ten_item hb _) ⟨?_, rfl⟩)))))))
        simp [tR, h, hi]
      · have h : (i, x) ∉ ps := by simpa [sgn] using h
        refine ok_var rfl ⟨?_, rfl⟩
        simp [tR, h, hi]
    · have e2 : (List.range ks.length).map (fun i => D.str ⟨#[(tR x ks ps).getD i 0]⟩) = chD (tR x ks ps) := by
        rw [← chD_range, tR_len]
      rw [e2]
      refine os_expr (ok_bm (ok_var rfl ⟨isL_ref (cell_last _), ok_acons (ok_m1 (ok_c ⟨_, rfl, ok_var rfl (Ok.of (join_chD _ (by rw [tR_len]; omega) _) (ok_anil (ok_append (cell_last _) (by simp; omega) ?_)))⟩))⟩))
      refine ⟨x + 1, rfl, by omega, ⟨_, _, _, _, _, rfl⟩, ?_⟩
      rw [set_last]
      have e3 : (tS ys ps).take (x + 1) = (tS ys ps).take x ++ [mkS (tR x ks ps)] := by
        rw [List.take_succ]
        congr 1
        simp [tS, hlt, hks]
      rw [e3]
      simp

theorem seqW_seq {x : D} {c : Cs} {xs : List D} (h : seqOf x c = some xs) : seqW x c = some xs := by
  cases x with
  | ref k =>
    have h : (match c[k]? with
      | some (.lst xs) => some xs
      | _ => none) = some xs := h
    show cellL k c = _
    unfold cellL
    cases q : c[k]? with
    | none => rw [q] at h; cases h
    | some y =>
      rw [q] at h
      cases y with
      | lst ys => exact h
      | _ => cases h
  | lst ys => exact h
  | tup ys => exact h
  | ro ys => exact h
  | _ => cases h
theorem ok_kenumS {t : MA} {l : Ls} {c : Cs} {x : D} {xs : List D} {QW : Wk → Cs → Prop} (h : Ok (t l c) fun ds c1 => ds = [x] ∧ seqOf x c1 = some xs ∧ QW (enumW x) c1) : Ok (kEnum t l c) QW := by
  obtain ⟨ds, c1, e, rfl, h1, q⟩ := h
  refine ⟨enumW x, c1, ?_, q⟩
  show (t l c).bind _ = _
  rw [e]
  show (if (seqW x c1).isSome = true then (.ok (enumW x) c1 : Mi.R Wk) else .stuck) = _
  rw [if_pos (by rw [seqW_seq h1]; rfl)]
theorem enumW_seq {x : D} {c : Cs} {xs : List D} (hx : seqOf x c = some xs) {i : Nat} (hi : i ≤ xs.length) : enumW x i c = some (enumL xs)[i]? := by
  unfold enumW enumL
  rw [seqW_seq hx]
  simp only [List.getElem?_mapIdx]
  cases q1 : xs[i]? with
  | none =>
    have := List.getElem?_eq_none_iff.mp q1
    simp only []
    rw [if_pos (by omega)]
    rfl
  | some a => rfl
/-! ### crossings, asked -/
def ItC (x : D) (c : Cs) : Prop := (tyD x c).isSome = true ∧ ∀ ys, x = .tup ys → ∀ y ∈ ys, (tyD y c).isSome = true
theorem isi_tup {x : D} {c : Cs} {t : String} (h : tyD x c = some t) : isiD [x, .ty "tuple"] c = .ok (.bl (isT t "tuple")) c := by simp [isiD, h, tyNames]
def isTup (x : D) : Bool := match x with | .tup _ => true | _ => false
theorem isT_tup {x : D} {c : Cs} {t : String} (h : tyD x c = some t) : isT t "tuple" = isTup x := by
  cases x with
  | ref k =>
    rcases ty_ref h with rfl | rfl
    · exact (by decide : isT "list" "tuple" = false)
    · exact (by decide : isT "dict" "tuple" = false)
  | obj => cases h
  | adr => cases h
  | ty => cases h
  | non => cases h; exact (by decide : isT "NoneType" "tuple" = false)
  | bl _ => cases h; exact (by decide : isT "bool" "tuple" = false)
  | int _ => cases h; exact (by decide : isT "int" "tuple" = false)
  | str _ => cases h; exact (by decide : isT "str" "tuple" = false)
  | lst _ => cases h; exact (by decide : isT "list" "tuple" = false)
  | ro _ => cases h; exact (by decide : isT "list" "tuple" = false)
  | dct _ => cases h; exact (by decide : isT "dict" "tuple" = false)
  | tup _ => cases h; exact (by decide : isT "tuple" "tuple" = true)
theorem isInt_non {a : D} {lo hi : Int} (h : ∀ i, a ≠ .int i) : isInt a lo hi = false := by
  cases a <;> first | rfl | exact absurd rfl (h _)
theorem crOf_two (a b : D) (w h : Nat) : (crOf w h (.tup [a, b])).isSome = (isInt a 0 (w - 1) && isInt b 0 (h - 1)) := by
  by_cases ha : ∃ i, a = .int i
  · obtain ⟨i, rfl⟩ := ha
    by_cases hb : ∃ j, b = .int j
    · obtain ⟨j, rfl⟩ := hb
      show (if 0 ≤ i ∧ i < (w : Int) ∧ 0 ≤ j ∧ j < (h : Int) then some (i.toNat, j.toNat) else none).isSome = ((decide (0 ≤ i) && decide (i ≤ (w : Int) - 1)) && (decide (0 ≤ j) && decide (j ≤ (h : Int) - 1)))
      split
      · rename_i hc
        obtain ⟨h1, h2, h3, h4⟩ := hc
        rw [decide_eq_true h1, decide_eq_true (show i ≤ (w : Int) - 1 by omega), decide_eq_true h3, decide_eq_true (show j ≤ (h : Int) - 1 by omega)]
        rfl
      · rename_i hc
        symm
        simp only [Option.isSome_none, Bool.and_eq_false_iff, decide_eq_false_iff_not]
        omega
    · have hb2 : ∀ j, b ≠ .int j := fun j e => hb ⟨j, e⟩
      rw [isInt_non (a := b) hb2, Bool.and_false]
      cases b <;> first | rfl | exact absurd rfl (hb2 _)
  · have ha2 : ∀ i, a ≠ .int i := fun i e => ha ⟨i, e⟩
    rw [isInt_non (a := a) ha2, Bool.false_and]
    cases a <;> first | rfl | exact absurd rfl (ha2 _)
theorem is_crossing_eq {x : D} {c : Cs} {w h : Nat} (hx : ItC x c) : gis_crossing [x, .int w, .int h] c = .ok (.bl (crOf w h x).isSome) c := by
  have hz : sizeLine = 16777216 := sizeLine_eq
  obtain ⟨t, ht⟩ := Option.isSome_iff_exists.mp hx.1
  have e0 := isi_tup ht
  rw [isT_tup ht] at e0
  refine ok_eq (Ok.fun rfl ?_)
  unfold cis_crossing
  refine os_seq (os_if (ok_tor (ok_tnot (ok_t (ok_cb (ok_acons (ok_var rfl (ok_acons (ok_c (ok_anil (Ok.of e0 ⟨_, rfl, ?_⟩)))))))))))
  by_cases hxt : ∃ ys, x = .tup ys
  · obtain ⟨ys, rfl⟩ := hxt
    refine ⟨fun h => Bool.noConfusion h, fun _ => ?_⟩
    refine ok_t (ok_op (ok_cb (ok_acons (ok_var rfl (ok_anil (Ok.of (len_seq rfl) (ok_c ⟨_, _, rfl, _, rfl, fun h => ?_, fun h => os_nil ?_⟩)))))))
    · have h : (!decide ((ys.length : Int) = 2)) = true := h
      refine os_ret (ok_c ⟨?_, rfl⟩)
      match ys, h with
      | [], _ => rfl
      | [a], _ => cases a <;> rfl
      | [a, b], h => simp at h
      | a :: b :: d :: r, _ => cases a <;> (cases b <;> rfl)
    · have h : (!decide ((ys.length : Int) = 2)) = false := h
      match ys, h, hx with
      | [], h, _ => simp at h
      | [a], h, _ => simp at h
      | a :: b :: d :: r, h, _ => simp at h; omega
      | [a, b], _, hx =>
        have ta := hx.2 _ rfl a (by simp)
        have tb := hx.2 _ rfl b (by simp)
        rw [crOf_two]
        refine os_ret (ok_and (ok_cb (ok_acons (ok_op (ok_var rfl (ok_c (Ok.of (show itemD (.tup [a, b]) (.int 0) c = .ok a c from rfl) (ok_acons (ok_c (ok_acons (ok_op (ok_var rfl (ok_c ⟨_, _, rfl, ok_anil (Ok.of (is_integer_eq ta) ⟨_, rfl, fun h => ?_, fun h => ?_⟩)⟩)))))))))))))
        · refine ok_cb (ok_acons (ok_op (ok_var rfl (ok_c (Ok.of (show itemD (.tup [a, b]) (.int 1) c = .ok b c from rfl) (ok_acons (ok_c (ok_acons (ok_op (ok_var rfl (ok_c ⟨_, _, rfl, ok_anil (Ok.of (is_integer_eq tb) ⟨?_, rfl⟩)⟩)))))))))))
          rw [h]; rfl
        · refine ⟨?_, rfl⟩
          rw [h]; rfl
  · have hf : isTup x = false := by
      cases x <;> first | rfl | exact absurd ⟨_, rfl⟩ hxt
    rw [hf]
    refine ⟨fun _ => ⟨fun _ => os_ret (ok_c ⟨?_, rfl⟩), fun h => Bool.noConfusion h⟩, fun h => Bool.noConfusion h⟩
    cases x <;> first | rfl | exact absurd ⟨_, rfl⟩ hxt
/-! ### what is told of a list of crossings -/
inductive Vk where
  | lst
  | cr (x : D)
  | tw (x : D)
  | good (ps : List (Nat × Nat))
def scn (w h : Nat) : List (Nat × Nat) → List D → Vk
  | pre, [] => .good pre
  | pre, x :: xs => match crOf w h x with
    | none => .cr x
    | some p => if p ∈ pre then .tw x else scn w h (pre ++ [p]) xs
theorem scn_good {w h : Nat} : ∀ {xs : List D} {pre ps : List (Nat × Nat)}, scn w h pre xs = .good ps → pre.Nodup → (∀ p ∈ pre, p.1 < w ∧ p.2 < h) → ps.Nodup ∧ ps.map crD = pre.map crD ++ xs ∧ ∀ p ∈ ps, p.1 < w ∧ p.2 < h
  | [], pre, ps, e, hn, hr => by cases e; exact ⟨hn, by simp, hr⟩
  | x :: xs, pre, ps, e, hn, hr => by
    unfold scn at e
    cases q : crOf w h x with
    | none => rw [q] at e; cases e
    | some p =>
      rw [q] at e
      obtain ⟨rfl, p1, p2⟩ := crOf_at q
      simp only [] at e
      by_cases hp : p ∈ pre
      · rw [if_pos hp] at e; cases e
      · rw [if_neg hp] at e
        obtain ⟨a, b, d⟩ := scn_good e (List.nodup_append.mpr ⟨hn, by simp, fun y hy z hz e => by rw [List.mem_singleton.mp hz] at e; exact hp (e ▸ hy)⟩) (fun y hy => by
          rcases List.mem_append.mp hy with hy | hy
          · exact hr y hy
          · rw [List.mem_singleton.mp hy]; exact ⟨p1, p2⟩)
        exact ⟨a, by rw [b]; simp, d⟩

def crE (x : D) : Ex := ⟨"InvalidCrossing", [("value", x)]⟩
def twE (x : D) : Ex := ⟨"Duplicate", [("value", x)]⟩
def lsE (x : D) : Ex := ⟨"InvalidList", [("value", x)]⟩
def Vk.ex (v : D) : Vk → Ex
  | .lst => lsE v
  | .cr x => crE x
  | .tw x => twE x
  | .good _ => lsE v
theorem exch_eq {k : Nat} {c : Cs} : gexchanged [.str ⟨#[k]⟩] c = .ok (.str ⟨#[exch k]⟩) c := by
  refine ok_eq (Ok.fun rfl ?_)
  unfold cexchanged
  refine os_ret (Ok.bind (ok_var rfl ?_))
  exact ⟨_, _, rfl, rfl, rfl⟩
theorem take_cr {xs : List D} {pre : List (Nat × Nat)} {n : Nat} (h : xs.take n = pre.map crD) (hn : n ≤ xs.length) : pre.length = n := by
  have := congrArg List.length h
  simp at this
  omega
/-- the values of a list, as they are enumerated -/
theorem enum_D (xs : List D) : enumL xs = (List.range xs.length).map fun i => D.tup [.int (i : Nat), xs.getD i .non] := by
  have := enum_map (fun x : D => x) .non xs
  rwa [List.map_id'] at this
/-- a part of a sequence -/
theorem slice_seq {v : D} {c : Cs} {xs : List D} (h : SeqV v c xs) {i : Nat} (hi : i < xs.length) : ∃ d, sliceY v none (some (i : Nat)) c = .ok d c ∧ seqOf d c = some (xs.take i) ∧ ∀ ys, d ≠ .ro ys := by
  have e1 : Mi.cutD xs none (some ((i : Nat) : Int)) = xs.take i := by
    have := cutL_to xs (i := (i : Nat)) (by omega)
    rw [Int.toNat_natCast] at this
    exact this
  have hq := h.sq
  cases v with
  | lst ys => cases hq; exact ⟨_, rfl, by rw [e1]; rfl, nofun⟩
  | tup ys =>
    cases hq
    refine ⟨.tup (xs.take i), ?_, rfl, nofun⟩
    show (if HT.sIx xs.length 0 none = 0 ∧ HT.sIx xs.length xs.length (some ((i : Nat) : Int)) = xs.length then (.stuck : Mi.R D) else .ok (.tup (Mi.cutD xs none (some ((i : Nat) : Int)))) c) = _
    rw [if_neg (by rw [sIx_pos (by omega)]; simp; omega), e1]
  | ro ys => exact absurd rfl (h.nr ys)
  | ref k =>
    have hk : c[k]? = some (.lst xs) := by
      have hq : (match c[k]? with
        | some (.lst xs) => some xs
        | _ => none) = some xs := hq
      cases q : c[k]? with
      | none => rw [q] at hq; cases hq
      | some y =>
        rw [q] at hq
        cases y with
        | lst zs => cases hq; rfl
        | _ => cases hq
    refine ⟨.lst (xs.take i), ?_, rfl, nofun⟩
    show (match c[k]? with
      | some (.lst ds) => (.ok (.lst (Mi.cutD ds none (some ((i : Nat) : Int)))) c : Mi.R D)
      | _ => .stuck) = _
    rw [hk, ← e1]
  | _ => cases hq

def VT (v : D) (c : Cs) : Prop := (∃ xs, SeqV v c xs) ∨ ∃ t, tyD v c = some t ∧ (t == "list" || t == "tuple") = false
theorem non_seq {v : D} {c : Cs} {t : String} (h : tyD v c = some t) (hn : (t == "list" || t == "tuple") = false) : seqOf v c = none := by
  cases v with
  | lst xs => cases h; cases hn
  | tup xs => cases h; cases hn
  | ro xs => cases h; cases hn
  | ref k =>
    simp only [tyD] at h
    simp only [seqOf]
    cases q : c[k]? with
    | none => rfl
    | some y =>
      rw [q] at h
      cases y with
      | lst xs => cases h; cases hn
      | _ => rfl
  | _ => rfl
def vk (w h : Nat) (v : D) (c : Cs) : Vk := match seqOf v c with
  | some xs => if xs.length ≤ 64 then scn w h [] xs else .lst
  | none => .lst
theorem need_items_x {v : D} {c : Cs} (hv : VT v c) : Xo (gneed_items [v, .int 64] c) (fun _ c' => c' = c ∧ ∃ xs, SeqV v c xs ∧ xs.length ≤ 64) fun e c' => c' = c ∧ e = lsE v ∧ ∀ w h, vk w h v c = .lst := by
  refine Xo.fun rfl ?_
  unfold cneed_items
  rcases hv with ⟨xs, hs⟩ | ⟨t, ht, hn⟩
  · obtain ⟨t, ht, htt⟩ := hs.tt
    refine xs_if (ok_tor (ok_tnot (ok_t (ok_cb (ok_acons (ok_var rfl (ok_anil (Ok.of (is_sequence_eq ht) ⟨_, rfl, ?_⟩))))))))
    rw [htt]
    refine ⟨fun h => Bool.noConfusion h, fun _ => ?_⟩
    refine ok_t (ok_op (ok_cb (ok_acons (ok_var rfl (ok_anil (Ok.of (len_seq hs.sq) (ok_var rfl ⟨_, _, rfl, _, rfl, fun h => ?_, fun h => xs_nil ?_⟩)))))))
    · have h : decide ((64 : Int) < xs.length) = true := h
      have h := of_decide_eq_true h
      refine xs_raise (ok_var rfl ⟨rfl, rfl, fun w h => ?_⟩)
      unfold vk
      rw [hs.sq]
      exact if_neg (by omega)
    · have h : decide ((64 : Int) < xs.length) = false := h
      have h := of_decide_eq_false h
      exact ⟨rfl, xs, hs, by omega⟩
  · refine xs_if (ok_tor (ok_tnot (ok_t (ok_cb (ok_acons (ok_var rfl (ok_anil (Ok.of (is_sequence_eq ht) ⟨_, rfl, ?_⟩))))))))
    rw [hn]
    refine ⟨fun _ => ⟨fun _ => xs_raise (ok_var rfl ⟨rfl, rfl, fun w h => ?_⟩), fun h => Bool.noConfusion h⟩, fun h => Bool.noConfusion h⟩
    unfold vk
    rw [non_seq ht hn]
/-- the program's scan of the crossings -/
theorem scan_x {v : D} {c : Cs} {ys : List Str} {w : Nat} {xs : List D} (hr : RwS ys w) (hs : SeqV v c xs) (hi : ∀ x ∈ xs, ItC x c) (hl : xs.length ≤ 64) {QS : Fl → Cs → Prop} {X : Ex → Cs → Prop}
    (q : ∀ ps o3 o4, scn w ys.length [] xs = .good ps → QS (.nx [some (clo ys), some v, none, o3, o4, none, none, none]) c)
    (qx : ∀ e, (∀ ps, scn w ys.length [] xs ≠ .good ps) → e = (scn w ys.length [] xs).ex v → X e c) :
    XS (sForW (kEnum (aCons (mVar 1) (aNil))) (gT [3, 4]) (sSeq (sIf (tNotM (mT (mCB gis_crossing (aCons (mVar 4) (aCons (mProp [("Cloth", gCloth__warp_count)] (mVar 0)) (aCons (mProp [("Cloth", gCloth__weft_count)] (mVar 0)) (aNil))))))) (sRaise "InvalidCrossing" "value" (mVar 4)) (sNil)) (sIf (mT (mOp (inY false) (mVar 4) (mSliceY (mVar 1) (oNone) (oSome (mVar 3))))) (sRaise "Duplicate" "value" (mVar 4)) (sNil))) [some (clo ys), some v, none, none, none, none, none, none] c) QS X := by
  refine xs_forW (List.range xs.length) (fun i => D.tup [.int (i : Nat), xs.getD i .non])
    (fun rest l c' => ∃ n, rest = (List.range xs.length).drop n ∧ n ≤ xs.length ∧ (∃ o3 o4, l = [some (clo ys), some v, none, o3, o4, none, none, none]) ∧ c' = c ∧ ∃ pre, xs.take n = pre.map crD ∧ scn w ys.length [] xs = scn w ys.length pre (xs.drop n)) (by simp; omega) ?_ ?_ ?_
  · refine ok_kenumS (x := v) (xs := xs) (ok_acons (ok_var rfl (ok_anil ⟨rfl, hs.sq, ⟨0, rfl, Nat.zero_le _, ⟨_, _, rfl⟩, rfl, [], rfl, rfl⟩, fun rest l' c' ⟨_, _, _, _, e, _⟩ i hix => ?_⟩)))
    subst e
    rw [enumW_seq hs.sq (by simpa using hix), enum_D]
  · rintro l c' ⟨n, hn, hle, ⟨o3, o4, rfl⟩, rfl, pre, hp, hsc⟩
    have : xs.length ≤ n := by
      have := congrArg List.length hn
      simp at this
      omega
    rw [List.drop_eq_nil_of_le this] at hsc
    exact q pre _ _ hsc
  · rintro i rest l c' ⟨n, hn, hle, ⟨o3, o4, rfl⟩, rfl, pre, hp, hsc⟩
    have hlt : n < xs.length := by
      have := congrArg List.length hn
      simp at this
      omega
    have hdr : (List.range xs.length).drop n = n :: (List.range xs.length).drop (n + 1) := by
      rw [List.drop_eq_getElem_cons (by simpa using hlt)]
      simp
    rw [hdr] at hn
    obtain ⟨rfl, rfl⟩ := List.cons.inj hn
    have hx : xs.getD i .non = xs[i] := by simp [hlt]
    rw [hx]
    have hdx : xs.drop i = xs[i] :: xs.drop (i + 1) := List.drop_eq_getElem_cons hlt
    rw [hdx] at hsc
    have hpl := take_cr hp hle
    refine ⟨_, _, rfl, ?_⟩
    refine xs_seq (xs_if (ok_tnot (ok_t (ok_cb (ok_acons (ok_var rfl (ok_acons (ok_clprop (ok_var rfl ⟨⟨ys, clo_is ys _⟩, Ok.of (warp_eq (clo_is ys _) hr) (ok_acons (ok_clprop (ok_var rfl ⟨⟨ys, clo_is ys _⟩, Ok.of (weft_eq (clo_is ys _)) (ok_anil (Ok.of (is_crossing_eq (hi _ (List.getElem_mem hlt))) ⟨_, rfl, fun h => ?_, fun h => xs_nil ?_⟩))⟩)))⟩)))))))))
    · have e : crOf w ys.length xs[i] = none := by
        cases e : crOf w ys.length xs[i] with
        | none => rfl
        | some p => rw [e] at h; cases h
      have hv : scn w ys.length [] xs = .cr xs[i] := by
        rw [hsc]
        unfold scn
        rw [e]
      exact xs_raise (ok_var rfl (qx _ (fun ps e => by rw [hv] at e; cases e) (by rw [hv]; rfl)))
    · obtain ⟨p, e⟩ : ∃ p, crOf w ys.length xs[i] = some p := by
        cases e : crOf w ys.length xs[i] with
        | none => rw [e] at h; cases h
        | some p => exact ⟨p, rfl⟩
      obtain ⟨hxp, p1, p2⟩ := crOf_at e
      obtain ⟨d, d1, d2, d3⟩ := slice_seq hs hlt
      rw [hp] at d2
      rw [hxp]
      refine xs_if (ok_t (ok_op (ok_var rfl (Ok.bind (ok_var rfl (Ok.bind (ok_onone (Ok.bind (ok_osome (ok_var rfl ⟨_, rfl, Ok.of d1 (Ok.of (in_cr d2 d3) ⟨_, rfl, fun h => ?_, fun h => xs_nil ?_⟩)⟩))))))))))
      · have h : p ∈ pre := by simpa [sgn] using h
        have hv : scn w ys.length [] xs = .tw xs[i] := by
          rw [hsc]
          unfold scn
          rw [e]
          exact if_pos h
        exact xs_raise (ok_var rfl (qx _ (fun ps e => by rw [hv] at e; cases e) (by rw [hv, hxp]; rfl)))
      · have h : p ∉ pre := by simpa [sgn] using h
        refine ⟨i + 1, rfl, by omega, ⟨_, _, rfl⟩, rfl, pre ++ [p], ?_, ?_⟩
        · rw [List.take_succ, hp, List.map_append, List.getElem?_eq_getElem hlt, hxp]
          rfl
        · rw [hsc]
          conv => lhs; unfold scn
          rw [e]
          exact if_neg h

/-- a sequence as it is walked while other cells change -/
theorem wAny_seqG {v : D} {c : Cs} {xs : List D} (h : seqOf v c = some xs) : ∃ w, wAny v c = .ok w c ∧ ∀ c', (∀ k, v = .ref k → c'[k]? = c[k]?) → ∀ i, w i c' = some xs[i]? := by
  cases v with
  | lst ys => cases h; exact ⟨_, rfl, fun _ _ _ => rfl⟩
  | tup ys => cases h; exact ⟨_, rfl, fun _ _ _ => rfl⟩
  | ro ys => cases h; exact ⟨_, rfl, fun _ _ _ => rfl⟩
  | ref k =>
    have hc : cellL k c = some xs := seqW_seq h
    refine ⟨cellW k, ?_, fun c' hk i => ?_⟩
    · show (match cellL k c with
        | some _ => (.ok (cellW k) c : Mi.R Wk)
        | none => .stuck) = _
      rw [hc]
    · have e : cellL k c' = cellL k c := by unfold cellL; rw [hk k rfl]
      show (match cellL k c' with
        | some ds => some ds[i]?
        | none => none) = _
      rw [e, hc]
  | _ => cases h
theorem listA_str {s : Str} {c : Cs} (h : s.length ≤ 100) : listA true [.str s] c = .ok (.ref c.length) (c ++ [.lst (chD s.cps.toList)]) := by
  have hz : sizeLine = 16777216 := sizeLine_eq
  exact if_pos (show s.length ≤ sizeLine by omega)
theorem item_chD {k i : Nat} {ks : List Nat} {c : Cs} {x : Nat} (h : c[k]? = some (.lst (chD ks))) (hi : ks[i]? = some x) : itemD (.ref k) (.int (i : Nat)) c = .ok (.str ⟨#[x]⟩) c := by
  have hl := (List.getElem?_eq_some_iff.mp hi).1
  have he := (List.getElem?_eq_some_iff.mp hi).2
  simp [itemD, h, itL, atI, ixN, chD, hl, he]
theorem put_chD {k i : Nat} {ks : List Nat} {c : Cs} (h : c[k]? = some (.lst (chD ks))) (hi : i < ks.length) (x : Nat) : putD (.ref k) (.int (i : Nat)) (.str ⟨#[x]⟩) c = .ok () (c.set k (.lst (chD (ks.set i x)))) := by
  simp [putD, h, ixN, chD, hi, List.map_set]
theorem pfx_of {c c' : Cs} (h1 : c.length ≤ c'.length) (h2 : ∀ k, k < c.length → c'[k]? = c[k]?) : Pfx c c' := by
  refine ⟨c'.drop c.length, List.ext_getElem? fun k => ?_⟩
  rcases Nat.lt_or_ge k c.length with h | h
  · rw [h2 k h, List.getElem?_append_left h]
  · rw [List.getElem?_append_right h, List.getElem?_drop]
    congr 1
    omega
def rowC (ys : List Str) (ps : List (Nat × Nat)) (b : Nat) (c : Cs) : Prop := ∀ j (hj : j < ys.length), c[b + j]? = some (.lst (chD (tR j ys[j].cps.toList ps)))
theorem turn_x {v : D} {c : Cs} {ys : List Str} {w : Nat} {ps : List (Nat × Nat)} {o3 o4 : Option D} (hr : RwS ys w) (hs : SeqV v c (ps.map crD)) (hl : ps.length ≤ 64) (hn : ps.Nodup) (hp : ∀ p ∈ ps, p.1 < w ∧ p.2 < ys.length) {QS : Fl → Cs → Prop}
    (q : ∀ c', Pfx c c' → QS (.rt (clo (tS ys ps))) c') :
    OkS (sSeq (sSet 2 (mLcW (kAny (mFld ["Cloth"] "kept_rows" (mVar 0))) [7] (gN 7) (tYesM) (mCB (listA true) (aCons (mVar 7) (aNil))))) (sSeq (sForW (kAny (mVar 1)) (gT [5, 6]) (sAsg (mCB gexchanged (aCons (mOp itemD (mOp itemD (mVar 2) (mVar 6)) (mVar 5)) (aNil))) (gS (mOp itemD (mVar 2) (mVar 6)) (mVar 5)))) (sRet (mFrzI (mMake "Cloth" gCloth____init__ (aCons (mLcW (kAny (mVar 2)) [7] (gN 7) (tYesM) (mM1 joinX (mC (.str "")) (mVar 7))) (aNil)))))) [some (clo ys), some v, none, o3, o4, none, none, none] c) QS := by
  have hz : sizeLine = 16777216 := sizeLine_eq
  have n8 := hr.n8
  have w8 := hr.w8
  have hk : kAny (mFld ["Cloth"] "kept_rows" (mVar 0)) [some (clo ys), some v, none, o3, o4, none, none, none] c = .ok (fixW (ys.map D.str)) c :=
    Ok.eq (ok_kany (ok_kept (ok_var rfl ⟨ys, clo_is ys _, ⟨_, _, rfl, rfl, rfl⟩⟩)))
  refine os_seq (os_set (ok_lcL (ds := ys.map D.str) (by rw [List.length_map]; omega) hk ?_))
  refine comp_ok (fun ds acc c' => ∃ n, n ≤ ys.length ∧ ds = (ys.drop n).map D.str ∧ acc = (List.range n).map (fun j => D.ref (c.length + j)) ∧ c' = c ++ (ys.take n).map (fun y => Cell.lst (chD y.cps.toList))) ?_ ?_ _ _ _ ⟨0, Nat.zero_le _, by simp, by simp, by simp⟩
  · rintro acc c' ⟨n, hle, hd, rfl, rfl⟩
    have : n = ys.length := by
      have := congrArg List.length hd
      simp at this
      omega
    subst this
    rw [List.take_length]
    have hP : Pfx c (c ++ ys.map fun y => Cell.lst (chD y.cps.toList)) := Pfx.one c _
    have hC : rowC ys [] c.length (c ++ ys.map fun y => Cell.lst (chD y.cps.toList)) := fun j hj => by
      rw [List.getElem?_append_right (by omega), Nat.add_sub_cancel_left, tR_nil]
      simp [hj]
    have hL : (c ++ ys.map fun y => Cell.lst (chD y.cps.toList)).length = c.length + ys.length := by simp
    generalize (c ++ ys.map fun y => Cell.lst (chD y.cps.toList)) = c1 at hP hC hL
    have hlt : ∀ k, v = .ref k → k < c.length := fun k e => by
      subst e
      have hq := hs.sq
      simp only [seqOf] at hq
      cases qq : c[k]? with
      | none => rw [qq] at hq; cases hq
      | some y => exact (List.getElem?_eq_some_iff.mp qq).1
    have hs1 : seqOf v c1 = some (ps.map crD) := by
      have hq := hs.sq
      cases v with
      | ref k =>
        have e := hP.at (hlt k rfl)
        simp only [seqOf] at hq ⊢
        rw [e]; exact hq
      | _ => exact hq
    obtain ⟨wk, hw1, hw2⟩ := wAny_seqG hs1
    have hit : ∀ j (hj : j < ys.length) c', itemD (.lst ((List.range ys.length).map fun j => D.ref (c.length + j))) (.int (j : Nat)) c' = .ok (.ref (c.length + j)) c' := fun j hj c' => by
      simp [itemD, itL, atI, ixN, hj]
    refine os_seq (XS.oks (xs_forW ps crD
      (fun rest l c' => ∃ n, n ≤ ps.length ∧ rest = ps.drop n ∧ (∃ o5 o6, l = [some (clo ys), some v, some (.lst ((List.range ys.length).map fun j => D.ref (c.length + j))), o3, o4, o5, o6, none]) ∧ c'.length = c.length + ys.length ∧ (∀ k, k < c.length → c'[k]? = c1[k]?) ∧ rowC ys (ps.take n) c.length c') (by omega) ?_ ?_ ?_))
    · refine ok_kany (ok_var rfl (Ok.of hw1 ⟨⟨0, Nat.zero_le _, rfl, ⟨_, _, rfl⟩, hL, fun _ _ => rfl, by rw [List.take_zero]; exact hC⟩, fun rest l' c' ⟨_, _, _, _, _, hf, _⟩ i _ => hw2 c' (fun k e => hf k (hlt k e)) i⟩))
    · rintro l c' ⟨n, hle2, hd2, ⟨o5, o6, rfl⟩, hL', hf, hC'⟩
      have : n = ps.length := by
        have := congrArg List.length hd2
        simp at this
        omega
      subst this
      rw [List.take_length] at hC'
      refine os_ret (ok_clmake (ok_acons (ok_lcY (List.range ys.length) (fun j => D.ref (c.length + j)) (fun j => D.str ((tS ys ps).getD j "")) (by simp; omega) ?_ ?_ ?_)))
      · exact ok_ktree (ok_var rfl ⟨rfl, rfl⟩)
      · intro j hj
        have hj := List.mem_range.mp hj
        have hm := List.getElem_mem hj
        refine ok_gn ⟨rfl, ok_m1 (ok_c ⟨_, rfl, ok_var rfl (Ok.of (join_ref (hC' j hj) (by rw [tR_len, len_cps, hr.len _ hm]; omega)) ⟨?_, rfl⟩)⟩)⟩
        simp [tS, hj]
      · have e : (List.range ys.length).map (fun j => D.str ((tS ys ps).getD j "")) = (tS ys ps).map D.str := by
          refine List.ext_getElem (by simp [tS]) fun j h1 h2 => ?_
          simp at h1
          simp [tS, h1]
        rw [e]
        refine ok_anil ⟨_, tS ys ps, w, rfl, (hr.turn ps).seqL _, hr.turn ps, q _ ?_⟩
        have p2 : Pfx c c' := pfx_of (by omega) fun k hk2 => by rw [hf k hk2, hP.at hk2]
        exact p2.trans (Pfx.one _ _)
    · rintro p rest l c' ⟨n, hle2, hd2, ⟨o5, o6, rfl⟩, hL', hf, hC'⟩
      have hlt2 : n < ps.length := by
        have := congrArg List.length hd2
        simp at this
        omega
      rw [List.drop_eq_getElem_cons hlt2] at hd2
      obtain ⟨rfl, rfl⟩ := List.cons.inj hd2
      obtain ⟨p1, p2⟩ := hp _ (List.getElem_mem hlt2)
      have hnot : ps[n] ∉ ps.take n := fun hm => by
        obtain ⟨i, hi, e⟩ := List.mem_take_iff_getElem.mp hm
        exact (List.pairwise_iff_getElem.mp hn) i n (by omega) hlt2 (by omega) e
      have htk : ps.take (n + 1) = ps.take n ++ [ps[n]] := by rw [List.take_succ, List.getElem?_eq_getElem hlt2]; rfl
      generalize ps[n] = p at p1 p2 hnot htk
      obtain ⟨i, j⟩ := p
      simp only [] at p1 p2
      have hrow := hC' j p2
      have hm := List.getElem_mem p2
      have hkl : ys[j].cps.toList.length = w := by rw [len_cps, hr.len _ hm]
      have hx := tR_at hnot (show i < ys[j].cps.toList.length by omega)
      refine ⟨_, _, rfl, ?_⟩
      refine OkS.xs (os_asg (ok_cb (ok_acons (ok_op (ok_op (ok_var rfl (ok_var rfl (Ok.of (hit j p2 _) (ok_var rfl (Ok.of (item_chD hrow hx) (ok_anil (Ok.of exch_eq (ok_gs (ok_op (ok_var rfl (ok_var rfl (Ok.of (hit j p2 _) (ok_var rfl (Ok.of (put_chD hrow (by rw [tR_len]; omega) _) ?_)))))))))))))))))))
      refine ⟨n + 1, by omega, rfl, ⟨_, _, rfl⟩, by rw [List.length_set]; exact hL', fun k hk2 => by rw [List.getElem?_set_ne (by omega)]; exact hf k hk2, fun j' hj' => ?_⟩
      rw [htk]
      by_cases e : j' = j
      · subst e
        rw [List.getElem?_set_self (by omega), tR_snoc (by omega)]
      · rw [List.getElem?_set_ne (by omega), tR_other _ _ e]
        exact hC' j' hj'
  · rintro d ds acc c' ⟨n, hle, hd, rfl, rfl⟩
    have hlt : n < ys.length := by
      have := congrArg List.length hd
      simp at this
      omega
    rw [List.drop_eq_getElem_cons hlt, List.map_cons] at hd
    obtain ⟨rfl, rfl⟩ := List.cons.inj hd
    have hyl := hr.len _ (List.getElem_mem hlt)
    refine ok_gn (ok_ret ?_)
    refine ok_cb (ok_acons (ok_var rfl (ok_anil (Ok.of (listA_str (by omega)) ⟨by simp; omega, n + 1, by omega, rfl, ?_, ?_⟩))))
    · rw [List.range_succ, List.map_append]
      simp
      omega
    · rw [List.take_succ, List.getElem?_eq_getElem hlt, List.map_append, List.append_assoc]
      rfl

theorem turned_x {v : D} {c : Cs} {ys : List Str} {w : Nat} (hr : RwS ys w) (hv : VT v c) (hi : ∀ xs, seqOf v c = some xs → ∀ x ∈ xs, ItC x c) :
    Xo (gCloth__turned [clo ys, v] c) (fun d c' => ∃ ps, vk w ys.length v c = .good ps ∧ d = clo (tS ys ps) ∧ Pfx c c') fun e c' => c' = c ∧ (∀ ps, vk w ys.length v c ≠ .good ps) ∧ e = (vk w ys.length v c).ex v := by
  refine Xo.fun rfl ?_
  unfold cCloth__turned
  refine xs_seq (xs_expr (xo_cb (ok_acons (ok_var rfl (ok_acons (ok_op (ok_c (ok_c (ok_intC (Or.inl ⟨by decide, by decide⟩) (ok_anil ((need_items_x hv).mono ?_ ?_)))))))))))
  · rintro _ c' ⟨rfl, xs, hs, hl⟩
    have hV : ∀ w h, vk w h v c' = scn w h [] xs := fun w h => by
      unfold vk
      rw [hs.sq]
      exact if_pos hl
    rw [hV]
    refine xs_seq (scan_x hr hs (hi xs hs.sq) hl (fun ps o3 o4 e => ?_) fun e h1 h2 => ⟨rfl, h1, h2⟩)
    obtain ⟨g1, g2, g3⟩ := scn_good e List.nodup_nil (fun _ h => absurd h List.not_mem_nil)
    rw [List.map_nil, List.nil_append] at g2
    subst g2
    rw [List.length_map] at hl
    exact OkS.xs (turn_x hr hs hl g1 g3 fun c2 hp => ⟨ps, e, rfl, hp⟩)
  · rintro e c' ⟨rfl, rfl, hV⟩
    rw [hV]
    exact ⟨rfl, fun ps e => (by cases e), rfl⟩
def Vk.tell (v : D) (ys : List Str) : Vk → D
  | .lst => .lst [.str "list", v]
  | .cr x => .lst [.str "crossing", x]
  | .tw x => .lst [.str "twice", x]
  | .good ps => .lst [.str "returned", .lst ((tS ys ps).map D.str)]
theorem rows_of {ys : List Str} {c : Cs} : gCloth__rows [clo ys] c = .ok (.lst (ys.map D.str)) c := by
  refine ok_eq (Ok.fun rfl ?_)
  unfold cCloth__rows
  refine os_ret (ok_cb (ok_acons (ok_kept (ok_var rfl ⟨ys, clo_is ys _, ok_anil ⟨_, _, rfl, rfl, rfl⟩⟩))))
theorem caught_x {v : D} {c : Cs} {ys : List Str} {w : Nat} (hr : RwS ys w) (hv : VT v c) (hi : ∀ xs, seqOf v c = some xs → ∀ x ∈ xs, ItC x c) {Q : D → Cs → Prop} (q : ∀ c', Pfx c c' → Q ((vk w ys.length v c).tell v ys) c') : Ok (g_law_caught [clo ys, v] c) Q := by
  have z : (2 : Nat) ≤ sizeLine := by decide
  refine Ok.fun rfl ?_
  unfold c_law_caught
  refine os_try (xs_ret (xo_lst1 (xo_meth (n := "Cloth") (xo_meth (n := "Cloth") (Ok.xo (ok_var rfl ⟨⟨_, clo_is ys _, lk_ne (by decide +kernel)⟩, ok_acons (ok_var rfl (ok_anil ((turned_x hr hv hi).mono ?_ ?_)))⟩)))))) fun x l1 c1 h => ret_l h
  · rintro d c' ⟨ps, e, rfl, hp⟩
    refine ⟨⟨_, clo_is _ _, lk_ne (by decide +kernel)⟩, ok_anil (Xo.of rows_of ?_)⟩
    have := q c' hp
    rw [e] at this
    exact this
  · rintro e c' ⟨rfl, hg, rfl⟩ l1 hl
    have hq := q c' (Pfx.refl _)
    have hl3 : 2 < l1.length := by rw [hl]; exact Nat.le_of_ble_eq_true rfl
    have n1 : ¬ (("InvalidCrossing" : Str) = "InvalidList") := by decide +kernel
    have n2 : ¬ (("Duplicate" : Str) = "InvalidList") := by decide +kernel
    have n3 : ¬ (("Duplicate" : Str) = "InvalidCrossing") := by decide +kernel
    have n4 : ¬ (("InvalidList" : Str) = "ClothError") := by decide +kernel
    have n5 : ¬ (("InvalidList" : Str) = "StateError") := by decide +kernel
    have n6 : ¬ (("InvalidList" : Str) = "MissingError") := by decide +kernel
    have n7 : ¬ (("InvalidCrossing" : Str) = "ClothError") := by decide +kernel
    have n8 : ¬ (("InvalidCrossing" : Str) = "StateError") := by decide +kernel
    have n9 : ¬ (("InvalidCrossing" : Str) = "MissingError") := by decide +kernel
    cases hV : vk w ys.length v c' with
    | good ps => exact absurd hV (hg ps)
    | lst =>
      rw [hV] at hq
      refine ⟨.rt _, _, ?_, hq⟩
      simp [hdR, exM, Vk.ex, lsE, hl3, Mi.wipe, sRet, mLst, aCons, aNil, mC, mXf, fits, z, Vk.tell]
    | cr x =>
      rw [hV] at hq
      refine ⟨.rt _, _, ?_, hq⟩
      simp [hdR, exM, Vk.ex, crE, hl3, Mi.wipe, sRet, mLst, aCons, aNil, mC, mXf, fits, z, Vk.tell, n1, n4, n5, n6]
    | tw x =>
      rw [hV] at hq
      refine ⟨.rt _, _, ?_, hq⟩
      simp [hdR, exM, Vk.ex, twE, hl3, Mi.wipe, sRet, mLst, aCons, aNil, mC, mXf, fits, z, Vk.tell, n2, n3, n4, n5, n6, n7, n8, n9]

theorem toPyC_pre {n : Nat} {c y : Cs} : ∀ {d : D} {p : PyData}, toPyC n c d = some p → toPyC n (c ++ y) d = some p := by
  induction n with
  | zero => intro d p e; cases e
  | succ n ih =>
    intro d p e
    have ih := fun a b => ih (d := a) (p := b)
    cases d with
    | lst xs =>
      obtain ⟨ps, e1, rfl⟩ := Option.map_eq_some_iff.mp e
      exact Option.map_eq_some_iff.mpr ⟨ps, mapO_mono ih e1, rfl⟩
    | ro xs =>
      obtain ⟨ps, e1, rfl⟩ := Option.map_eq_some_iff.mp e
      exact Option.map_eq_some_iff.mpr ⟨ps, mapO_mono ih e1, rfl⟩
    | tup xs =>
      obtain ⟨ps, e1, rfl⟩ := Option.map_eq_some_iff.mp e
      exact Option.map_eq_some_iff.mpr ⟨ps, mapO_mono ih e1, rfl⟩
    | dct xs =>
      obtain ⟨ps, e1, rfl⟩ := Option.map_eq_some_iff.mp e
      refine Option.map_eq_some_iff.mpr ⟨ps, mapO_mono (fun a b q => ?_) e1, rfl⟩
      obtain ⟨z, q1, rfl⟩ := Option.map_eq_some_iff.mp q
      exact Option.map_eq_some_iff.mpr ⟨z, ih _ _ q1, rfl⟩
    | ref k =>
      cases q : c[k]? with
      | none => simp [toPyC, q] at e
      | some x =>
        have q' : (c ++ y)[k]? = some x := by rw [List.getElem?_append_left (List.getElem?_eq_some_iff.mp q).1]; exact q
        cases x with
        | lst xs =>
          rw [toPyC_lst q] at e
          rw [toPyC_lst q']
          obtain ⟨ps, e1, rfl⟩ := Option.map_eq_some_iff.mp e
          exact Option.map_eq_some_iff.mpr ⟨ps, mapO_mono ih e1, rfl⟩
        | dct xs =>
          rw [toPyC_dct q] at e
          rw [toPyC_dct q']
          obtain ⟨ps, e1, rfl⟩ := Option.map_eq_some_iff.mp e
          refine Option.map_eq_some_iff.mpr ⟨ps, mapO_mono (fun a b q => ?_) e1, rfl⟩
          obtain ⟨z, q1, rfl⟩ := Option.map_eq_some_iff.mp q
          exact Option.map_eq_some_iff.mpr ⟨z, ih _ _ q1, rfl⟩
        | frz d => simp only [toPyC, q, q'] at e ⊢; exact ih _ _ e
        | ins n fs => simp [toPyC, q] at e
    | _ => exact e

theorem mul_len (a b : Nat) (ha : a ≤ 8) (hb : b ≤ 8) (c : Cs) : mulI (.int a) (.int b) c = .ok (.int ((a : Int) * b)) c := by
  have h : CMul (a : Int) (b : Int) := Or.inl ⟨by omega, by omega⟩
  simp [mulI, intC, h]

/-- the texts of all crossings -/
def txts (w h : Nat) : List Str := (List.range (h * w)).map fun a => (crP (a % w, a / w)).shown
/-- an item as the laws draw it -/
structure ItL (x : D) (c : Cs) : Prop where
  ty : ItC x c
  tp : ∀ zs, x = .tup zs → ∃ s : Str, reprX [x] c = .ok (.str s) c ∧ (∀ y, reprX [x] (c ++ y) = .ok (.str s) (c ++ y)) ∧ ∀ w h, 1 ≤ w → w ≤ 8 → 1 ≤ h → h ≤ 8 → ((txts w h).any fun t => decide (t = s)) = (crOf w h x).isSome
theorem ItC.app {x : D} {c : Cs} (h : ItC x c) (y : Cs) : ItC x (c ++ y) := by
  have go : ∀ x : D, (tyD x c).isSome = true → (tyD x (c ++ y)).isSome = true := fun x h => by
    obtain ⟨t, ht⟩ := Option.isSome_iff_exists.mp h
    rw [tyD_app ht y]; rfl
  exact ⟨go x h.1, fun zs e z hz => go z (h.2 zs e z hz)⟩
theorem in_txts {neg : Bool} {s : Str} {ts : List Str} {c : Cs} : inY neg (.str s) (.lst (ts.map D.str)) c = .ok (.bl (sgn neg (ts.any fun t => decide (t = s)))) c := by
  have hf : (ts.map D.str).all flatD = true := List.all_eq_true.mpr fun x hx => by
    obtain ⟨t, _, rfl⟩ := List.mem_map.mp hx
    rfl
  have e : inX neg (.str s) (.lst (ts.map D.str)) c = .ok (.bl (sgn neg (ts.any fun t => decide (t = s)))) c := by
    show inL neg (.str s) (ts.map D.str) c = _
    unfold inL
    rw [if_pos ⟨rfl, hf⟩, List.any_map]
    rfl
  unfold inY
  rw [e]
theorem repr_cr {a b : Nat} (ha : a ≤ 100) (hb : b ≤ 100) (c : Cs) : reprX [crD (a, b)] c = .ok (.str (crP (a, b)).shown) c := by
  have e : toPyC 30 c (crD (a, b)) = some (crP (a, b)) := rfl
  have b1 : bP (crP (a, b)) = true := by
    show (decide ((a : Int).natAbs < 10 ^ 40) && (decide ((b : Int).natAbs < 10 ^ 40) && true)) = true
    rw [decide_eq_true (show (a : Int).natAbs < 10 ^ 40 from Nat.lt_of_le_of_lt (show (a : Int).natAbs ≤ 100 by omega) (by decide +kernel)), decide_eq_true (show (b : Int).natAbs < 10 ^ 40 from Nat.lt_of_le_of_lt (show (b : Int).natAbs ≤ 100 by omega) (by decide +kernel))]
    rfl
  show reprQ (crD (a, b)) c = _
  unfold reprQ
  rw [e]
  exact if_pos (okR_w b1 (by decide : (45 + 2 + (45 + 2 + 0)) + 3 ≤ 16777216) (by simp [crP, PyData.depth, PyData.depthAll]))
theorem due_x {v : D} {c : Cs} {ys : List Str} {w : Nat} (hr : RwS ys w) (hv : VT v c) (hi : ∀ xs, seqOf v c = some xs → ∀ x ∈ xs, ItL x c) (hvl : ∀ k, v = .ref k → k < c.length) {Q : D → Cs → Prop} (q : ∀ c', Pfx c c' → Q ((vk w ys.length v c).tell v ys) c') : Ok (g_law_due [.lst (ys.map D.str), v] c) Q := by
  have hz : sizeLine = 16777216 := sizeLine_eq
  have n1 := hr.n1
  have n8 := hr.n8
  have w1 := hr.w1
  have w8 := hr.w8
  refine Ok.fun rfl ?_
  unfold c_law_due
  rcases hv with ⟨xs, hs⟩ | ⟨t, ht, hn⟩
  · obtain ⟨t, ht, htt⟩ := hs.tt
    refine os_seq (os_if (ok_tor (ok_tnot (ok_t (ok_cb (ok_acons (ok_var rfl (ok_acons (ok_tup (ok_acons (ok_c (ok_acons (ok_c (ok_anil ⟨Nat.le_of_ble_eq_true rfl, ok_anil (Ok.of (isi_seq ht) ⟨_, rfl, ?_⟩)⟩))))))))))))))
    rw [htt]
    refine ⟨fun h => Bool.noConfusion h, fun _ => ?_⟩
    refine ok_t (ok_op (ok_cb (ok_acons (ok_var rfl (ok_anil (Ok.of (len_seq hs.sq) (ok_c ⟨_, _, rfl, _, rfl, fun h => ?_, fun h => os_nil ?_⟩)))))))
    · have h : decide ((64 : Int) < xs.length) = true := h
      have h := of_decide_eq_true h
      have hV : vk w ys.length v c = .lst := by
        unfold vk
        rw [hs.sq]
        exact if_neg (by omega)
      have := q c (Pfx.refl _)
      rw [hV] at this
      exact os_ret (ok_lst (ok_acons (ok_c (ok_acons (ok_var rfl (ok_anil ⟨Nat.le_of_ble_eq_true rfl, this⟩))))))
    have h : decide ((64 : Int) < xs.length) = false := h
    have h := of_decide_eq_false h
    have hV : vk w ys.length v c = scn w ys.length [] xs := by
      unfold vk
      rw [hs.sq]
      exact if_pos (by omega)
    rw [hV] at q
    obtain ⟨y0, yr, hy, hyl⟩ := hr.head
    have i0 : ∀ c, itemD (.lst (ys.map D.str)) (.int 0) c = .ok (.str y0) c := fun c => by rw [hy]; simp [itemD, itL, atI, ixN]
    have l0 : lenD [.str y0] c = .ok (.int (w : Nat)) c := by
      have : Ok (lenD [.str y0] c) fun d c' => d = .int (w : Nat) ∧ c' = c := ok_len_str (by omega) ⟨by rw [hyl], rfl⟩
      exact this.eq
    have lr : lenD [.lst (ys.map D.str)] c = .ok (.int ys.length) c := by rw [len_seq rfl, List.length_map]
    refine os_seq (os_set (ok_lcR (ys.length * w) (fun a => D.str (crP (a % w, a / w)).shown) (by have := Nat.mul_le_mul n8 w8; omega) ?_ ?_ ?_))
    · refine ok_acons (ok_op (ok_cb (ok_acons (ok_var rfl (ok_anil (Ok.of lr (ok_cb (ok_acons (ok_op (ok_var rfl (ok_c (Ok.of (i0 _) (ok_anil (Ok.of l0 (Ok.of (mul_len _ _ n8 w8 c) (ok_anil ⟨rfl, ?_⟩))))))))))))))))
      rw [Int.natCast_mul]
    · intro a ha
      have hw0 : (w : Int) ≠ 0 := by omega
      have hal : a ≤ 64 := by have := Nat.mul_le_mul n8 w8; omega
      refine ok_gn ⟨rfl, ok_cb (ok_acons (ok_tup (ok_acons (ok_op (ok_var rfl (ok_cb (ok_acons (ok_op (ok_var rfl (ok_c (Ok.of (i0 _) (ok_anil (Ok.of l0 (ok_intC hw0 (ok_acons (ok_op (ok_var rfl (ok_cb (ok_acons (ok_op (ok_var rfl (ok_c (Ok.of (i0 _) (ok_anil (Ok.of l0 (ok_intC ⟨hw0, by omega⟩ (ok_anil ⟨Nat.le_of_ble_eq_true rfl, ok_anil ?_⟩)))))))))))))))))))))))))))⟩
      have h1 : a % w ≤ 100 := by have := Nat.mod_lt a (show 0 < w by omega); omega
      have h2 : a / w ≤ 100 := by have := Nat.div_le_self a w; omega
      have e := repr_cr h1 h2 c
      rw [fmod_nat, fdiv_nat]
      exact Ok.of e ⟨rfl, rfl⟩
    · have et : (List.range (ys.length * w)).map (fun a => D.str (crP (a % w, a / w)).shown) = (txts w ys.length).map D.str := by
        unfold txts
        rw [List.map_map]
        rfl
      rw [et]
      refine os_seq (os_set (ok_lstM (ok_anil ⟨Nat.zero_le _, ?_⟩)))
      obtain ⟨wk, hw1, hw2⟩ := wAny_seqG (show seqOf v (c ++ [Cell.lst []]) = some xs by
        have := hs.app [Cell.lst []]
        exact this.sq)
      refine os_seq (XS.oks (xs_forW xs (fun x => x)
        (fun rest l c' => ∃ n, n ≤ xs.length ∧ rest = xs.drop n ∧ (∃ o4, l = [some (.lst (ys.map D.str)), some v, some (.lst ((txts w ys.length).map D.str)), some (.ref c.length), o4, none]) ∧ ∃ pre, xs.take n = pre.map crD ∧ c' = c ++ [.lst (pre.map crD)] ∧ scn w ys.length [] xs = scn w ys.length pre (xs.drop n)) (by omega) ?_ ?_ ?_))
      · refine ok_kany (ok_var rfl (Ok.of hw1 ⟨⟨0, Nat.zero_le _, rfl, ⟨_, rfl⟩, [], rfl, rfl, rfl⟩, fun rest l' c' ⟨_, _, _, _, pre, _, e, _⟩ i _ => ?_⟩))
        subst e
        rw [List.map_id']
        exact hw2 _ (fun k ek => by rw [List.getElem?_append_left (hvl k ek), List.getElem?_append_left (hvl k ek)]) i
      · rintro l c' ⟨n, hle, hn, ⟨o4, rfl⟩, pre, hp, rfl, hsc⟩
        have : xs.length ≤ n := by
          have := congrArg List.length hn
          simp at this
          omega
        rw [List.drop_eq_nil_of_le this] at hsc
        have q2 := q (c ++ [.lst (pre.map crD)] ++ [.lst []])
        rw [show scn w ys.length [] xs = .good pre from hsc] at q
        refine os_ret (ok_lst (ok_acons (ok_c (ok_acons (ok_cb (ok_acons (ok_var rfl (ok_acons (ok_var rfl (ok_anil (law_turned_ok hr (cell_last _) fun x => ok_anil ⟨Nat.le_of_ble_eq_true rfl, ?_⟩)))))))))))
        exact q _ ((Pfx.one c _).trans (Pfx.one _ _))
      · rintro x rest l c' ⟨n, hle, hn, ⟨o4, rfl⟩, pre, hp, rfl, hsc⟩
        have hlt : n < xs.length := by
          have := congrArg List.length hn
          simp at this
          omega
        have hdx : xs.drop n = xs[n] :: xs.drop (n + 1) := List.drop_eq_getElem_cons hlt
        rw [hdx] at hn hsc
        obtain ⟨rfl, rfl⟩ := List.cons.inj hn
        have hm := List.getElem_mem hlt
        have hx := hi xs hs.sq _ hm
        have hxc := hx.ty.app [.lst (pre.map crD)]
        obtain ⟨t3, ht3⟩ := Option.isSome_iff_exists.mp hxc.1
        have e0 := isi_tup ht3
        rw [isT_tup ht3] at e0
        have cr : crOf w ys.length xs[n] = none → Q (.lst [.str "crossing", xs[n]]) (c ++ [.lst (pre.map crD)]) := fun e => by
          have := q _ (Pfx.one c [.lst (pre.map crD)])
          rw [hsc] at this
          unfold scn at this
          rw [e] at this
          exact this
        refine ok_gn ?_
        refine OkS.xs (os_seq (os_if (ok_tor (ok_tnot (ok_t (ok_cb (ok_acons (ok_var rfl (ok_acons (ok_c (ok_anil (Ok.of e0 ⟨_, rfl, ?_⟩))))))))))))
        by_cases hxt : ∃ zs, xs[n] = .tup zs
        · obtain ⟨zs, hz2⟩ := hxt
          obtain ⟨s, s1, s2, s3⟩ := hx.tp zs hz2
          have hT : isTup xs[n] = true := by rw [hz2]; rfl
          rw [hT]
          refine ⟨fun h => Bool.noConfusion h, fun _ => ?_⟩
          refine ok_t (ok_op (ok_cb (ok_acons (ok_var rfl (ok_anil (Ok.of (s2 _) (ok_var rfl (Ok.of in_txts ⟨_, rfl, fun h => ?_, fun h => os_nil ?_⟩))))))))
          · have h : ((txts w ys.length).any fun t => decide (t = s)) = false := by simpa [sgn] using h
            rw [s3 w ys.length w1 w8 n1 n8] at h
            refine os_ret (ok_lst (ok_acons (ok_c (ok_acons (ok_var rfl (ok_anil ⟨Nat.le_of_ble_eq_true rfl, cr ?_⟩))))))
            cases e : crOf w ys.length xs[n] with
            | none => rfl
            | some p => rw [e] at h; cases h
          · have h : ((txts w ys.length).any fun t => decide (t = s)) = true := by simpa [sgn] using h
            rw [s3 w ys.length w1 w8 n1 n8] at h
            obtain ⟨p, e⟩ := Option.isSome_iff_exists.mp h
            obtain ⟨hxp, p1, p2⟩ := crOf_at e
            rw [hxp]
            refine os_seq (os_if (ok_t (ok_op (ok_var rfl (ok_var rfl (Ok.of (in_cr (ps := pre) (by simp [seqOf, cell_last]) nofun) ⟨_, rfl, fun h => ?_, fun h => os_nil ?_⟩))))))
            · have h : p ∈ pre := by simpa [sgn] using h
              have := q _ (Pfx.one c [.lst (pre.map crD)])
              rw [hsc] at this
              unfold scn at this
              rw [e] at this
              simp only [] at this
              rw [if_pos h, hxp] at this
              exact os_ret (ok_lst (ok_acons (ok_c (ok_acons (ok_var rfl (ok_anil ⟨Nat.le_of_ble_eq_true rfl, this⟩))))))
            · have h : p ∉ pre := by simpa [sgn] using h
              have hpl := take_cr hp hle
              refine os_expr (ok_bm (ok_var rfl ⟨isL_ref (cell_last _), ok_acons (ok_var rfl (ok_anil (ok_append (cell_last _) (by rw [List.length_map]; omega) ?_)))⟩))
              refine ⟨n + 1, by omega, rfl, ⟨_, rfl⟩, pre ++ [p], ?_, ?_, ?_⟩
              · rw [List.take_succ, hp, List.map_append, List.getElem?_eq_getElem hlt, hxp]
                rfl
              · rw [set_last, List.map_append]
                rfl
              · rw [hsc]
                conv => lhs; unfold scn
                rw [e]
                exact if_neg h
        · have hT : isTup xs[n] = false := by
            cases hh : xs[n] <;> first | rfl | exact absurd ⟨_, hh⟩ hxt
          rw [hT]
          refine ⟨fun _ => ⟨fun _ => os_ret (ok_lst (ok_acons (ok_c (ok_acons (ok_var rfl (ok_anil ⟨Nat.le_of_ble_eq_true rfl, cr ?_⟩)))))), fun h => Bool.noConfusion h⟩, fun h => Bool.noConfusion h⟩
          cases hh : xs[n] <;> first | rfl | exact absurd ⟨_, hh⟩ hxt
  · refine os_seq (os_if (ok_tor (ok_tnot (ok_t (ok_cb (ok_acons (ok_var rfl (ok_acons (ok_tup (ok_acons (ok_c (ok_acons (ok_c (ok_anil ⟨Nat.le_of_ble_eq_true rfl, ok_anil (Ok.of (isi_seq ht) ⟨_, rfl, ?_⟩)⟩))))))))))))))
    rw [hn]
    have hV : vk w ys.length v c = .lst := by
      unfold vk
      rw [non_seq ht hn]
    have := q c (Pfx.refl _)
    rw [hV] at this
    exact ⟨fun _ => ⟨fun _ => os_ret (ok_lst (ok_acons (ok_c (ok_acons (ok_var rfl (ok_anil ⟨Nat.le_of_ble_eq_true rfl, this⟩)))))), fun h => Bool.noConfusion h⟩, fun h => Bool.noConfusion h⟩

/-! ### items and values of this law -/
def clB (x : D) : Bool := match toPyC 8 [] x with
  | some p => bP p && decide (wP p ≤ 300) && decide (p.depth ≤ 4)
  | none => false
theorem clB_of {x : D} (h : clB x = true) : ∃ p, toPyC 8 [] x = some p ∧ bP p = true ∧ wP p ≤ 300 ∧ p.depth ≤ 4 := by
  unfold clB at h
  cases q : toPyC 8 [] x with
  | none => rw [q] at h; cases h
  | some p =>
    rw [q] at h
    simp only [Bool.and_eq_true, decide_eq_true_eq] at h
    exact ⟨p, rfl, h.1.1, h.1.2, h.2⟩
def isAt (x : D) (a b : Nat) : Bool := match x with | .tup [.int i, .int j] => decide (i = (a : Int)) && decide (j = (b : Int)) | _ => false
/-- a tuple's text is a crossing's text iff it is a crossing; all other values -/
def tcB (x : D) : Bool := !isTup x || (match toPyC 8 [] x with
  | some p => (List.range 9).all fun a => (List.range 9).all fun b => decide ((crP (a, b)).shown = p.shown) == isAt x a b
  | none => false)
/-- the same for each cloth -/
theorem tc_txts {x : D} {p : PyData} (hp : toPyC 8 [] x = some p) (hx : isTup x = true) (h : tcB x = true) {w h' : Nat} (w1 : 1 ≤ w) (w8 : w ≤ 8) (h1 : 1 ≤ h') (h8 : h' ≤ 8) : ((txts w h').any fun t => decide (t = p.shown)) = (crOf w h' x).isSome := by
  unfold tcB at h
  rw [hx, hp] at h
  have h : ((List.range 9).all fun a => (List.range 9).all fun b => decide ((crP (a, b)).shown = p.shown) == isAt x a b) = true := h
  have hh : ∀ a b, a < 9 → b < 9 → decide ((crP (a, b)).shown = p.shown) = isAt x a b := fun a b ha hb => by
    have := List.all_eq_true.mp (List.all_eq_true.mp h a (List.mem_range.mpr ha)) b (List.mem_range.mpr hb)
    exact eq_of_beq this
  rw [Bool.eq_iff_iff]
  constructor
  · intro e
    obtain ⟨t, ht, et⟩ := List.any_eq_true.mp e
    obtain ⟨a, ha, rfl⟩ := List.mem_map.mp ht
    have ha := List.mem_range.mp ha
    have m1 := Nat.mod_lt a (show 0 < w by omega)
    have m2 : a / w < h' := Nat.div_lt_of_lt_mul (by rw [Nat.mul_comm]; exact ha)
    have hc := hh (a % w) (a / w) (by omega) (by omega)
    rw [et] at hc
    generalize a % w = y at m1 hc
    generalize a / w = z at m2 hc
    have hc := hc.symm
    unfold isAt at hc
    split at hc
    · rename_i i j
      simp only [Bool.and_eq_true, decide_eq_true_eq] at hc
      obtain ⟨rfl, rfl⟩ := hc
      show (if 0 ≤ (y : Int) ∧ (y : Int) < (w : Int) ∧ 0 ≤ (z : Int) ∧ (z : Int) < (h' : Int) then some _ else none).isSome = true
      rw [if_pos ⟨by omega, by omega, by omega, by omega⟩]
      rfl
    · cases hc
  · intro e
    obtain ⟨q, eq⟩ := Option.isSome_iff_exists.mp e
    obtain ⟨rfl, q1, q2⟩ := crOf_at eq
    refine List.any_eq_true.mpr ⟨(crP (q.1, q.2)).shown, List.mem_map.mpr ⟨q.2 * w + q.1, List.mem_range.mpr ?_, ?_⟩, ?_⟩
    · have : q.2 * w + w ≤ h' * w := by
        have := Nat.mul_le_mul_right w (show q.2 + 1 ≤ h' from q2)
        rw [Nat.add_mul, Nat.one_mul] at this
        exact this
      omega
    · rw [Nat.mul_comm q.2 w, Nat.mul_add_mod, Nat.mod_eq_of_lt q1, Nat.mul_add_div (by omega), Nat.div_eq_of_lt q1, Nat.add_zero]
    · have hp2 : p = crP q := by
        have : toPyC 8 [] (crD q) = some (crP q) := rfl
        rw [this] at hp
        exact (Option.some.inj hp).symm
      rw [hp2]
      exact decide_eq_true rfl

theorem textFrom_pre : ∀ (ts : List Str) (k : Nat) (acc : Str), ∃ r, (textFrom k acc ts).cps.toList = acc.cps.toList ++ r
  | [], k, acc => ⟨[], by rw [List.append_nil]; rfl⟩
  | t :: ts, k, acc => by
    obtain ⟨r, e⟩ := textFrom_pre ts (k + 1) (acc ++ (if k > 0 then ", " else "" : String) ++ t)
    refine ⟨(Str.ofString (if k > 0 then ", " else "" : String)).cps.toList ++ t.cps.toList ++ r, ?_⟩
    show (textFrom (k + 1) (acc ++ (if k > 0 then ", " else "" : String) ++ t) ts).cps.toList = _
    rw [e, app_list, app_list]
    simp [List.append_assoc]
theorem two_91 (ps : List PyData) : ((PyData.tuple [.list ps, .int 0]).shown).cps.toList[1]? = some 91 := by
  obtain ⟨r, e⟩ := textFrom_pre (PyData.shownAll ps) 0 "["
  have e1 : (PyData.tuple [.list ps, .int 0]).shown = ("(" : Str) ++ ((textFrom 0 "[" (PyData.shownAll ps) ++ "]") ++ ", " ++ PyData.shown (.int 0)) ++ (")" : Str) := rfl
  rw [e1, app_list, app_list, app_list, app_list, app_list, e]
  have h1 : ("(" : Str).cps.toList = [40] := by decide +kernel
  have h2 : ("[" : Str).cps.toList = [91] := by decide +kernel
  rw [h1, h2]
  rfl
theorem not_two {ps : List PyData} {w h : Nat} (hw : w ≤ 8) (hh : h ≤ 8) (w1 : 1 ≤ w) : ((txts w h).any fun t => decide (t = (PyData.tuple [.list ps, .int 0]).shown)) = false := by
  have hc : ∀ a < 9, ∀ b < 9, ((crP (a, b)).shown).cps.toList[1]? ≠ some 91 := by decide +kernel
  refine List.any_eq_false.mpr fun t ht e => ?_
  obtain ⟨a, ha, rfl⟩ := List.mem_map.mp ht
  have ha := List.mem_range.mp ha
  have m1 := Nat.mod_lt a (show 0 < w by omega)
  have m2 : a / w < h := Nat.div_lt_of_lt_mul (by rw [Nat.mul_comm]; exact ha)
  have e := of_decide_eq_true e
  refine hc (a % w) (by omega) (a / w) (by omega) ?_
  rw [e]
  exact two_91 ps

def topT : D → Bool
  | .non => true
  | .bl _ => true
  | .int _ => true
  | .str _ => true
  | .tup _ => true
  | .dct _ => true
  | _ => false
def FL (xs : List D) : Prop := ∀ y ∈ xs, clB y = true
/-- what a list in a list is -/
def Elm (kb n : Nat) (y : D) (c : Cs) : Prop := clB y = true ∨ ∃ j zs, y = .ref j ∧ j ≠ kb ∧ c[j]? = some (Cell.lst zs) ∧ zs.length ≤ n ∧ FL zs
theorem Elm.at {kb n : Nat} {x : D} {c c' : Cs} (h : Elm kb n x c) (e : ∀ (k : Nat) (z : Cell), c[k]? = some z → k ≠ kb → c'[k]? = some z) : Elm kb n x c' := by
  rcases h with h | ⟨j, xs, rfl, hj, hc, r⟩
  · exact .inl h
  · exact .inr ⟨j, xs, rfl, hj, e j _ hc hj, r⟩
theorem Elm.mono {kb n n' : Nat} {x : D} {c : Cs} (h : Elm kb n x c) (hn : n ≤ n') : Elm kb n' x c := by
  rcases h with h | ⟨j, xs, rfl, hj, hc, hl, r⟩
  · exact .inl h
  · exact .inr ⟨j, xs, rfl, hj, hc, by omega, r⟩
/-- an item -/
def Itm (kb n : Nat) (x : D) (c : Cs) : Prop := (clB x = true ∧ topT x = true ∧ tcB x = true) ∨ (∃ j xs, x = .ref j ∧ j ≠ kb ∧ c[j]? = some (.lst xs) ∧ xs.length ≤ n ∧ ∀ y ∈ xs, Elm kb n y c) ∨
  (∃ j kvs, x = .ref j ∧ c[j]? = some (.dct kvs) ∧ (kvs = [] ∨ kvs = [(.inr "a", .int 1)])) ∨ ∃ j xs, x = .tup [.ref j, .int 0] ∧ j ≠ kb ∧ c[j]? = some (.lst xs) ∧ xs.length ≤ n ∧ FL xs
theorem Itm.at {kb n : Nat} {x : D} {c c' : Cs} (h : Itm kb n x c) (e : ∀ (k : Nat) (z : Cell), c[k]? = some z → k ≠ kb → c'[k]? = some z) (e2 : ∀ (k : Nat) (kvs : List (Key × D)), c[k]? = some (Cell.dct kvs) → c'[k]? = some (Cell.dct kvs)) : Itm kb n x c' := by
  rcases h with h | ⟨j, xs, rfl, hj, hc, hl, r⟩ | ⟨j, kvs, rfl, hc, r⟩ | ⟨j, xs, rfl, hj, hc, r⟩
  · exact .inl h
  · exact .inr (.inl ⟨j, xs, rfl, hj, e j _ hc hj, hl, fun y hy => (r y hy).at e⟩)
  · exact .inr (.inr (.inl ⟨j, kvs, rfl, e2 j _ hc, r⟩))
  · exact .inr (.inr (.inr ⟨j, xs, rfl, hj, e j _ hc hj, r⟩))
theorem Itm.app {kb n : Nat} {x : D} {c : Cs} (h : Itm kb n x c) (y : Cs) : Itm kb n x (c ++ y) :=
  h.at (fun k z e _ => by rw [List.getElem?_append_left (List.getElem?_eq_some_iff.mp e).1]; exact e) (fun k z e => by rw [List.getElem?_append_left (List.getElem?_eq_some_iff.mp e).1]; exact e)
theorem Itm.mono {kb n n' : Nat} {x : D} {c : Cs} (h : Itm kb n x c) (hn : n ≤ n') : Itm kb n' x c := by
  rcases h with h | ⟨j, xs, rfl, hj, hc, hl, r⟩ | h | ⟨j, xs, rfl, hj, hc, hl, r⟩
  · exact .inl h
  · exact .inr (.inl ⟨j, xs, rfl, hj, hc, by omega, fun y hy => (r y hy).mono hn⟩)
  · exact .inr (.inr (.inl h))
  · exact .inr (.inr (.inr ⟨j, xs, rfl, hj, hc, by omega, r⟩))
theorem more_cl : clB (.str "more") = true := by decide +kernel
theorem FL.more {xs : List D} (h : FL xs) : FL (xs ++ [.str "more"]) := fun y hy => by
  rcases List.mem_append.mp hy with hy | hy
  · exact h y hy
  · rw [List.mem_singleton.mp hy]; exact more_cl
theorem FL.cell {n : Nat} {c : Cs} {j : Nat} {zs : List D} (hj : c[j]? = some (.lst zs)) : ∀ (i : Nat) (xs : List D), c[i]? = some (Cell.lst xs) → xs.length ≤ n → FL xs → ∃ ys, (c.set j (Cell.lst (zs ++ [.str "more"])))[i]? = some (Cell.lst ys) ∧ ys.length ≤ n + 1 ∧ FL ys := fun i xs hi hl hf => by
  by_cases e : i = j
  · subst e
    rw [hj] at hi
    cases hi
    exact ⟨_, by rw [List.getElem?_set_self (List.getElem?_eq_some_iff.mp hj).1], by simp; omega, hf.more⟩
  · exact ⟨xs, by rw [List.getElem?_set_ne (fun h => e h.symm)]; exact hi, by omega, hf⟩
theorem Elm.grow {kb n : Nat} {x : D} {c : Cs} {j : Nat} {zs : List D} (h : Elm kb n x c) (hj : c[j]? = some (.lst zs)) : Elm kb (n + 1) x (c.set j (.lst (zs ++ [.str "more"]))) := by
  rcases h with h | ⟨i, xs, rfl, hi, hc, hl, r⟩
  · exact .inl h
  · obtain ⟨ys, a, b, d⟩ := FL.cell hj i xs hc hl r
    exact .inr ⟨i, ys, rfl, hi, a, b, d⟩
theorem Itm.grow {kb n : Nat} {x : D} {c : Cs} {j : Nat} {zs : List D} (h : Itm kb n x c) (hj : c[j]? = some (.lst zs)) : Itm kb (n + 1) x (c.set j (.lst (zs ++ [.str "more"]))) := by
  rcases h with h | ⟨i, xs, rfl, hi, hc, hl, r⟩ | ⟨i, kvs, rfl, hc, r⟩ | ⟨i, xs, rfl, hi, hc, hl, r⟩
  · exact .inl h
  · have r2 : ∀ y ∈ xs, Elm kb (n + 1) y (c.set j (.lst (zs ++ [.str "more"]))) := fun y hy => (r y hy).grow hj
    by_cases e : i = j
    · subst e
      rw [hj] at hc
      cases hc
      refine .inr (.inl ⟨i, _, rfl, hi, by rw [List.getElem?_set_self (List.getElem?_eq_some_iff.mp hj).1], by simp; omega, fun y hy => ?_⟩)
      rcases List.mem_append.mp hy with hy | hy
      · exact r2 y hy
      · rw [List.mem_singleton.mp hy]; exact .inl more_cl
    · exact .inr (.inl ⟨i, xs, rfl, hi, by rw [List.getElem?_set_ne (fun h => e h.symm)]; exact hc, by omega, r2⟩)
  · refine .inr (.inr (.inl ⟨i, kvs, rfl, ?_, r⟩))
    rw [List.getElem?_set_ne (fun h => by subst h; rw [hj] at hc; cases hc)]
    exact hc
  · obtain ⟨ys, a, b, d⟩ := FL.cell hj i xs hc hl r
    exact .inr (.inr (.inr ⟨i, ys, rfl, hi, a, b, d⟩))
/-- what an item holds -/
theorem cls_py {m : Nat} {c : Cs} (hm : 8 ≤ m) : ∀ {xs : List D}, FL xs → ∃ ps, mapO (toPyC m c) xs = some ps ∧ bPs ps = true ∧ wPs ps ≤ 302 * xs.length ∧ PyData.depthAll ps ≤ 4
  | [], _ => ⟨[], rfl, rfl, by decide, by decide⟩
  | x :: xs, h => by
    obtain ⟨p, h2, h3, h4, h5⟩ := clB_of (h x List.mem_cons_self)
    obtain ⟨ps, g2, g3, g4, g5⟩ := cls_py (c := c) hm fun y hy => h y (List.mem_cons_of_mem _ hy)
    refine ⟨p :: ps, by simp only [mapO, toPyC_free hm h2, g2], by simp [bPs, h3, g3], ?_, ?_⟩
    · simp only [wPs, List.length_cons]; omega
    · simp only [PyData.depthAll]; omega
theorem Elm.py {kb n : Nat} {x : D} {c : Cs} (h : Elm kb n x c) (hn : n ≤ 14) {m : Nat} (hm : 10 ≤ m) : ∃ p, toPyC m c x = some p ∧ bP p = true ∧ wP p ≤ 4300 ∧ p.depth ≤ 6 := by
  obtain ⟨m, rfl⟩ : ∃ k, m = k + 1 := ⟨m - 1, by omega⟩
  rcases h with h | ⟨j, xs, rfl, hj, hc, hl, r⟩
  · obtain ⟨p, e, h1, h2, h3⟩ := clB_of h
    exact ⟨p, toPyC_free (by omega) e, h1, by omega, by omega⟩
  · obtain ⟨ps, g2, g3, g4, g5⟩ := cls_py (m := m) (c := c) (by omega) r
    refine ⟨.list ps, by rw [toPyC_lst hc, g2]; rfl, g3, ?_, ?_⟩
    · show wPs ps + 2 ≤ _
      have : 302 * xs.length ≤ 302 * 14 := Nat.mul_le_mul_left _ (by omega)
      omega
    · simp only [PyData.depth]; omega
theorem elms_py {kb n : Nat} {c : Cs} (hn : n ≤ 14) {m : Nat} (hm : 10 ≤ m) : ∀ {xs : List D}, (∀ x ∈ xs, Elm kb n x c) → ∃ ps, mapO (toPyC m c) xs = some ps ∧ bPs ps = true ∧ wPs ps ≤ 4302 * xs.length ∧ PyData.depthAll ps ≤ 6
  | [], _ => ⟨[], rfl, rfl, by decide, by decide⟩
  | x :: xs, h => by
    obtain ⟨p, h2, h3, h4, h5⟩ := (h x List.mem_cons_self).py hn hm
    obtain ⟨ps, g2, g3, g4, g5⟩ := elms_py hn hm fun y hy => h y (List.mem_cons_of_mem _ hy)
    refine ⟨p :: ps, by simp only [mapO, h2, g2], by simp [bPs, h3, g3], ?_, ?_⟩
    · simp only [wPs, List.length_cons]; omega
    · simp only [PyData.depthAll]; omega
theorem Itm.py {kb n : Nat} {x : D} {c : Cs} (h : Itm kb n x c) (hn : n ≤ 14) {m : Nat} (hm : 12 ≤ m) : ∃ p, toPyC m c x = some p ∧ bP p = true ∧ wP p ≤ 60400 ∧ p.depth ≤ 8 := by
  obtain ⟨m, rfl⟩ : ∃ k, m = k + 2 := ⟨m - 2, by omega⟩
  rcases h with ⟨h, _, _⟩ | ⟨j, xs, rfl, hj, hc, hl, r⟩ | ⟨j, kvs, rfl, hc, r⟩ | ⟨j, xs, rfl, hj, hc, hl, r⟩
  · obtain ⟨p, e, h1, h2, h3⟩ := clB_of h
    exact ⟨p, toPyC_free (by omega) e, h1, by omega, by omega⟩
  · obtain ⟨ps, g2, g3, g4, g5⟩ := elms_py hn (m := m + 1) (c := c) (by omega) r
    refine ⟨.list ps, by rw [toPyC_lst hc, g2]; rfl, g3, ?_, ?_⟩
    · show wPs ps + 2 ≤ _
      have : 4302 * xs.length ≤ 4302 * 14 := Nat.mul_le_mul_left _ (by omega)
      omega
    · simp only [PyData.depth]; omega
  · rcases r with rfl | rfl
    · exact ⟨.dict [], by rw [toPyC_dct hc]; rfl, rfl, by decide, by decide⟩
    · exact ⟨.dict [(.str "a", .int 1)], by rw [toPyC_dct hc]; rfl, by decide +kernel, by decide +kernel, by decide +kernel⟩
  · obtain ⟨ps, g2, g3, g4, g5⟩ := cls_py (m := m) (c := c) (by omega) r
    refine ⟨.tuple [.list ps, .int 0], ?_, ?_, ?_, ?_⟩
    · show (mapO (toPyC (m + 1) c) [.ref j, .int 0]).map PyData.tuple = _
      simp only [mapO, toPyC_lst hc, g2]
      rfl
    · show (bPs ps && (bP (.int 0) && true)) = true
      rw [g3]; rfl
    · show ((wPs ps + 2) + 2 + (45 + 2 + 0)) + 3 ≤ _
      have : 302 * xs.length ≤ 302 * 14 := Nat.mul_le_mul_left _ (by omega)
      omega
    · simp only [PyData.depth, PyData.depthAll]; omega

theorem repr_at {d : D} {p : PyData} {c : Cs} (e : toPyC 30 c d = some p) (h1 : bP p = true) (h2 : wP p ≤ 16777216) (h3 : p.depth ≤ 60) : reprX [d] c = .ok (.str p.shown) c := by
  show reprQ d c = _
  unfold reprQ
  rw [e]
  exact if_pos (okR_w h1 h2 h3)
theorem Itm.itl {kb n : Nat} {x : D} {c : Cs} (h : Itm kb n x c) (hn : n ≤ 14) : ItL x c := by
  obtain ⟨p, e, h1, h2, h3⟩ := h.py hn (m := 30) (by decide)
  have hrep : reprX [x] c = .ok (.str p.shown) c := repr_at e h1 (by omega) (by omega)
  have hrep2 : ∀ y, reprX [x] (c ++ y) = .ok (.str p.shown) (c ++ y) := fun y => repr_at (toPyC_pre e) h1 (by omega) (by omega)
  rcases h with ⟨hc, ht, htc⟩ | ⟨j, xs, rfl, hj, hc, hl, r⟩ | ⟨j, kvs, rfl, hc, r⟩ | ⟨j, xs, rfl, hj, hc, hl, r⟩
  · obtain ⟨p', e', g1, g2, g3⟩ := clB_of hc
    have hp : p = p' := by
      have := toPyC_free (m := 30) (c := c) (by decide) e'
      rw [this] at e
      exact (Option.some.inj e).symm
    subst hp
    refine ⟨⟨?_, ?_⟩, ?_⟩
    · cases x <;> first | rfl | cases ht
    · rintro ys rfl y hy
      obtain ⟨ps, e2, _⟩ := Option.map_eq_some_iff.mp e'
      obtain ⟨q, hq, e3⟩ := mapO_mem e2 hy
      obtain ⟨t, ht2, _⟩ := (el_of (c := c) e3 (by
        have := wPs_mem hq
        rename_i e4
        subst e4
        have g2 : wPs ps + 3 ≤ 300 := g2
        omega)).ex
      rw [ht2]; rfl
    · rintro zs rfl
      exact ⟨p.shown, hrep, hrep2, fun w h w1 w8 h1 h8 => tc_txts e' rfl htc w1 w8 h1 h8⟩
  · exact ⟨⟨by simp [tyD, hc], fun ys e => by cases e⟩, fun zs e => by cases e⟩
  · exact ⟨⟨by simp [tyD, hc], fun ys e => by cases e⟩, fun zs e => by cases e⟩
  · refine ⟨⟨rfl, fun ys e y hy => ?_⟩, fun zs e2 => ⟨p.shown, hrep, hrep2, fun w h w1 w8 h1 h8 => ?_⟩⟩
    · cases e
      simp only [List.mem_cons, List.not_mem_nil, or_false] at hy
      rcases hy with rfl | rfl
      · simp [tyD, hc]
      · rfl
    · obtain ⟨ps, g2, _⟩ := cls_py (m := 28) (c := c) (by decide) r
      have e3 : toPyC 30 c (.tup [.ref j, .int 0]) = some (.tuple [.list ps, .int 0]) := by
        show (mapO (toPyC 29 c) [.ref j, .int 0]).map PyData.tuple = _
        simp only [mapO, toPyC_lst hc, g2]
        rfl
      rw [e3] at e
      cases e
      rw [not_two w8 h8 w1]
      rfl
theorem Itm.elv {kb n : Nat} {x : D} {c : Cs} (h : Itm kb n x c) (hn : n ≤ 14) : ElV x c := by
  rcases h with ⟨hc, ht, _⟩ | ⟨j, xs, rfl, hj, hc, hl, r⟩ | ⟨j, kvs, rfl, hc, r⟩ | ⟨j, xs, rfl, hj, hc, hl, r⟩
  · obtain ⟨p, e, g1, g2, g3⟩ := clB_of hc
    exact el_of e (by omega)
  · exact ⟨"list", by simp [tyD, hc], fun e => by simp at e⟩
  · exact ⟨"dict", by simp [tyD, hc], fun e => by simp at e⟩
  · exact ⟨"tuple", rfl, fun e => by simp at e⟩
/-- an item of a list of that length -/
def Bim (kb n L : Nat) (x : D) (c : Cs) : Prop := Itm kb n x c ∨ (64 < L ∧ x = .lst [.int 0, .int 0])
theorem Bim.elv {kb n L : Nat} {x : D} {c : Cs} (h : Bim kb n L x c) (hn : n ≤ 14) : ElV x c := by
  rcases h with h | ⟨_, rfl⟩
  · exact h.elv hn
  · exact ⟨"list", rfl, fun e => by simp at e⟩
theorem Bim.itl {kb n L : Nat} {x : D} {c : Cs} (h : Bim kb n L x c) (hn : n ≤ 14) : ItL x c := by
  rcases h with h | ⟨_, rfl⟩
  · exact h.itl hn
  · exact ⟨⟨rfl, fun ys e => by cases e⟩, fun zs e => by cases e⟩
theorem Bim.py {kb n L : Nat} {x : D} {c : Cs} (h : Bim kb n L x c) (hn : n ≤ 14) {m : Nat} (hm : 12 ≤ m) : ∃ p, toPyC m c x = some p ∧ bP p = true ∧ wP p ≤ 60400 ∧ p.depth ≤ 8 := by
  rcases h with h | ⟨_, rfl⟩
  · exact h.py hn hm
  · exact ⟨.list [.int 0, .int 0], toPyC_free (show 8 ≤ m by omega) rfl, by decide +kernel, by decide +kernel, by decide +kernel⟩
theorem Bim.more {kb n L : Nat} {c : Cs} : Bim kb n L (.str "more") c := .inl (.inl ⟨by decide +kernel, rfl, rfl⟩)
theorem Bim.mono {kb n n' L L' : Nat} {x : D} {c : Cs} (h : Bim kb n L x c) (hn : n ≤ n') (hL : L ≤ L') : Bim kb n' L' x c := by
  rcases h with h | ⟨h, rfl⟩
  · exact .inl (h.mono hn)
  · exact .inr ⟨by omega, rfl⟩
theorem Bim.grow {kb n L : Nat} {x : D} {c : Cs} {j : Nat} {zs : List D} (h : Bim kb n L x c) (hj : c[j]? = some (.lst zs)) : Bim kb (n + 1) L x (c.set j (.lst (zs ++ [.str "more"]))) := by
  rcases h with h | ⟨h, rfl⟩
  · exact .inl (h.grow hj)
  · exact .inr ⟨h, rfl⟩
theorem Bim.app {kb n L : Nat} {x : D} {c : Cs} (h : Bim kb n L x c) (y : Cs) : Bim kb n L x (c ++ y) := by
  rcases h with h | ⟨h, rfl⟩
  · exact .inl (h.app y)
  · exact .inr ⟨h, rfl⟩
/-- the items of a value; of ("warp", []) the second is never told -/
def Its (kb n : Nat) (xs : List D) (c : Cs) : Prop := (∀ x ∈ xs, Bim kb n xs.length x c) ∨ xs = [.str "warp", .lst []]
theorem Its.itl {kb n : Nat} {xs : List D} {c : Cs} (h : Its kb n xs c) (hn : n ≤ 14) : ∀ x ∈ xs, ItL x c := by
  rcases h with h | rfl
  · exact fun x hx => (h x hx).itl hn
  · intro x hx
    simp only [List.mem_cons, List.not_mem_nil, or_false] at hx
    rcases hx with rfl | rfl
    · exact ⟨⟨rfl, fun ys e => by cases e⟩, fun zs e => by cases e⟩
    · exact ⟨⟨rfl, fun ys e => by cases e⟩, fun zs e => by cases e⟩

theorem Its.elv {kb n : Nat} {xs : List D} {c : Cs} (h : Its kb n xs c) (hn : n ≤ 14) : ∀ x ∈ xs, ElV x c := by
  rcases h with h | rfl
  · exact fun x hx => (h x hx).elv hn
  · intro x hx
    simp only [List.mem_cons, List.not_mem_nil, or_false] at hx
    rcases hx with rfl | rfl
    · exact ⟨"str", rfl, fun _ => ⟨_, rfl, by decide +kernel⟩⟩
    · exact ⟨"list", rfl, fun e => by simp at e⟩
def scal : D → Bool
  | .non => true
  | .bl _ => true
  | .int _ => true
  | .str _ => true
  | _ => false
/-- a value -/
def Vl (kb n : Nat) (v : D) (c : Cs) : Prop := (∃ j xs, v = .ref j ∧ j ≠ kb ∧ c[j]? = some (.lst xs) ∧ xs.length ≤ 70 + n ∧ ∀ x ∈ xs, Bim kb n xs.length x c) ∨ (∃ xs, v = .tup xs ∧ xs.length ≤ 84 ∧ Its kb n xs c) ∨ (clB v = true ∧ scal v = true) ∨
  ∃ j kvs, v = .ref j ∧ c[j]? = some (.dct kvs) ∧ (kvs = [] ∨ kvs = [(.inr "a", .int 1)])
theorem Vl.vt {kb n : Nat} {v : D} {c : Cs} (h : Vl kb n v c) (hn : n ≤ 14) : VT v c := by
  rcases h with ⟨j, xs, rfl, hj, hc, hl, hi⟩ | ⟨xs, rfl, hl, hi⟩ | ⟨h, hs⟩ | ⟨j, kvs, rfl, hc, _⟩
  · exact .inl ⟨xs, by simp [seqOf, hc], .inl (by simp [tyD, hc]), by omega, fun x hx => (hi x hx).elv hn, nofun⟩
  · exact .inl ⟨xs, rfl, .inr rfl, by omega, hi.elv hn, nofun⟩
  · cases v with
    | non => exact .inr ⟨_, rfl, by decide⟩
    | bl _ => exact .inr ⟨_, rfl, by decide⟩
    | int _ => exact .inr ⟨_, rfl, by decide⟩
    | str _ => exact .inr ⟨_, rfl, by decide⟩
    | _ => cases hs
  · exact .inr ⟨"dict", by simp [tyD, hc], by decide⟩
theorem Vl.items {kb n : Nat} {v : D} {c : Cs} (h : Vl kb n v c) {xs : List D} (hx : seqOf v c = some xs) : Its kb n xs c := by
  rcases h with ⟨j, zs, rfl, hj, hc, hl, hi⟩ | ⟨zs, rfl, hl, hi⟩ | ⟨h, hs⟩ | ⟨j, kvs, rfl, hc, _⟩
  · simp only [seqOf, hc] at hx
    cases hx
    exact .inl hi
  · cases hx
    exact hi
  · cases v with
    | lst => cases hs
    | tup => cases hs
    | ro => cases hs
    | ref => cases hs
    | _ => cases hx
  · simp only [seqOf, hc] at hx
    cases hx
theorem Vl.lt {kb n : Nat} {v : D} {c : Cs} (h : Vl kb n v c) : ∀ j, v = .ref j → j < c.length := fun j e => by
  rcases h with ⟨i, xs, e2, hj, hc, _⟩ | ⟨xs, e2, _⟩ | ⟨_, hs⟩ | ⟨i, kvs, e2, hc, _⟩
  · rw [e] at e2; cases e2; exact (List.getElem?_eq_some_iff.mp hc).1
  · rw [e] at e2; cases e2
  · subst e; cases hs
  · rw [e] at e2; cases e2; exact (List.getElem?_eq_some_iff.mp hc).1
theorem itms_py {kb n L : Nat} {c : Cs} (hn : n ≤ 14) {m : Nat} (hm : 12 ≤ m) : ∀ {xs : List D}, (∀ x ∈ xs, Bim kb n L x c) → ∃ ps, mapO (toPyC m c) xs = some ps ∧ bPs ps = true ∧ wPs ps ≤ 60402 * xs.length ∧ PyData.depthAll ps ≤ 8
  | [], _ => ⟨[], rfl, rfl, by decide, by decide⟩
  | x :: xs, h => by
    obtain ⟨p, h2, h3, h4, h5⟩ := (h x List.mem_cons_self).py hn hm
    obtain ⟨ps, g2, g3, g4, g5⟩ := itms_py hn hm fun y hy => h y (List.mem_cons_of_mem _ hy)
    refine ⟨p :: ps, by simp only [mapO, h2, g2], by simp [bPs, h3, g3], ?_, ?_⟩
    · simp only [wPs, List.length_cons]; omega
    · simp only [PyData.depthAll]; omega
theorem Its.py {kb n : Nat} {xs : List D} {c : Cs} (h : Its kb n xs c) (hn : n ≤ 14) {m : Nat} (hm : 12 ≤ m) : ∃ ps, mapO (toPyC m c) xs = some ps ∧ bPs ps = true ∧ wPs ps ≤ 60402 * xs.length ∧ PyData.depthAll ps ≤ 8 := by
  rcases h with h | rfl
  · exact itms_py hn hm h
  · obtain ⟨m, rfl⟩ : ∃ k, m = k + 2 := ⟨m - 2, by omega⟩
    exact ⟨[.str "warp", .list []], rfl, by decide +kernel, by decide +kernel, by decide +kernel⟩
theorem Vl.py {kb n : Nat} {v : D} {c : Cs} (h : Vl kb n v c) (hn : n ≤ 14) {m : Nat} (hm : 14 ≤ m) : ∃ p, toPyC m c v = some p ∧ bP p = true ∧ wP p ≤ 7000000 ∧ p.depth ≤ 12 := by
  obtain ⟨m, rfl⟩ : ∃ k, m = k + 1 := ⟨m - 1, by omega⟩
  rcases h with ⟨j, xs, rfl, hj, hc, hl, hi⟩ | ⟨xs, rfl, hl, hi⟩ | ⟨h, hs⟩ | ⟨j, kvs, rfl, hc, r⟩
  · obtain ⟨ps, g2, g3, g4, g5⟩ := itms_py (m := m) hn (by omega) hi
    refine ⟨.list ps, by rw [toPyC_lst hc, g2]; rfl, g3, ?_, ?_⟩
    · show wPs ps + 2 ≤ _
      have : 60402 * xs.length ≤ 60402 * 84 := Nat.mul_le_mul_left _ (by omega)
      omega
    · simp only [PyData.depth]; omega
  · obtain ⟨ps, g2, g3, g4, g5⟩ := hi.py (m := m) hn (by omega)
    refine ⟨.tuple ps, by show (mapO (toPyC m c) xs).map PyData.tuple = _; rw [g2]; rfl, g3, ?_, ?_⟩
    · show wPs ps + 3 ≤ _
      have : 60402 * xs.length ≤ 60402 * 84 := Nat.mul_le_mul_left _ (by omega)
      omega
    · simp only [PyData.depth]; omega
  · obtain ⟨p, e, h1, h2, h3⟩ := clB_of h
    exact ⟨p, toPyC_free (by omega) e, h1, by omega, by omega⟩
  · obtain ⟨m, rfl⟩ : ∃ k, m = k + 1 := ⟨m - 1, by omega⟩
    rcases r with rfl | rfl
    · exact ⟨.dict [], by rw [toPyC_dct hc]; rfl, rfl, by decide, by decide⟩
    · exact ⟨.dict [(.str "a", .int 1)], by rw [toPyC_dct hc]; rfl, by decide +kernel, by decide +kernel, by decide +kernel⟩

theorem mapO_strsC (n : Nat) (c : Cs) : ∀ ys : List Str, mapO (toPyC (n + 1) c) (ys.map D.str) = some (ys.map PyData.str)
  | [] => rfl
  | y :: ys => by
    rw [List.map_cons, List.map_cons]
    unfold mapO
    rw [mapO_strsC n c ys]
    rfl
theorem py_strs (n : Nat) (c : Cs) (ys : List Str) : toPyC (n + 2) c (.lst (ys.map D.str)) = some (.list (ys.map PyData.str)) :=
  Option.map_eq_some_iff.mpr ⟨_, mapO_strsC n c ys, rfl⟩
theorem canLay_str {s : Str} (h : ∀ k ∈ s.cps.toList, k < 1114112) : (PyData.str s).canLay0 = true := by
  simp only [PyData.canLay0, PyData.strOk]
  rw [← Array.all_toList]
  exact List.all_eq_true.mpr fun k hk => decide_eq_true (h k hk)
theorem shaped_strs {ys : List Str} (h : ∀ y ∈ ys, bitS y) : SeqAt.shaped (.list (ys.map PyData.str)) = true := by
  have h1 : (PyData.list (ys.map PyData.str)).canLay0 = true := by
    simp only [PyData.canLay0]
    induction ys with
    | nil => rfl
    | cons y ys ih =>
      show ((PyData.str y).canLay0 && PyData.canLayAll0 (ys.map PyData.str)) = true
      rw [canLay_str (bits_cp (h y List.mem_cons_self)), ih fun z hz => h z (List.mem_cons_of_mem _ hz)]
      rfl
  have h2 : (PyData.list (ys.map PyData.str)).depth ≤ 64 := by
    have : PyData.depthAll (ys.map PyData.str) ≤ 1 := by
      clear h h1
      induction ys with
      | nil => decide
      | cons y ys ih => simp only [List.map_cons, PyData.depthAll, PyData.depth]; omega
    simp only [PyData.depth]
    omega
  unfold SeqAt.shaped
  rw [h1, decide_eq_true h2]
  rfl
theorem eqv_strs : ∀ ys zs : List Str, PyData.eqv (.list (ys.map PyData.str)) (.list (zs.map PyData.str)) = decide (ys = zs) := by
  have go : ∀ ys zs : List Str, PyData.eqvAll (ys.map PyData.str) (zs.map PyData.str) = decide (ys = zs) := fun ys => by
    induction ys with
    | nil => intro zs; cases zs with | nil => rfl | cons z zs => simp [PyData.eqvAll]
    | cons y ys ih =>
      intro zs
      cases zs with
      | nil => simp [PyData.eqvAll]
      | cons z zs =>
        simp only [List.map_cons, PyData.eqvAll, PyData.eqv, ih]
        rw [Bool.eq_iff_iff]
        simp
  intro ys zs
  simp only [PyData.eqv]
  exact go ys zs
/-- what stands there is a list of these texts -/
def SL (x : D) (c : Cs) (ys : List Str) : Prop := toPyC 30 c x = some (.list (ys.map PyData.str))
theorem eqQ_strs {neg : Bool} {x y : D} {c : Cs} {ys zs : List Str} (hx : SL x c ys) (hy : SL y c zs) (h1 : ∀ y ∈ ys, bitS y) (h2 : ∀ y ∈ zs, bitS y) : eqQ neg x y c = .ok (.bl (if neg = true then !decide (ys = zs) else decide (ys = zs))) c := by
  unfold SL at hx hy
  unfold eqQ
  simp only [hx, hy]
  rw [if_pos ⟨shaped_strs h1, shaped_strs h2⟩, eqv_strs]

theorem Vl.grow {kb n : Nat} {v : D} {c : Cs} {j : Nat} {zs : List D} (h : Vl kb n v c) (hj : c[j]? = some (.lst zs)) : Vl kb (n + 1) v (c.set j (.lst (zs ++ [.str "more"]))) := by
  rcases h with ⟨i, xs, rfl, hi, hc, hl, hx⟩ | ⟨xs, rfl, hl, hx⟩ | h | ⟨i, kvs, rfl, hc, r⟩
  · by_cases e : i = j
    · subst e
      rw [hj] at hc
      cases hc
      refine .inl ⟨i, _, rfl, hi, by rw [List.getElem?_set_self (List.getElem?_eq_some_iff.mp hj).1], by simp; omega, fun x hm => ?_⟩
      rcases List.mem_append.mp hm with hm | hm
      · exact ((hx x hm).grow hj).mono (Nat.le_refl _) (by simp)
      · rw [List.mem_singleton.mp hm]
        exact .more
    · exact .inl ⟨i, xs, rfl, hi, by rw [List.getElem?_set_ne (fun h => e h.symm)]; exact hc, by omega, fun x hm => (hx x hm).grow hj⟩
  · refine .inr (.inl ⟨xs, rfl, hl, ?_⟩)
    rcases hx with hx | rfl
    · exact .inl fun x hm => (hx x hm).grow hj
    · exact .inr rfl
  · exact .inr (.inr (.inl h))
  · refine .inr (.inr (.inr ⟨i, kvs, rfl, ?_, r⟩))
    rw [List.getElem?_set_ne (fun h => by subst h; rw [hj] at hc; cases hc)]
    exact hc
theorem Vl.app {kb n : Nat} {v : D} {c : Cs} (h : Vl kb n v c) (y : Cs) : Vl kb n v (c ++ y) := by
  have g : ∀ (k : Nat) (z : Cell), c[k]? = some z → (c ++ y)[k]? = some z := fun k z e => by rw [List.getElem?_append_left (List.getElem?_eq_some_iff.mp e).1]; exact e
  rcases h with ⟨i, xs, rfl, hi, hc, hl, hx⟩ | ⟨xs, rfl, hl, hx⟩ | h | ⟨i, kvs, rfl, hc, r⟩
  · exact .inl ⟨i, xs, rfl, hi, g _ _ hc, hl, fun x hm => (hx x hm).app y⟩
  · exact .inr (.inl ⟨xs, rfl, hl, hx.imp_left fun hx x hm => (hx x hm).app y⟩)
  · exact .inr (.inr (.inl h))
  · exact .inr (.inr (.inr ⟨i, kvs, rfl, g _ _ hc, r⟩))
theorem Itm.gr {kb n : Nat} {x : D} {c c' : Cs} (h : Itm kb n x c) (g : Gr kb c c') (hb : ∃ xs, c[kb]? = some (.lst xs)) : Itm kb n x c' :=
  h.at (fun k z e hk => g.get hk e) fun k kvs e => g.get (fun hk => by subst hk; obtain ⟨xs, hb⟩ := hb; rw [hb] at e; cases e) e
theorem Bim.gr {kb n L : Nat} {x : D} {c c' : Cs} (h : Bim kb n L x c) (g : Gr kb c c') (hb : ∃ xs, c[kb]? = some (.lst xs)) : Bim kb n L x c' := by
  rcases h with h | ⟨h, rfl⟩
  · exact .inl (h.gr g hb)
  · exact .inr ⟨h, rfl⟩
theorem Vl.gr {kb n : Nat} {v : D} {c c' : Cs} (h : Vl kb n v c) (g : Gr kb c c') (hb : ∃ xs, c[kb]? = some (.lst xs)) : Vl kb n v c' := by
  rcases h with ⟨i, xs, rfl, hi, hc, hl, hx⟩ | ⟨xs, rfl, hl, hx⟩ | h | ⟨i, kvs, rfl, hc, r⟩
  · exact .inl ⟨i, xs, rfl, hi, g.get hi hc, hl, fun x hm => (hx x hm).gr g hb⟩
  · exact .inr (.inl ⟨xs, rfl, hl, hx.imp_left fun hx x hm => (hx x hm).gr g hb⟩)
  · exact .inr (.inr (.inl h))
  · exact .inr (.inr (.inr ⟨i, kvs, rfl, g.get (fun hk => by subst hk; obtain ⟨xs, hb⟩ := hb; rw [hb] at hc; cases hc) hc, r⟩))

theorem scn_mem {w h : Nat} {x : D} : ∀ {xs : List D} {pre : List (Nat × Nat)}, scn w h pre xs = .cr x ∨ scn w h pre xs = .tw x → x ∈ xs
  | [], pre, e => by rcases e with e | e <;> cases e
  | y :: xs, pre, e => by
    unfold scn at e
    cases q : crOf w h y with
    | none =>
      rw [q] at e
      rcases e with e | e
      · cases e; exact List.mem_cons_self
      · cases e
    | some p =>
      rw [q] at e
      simp only [] at e
      by_cases hp : p ∈ pre
      · rw [if_pos hp] at e
        rcases e with e | e
        · cases e
        · cases e; exact List.mem_cons_self
      · rw [if_neg hp] at e
        exact List.mem_cons_of_mem _ (scn_mem e)
theorem told_itm {kb n w h : Nat} {xs : List D} {c : Cs} {x : D} (hx : Its kb n xs c) (hl : xs.length ≤ 64) (e : scn w h [] xs = .cr x ∨ scn w h [] xs = .tw x) : Itm kb n x c := by
  rcases hx with hx | rfl
  · rcases hx x (scn_mem e) with h | ⟨h, _⟩
    · exact h
    · omega
  · have e2 : scn w h [] [.str "warp", .lst []] = .cr (.str "warp") := rfl
    rw [e2] at e
    rcases e with e | e
    · cases e; exact .inl ⟨by decide +kernel, rfl, rfl⟩
    · cases e
theorem seqOf_app {v : D} {c : Cs} (h : VT v c) (y : Cs) : seqOf v (c ++ y) = seqOf v c := by
  rcases h with ⟨xs, h⟩ | ⟨t, ht, hn⟩
  · rw [h.sq, (h.app y).sq]
  · rw [non_seq ht hn, non_seq (tyD_app ht y) hn]
theorem vk_app {v : D} {c : Cs} {w h : Nat} (hv : VT v c) (y : Cs) : vk w h v (c ++ y) = vk w h v c := by
  unfold vk
  rw [seqOf_app hv]
theorem told_vk {kb n w h : Nat} {v : D} {c : Cs} {x : D} (hv : Vl kb n v c) (e : vk w h v c = .cr x ∨ vk w h v c = .tw x) : Itm kb n x c := by
  unfold vk at e
  cases q : seqOf v c with
  | none => rw [q] at e; rcases e with e | e <;> cases e
  | some xs =>
    rw [q] at e
    simp only [] at e
    split at e
    · rename_i hl
      exact told_itm (hv.items q) hl e
    · rcases e with e | e <;> cases e

theorem told_repr {x : D} {c : Cs} {p : PyData} (word : Str) (hw : SB 20 word) (e : toPyC 29 c x = some p) (h1 : bP p = true) (h2 : wP p ≤ 8000000) (h3 : p.depth ≤ 20) : ∃ s, ∀ y, reprX [.lst [.str word, x]] (c ++ y) = .ok (.str s) (c ++ y) := by
  refine ⟨(PyData.list [.str word, p]).shown, fun y => repr_at ?_ ?_ ?_ ?_⟩
  · show (mapO (toPyC 29 (c ++ y)) [.str word, x]).map PyData.list = _
    simp only [mapO, toPyC_pre e]
    rfl
  · show (bP (.str word) && (bP p && true)) = true
    have : bP (.str word) = true := List.all_eq_true.mpr fun k hk => decide_eq_true (hw.2 k (by simpa using hk))
    rw [h1, this]; rfl
  · show ((10 * word.length + 2) + 2 + (wP p + 2 + 0)) + 2 ≤ 16777216
    have := hw.1
    omega
  · simp only [PyData.depth, PyData.depthAll]
    omega
/-- what is told can be shown -/
theorem tell_repr {kb n w h : Nat} {v : D} {c : Cs} {ys : List Str} {w0 : Nat} (hr : RwS ys w0) (hv : Vl kb n v c) (hn : n ≤ 14) {d : Vk} (hd : d = .lst ∨ (∃ x, (d = .cr x ∨ d = .tw x) ∧ Itm kb n x c) ∨ ∃ ps, d = .good ps) : ∃ s, ∀ y, reprX [d.tell v ys] (c ++ y) = .ok (.str s) (c ++ y) := by
  rcases hd with rfl | ⟨x, e, hx⟩ | ⟨ps, rfl⟩
  · obtain ⟨p, e, h1, h2, h3⟩ := hv.py hn (m := 29) (by decide)
    exact told_repr "list" ⟨by decide +kernel, by decide +kernel⟩ e h1 (by omega) (by omega)
  · obtain ⟨p, e2, h1, h2, h3⟩ := hx.py hn (m := 29) (by decide)
    rcases e with rfl | rfl
    · exact told_repr "crossing" ⟨by decide +kernel, by decide +kernel⟩ e2 h1 (by omega) (by omega)
    · exact told_repr "twice" ⟨by decide +kernel, by decide +kernel⟩ e2 h1 (by omega) (by omega)
  · have hr2 := hr.turn ps
    obtain ⟨g1, g2, g3⟩ := strs_py (tS ys ps) fun y hy => ⟨by rw [hr2.len y hy]; exact hr2.w8, hr2.bit y hy⟩
    have := hr2.n8
    refine told_repr "returned" ⟨by decide +kernel, by decide +kernel⟩ (py_strs 27 c (tS ys ps)) g1 ?_ ?_
    · show wPs _ + 2 ≤ _
      omega
    · simp only [PyData.depth]
      omega

theorem ne_rows {ys : List Str} {w : Nat} {c : Cs} (hr : RwS ys w) : neX (.lst (ys.map D.str)) (.lst (ys.map D.str)) c = .ok (.bl false) c := by
  show eqQ true (.lst (ys.map D.str)) (.lst (ys.map D.str)) c = _
  rw [eqQ_strs (py_strs 28 c ys) (py_strs 28 c ys) hr.bit hr.bit]
  simp
theorem isi_list {x : D} {c : Cs} {t : String} (h : tyD x c = some t) : isiD [x, .ty "list"] c = .ok (.bl (isT t "list")) c := by simp [isiD, h, tyNames]
theorem isT_list {t : String} (h : t ∈ tyNames) (q : isT t "list" = true) : t = "list" := by
  simp only [tyNames, List.mem_cons, List.not_mem_nil, or_false] at h
  rcases h with rfl | rfl | rfl | rfl | rfl | rfl | rfl <;> first | rfl | (revert q; decide)
theorem Itm.lty {kb n : Nat} {x : D} {c : Cs} (h : Itm kb n x c) : ∃ t, tyD x c = some t ∧ (t = "list" → ∃ j xs, x = .ref j ∧ j ≠ kb ∧ c[j]? = some (.lst xs) ∧ xs.length ≤ 1000 + n) := by
  rcases h with ⟨hc, ht, _⟩ | ⟨j, xs, rfl, hj, hc, hl, r⟩ | ⟨j, kvs, rfl, hc, r⟩ | ⟨j, xs, rfl, hj, hc, hl, r⟩
  · cases x with
    | lst => cases ht
    | ro => cases ht
    | ref => cases ht
    | obj => cases ht
    | adr => cases ht
    | ty => cases ht
    | _ => exact ⟨_, rfl, fun e => absurd e (by decide)⟩
  · exact ⟨"list", by simp [tyD, hc], fun _ => ⟨j, xs, rfl, hj, hc, by omega⟩⟩
  · exact ⟨"dict", by simp [tyD, hc], fun e => absurd e (by decide)⟩
  · exact ⟨"tuple", rfl, fun e => absurd e (by decide)⟩
theorem Vl.lty {kb n : Nat} {v : D} {c : Cs} (h : Vl kb n v c) : ∃ t, tyD v c = some t ∧ (t = "list" → ∃ j xs, v = .ref j ∧ j ≠ kb ∧ c[j]? = some (.lst xs) ∧ xs.length ≤ 1000 + n) := by
  rcases h with ⟨j, xs, rfl, hj, hc, hl, hi⟩ | ⟨xs, rfl, hl, hi⟩ | ⟨h, hs⟩ | ⟨j, kvs, rfl, hc, _⟩
  · exact ⟨"list", by simp [tyD, hc], fun _ => ⟨j, xs, rfl, hj, hc, by omega⟩⟩
  · exact ⟨"tuple", rfl, fun e => absurd e (by decide)⟩
  · cases v with
    | non => exact ⟨_, rfl, fun e => absurd e (by decide)⟩
    | bl _ => exact ⟨_, rfl, fun e => absurd e (by decide)⟩
    | int _ => exact ⟨_, rfl, fun e => absurd e (by decide)⟩
    | str _ => exact ⟨_, rfl, fun e => absurd e (by decide)⟩
    | _ => cases hs
  · exact ⟨"dict", by simp [tyD, hc], fun e => absurd e (by decide)⟩

/-- what became of the cells -/
def Gz (kb : Nat) (c c' : Cs) : Prop := ∃ y, c' = c ++ y ∨ ∃ j xs, j ≠ kb ∧ (c ++ y)[j]? = some (.lst xs) ∧ c' = (c ++ y).set j (.lst (xs ++ [.str "more"]))
theorem tell_item {d : Vk} {v : D} {ys : List Str} {c : Cs} : ∃ z x, itemD (d.tell v ys) (.int 0) c = .ok (.str z) c ∧ itemD (d.tell v ys) (.int 1) c = .ok x c ∧ ((z = "returned") ∨ (x = v ∧ d = .lst) ∨ d = .cr x ∨ d = .tw x) := by
  cases d with
  | lst => exact ⟨_, v, rfl, rfl, .inr (.inl ⟨rfl, rfl⟩)⟩
  | cr x => exact ⟨_, x, rfl, rfl, .inr (.inr (.inl rfl))⟩
  | tw x => exact ⟨_, x, rfl, rfl, .inr (.inr (.inr rfl))⟩
  | good ps => exact ⟨_, _, rfl, rfl, .inl rfl⟩
theorem right_x {kb n : Nat} {v : D} {c : Cs} {ys : List Str} {w : Nat} (hr : RwS ys w) (hv : Vl kb n v c) (hn : n ≤ 12) {Q : D → Cs → Prop} (q : ∀ c', Gz kb c c' → Q (.bl true) c') : Ok (g_law_right [clo ys, .lst (ys.map D.str), v] c) Q := by
  have hz : sizeLine = 16777216 := sizeLine_eq
  obtain ⟨p, e, h1, h2, h3⟩ := hv.py (show n ≤ 14 by omega) (m := 30) (by decide)
  have hs : ∀ y, reprX [v] (c ++ y) = .ok (.str p.shown) (c ++ y) := fun y => repr_at (toPyC_pre e) h1 (by omega) (by omega)
  have hs0 : reprX [v] c = .ok (.str p.shown) c := repr_at e h1 (by omega) (by omega)
  have hT := hv.vt (show n ≤ 14 by omega)
  refine Ok.fun rfl ?_
  unfold c_law_right
  refine os_seq (os_par (ok_acons (ok_cb (ok_acons (ok_var rfl (ok_anil (Ok.of hs0 (ok_acons (ok_cb (ok_acons (ok_var rfl (ok_acons (ok_var rfl (ok_anil (due_x hr hT (fun xs hx => (hv.items hx).itl (by omega)) hv.lt fun c1 P1 => ok_anil ⟨_, _, rfl, ?_⟩)))))))))))))))
  obtain ⟨y1, rfl⟩ := P1
  have hv1 := hv.app y1
  refine os_seq (os_set (ok_cb (ok_acons (ok_var rfl (ok_acons (ok_var rfl (ok_anil (caught_x hr (hT.imp (fun ⟨xs, h⟩ => ⟨xs, h.app y1⟩) fun ⟨t, h, hn⟩ => ⟨t, tyD_app h y1, hn⟩) (fun xs hx x hm => ((hv1.items hx).itl (by omega) x hm).ty) fun c2 P2 => ?_))))))))
  obtain ⟨y2, rfl⟩ := P2
  rw [vk_app hT]
  have hd : vk w ys.length v c = .lst ∨ (∃ x, (vk w ys.length v c = .cr x ∨ vk w ys.length v c = .tw x) ∧ Itm kb n x c) ∨ ∃ ps, vk w ys.length v c = .good ps := by
    cases hV : vk w ys.length v c with
    | lst => exact .inl rfl
    | cr x => exact .inr (.inl ⟨x, .inl rfl, told_vk hv (.inl hV)⟩)
    | tw x => exact .inr (.inl ⟨x, .inr rfl, told_vk hv (.inr hV)⟩)
    | good ps => exact .inr (.inr ⟨ps, rfl⟩)
  generalize vk w ys.length v c = d at hd
  rw [List.append_assoc]
  generalize y1 ++ y2 = y
  obtain ⟨s, hsx⟩ := tell_repr (w := 0) (h := 0) hr hv (by omega) hd
  obtain ⟨z, x, t0, t1, hx⟩ := tell_item (d := d) (v := v) (ys := ys) (c := c ++ y)
  refine os_seq (os_if (ok_tor (ok_t (ok_op (ok_cb (ok_acons (ok_var rfl (ok_anil (Ok.of (hsx _) (ok_cb (ok_acons (ok_var rfl (ok_anil (Ok.of (hsx _) ⟨_, _, rfl, _, rfl, fun h => ?_, fun _ => ?_⟩))))))))))))))
  · simp at h
  refine ok_tor (ok_t (ok_op (ok_cb (ok_acons (ok_var rfl (ok_anil (Ok.of (hs _) (ok_var rfl ⟨_, _, rfl, _, rfl, fun h => ?_, fun _ => ?_⟩))))))))
  · simp at h
  refine ok_t (ok_op (ok_clmeth (by decide +kernel) (ok_var rfl ⟨⟨ys, clo_is ys _⟩, ok_anil (Ok.of rows_of (ok_var rfl (Ok.of (ne_rows hr) ⟨_, rfl, fun h => Bool.noConfusion h, fun _ => os_nil ?_⟩)))⟩)))
  refine os_seq (os_if (ok_tand (ok_t (ok_op (ok_op (ok_var rfl (ok_c (Ok.of t0 (ok_c ⟨_, _, rfl, _, rfl, fun h => ?_, fun h => ?_⟩)))))))))
  rotate_left
  · exact ⟨fun h => Bool.noConfusion h, fun _ => os_nil (os_ret (ok_c (q _ ⟨_, .inl rfl⟩)))⟩
  have hz2 : ¬ z = "returned" := by simpa using h
  have hty : ∃ t, tyD x (c ++ y) = some t ∧ (t = "list" → ∃ j xs, x = .ref j ∧ j ≠ kb ∧ (c ++ y)[j]? = some (.lst xs) ∧ xs.length ≤ 1000 + n) := by
    rcases hx with h | ⟨rfl, _⟩ | hx
    · exact absurd h hz2
    · exact (hv.app y).lty
    · rcases hd with rfl | ⟨x', h', hi⟩ | ⟨ps, rfl⟩
      · rcases hx with h | h <;> cases h
      · have : x = x' := by
          rcases hx with rfl | rfl <;> rcases h' with h' | h' <;> cases h' <;> rfl
        subst this
        exact (hi.app y).lty
      · rcases hx with h | h <;> cases h
  obtain ⟨t, ht, htl⟩ := hty
  refine ok_t (ok_cb (ok_acons (ok_op (ok_var rfl (ok_c (Ok.of t1 (ok_acons (ok_c (ok_anil (Ok.of (isi_list ht) ⟨_, rfl, fun h => ?_, fun h => ?_⟩))))))))))
  rotate_left
  · exact os_nil (os_ret (ok_c (q _ ⟨_, .inl rfl⟩)))
  obtain ⟨j, xs, rfl, hj, hc, hl⟩ := htl (isT_list (tyD_mem ht) h)
  obtain ⟨s3, r3⟩ := tell_repr (w := 0) (h := 0) hr ((hv.app y).grow hc) (by omega) (hd.imp_right fun h => h.imp_left fun ⟨x, h, hi⟩ => ⟨x, h, (hi.app y).grow hc⟩)
  have r3 := r3 []
  rw [List.append_nil] at r3
  refine os_seq (os_expr (ok_bm (ok_op (ok_var rfl (ok_c (Ok.of t1 ⟨isL_ref hc, ok_acons (ok_c (ok_anil (ok_append hc (by omega) ?_)))⟩))))))
  refine os_ret (ok_op (ok_cb (ok_acons (ok_var rfl (ok_anil (Ok.of r3 (ok_cb (ok_acons (ok_var rfl (ok_anil (Ok.of r3 ⟨_, _, rfl, ?_⟩)))))))))))
  rw [decide_eq_true rfl]
  exact q _ ⟨y, .inr ⟨j, xs, hj, hc, rfl⟩⟩

def itB (x : D) : Bool := clB x && (topT x && tcB x)
theorem itm_of {kb n : Nat} {x : D} {c : Cs} (h : itB x = true) : Itm kb n x c := by
  simp only [itB, Bool.and_eq_true] at h
  exact .inl ⟨h.1, h.2.1, h.2.2⟩
theorem itm_lst {kb n j : Nat} {xs : List D} {c : Cs} (hc : c[j]? = some (.lst xs)) (hj : j ≠ kb) (hl : xs.length ≤ n) (h : xs.all clB = true) : Itm kb n (.ref j) c :=
  .inr (.inl ⟨j, xs, rfl, hj, hc, hl, fun y hy => .inl (List.all_eq_true.mp h y hy)⟩)
theorem vl_tup {kb n : Nat} {xs : List D} {c : Cs} (hl : xs.length ≤ 70) (h : xs.all itB = true) : Vl kb n (.tup xs) c :=
  .inr (.inl ⟨xs, rfl, by omega, .inl fun x hx => .inl (itm_of (List.all_eq_true.mp h x hx))⟩)
theorem vl_lst {kb n j : Nat} {xs : List D} {c : Cs} (hc : c[j]? = some (.lst xs)) (hj : j ≠ kb) (hl : xs.length ≤ 70) (h : ∀ x ∈ xs, Itm kb n x c) : Vl kb n (.ref j) c :=
  .inl ⟨j, xs, rfl, hj, hc, by omega, fun x hx => .inl (h x hx)⟩
theorem vl_lstB {kb n j : Nat} {xs : List D} {c : Cs} (hc : c[j]? = some (.lst xs)) (hj : j ≠ kb) (hl : xs.length ≤ 70) (h : xs.all itB = true) : Vl kb n (.ref j) c :=
  vl_lst hc hj hl fun x hx => itm_of (List.all_eq_true.mp h x hx)
theorem vl_sc {kb n : Nat} {x : D} {c : Cs} (h : clB x = true) (hs : scal x = true) : Vl kb n x c := .inr (.inr (.inl ⟨h, hs⟩))
theorem odd11 {c : Cs} {k : Nat} {n : Int} {Q : D → Cs → Prop} (h : Bx c k n) (hn : n ≤ 900000)
    (q : ∀ (d : D) (c' : Cs), Itm k 2 d c' → Vl k 2 d c' → Bx c' k (n + 1) → Gr k c c' → Q d c') : Ok (g_law_odd [.ref k] c) Q := by
  have hlt := bx_lt h
  refine Ok.fun rfl ?_
  unfold c_law_odd
  walk_at "ok"
  simp only [List.append_assoc, List.cons_append, List.nil_append, List.length_append, List.length_cons, List.length_nil, Nat.zero_add, Nat.reduceAdd]
  refine take_ok (bx_app h _) (by omega) (by decide) (by decide) fun i c' h0 h1 hb hl hf => ?_
  have hl : c'.length = c.length + 11 := by rw [hl]; simp
  have hf1 : ∀ j, j ≠ k → j < c.length → c'[j]? = c[j]? := fun j h1 h2 => by rw [hf j h1, List.getElem?_append_left h2]
  have hf2 : ∀ j, c'[c.length + j]? = _ := fun j => by rw [hf _ (by omega), List.getElem?_append_right (by omega), Nat.add_sub_cancel_left]
  have hk : ∀ j, c.length + j ≠ k := fun j => by omega
  refine ok_item_mem h0 h1 fun d hd => ?_
  have fin := fun (h1 : Itm k 2 d c') (h2 : Vl k 2 d c') => q d c' h1 h2 hb ⟨by omega, hf1⟩
  simp only [List.mem_append, List.mem_cons, List.not_mem_nil, or_false] at hd
  rcases hd with rfl | rfl | rfl | rfl | rfl | rfl | rfl | rfl | rfl | rfl | rfl | rfl | rfl | rfl | rfl | rfl | rfl | rfl | rfl | rfl | rfl | rfl | rfl | rfl | rfl | rfl | rfl | rfl | rfl | rfl | rfl | rfl | rfl | rfl | rfl | rfl | rfl | rfl | rfl | rfl | rfl | rfl | rfl | rfl | rfl | rfl | rfl | rfl <;> first
    | exact fin (itm_of (by decide +kernel)) (vl_sc (by decide +kernel) rfl)
    | exact fin (itm_of (by decide +kernel)) (vl_tup (Nat.le_of_ble_eq_true rfl) (by decide +kernel))
    | exact fin (itm_of (by decide +kernel)) (.inr (.inl ⟨_, rfl, Nat.le_of_ble_eq_true rfl, .inr rfl⟩))
    | exact fin (itm_lst (hf2 0) (hk 0) (Nat.le_of_ble_eq_true rfl) rfl) (vl_lstB (hf2 0) (hk 0) (Nat.le_of_ble_eq_true rfl) rfl)
    | exact fin (itm_lst (hf2 _) (hk _) (Nat.le_of_ble_eq_true rfl) (by decide +kernel)) (vl_lstB (hf2 _) (hk _) (Nat.le_of_ble_eq_true rfl) (by decide +kernel))
    | exact fin (.inr (.inr (.inl ⟨_, _, rfl, hf2 _, .inl rfl⟩))) (.inr (.inr (.inr ⟨_, _, rfl, hf2 _, .inl rfl⟩)))
    | exact fin (.inr (.inr (.inl ⟨_, _, rfl, hf2 _, .inr rfl⟩))) (.inr (.inr (.inr ⟨_, _, rfl, hf2 _, .inr rfl⟩)))
    | skip
  · have hi : Itm k 2 (.ref (c.length + 6)) c' := itm_lst (hf2 6) (hk 6) (Nat.le_of_ble_eq_true rfl) (by decide +kernel)
    exact fin (.inr (.inl ⟨_, _, rfl, hk 7, hf2 7, Nat.le_of_ble_eq_true rfl, fun y hy => by
      rw [List.mem_singleton.mp hy]
      exact .inr ⟨_, _, rfl, hk 6, hf2 6, Nat.le_of_ble_eq_true rfl, fun z hz => List.all_eq_true.mp (show List.all [D.str "warp", .int 0] clB = true by decide +kernel) z hz⟩⟩))
      (vl_lst (hf2 7) (hk 7) (Nat.le_of_ble_eq_true rfl) fun x hx => by rw [List.mem_singleton.mp hx]; exact hi)
  · have hi : Itm k 2 (.ref (c.length + 9)) c' := itm_lst (hf2 9) (hk 9) (Nat.le_of_ble_eq_true rfl) (by decide +kernel)
    exact fin (.inr (.inr (.inr ⟨_, _, rfl, hk 9, hf2 9, Nat.le_of_ble_eq_true rfl, fun z hz => List.all_eq_true.mp (show List.all [D.str "warp"] clB = true by decide +kernel) z hz⟩)))
      (.inr (.inl ⟨_, rfl, Nat.le_of_ble_eq_true rfl, .inl fun x hx => by
        simp only [List.mem_cons, List.not_mem_nil, or_false] at hx
        rcases hx with rfl | rfl
        · exact .inl hi
        · exact .inl (itm_of (by decide +kernel))⟩))

theorem len_refX {j : Nat} {c : Cs} {xs : List D} (h : c[j]? = some (.lst xs)) : lenD [.ref j] c = .ok (.int xs.length) c := len_seq (by simp [seqOf, h])
theorem e0_ref {neg : Bool} {j : Nat} {c : Cs} {xs : List D} (h : c[j]? = some (.lst xs)) : e0 neg (.ref j) (.lst []) c = .ok (.bl (sgn neg xs.isEmpty)) c := by
  have e : lstC (.ref j) c = some xs := by simp [lstC, h]
  show (match lstC (.ref j) c with
    | some xs => (.ok (.bl (sgn neg xs.isEmpty)) c : Mi.R D)
    | none => .stuck) = _
  rw [e]
theorem e0_lst {neg : Bool} {c : Cs} {xs : List D} : e0 neg (.lst xs) (.lst []) c = .ok (.bl (sgn neg xs.isEmpty)) c := rfl
theorem lcM_eq {it : MI} {js : List Nat} {g : MG} {t : MT} {e : ME} {l : Ls} {c : Cs} {ds : List D} {F : D → D} {lt : D → Ls} (hit : it l c = .ok ds c) (hl : ds.length ≤ sizeLine)
    (h : ∀ d ∈ ds, g d (wipeL l js) c = .ok (lt d) c ∧ t (lt d) c = .ok true c ∧ e (lt d) c = .ok (F d) c) : mLcM it js g t e l c = .ok (.ref c.length) (c ++ [.lst (ds.map F)]) := by
  unfold mLcM
  rw [hit]
  simp only [R.bind_ok]
  rw [comp_pure (P := fun _ => true) (F := F) (lt := lt) ds [] (by simpa using hl) (fun d hd => ⟨(h d hd).1, (h d hd).2.1, fun _ => (h d hd).2.2⟩)]
  simp only [R.bind_ok, filter_yes, List.nil_append]
theorem map_erase {α β : Type} (f : α → β) : ∀ (l : List α) (i : Nat), (l.map f).eraseIdx i = (l.eraseIdx i).map f
  | [], _ => rfl
  | _ :: _, 0 => rfl
  | x :: l, i + 1 => by
    show f x :: (l.map f).eraseIdx i = f x :: (l.eraseIdx i).map f
    rw [map_erase f l i]
theorem pop_at {j : Nat} {c : Cs} {ls : List (Nat × Nat)} {i : Int} (hj : c[j]? = some (.lst (ls.map crD))) (h0 : 0 ≤ i) (h1 : i < ls.length) (hl : ls.length ≤ 1000) :
    ∃ p ∈ ls, mutM popAtF (.ref j) [.int i] c = .ok (crD p) (c.set j (.lst ((ls.eraseIdx i.toNat).map crD))) := by
  have hlt : i.toNat < ls.length := by omega
  refine ⟨ls[i.toNat], List.getElem_mem hlt, ?_⟩
  have e1 : cellX (.ref j) c = some (j, ls.map crD) := by simp [cellX, hj]
  have e2 : seqIndex? i (ls.map crD).length = some i.toNat := by
    unfold seqIndex?
    rw [List.length_map]
    have hn : ¬ i < 0 := by omega
    simp [hn, h0, h1]
  have e3 : popAtF [.int i] (ls.map crD) = some (crD ls[i.toNat], (ls.eraseIdx i.toNat).map crD) := by
    show (if -(2 ^ 63) ≤ i ∧ i < 2 ^ 63 then _ else none) = _
    rw [if_pos ⟨by omega, by omega⟩, e2]
    simp only [List.getElem?_map, List.getElem?_eq_getElem hlt, Option.map_some]
    rw [map_erase]
  unfold mutM
  rw [e1]
  simp only [e3]
theorem ins_at {j : Nat} {c : Cs} {xs : List D} {i : Int} {y : D} (hj : c[j]? = some (.lst xs)) (h0 : 0 ≤ i) (h1 : i ≤ 1000) (hl : xs.length ≤ 1000) :
    mutM insF (.ref j) [.int i, y] c = .ok .non (c.set j (.lst (xs.take i.toNat ++ [y] ++ xs.drop i.toNat))) := by
  have hz : sizeLine = 16777216 := sizeLine_eq
  have e1 : cellX (.ref j) c = some (j, xs) := by simp [cellX, hj]
  have e3 : insF [.int i, y] xs = some (.non, xs.take i.toNat ++ [y] ++ xs.drop i.toNat) := if_pos ⟨by omega, h0, by omega⟩
  unfold mutM
  rw [e1]
  simp only [e3]
theorem crossings_ok {c : Cs} {k : Nat} {n : Int} {ys : List Str} {w : Nat} {Q : D → Cs → Prop} (hb : Bx c k n) (hn : n ≤ 800000) (hr : RwS ys w)
    (q : ∀ (ps : List (Nat × Nat)) (c' : Cs), ps.length ≤ 64 → (∀ p ∈ ps, p.1 < w ∧ p.2 < ys.length) → Bx c' k (n + 70) → Gr k c c' → Q (.lst (ps.map crD)) c') : Ok (g_law_crossings [.ref k, .lst (ys.map D.str)] c) Q := by
  have hz : sizeLine = 16777216 := sizeLine_eq
  have hlt := bx_lt hb
  have n8 := hr.n8
  have n1 := hr.n1
  have w8 := hr.w8
  have w1 := hr.w1
  have m64 : ys.length * w ≤ 64 := Nat.le_trans (Nat.mul_le_mul n8 w8) (by decide)
  obtain ⟨y0, yr, hys, hy0⟩ := hr.head
  have i0 : ∀ c, itemD (.lst (ys.map D.str)) (.int 0) c = .ok (.str y0) c := fun c => item_seq (i := 0) (v := .lst (ys.map D.str)) (c := c) rfl (by rw [hys]; rfl)
  have ln : ∀ c, lenD [.lst (ys.map D.str)] c = .ok (.int ys.length) c := fun c => by have := len_seq (v := .lst (ys.map D.str)) (c := c) rfl; rwa [List.length_map] at this
  have l0 : ∀ c, lenD [.str y0] c = .ok (.int w) c := fun c => (by
    have h : y0.length ≤ sizeLine := by omega
    rw [← hy0]; simp [lenD, lenC, h])
  refine Ok.fun rfl ?_
  unfold c_law_crossings
  refine os_seq (os_set (ok_op (ok_cb (ok_acons (ok_var rfl (ok_anil (Ok.of (ln _) (ok_cb (ok_acons (ok_op (ok_var rfl (ok_c (Ok.of (i0 _) (ok_anil (Ok.of (l0 _) (Ok.of (mul_len _ _ n8 w8 _) ?_))))))))))))))))
  have hm : ((ys.length : Int) * (w : Int)) = ((ys.length * w : Nat) : Int) := by simp
  rw [hm]
  generalize hM : ys.length * w = M at m64 ⊢
  refine os_seq (os_set (Ok.of (lcM_eq (ds := (List.range M).map fun i => D.int (i : Nat)) (F := fun d => match d with | .int i => crD (i.toNat % w, i.toNat / w) | _ => .non) (lt := fun d => (wipeL [some (.ref k), some (.lst (ys.map D.str)), some (.int (M : Nat)), none, none, none, none] [6]).set 6 (some d))
    (r1_eq (ok_acons (ok_var rfl (ok_anil ⟨rfl, rfl⟩))) (by omega)) (by simp; omega) (fun d hd => ?_)) ?_))
  · obtain ⟨i, hi, rfl⟩ := List.mem_map.mp hd
    have hi := List.mem_range.mp hi
    refine ⟨rfl, rfl, ok_eq ?_⟩
    refine ok_tup (ok_acons (ok_op (ok_var rfl (ok_cb (ok_acons (ok_op (ok_var rfl (ok_c (Ok.of (i0 _) (ok_anil (Ok.of (l0 _) ?_)))))))))))
    have hw0 : (w : Int) ≠ 0 := by omega
    have hdv : CDivN (i : Int) (w : Int) := ⟨hw0, by omega⟩
    refine ok_intC hw0 ?_
    refine ok_acons (ok_op (ok_var rfl (ok_cb (ok_acons (ok_op (ok_var rfl (ok_c (Ok.of (i0 _) (ok_anil (Ok.of (l0 _) ?_))))))))))
    refine ok_intC hdv (ok_anil ⟨Nat.le_of_ble_eq_true rfl, ?_, rfl⟩)
    simp only [crD, fmod_nat, fdiv_nat, Int.toNat_natCast]
  have hL : (((List.range M).map fun i => D.int (i : Nat)).map fun d => match d with | .int i => crD (i.toNat % w, i.toNat / w) | _ => .non) = ((List.range M).map fun i => (i % w, i / w)).map crD := by
    rw [List.map_map, List.map_map]
    rfl
  rw [hL]
  have rg : ∀ p ∈ (List.range M).map (fun i => (i % w, i / w)), p.1 < w ∧ p.2 < ys.length := fun p hp => by
    obtain ⟨i, hi, rfl⟩ := List.mem_map.mp hp
    have hi := List.mem_range.mp hi
    exact ⟨Nat.mod_lt _ (by omega), Nat.div_lt_of_lt_mul (by rw [Nat.mul_comm, hM]; exact hi)⟩
  have ll : ((List.range M).map (fun i => (i % w, i / w))).length ≤ 64 := by simp; omega
  generalize (List.range M).map (fun i => (i % w, i / w)) = L0 at rg ll ⊢
  refine os_seq (os_set (ok_lstM (ok_anil ⟨Nat.zero_le _, ?_⟩)))
  have hk1 : (c ++ [Cell.lst (L0.map crD)] ++ [Cell.lst []])[c.length]? = some (.lst (L0.map crD)) := by rw [List.getElem?_append_left (by simp), cell_last]
  have hk2 : (c ++ [Cell.lst (L0.map crD)] ++ [Cell.lst []])[c.length + 1]? = some (.lst []) := by
    have := cell_last (c := c ++ [Cell.lst (L0.map crD)]) (Cell.lst [])
    rwa [List.length_append] at this
  have hkl : (c ++ [Cell.lst (L0.map crD)]).length = c.length + 1 := by simp
  rw [hkl]
  have b2 := bx_app (bx_app hb [Cell.lst (L0.map crD)]) [Cell.lst []]
  have G2 : Gr k c (c ++ [Cell.lst (L0.map crD)] ++ [Cell.lst []]) := ((Gr.refl k c).app _).app _
  generalize c ++ [Cell.lst (L0.map crD)] ++ [Cell.lst []] = c2 at hk1 hk2 b2 G2 ⊢
  refine os_seq (os_for (ok_r1 (ok_acons (ok_op (ok_lst (ok_acons (ok_c (ok_acons (ok_c (ok_acons (ok_c (ok_acons (ok_var rfl (ok_acons (ok_cb (ok_acons (ok_var rfl (ok_acons (ok_op (ok_var rfl (ok_c (Ok.of (show addD (.int (M : Nat)) (.int 1) _ = .ok (.int ((M : Nat) + 1)) _ from rfl) (ok_anil (take_gr b2 (by omega) (by omega) (by omega) fun t c3 t0 t1 b3 G3 l3 => ok_anil ⟨Nat.le_of_ble_eq_true rfl, ?_⟩))))))))))))))))))))))))
  refine ok_cb (ok_acons (ok_var rfl (ok_acons (ok_c (ok_anil (take_gr b3 (by omega) (by decide) (by decide) fun u c4 u0 u1 b4 G4 l4 => ?_))))))
  have f3 := fun {j x} h => G3.get (k := j) (x := x) h
  have f4 := fun {j x} h => G4.get (k := j) (x := x) h
  have hk1 := f4 (by omega) (f3 (by omega) hk1)
  have hk2 := f4 (by omega) (f3 (by omega) hk2)
  have G4 := (G2.trans G3).trans G4
  refine ok_item_mem u0 u1 fun d hd => ok_anil ?_
  have hd : ∃ j : Int, d = .int j ∧ 0 ≤ j ∧ j ≤ 64 := by
    simp only [List.mem_cons, List.not_mem_nil, or_false] at hd
    rcases hd with rfl | rfl | rfl | rfl | rfl
    · exact ⟨_, rfl, by omega, by omega⟩
    · exact ⟨_, rfl, by omega, by omega⟩
    · exact ⟨_, rfl, by omega, by omega⟩
    · exact ⟨_, rfl, by omega, by omega⟩
    · exact ⟨_, rfl, by omega, by omega⟩
  obtain ⟨j, rfl, j0, j1⟩ := hd
  refine ⟨j, rfl, ⟨by omega, by omega⟩, ?_⟩
  refine OkS.for (fun ds l c' => (∃ o5, l = [some (.ref k), some (.lst (ys.map D.str)), some (.int (M : Nat)), some (.ref c.length), some (.ref (c.length + 1)), o5, none]) ∧ ∃ ls fs : List (Nat × Nat),
    c'[c.length]? = some (.lst (ls.map crD)) ∧ c'[c.length + 1]? = some (.lst (fs.map crD)) ∧ ls.length ≤ 64 ∧ fs.length + ds.length ≤ 64 ∧ Bx c' k (n + 2 + fs.length) ∧ (∀ p ∈ ls, p.1 < w ∧ p.2 < ys.length) ∧ (∀ p ∈ fs, p.1 < w ∧ p.2 < ys.length) ∧ Gr k c c') ?_ ?_ _ _ _
    ⟨⟨_, rfl⟩, L0, [], hk1, hk2, ll, by rw [rangeL_len, List.length_nil]; omega, bx_mono b4 (by simp; omega), rg, fun p hp => absurd hp List.not_mem_nil, G4⟩
  · rintro l c' ⟨⟨o5, rfl⟩, ls, fs, h1, h2, h3, h4, h5, h6, h7, h8⟩
    refine os_ret (ok_frz (ok_var rfl ⟨_, _, rfl, h2, ?_⟩))
    rw [List.length_nil] at h4
    exact q fs _ (by omega) h7 (bx_set (bx_mono h5 (by omega)) (by omega) _) (h8.set (by omega) _)
  · rintro d ds l c' ⟨⟨o5, rfl⟩, ls, fs, h1, h2, h3, h4, h5, h6, h7, h8⟩
    rw [List.length_cons] at h4
    refine ok_gn ?_
    refine os_if (ok_t (ok_op (ok_var rfl (ok_lst (ok_anil ⟨Nat.zero_le _, Ok.of (e0_ref h1) ⟨_, rfl, fun h => ?_, fun h => os_nil ?_⟩⟩)))))
    · have hne : 0 < ls.length := by
        cases ls with
        | nil => simp [sgn] at h
        | cons _ _ => simp
      refine os_expr (ok_bm (ok_var rfl ⟨isL_ref h2, ok_acons (ok_bm (ok_var rfl ⟨isL_ref h1, ok_acons (ok_cb (ok_acons (ok_var rfl (ok_acons (ok_cb (ok_acons (ok_var rfl (ok_anil (Ok.of (len_refX h1) (ok_anil ?_))))))))))⟩))⟩))
      rw [List.length_map]
      refine take_gr h5 (by omega) (by omega) (by omega) fun i c5 i0 i1 b5 G5 l5 => ok_anil ?_
      have g1 := G5.get (by omega) h1
      have g2 := G5.get (by omega) h2
      obtain ⟨p, hp, e⟩ := pop_at g1 i0 i1 (by omega)
      have g3 : (c5.set c.length (.lst ((ls.eraseIdx i.toNat).map crD)))[c.length + 1]? = some (.lst (fs.map crD)) := by rw [List.getElem?_set_ne (by omega)]; exact g2
      refine Ok.of e (ok_anil (ok_append g3 (by rw [List.length_map]; omega) ?_))
      refine ⟨⟨_, rfl⟩, ls.eraseIdx i.toNat, fs ++ [p], ?_, ?_, ?_, ?_, ?_, ?_, ?_, ?_⟩
      · rw [List.getElem?_set_ne (by omega), List.getElem?_set_self (List.getElem?_eq_some_iff.mp g1).1]
      · rw [List.getElem?_set_self (List.getElem?_eq_some_iff.mp g3).1]
        simp
      · exact Nat.le_trans (List.length_eraseIdx_le ls i.toNat) h3
      · simp; omega
      · refine bx_set (bx_set (bx_mono b5 ?_) (by omega) _) (by omega) _
        simp; omega
      · exact fun p hp => h6 p (List.mem_of_mem_eraseIdx hp)
      · intro x hx
        rcases List.mem_append.mp hx with hx | hx
        · exact h7 x hx
        · rw [List.mem_singleton.mp hx]; exact h6 p hp
      · exact (((h8.trans G5).set (by omega) _).set (by omega) _)
    · exact ⟨⟨_, rfl⟩, ls, fs, h1, h2, h3, by omega, h5, h6, h7, h8⟩

theorem itm_cr {kb n : Nat} {c : Cs} {p : Nat × Nat} (h1 : p.1 ≤ 8) (h2 : p.2 ≤ 8) : Itm kb n (crD p) c := by
  have h : ((List.range 9).all fun a => (List.range 9).all fun b => itB (crD (a, b))) = true := by decide +kernel
  exact itm_of (List.all_eq_true.mp (List.all_eq_true.mp h p.1 (List.mem_range.mpr (by omega))) p.2 (List.mem_range.mpr (by omega)))
theorem bx_cell {c : Cs} {k : Nat} {n : Int} (h : Bx c k n) : ∃ xs, c[k]? = some (.lst xs) := by
  obtain ⟨a, b, z, h, _⟩ := h
  exact ⟨_, h⟩
theorem mul4 (x : D) (c : Cs) : mulX false (.lst [x]) (.int 4) c = .ok (.lst [x, x, x, x]) c := rfl
theorem spoilt_ok {c : Cs} {k : Nat} {n : Int} {ys : List Str} {w : Nat} {ps : List (Nat × Nat)} {Q : D → Cs → Prop} (hb : Bx c k n) (hn : n ≤ 800000) (hr : RwS ys w) (hp : ps.length ≤ 64) (hp2 : ∀ p ∈ ps, p.1 < w ∧ p.2 < ys.length)
    (q : ∀ (j : Nat) (c' : Cs), Vl k 2 (.ref j) c' → (∃ xs, c'[j]? = some (.lst xs)) → Bx c' k (n + 10) → Gr k c c' → Q (.ref j) c') : Ok (g_law_spoilt [.ref k, .lst (ys.map D.str), .lst (ps.map crD)] c) Q := by
  have hz : sizeLine = 16777216 := sizeLine_eq
  have hlt := bx_lt hb
  have n8 := hr.n8
  have n1 := hr.n1
  have w8 := hr.w8
  have w1 := hr.w1
  obtain ⟨y0, yr, hys, hy0⟩ := hr.head
  have i0 : ∀ c, itemD (.lst (ys.map D.str)) (.int 0) c = .ok (.str y0) c := fun c => item_seq (i := 0) (v := .lst (ys.map D.str)) (c := c) rfl (by rw [hys]; rfl)
  have ln : ∀ c, lenD [.lst (ys.map D.str)] c = .ok (.int ys.length) c := fun c => by have := len_seq (v := .lst (ys.map D.str)) (c := c) rfl; rwa [List.length_map] at this
  have lp : ∀ c, lenD [.lst (ps.map crD)] c = .ok (.int ps.length) c := fun c => by have := len_seq (v := .lst (ps.map crD)) (c := c) rfl; rwa [List.length_map] at this
  have l0 : ∀ c, lenD [.str y0] c = .ok (.int w) c := fun c => (by
    have h : y0.length ≤ sizeLine := by omega
    rw [← hy0]; simp [lenD, lenC, h])
  refine Ok.fun rfl ?_
  unfold c_law_spoilt
  refine os_seq (os_set (ok_lst (ok_acons (ok_cb (ok_acons (ok_var rfl (ok_anil (odd11 hb (by omega) fun d c1 hi hv b1 G1 => ?_))))))))
  refine ok_acons (ok_tup (ok_acons (ok_cb (ok_acons (ok_op (ok_var rfl (ok_c (Ok.of (i0 _) (ok_anil (Ok.of (l0 _) (ok_acons (ok_c (ok_anil ⟨Nat.le_of_ble_eq_true rfl, ?_⟩)))))))))))))
  refine ok_acons (ok_tup (ok_acons (ok_c (ok_acons (ok_cb (ok_acons (ok_var rfl (ok_anil (Ok.of (ln _) (ok_anil ⟨Nat.le_of_ble_eq_true rfl, ?_⟩))))))))))
  refine ok_acons (ok_tup (ok_acons (ok_c (ok_acons (ok_c (ok_anil ⟨Nat.le_of_ble_eq_true rfl, ?_⟩))))))
  refine ok_acons (ok_tup (ok_acons (ok_c (ok_acons (ok_c (ok_anil ⟨Nat.le_of_ble_eq_true rfl, ?_⟩))))))
  refine ok_acons (ok_lstM (ok_acons (ok_c (ok_acons (ok_c (ok_anil ⟨Nat.le_of_ble_eq_true rfl, ?_⟩))))))
  refine ok_acons (ok_tup (ok_acons (ok_c (ok_acons (ok_c (ok_anil ⟨Nat.le_of_ble_eq_true rfl, ?_⟩))))))
  refine ok_acons (ok_tup (ok_acons (ok_c (ok_acons (ok_c (ok_anil ⟨Nat.le_of_ble_eq_true rfl, ok_anil ⟨Nat.le_of_ble_eq_true rfl, ?_⟩⟩))))))
  have hbc := (bx_cell b1)
  have hl1 := bx_lt b1
  have G2 : Gr k c1 (c1 ++ [Cell.lst [.int 0, .int 0]]) := (Gr.refl k c1).app _
  have b2 := bx_app b1 [Cell.lst [.int 0, .int 0]]
  have hS : ∀ x ∈ [d, .tup [.int (w : Nat), .int 0], .tup [.int 0, .int (ys.length : Nat)], .tup [.bl true, .int 0], .tup [.int 0, .bl true], .ref c1.length, .tup [.str "warp", .int 0], .tup [.int 0, .int 0]], Itm k 2 x (c1 ++ [Cell.lst [.int 0, .int 0]]) := fun x hx => by
    simp only [List.mem_cons, List.not_mem_nil, or_false] at hx
    rcases hx with rfl | rfl | rfl | rfl | rfl | rfl | rfl | rfl
    · exact hi.gr G2 hbc
    · exact itm_cr (p := (w, 0)) w8 (Nat.zero_le _)
    · exact itm_cr (p := (0, ys.length)) (Nat.zero_le _) n8
    · exact itm_of (by decide +kernel)
    · exact itm_of (by decide +kernel)
    · exact itm_lst (cell_last _) (by omega) (Nat.le_of_ble_eq_true rfl) (by decide +kernel)
    · exact itm_of (by decide +kernel)
    · exact itm_of (by decide +kernel)
  have G2 := G1.trans G2
  have hSl : [d, .tup [.int (w : Nat), .int 0], .tup [.int 0, .int (ys.length : Nat)], .tup [.bl true, .int 0], .tup [.int 0, .bl true], .ref c1.length, .tup [.str "warp", .int 0], .tup [.int 0, .int 0]].length ≤ 8 := Nat.le_of_ble_eq_true rfl
  have hS1 : 1 ≤ [d, .tup [.int (w : Nat), .int 0], .tup [.int 0, .int (ys.length : Nat)], .tup [.bl true, .int 0], .tup [.int 0, .bl true], .ref c1.length, .tup [.str "warp", .int 0], .tup [.int 0, .int 0]].length := Nat.le_of_ble_eq_true rfl
  generalize c1 ++ [Cell.lst [.int 0, .int 0]] = c2 at b2 hS G2 ⊢
  generalize [d, .tup [.int (w : Nat), .int 0], .tup [.int 0, .int (ys.length : Nat)], .tup [.bl true, .int 0], .tup [.int 0, .bl true], .ref c1.length, .tup [.str "warp", .int 0], .tup [.int 0, .int 0]] = S at hS hSl hS1 ⊢
  have rest : ∀ (S : List D) (c3 : Cs), 1 ≤ S.length → S.length ≤ 12 → (∀ x ∈ S, Itm k 2 x c3) → Bx c3 k (n + 3) → Gr k c c3 →
      OkS (sSeq (sSet 4 (mCB listM (aCons (mVar 2) (aNil)))) (sSeq (sFor (iR1 (aCons (mOp addD (mC (.int 1)) (mCB g_law_take (aCons (mVar 0) (aCons (mC (.int 2)) (aNil))))) (aNil))) (gN 5) (sExpr (mBM (mutM insF) (mVar 4) (aCons (mCB g_law_take (aCons (mVar 0) (aCons (mOp addD (mCB lenD (aCons (mVar 4) (aNil))) (mC (.int 1))) (aNil)))) (aCons (mOp itemD (mVar 3) (mCB g_law_take (aCons (mVar 0) (aCons (mCB lenD (aCons (mVar 3) (aNil))) (aNil))))) (aNil)))))) (sRet (mVar 4))) [some (.ref k), some (.lst (ys.map D.str)), some (.lst (ps.map crD)), some (.lst S), none, none] c3) (fun f c' => match f with
        | .rt d => Q d c'
        | .nx _ => Q .non c'
        | _ => False) := fun S c3 hS1 hSl hS b3 G3 => by
    have hbc := (bx_cell b3)
    have hl3 := bx_lt b3
    have hlc := G3.1
    refine os_seq (os_set (ok_cb (ok_acons (ok_var rfl (ok_anil ⟨_, _, rfl, ?_⟩)))))
    have lS : ∀ c, lenD [.lst S] c = .ok (.int S.length) c := fun c => len_seq rfl
    have hk4 : (c3 ++ [Cell.lst (ps.map crD)])[c3.length]? = some (.lst (ps.map crD)) := cell_last _
    have b4 := bx_app b3 [Cell.lst (ps.map crD)]
    have G4 : Gr k c3 (c3 ++ [Cell.lst (ps.map crD)]) := (Gr.refl k c3).app _
    generalize c3 ++ [Cell.lst (ps.map crD)] = c4 at hk4 b4 G4 ⊢
    refine os_seq (os_for (ok_r1 (ok_acons (ok_op (ok_c (ok_cb (ok_acons (ok_var rfl (ok_acons (ok_c (ok_anil (take_gr b4 (by omega) (by decide) (by decide) fun t c5 t0 t1 b5 G5 l5 => Ok.of (show addD (.int 1) (.int t) _ = .ok (.int (1 + t)) _ from rfl) (ok_anil ⟨_, rfl, ⟨by omega, by omega⟩, ?_⟩)))))))))))))
    refine OkS.for (fun ds l c' => (∃ o5, l = [some (.ref k), some (.lst (ys.map D.str)), some (.lst (ps.map crD)), some (.lst S), some (.ref c3.length), o5]) ∧ ∃ xs, c'[c3.length]? = some (.lst xs) ∧ xs.length + ds.length ≤ 66 ∧ ds.length ≤ 2 ∧ (∀ x ∈ xs, Itm k 2 x c3) ∧ Bx c' k (n + 8 - 2 * ds.length) ∧ Gr k c3 c') ?_ ?_ _ _ _
      ⟨⟨_, rfl⟩, ps.map crD, G5.get (by omega) hk4, by rw [rangeL_len, List.length_map]; omega, by rw [rangeL_len]; omega, fun x hx => ?_, bx_mono b5 (by rw [rangeL_len]; omega), G4.trans G5⟩
    · rintro l c' ⟨⟨o5, rfl⟩, xs, h1, h2, h3, h4, h5, h6⟩
      rw [List.length_nil] at h2
      refine os_ret (ok_var rfl (q _ _ (vl_lst h1 (by omega) (by omega) fun x hx => (h4 x hx).gr h6 hbc) ⟨_, h1⟩ (bx_mono h5 (by simp)) (G3.trans h6)))
    · rintro d ds l c' ⟨⟨o5, rfl⟩, xs, h1, h2, h3, h4, h5, h6⟩
      rw [List.length_cons] at h2 h3 h5
      refine ok_gn ?_
      refine os_expr (ok_bm (ok_var rfl ⟨isL_ref h1, ok_acons (ok_cb (ok_acons (ok_var rfl (ok_acons (ok_op (ok_cb (ok_acons (ok_var rfl (ok_anil (Ok.of (len_refX h1) (ok_c (Ok.of (show addD (.int (xs.length : Nat)) (.int 1) _ = .ok (.int ((xs.length : Nat) + 1)) _ from rfl) (ok_anil ?_)))))))))))))⟩))
      refine take_gr h5 (by omega) (by omega) (by omega) fun i c6 i0 i1 b6 G6 l6 => ?_
      refine ok_acons (ok_op (ok_var rfl (ok_cb (ok_acons (ok_var rfl (ok_acons (ok_cb (ok_acons (ok_var rfl (ok_anil (Ok.of (lS _) (ok_anil (take_gr b6 (by omega) (by omega) (by omega) fun u c7 u0 u1 b7 G7 l7 => ?_)))))))))))))
      refine ok_item_mem u0 u1 fun y hy => ok_anil ?_
      have h1 := G7.get (by omega) (G6.get (by omega) h1)
      refine Ok.of (ins_at h1 i0 (by omega) (by omega)) ?_
      refine ⟨⟨_, rfl⟩, _, List.getElem?_set_self (List.getElem?_eq_some_iff.mp h1).1, ?_, by omega, fun x hx => ?_, bx_set (bx_mono b7 (by omega)) (by omega) _, ((h6.trans G6).trans G7).set (Nat.le_refl _) _⟩
      · simp only [List.length_append, List.length_take, List.length_drop, List.length_cons, List.length_nil]
        omega
      · simp only [List.mem_append, List.mem_singleton] at hx
        rcases hx with (hx | rfl) | hx
        · exact h4 x (List.mem_of_mem_take hx)
        · exact hS x hy
        · exact h4 x (List.mem_of_mem_drop hx)
    · obtain ⟨p, hp, rfl⟩ := List.mem_map.mp hx
      have := hp2 p hp
      exact itm_cr (by omega) (by omega)
  refine os_seq (os_if (ok_t (ok_op (ok_var rfl (ok_lst (ok_anil ⟨Nat.zero_le _, Ok.of e0_lst ⟨_, rfl, fun h => ?_, fun h => os_nil ?_⟩⟩))))))
  · have hne : 0 < ps.length := by
      cases ps with
      | nil => simp [sgn] at h
      | cons _ _ => simp
    refine os_set (ok_op (ok_var rfl (ok_op (ok_lst (ok_acons (ok_op (ok_var rfl (ok_cb (ok_acons (ok_var rfl (ok_acons (ok_cb (ok_acons (ok_var rfl (ok_anil (Ok.of (lp _) (ok_anil (take_gr b2 (by omega) (by omega) (by omega) fun u c3 u0 u1 b3 G3 l3 => ?_))))))))))))))))))
    refine ok_item_mem u0 (by rw [List.length_map]; exact u1) fun y hy => ok_anil ⟨Nat.le_of_ble_eq_true rfl, ok_c (Ok.of (mul4 _ _) (ok_add_lst (by simp only [List.length_cons, List.length_nil]; omega) ?_))⟩
    refine rest _ c3 (by simp) (by simp only [List.length_append, List.length_cons, List.length_nil]; omega) (fun x hx => ?_) (bx_mono b3 (by omega)) (G2.trans G3)
    rcases List.mem_append.mp hx with hx | hx
    · exact (hS x hx).gr G3 (bx_cell b2)
    · obtain ⟨p, hp, rfl⟩ := List.mem_map.mp hy
      have := hp2 p hp
      have e : x = crD p := by simpa using hx
      rw [e]
      exact itm_cr (by omega) (by omega)
  · exact rest S c2 hS1 (by omega) hS (bx_mono b2 (by omega)) G2

theorem Gz.bx {kb : Nat} {n : Int} {c c' : Cs} (h : Bx c kb n) (g : Gz kb c c') : Bx c' kb n := by
  obtain ⟨y, rfl | ⟨j, xs, hj, e, rfl⟩⟩ := g
  · exact bx_app h y
  · exact bx_set (bx_app h y) hj _
theorem Gz.vl {kb n : Nat} {v : D} {c c' : Cs} (h : Vl kb n v c) (g : Gz kb c c') : Vl kb (n + 1) v c' := by
  obtain ⟨y, rfl | ⟨j, xs, hj, e, rfl⟩⟩ := g
  · have h := h.app y
    rcases h with ⟨i, xs, rfl, hi, hc, hl, hx⟩ | ⟨xs, rfl, hl, hx⟩ | h | h
    · exact .inl ⟨i, xs, rfl, hi, hc, by omega, fun x hm => (hx x hm).mono (Nat.le_succ n) (Nat.le_refl _)⟩
    · exact .inr (.inl ⟨xs, rfl, hl, hx.imp_left fun hx x hm => (hx x hm).mono (Nat.le_succ n) (Nat.le_refl _)⟩)
    · exact .inr (.inr (.inl h))
    · exact .inr (.inr (.inr h))
  · exact (h.app y).grow e
theorem Gz.cell {kb j : Nat} {c c' : Cs} (h : ∃ xs, c[j]? = some (Cell.lst xs)) (g : Gz kb c c') : ∃ xs, c'[j]? = some (Cell.lst xs) := by
  obtain ⟨zs, h⟩ := h
  obtain ⟨y, rfl | ⟨i, xs, hj, e, rfl⟩⟩ := g
  · exact ⟨zs, by rw [List.getElem?_append_left (List.getElem?_eq_some_iff.mp h).1]; exact h⟩
  · by_cases e2 : i = j
    · subst e2
      exact ⟨_, List.getElem?_set_self (List.getElem?_eq_some_iff.mp e).1⟩
    · exact ⟨zs, by rw [List.getElem?_set_ne e2, List.getElem?_append_left (List.getElem?_eq_some_iff.mp h).1]; exact h⟩
theorem Vl.tupl {kb n j : Nat} {xs : List D} {c : Cs} (h : Vl kb n (.ref j) c) (hc : c[j]? = some (.lst xs)) (hn : n ≤ 14) : Vl kb n (.tup xs) c := by
  rcases h with ⟨i, zs, e, hi, hc2, hl, hx⟩ | ⟨zs, e, _⟩ | ⟨_, e⟩ | ⟨i, kvs, e, hc2, _⟩
  · cases e
    rw [hc] at hc2
    cases hc2
    exact .inr (.inl ⟨xs, rfl, by omega, .inl hx⟩)
  · cases e
  · cases e
  · cases e
    rw [hc] at hc2
    cases hc2
theorem tupleD_refX {j : Nat} {c : Cs} {xs : List D} (h : c[j]? = some (.lst xs)) : tupleD [.ref j] c = .ok (.tup xs) c := by
  simp [tupleD, on1, tupleP, lstOf, h]
theorem mulC (x : D) (k : Int) (c : Cs) (h0 : 0 ≤ k) (h1 : k ≤ 1000) : mulX true (.lst [x]) (.int k) c = .ok (.ref c.length) (c ++ [.lst (List.replicate k.toNat x)]) := by
  have e : repL [x] k = List.replicate k.toNat x := by
    show (List.replicate k.toNat [x]).flatten = _
    induction k.toNat with
    | zero => rfl
    | succ m ih => rw [List.replicate_succ, List.replicate_succ, List.flatten_cons, ih]; rfl
  show (if mulLim [x].length k then (if true = true then (.ok (.ref c.length) (c ++ [Cell.lst (repL [x] k)]) : Mi.R D) else .ok (.lst (repL [x] k)) c) else .stuck) = _
  rw [e]
  have : mulLim [x].length k := ⟨by show 1 * k.toNat ≤ 100000; omega, by omega, by omega⟩
  exact if_pos this
theorem turn_ok {s i : D} {c : Cs} {kb : Nat} {n : Int} {ys : List Str} {w : Nat} {o5 o6 o7 o8 o9 : Option D} {QS : Fl → Cs → Prop} (hb : Bx c kb n) (hn : n ≤ 100000) (hr : RwS ys w)
    (q : ∀ o7 o8 o9 c', Bx c' kb (n + 100) → QS (.nx [some s, some i, some (.ref kb), some (.lst (ys.map D.str)), some (clo ys), o5, o6, o7, o8, o9]) c') :
    OkS (sSeq (sSet 7 (mCB g_law_crossings (aCons (mVar 2) (aCons (mVar 3) (aNil))))) (sSeq (sSet 8 (mOp itemD (mLst (aCons (mCB listM (aCons (mVar 7) (aNil))) (aCons (mCB tupleD (aCons (mVar 7) (aNil))) (aNil)))) (mCB g_law_take (aCons (mVar 2) (aCons (mC (.int 2)) (aNil)))))) (sSeq (sSet 9 (mCB g_law_spoilt (aCons (mVar 2) (aCons (mVar 3) (aCons (mVar 7) (aNil)))))) (sSeq (sIf (tOrM (tNotM (mT (mCB g_law_right (aCons (mVar 4) (aCons (mVar 3) (aCons (mVar 8) (aNil))))))) (tNotM (mT (mCB g_law_right (aCons (mVar 4) (aCons (mVar 3) (aCons (mVar 9) (aNil)))))))) (sRet (mC (.bl false))) (sNil)) (sIf (tOrM (tNotM (mT (mCB g_law_right (aCons (mVar 4) (aCons (mVar 3) (aCons (mCB tupleD (aCons (mVar 9) (aNil))) (aNil))))))) (tNotM (mT (mCB g_law_right (aCons (mVar 4) (aCons (mVar 3) (aCons (mCB g_law_odd (aCons (mVar 2) (aNil))) (aNil)))))))) (sRet (mC (.bl false))) (sNil))))) [some s, some i, some (.ref kb), some (.lst (ys.map D.str)), some (clo ys), o5, o6, o7, o8, o9] c) QS := by
  have hlt := bx_lt hb
  have n8 := hr.n8
  have w8 := hr.w8
  refine os_seq (os_set (ok_cb (ok_acons (ok_var rfl (ok_acons (ok_var rfl (ok_anil (crossings_ok hb (by omega) hr fun ps c1 p1 p2 b1 G1 => ?_))))))))
  have hl1 := bx_lt b1
  have hit : ∀ c x, x ∈ ps.map crD → Itm kb 2 x c := fun c x hx => by
    obtain ⟨p, hp, rfl⟩ := List.mem_map.mp hx
    have := p2 p hp
    exact itm_cr (by omega) (by omega)
  refine os_seq (os_set (ok_op (ok_lst (ok_acons (ok_cb (ok_acons (ok_var rfl (ok_anil ⟨_, _, rfl, ok_acons (ok_cb (ok_acons (ok_var rfl (ok_anil ⟨_, _, rfl, ok_anil ⟨Nat.le_of_ble_eq_true rfl, ?_⟩⟩))))⟩))))))))
  refine ok_cb (ok_acons (ok_var rfl (ok_acons (ok_c (ok_anil (take_gr (bx_app b1 _) (by omega) (by decide) (by decide) fun u c3 u0 u1 b3 G3 l3 => ?_))))))
  refine ok_item_mem u0 u1 fun d hd => ?_
  have v1 : Vl kb 2 d c3 := by
    simp only [List.mem_cons, List.not_mem_nil, or_false] at hd
    rcases hd with rfl | rfl
    · exact vl_lst (G3.get (by omega) (cell_last _)) (by omega) (by rw [List.length_map]; omega) (hit _)
    · exact .inr (.inl ⟨_, rfl, by rw [List.length_map]; omega, .inl fun x hx => .inl (hit _ x hx)⟩)
  refine os_seq (os_set (ok_cb (ok_acons (ok_var rfl (ok_acons (ok_var rfl (ok_acons (ok_var rfl (ok_anil (spoilt_ok b3 (by omega) hr p1 p2 fun j c4 v2 hc b4 G4 => ?_))))))))))
  have v1 := v1.gr G4 (bx_cell b3)
  refine os_seq (os_if (ok_tor (ok_tnot (ok_t (ok_cb (ok_acons (ok_var rfl (ok_acons (ok_var rfl (ok_acons (ok_var rfl (ok_anil (right_x hr v1 (by omega) fun c5 g5 => ⟨_, rfl, fun h => Bool.noConfusion h, fun _ => ?_⟩)))))))))))))
  refine ok_tnot (ok_t (ok_cb (ok_acons (ok_var rfl (ok_acons (ok_var rfl (ok_acons (ok_var rfl (ok_anil (right_x hr (g5.vl v2) (by omega) fun c6 g6 => ⟨_, rfl, fun h => Bool.noConfusion h, fun _ => os_nil ?_⟩))))))))))
  obtain ⟨xs, hx⟩ := g6.cell (g5.cell hc)
  refine os_if (ok_tor (ok_tnot (ok_t (ok_cb (ok_acons (ok_var rfl (ok_acons (ok_var rfl (ok_acons (ok_cb (ok_acons (ok_var rfl (ok_anil (Ok.of (tupleD_refX hx) (ok_anil (right_x hr ((g6.vl (g5.vl v2)).tupl hx (by omega)) (by omega) fun c7 g7 => ⟨_, rfl, fun h => Bool.noConfusion h, fun _ => ?_⟩))))))))))))))))
  refine ok_tnot (ok_t (ok_cb (ok_acons (ok_var rfl (ok_acons (ok_var rfl (ok_acons (ok_cb (ok_acons (ok_var rfl (ok_anil (odd11 (g7.bx (g6.bx (g5.bx b4))) (by omega) fun d c8 _ v8 b8 G8 => ok_anil (right_x hr v8 (by omega) fun c9 g9 => ⟨_, rfl, fun h => Bool.noConfusion h, fun _ => os_nil ?_⟩)))))))))))))
  exact q _ _ _ _ (bx_mono (g9.bx b8) (by omega))
theorem law_true (ns : List Int) (hl : ns.length ≤ 63) : ∃ c, glaw [.ro (ns.map D.int)] [] = .ok (.bl true) c := by
  have hz : sizeLine = 16777216 := sizeLine_eq
  have r : Ok (glaw [.ro (ns.map D.int)] []) fun d _ => d = .bl true := by
    refine Ok.fun rfl ?_
    unfold claw
    walk_at "ok"
    refine ⟨⟨by simp only [List.length_map]; split <;> split <;> omega, by simp only [List.length_map]; split <;> split <;> omega⟩, ?_⟩
    refine OkS.for (fun ds l c => (∃ o1 o2 o3 o4 o5 o6 o7 o8 o9, l = [some (.ro (ns.map D.int)), o1, o2, o3, o4, o5, o6, o7, o8, o9]) ∧ ∀ d ∈ ds, ∃ i : Nat, i ≤ 1000 ∧ d = .int i) ?_ ?_ _ _ _ ?_
    · rintro l c ⟨⟨o1, o2, o3, o4, o5, o6, o7, o8, o9, rfl⟩, _⟩
      walk_at "okm"
      rfl
    · rintro d ds l c ⟨⟨o1, o2, o3, o4, o5, o6, o7, o8, o9, rfl⟩, hd⟩
      obtain ⟨i, hi, rfl⟩ := hd d List.mem_cons_self
      refine ok_gn ?_
      walk_at "okm"
      refine cell_ok hl hi fun v => ?_
      walk_at "okm"
      refine box_ok fun c1 b1 l1 f1 => ?_
      generalize c.length = kb at b1 l1 f1 ⊢
      refine os_seq (os_set (ok_cb (ok_acons (ok_var rfl (ok_anil (rows_ok b1 (by decide) fun rs c2 hrs b2 l2 f2 => ?_))))))
      obtain ⟨ys, w, rfl, hr⟩ := hrs.rws
      refine os_seq (os_set (ok_clmake (ok_acons (ok_var rfl (ok_anil ⟨_, ys, w, rfl, hr.seqL _, hr, ?_⟩)))))
      have b3 := bx_app b2 [.frz (clo ys)]
      generalize c2 ++ [Cell.frz (clo ys)] = c3 at b3 ⊢
      refine os_seq (os_forR 6 (fun rest l c' => (∃ o5 o6 o7 o8 o9, l = [some (.ro (ns.map D.int)), some (.int i), some (.ref kb), some (.lst (ys.map D.str)), some (clo ys), o5, o6, o7, o8, o9]) ∧ Bx c' kb (700 - 100 * rest.length) ∧ rest.length ≤ 6) (by decide) (ok_acons (ok_c (ok_anil ⟨rfl, rfl⟩))) ⟨⟨_, _, _, _, _, rfl⟩, bx_mono b3 (by rw [List.length_range]; decide), by rw [List.length_range]; decide⟩ ?_ ?_)
      · rintro l c' ⟨⟨o5, o6, o7, o8, o9, rfl⟩, b, _⟩
        refine os_seq (os_set (ok_op (ok_lst (ok_acons (ok_tup (ok_acons (ok_c (ok_acons (ok_c (ok_anil ⟨Nat.le_of_ble_eq_true rfl, ok_anil ⟨Nat.le_of_ble_eq_true rfl, ok_op (ok_c (ok_cb (ok_acons (ok_var rfl (ok_acons (ok_c (ok_anil (take_gr b (by simp) (by decide) (by decide) fun t c4 t0 t1 b4 G4 l4 => ?_))))))))⟩⟩))))))))))
        refine Ok.of (show addD (.int 64) (.int t) _ = .ok (.int (64 + t)) _ from rfl) (Ok.of (mulC _ _ _ (by omega) (by omega)) ?_)
        have hl4 := bx_lt b4
        have b5 := bx_app b4 [Cell.lst (List.replicate (64 + t).toNat (.tup [.int 0, .int 0]))]
        have v5 : Vl kb 2 (.ref c4.length) (c4 ++ [Cell.lst (List.replicate (64 + t).toNat (.tup [.int 0, .int 0]))]) := vl_lst (cell_last _) (by omega) (by rw [List.length_replicate]; omega) fun x hx => by
          rw [List.eq_of_mem_replicate hx]
          exact itm_cr (p := (0, 0)) (by decide) (by decide)
        refine os_if (ok_tor (ok_tnot (ok_t (ok_cb (ok_acons (ok_var rfl (ok_acons (ok_var rfl (ok_acons (ok_var rfl (ok_anil (right_x hr v5 (by omega) fun c6 g6 => ⟨_, rfl, fun h => Bool.noConfusion h, fun _ => ?_⟩))))))))))))
        have b6 := g6.bx b5
        have hl6 := bx_lt b6
        have v7 : Vl kb 2 (.ref c6.length) (c6 ++ [Cell.lst (List.replicate (65 : Int).toNat (.lst [.int 0, .int 0]))]) := .inl ⟨_, _, rfl, by omega, cell_last _, by rw [List.length_replicate]; decide, fun x hx => .inr ⟨by rw [List.length_replicate]; decide, List.eq_of_mem_replicate hx⟩⟩
        refine ok_tnot (ok_t (ok_cb (ok_acons (ok_var rfl (ok_acons (ok_var rfl (ok_acons (ok_op (ok_lst (ok_acons (ok_lst (ok_acons (ok_c (ok_acons (ok_c (ok_anil ⟨Nat.le_of_ble_eq_true rfl, ok_anil ⟨Nat.le_of_ble_eq_true rfl, ok_c (Ok.of (mulC _ _ _ (by decide) (by decide)) (ok_anil (right_x hr v7 (by omega) fun c8 g8 => ⟨_, rfl, fun h => Bool.noConfusion h, fun _ => os_nil ?_⟩)))⟩⟩))))))))))))))))
        exact ⟨⟨_, _, _, _, _, _, _, _, _, rfl⟩, fun d h => hd d (List.mem_cons_of_mem _ h)⟩
      · rintro x rest l c' ⟨⟨o5, o6, o7, o8, o9, rfl⟩, b, hr6⟩
        rw [List.length_cons] at b hr6
        refine ok_gn ?_
        exact turn_ok b (by omega) hr fun o7 o8 o9 c2 b2 => ⟨⟨_, _, _, _, _, rfl⟩, bx_mono b2 (by omega), by omega⟩
    · refine ⟨⟨_, _, _, _, _, _, _, _, _, rfl⟩, fun d h => ?_⟩
      obtain ⟨i, h1, rfl⟩ := rangeL_mem h
      refine ⟨i, ?_, by rw [Int.zero_add]⟩
      simp only [List.length_map] at h1
      revert h1
      split <;> split <;> omega
  obtain ⟨d, c, e, rfl⟩ := r
  exact ⟨c, e⟩

end L2.Lw
open PySem PySem.W PyProof.Rows
set_option maxRecDepth 100000 in
set_option maxHeartbeats 0 in
theorem PySem.Challenge.cw_weavegraph_k09_turned_crossings_holds : PySem.Challenge.rw_weavegraph_k09_turned_crossings.Holds := by
  w_on; o_law; k_head; (case hw => w_witness2)
  k_fill
  refine L2.Mi.law_g (l := PySem.Challenge.rw_weavegraph_k09_turned_crossings) (n := 63) (k := 8) (x := "_law_script") (g := fun _ => L2.Lw.glaw) rfl (by decide) rfl ⟨rfl, by decide, by decide⟩ (fun w h Y => PySem.W.kIn_of Y) ?F (fun _ ns hl => L2.Lw.law_true ns hl)
  case F =>
    intro w mg fa h KX G hmg
    refine' L2.Lw.law_fin KX G hmg ?z_all ?z_bool ?z_enumerate ?z_int ?z_isinstance ?z_len ?z_list ?z_max ?z_min ?z_range ?z_repr ?z_str ?z_tuple ?a_SIGNS ?z_super ?z_third ?z_top ?xaDuplicate ?xcDuplicate ?xtDuplicate ?xsDuplicate ?xbDuplicate ?xiDuplicate ?xyDuplicate ?xlDuplicate ?xoDuplicate ?xdDuplicate ?xvDuplicate ?xfDuplicate ?xeDuplicate ?xmDuplicate ?xpDuplicate ?xnDuplicate ?xqDuplicate ?xrDuplicate ?xkDuplicate ?xgDuplicate ?xhDuplicate ?xjDuplicate ?xaInvalidCrossing ?xcInvalidCrossing ?xtInvalidCrossing ?xsInvalidCrossing ?xbInvalidCrossing ?xiInvalidCrossing ?xyInvalidCrossing ?xlInvalidCrossing ?xoInvalidCrossing ?xdInvalidCrossing ?xvInvalidCrossing ?xfInvalidCrossing ?xeInvalidCrossing ?xmInvalidCrossing ?xpInvalidCrossing ?xnInvalidCrossing ?xqInvalidCrossing ?xrInvalidCrossing ?xkInvalidCrossing ?xgInvalidCrossing ?xhInvalidCrossing ?xjInvalidCrossing ?xaInvalidList ?xcInvalidList ?xtInvalidList ?xsInvalidList ?xbInvalidList ?xiInvalidList ?xyInvalidList ?xlInvalidList ?xoInvalidList ?xdInvalidList ?xvInvalidList ?xfInvalidList ?xeInvalidList ?xmInvalidList ?xpInvalidList ?xnInvalidList ?xqInvalidList ?xrInvalidList ?xkInvalidList ?xgInvalidList ?xhInvalidList ?xjInvalidList ?xaInvalidRows ?xcInvalidRows ?xtInvalidRows ?xsInvalidRows ?xbInvalidRows ?xiInvalidRows ?xyInvalidRows ?xlInvalidRows ?xoInvalidRows ?xdInvalidRows ?xvInvalidRows ?xfInvalidRows ?xeInvalidRows ?xmInvalidRows ?xpInvalidRows ?xnInvalidRows ?xqInvalidRows ?xrInvalidRows ?xkInvalidRows ?xgInvalidRows ?xhInvalidRows ?xjInvalidRows ?hbDuplicate ?hcDuplicate ?htDuplicate ?em_InvalidRows_Duplicate ?em_InvalidList_Duplicate ?em_InvalidCrossing_Duplicate ?em_Duplicate_Duplicate ?hbInvalidCrossing ?hcInvalidCrossing ?htInvalidCrossing ?em_InvalidRows_InvalidCrossing ?em_InvalidList_InvalidCrossing ?em_InvalidCrossing_InvalidCrossing ?em_Duplicate_InvalidCrossing ?hbInvalidList ?hcInvalidList ?htInvalidList ?em_InvalidRows_InvalidList ?em_InvalidList_InvalidList ?em_InvalidCrossing_InvalidList ?em_Duplicate_InvalidList ?caCloth ?cpCloth ?cdCloth ?coCloth ?csCloth ?fn_Cloth_kept_rows ?rdCloth ?rgCloth ?cv_Cloth_MOST ?kiCloth ?kfCloth ?knCloth ?kkCloth ?lCloth____init__ ?cCloth____init__ ?kCloth____init__ ?mfCloth__rows ?mnCloth__rows ?lCloth__rows ?cCloth__rows ?kCloth__rows ?mfCloth__turned ?mnCloth__turned ?lCloth__turned ?cCloth__turned ?kCloth__turned ?pfCloth__warp_count ?pgCloth__warp_count ?ptCloth__warp_count ?prCloth__warp_count ?lCloth__warp_count ?cCloth__warp_count ?kCloth__warp_count ?pfCloth__weft_count ?pgCloth__weft_count ?ptCloth__weft_count ?prCloth__weft_count ?lCloth__weft_count ?cCloth__weft_count ?kCloth__weft_count ?a_law_box ?l_law_box ?c_law_box ?k_law_box ?a_law_cell ?l_law_cell ?c_law_cell ?k_law_cell ?a_law_take ?l_law_take ?c_law_take ?k_law_take ?a_law_rows ?l_law_rows ?c_law_rows ?k_law_rows ?ais_sequence ?lis_sequence ?cis_sequence ?kis_sequence ?ais_pattern ?lis_pattern ?cis_pattern ?kis_pattern ?aare_rows ?lare_rows ?care_rows ?kare_rows ?a_law_crossings ?l_law_crossings ?c_law_crossings ?k_law_crossings ?a_law_odd ?l_law_odd ?c_law_odd ?k_law_odd ?a_law_spoilt ?l_law_spoilt ?c_law_spoilt ?k_law_spoilt ?a_law_turned ?l_law_turned ?c_law_turned ?k_law_turned ?a_law_due ?l_law_due ?c_law_due ?k_law_due ?aneed_items ?lneed_items ?cneed_items ?kneed_items ?ais_integer ?lis_integer ?cis_integer ?kis_integer ?ais_crossing ?lis_crossing ?cis_crossing ?kis_crossing ?aexchanged ?lexchanged ?cexchanged ?kexchanged ?a_law_caught ?l_law_caught ?c_law_caught ?k_law_caught ?a_law_right ?l_law_right ?c_law_right ?k_law_right ?alaw ?llaw ?claw ?klaw
    (case z_all => k_is)
    (case z_bool => k_is)
    (case z_enumerate => k_is)
    (case z_int => k_is)
    (case z_isinstance => k_is)
    (case z_len => k_is)
    (case z_list => k_is)
    (case z_max => k_is)
    (case z_min => k_is)
    (case z_range => k_is)
    (case z_repr => k_is)
    (case z_str => k_is)
    (case z_tuple => k_is)
    (case a_SIGNS => k_is)
    (case z_super => k_is)
    (case z_third => k_is)
    (case z_top => first | rfl | decide +kernel)
    (case xaDuplicate => k_is)
    (case xcDuplicate => first | k_is | rfl)
    (case xtDuplicate => first | rfl | decide +kernel | k_is)
    (case xsDuplicate => first | k_is | rfl | decide +kernel)
    (case xbDuplicate => k_is)
    (case xiDuplicate => k_is)
    (case xyDuplicate => k_is)
    (case xlDuplicate => k_is)
    (case xoDuplicate => k_is)
    (case xdDuplicate => k_is)
    (case xvDuplicate => rfl)
    (case xfDuplicate => first | rfl | decide +kernel)
    (case xeDuplicate => k_is)
    (case xmDuplicate => k_is)
    (case xpDuplicate => k_is)
    (case xnDuplicate => k_is)
    (case xqDuplicate => k_is)
    (case xrDuplicate => k_is)
    (case xkDuplicate => k_is)
    (case xgDuplicate => k_is)
    (case xhDuplicate => k_is)
    (case xjDuplicate => k_is)
    (case xaInvalidCrossing => k_is)
    (case xcInvalidCrossing => first | k_is | rfl)
    (case xtInvalidCrossing => first | rfl | decide +kernel | k_is)
    (case xsInvalidCrossing => first | k_is | rfl | decide +kernel)
    (case xbInvalidCrossing => k_is)
    (case xiInvalidCrossing => k_is)
    (case xyInvalidCrossing => k_is)
    (case xlInvalidCrossing => k_is)
    (case xoInvalidCrossing => k_is)
    (case xdInvalidCrossing => k_is)
    (case xvInvalidCrossing => rfl)
    (case xfInvalidCrossing => first | rfl | decide +kernel)
    (case xeInvalidCrossing => k_is)
    (case xmInvalidCrossing => k_is)
    (case xpInvalidCrossing => k_is)
    (case xnInvalidCrossing => k_is)
    (case xqInvalidCrossing => k_is)
    (case xrInvalidCrossing => k_is)
    (case xkInvalidCrossing => k_is)
    (case xgInvalidCrossing => k_is)
    (case xhInvalidCrossing => k_is)
    (case xjInvalidCrossing => k_is)
    (case xaInvalidList => k_is)
    (case xcInvalidList => first | k_is | rfl)
    (case xtInvalidList => first | rfl | decide +kernel | k_is)
    (case xsInvalidList => first | k_is | rfl | decide +kernel)
    (case xbInvalidList => k_is)
    (case xiInvalidList => k_is)
    (case xyInvalidList => k_is)
    (case xlInvalidList => k_is)
    (case xoInvalidList => k_is)
    (case xdInvalidList => k_is)
    (case xvInvalidList => rfl)
    (case xfInvalidList => first | rfl | decide +kernel)
    (case xeInvalidList => k_is)
    (case xmInvalidList => k_is)
    (case xpInvalidList => k_is)
    (case xnInvalidList => k_is)
    (case xqInvalidList => k_is)
    (case xrInvalidList => k_is)
    (case xkInvalidList => k_is)
    (case xgInvalidList => k_is)
    (case xhInvalidList => k_is)
    (case xjInvalidList => k_is)
    (case xaInvalidRows => k_is)
    (case xcInvalidRows => first | k_is | rfl)
    (case xtInvalidRows => first | rfl | decide +kernel | k_is)
    (case xsInvalidRows => first | k_is | rfl | decide +kernel)
    (case xbInvalidRows => k_is)
    (case xiInvalidRows => k_is)
    (case xyInvalidRows => k_is)
    (case xlInvalidRows => k_is)
    (case xoInvalidRows => k_is)
    (case xdInvalidRows => k_is)
    (case xvInvalidRows => rfl)
    (case xfInvalidRows => first | rfl | decide +kernel)
    (case xeInvalidRows => k_is)
    (case xmInvalidRows => k_is)
    (case xpInvalidRows => k_is)
    (case xnInvalidRows => k_is)
    (case xqInvalidRows => k_is)
    (case xrInvalidRows => k_is)
    (case xkInvalidRows => k_is)
    (case xgInvalidRows => k_is)
    (case xhInvalidRows => k_is)
    (case xjInvalidRows => k_is)
    (case hbDuplicate => k_is)
    (case hcDuplicate => k_is)
    (case htDuplicate => k_is)
    (case em_InvalidRows_Duplicate => k_is)
    (case em_InvalidList_Duplicate => k_is)
    (case em_InvalidCrossing_Duplicate => k_is)
    (case em_Duplicate_Duplicate => k_is)
    (case hbInvalidCrossing => k_is)
    (case hcInvalidCrossing => k_is)
    (case htInvalidCrossing => k_is)
    (case em_InvalidRows_InvalidCrossing => k_is)
    (case em_InvalidList_InvalidCrossing => k_is)
    (case em_InvalidCrossing_InvalidCrossing => k_is)
    (case em_Duplicate_InvalidCrossing => k_is)
    (case hbInvalidList => k_is)
    (case hcInvalidList => k_is)
    (case htInvalidList => k_is)
    (case em_InvalidRows_InvalidList => k_is)
    (case em_InvalidList_InvalidList => k_is)
    (case em_InvalidCrossing_InvalidList => k_is)
    (case em_Duplicate_InvalidList => k_is)
    (case caCloth => k_is)
    (case cpCloth => k_is)
    (case cdCloth => k_is)
    (case coCloth => k_is)
    (case csCloth => k_is)
    (case fn_Cloth_kept_rows => k_is)
    (case rdCloth => k_is)
    (case rgCloth => k_is)
    (case cv_Cloth_MOST => k_is)
    (case kiCloth => k_is)
    (case kfCloth => k_is)
    (case knCloth => k_is)
    (case kkCloth => k_is)
    (case lCloth____init__ => k_is)
    (case cCloth____init__ => k_is)
    (case kCloth____init__ => k_is)
    (case mfCloth__rows => k_is)
    (case mnCloth__rows => k_is)
    (case lCloth__rows => k_is)
    (case cCloth__rows => k_is)
    (case kCloth__rows => k_is)
    (case mfCloth__turned => k_is)
    (case mnCloth__turned => k_is)
    (case lCloth__turned => k_is)
    (case cCloth__turned => k_is)
    (case kCloth__turned => k_is)
    (case pfCloth__warp_count => k_is)
    (case pgCloth__warp_count => k_is)
    (case ptCloth__warp_count => k_is)
    (case prCloth__warp_count => k_is)
    (case lCloth__warp_count => k_is)
    (case cCloth__warp_count => k_is)
    (case kCloth__warp_count => k_is)
    (case pfCloth__weft_count => k_is)
    (case pgCloth__weft_count => k_is)
    (case ptCloth__weft_count => k_is)
    (case prCloth__weft_count => k_is)
    (case lCloth__weft_count => k_is)
    (case cCloth__weft_count => k_is)
    (case kCloth__weft_count => k_is)
    (case a_law_box => k_is)
    (case l_law_box => k_is)
    (case c_law_box => k_is)
    (case k_law_box => k_is)
    (case a_law_cell => k_is)
    (case l_law_cell => k_is)
    (case c_law_cell => k_is)
    (case k_law_cell => k_is)
    (case a_law_take => k_is)
    (case l_law_take => k_is)
    (case c_law_take => k_is)
    (case k_law_take => k_is)
    (case a_law_rows => k_is)
    (case l_law_rows => k_is)
    (case c_law_rows => k_is)
    (case k_law_rows => k_is)
    (case ais_sequence => k_is)
    (case lis_sequence => k_is)
    (case cis_sequence => k_is)
    (case kis_sequence => k_is)
    (case ais_pattern => k_is)
    (case lis_pattern => k_is)
    (case cis_pattern => k_is)
    (case kis_pattern => k_is)
    (case aare_rows => k_is)
    (case lare_rows => k_is)
    (case care_rows => k_is)
    (case kare_rows => k_is)
    (case a_law_crossings => k_is)
    (case l_law_crossings => k_is)
    (case c_law_crossings => k_is)
    (case k_law_crossings => k_is)
    (case a_law_odd => k_is)
    (case l_law_odd => k_is)
    (case c_law_odd => k_is)
    (case k_law_odd => k_is)
    (case a_law_spoilt => k_is)
    (case l_law_spoilt => k_is)
    (case c_law_spoilt => k_is)
    (case k_law_spoilt => k_is)
    (case a_law_turned => k_is)
    (case l_law_turned => k_is)
    (case c_law_turned => k_is)
    (case k_law_turned => k_is)
    (case a_law_due => k_is)
    (case l_law_due => k_is)
    (case c_law_due => k_is)
    (case k_law_due => k_is)
    (case aneed_items => k_is)
    (case lneed_items => k_is)
    (case cneed_items => k_is)
    (case kneed_items => k_is)
    (case ais_integer => k_is)
    (case lis_integer => k_is)
    (case cis_integer => k_is)
    (case kis_integer => k_is)
    (case ais_crossing => k_is)
    (case lis_crossing => k_is)
    (case cis_crossing => k_is)
    (case kis_crossing => k_is)
    (case aexchanged => k_is)
    (case lexchanged => k_is)
    (case cexchanged => k_is)
    (case kexchanged => k_is)
    (case a_law_caught => k_is)
    (case l_law_caught => k_is)
    (case c_law_caught => k_is)
    (case k_law_caught => k_is)
    (case a_law_right => k_is)
    (case l_law_right => k_is)
    (case c_law_right => k_is)
    (case k_law_right => k_is)
    (case alaw => k_is)
    (case llaw => k_is)
    (case claw => k_is)
    (case klaw => k_is)

