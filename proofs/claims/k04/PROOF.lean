import PyProof.Rows.All
import Wide.All
import OpenK.AllK
import Wide.FinOn
import HandS.ForMost
import HandS.IsInst
import HandS.Exc
import HandS.Style
import HandS.Deep
import HandS.RaiseMore
import HandS.ExcInit
import KE.KUnpack
import HandS.Text
import HandS.DictEq
import HandS.Flow
import HandS.Defaults
import HandS.StrMore
import PySem.Challenge.RW_weavegraph_k04_words_and_numbers
set_option Elab.async false
set_option linter.all false
set_option autoImplicit false
set_option maxRecDepth 100000
set_option maxHeartbeats 8000000
namespace L2.Mi
open PySem PySem.Spec PyProof.Rows L2

/-! A layer of plain values over HandS: data as trees (D), cells for what is changed, computations R. -/

inductive D where
  | non
  | bl (b : Bool)
  | int (i : Int)
  | str (s : Str)
  | lst (xs : List D)
  | tup (xs : List D)
  | ro (xs : List D)
  | dct (kvs : List (Key × D))
  | ref (k : Nat)
  | obj (C : Addr) (fs : List (Str × D))
  | adr (a : Addr)
  | ty (n : String)

inductive Cell where
  | lst (xs : List D)
  | dct (kvs : List (Key × D))
  | ins (C : Addr) (fs : List (Str × D))
  | frz (d : D)

abbrev Cs := List Cell
abbrev Ls := List (Option D)
structure Ex where
  cls : Value
  fs : List (Str × D)

inductive R (α : Type) where
  | stuck
  | ok (a : α) (c : Cs)
  | exc (x : Ex) (c : Cs)

def R.bind {α β : Type} (r : R α) (f : α → Cs → R β) : R β :=
  match r with
  | .stuck => .stuck
  | .ok a c => f a c
  | .exc x c => .exc x c
@[simp] theorem R.bind_ok {α β : Type} (a : α) (c : Cs) (f : α → Cs → R β) : (R.ok a c).bind f = f a c := rfl
@[simp] theorem R.bind_exc {α β : Type} (x : Ex) (c : Cs) (f : α → Cs → R β) : (R.exc x c : R α).bind f = .exc x c := rfl
@[simp] theorem R.bind_stuck {α β : Type} (f : α → Cs → R β) : (R.stuck : R α).bind f = .stuck := rfl

mutual
inductive Rep (K : PySem.W.Frag) (I : Hp) (m : List Addr) : V → D → Prop where
  | non : Rep K I m .non .non
  | bl (b : Bool) : Rep K I m (.bl b) (.bl b)
  | int (i : Int) : Rep K I m (.int i) (.int i)
  | str (s : Str) : Rep K I m (.str s) (.str s)
  | lst {a : Addr} {vs : List V} {ds : List D} (h : I a = some (.lst vs)) (r : Reps K I m vs ds) : Rep K I m (.ref a) (.lst ds)
  | ro {a : Addr} {vs : List V} {ds : List D} (h : SqL K I a vs) (r : Reps K I m vs ds) : Rep K I m (.ref a) (.ro ds)
  | tup {a : Addr} {vs : List V} {ds : List D} (h : SqT K I a vs) (r : Reps K I m vs ds) : Rep K I m (.ref a) (.tup ds)
  | dct {a : Addr} {vs : List (Key × V)} {ds : List (Key × D)} (h : I a = some (.dK vs)) (r : RepK K I m vs ds) : Rep K I m (.ref a) (.dct ds)
  | ref {k : Nat} {a : Addr} (h : m[k]? = some a) : Rep K I m (.ref a) (.ref k)
  | obj {a C dx : Addr} {vs : List (Str × V)} {ds : List (Str × D)} (h : I a = some (.ins C dx vs)) (r : RepF K I m vs ds) : Rep K I m (.ref a) (.obj C ds)
  | adr (a : Addr) : Rep K I m (.ref a) (.adr a)
  | ty (n : String) : Rep K I m (.ty n) (.ty n)
inductive Reps (K : PySem.W.Frag) (I : Hp) (m : List Addr) : List V → List D → Prop where
  | nil : Reps K I m [] []
  | cons {v : V} {vs : List V} {d : D} {ds : List D} (h : Rep K I m v d) (t : Reps K I m vs ds) : Reps K I m (v :: vs) (d :: ds)
inductive RepK (K : PySem.W.Frag) (I : Hp) (m : List Addr) : List (Key × V) → List (Key × D) → Prop where
  | nil : RepK K I m [] []
  | cons {k : Key} {v : V} {vs : List (Key × V)} {d : D} {ds : List (Key × D)} (h : Rep K I m v d) (t : RepK K I m vs ds) : RepK K I m ((k, v) :: vs) ((k, d) :: ds)
inductive RepF (K : PySem.W.Frag) (I : Hp) (m : List Addr) : List (Str × V) → List (Str × D) → Prop where
  | nil : RepF K I m [] []
  | cons {k : Str} {v : V} {vs : List (Str × V)} {d : D} {ds : List (Str × D)} (h : Rep K I m v d) (t : RepF K I m vs ds) : RepF K I m ((k, v) :: vs) ((k, d) :: ds)
end

theorem sqT_same {K : PySem.W.Frag} {H H' : Hp} {a : Addr} {xs : List V} (e : Same H H') (h : SqT K H a xs) : SqT K H' a xs := by
  rcases h with (h | ⟨o, h⟩) | h
  · exact Or.inl (Or.inl (e _ _ h))
  · exact Or.inl (Or.inr ⟨o, e _ _ h⟩)
  · exact Or.inr h

/-- the cells' addresses grow at the end -/
def Pre (m m' : List Addr) : Prop := ∀ (k : Nat) (a : Addr), m[k]? = some a → m'[k]? = some a
theorem Pre.refl (m : List Addr) : Pre m m := fun _ _ h => h
theorem Pre.trans {m m1 m2 : List Addr} (a : Pre m m1) (b : Pre m1 m2) : Pre m m2 := fun k x h => b k x (a k x h)

section
variable {K : PySem.W.Frag} {I I' : Hp} {m m' : List Addr}
mutual
theorem Rep.mono (s : Same I I') (p : Pre m m') : ∀ {v : V} {d : D}, Rep K I m v d → Rep K I' m' v d
  | _, _, .non => .non
  | _, _, .bl b => .bl b
  | _, _, .int i => .int i
  | _, _, .str x => .str x
  | _, _, .lst h r => .lst (s _ _ h) (Reps.mono s p r)
  | _, _, .ro h r => .ro (s.seq h) (Reps.mono s p r)
  | _, _, .tup h r => .tup (sqT_same s h) (Reps.mono s p r)
  | _, _, .dct h r => .dct (s _ _ h) (RepK.mono s p r)
  | _, _, .ref h => .ref (p _ _ h)
  | _, _, .obj h r => .obj (s _ _ h) (RepF.mono s p r)
  | _, _, .adr a => .adr a
  | _, _, .ty n => .ty n
theorem Reps.mono (s : Same I I') (p : Pre m m') : ∀ {v : List V} {d : List D}, Reps K I m v d → Reps K I' m' v d
  | _, _, .nil => .nil
  | _, _, .cons h t => .cons (Rep.mono s p h) (Reps.mono s p t)
theorem RepK.mono (s : Same I I') (p : Pre m m') : ∀ {v : List (Key × V)} {d : List (Key × D)}, RepK K I m v d → RepK K I' m' v d
  | _, _, .nil => .nil
  | _, _, .cons h t => .cons (Rep.mono s p h) (RepK.mono s p t)
theorem RepF.mono (s : Same I I') (p : Pre m m') : ∀ {v : List (Str × V)} {d : List (Str × D)}, RepF K I m v d → RepF K I' m' v d
  | _, _, .nil => .nil
  | _, _, .cons h t => .cons (Rep.mono s p h) (RepF.mono s p t)
end
theorem Reps.length : ∀ {vs : List V} {ds : List D}, Reps K I m vs ds → vs.length = ds.length
  | _, _, .nil => rfl
  | _, _, .cons _ t => congrArg (· + 1) (Reps.length t)
theorem Reps.get : ∀ {vs : List V} {ds : List D} {i : Nat} {d : D}, Reps K I m vs ds → ds[i]? = some d → ∃ v, vs[i]? = some v ∧ Rep K I m v d
  | _, _, _, _, .nil, e => by simp at e
  | _, _, 0, _, .cons h _, e => by simp at e; subst e; exact ⟨_, rfl, h⟩
  | _, _, i + 1, d, .cons _ t, e => by
    obtain ⟨v, h1, h2⟩ := Reps.get (i := i) (d := d) t (by simpa using e)
    exact ⟨v, by simpa using h1, h2⟩
theorem Reps.getV : ∀ {vs : List V} {ds : List D} {i : Nat} {v : V}, Reps K I m vs ds → vs[i]? = some v → ∃ d, ds[i]? = some d ∧ Rep K I m v d
  | _, _, _, _, .nil, e => by simp at e
  | _, _, 0, _, .cons h _, e => by simp at e; subst e; exact ⟨_, rfl, h⟩
  | _, _, i + 1, d, .cons _ t, e => by
    obtain ⟨v, h1, h2⟩ := Reps.getV (i := i) (v := d) t (by simpa using e)
    exact ⟨v, by simpa using h1, h2⟩
theorem Reps.append : ∀ {vs ws : List V} {ds es : List D}, Reps K I m vs ds → Reps K I m ws es → Reps K I m (vs ++ ws) (ds ++ es)
  | _, _, _, _, .nil, s => s
  | _, _, _, _, .cons r t, s => .cons r (Reps.append t s)
theorem Reps.set {v : V} {d : D} (r : Rep K I m v d) : ∀ {vs : List V} {ds : List D} (i : Nat), Reps K I m vs ds → Reps K I m (vs.set i v) (ds.set i d)
  | _, _, _, .nil => .nil
  | _, _, 0, .cons _ t => .cons r t
  | _, _, i + 1, .cons q t => .cons q (Reps.set r i t)
theorem Reps.take : ∀ {vs : List V} {ds : List D} (n : Nat), Reps K I m vs ds → Reps K I m (vs.take n) (ds.take n)
  | _, _, 0, _ => .nil
  | _, _, _ + 1, .nil => .nil
  | _, _, n + 1, .cons r t => .cons r (Reps.take n t)
theorem Reps.drop : ∀ {vs : List V} {ds : List D} (n : Nat), Reps K I m vs ds → Reps K I m (vs.drop n) (ds.drop n)
  | _, _, 0, r => r
  | _, _, _ + 1, .nil => .nil
  | _, _, n + 1, .cons _ t => Reps.drop n t
end

/-- what a cell is, at its address -/
def CellAt (K : PySem.W.Frag) (I H : Hp) (m : List Addr) (a : Addr) : Cell → Prop
  | .lst ds => I a = none ∧ ∃ vs, H a = some (.lst vs) ∧ Reps K I m vs ds
  | .dct ds => I a = none ∧ ∃ vs, H a = some (.dK vs) ∧ RepK K I m vs ds
  | .ins C ds => I a = none ∧ ∃ dx vs, I dx = none ∧ dx ∉ m ∧ H dx = some (.own a) ∧ H a = some (.ins C dx vs) ∧ RepF K I m vs ds
  | .frz d => (I a ≠ none) ∧ Rep K I m (.ref a) d

/-- I: what never changes; m: the cells' addresses -/
structure Rel (K : PySem.W.Frag) (I H : Hp) (m : List Addr) (c : Cs) : Prop where
  same : Same I H
  len : m.length = c.length
  nd : ∀ (i j : Nat) (a : Addr), m[i]? = some a → m[j]? = some a → i = j
  cell : ∀ (k : Nat) (a : Addr) (x : Cell), m[k]? = some a → c[k]? = some x → CellAt K I H m a x

/-- what may happen in between: I and m grow; what is neither known nor a cell stays -/
structure Ext (I : Hp) (m : List Addr) (H I' : Hp) (m' : List Addr) (H' : Hp) : Prop where
  same : Same I I'
  pre : Pre m m'
  fr : ∀ b o, H b = some o → I b = none → b ∉ m → H' b = some o ∧ I' b = none ∧ b ∉ m'
theorem Ext.refl (I : Hp) (m : List Addr) (H : Hp) : Ext I m H I m H := ⟨Same.refl I, Pre.refl m, fun _ _ h1 h2 h3 => ⟨h1, h2, h3⟩⟩
theorem Ext.trans {I I1 I2 H H1 H2 : Hp} {m m1 m2 : List Addr} (a : Ext I m H I1 m1 H1) (b : Ext I1 m1 H1 I2 m2 H2) : Ext I m H I2 m2 H2 :=
  ⟨a.same.trans b.same, a.pre.trans b.pre, fun x o h1 h2 h3 => let ⟨q1, q2, q3⟩ := a.fr x o h1 h2 h3; b.fr x o q1 q2 q3⟩
theorem Rep.ext {K : PySem.W.Frag} {I I1 H H1 : Hp} {m m1 : List Addr} {v : V} {d : D} (r : Rep K I m v d) (e : Ext I m H I1 m1 H1) : Rep K I1 m1 v d := r.mono e.same e.pre
theorem Reps.ext {K : PySem.W.Frag} {I I1 H H1 : Hp} {m m1 : List Addr} {v : List V} {d : List D} (r : Reps K I m v d) (e : Ext I m H I1 m1 H1) : Reps K I1 m1 v d := r.mono e.same e.pre

/-- the locals -/
structure Locs (K : PySem.W.Frag) (I : Hp) (m : List Addr) (σ : St) (ls : Ls) : Prop where
  len : σ.length = ls.length
  at_ : ∀ (i : Nat) (d : D), ls[i]? = some (some d) → ∃ v, σ[i]? = some (some v) ∧ Rep K I m v d
theorem Locs.ext {K : PySem.W.Frag} {I I1 H H1 : Hp} {m m1 : List Addr} {σ : St} {ls : Ls} (l : Locs K I m σ ls) (e : Ext I m H I1 m1 H1) : Locs K I1 m1 σ ls :=
  ⟨l.len, fun i d h => let ⟨v, h1, h2⟩ := l.at_ i d h; ⟨v, h1, h2.ext e⟩⟩
theorem Locs.set {K : PySem.W.Frag} {I : Hp} {m : List Addr} {σ : St} {ls : Ls} {v : V} {d : D} (i : Nat) (l : Locs K I m σ ls) (r : Rep K I m v d) : Locs K I m (σ.set i (some v)) (ls.set i (some d)) := by
  refine ⟨by simp [l.len], fun j e h => ?_⟩
  by_cases hj : i = j
  · subst hj
    by_cases hl : i < ls.length
    · rw [List.getElem?_set_self hl] at h
      cases h
      exact ⟨v, by rw [List.getElem?_set_self (by rw [l.len]; exact hl)], r⟩
    · rw [List.getElem?_eq_none (by simpa using hl)] at h
      cases h
  · rw [List.getElem?_set_ne hj] at h ⊢
    exact l.at_ j e h

/-- an exception, its class and its own dict -/
def RepX (K : PySem.W.Frag) (I : Hp) (m : List Addr) (H : Hp) (cls : Value) (dd : Option Addr) (x : Ex) : Prop :=
  cls = x.cls ∧ ((dd = none ∧ x.fs = []) ∨ ∃ a vs, dd = some a ∧ I a = some (.xd vs) ∧ RepF K I m vs x.fs)

/-- what is wanted behind a computation -/
def After {α β : Type} (rep : Hp → List Addr → β → α → Prop) (K : PySem.W.Frag) (I : Hp) (m : List Addr) (H : Hp) (W : XK) (Q : β → Hp → Prop) : R α → Prop
  | .stuck => False
  | .ok d c => ∀ I' m' H' v, Ext I m H I' m' H' → Rel K I' H' m' c → rep I' m' v d → Q v H'
  | .exc x c => ∀ I' m' H' cls dd, Ext I m H I' m' H' → Rel K I' H' m' c → RepX K I' m' H' cls dd x → W cls dd H'
section
variable {α β γ δ : Type} {rep : Hp → List Addr → β → α → Prop} {rep' : Hp → List Addr → δ → γ → Prop} {K : PySem.W.Frag} {I I1 H H1 : Hp} {m m1 : List Addr} {W : XK} {Q Q' : β → Hp → Prop} {Q2 : δ → Hp → Prop} {r : R α} {c : Cs}
theorem After.ext (e : Ext I m H I1 m1 H1) (a : After rep K I m H W Q r) : After rep K I1 m1 H1 W Q r := by
  cases r with
  | stuck => exact a
  | ok d c => exact fun I' m' H' v e' => a I' m' H' v (e.trans e')
  | exc x c => exact fun I' m' H' cls dd e' => a I' m' H' cls dd (e.trans e')
theorem After.mono (a : After rep K I m H W Q r) (h : ∀ v H', Q v H' → Q' v H') : After rep K I m H W Q' r := by
  cases r with
  | stuck => exact a
  | ok d c => exact fun I' m' H' v e' r' p => h _ _ (a I' m' H' v e' r' p)
  | exc x c => exact a
/-- what stands behind the first of two computations -/
def Mid (rep : Hp → List Addr → β → α → Prop) (rep' : Hp → List Addr → δ → γ → Prop) (K : PySem.W.Frag) (I : Hp) (m : List Addr) (H : Hp) (W : XK) (Q2 : δ → Hp → Prop) (f : α → Cs → R γ) (v : β) (H1 : Hp) : Prop :=
  ∃ I1 m1 c1 a, Ext I m H I1 m1 H1 ∧ Rel K I1 H1 m1 c1 ∧ rep I1 m1 v a ∧ After rep' K I1 m1 H1 W Q2 (f a c1)
theorem After.bind {f : α → Cs → R γ} (a : After rep' K I m H W Q2 (r.bind f)) : After rep K I m H W (Mid rep rep' K I m H W Q2 f) r := by
  cases r with
  | stuck => exact a
  | ok d c => exact fun I' m' H' v e' r' p => ⟨I', m', c, d, e', r', p, After.ext e' a⟩
  | exc x c => exact a
/-- nothing happens any more -/
theorem After.here {d : α} {v : β} (a : After rep K I m H W Q (.ok d c)) (r : Rel K I H m c) (p : rep I m v d) : Q v H := a I m H v (Ext.refl I m H) r p
end

def rD (K : PySem.W.Frag) : Hp → List Addr → V → D → Prop := fun I m v d => Rep K I m v d
def rA (K : PySem.W.Frag) : Hp → List Addr → List V → List D → Prop := fun I m v d => Reps K I m v d
def rB : Hp → List Addr → Bool → Bool → Prop := fun _ _ v d => v = d

abbrev ME := Ls → Cs → R D
abbrev MA := Ls → Cs → R (List D)
abbrev MT := Ls → Cs → R Bool
/-- the reading of a computation -/
def rd {α β : Type} (rep : Hp → List Addr → β → α → Prop) (K : PySem.W.Frag) (W : WX) (f : Ls → Cs → R α) : St → Hp → (β → Hp → Prop) → Prop := fun σ H Q =>
  ∃ I m ls c, Rel K I H m c ∧ Locs K I m σ ls ∧ After rep K I m H (fun cls dd H' => W cls dd σ H') Q (f ls c)
abbrev rdE (K : PySem.W.Frag) (W : WX) (f : ME) : TE := rd (rD K) K W f
abbrev rdA (K : PySem.W.Frag) (W : WX) (f : MA) : TA := rd (rA K) K W f
abbrev rdT (K : PySem.W.Frag) (W : WX) (f : MT) : TT := rd rB K W f

/-- a new object that never changes -/
theorem alloc {K : PySem.W.Frag} {I H : Hp} {m : List Addr} {c : Cs} {p : Addr} {o : HO} (r : Rel K I H m c) (np : H p = none) : Rel K (upd I p o) (upd H p o) m c ∧ Ext I m H (upd I p o) m (upd H p o) := by
  have nI : I p = none := r.same.free np
  have sI : Same I (upd I p o) := fun b u e => by rw [upd_ne (ne_of_none e nI)]; exact e
  have sH : Same H (upd H p o) := fun b u e => by rw [upd_ne (ne_of_none e np)]; exact e
  refine ⟨⟨fun b u e => ?_, r.len, r.nd, fun k a x h1 h2 => ?_⟩, sI, Pre.refl m, fun b u h1 h2 h3 => ⟨sH b u h1, ?_, h3⟩⟩
  · by_cases hb : b = p
    · subst hb
      rw [upd_same] at e ⊢
      exact e
    · rw [upd_ne hb] at e ⊢
      exact r.same b u e
  · have q := r.cell k a x h1 h2
    cases x with
    | lst ds =>
      obtain ⟨q1, vs, q2, q3⟩ := q
      exact ⟨by rw [upd_ne (ne_of_none q2 np)]; exact q1, vs, sH _ _ q2, q3.mono sI (Pre.refl m)⟩
    | dct ds =>
      obtain ⟨q1, vs, q2, q3⟩ := q
      exact ⟨by rw [upd_ne (ne_of_none q2 np)]; exact q1, vs, sH _ _ q2, q3.mono sI (Pre.refl m)⟩
    | ins C ds =>
      obtain ⟨q1, dx, vs, q2, q3, q4, q5, q6⟩ := q
      exact ⟨by rw [upd_ne (ne_of_none q5 np)]; exact q1, dx, vs, by rw [upd_ne (ne_of_none q4 np)]; exact q2, q3, sH _ _ q4, sH _ _ q5, q6.mono sI (Pre.refl m)⟩
    | frz d =>
      obtain ⟨q1, q2⟩ := q
      refine ⟨fun z => q1 ?_, q2.mono sI (Pre.refl m)⟩
      by_cases hb : a = p
      · subst hb; exact nI
      · rw [upd_ne hb] at z; exact z
  · rw [upd_ne (ne_of_none h1 np)]
    exact h2
end L2.Mi

namespace L2.Mi
open PySem PySem.Spec PyProof.Rows L2

/-! ### weaker readings -/
theorem PEi {X : Cx} {e : Expr} {t t' : TE} (h : PE X e t) (w : ∀ σ H Q, t' σ H Q → t σ H Q) : PE X e t' := ⟨fun pins s σ H Q I q => h.run pins s σ H Q I (w σ H Q q)⟩
theorem PTi {X : Cx} {e : Expr} {t t' : TT} (h : PT X e t) (w : ∀ σ H Q, t' σ H Q → t σ H Q) : PT X e t' := ⟨fun pins s σ H Q I q => h.run pins s σ H Q I (w σ H Q q)⟩
theorem PWi {X : Cx} {e : Expr} {t t' : TT} (h : PW X e t) (w : ∀ σ H Q, t' σ H Q → t σ H Q) : PW X e t' := ⟨fun wh pins s σ H Q I q => h.run wh pins s σ H Q I (w σ H Q q)⟩
theorem PAi {X : Cx} {e : List Expr} {t t' : TA} (h : PA X e t) (w : ∀ σ H Q, t' σ H Q → t σ H Q) : PA X e t' := ⟨fun p pins s σ H Q I q => h.run p pins s σ H Q I (w σ H Q q)⟩

section
variable {X : Cx} {W : WX} {a b c e : Expr} {es rest : List Expr} {pos : Pos} {fa fb fc : ME} {f g : D → D → Cs → R D}

/-! ### names, constants -/
def mVar (i : Nat) : ME := fun l c => match l[i]? with
  | some (some d) => .ok d c
  | _ => .stuck
theorem me_var {i : Nat} (h : PE X e (tVar i)) : PE X e (rdE X.K W (mVar i)) := PEi h fun σ H Q ⟨I, m, l, c, r, L, A⟩ => by
  unfold mVar at A
  cases q : l[i]? with
  | none => rw [q] at A; exact A.elim
  | some o =>
    cases o with
    | none => rw [q] at A; exact A.elim
    | some d =>
      rw [q] at A
      obtain ⟨v, h1, h2⟩ := L.at_ i d q
      exact ⟨v, h1, A.here r h2⟩
def mC (d : D) : ME := fun _ c => .ok d c
theorem me_c {v : V} {d : D} (h : PE X e (tC v)) (p : ∀ I m, Rep X.K I m v d) : PE X e (rdE X.K W (mC d)) := PEi h fun σ H Q ⟨I, m, l, c, r, L, A⟩ => A.here r (p I m)
theorem me_int {i : Int} {j : Nat} : PE X (.Constant (.int i) j pos) (rdE X.K W (mC (.int i))) := me_c pe_int fun _ _ => .int i
theorem me_bl {i : Bool} {j : Nat} : PE X (.Constant (.bool i) j pos) (rdE X.K W (mC (.bl i))) := me_c pe_bl fun _ _ => .bl i
theorem me_non {j : Nat} : PE X (.Constant .none j pos) (rdE X.K W (mC .non)) := me_c pe_non fun _ _ => .non
theorem me_str {i : Str} {j : Nat} : PE X (.Constant (.str i) j pos) (rdE X.K W (mC (.str i))) := me_c pe_str fun _ _ => .str i

/-! ### operators -/
def OpS (K : PySem.W.Frag) (r : R2) (g : D → D → Cs → R D) : Prop := ∀ (I H : Hp) (m : List Addr) (c : Cs) (v1 v2 : V) (d1 d2 : D) (W : XK) (Q : VK),
  Rel K I H m c → Rep K I m v1 d1 → Rep K I m v2 d2 → After (rD K) K I m H W Q (g d1 d2 c) → r v1 v2 H Q
def mOp (g : D → D → Cs → R D) (a b : ME) : ME := fun l c => (a l c).bind fun x c1 => (b l c1).bind fun y c2 => g x y c2
theorem op_read {K : PySem.W.Frag} {r : R2} {σ : St} {H : Hp} {Q : VK} (hs : OpS K r g) (h : rdE K W (mOp g fa fb) σ H Q) : tOp r (rdE K W fa) (rdE K W fb) σ H Q := by
  obtain ⟨I, m, l, c, R, L, A⟩ := h
  refine ⟨I, m, l, c, R, L, After.mono (After.bind (rep := rD K) A) fun v1 H1 ⟨I1, m1, c1, d1, E1, R1, p1, A1⟩ => ?_⟩
  refine ⟨I1, m1, l, c1, R1, L.ext E1, After.mono (After.bind (rep := rD K) A1) fun v2 H2 ⟨I2, m2, c2, d2, E2, R2, p2, A2⟩ => ?_⟩
  exact hs _ _ _ _ _ _ _ _ _ _ R2 (Rep.ext p1 E2) p2 A2
theorem me_op {op : Operator} {r : R2} (ho : OpR X (binaryOp op) r) (hs : OpS X.K r g) (ha : PE X a (rdE X.K W fa)) (hb : PE X b (rdE X.K W fb)) : PE X (.BinOp a op b pos) (rdE X.K W (mOp g fa fb)) :=
  PEi (pe_op ho ha hb) fun _ _ _ h => op_read hs h
theorem me_cmp {op : CmpOp} {r : R2} (ho : OpR X (compareOp op) r) (hs : OpS X.K r g) (ha : PE X a (rdE X.K W fa)) (hb : PE X b (rdE X.K W fb)) (hm : behindInMarks op b = false) : PE X (.Compare a [op] [b] pos) (rdE X.K W (mOp g fa fb)) :=
  PEi (pe_cmpR ho ha hb hm) fun _ _ _ h => op_read hs h
theorem me_ix {r : R2} (ho : IxR X r) (hs : OpS X.K r g) (ha : PE X a (rdE X.K W fa)) (hb : PE X b (rdE X.K W fb)) (hp : PlainIx b) : PE X (.Subscript a b pos) (rdE X.K W (mOp g fa fb)) :=
  PEi (pe_ix ho ha hb hp) fun _ _ _ h => op_read hs h
def UnS (K : PySem.W.Frag) (r : V → Hp → VK → Prop) (g : D → Cs → R D) : Prop := ∀ (I H : Hp) (m : List Addr) (c : Cs) (v1 : V) (d1 : D) (W : XK) (Q : VK),
  Rel K I H m c → Rep K I m v1 d1 → After (rD K) K I m H W Q (g d1 c) → r v1 H Q
def mUn (g : D → Cs → R D) (a : ME) : ME := fun l c => (a l c).bind fun x c1 => g x c1
theorem me_un {op : UnaryOp} {r : V → Hp → VK → Prop} {g : D → Cs → R D} (ho : UnR X (unaryOp op) r) (hs : UnS X.K r g) (ha : PE X a (rdE X.K W fa)) : PE X (.UnaryOp op a pos) (rdE X.K W (mUn g fa)) :=
  PEi (pe_un ho ha) fun σ H Q ⟨I, m, l, c, R, L, A⟩ => ⟨I, m, l, c, R, L, After.mono (After.bind (rep := rD X.K) A) fun v1 H1 ⟨I1, m1, c1, d1, E1, R1, p1, A1⟩ => hs _ _ _ _ _ _ _ _ R1 p1 A1⟩
/-- a op1 b op2 c -/
def mChain (g g' : D → D → Cs → R D) (a b d : ME) : ME := fun l c => (a l c).bind fun x c1 => (b l c1).bind fun y c2 => (g x y c2).bind fun z c3 => match z with
  | .bl true => (d l c3).bind fun w c4 => g' y w c4
  | .bl false => .ok (.bl false) c3
  | _ => .stuck
theorem me_chain {op op' : CmpOp} {r r' : R2} (ho : OpR X (compareOp op) r) (hs : OpS X.K r f) (ho' : OpR X (compareOp op') r') (hs' : OpS X.K r' g) (ha : PE X a (rdE X.K W fa)) (hb : PE X b (rdE X.K W fb)) (hc : PE X c (rdE X.K W fc))
    (hm : lastMarks [op, op'] [b, c] = false := by with_unfolding_all rfl) : PE X (.Compare a [op, op'] [b, c] pos) (rdE X.K W (mChain f g fa fb fc)) := PEi (pe_chain ho ho' ha hb hc hm) fun σ H Q ⟨I, m, l, c, R, L, A⟩ => by
  refine ⟨I, m, l, c, R, L, After.mono (After.bind (rep := rD X.K) A) fun v1 H1 ⟨I1, m1, c1, d1, E1, R1, p1, A1⟩ => ?_⟩
  refine ⟨I1, m1, l, c1, R1, L.ext E1, After.mono (After.bind (rep := rD X.K) A1) fun v2 H2 ⟨I2, m2, c2, d2, E2, R2, p2, A2⟩ => ?_⟩
  refine hs _ _ _ _ _ _ _ _ _ _ R2 (Rep.ext p1 E2) p2 (After.mono (After.bind (rep := rD X.K) A2) fun v3 H3 ⟨I3, m3, c3, d3, E3, R3, p3, A3⟩ => ?_)
  cases p3 with
  | bl k =>
    refine ⟨k, rfl, ?_⟩
    cases k with
    | false =>
      rw [if_neg Bool.false_ne_true]
      exact A3.here R3 (Rep.bl false)
    | true =>
      rw [if_pos rfl]
      refine ⟨I3, m3, l, c3, R3, ((L.ext E1).ext E2).ext E3, After.mono (After.bind (rep := rD X.K) A3) fun v4 H4 ⟨I4, m4, c4, d4, E4, R4, p4, A4⟩ => ?_⟩
      exact hs' _ _ _ _ _ _ _ _ _ _ R4 (Rep.ext (Rep.ext p2 E3) E4) p4 A4
  | _ => exact A3.elim

/-! ### tests -/
def mT (a : ME) : MT := fun l c => (a l c).bind fun x c1 => match x with
  | .bl k => .ok k c1
  | _ => .stuck
theorem mt_val (ha : PE X e (rdE X.K W fa)) (he : ∀ whole, isTrue e X.env whole = (do let v ← whole; standAt e.pos; holding [v] (truthy v)) := by intro _; rfl) : PT X e (rdT X.K W (mT fa)) :=
  PTi (pt_val ha he) fun σ H Q ⟨I, m, l, c, R, L, A⟩ => ⟨I, m, l, c, R, L, After.mono (After.bind (rep := rD X.K) A) fun v1 H1 ⟨I1, m1, c1, d1, E1, R1, p1, A1⟩ => by
    cases p1 with
    | bl k => exact ⟨k, rfl, A1.here R1 rfl⟩
    | _ => exact A1.elim⟩
/-- a comparison as a test -/
theorem mt_cmp {op : CmpOp} {r : R2} (ho : OpR X (compareOp op) r) (hs : OpS X.K r g) (ha : PE X a (rdE X.K W fa)) (hb : PE X b (rdE X.K W fb)) (hm : behindInMarks op b = false) : PT X (.Compare a [op] [b] pos) (rdT X.K W (mT (mOp g fa fb))) :=
  PTi (pt_cmpR ho ha hb hm) fun σ H Q ⟨I, m, l, c, R, L, A⟩ => op_read hs ⟨I, m, l, c, R, L, After.mono (After.bind (rep := rD X.K) A) fun v1 H1 ⟨I1, m1, c1, d1, E1, R1, p1, A1⟩ => by
    cases p1 with
    | bl k => exact ⟨k, rfl, A1.here R1 rfl⟩
    | _ => exact A1.elim⟩
def tAndM (a b : MT) : MT := fun l c => (a l c).bind fun k c1 => match k with
  | true => b l c1
  | false => .ok false c1
def tOrM (a b : MT) : MT := fun l c => (a l c).bind fun k c1 => match k with
  | true => .ok true c1
  | false => b l c1
def tNotM (a : MT) : MT := fun l c => (a l c).bind fun k c1 => .ok (!k) c1
variable {ta tb : MT}
theorem mw_and1 (ha : PT X a (rdT X.K W ta)) : PW X (.BoolOp .And [a] pos) (rdT X.K W ta) := pw_and1 ha
theorem mw_or1 (ha : PT X a (rdT X.K W ta)) : PW X (.BoolOp .Or [a] pos) (rdT X.K W ta) := pw_or1 ha
theorem mw_and (ha : PT X a (rdT X.K W ta)) (hb : PW X (.BoolOp .And (b :: rest) pos) (rdT X.K W tb)) : PW X (.BoolOp .And (a :: b :: rest) pos) (rdT X.K W (tAndM ta tb)) :=
  PWi (pw_and ha hb) fun σ H Q ⟨I, m, l, c, R, L, A⟩ => ⟨I, m, l, c, R, L, After.mono (After.bind (rep := rB) A) fun v1 H1 ⟨I1, m1, c1, d1, E1, R1, p1, A1⟩ => by
    cases (show v1 = d1 from p1)
    cases v1 with
    | true => exact iteT <| ⟨I1, m1, l, c1, R1, L.ext E1, A1⟩
    | false => exact iteF <| A1.here R1 rfl⟩
theorem mw_or (ha : PT X a (rdT X.K W ta)) (hb : PW X (.BoolOp .Or (b :: rest) pos) (rdT X.K W tb)) : PW X (.BoolOp .Or (a :: b :: rest) pos) (rdT X.K W (tOrM ta tb)) :=
  PWi (pw_or ha hb) fun σ H Q ⟨I, m, l, c, R, L, A⟩ => ⟨I, m, l, c, R, L, After.mono (After.bind (rep := rB) A) fun v1 H1 ⟨I1, m1, c1, d1, E1, R1, p1, A1⟩ => by
    cases (show v1 = d1 from p1)
    cases v1 with
    | true => exact iteT <| A1.here R1 rfl
    | false => exact iteF <| ⟨I1, m1, l, c1, R1, L.ext E1, A1⟩⟩
theorem mt_not (ha : PT X a (rdT X.K W ta)) : PT X (.UnaryOp .Not a pos) (rdT X.K W (tNotM ta)) :=
  PTi (pt_not ha) fun σ H Q ⟨I, m, l, c, R, L, A⟩ => ⟨I, m, l, c, R, L, After.mono (After.bind (rep := rB) A) fun v1 H1 ⟨I1, m1, c1, d1, E1, R1, p1, A1⟩ => by
    cases (show v1 = d1 from p1)
    exact A1.here R1 rfl⟩
/-- and, or, not as values -/
def mAnd (a b : ME) : ME := fun l c => (a l c).bind fun x c1 => match x with
  | .bl true => b l c1
  | .bl false => .ok (.bl false) c1
  | _ => .stuck
def mOr (a b : ME) : ME := fun l c => (a l c).bind fun x c1 => match x with
  | .bl true => .ok (.bl true) c1
  | .bl false => b l c1
  | _ => .stuck
def mNot (a : ME) : ME := fun l c => (a l c).bind fun x c1 => match x with
  | .bl k => .ok (.bl (!k)) c1
  | _ => .stuck
theorem me_one {op : BoolOp} (ha : PE X a (rdE X.K W fa)) : PE X (.BoolOp op [a] pos) (rdE X.K W fa) := pe_one ha
theorem me_and (ha : PE X a (rdE X.K W fa)) (hb : PE X (.BoolOp .And (b :: rest) pos) (rdE X.K W fb)) : PE X (.BoolOp .And (a :: b :: rest) pos) (rdE X.K W (mAnd fa fb)) :=
  PEi (pe_and ha hb) fun σ H Q ⟨I, m, l, c, R, L, A⟩ => ⟨I, m, l, c, R, L, After.mono (After.bind (rep := rD X.K) A) fun v1 H1 ⟨I1, m1, c1, d1, E1, R1, p1, A1⟩ => by
    cases p1 with
    | bl k =>
      refine ⟨k, rfl, ?_⟩
      cases k with
      | true => exact iteT <| ⟨I1, m1, l, c1, R1, L.ext E1, A1⟩
      | false => exact iteF <| A1.here R1 (Rep.bl false)
    | _ => exact A1.elim⟩
theorem me_or (ha : PE X a (rdE X.K W fa)) (hb : PE X (.BoolOp .Or (b :: rest) pos) (rdE X.K W fb)) : PE X (.BoolOp .Or (a :: b :: rest) pos) (rdE X.K W (mOr fa fb)) :=
  PEi (pe_or ha hb) fun σ H Q ⟨I, m, l, c, R, L, A⟩ => ⟨I, m, l, c, R, L, After.mono (After.bind (rep := rD X.K) A) fun v1 H1 ⟨I1, m1, c1, d1, E1, R1, p1, A1⟩ => by
    cases p1 with
    | bl k =>
      refine ⟨k, rfl, ?_⟩
      cases k with
      | true => exact iteT <| A1.here R1 (Rep.bl true)
      | false => exact iteF <| ⟨I1, m1, l, c1, R1, L.ext E1, A1⟩
    | _ => exact A1.elim⟩
theorem me_not (ha : PE X a (rdE X.K W fa)) : PE X (.UnaryOp .Not a pos) (rdE X.K W (mNot fa)) :=
  PEi (pe_not ha) fun σ H Q ⟨I, m, l, c, R, L, A⟩ => ⟨I, m, l, c, R, L, After.mono (After.bind (rep := rD X.K) A) fun v1 H1 ⟨I1, m1, c1, d1, E1, R1, p1, A1⟩ => by
    cases p1 with
    | bl k => exact ⟨k, rfl, A1.here R1 (Rep.bl _)⟩
    | _ => exact A1.elim⟩
def mIf (t : MT) (a b : ME) : ME := fun l c => (t l c).bind fun k c1 => match k with
  | true => a l c1
  | false => b l c1
theorem me_if (ht : PT X c (rdT X.K W ta)) (ha : PE X a (rdE X.K W fa)) (hb : PE X b (rdE X.K W fb)) : PE X (.IfExp c a b pos) (rdE X.K W (mIf ta fa fb)) :=
  PEi (pe_ifExp ht ha hb) fun σ H Q ⟨I, m, l, c, R, L, A⟩ => ⟨I, m, l, c, R, L, After.mono (After.bind (rep := rB) A) fun v1 H1 ⟨I1, m1, c1, d1, E1, R1, p1, A1⟩ => by
    cases (show v1 = d1 from p1)
    cases v1 with
    | true => exact iteT <| ⟨I1, m1, l, c1, R1, L.ext E1, A1⟩
    | false => exact iteF <| ⟨I1, m1, l, c1, R1, L.ext E1, A1⟩⟩

/-! ### arguments, displays -/
def aNil : MA := fun _ c => .ok [] c
def aCons (a : ME) (t : MA) : MA := fun l c => (a l c).bind fun x c1 => (t l c1).bind fun xs c2 => .ok (x :: xs) c2
variable {ga : MA}
theorem ma_nil : PA X [] (rdA X.K W aNil) := PAi pa_nil fun σ H Q ⟨I, m, l, c, R, L, A⟩ => A.here R .nil
theorem ma_cons (ha : PE X e (rdE X.K W fa)) (ht : PA X es (rdA X.K W ga)) (hs : starEach (e :: es) X.env = (false, eval e X.env) :: starEach es X.env := by rfl) : PA X (e :: es) (rdA X.K W (aCons fa ga)) :=
  PAi (pa_cons ha ht hs) fun σ H Q ⟨I, m, l, c, R, L, A⟩ => ⟨I, m, l, c, R, L, After.mono (After.bind (rep := rD X.K) A) fun v1 H1 ⟨I1, m1, c1, d1, E1, R1, p1, A1⟩ =>
    ⟨I1, m1, l, c1, R1, L.ext E1, After.mono (After.bind (rep := rA X.K) A1) fun v2 H2 ⟨I2, m2, c2, d2, E2, R2, p2, A2⟩ => A2.here R2 (Reps.cons (Rep.ext p1 E2) p2)⟩⟩
/-- a size that fits -/
def fits {α : Type} (n : Nat) (r : R α) : R α := if n ≤ sizeLine then r else .stuck
theorem After.fits {α β : Type} {rep : Hp → List Addr → β → α → Prop} {K : PySem.W.Frag} {I H : Hp} {m : List Addr} {W : XK} {Q : β → Hp → Prop} {n : Nat} {r : R α} (h : After rep K I m H W Q (fits n r)) : n ≤ sizeLine ∧ After rep K I m H W Q r := by
  unfold Mi.fits at h
  split at h
  · exact ⟨by assumption, h⟩
  · exact h.elim
theorem After.new {K : PySem.W.Frag} {I H : Hp} {m : List Addr} {W : XK} {Q : VK} {c : Cs} {p : Addr} {o : HO} {d : D} (A : After (rD K) K I m H W Q (.ok d c)) (r : Rel K I H m c) (np : H p = none) (q : Rep K (upd I p o) m (.ref p) d) : Q (.ref p) (upd H p o) :=
  let ⟨r1, e1⟩ := alloc (o := o) r np
  A _ _ _ _ e1 r1 q
theorem upd_seen {I : Hp} {p : Addr} {o : HO} : upd I p o p = some o := upd_same
def mLst (t : MA) : ME := fun l c => (t l c).bind fun xs c1 => fits xs.length (.ok (.lst xs) c1)
def mTup (t : MA) : ME := fun l c => (t l c).bind fun xs c1 => fits xs.length (.ok (.tup xs) c1)
theorem same_upd {I H : Hp} {p : Addr} {o : HO} (s : Same I H) (np : H p = none) : Same I (upd I p o) := fun b u e => by rw [upd_ne (ne_of_none e (s.free np))]; exact e
theorem me_lst (h : PA X es (rdA X.K W ga)) : PE X (.List es pos) (rdE X.K W (mLst ga)) :=
  PEi (pe_lst h) fun σ H Q ⟨I, m, l, c, R, L, A⟩ => ⟨I, m, l, c, R, L, After.mono (After.bind (rep := rA X.K) A) fun v1 H1 ⟨I1, m1, c1, d1, E1, R1, p1, A1⟩ => by
    obtain ⟨z, A2⟩ := A1.fits
    have p1 : Reps X.K I1 m1 v1 d1 := p1
    exact ⟨by rw [p1.length]; exact z, fun p np => A2.new R1 np (.lst upd_same (p1.mono (same_upd R1.same np) (Pre.refl _)))⟩⟩
theorem me_tup {k : Nat} (h : PA X es (rdA X.K W ga)) : PE X (.Tuple es k pos) (rdE X.K W (mTup ga)) :=
  PEi (pe_tup h) fun σ H Q ⟨I, m, l, c, R, L, A⟩ => ⟨I, m, l, c, R, L, After.mono (After.bind (rep := rA X.K) A) fun v1 H1 ⟨I1, m1, c1, d1, E1, R1, p1, A1⟩ => by
    obtain ⟨z, A2⟩ := A1.fits
    have p1 : Reps X.K I1 m1 v1 d1 := p1
    exact ⟨by rw [p1.length]; exact z, fun p np => A2.new R1 np (.tup (SqT.of upd_same) (p1.mono (same_upd R1.same np) (Pre.refl _)))⟩⟩
end

/-! ### a cell is made, read, changed -/
theorem pre_app (m : List Addr) (a : Addr) : Pre m (m ++ [a]) := fun k b h => by
  have hk : k < m.length := (List.getElem?_eq_some_iff.mp h).1
  rw [List.getElem?_append_left hk]
  exact h
section
variable {K : PySem.W.Frag} {I H : Hp} {m : List Addr} {c : Cs}
/-- the addresses of cells are tracked, and not among what never changes unless frozen -/
theorem Rel.tracked (r : Rel K I H m c) {k : Nat} {a : Addr} (h : m[k]? = some a) : ∃ o, H a = some o := by
  have hk : k < c.length := by rw [← r.len]; exact (List.getElem?_eq_some_iff.mp h).1
  have q := r.cell k a c[k] h (List.getElem?_eq_getElem hk)
  cases e : c[k] with
  | lst ds => rw [e] at q; exact ⟨_, q.2.choose_spec.1⟩
  | dct ds => rw [e] at q; exact ⟨_, q.2.choose_spec.1⟩
  | ins C ds => rw [e] at q; obtain ⟨_, dx, vs, _, _, _, q5, _⟩ := q; exact ⟨_, q5⟩
  | frz d =>
    rw [e] at q
    cases z : I a with
    | none => exact absurd z q.1
    | some o => exact ⟨o, r.same _ _ z⟩
theorem Rel.fresh (r : Rel K I H m c) {p : Addr} (np : H p = none) : p ∉ m := fun h => by
  obtain ⟨k, hk⟩ := List.getElem?_of_mem h
  obtain ⟨o, e⟩ := r.tracked hk
  rw [np] at e; cases e
/-- a new mutable list -/
theorem Rel.push (r : Rel K I H m c) {p : Addr} (np : H p = none) {vs : List V} {ds : List D} (q : Reps K I m vs ds) : Rel K I (upd H p (.lst vs)) (m ++ [p]) (c ++ [.lst ds]) ∧ Ext I m H I (m ++ [p]) (upd H p (.lst vs)) := by
  have sH : Same H (upd H p (.lst vs)) := fun b u e => by rw [upd_ne (ne_of_none e np)]; exact e
  have hp := pre_app m p
  have nm := r.fresh np
  refine ⟨⟨r.same.trans sH, by simp [r.len], fun i j a h1 h2 => ?_, fun k a x h1 h2 => ?_⟩, Same.refl I, hp, fun b o h1 h2 h3 => ⟨sH _ _ h1, h2, ?_⟩⟩
  · rcases Nat.lt_or_ge i m.length with hi | hi
    · rcases Nat.lt_or_ge j m.length with hj | hj
      · rw [List.getElem?_append_left hi] at h1
        rw [List.getElem?_append_left hj] at h2
        exact r.nd i j a h1 h2
      · rw [List.getElem?_append_left hi] at h1
        rw [List.getElem?_append_right hj] at h2
        have e : a = p := by
          cases z : j - m.length with
          | zero => rw [z] at h2; simpa using h2.symm
          | succ n => rw [z] at h2; simp at h2
        exact absurd (List.mem_of_getElem? h1) (e ▸ nm)
    · rcases Nat.lt_or_ge j m.length with hj | hj
      · rw [List.getElem?_append_left hj] at h2
        rw [List.getElem?_append_right hi] at h1
        have e : a = p := by
          cases z : i - m.length with
          | zero => rw [z] at h1; simpa using h1.symm
          | succ n => rw [z] at h1; simp at h1
        exact absurd (List.mem_of_getElem? h2) (e ▸ nm)
      · have hi' := (List.getElem?_eq_some_iff.mp h1).1
        have hj' := (List.getElem?_eq_some_iff.mp h2).1
        simp at hi' hj'
        omega
  · rcases Nat.lt_or_ge k m.length with hk | hk
    · rw [List.getElem?_append_left hk] at h1
      rw [List.getElem?_append_left (by rw [← r.len]; exact hk)] at h2
      have q := r.cell k a x h1 h2
      cases x with
      | lst es =>
        obtain ⟨q1, ws, q2, q3⟩ := q
        exact ⟨q1, ws, sH _ _ q2, q3.mono (Same.refl I) hp⟩
      | dct es =>
        obtain ⟨q1, ws, q2, q3⟩ := q
        exact ⟨q1, ws, sH _ _ q2, q3.mono (Same.refl I) hp⟩
      | ins C es =>
        obtain ⟨q1, dx, ws, q2, q3, q4, q5, q6⟩ := q
        exact ⟨q1, dx, ws, q2, fun z => by
          rcases List.mem_append.mp z with z | z
          · exact q3 z
          · simp only [List.mem_singleton] at z
            exact ne_of_none q4 np z, sH _ _ q4, sH _ _ q5, q6.mono (Same.refl I) hp⟩
      | frz d => exact ⟨q.1, q.2.mono (Same.refl I) hp⟩
    · have hk' := (List.getElem?_eq_some_iff.mp h1).1
      simp at hk'
      have e : k = m.length := by omega
      subst e
      rw [List.getElem?_append_right (Nat.le_refl _)] at h1
      rw [r.len, List.getElem?_append_right (Nat.le_refl _)] at h2
      simp at h1 h2
      subst h1; subst h2
      exact ⟨r.same.free np, vs, upd_same, q.mono (Same.refl I) hp⟩
  · intro z
    rcases List.mem_append.mp z with z | z
    · exact h3 z
    · simp only [List.mem_singleton] at z
      exact ne_of_none h1 np z
/-- a list's cell is rewritten -/
theorem Rel.put (r : Rel K I H m c) {k : Nat} {a : Addr} {vs : List V} {ds ds0 : List D} (hm : m[k]? = some a) (hc : c[k]? = some (.lst ds0)) (q : Reps K I m vs ds) : Rel K I (upd H a (.lst vs)) m (c.set k (.lst ds)) ∧ Ext I m H I m (upd H a (.lst vs)) := by
  obtain ⟨n1, ws, n2, n3⟩ := r.cell k a _ hm hc
  refine ⟨⟨fun b o e => ?_, by simp [r.len], r.nd, fun j b x h1 h2 => ?_⟩, Same.refl I, Pre.refl m, fun b o h1 h2 h3 => ⟨?_, h2, h3⟩⟩
  · rw [upd_ne (ne_of_none e n1)]
    exact r.same _ _ e
  · by_cases hj : k = j
    · subst hj
      rw [List.getElem?_set_self (List.getElem?_eq_some_iff.mp hc).1] at h2
      rw [hm] at h1
      cases h1; cases h2
      exact ⟨n1, vs, upd_same, q⟩
    · rw [List.getElem?_set_ne hj] at h2
      have nb : b ≠ a := fun e => hj (r.nd k j a hm (e ▸ h1))
      have q := r.cell j b x h1 h2
      cases x with
      | lst es =>
        obtain ⟨q1, ws, q2, q3⟩ := q
        exact ⟨q1, ws, by rw [upd_ne nb]; exact q2, q3⟩
      | dct es =>
        obtain ⟨q1, ws, q2, q3⟩ := q
        exact ⟨q1, ws, by rw [upd_ne nb]; exact q2, q3⟩
      | ins C es =>
        obtain ⟨q1, dx, ws, q2, q3, q4, q5, q6⟩ := q
        exact ⟨q1, dx, ws, q2, q3, by rw [upd_ne (ne_of q4 n2 (by intro z; cases z))]; exact q4, by rw [upd_ne nb]; exact q5, q6⟩
      | frz d => exact q
  · rw [upd_ne (fun (e : b = a) => h3 (by rw [e]; exact List.mem_of_getElem? hm))]
    exact h1
/-- a list's cell does not change any more -/
theorem Rel.freeze (r : Rel K I H m c) {k : Nat} {a : Addr} {ds : List D} (hm : m[k]? = some a) (hc : c[k]? = some (.lst ds)) : ∃ I' : Hp, Rel K I' H m (c.set k (.frz (.lst ds))) ∧ Ext I m H I' m H ∧ Rep K I' m (.ref a) (.lst ds) := by
  obtain ⟨n1, ws, n2, n3⟩ := r.cell k a _ hm hc
  have sI : Same I (upd I a (.lst ws)) := fun b o e => by rw [upd_ne (ne_of_none e n1)]; exact e
  refine ⟨upd I a (.lst ws), ⟨fun b o e => ?_, by simp [r.len], r.nd, fun j b x h1 h2 => ?_⟩, ⟨sI, Pre.refl m, fun b o h1 h2 h3 => ⟨h1, ?_, h3⟩⟩, .lst upd_same (n3.mono sI (Pre.refl m))⟩
  · by_cases hb : b = a
    · subst hb
      rw [upd_same] at e
      cases e
      exact n2
    · rw [upd_ne hb] at e
      exact r.same _ _ e
  · by_cases hj : k = j
    · subst hj
      rw [List.getElem?_set_self (List.getElem?_eq_some_iff.mp hc).1] at h2
      rw [hm] at h1
      cases h1; cases h2
      exact ⟨by rw [upd_same]; exact nofun, .lst upd_same (n3.mono sI (Pre.refl m))⟩
    · rw [List.getElem?_set_ne hj] at h2
      have nb : b ≠ a := fun e => hj (r.nd k j a hm (e ▸ h1))
      have q := r.cell j b x h1 h2
      cases x with
      | lst es =>
        obtain ⟨q1, ws, q2, q3⟩ := q
        exact ⟨by rw [upd_ne nb]; exact q1, ws, q2, q3.mono sI (Pre.refl m)⟩
      | dct es =>
        obtain ⟨q1, ws, q2, q3⟩ := q
        exact ⟨by rw [upd_ne nb]; exact q1, ws, q2, q3.mono sI (Pre.refl m)⟩
      | ins C es =>
        obtain ⟨q1, dx, ws, q2, q3, q4, q5, q6⟩ := q
        exact ⟨by rw [upd_ne nb]; exact q1, dx, ws, by rw [upd_ne (ne_of q4 n2 (by intro z; cases z))]; exact q2, q3, q4, q5, q6.mono sI (Pre.refl m)⟩
      | frz d => exact ⟨by rw [upd_ne nb]; exact q.1, q.2.mono sI (Pre.refl m)⟩
  · rw [upd_ne (fun (e : b = a) => h3 (by rw [e]; exact List.mem_of_getElem? hm))]
    exact h2
end
end L2.Mi

namespace L2.Mi
open PySem PySem.Spec PyProof.Rows L2

section
variable {K : PySem.W.Frag}
/-- a pure answer -/
theorem pureD {I H : Hp} {m : List Addr} {c : Cs} {W : XK} {Q : VK} {v : V} {d : D} (A : After (rD K) K I m H W Q (.ok d c)) (r : Rel K I H m c) (p : Rep K I m v d) : Q v H := A.here r p

/-! ### + - * // % ** -/
def addD : D → D → Cs → R D
  | .int i, .int j, c => .ok (.int (i + j)) c
  | .str s, .str t, c => fits (s.length + t.length) (.ok (.str (s ++ t)) c)
  | .lst a, .lst b, c => fits (a.length + b.length) (.ok (.lst (a ++ b)) c)
  | .int i, .bl b, c => .ok (.int (i + b2i b)) c
  | .tup a, .tup b, c => match a, b with
    | [], _ => .stuck
    | _, [] => .stuck
    | _, _ => fits (a.length + b.length) (.ok (.tup (a ++ b)) c)
  | _, _, _ => .stuck
def rAddA (K : PySem.W.Frag) : R2 := fun x y H Q => (∃ i j, x = .int i ∧ y = .int j ∧ Q (.int (i + j)) H) ∨ (∃ i j, x = .str i ∧ y = .str j ∧ i.length + j.length ≤ sizeLine ∧ Q (.str (i ++ j)) H) ∨ rCat x y H Q ∨
  (∃ i k, x = .int i ∧ y = .bl k ∧ Q (.int (i + b2i k)) H) ∨ rCatT K x y H Q
theorem op_addA {X : Cx} : OpR X (binaryOp .Add) (rAddA X.K) := op_add.or (op_add_str.or (op_cat.or (op_add_ib.or op_catT)))
theorem os_add : OpS K (rAddA K) addD := fun I H m c v1 v2 d1 d2 W Q R p1 p2 A => by
  cases p1 with
  | int i =>
    cases p2 with
    | int j => exact .inl ⟨i, j, rfl, rfl, A.here R (.int _)⟩
    | bl b => exact .inr (.inr (.inr (.inl ⟨i, b, rfl, rfl, A.here R (.int _)⟩)))
    | _ => exact A.elim
  | str s =>
    cases p2 with
    | str t =>
      obtain ⟨z, A⟩ := After.fits (show After (rD K) K I m H W Q (fits (s.length + t.length) (.ok (.str (s ++ t)) c)) from A)
      exact .inr (.inl ⟨s, t, rfl, rfl, z, A.here R (.str _)⟩)
    | _ => exact A.elim
  | lst h1 r1 =>
    cases p2 with
    | @lst b ws es h2 r2 =>
      obtain ⟨z, A⟩ := After.fits A
      rw [← r1.length, ← r2.length] at z
      refine .inr (.inr (.inl ⟨_, b, _, _, rfl, rfl, R.same _ _ h1, R.same _ _ h2, z, fun p np => ?_⟩))
      exact A.new R np (.lst upd_same ((r1.append r2).mono (same_upd R.same np) (Pre.refl _)))
    | _ => exact A.elim
  | @tup a1 vs1 ds1 h1 r1 =>
    cases p2 with
    | @tup a2 vs2 ds2 h2 r2 =>
      cases ds1 with
      | nil => exact A.elim
      | cons x xs =>
        cases ds2 with
        | nil => exact A.elim
        | cons y ys =>
          obtain ⟨z, A⟩ := After.fits (show After (rD K) K I m H W Q (fits ((x :: xs).length + (y :: ys).length) (.ok (.tup ((x :: xs) ++ (y :: ys))) c)) from A)
          rw [← r1.length, ← r2.length] at z
          refine .inr (.inr (.inr (.inr ⟨_, a2, _, _, rfl, rfl, sqT_same R.same h1, sqT_same R.same h2, ?_, z, ?_, ?_⟩)))
          · intro e; rw [e] at r1; have := r1.length; simp at this
          · intro e; rw [e] at r2; have := r2.length; simp at this
          · exact fun _ p np => A.new R np (.tup (SqT.of upd_same) ((r1.append r2).mono (same_upd R.same np) (Pre.refl _)))
    | _ => exact A.elim
  | _ => exact A.elim

def subD : D → D → Cs → R D
  | .int i, .int j, c => .ok (.int (i - j)) c
  | _, _, _ => .stuck
theorem os_sub : OpS K (rI0 fun i j => .int (i - j)) subD := fun I H m c v1 v2 d1 d2 W Q R p1 p2 A => by
  cases p1 with
  | int i =>
    cases p2 with
    | int j => exact ⟨i, j, rfl, rfl, A.here R (.int _)⟩
    | _ => exact A.elim
  | _ => exact A.elim
/-- the guard of a rule about two ints -/
def intC (C : Int → Int → Prop) [∀ i j, Decidable (C i j)] (g : Int → Int → Int) : D → D → Cs → R D
  | .int i, .int j, c => if C i j then .ok (.int (g i j)) c else .stuck
  | _, _, _ => .stuck
theorem os_intC {C : Int → Int → Prop} [∀ i j, Decidable (C i j)] {g : Int → Int → Int} : OpS K (rI C fun i j => .int (g i j)) (intC C g) := fun I H m c v1 v2 d1 d2 W Q R p1 p2 A => by
  cases p1 with
  | int i =>
    cases p2 with
    | int j =>
      by_cases hc : C i j
      · have A2 : After (rD K) K I m H W Q (if C i j then .ok (.int (g i j)) c else .stuck) := A
        rw [if_pos hc] at A2
        exact ⟨i, j, rfl, rfl, hc, A2.here R (.int _)⟩
      · have A2 : After (rD K) K I m H W Q (if C i j then .ok (.int (g i j)) c else .stuck) := A
        rw [if_neg hc] at A2
        exact A2.elim
    | _ => exact A.elim
  | _ => exact A.elim
instance : ∀ i j, Decidable (CMul i j) := fun i j => inferInstanceAs (Decidable ((-(2 ^ 64) < i ∧ i < 2 ^ 64) ∨ (-(2 ^ 64) < j ∧ j < 2 ^ 64)))
instance : ∀ i j, Decidable (CDivN i j) := fun i j => inferInstanceAs (Decidable (j ≠ 0 ∧ j.natAbs < 1073741824))
instance : ∀ i j, Decidable (CPow i j) := fun i j => inferInstanceAs (Decidable (0 ≤ j ∧ j ≤ 1000000 ∧ i.natAbs < 2 ^ 64))
def CNz (_ j : Int) : Prop := j ≠ 0
instance : ∀ i j, Decidable (CNz i j) := fun i j => inferInstanceAs (Decidable (j ≠ 0))
/-- list * int, text * int are further on -/
def mulI : D → D → Cs → R D := intC CMul (· * ·)
def divI : D → D → Cs → R D := intC CDivN Int.fdiv
def modI : D → D → Cs → R D := intC CNz Int.fmod
def powI : D → D → Cs → R D := intC CPow fun i j => i ^ j.toNat
theorem os_mulI : OpS K (rI CMul fun i j => .int (i * j)) mulI := os_intC
theorem os_divI : OpS K (rI CDivN fun i j => .int (i.fdiv j)) divI := os_intC
theorem os_modI : OpS K (rI (fun _ j => j ≠ 0) fun i j => .int (i.fmod j)) modI := os_intC (C := CNz)
theorem os_powI : OpS K (rI CPow fun i j => .int (i ^ j.toNat)) powI := os_intC
def negD : D → Cs → R D
  | .int i, c => .ok (.int (-i)) c
  | _, _ => .stuck
theorem us_neg : UnS K (rU fun i => .int (-i)) negD := fun I H m c v1 d1 W Q R p1 A => by
  cases p1 with
  | int i => exact ⟨i, rfl, A.here R (.int _)⟩
  | _ => exact A.elim

/-! ### comparisons -/
def cmpI (p : Int → Int → Bool) : D → D → Cs → R D
  | .int i, .int j, c => .ok (.bl (p i j)) c
  | _, _, _ => .stuck
theorem os_cmpI {p : Int → Int → Bool} : OpS K (rI0 fun i j => .bl (p i j)) (cmpI p) := fun I H m c v1 v2 d1 d2 W Q R p1 p2 A => by
  cases p1 with
  | int i =>
    cases p2 with
    | int j => exact ⟨i, j, rfl, rfl, A.here R (.bl _)⟩
    | _ => exact A.elim
  | _ => exact A.elim
def rLtA : R2 := fun x y H Q => rI0 (fun i j => .bl (decide (i < j))) x y H Q ∨ ∃ i j, x = .str i ∧ y = .str j ∧ Q (.bl (decide (i.cps.toList < j.cps.toList))) H
def rLeA : R2 := fun x y H Q => rI0 (fun i j => .bl (decide (i ≤ j))) x y H Q ∨ ∃ i j, x = .str i ∧ y = .str j ∧ Q (.bl (!decide (j.cps.toList < i.cps.toList))) H
theorem op_ltA {X : Cx} : OpR X (compareOp .Lt) rLtA := op_lt.or op_lt_str
theorem op_leA {X : Cx} : OpR X (compareOp .LtE) rLeA := op_le.or op_le_str
def ltD : D → D → Cs → R D
  | .int i, .int j, c => .ok (.bl (decide (i < j))) c
  | .str i, .str j, c => .ok (.bl (decide (i.cps.toList < j.cps.toList))) c
  | _, _, _ => .stuck
def leD : D → D → Cs → R D
  | .int i, .int j, c => .ok (.bl (decide (i ≤ j))) c
  | .str i, .str j, c => .ok (.bl (!decide (j.cps.toList < i.cps.toList))) c
  | _, _, _ => .stuck
theorem os_lt : OpS K rLtA ltD := fun I H m c v1 v2 d1 d2 W Q R p1 p2 A => by
  cases p1 with
  | int i =>
    cases p2 with
    | int j => exact .inl ⟨i, j, rfl, rfl, A.here R (.bl _)⟩
    | _ => exact A.elim
  | str i =>
    cases p2 with
    | str j => exact .inr ⟨i, j, rfl, rfl, A.here R (.bl _)⟩
    | _ => exact A.elim
  | _ => exact A.elim
theorem os_le : OpS K rLeA leD := fun I H m c v1 v2 d1 d2 W Q R p1 p2 A => by
  cases p1 with
  | int i =>
    cases p2 with
    | int j => exact .inl ⟨i, j, rfl, rfl, A.here R (.bl _)⟩
    | _ => exact A.elim
  | str i =>
    cases p2 with
    | str j => exact .inr ⟨i, j, rfl, rfl, A.here R (.bl _)⟩
    | _ => exact A.elim
  | _ => exact A.elim
def gtD : D → D → Cs → R D := cmpI fun i j => decide (j < i)
def geD : D → D → Cs → R D := cmpI fun i j => decide (j ≤ i)

/-! ### data as the library has it -/
mutual
def toPy : D → Option PyData
  | .non => some .none
  | .bl b => some (.bool b)
  | .int i => some (.int i)
  | .str s => some (.str s)
  | .lst xs => match toPys xs with
    | some ys => some (.list ys)
    | none => none
  | .tup xs => match toPys xs with
    | some ys => some (.tuple ys)
    | none => none
  | _ => none
def toPys : List D → Option (List PyData)
  | [] => some []
  | x :: xs => match toPy x with
    | some y => match toPys xs with
      | some ys => some (y :: ys)
      | none => none
    | none => none
end
mutual
theorem rep_dp {I H : Hp} {m : List Addr} (s : Same I H) : ∀ {v : V} {d : D} {p : PyData}, Rep K I m v d → toPy d = some p → Dp K H v p
  | _, _, _, .non, e => by simp [toPy] at e; subst e; exact .non
  | _, _, _, .bl b, e => by simp [toPy] at e; subst e; exact .bl b
  | _, _, _, .int i, e => by simp [toPy] at e; subst e; exact .int i
  | _, _, _, .str x, e => by simp [toPy] at e; subst e; exact .str x
  | _, _, _, .lst (ds := ds) h r, e => by
    unfold toPy at e
    cases q : toPys ds with
    | none => rw [q] at e; cases e
    | some ys => rw [q] at e; cases e; exact .lst (SqL.of (s _ _ h)) (reps_dp s r q)
  | _, _, _, .tup (ds := ds) h r, e => by
    unfold toPy at e
    cases q : toPys ds with
    | none => rw [q] at e; cases e
    | some ys => rw [q] at e; cases e; exact .tup (sqT_same s h) (reps_dp s r q)
  | _, _, _, .ro h r, e => by simp [toPy] at e
  | _, _, _, .dct h r, e => by simp [toPy] at e
  | _, _, _, .ref h, e => by simp [toPy] at e
  | _, _, _, .obj h r, e => by simp [toPy] at e
  | _, _, _, .adr a, e => by simp [toPy] at e
  | _, _, _, .ty n, e => by simp [toPy] at e
theorem reps_dp {I H : Hp} {m : List Addr} (s : Same I H) : ∀ {v : List V} {d : List D} {p : List PyData}, Reps K I m v d → toPys d = some p → DpAll K H v p
  | _, _, _, .nil, e => by simp [toPys] at e; subst e; exact .nil
  | _, _, _, .cons (d := d) (ds := ds) h t, e => by
    unfold toPys at e
    cases q : toPy d with
    | none => rw [q] at e; cases e
    | some y =>
      cases q2 : toPys ds with
      | none => rw [q, q2] at e; cases e
      | some ys => rw [q, q2] at e; cases e; exact .cons (rep_dp s h q) (reps_dp s t q2)
end
/-- == of data -/
def eqP (neg : Bool) (d e : D) (c : Cs) : R D := match toPy d with
  | some a => match toPy e with
    | some b => if SeqAt.shaped a = true ∧ SeqAt.shaped b = true then .ok (.bl (if neg then !PyData.eqv a b else PyData.eqv a b)) c else .stuck
    | none => .stuck
  | none => .stuck
def eqD : D → D → Cs → R D
  | .int i, .int j, c => .ok (.bl (decide (i = j))) c
  | .str i, .str j, c => .ok (.bl (decide (i = j))) c
  | .bl i, .bl j, c => .ok (.bl (decide (i = j))) c
  | d, e, c => eqP false d e c
def neD : D → D → Cs → R D
  | .int i, .int j, c => .ok (.bl (!decide (i = j))) c
  | .str i, .str j, c => .ok (.bl (!decide (i = j))) c
  | .bl i, .bl j, c => .ok (.bl (!decide (i = j))) c
  | d, e, c => eqP true d e c
def rEqA (K : PySem.W.Frag) : R2 := fun x y H Q => rEq x y H Q ∨ rEqD K x y H Q
def rNeA (K : PySem.W.Frag) : R2 := fun x y H Q => rNe x y H Q ∨ rNeD K x y H Q
theorem op_eqA {X : Cx} (hu : X.A.units + 64 < cLine) : OpR X (compareOp .Eq) (rEqA X.K) := op_eq.or (op_eqD hu)
theorem op_neA {X : Cx} (hu : X.A.units + 64 < cLine) : OpR X (compareOp .NotEq) (rNeA X.K) := op_ne.or (op_neD hu)
theorem eqP_read {I H : Hp} {m : List Addr} {c : Cs} {W : XK} {Q : VK} {v1 v2 : V} {d1 d2 : D} {neg : Bool} (R : Rel K I H m c) (p1 : Rep K I m v1 d1) (p2 : Rep K I m v2 d2) (A : After (rD K) K I m H W Q (eqP neg d1 d2 c)) :
    ∃ d e, Dp K H v1 d ∧ Dp K H v2 e ∧ SeqAt.shaped d = true ∧ SeqAt.shaped e = true ∧ Q (.bl (if neg then !PyData.eqv d e else PyData.eqv d e)) H := by
  unfold eqP at A
  cases q1 : toPy d1 with
  | none => rw [q1] at A; exact A.elim
  | some a =>
    cases q2 : toPy d2 with
    | none => rw [q1, q2] at A; exact A.elim
    | some b =>
      rw [q1, q2] at A
      by_cases hs : SeqAt.shaped a = true ∧ SeqAt.shaped b = true
      · have A2 : After (rD K) K I m H W Q (if SeqAt.shaped a = true ∧ SeqAt.shaped b = true then .ok (.bl (if neg then !PyData.eqv a b else PyData.eqv a b)) c else .stuck) := A
        rw [if_pos hs] at A2
        exact ⟨a, b, rep_dp R.same p1 q1, rep_dp R.same p2 q2, hs.1, hs.2, A2.here R (.bl _)⟩
      · have A2 : After (rD K) K I m H W Q (if SeqAt.shaped a = true ∧ SeqAt.shaped b = true then .ok (.bl (if neg then !PyData.eqv a b else PyData.eqv a b)) c else .stuck) := A
        rw [if_neg hs] at A2
        exact A2.elim
theorem decV {α : Type} [DecidableEq α] {f : α → V} (hf : ∀ a b, f a = f b → a = b) (a b : α) : decide (f a = f b) = decide (a = b) := by
  by_cases h : a = b
  · subst h; simp
  · rw [decide_eq_false h, decide_eq_false fun e => h (hf _ _ e)]
theorem os_eq : OpS K (rEqA K) eqD := fun I H m c v1 v2 d1 d2 W Q R p1 p2 A => by
  have gen : After (rD K) K I m H W Q (eqP false d1 d2 c) → rEqA K v1 v2 H Q := fun A => .inr (eqP_read R p1 p2 A)
  cases p1 with
  | int i => cases p2 with
    | int j => exact .inl ⟨rfl, by rw [decV (f := V.int) fun _ _ e => V.int.inj e]; exact A.here R (.bl _)⟩
    | _ => exact gen A
  | str i => cases p2 with
    | str j => exact .inl ⟨rfl, by rw [decV (f := V.str) fun _ _ e => V.str.inj e]; exact A.here R (.bl _)⟩
    | _ => exact gen A
  | bl i => cases p2 with
    | bl j => exact .inl ⟨rfl, by rw [decV (f := V.bl) fun _ _ e => V.bl.inj e]; exact A.here R (.bl _)⟩
    | _ => exact gen A
  | _ => exact gen A
theorem os_ne : OpS K (rNeA K) neD := fun I H m c v1 v2 d1 d2 W Q R p1 p2 A => by
  have gen : After (rD K) K I m H W Q (eqP true d1 d2 c) → rNeA K v1 v2 H Q := fun A => .inr (eqP_read (neg := true) R p1 p2 A)
  cases p1 with
  | int i => cases p2 with
    | int j => exact .inl ⟨rfl, by rw [decV (f := V.int) fun _ _ e => V.int.inj e]; exact A.here R (.bl _)⟩
    | _ => exact gen A
  | str i => cases p2 with
    | str j => exact .inl ⟨rfl, by rw [decV (f := V.str) fun _ _ e => V.str.inj e]; exact A.here R (.bl _)⟩
    | _ => exact gen A
  | bl i => cases p2 with
    | bl j => exact .inl ⟨rfl, by rw [decV (f := V.bl) fun _ _ e => V.bl.inj e]; exact A.here R (.bl _)⟩
    | _ => exact gen A
  | _ => exact gen A
/-- is None, is not None -/
def isNoneD : D → Bool
  | .non => true
  | _ => false
def isD : D → D → Cs → R D := fun d e c => match e with
  | .non => .ok (.bl (isNoneD d)) c
  | _ => .stuck
def isntD : D → D → Cs → R D := fun d e c => match e with
  | .non => .ok (.bl (!isNoneD d)) c
  | _ => .stuck
theorem rep_non {I : Hp} {m : List Addr} {v : V} {d : D} (p : Rep K I m v d) : decide (v = .non) = isNoneD d := by
  cases p <;> first | rfl | exact decide_eq_false nofun
theorem os_is : OpS K (fun x y H Q => y = .non ∧ Q (.bl (decide (x = .non))) H) isD := fun I H m c v1 v2 d1 d2 W Q R p1 p2 A => by
  cases p2 with
  | non => exact ⟨rfl, by rw [rep_non p1]; exact A.here R (.bl _)⟩
  | _ => exact A.elim
theorem os_isnt : OpS K (fun x y H Q => y = .non ∧ Q (.bl (!decide (x = .non))) H) isntD := fun I H m c v1 v2 d1 d2 W Q R p1 p2 A => by
  cases p2 with
  | non => exact ⟨rfl, by rw [rep_non p1]; exact A.here R (.bl _)⟩
  | _ => exact A.elim

/-! ### in, not in -/
def cps1 : Str → Option Nat := fun s => match s.cps.toList with
  | [c] => some c
  | _ => none
theorem cps1_eq {s : Str} {k : Nat} (h : cps1 s = some k) : s = ⟨#[k]⟩ := by
  unfold cps1 at h
  split at h
  · rename_i c e
    cases h
    obtain ⟨⟨l⟩⟩ := s
    simp at e
    rw [e]
  · cases h
/-- in, not in: one sign in a text, a flat value in a list or tuple of flat values, data in a list of data -/
def sgn (neg b : Bool) : Bool := if neg then !b else b
mutual
def flatD : D → Bool
  | .non => true
  | .bl _ => true
  | .int _ => true
  | .str _ => true
  | _ => false
end
def eqF : D → D → Bool
  | .non, .non => true
  | .bl a, .bl b => a == b
  | .bl a, .int j => (if a then 1 else 0) == j
  | .int i, .bl b => i == (if b then 1 else 0)
  | .int i, .int j => i == j
  | .str x, .str y => x == y
  | _, _ => false
def inL (neg : Bool) (d : D) (ys : List D) (c : Cs) : R D :=
  if flatD d = true ∧ ys.all flatD = true then .ok (.bl (sgn neg (ys.any fun y => eqF y d))) c else .stuck
def inD (neg : Bool) : D → D → Cs → R D
  | .str a, .str b, c => match cps1 a with
    | some k => .ok (.bl (sgn neg (decide (k ∈ b.cps.toList)))) c
    | none => .stuck
  | d, .lst ys, c => inL neg d ys c
  | d, .tup ys, c => inL neg d ys c
  | _, _, _ => .stuck
theorem flat_rep {I : Hp} {m : List Addr} {v : V} {d : D} (p : Rep K I m v d) (f : flatD d = true) : flatV v = true := by
  cases p <;> first | rfl | exact absurd (show false = true from f) Bool.false_ne_true
theorem eqF_rep {I : Hp} {m : List Addr} {v w : V} {d e : D} (p : Rep K I m v d) (q : Rep K I m w e) (f : flatD d = true) (g : flatD e = true) : eqV v w = eqF d e := by
  cases p <;> first
    | exact absurd (show false = true from f) Bool.false_ne_true
    | (cases q <;> first | rfl | exact absurd (show false = true from g) Bool.false_ne_true)
theorem flat_reps {I : Hp} {m : List Addr} : ∀ {vs : List V} {ds : List D}, Reps K I m vs ds → ds.all flatD = true → vs.all flatV = true
  | _, _, .nil, _ => rfl
  | _, _, .cons h t, f => by
    rw [List.all_cons, Bool.and_eq_true] at f ⊢
    exact ⟨flat_rep h f.1, flat_reps t f.2⟩
theorem any_reps {I : Hp} {m : List Addr} {v : V} {d : D} (p : Rep K I m v d) (f : flatD d = true) : ∀ {vs : List V} {ds : List D}, Reps K I m vs ds → ds.all flatD = true → (vs.any fun y => eqV y v) = ds.any fun y => eqF y d
  | _, _, .nil, _ => rfl
  | _, _, .cons h t, g => by
    rw [List.all_cons, Bool.and_eq_true] at g
    rw [List.any_cons, List.any_cons, eqF_rep h p g.1 f, any_reps p f t g.2]
def rInA (K : PySem.W.Frag) (neg : Bool) : R2 := fun x y H Q => (∃ (k : Nat) (z : Str), x = .str ⟨#[k]⟩ ∧ y = .str z ∧ Q (.bl (sgn neg (decide (k ∈ z.cps.toList)))) H) ∨ rIn K neg x y H Q
theorem op_inA {X : Cx} : OpR X (compareOp .In) (rInA X.K false) := op_in_sign.or op_in_seq
theorem op_notinA {X : Cx} : OpR X (compareOp .NotIn) (rInA X.K true) := op_notIn_sign.or op_notIn_seq
theorem os_in {neg : Bool} : OpS K (rInA K neg) (inD neg) := fun I H m c v1 v2 d1 d2 W Q R p1 p2 A => by
  have seq : ∀ {p : Addr} {vs : List V} {ds : List D}, v2 = .ref p → (SqL K H p vs ∨ SqT K H p vs) → Reps K I m vs ds → After (rD K) K I m H W Q (inL neg d1 ds c) → rInA K neg v1 v2 H Q := fun {p vs ds} e hq rr A => by
    unfold inL at A
    by_cases hf : flatD d1 = true ∧ ds.all flatD = true
    · rw [if_pos hf] at A
      refine .inr ⟨p, vs, e, hq, flat_rep p1 hf.1, flat_reps rr hf.2, ?_⟩
      unfold inV
      rw [any_reps p1 hf.1 rr hf.2]
      exact A.here R (.bl _)
    · rw [if_neg hf] at A
      exact A.elim
  cases p2 with
  | str b =>
    cases p1 with
    | str a =>
      have A2 : After (rD K) K I m H W Q (match cps1 a with
        | some k => .ok (.bl (sgn neg (decide (k ∈ b.cps.toList)))) c
        | none => .stuck) := A
      cases q : cps1 a with
      | none => rw [q] at A2; exact A2.elim
      | some k =>
        rw [q] at A2
        exact .inl ⟨k, b, by rw [cps1_eq q], rfl, A2.here R (.bl _)⟩
    | _ => exact A.elim
  | lst h r => exact seq rfl (.inl (SqL.of (R.same _ _ h))) r (by cases p1 <;> exact A)
  | tup h r => exact seq rfl (.inr (sqT_same R.same h)) r (by cases p1 <;> exact A)
  | _ => cases p1 <;> exact A.elim

/-! ### items -/
theorem atI_reps {I : Hp} {m : List Addr} {vs : List V} {ds : List D} {i : Int} {d : D} (r : Reps K I m vs ds) (h : atI ds i = some d) : ∃ v, atI vs i = some v ∧ Rep K I m v d := by
  unfold atI at h ⊢
  rw [r.length]
  cases q : ixN ds.length i with
  | none => rw [q] at h; cases h
  | some j =>
    rw [q] at h
    exact r.get (i := j) h
def itL (ds : List D) (i : Int) (c : Cs) : R D := match atI ds i with
  | some d => .ok d c
  | none => .stuck
def itemD : D → D → Cs → R D
  | .lst ds, .int i, c => itL ds i c
  | .ro ds, .int i, c => itL ds i c
  | .tup ds, .int i, c => itL ds i c
  | .str s, .int i, c => fits s.length (match atI s.cps.toList i with
    | some k => .ok (.str ⟨#[k]⟩) c
    | none => .stuck)
  | .ref k, .int i, c => match c[k]? with
    | some (.lst ds) => itL ds i c
    | some (.frz (.lst ds)) => itL ds i c
    | _ => .stuck
  | _, _, _ => .stuck
theorem os_item : OpS K (rIx K) itemD := fun I H m c v1 v2 d1 d2 W Q R p1 p2 A => by
  have lst : ∀ {a : Addr} {vs : List V} {ds : List D} {i : Int}, v1 = .ref a → v2 = .int i → SqL K H a vs → Reps K I m vs ds → After (rD K) K I m H W Q (itL ds i c) → rIx K v1 v2 H Q := fun {a vs ds i} e1 e2 h r A => by
    unfold itL at A
    cases q : atI ds i with
    | none => rw [q] at A; exact A.elim
    | some d =>
      rw [q] at A
      obtain ⟨v, hv, pv⟩ := atI_reps r q
      exact .inl ⟨a, vs, i, v, e1, e2, h, hv, A.here R pv⟩
  cases p2 with
  | int i =>
    cases p1 with
    | lst h r => exact lst rfl rfl (SqL.of (R.same _ _ h)) r A
    | ro h r => exact lst rfl rfl (R.same.seq h) r A
    | @tup a vs ds h r =>
      have A2 : After (rD K) K I m H W Q (itL ds i c) := A
      unfold itL at A2
      cases q : atI ds i with
      | none => rw [q] at A2; exact A2.elim
      | some d =>
        rw [q] at A2
        obtain ⟨v, hv, pv⟩ := atI_reps r q
        exact .inr (.inl ⟨a, vs, i, v, rfl, rfl, sqT_same R.same h, hv, A2.here R pv⟩)
    | str s =>
      obtain ⟨z, A2⟩ := After.fits (show After (rD K) K I m H W Q (fits s.length (match atI s.cps.toList i with
        | some k => .ok (.str ⟨#[k]⟩) c
        | none => .stuck)) from A)
      cases q : atI s.cps.toList i with
      | none => rw [q] at A2; exact A2.elim
      | some k =>
        rw [q] at A2
        exact .inr (.inr ⟨s, i, k, rfl, rfl, z, q, A2.here R (.str _)⟩)
    | @ref k a h =>
      have A2 : After (rD K) K I m H W Q (match c[k]? with
        | some (.lst ds) => itL ds i c
        | some (.frz (.lst ds)) => itL ds i c
        | _ => .stuck) := A
      cases q : c[k]? with
      | none => rw [q] at A2; exact A2.elim
      | some x =>
        rw [q] at A2
        have hc := R.cell k a x h q
        cases x with
        | lst ds =>
          obtain ⟨_, vs, h1, h2⟩ := hc
          exact lst rfl rfl (SqL.of h1) h2 A2
        | frz d =>
          cases d with
          | lst ds =>
            obtain ⟨_, hr⟩ := hc
            cases hr with
            | lst h1 h2 => exact lst rfl rfl (SqL.of (R.same _ _ h1)) h2 A2
          | _ => exact A2.elim
        | _ => exact A2.elim
    | _ => exact A.elim
  | _ => cases p1 <;> exact A.elim

/-! ### slices -/
abbrev MO := Ls → Cs → R (Option Int)
def rO : Hp → List Addr → Option Int → Option Int → Prop := fun _ _ v d => v = d
abbrev rdO (K : PySem.W.Frag) (W : WX) (f : MO) : TO := rd rO K W f
def oNone : MO := fun _ c => .ok none c
def oSome (a : ME) : MO := fun l c => (a l c).bind fun x c1 => match x with
  | .int i => .ok (some i) c1
  | _ => .stuck
theorem POi {X : Cx} {e : Option Expr} {t t' : TO} (h : PO X e t) (w : ∀ σ H Q, t' σ H Q → t σ H Q) : PO X e t' := ⟨fun pins s σ H Q I q => h.run pins s σ H Q I (w σ H Q q)⟩
theorem mo_none {X : Cx} {W : WX} : PO X none (rdO X.K W oNone) := POi po_none fun σ H Q ⟨I, m, l, c, R, L, A⟩ => A.here R rfl
theorem mo_some {X : Cx} {W : WX} {e : Expr} {f : ME} (h : PE X e (rdE X.K W f)) : PO X (some e) (rdO X.K W (oSome f)) := POi (po_some h) fun σ H Q ⟨I, m, l, c, R, L, A⟩ =>
  ⟨I, m, l, c, R, L, After.mono (After.bind (rep := rD X.K) A) fun v1 H1 ⟨I1, m1, c1, d1, E1, R1, p1, A1⟩ => by
    cases p1 with
    | int i => exact ⟨i, rfl, A1.here R1 rfl⟩
    | _ => exact A1.elim⟩
def cutD (xs : List D) (lo hi : Option Int) : List D := (xs.drop (HT.sIx xs.length 0 lo)).take (HT.sIx xs.length xs.length hi - HT.sIx xs.length 0 lo)
theorem cut_reps {I : Hp} {m : List Addr} {vs : List V} {ds : List D} (lo hi : Option Int) (r : Reps K I m vs ds) : Reps K I m (cutV vs lo hi) (cutD ds lo hi) := by
  unfold cutV cutD
  rw [r.length]
  exact (r.drop _).take _
def sliceD (d : D) (lo hi : Option Int) (c : Cs) : R D := match d with
  | .lst ds => .ok (.lst (cutD ds lo hi)) c
  | .str s => fits s.length (.ok (.str (cutS s lo hi)) c)
  | .ref k => match c[k]? with
    | some (.lst ds) => .ok (.lst (cutD ds lo hi)) c
    | _ => .stuck
  | _ => .stuck
def mSlice (a : ME) (lo hi : MO) : ME := fun l c => (a l c).bind fun x c1 => (lo l c1).bind fun i c2 => (hi l c2).bind fun j c3 => sliceD x i j c3
def rSlA (K : PySem.W.Frag) : V → Option Int → Option Int → Hp → VK → Prop := fun x lo hi H Q => rSlL K x lo hi H Q ∨ rSlS x lo hi H Q
theorem me_slice {X : Cx} {W : WX} {e : Expr} {lo hi : Option Expr} {f : ME} {fl fh : MO} {p2 pos : Pos} (he : PE X e (rdE X.K W f)) (hl : PO X lo (rdO X.K W fl)) (hh : PO X hi (rdO X.K W fh)) :
    PE X (.Subscript e (.Slice lo hi none p2) pos) (rdE X.K W (mSlice f fl fh)) := PEi (pe_slice (r := rSlA X.K) (sl_list.or sl_str) he hl hh) fun σ H Q ⟨I, m, l, c, R, L, A⟩ => by
  refine ⟨I, m, l, c, R, L, After.mono (After.bind (rep := rD X.K) A) fun v1 H1 ⟨I1, m1, c1, d1, E1, R1, p1, A1⟩ => ?_⟩
  refine ⟨I1, m1, l, c1, R1, L.ext E1, After.mono (After.bind (rep := rO) A1) fun v2 H2 ⟨I2, m2, c2, d2, E2, R2, p2, A2⟩ => ?_⟩
  refine ⟨I2, m2, l, c2, R2, (L.ext E1).ext E2, After.mono (After.bind (rep := rO) A2) fun v3 H3 ⟨I3, m3, c3, d3, E3, R3, p3, A3⟩ => ?_⟩
  cases (show v2 = d2 from p2)
  cases (show v3 = d3 from p3)
  have p := Rep.ext (Rep.ext p1 E2) E3
  have new : ∀ {a : Addr} {vs : List V} {ds : List D}, v1 = .ref a → SqL X.K H3 a vs → Reps X.K I3 m3 vs ds → After (rD X.K) X.K I3 m3 H3 (fun cls dd H' => W cls dd σ H') Q (.ok (.lst (cutD ds v2 v3)) c3) → rSlA X.K v1 v2 v3 H3 Q := fun {a vs ds} e h r A =>
    .inl ⟨a, vs, e, h, fun q nq => A.new R3 nq (.lst upd_same ((cut_reps v2 v3 r).mono (same_upd R3.same nq) (Pre.refl _)))⟩
  cases p with
  | lst h r => exact new rfl (SqL.of (R3.same _ _ h)) r A3
  | str s =>
    obtain ⟨z, A4⟩ := After.fits (show After (rD X.K) X.K I3 m3 H3 (fun cls dd H' => W cls dd σ H') Q (fits s.length (.ok (.str (cutS s v2 v3)) c3)) from A3)
    exact .inr ⟨s, rfl, z, A4.here R3 (.str _)⟩
  | @ref k a h =>
    have A4 : After (rD X.K) X.K I3 m3 H3 (fun cls dd H' => W cls dd σ H') Q (match c3[k]? with
      | some (.lst ds) => .ok (.lst (cutD ds v2 v3)) c3
      | _ => .stuck) := A3
    cases q : c3[k]? with
    | none => rw [q] at A4; exact A4.elim
    | some x =>
      rw [q] at A4
      cases x with
      | lst ds =>
        obtain ⟨_, vs, h1, h2⟩ := R3.cell k a _ h q
        exact new rfl (SqL.of h1) h2 A4
      | _ => exact A4.elim
  | _ => exact A3.elim

/-! ### calls of built-ins -/
def CallS (K : PySem.W.Frag) (r : List V → Hp → VK → Prop) (g : List D → Cs → R D) : Prop := ∀ (I H : Hp) (m : List Addr) (c : Cs) (vs : List V) (ds : List D) (W : XK) (Q : VK),
  Rel K I H m c → Reps K I m vs ds → After (rD K) K I m H W Q (g ds c) → r vs H Q
def mCB (g : List D → Cs → R D) (t : MA) : ME := fun l c => (t l c).bind fun xs c1 => g xs c1
theorem cb_read {X : Cx} {W : WX} {r : List V → Hp → VK → Prop} {g : List D → Cs → R D} {ga : MA} {σ : St} {H : Hp} {Q : VK} (hs : CallS X.K r g) (h : rdE X.K W (mCB g ga) σ H Q) : tCB r (rdA X.K W ga) σ H Q := by
  obtain ⟨I, m, l, c, R, L, A⟩ := h
  exact ⟨I, m, l, c, R, L, After.mono (After.bind (rep := rA X.K) A) fun v1 H1 ⟨I1, m1, c1, d1, E1, R1, p1, A1⟩ => hs _ _ _ _ _ _ _ _ R1 p1 A1⟩
def lenC (x : D) (c : Cs) : Option Nat := match x with
  | .lst ds => some ds.length
  | .ro ds => some ds.length
  | .tup ds => some ds.length
  | .str s => if s.length ≤ sizeLine then some s.length else none
  | .ref k => match c[k]? with
    | some (.lst ds) => some ds.length
    | some (.frz (.lst ds)) => some ds.length
    | _ => none
  | _ => none
def lenD : List D → Cs → R D
  | [x], c => match lenC x c with
    | some n => .ok (.int n) c
    | none => .stuck
  | _, _ => .stuck
theorem cs_len : CallS K (fun xs H Q => ∃ x n, xs = [x] ∧ LenV K x H n ∧ Q (.int n) H) lenD := fun I H m c vs ds W Q R p A => by
  cases p with
  | nil => exact A.elim
  | @cons v _ d _ h t =>
    cases t with
    | cons _ _ => exact A.elim
    | nil =>
      have A2 : After (rD K) K I m H W Q (match lenC d c with
        | some n => .ok (.int n) c
        | none => .stuck) := A
      have fin : ∀ {n : Nat}, lenC d c = some n → LenV K v H n → ∃ x n, [v] = [x] ∧ LenV K x H n ∧ Q (.int n) H := fun {n} e hl => by
        rw [e] at A2
        exact ⟨v, n, rfl, hl, A2.here R (.int _)⟩
      cases h with
      | lst h r => exact fin rfl (.inl ⟨_, SqL.of (R.same _ _ h), r.length.symm⟩)
      | ro h r => exact fin rfl (.inl ⟨_, R.same.seq h, r.length.symm⟩)
      | tup h r => exact fin rfl (.inr ⟨_, sqT_same R.same h, r.length.symm⟩)
      | str s =>
        by_cases hz : s.length ≤ sizeLine
        · exact fin (if_pos hz) ⟨hz, rfl⟩
        · rw [show lenC (.str s) c = none from if_neg hz] at A2
          exact A2.elim
      | @ref k a h =>
        have lk : lenC (.ref k) c = (match c[k]? with
          | some (.lst ds) => some ds.length
          | some (.frz (.lst ds)) => some ds.length
          | _ => none) := rfl
        cases q : c[k]? with
        | none => rw [lk, q] at A2; exact A2.elim
        | some x =>
          have hc := R.cell k a x h q
          cases x with
          | lst ds =>
            obtain ⟨_, vs, h1, h2⟩ := hc
            exact fin (by rw [lk, q]) (.inl ⟨_, SqL.of h1, h2.length.symm⟩)
          | frz d =>
            cases d with
            | lst ds =>
              obtain ⟨_, hr⟩ := hc
              cases hr with
              | lst h1 h2 => exact fin (by rw [lk, q]) (.inl ⟨_, SqL.of (R.same _ _ h1), h2.length.symm⟩)
            | _ => rw [lk, q] at A2; exact A2.elim
          | _ => rw [lk, q] at A2; exact A2.elim
      | _ => exact A2.elim
def ints2 (g : Int → Int → Int) : List D → Cs → R D
  | [.int i, .int j], c => .ok (.int (g i j)) c
  | _, _ => .stuck
theorem two_ints {I H : Hp} {m : List Addr} {c : Cs} {W : XK} {Q : VK} {vs : List V} {ds : List D} {g : Int → Int → Int} (R : Rel K I H m c) (p : Reps K I m vs ds) (A : After (rD K) K I m H W Q (ints2 g ds c)) : ∃ i j, vs = [.int i, .int j] ∧ Q (.int (g i j)) H := by
  cases p with
  | nil => exact A.elim
  | cons h t =>
    cases t with
    | nil => cases h <;> exact A.elim
    | cons h2 t2 =>
      cases t2 with
      | cons _ _ => cases h <;> first | exact A.elim | (cases h2 <;> exact A.elim)
      | nil =>
        cases h with
        | int i =>
          cases h2 with
          | int j => exact ⟨i, j, rfl, A.here R (.int _)⟩
          | _ => exact A.elim
        | _ => exact A.elim
def max2 : List D → Cs → R D := ints2 fun i j => if j > i then j else i
def min2 : List D → Cs → R D := ints2 fun i j => if j < i then j else i
theorem cs_max2 : CallS K (fun xs H Q => ∃ i j, xs = [.int i, .int j] ∧ Q (.int (if j > i then j else i)) H) max2 := fun I H m c vs ds W Q R p A => two_ints R p A
theorem cs_min2 : CallS K (fun xs H Q => ∃ i j, xs = [.int i, .int j] ∧ Q (.int (if j < i then j else i)) H) min2 := fun I H m c vs ds W Q R p A => two_ints R p A
end
end L2.Mi

namespace L2.Mi
open PySem PySem.Spec PyProof.Rows L2

/-! ### statements -/
inductive Fl where
  | nx (l : Ls)
  | rt (d : D)
  | bk (l : Ls)
  | ct (l : Ls)
inductive RS where
  | stuck
  | go (f : Fl) (c : Cs)
  | exc (x : Ex) (l : Ls) (c : Cs)
abbrev MS := Ls → Cs → RS
/-- what is wanted behind a statement -/
def AfterS (K : PySem.W.Frag) (I : Hp) (m : List Addr) (H : Hp) (W : WX) (D : Ends) : RS → Prop
  | .stuck => False
  | .go (.nx l) c => ∀ I' m' H' σ', Ext I m H I' m' H' → Rel K I' H' m' c → Locs K I' m' σ' l → D.nx σ' H'
  | .go (.rt d) c => ∀ I' m' H' v, Ext I m H I' m' H' → Rel K I' H' m' c → Rep K I' m' v d → D.rt v H'
  | .go (.bk l) c => ∀ I' m' H' σ', Ext I m H I' m' H' → Rel K I' H' m' c → Locs K I' m' σ' l → D.bk σ' H'
  | .go (.ct l) c => ∀ I' m' H' σ', Ext I m H I' m' H' → Rel K I' H' m' c → Locs K I' m' σ' l → D.ct σ' H'
  | .exc x l c => ∀ I' m' H' σ' cls dd, Ext I m H I' m' H' → Rel K I' H' m' c → Locs K I' m' σ' l → RepX K I' m' H' cls dd x → W cls dd σ' H'
def rdS (K : PySem.W.Frag) (W : WX) (f : MS) : TS := fun D σ H => ∃ I m l c, Rel K I H m c ∧ Locs K I m σ l ∧ AfterS K I m H W D (f l c)
theorem AfterS.ext {K : PySem.W.Frag} {I I1 H H1 : Hp} {m m1 : List Addr} {W : WX} {D : Ends} {r : RS} (e : Ext I m H I1 m1 H1) (a : AfterS K I m H W D r) : AfterS K I1 m1 H1 W D r := by
  cases r with
  | stuck => exact a
  | exc x l c => exact fun I' m' H' σ' cls dd e' => a I' m' H' σ' cls dd (e.trans e')
  | go f c => cases f <;> exact fun I' m' H' v e' => a I' m' H' v (e.trans e')
/-- an expression, then a statement -/
def R.seq {α : Type} (r : R α) (l : Ls) (f : α → Cs → RS) : RS := match r with
  | .stuck => .stuck
  | .ok a c => f a c
  | .exc x c => .exc x l c
@[simp] theorem R.seq_ok {α : Type} (a : α) (c : Cs) (l : Ls) (f : α → Cs → RS) : (R.ok a c).seq l f = f a c := rfl
@[simp] theorem R.seq_exc {α : Type} (x : Ex) (c : Cs) (l : Ls) (f : α → Cs → RS) : (R.exc x c : R α).seq l f = .exc x l c := rfl
@[simp] theorem R.seq_stuck {α : Type} (l : Ls) (f : α → Cs → RS) : (R.stuck : R α).seq l f = .stuck := rfl
def MidS {α β : Type} (rep : Hp → List Addr → β → α → Prop) (K : PySem.W.Frag) (I : Hp) (m : List Addr) (H : Hp) (W : WX) (D : Ends) (f : α → Cs → RS) (v : β) (H1 : Hp) : Prop :=
  ∃ I1 m1 c1 a, Ext I m H I1 m1 H1 ∧ Rel K I1 H1 m1 c1 ∧ rep I1 m1 v a ∧ AfterS K I1 m1 H1 W D (f a c1)
theorem AfterS.seq {α β : Type} {rep : Hp → List Addr → β → α → Prop} {K : PySem.W.Frag} {I H : Hp} {m : List Addr} {W : WX} {D : Ends} {r : R α} {l : Ls} {σ : St} {f : α → Cs → RS} (L : Locs K I m σ l) (a : AfterS K I m H W D (r.seq l f)) :
    After rep K I m H (fun cls dd H' => W cls dd σ H') (MidS rep K I m H W D f) r := by
  cases r with
  | stuck => exact a
  | ok d c => exact fun I' m' H' v e' r' p => ⟨I', m', c, d, e', r', p, AfterS.ext e' a⟩
  | exc x c => exact fun I' m' H' cls dd e r p => a I' m' H' σ cls dd e r (L.ext e) p
/-- a statement, then another one -/
def RS.next (r : RS) (f : Ls → Cs → RS) : RS := match r with
  | .go (.nx l) c => f l c
  | r => r
@[simp] theorem RS.next_nx (l : Ls) (c : Cs) (f : Ls → Cs → RS) : (RS.go (.nx l) c).next f = f l c := rfl
@[simp] theorem RS.next_rt (d : D) (c : Cs) (f : Ls → Cs → RS) : (RS.go (.rt d) c).next f = .go (.rt d) c := rfl
@[simp] theorem RS.next_bk (l : Ls) (c : Cs) (f : Ls → Cs → RS) : (RS.go (.bk l) c).next f = .go (.bk l) c := rfl
@[simp] theorem RS.next_ct (l : Ls) (c : Cs) (f : Ls → Cs → RS) : (RS.go (.ct l) c).next f = .go (.ct l) c := rfl
@[simp] theorem RS.next_exc (x : Ex) (l : Ls) (c : Cs) (f : Ls → Cs → RS) : (RS.exc x l c).next f = .exc x l c := rfl
@[simp] theorem RS.next_stuck (f : Ls → Cs → RS) : RS.stuck.next f = .stuck := rfl

theorem PSi {X : Cx} {s : Stmt} {t t' : TS} (h : PS X s t) (w : ∀ D σ H, t' D σ H → t D σ H) : PS X s t' := ⟨fun pins s σ H D I q => h.run pins s σ H D I (w D σ H q)⟩
theorem PSsi {X : Cx} {s : List Stmt} {t t' : TS} (h : PSs X s t) (w : ∀ D σ H, t' D σ H → t D σ H) : PSs X s t' := ⟨fun pins s σ H D I q => h.run pins s σ H D I (w D σ H q)⟩

section
variable {X : Cx} {W : WX} {e a b : Expr} {es : List Expr} {s : Stmt} {ss body orelse : List Stmt} {pos : Pos} {fa : ME} {ta : MT} {f g : MS}
def sNil : MS := fun l c => .go (.nx l) c
def sSeq (f g : MS) : MS := fun l c => (f l c).next g
theorem ms_nil : PSs X [] (rdS X.K W sNil) := PSsi pss_nil fun D σ H ⟨I, m, l, c, R, L, A⟩ => A I m H σ (Ext.refl _ _ _) R L
theorem seq_read {K : PySem.W.Frag} {D : Ends} {σ : St} {H : Hp} (h : rdS K W (sSeq f g) D σ H) : tSeq (rdS K W f) (rdS K W g) D σ H := by
  obtain ⟨I, m, l, c, R, L, A⟩ := h
  refine ⟨I, m, l, c, R, L, ?_⟩
  have A : AfterS K I m H W D ((f l c).next g) := A
  cases q : f l c with
  | stuck => rw [q] at A; exact A
  | exc x l' c' => rw [q] at A; exact A
  | go fl c' =>
    rw [q] at A
    cases fl with
    | nx l' => exact fun I' m' H' σ' e' r' L' => ⟨I', m', l', c', r', L', AfterS.ext e' A⟩
    | rt d => exact A
    | bk l' => exact A
    | ct l' => exact A
theorem ms_cons (h1 : PS X s (rdS X.K W f)) (h2 : PSs X ss (rdS X.K W g)) : PSs X (s :: ss) (rdS X.K W (sSeq f g)) := PSsi (pss_cons h1 h2) fun _ _ _ h => seq_read h
theorem ms_one (h1 : PS X s (rdS X.K W f)) : PSs X [s] (rdS X.K W f) := pss_one h1
theorem ms_pass : PS X (.Pass pos) (rdS X.K W sNil) := PSi ps_pass fun D σ H ⟨I, m, l, c, R, L, A⟩ => A I m H σ (Ext.refl _ _ _) R L
def sBreak : MS := fun l c => .go (.bk l) c
def sCont : MS := fun l c => .go (.ct l) c
theorem ms_break : PS X (.Break pos) (rdS X.K W sBreak) := PSi ps_break fun D σ H ⟨I, m, l, c, R, L, A⟩ => A I m H σ (Ext.refl _ _ _) R L
theorem ms_cont : PS X (.Continue pos) (rdS X.K W sCont) := PSi ps_continue fun D σ H ⟨I, m, l, c, R, L, A⟩ => A I m H σ (Ext.refl _ _ _) R L
def sExpr (a : ME) : MS := fun l c => (a l c).seq l fun _ c1 => .go (.nx l) c1
theorem ms_expr (h : PE X e (rdE X.K W fa)) (hs : swapsWith e none pos.line X.env = pure false := by rfl) : PS X (.Expr e pos) (rdS X.K W (sExpr fa)) := PSi (ps_expr h hs) fun D σ H ⟨I, m, l, c, R, L, A⟩ =>
  ⟨I, m, l, c, R, L, After.mono (AfterS.seq (rep := rD X.K) L A) fun v1 H1 ⟨I1, m1, c1, d1, E1, R1, p1, A1⟩ => A1 I1 m1 H1 σ (Ext.refl _ _ _) R1 (L.ext E1)⟩
def sRet (a : ME) : MS := fun l c => (a l c).seq l fun d c1 => .go (.rt d) c1
theorem ms_ret (h : PE X e (rdE X.K W fa)) : PS X (.Return (some e) pos) (rdS X.K W (sRet fa)) := PSi (ps_ret h) fun D σ H ⟨I, m, l, c, R, L, A⟩ =>
  ⟨I, m, l, c, R, L, After.mono (AfterS.seq (rep := rD X.K) L A) fun v1 H1 ⟨I1, m1, c1, d1, E1, R1, p1, A1⟩ => A1 I1 m1 H1 v1 (Ext.refl _ _ _) R1 p1⟩
def sRetN : MS := fun _ c => .go (.rt .non) c
theorem ms_retN : PS X (.Return none pos) (rdS X.K W sRetN) := PSi ps_retN fun D σ H ⟨I, m, l, c, R, L, A⟩ => A I m H .non (Ext.refl _ _ _) R .non
def sIf (t : MT) (f g : MS) : MS := fun l c => (t l c).seq l fun k c1 => match k with
  | true => f l c1
  | false => g l c1
theorem ms_if {c : Expr} {sa sb : List Stmt} (ht : PT X c (rdT X.K W ta)) (ha : PSs X sa (rdS X.K W f)) (hb : PSs X sb (rdS X.K W g)) : PS X (.If c sa sb pos) (rdS X.K W (sIf ta f g)) := PSi (ps_if ht ha hb) fun D σ H ⟨I, m, l, c, R, L, A⟩ =>
  ⟨I, m, l, c, R, L, After.mono (AfterS.seq (rep := rB) L A) fun v1 H1 ⟨I1, m1, c1, d1, E1, R1, p1, A1⟩ => by
    cases (show v1 = d1 from p1)
    cases v1 with
    | true => exact iteT ⟨I1, m1, l, c1, R1, L.ext E1, A1⟩
    | false => exact iteF ⟨I1, m1, l, c1, R1, L.ext E1, A1⟩⟩

/-! ### targets -/
abbrev MG := D → Ls → Cs → R Ls
def rL (K : PySem.W.Frag) : Hp → List Addr → St → Ls → Prop := fun I m σ l => Locs K I m σ l
/-- what a target does with a value; an exception would leave with the locals as they were -/
def rdG (K : PySem.W.Frag) (W : WX) (g : MG) : TG := fun v σ H Q => ∃ I m l c d, Rel K I H m c ∧ Locs K I m σ l ∧ Rep K I m v d ∧ After (rL K) K I m H (fun cls dd H' => W cls dd σ H') Q (g d l c)
theorem PGi {tg : Expr} {t t' : TG} (h : PG X tg t) (w : ∀ v σ H Q, t' v σ H Q → t v σ H Q) : PG X tg t' := ⟨fun pins s σ H v u Q I r q => h.run pins s σ H v u Q I r (w v σ H Q q)⟩
def gN (i : Nat) : MG := fun d l c => .ok (l.set i (some d)) c
theorem mg_name {i : Nat} {x : Str} (hN : X.N.Nodup) (hi : X.N[i]? = some x) (hx : Loc X.env.scope x) (hf : X.fn x = true ∨ X.env.scope.names.lookup x = some .local := by first | exact .inl rfl | exact .inr rfl | assumption) : PG X (.Name x pos) (rdG X.K W (gN i)) :=
  PGi (pg_name hN hi hx hf) fun v σ H Q ⟨I, m, l, c, d, R, L, p, A⟩ => A.here R (L.set i p)
abbrev MGs := List D → Ls → Cs → R Ls
def rdGs (K : PySem.W.Frag) (W : WX) (g : MGs) : TGs := fun vs σ H Q => ∃ I m l c ds, Rel K I H m c ∧ Locs K I m σ l ∧ Reps K I m vs ds ∧ After (rL K) K I m H (fun cls dd H' => W cls dd σ H') Q (g ds l c)
theorem PGsi {tgs : List Expr} {t t' : TGs} (h : PGs X tgs t) (w : ∀ v σ H Q, t' v σ H Q → t v σ H Q) : PGs X tgs t' := ⟨fun pins s σ H v u Q I r q => h.run pins s σ H v u Q I r (w v σ H Q q)⟩
/-- a, b, .. = a tuple, all names -/
def gNs (js : List Nat) : MGs := fun ds l c => match js, ds with
  | [], [] => .ok l c
  | i :: js, d :: ds => gNs js ds (l.set i (some d)) c
  | _, _ => .stuck
theorem mgs_nil : PGs X [] (rdGs X.K W (gNs [])) := PGsi pgs_nil fun vs σ H Q ⟨I, m, l, c, ds, R, L, p, A⟩ => by
  cases p with
  | nil => exact ⟨rfl, A.here R L⟩
  | cons h t => exact A.elim
theorem mgs_cons {i : Nat} {x : Str} {js : List Nat} {p : Pos} (hN : X.N.Nodup) (hi : X.N[i]? = some x) (hx : Loc X.env.scope x) (h2 : PGs X es (rdGs X.K W (gNs js)))
    (hs : (assignEach (.Name x p :: es) X.env).map (·.2) = assign (.Name x p) X.env :: (assignEach es X.env).map (·.2) := by rfl)
    (hf : X.fn x = true ∨ X.env.scope.names.lookup x = some .local := by first | exact .inl rfl | exact .inr rfl | assumption) : PGs X (.Name x p :: es) (rdGs X.K W (gNs (i :: js))) :=
  PGsi (pgs_cons (pg_name hN hi hx hf) h2 hs) fun vs σ H Q ⟨I, m, l, c, ds, R, L, p, A⟩ => by
    cases p with
    | nil => exact A.elim
    | cons h t =>
      refine ⟨_, _, rfl, I, m, l.set i _, c, _, R, L.set i h, t, ?_⟩
      revert A
      show After (rL X.K) X.K I m H (fun cls dd H' => W cls dd σ H') Q (gNs js _ (l.set i _) c) → _
      have never : ∀ (js : List Nat) (ds : List D) (l : Ls) (c : Cs) (x : Ex) (c' : Cs), gNs js ds l c ≠ .exc x c' := by
        intro js
        induction js with
        | nil => intro ds l c x c' e; cases ds <;> cases e
        | cons i js ih =>
          intro ds l c x c' e
          cases ds with
          | nil => cases e
          | cons d ds => exact ih _ _ _ _ _ e
      intro A
      generalize hq : gNs js _ (l.set i _) c = r at A ⊢
      cases r with
      | stuck => exact A
      | ok _ _ => exact A
      | exc x c' => exact absurd hq (never _ _ _ _ _ _)
def gT (js : List Nat) : MG := fun d l c => match d with
  | .tup ds => if ds.length = js.length then gNs js ds l c else .stuck
  | _ => .stuck
theorem mg_tup {k : Nat} {js : List Nat} (hc : X.calm = true) (h : PGs X es (rdGs X.K W (gNs js)))
    (hn : (assignEach es X.env).length = js.length := by rfl) (hst : (assignEach es X.env).findIdx? (·.1) = none := by rfl) : PG X (.Tuple es k pos) (rdG X.K W (gT js)) :=
  PGi (pg_tup hc h hn hst) fun v σ H Q ⟨I, m, l, c, d, R, L, p, A⟩ => by
    cases p with
    | @tup a vs ds h r =>
      by_cases hl : ds.length = js.length
      · have A2 : After (rL X.K) X.K I m H (fun cls dd H' => W cls dd σ H') Q (if ds.length = js.length then gNs js ds l c else .stuck) := A
        rw [if_pos hl] at A2
        exact ⟨a, vs, rfl, sqT_same R.same h, r.length.trans hl, I, m, l, c, ds, R, L, r, A2⟩
      · have A2 : After (rL X.K) X.K I m H (fun cls dd H' => W cls dd σ H') Q (if ds.length = js.length then gNs js ds l c else .stuck) := A
        rw [if_neg hl] at A2
        exact A2.elim
    | _ => exact A.elim
/-- o[i] = v, at a list's cell -/
def putD (o i v : D) (c : Cs) : R Unit := match o, i with
  | .ref k, .int j => match c[k]? with
    | some (.lst ds) => match ixN ds.length j with
      | some n => .ok () (c.set k (.lst (ds.set n v)))
      | none => .stuck
    | _ => .stuck
  | _, _ => .stuck
def gS (o i : ME) : MG := fun d l c => (o l c).bind fun x c1 => (i l c1).bind fun y c2 => (putD x y d c2).bind fun _ c3 => .ok l c3
theorem mg_sub {tg : Expr} {fo fi : ME} (h : PG X tg (gSub (rdE X.K W fo) (rdE X.K W fi) rSetL)) : PG X tg (rdG X.K W (gS fo fi)) :=
  PGi h fun v σ H Q ⟨I, m, l, c, d, R, L, p, A⟩ => by
    refine ⟨I, m, l, c, R, L, After.mono (After.bind (rep := rD X.K) A) fun v1 H1 ⟨I1, m1, c1, d1, E1, R1, p1, A1⟩ => ?_⟩
    refine ⟨I1, m1, l, c1, R1, L.ext E1, After.mono (After.bind (rep := rD X.K) A1) fun v2 H2 ⟨I2, m2, c2, d2, E2, R2, p2, A2⟩ => ?_⟩
    have pd := Rep.ext (Rep.ext p E1) E2
    have L2 := (L.ext E1).ext E2
    have q1 := Rep.ext p1 E2
    cases q1 with
    | @ref k a hk =>
      cases p2 with
      | int j =>
        have A3 : After (rL X.K) X.K I2 m2 H2 (fun cls dd H' => W cls dd σ H') Q ((match c2[k]? with
          | some (.lst ds) => match ixN ds.length j with
            | some n => .ok () (c2.set k (.lst (ds.set n d)))
            | none => .stuck
          | _ => .stuck : Mi.R Unit).bind fun _ c3 => .ok l c3) := A2
        cases q : c2[k]? with
        | none => rw [q] at A3; exact A3.elim
        | some x =>
          rw [q] at A3
          cases x with
          | lst ds =>
            obtain ⟨n1, vs, h1, h2⟩ := R2.cell k a _ hk q
            cases q2 : ixN ds.length j with
            | none =>
              have A4 : After (rL X.K) X.K I2 m2 H2 (fun cls dd H' => W cls dd σ H') Q ((match ixN ds.length j with
                | some n => .ok () (c2.set k (.lst (ds.set n d)))
                | none => .stuck : Mi.R Unit).bind fun _ c3 => .ok l c3) := A3
              rw [q2] at A4
              exact A4.elim
            | some n =>
              have A4 : After (rL X.K) X.K I2 m2 H2 (fun cls dd H' => W cls dd σ H') Q ((match ixN ds.length j with
                | some n => .ok () (c2.set k (.lst (ds.set n d)))
                | none => .stuck : Mi.R Unit).bind fun _ c3 => .ok l c3) := A3
              rw [q2] at A4
              refine ⟨a, vs, j, n, rfl, rfl, h1, by rw [h2.length]; exact q2, ?_⟩
              obtain ⟨R3, E3⟩ := R2.put hk q (h2.set pd n)
              exact A4 I2 m2 _ σ E3 R3 (L2.ext E3)
          | _ => exact A3.elim
      | _ => exact A2.elim
    | _ => exact A2.elim
def sAsg (a : ME) (g : MG) : MS := fun l c => (a l c).seq l fun d c1 => (g d l c1).seq l fun l' c2 => .go (.nx l') c2
theorem asg_read {K : PySem.W.Frag} {g : MG} {D : Ends} {σ : St} {H : Hp} (h : rdS K W (sAsg fa g) D σ H) : tAsg (rdE K W fa) (rdG K W g) D σ H := by
  obtain ⟨I, m, l, c, R, L, A⟩ := h
  refine ⟨I, m, l, c, R, L, After.mono (AfterS.seq (rep := rD K) L A) fun v1 H1 ⟨I1, m1, c1, d1, E1, R1, p1, A1⟩ => ?_⟩
  refine ⟨I1, m1, l, c1, d1, R1, L.ext E1, p1, After.mono (AfterS.seq (rep := rL K) (L.ext E1) A1) fun v2 H2 ⟨I2, m2, c2, d2, E2, R2, p2, A2⟩ => ?_⟩
  exact A2 I2 m2 H2 v2 (Ext.refl _ _ _) R2 p2
theorem ms_asg {tg : Expr} {g : MG} (he : PE X e (rdE X.K W fa)) (hg : PG X tg (rdG X.K W g)) (hs : swapsWithSole [tg] e pos.line X.env = pure false := by rfl) (hw : swappedStores [tg] e X.env = pure none := by rfl)
    (h1 : (assignEach [tg] X.env).map (·.2) = [assign tg X.env] := by rfl) : PS X (.Assign [tg] e pos) (rdS X.K W (sAsg fa g)) := PSi (ps_asg he hg hs hw h1) fun _ _ _ h => asg_read h
/-- x = e -/
def sSet (i : Nat) (a : ME) : MS := fun l c => (a l c).seq l fun d c1 => .go (.nx (l.set i (some d))) c1
theorem ms_set {i : Nat} {x : Str} {p : Pos} (hN : X.N.Nodup) (hi : X.N[i]? = some x) (hx : Loc X.env.scope x) (he : PE X e (rdE X.K W fa)) (hs : swapsWith e (some (.Name x p)) pos.line X.env = pure false := by rfl)
    (hf : X.fn x = true ∨ X.env.scope.names.lookup x = some .local := by first | exact .inl rfl | exact .inr rfl | assumption) : PS X (.Assign [.Name x p] e pos) (rdS X.K W (sSet i fa)) :=
  PSi (ps_set hN hi hx he hs hf) fun D σ H ⟨I, m, l, c, R, L, A⟩ =>
    ⟨I, m, l, c, R, L, After.mono (AfterS.seq (rep := rD X.K) L A) fun v1 H1 ⟨I1, m1, c1, d1, E1, R1, p1, A1⟩ => A1 I1 m1 H1 _ (Ext.refl _ _ _) R1 ((L.ext E1).set i p1)⟩
/-- a, b = x, y; three of them: stored from the right, no tuple is made -/
def sPar (js : List Nat) (t : MA) : MS := fun l c => (t l c).seq l fun ds c1 => (gNs js ds l c1).seq l fun l' c2 => .go (.nx l') c2
theorem ms_par2 {i j : Nat} {x y : Str} {ga : MA} {px py pt : Pos} {kt k2 : Nat} {pt2 : Pos} (hc : X.calm = true) (hN : X.N.Nodup) (hi : X.N[i]? = some x) (hj : X.N[j]? = some y) (hij : i ≠ j)
    (hx : X.env.scope.names.lookup x = some .local) (hy : X.env.scope.names.lookup y = some .local) (ha : PA X [a, b] (rdA X.K W ga))
    (hw : swappedStores [.Tuple [.Name x px, .Name y py] kt pt] (.Tuple [a, b] k2 pt2) X.env = pure (some [x, y]))
    (hs : swapsWithSole [.Tuple [.Name x px, .Name y py] kt pt] (.Tuple [a, b] k2 pt2) pos.line X.env = pure false := by rfl) :
    PS X (.Assign [.Tuple [.Name x px, .Name y py] kt pt] (.Tuple [a, b] k2 pt2) pos) (rdS X.K W (sPar [i, j] ga)) := PSi (ps_par hc hN hi hj hij hx hy ha hw hs) fun D σ H ⟨I, m, l, c, R, L, A⟩ => by
  refine ⟨I, m, l, c, R, L, After.mono (AfterS.seq (rep := rA X.K) L A) fun v1 H1 ⟨I1, m1, c1, d1, E1, R1, p1, A1⟩ => ?_⟩
  cases p1 with
  | nil => exact A1.elim
  | cons h t =>
    cases t with
    | nil => exact A1.elim
    | cons h2 t2 =>
      cases t2 with
      | cons h3 t3 => exact A1.elim
      | nil => exact ⟨_, _, rfl, A1 I1 m1 H1 _ (Ext.refl _ _ _) R1 (((L.ext E1).set i h).set j h2)⟩
theorem ms_par3 {i j k : Nat} {x y z : Str} {d : Expr} {ga : MA} {px py pz pt : Pos} {kt k2 : Nat} {pt2 : Pos} (hc : X.calm = true) (hN : X.N.Nodup) (hi : X.N[i]? = some x) (hj : X.N[j]? = some y) (hk : X.N[k]? = some z) (hij : i ≠ j) (hil : i ≠ k) (hjl : j ≠ k)
    (hx : X.env.scope.names.lookup x = some .local) (hy : X.env.scope.names.lookup y = some .local) (hz : X.env.scope.names.lookup z = some .local) (ha : PA X [a, b, d] (rdA X.K W ga))
    (hw : swappedStores [.Tuple [.Name x px, .Name y py, .Name z pz] kt pt] (.Tuple [a, b, d] k2 pt2) X.env = pure (some [x, y, z]))
    (hs : swapsWithSole [.Tuple [.Name x px, .Name y py, .Name z pz] kt pt] (.Tuple [a, b, d] k2 pt2) pos.line X.env = pure false := by rfl) :
    PS X (.Assign [.Tuple [.Name x px, .Name y py, .Name z pz] kt pt] (.Tuple [a, b, d] k2 pt2) pos) (rdS X.K W (sPar [i, j, k] ga)) := PSi (ps_par3 hc hN hi hj hk hij hil hjl hx hy hz ha hw hs) fun D σ H ⟨I, m, l, c, R, L, A⟩ => by
  refine ⟨I, m, l, c, R, L, After.mono (AfterS.seq (rep := rA X.K) L A) fun v1 H1 ⟨I1, m1, c1, d1, E1, R1, p1, A1⟩ => ?_⟩
  cases p1 with
  | nil => exact A1.elim
  | cons h t =>
    cases t with
    | nil => exact A1.elim
    | cons h2 t2 =>
      cases t2 with
      | nil => exact A1.elim
      | cons h3 t3 =>
        cases t3 with
        | cons h4 t4 => exact A1.elim
        | nil => exact ⟨_, _, _, rfl, A1 I1 m1 H1 _ (Ext.refl _ _ _) R1 ((((L.ext E1).set i h).set j h2).set k h3)⟩

/-! ### what is walked -/
abbrev MI := Ls → Cs → R (List D)
/-- the items that an iterator gives, as trees -/
def Walks (K : PySem.W.Frag) (I : Hp) (m : List Addr) (J : It) (ds : List D) : Prop := ∀ (i : Nat) (I' H : Hp) (m' : List Addr) (c : Cs), Same I I' → Pre m m' → Rel K I' H m' c →
  (∀ d, ds[i]? = some d → J.go i H ∧ ∀ x H', J.yld i H x H' → ∃ I'', Ext I' m' H I'' m' H' ∧ Rel K I'' H' m' c ∧ Rep K I'' m' x d) ∧ (ds.length ≤ i → J.stop i H)
theorem Walks.ext {K : PySem.W.Frag} {I I1 H H1 : Hp} {m m1 : List Addr} {J : It} {ds : List D} (w : Walks K I m J ds) (e : Ext I m H I1 m1 H1) : Walks K I1 m1 J ds := fun i I' H m' c s p => w i I' H m' c (e.same.trans s) (e.pre.trans p)
def rI' (K : PySem.W.Frag) : Hp → List Addr → It → List D → Prop := fun I m J ds => Walks K I m J ds
def rdI (K : PySem.W.Frag) (W : WX) (f : MI) : TI := rd (rI' K) K W f
theorem PIi {tg it : Expr} {t t' : TI} (h : PI X tg it t) (w : ∀ σ H R, t' σ H R → t σ H R) : PI X tg it t' := ⟨fun pins s σ H R I q => h.run pins s σ H R I (w σ H R q)⟩
def iLst (a : ME) : MI := fun l c => (a l c).bind fun x c1 => match x with
  | .lst ds => .ok ds c1
  | .ro ds => .ok ds c1
  | _ => .stuck
theorem walks_list {K : PySem.W.Frag} {I : Hp} {m : List Addr} {a : Addr} {vs : List V} {ds : List D} (h : SqL K I a vs) (r : Reps K I m vs ds) : Walks K I m (Itl K a) ds := fun i I' H m' c s p R => by
  have hs : SqL K H a vs := R.same.seq (s.seq h)
  refine ⟨fun d hd => ?_, fun hl => ⟨vs, hs, by rw [r.length]; exact hl⟩⟩
  obtain ⟨v, hv, pv⟩ := r.get hd
  refine ⟨⟨vs, v, hs, hv⟩, fun x H' y => ?_⟩
  obtain ⟨e, y⟩ := y
  subst e
  have ev : x = v := by
    have z := y vs hs
    rw [hv] at z
    exact (Option.some.inj z).symm
  subst ev
  exact ⟨I', Ext.refl _ _ _, R, pv.mono s p⟩
end
end L2.Mi

namespace L2.Mi
open PySem PySem.Spec PyProof.Rows L2

/-! ### what is walked -/
section
variable {X : Cx} {W : WX} {tg e : Expr} {pos : Pos} {fa : ME} {ga : MA}
theorem mi_lst (h : PE X e (rdE X.K W fa)) : PI X tg e (rdI X.K W (iLst fa)) := PIi (pi_list h) fun σ H Q ⟨I, m, l, c, R, L, A⟩ =>
  ⟨I, m, l, c, R, L, After.mono (After.bind (rep := rD X.K) A) fun v1 H1 ⟨I1, m1, c1, d1, E1, R1, p1, A1⟩ => by
    cases p1 with
    | @lst a vs ds h r => exact ⟨a, rfl, ⟨vs, SqL.of (R1.same _ _ h)⟩, A1.here R1 (walks_list (SqL.of h) r)⟩
    | @ro a vs ds h r => exact ⟨a, rfl, ⟨vs, R1.same.seq h⟩, A1.here R1 (walks_list h r)⟩
    | _ => exact A1.elim⟩
def iTup' (a : ME) : MI := fun l c => (a l c).bind fun x c1 => match x with
  | .tup ds => .ok ds c1
  | _ => .stuck
theorem walks_tup {K : PySem.W.Frag} {I : Hp} {m : List Addr} {a : Addr} {vs : List V} {ds : List D} (h : SqT K I a vs) (r : Reps K I m vs ds) : Walks K I m (Itt K a) ds := fun i I' H m' c s p R => by
  have hs : SqT K H a vs := sqT_same R.same (sqT_same s h)
  refine ⟨fun d hd => ?_, fun hl => ⟨vs, hs, by rw [r.length]; exact hl⟩⟩
  obtain ⟨v, hv, pv⟩ := r.get hd
  refine ⟨⟨vs, v, hs, hv⟩, fun x H' y => ?_⟩
  obtain ⟨e, y⟩ := y
  subst e
  have ev : x = v := by
    have z := y vs hs
    rw [hv] at z
    exact (Option.some.inj z).symm
  subst ev
  exact ⟨I', Ext.refl _ _ _, R, pv.mono s p⟩
theorem mi_tup (h : PE X e (rdE X.K W fa)) : PI X tg e (rdI X.K W (iTup' fa)) := PIi (pi_tup h) fun σ H Q ⟨I, m, l, c, R, L, A⟩ =>
  ⟨I, m, l, c, R, L, After.mono (After.bind (rep := rD X.K) A) fun v1 H1 ⟨I1, m1, c1, d1, E1, R1, p1, A1⟩ => by
    cases p1 with
    | @tup a vs ds h r => exact ⟨a, rfl, ⟨vs, sqT_same R1.same h⟩, A1.here R1 (walks_tup h r)⟩
    | _ => exact A1.elim⟩
/-- the chrs of a text -/
def chrs (s : Str) : List D := s.cps.toList.map fun k => .str ⟨#[k]⟩
def iStr' (a : ME) : MI := fun l c => (a l c).bind fun x c1 => match x with
  | .str s => .ok (chrs s) c1
  | _ => .stuck
theorem walks_str {K : PySem.W.Frag} {I : Hp} {m : List Addr} {s : Str} : Walks K I m (Its s) (chrs s) := fun i I' H m' c _ _ R => by
  have hl : (chrs s).length = s.cps.size := by simp [chrs]
  refine ⟨fun d hd => ?_, fun h => by rw [hl] at h; exact h⟩
  have hi : i < s.cps.size := by rw [← hl]; exact (List.getElem?_eq_some_iff.mp hd).1
  refine ⟨hi, fun x H' y => ?_⟩
  obtain ⟨e, k, hk, ex⟩ := y
  subst e; subst ex
  refine ⟨I', Ext.refl _ _ _, R, ?_⟩
  have e2 : d = .str ⟨#[k]⟩ := by
    unfold chrs at hd
    rw [List.getElem?_map, Array.getElem?_toList, hk] at hd
    exact (Option.some.inj hd).symm
  rw [e2]
  exact .str _
theorem mi_str (h : PE X e (rdE X.K W fa)) : PI X tg e (rdI X.K W (iStr' fa)) := PIi (pi_str h) fun σ H Q ⟨I, m, l, c, R, L, A⟩ =>
  ⟨I, m, l, c, R, L, After.mono (After.bind (rep := rD X.K) A) fun v1 H1 ⟨I1, m1, c1, d1, E1, R1, p1, A1⟩ => by
    cases p1 with
    | str s => exact ⟨s, rfl, A1.here R1 walks_str⟩
    | _ => exact A1.elim⟩
/-- range(n), range(a, b) -/
def rangeL (lo : Int) (n : Nat) : List D := (List.range n).map fun i => .int (lo + (i : Nat))
theorem walks_rng {K : PySem.W.Frag} {I : Hp} {m : List Addr} {lo : Int} {n : Nat} : Walks K I m (Itr lo n) (rangeL lo n) := fun i I' H m' c _ _ R => by
  refine ⟨fun d hd => ?_, fun h => by simp [rangeL] at h; exact h⟩
  have hi : i < n := by have := (List.getElem?_eq_some_iff.mp hd).1; simpa [rangeL] using this
  refine ⟨hi, fun x H' y => ?_⟩
  obtain ⟨e, ex⟩ := y
  subst e; subst ex
  refine ⟨I', Ext.refl _ _ _, R, ?_⟩
  have e2 : d = .int (lo + (i : Nat)) := by
    unfold rangeL at hd
    rw [List.getElem?_map, List.getElem?_range hi] at hd
    exact (Option.some.inj hd).symm
  rw [e2]
  exact .int _
def small62 (i : Int) : Prop := -(2 ^ 62) ≤ i ∧ i < 2 ^ 62
instance : ∀ i, Decidable (small62 i) := fun i => inferInstanceAs (Decidable (-(2 ^ 62) ≤ i ∧ i < 2 ^ 62))
def iR1 (t : MA) : MI := fun l c => (t l c).bind fun xs c1 => match xs with
  | [.int j] => if small62 j then .ok (rangeL 0 j.toNat) c1 else .stuck
  | _ => .stuck
def iR2 (t : MA) : MI := fun l c => (t l c).bind fun xs c1 => match xs with
  | [.int i, .int j] => if small62 i ∧ small62 j then .ok (rangeL i (j - i).toNat) c1 else .stuck
  | _ => .stuck
theorem mi_r1 {it : Expr} (h : PI X tg it (iRng1 (rdA X.K W ga))) : PI X tg it (rdI X.K W (iR1 ga)) := PIi h fun σ H Q ⟨I, m, l, c, R, L, A⟩ =>
  ⟨I, m, l, c, R, L, After.mono (After.bind (rep := rA X.K) A) fun v1 H1 ⟨I1, m1, c1, d1, E1, R1, p1, A1⟩ => by
    cases p1 with
    | nil => exact A1.elim
    | cons h t =>
      cases t with
      | cons h2 t2 => cases h <;> exact A1.elim
      | nil =>
        cases h with
        | int j =>
          have A2 : After (rI' X.K) X.K I1 m1 H1 (fun cls dd H' => W cls dd σ H') Q (if small62 j then .ok (rangeL 0 j.toNat) c1 else .stuck) := A1
          by_cases hj : small62 j
          · rw [if_pos hj] at A2
            exact ⟨j, rfl, hj.1, hj.2, A2.here R1 walks_rng⟩
          · rw [if_neg hj] at A2
            exact A2.elim
        | _ => exact A1.elim⟩
theorem mi_r2 {it : Expr} (h : PI X tg it (iRng2 (rdA X.K W ga))) : PI X tg it (rdI X.K W (iR2 ga)) := PIi h fun σ H Q ⟨I, m, l, c, R, L, A⟩ =>
  ⟨I, m, l, c, R, L, After.mono (After.bind (rep := rA X.K) A) fun v1 H1 ⟨I1, m1, c1, d1, E1, R1, p1, A1⟩ => by
    cases p1 with
    | nil => exact A1.elim
    | cons h t =>
      cases t with
      | nil => cases h <;> exact A1.elim
      | cons h2 t2 =>
        cases t2 with
        | cons h3 t3 => cases h <;> first | exact A1.elim | (cases h2 <;> exact A1.elim)
        | nil =>
          cases h with
          | int i =>
            cases h2 with
            | int j =>
              have A2 : After (rI' X.K) X.K I1 m1 H1 (fun cls dd H' => W cls dd σ H') Q (if small62 i ∧ small62 j then .ok (rangeL i (j - i).toNat) c1 else .stuck) := A1
              by_cases hj : small62 i ∧ small62 j
              · rw [if_pos hj] at A2
                exact ⟨i, j, rfl, ⟨hj.1.1, hj.1.2, hj.2.1, hj.2.2⟩, A2.here R1 walks_rng⟩
              · rw [if_neg hj] at A2
                exact A2.elim
            | _ => exact A1.elim
          | _ => exact A1.elim⟩
end

/-! ### for -/
/-- the turns of a loop -/
def forD (g : MG) (f : MS) : List D → Ls → Cs → RS
  | [], l, c => .go (.nx l) c
  | d :: ds, l, c => (g d l c).seq l fun l1 c1 => match f l1 c1 with
    | .go (.nx l2) c2 => forD g f ds l2 c2
    | .go (.ct l2) c2 => forD g f ds l2 c2
    | .go (.bk l2) c2 => .go (.nx l2) c2
    | r => r
def sFor (it : MI) (g : MG) (f : MS) : MS := fun l c => (it l c).seq l fun ds c1 => forD g f ds l c1
theorem ms_for {X : Cx} {W : WX} {tg iter : Expr} {body : List Stmt} {pos : Pos} {fi : MI} {g : MG} {f : MS} (hp : PassesOwn (model X.prog X.w) X.A X.env X.xe) (hc : X.calm = true) (hi : PI X tg iter (rdI X.K W fi)) (hg : PG X tg (rdG X.K W g)) (hb : PSs X body (rdS X.K W f))
    (hs : ∀ x, foldedSetIterable iter X.env x = pure x := by intro _; rfl) : PS X (.For tg iter body [] pos) (rdS X.K W (sFor fi g f)) := PSi (ps_for hp hc hi hg hb hs) fun D σ H ⟨I, m, l, c, R, L, A⟩ => by
  refine ⟨I, m, l, c, R, L, After.mono (AfterS.seq (rep := rI' X.K) L A) fun J H1 ⟨I1, m1, c1, ds, E1, R1, w1, A1⟩ => ?_⟩
  refine ⟨fun i n σ H => ∃ I' m' l' c', n = ds.length - i ∧ Ext I1 m1 H1 I' m' H ∧ Rel X.K I' H m' c' ∧ Locs X.K I' m' σ l' ∧ AfterS X.K I' m' H W D (forD g f (ds.drop i) l' c'), ⟨_, I1, m1, l, c1, rfl, Ext.refl _ _ _, R1, L.ext E1, A1⟩, ?_⟩
  rintro i n σ' H' ⟨I', m', l', c', rfl, E', R', L', A'⟩
  obtain ⟨wg, ws⟩ := w1 i I' H' m' c' E'.same E'.pre R'
  cases q : ds[i]? with
  | none =>
    have hi : ds.length ≤ i := List.getElem?_eq_none_iff.mp q
    rw [List.drop_eq_nil_of_le hi] at A'
    exact .inl ⟨ws hi, A' I' m' H' σ' (Ext.refl _ _ _) R' L'⟩
  | some d =>
    have hi : i < ds.length := (List.getElem?_eq_some_iff.mp q).1
    have hd : ds.drop i = d :: ds.drop (i + 1) := by
      rw [List.drop_eq_getElem_cons hi, (List.getElem?_eq_some_iff.mp q).2]
    rw [hd] at A'
    obtain ⟨go, yl⟩ := wg d q
    refine .inr ⟨go, fun σ2 H2 => ∃ I2 m2 l2 c2, Ext I1 m1 H1 I2 m2 H2 ∧ Rel X.K I2 H2 m2 c2 ∧ Locs X.K I2 m2 σ2 l2 ∧ AfterS X.K I2 m2 H2 W D (forD g f (ds.drop (i + 1)) l2 c2),
      fun σ2 H2 ⟨I2, m2, l2, c2, e2, r2, L2, a2⟩ => ⟨ds.length - (i + 1), by omega, I2, m2, l2, c2, rfl, e2, r2, L2, a2⟩, fun x H3 y => ?_⟩
    obtain ⟨I3, E3, R3, p3⟩ := yl x H3 y
    have A3 := AfterS.ext E3 A'
    refine ⟨I3, m', l', c', d, R3, L'.ext E3, p3, After.mono (AfterS.seq (rep := rL X.K) (L'.ext E3) A3) fun σ4 H4 ⟨I4, m4, c4, l4, E4, R4, L4, A4⟩ => ?_⟩
    refine ⟨I4, m4, l4, c4, R4, L4, ?_⟩
    have EE := (E'.trans E3).trans E4
    have A5 : AfterS X.K I4 m4 H4 W D (match f l4 c4 with
      | .go (.nx l2) c2 => forD g f (ds.drop (i + 1)) l2 c2
      | .go (.ct l2) c2 => forD g f (ds.drop (i + 1)) l2 c2
      | .go (.bk l2) c2 => .go (.nx l2) c2
      | r => r) := A4
    cases qf : f l4 c4 with
    | stuck => rw [qf] at A5; exact A5
    | exc x l' c' => rw [qf] at A5; exact A5
    | go fl c5 =>
      rw [qf] at A5
      cases fl with
      | nx l5 => exact fun I6 m6 H6 σ6 e6 r6 L6 => ⟨I6, m6, l5, c5, EE.trans e6, r6, L6, AfterS.ext e6 A5⟩
      | ct l5 => exact fun I6 m6 H6 σ6 e6 r6 L6 => ⟨I6, m6, l5, c5, EE.trans e6, r6, L6, AfterS.ext e6 A5⟩
      | bk l5 => exact A5
      | rt d => exact A5
/-! ### while: at most n turns are followed -/
def whileD (t : MT) (f : MS) : Nat → MS
  | 0, _, _ => .stuck
  | n + 1, l, c => (t l c).seq l fun k c1 => match k with
    | true => match f l c1 with
      | .go (.nx l2) c2 => whileD t f n l2 c2
      | .go (.ct l2) c2 => whileD t f n l2 c2
      | .go (.bk l2) c2 => .go (.nx l2) c2
      | r => r
    | false => .go (.nx l) c1
theorem ms_while {X : Cx} {W : WX} {e : Expr} {body : List Stmt} {pos : Pos} {t : MT} {f : MS} (n : Nat) (hp : PassesOwn (model X.prog X.w) X.A X.env X.xe) (ht : PT X e (rdT X.K W t)) (hb : PSs X body (rdS X.K W f)) :
    PS X (.While e body [] pos) (rdS X.K W (whileD t f n)) := PSi (ps_while hp ht hb) fun D σ H ⟨I, m, l, c, R, L, A⟩ => by
  refine ⟨fun k σ' H' => ∃ I' m' l' c', Rel X.K I' H' m' c' ∧ Locs X.K I' m' σ' l' ∧ AfterS X.K I' m' H' W D (whileD t f k l' c'), ⟨n, I, m, l, c, R, L, A⟩, ?_⟩
  rintro k σ' H' ⟨I', m', l', c', R', L', A'⟩
  cases k with
  | zero => exact A'.elim
  | succ k =>
    refine ⟨I', m', l', c', R', L', After.mono (AfterS.seq (rep := rB) L' A') fun b H1 ⟨I1, m1, c1, b1, E1, R1, p1, A1⟩ => ?_⟩
    cases (show b = b1 from p1)
    cases b with
    | false => exact iteF (A1 I1 m1 H1 σ' (Ext.refl _ _ _) R1 (L'.ext E1))
    | true =>
      refine iteT ⟨fun σ2 H2 => ∃ I2 m2 l2 c2, Rel X.K I2 H2 m2 c2 ∧ Locs X.K I2 m2 σ2 l2 ∧ AfterS X.K I2 m2 H2 W D (whileD t f k l2 c2), fun σ2 H2 q => ⟨k, Nat.lt_succ_self k, q⟩, ?_⟩
      refine ⟨I1, m1, l', c1, R1, L'.ext E1, ?_⟩
      have A5 : AfterS X.K I1 m1 H1 W D (match f l' c1 with
        | .go (.nx l2) c2 => whileD t f k l2 c2
        | .go (.ct l2) c2 => whileD t f k l2 c2
        | .go (.bk l2) c2 => .go (.nx l2) c2
        | r => r) := A1
      cases qf : f l' c1 with
      | stuck => rw [qf] at A5; exact A5
      | exc x l' c' => rw [qf] at A5; exact A5
      | go fl c5 =>
        rw [qf] at A5
        cases fl with
        | nx l5 => exact fun I6 m6 H6 σ6 e6 r6 L6 => ⟨I6, m6, l5, c5, r6, L6, AfterS.ext e6 A5⟩
        | ct l5 => exact fun I6 m6 H6 σ6 e6 r6 L6 => ⟨I6, m6, l5, c5, r6, L6, AfterS.ext e6 A5⟩
        | bk l5 => exact A5
        | rt d => exact A5

/-! ### list comprehensions -/
def R.nox {α : Type} (r : R α) : R α := match r with
  | .exc _ _ => .stuck
  | r => r
@[simp] theorem R.nox_ok {α : Type} (a : α) (c : Cs) : (R.ok a c).nox = .ok a c := rfl
theorem After.nox {α β : Type} {rep : Hp → List Addr → β → α → Prop} {K : PySem.W.Frag} {I H : Hp} {m : List Addr} {W W' : XK} {Q : β → Hp → Prop} {r : R α} (a : After rep K I m H W Q r.nox) : After rep K I m H W' Q r := by
  cases r with
  | stuck => exact a
  | ok d c => exact a
  | exc x c => exact a.elim
/-- .. where what follows is wanted from an earlier place -/
theorem After.bindAt {α β γ δ : Type} {rep : Hp → List Addr → β → α → Prop} {rep' : Hp → List Addr → δ → γ → Prop} {K : PySem.W.Frag} {I I1 H H1 : Hp} {m m1 : List Addr} {W : XK} {Q : δ → Hp → Prop} {r : R α} {f : α → Cs → R γ}
    (a : After rep' K I m H W Q (r.bind f)) (e : Ext I m H I1 m1 H1) : After rep K I1 m1 H1 W (fun v H2 => ∃ I2 m2 c2 x, Ext I1 m1 H1 I2 m2 H2 ∧ Rel K I2 H2 m2 c2 ∧ rep I2 m2 v x ∧ After rep' K I m H W Q (f x c2)) r := by
  cases r with
  | stuck => exact a
  | ok d c => exact fun I' m' H' v e' r' p => ⟨I', m', c, d, e', r', p, a⟩
  | exc x c => exact After.ext (rep := rep') (r := (.exc x c)) e a
def compD (g : MG) (t : MT) (e : ME) (lw : Ls) : List D → List D → Cs → R (List D)
  | [], acc, c => .ok acc c
  | d :: ds, acc, c => (g d lw c).nox.bind fun l1 c1 => (t l1 c1).nox.bind fun k c2 => match k with
    | true => (e l1 c2).nox.bind fun x c3 => if acc.length < sizeLine then compD g t e lw ds (acc ++ [x]) c3 else .stuck
    | false => compD g t e lw ds acc c2
def wipeL (l : Ls) : List Nat → Ls
  | [] => l
  | v :: vs => (wipeL l vs).set v none
def mLc (it : MI) (js : List Nat) (g : MG) (t : MT) (e : ME) : ME := fun l c => (it l c).bind fun ds c1 => (compD g t e (wipeL l js) ds [] c1).bind fun xs c2 => .ok (.lst xs) c2
def tYesM : MT := fun _ c => .ok true c
theorem locs_wipe {K : PySem.W.Frag} {I : Hp} {m : List Addr} {σ : St} {l : Ls} (L : Locs K I m σ l) : ∀ js : List Nat, Locs K I m (wipe σ js) (wipeL l js)
  | [] => L
  | j :: js => by
    have q := locs_wipe L js
    refine ⟨by unfold wipe wipeL; rw [List.length_set, List.length_set, q.len], fun i d h => ?_⟩
    unfold wipeL at h
    unfold wipe
    by_cases hi : j = i
    · subst hi
      by_cases hl : j < (wipeL l js).length
      · rw [List.getElem?_set_self hl] at h; cases h
      · rw [List.getElem?_eq_none (by simpa using hl)] at h; cases h
    · rw [List.getElem?_set_ne hi] at h ⊢
      exact q.at_ i d h
/-- another object is laid, or changed, that is none of ours -/
theorem Rel.side {K : PySem.W.Frag} {I H : Hp} {m : List Addr} {c : Cs} {p : Addr} {vs ws : List V} (r : Rel K I H m c) (hH : H p = none ∨ H p = some (.lst vs)) (hI : I p = none) (hm : p ∉ m) : Rel K I (upd H p (.lst ws)) m c := by
  refine ⟨fun b o e => ?_, r.len, r.nd, fun k a x h1 h2 => ?_⟩
  · rw [upd_ne (ne_of_none e hI)]
    exact r.same _ _ e
  · have na : a ≠ p := fun e => hm (e ▸ List.mem_of_getElem? h1)
    have q := r.cell k a x h1 h2
    cases x with
    | lst es =>
      obtain ⟨q1, us, q2, q3⟩ := q
      exact ⟨q1, us, by rw [upd_ne na]; exact q2, q3⟩
    | dct es =>
      obtain ⟨q1, us, q2, q3⟩ := q
      exact ⟨q1, us, by rw [upd_ne na]; exact q2, q3⟩
    | ins C es =>
      obtain ⟨q1, dx, us, q2, q3, q4, q5, q6⟩ := q
      have nd : dx ≠ p := by
        rcases hH with z | z
        · exact ne_of_none q4 z
        · exact ne_of q4 z (by intro y; cases y)
      exact ⟨q1, dx, us, q2, q3, by rw [upd_ne nd]; exact q4, by rw [upd_ne na]; exact q5, q6⟩
    | frz d => exact q
/-- it becomes one that never changes -/
theorem Rel.adopt {K : PySem.W.Frag} {I H : Hp} {m : List Addr} {c : Cs} {p : Addr} {vs : List V} (r : Rel K I H m c) (hH : H p = some (.lst vs)) (hI : I p = none) (hm : p ∉ m) : Rel K (upd I p (.lst vs)) H m c := by
  have sI : Same I (upd I p (.lst vs)) := fun b o e => by rw [upd_ne (ne_of_none e hI)]; exact e
  refine ⟨fun b o e => ?_, r.len, r.nd, fun k a x h1 h2 => ?_⟩
  · by_cases hb : b = p
    · subst hb
      rw [upd_same] at e
      cases e
      exact hH
    · rw [upd_ne hb] at e
      exact r.same _ _ e
  · have na : a ≠ p := fun e => hm (e ▸ List.mem_of_getElem? h1)
    have q := r.cell k a x h1 h2
    cases x with
    | lst es =>
      obtain ⟨q1, us, q2, q3⟩ := q
      exact ⟨by rw [upd_ne na]; exact q1, us, q2, q3.mono sI (Pre.refl m)⟩
    | dct es =>
      obtain ⟨q1, us, q2, q3⟩ := q
      exact ⟨by rw [upd_ne na]; exact q1, us, q2, q3.mono sI (Pre.refl m)⟩
    | ins C es =>
      obtain ⟨q1, dx, us, q2, q3, q4, q5, q6⟩ := q
      exact ⟨by rw [upd_ne na]; exact q1, dx, us, by rw [upd_ne (ne_of q4 hH (by intro y; cases y))]; exact q2, q3, q4, q5, q6.mono sI (Pre.refl m)⟩
    | frz d => exact ⟨by rw [upd_ne na]; exact q.1, q.2.mono sI (Pre.refl m)⟩
/-- a block's target: it stores at the block's own places alone -/
def Good (g0 : TG) (js : List Nat) : Prop := ∀ (v : V) (σ : St) (H : Hp) (Q : St → Hp → Prop), g0 v (wipe σ js) H Q → g0 v (wipe σ js) H fun σ2 H2 => wipe σ2 js = wipe σ js ∧ Q σ2 H2
theorem wipe_get (σ : St) (i : Nat) : ∀ js : List Nat, (wipe σ js)[i]? = if i ∈ js then (if i < σ.length then some none else none) else σ[i]?
  | [] => by simp [wipe]
  | j :: js => by
    unfold wipe
    by_cases hj : j = i
    · subst hj
      by_cases hl : j < σ.length
      · rw [List.getElem?_set_self (by rw [wipe_length]; exact hl)]
        simp [hl]
      · rw [List.getElem?_eq_none (by rw [List.length_set, wipe_length]; omega)]
        simp [hl]
    · rw [List.getElem?_set_ne hj, wipe_get σ i js]
      have : i ∈ j :: js ↔ i ∈ js := by simp [Ne.symm hj]
      simp [this]
theorem wipe_again (σ : St) (js : List Nat) : wipe (wipe σ js) js = wipe σ js := by
  apply List.ext_getElem?
  intro i
  rw [wipe_get, wipe_length, wipe_get]
  by_cases h : i ∈ js <;> simp [h]
theorem wipe_set (σ : St) (js : List Nat) {i : Nat} (h : i ∈ js) (x : Option V) : wipe (σ.set i x) js = wipe σ js := by
  apply List.ext_getElem?
  intro k
  rw [wipe_get, wipe_get, List.length_set]
  by_cases hk : k ∈ js
  · simp [hk]
  · have : i ≠ k := fun e => hk (e ▸ h)
    simp [hk, List.getElem?_set_ne this]
theorem good_name {i : Nat} {js : List Nat} (h : i ∈ js) : Good (gName i) js := fun v σ H Q q => ⟨by rw [wipe_set _ _ h, wipe_again], q⟩
theorem good_names {K : PySem.W.Frag} {n : Nat} {i j : Nat} {js : List Nat} (h : i ∈ js) (h2 : j ∈ js) : Good (gTup K n (gCons (gName i) (gCons (gName j) gNil))) js := fun v σ H Q ⟨a, xs, e, hs, hl, v1, r1, e1, v2, r2, e2, e3, q⟩ =>
  ⟨a, xs, e, hs, hl, v1, r1, e1, v2, r2, e2, e3, by rw [wipe_set _ _ h2, wipe_set _ _ h, wipe_again], q⟩
def W0 : WX := fun _ _ _ _ => False
theorem takesW0 {X : Cx} : Takes X W0 := fun u s' ⟨_, _, _, _, _, _, _, _, _, _, _, _, _, _, _, _, z⟩ => z.elim
theorem lc_read {K : PySem.W.Frag} {W : WX} {fi : MI} {g : MG} {ft : MT} {fe : ME} {js : List Nat} {g0 : TG} (good : Good g0 js) (rg : ∀ v σ H Q, rdG K W0 g v σ H Q → g0 v σ H Q) {σ : St} {H : Hp} {Q : VK} (h : rdE K W (mLc fi js g ft fe) σ H Q) :
    tLc (rdI K W fi) g0 (rdT K W0 ft) (rdE K W0 fe) js σ H Q := by
  obtain ⟨I, m, l, c, R, L, A⟩ := h
  refine ⟨I, m, l, c, R, L, After.mono (After.bind (rep := rI' K) A) fun J H1 ⟨I1, m1, c1, ds, E1, R1, w1, A1⟩ => ?_⟩
  intro Dn hD
  have nI := R1.same.free hD
  have nm := R1.fresh hD
  refine ⟨fun i n H => ∃ I' m' c' acc vs, n = ds.length - i ∧ Ext I1 m1 H1 I' m' H ∧ Rel K I' H m' c' ∧ Reps K I' m' vs acc ∧ H Dn = some (.lst vs) ∧ I' Dn = none ∧ Dn ∉ m' ∧
    After (rD K) K I1 m1 H1 (fun cls dd H' => W cls dd σ H') Q ((compD g ft fe (wipeL l js) (ds.drop i) acc c').bind fun xs c2 => .ok (.lst xs) c2),
    ⟨_, I1, m1, c1, [], [], rfl, ⟨Same.refl _, Pre.refl _, fun b o h1 h2 h3 => ⟨by rw [upd_ne (ne_of_none h1 hD)]; exact h1, h2, h3⟩⟩, R1.side (vs := []) (.inl hD) nI nm, .nil, upd_same, nI, nm, A1⟩, ?_⟩
  rintro i n H' ⟨I', m', c', acc, vs, rfl, E', R', p', hH', hI', hm', A'⟩
  obtain ⟨wg, ws⟩ := w1 i I' H' m' c' E'.same E'.pre R'
  cases q : ds[i]? with
  | none =>
    have hi : ds.length ≤ i := List.getElem?_eq_none_iff.mp q
    rw [List.drop_eq_nil_of_le hi] at A'
    refine .inl ⟨ws hi, ?_⟩
    have sI : Same I' (upd I' Dn (.lst vs)) := fun b o e => by rw [upd_ne (ne_of_none e hI')]; exact e
    refine A' (upd I' Dn (.lst vs)) m' H' (.ref Dn) ⟨E'.same.trans sI, E'.pre, fun b o h1 h2 h3 => ?_⟩ (R'.adopt hH' hI' hm') (.lst upd_same (p'.mono sI (Pre.refl _)))
    obtain ⟨q1, q2, q3⟩ := E'.fr b o h1 h2 h3
    exact ⟨q1, by rw [upd_ne (ne_of_none h1 hD)]; exact q2, q3⟩
  | some d =>
    have hi : i < ds.length := (List.getElem?_eq_some_iff.mp q).1
    have hd : ds.drop i = d :: ds.drop (i + 1) := by
      rw [List.drop_eq_getElem_cons hi, (List.getElem?_eq_some_iff.mp q).2]
    rw [hd] at A'
    obtain ⟨go, yl⟩ := wg d q
    refine .inr ⟨go, fun H2 => ∃ I2 m2 c2 acc2 vs2, Ext I1 m1 H1 I2 m2 H2 ∧ Rel K I2 H2 m2 c2 ∧ Reps K I2 m2 vs2 acc2 ∧ H2 Dn = some (.lst vs2) ∧ I2 Dn = none ∧ Dn ∉ m2 ∧
      After (rD K) K I1 m1 H1 (fun cls dd H' => W cls dd σ H') Q ((compD g ft fe (wipeL l js) (ds.drop (i + 1)) acc2 c2).bind fun xs c2 => .ok (.lst xs) c2),
      fun H2 ⟨I2, m2, c2, acc2, vs2, e2, r2, pp2, h2, i2, n2, a2⟩ => ⟨ds.length - (i + 1), by omega, I2, m2, c2, acc2, vs2, rfl, e2, r2, pp2, h2, i2, n2, a2⟩, fun x H3 y => ?_⟩
    obtain ⟨I3, E3, R3, p3⟩ := yl x H3 y
    have Lw := ((locs_wipe L js).ext E1).ext (E'.trans E3)
    have A3 : After (rD K) K I1 m1 H1 (fun cls dd H' => W cls dd σ H') Q (((g d (wipeL l js) c').nox.bind fun l1 c1 => (ft l1 c1).nox.bind fun k c2 => match k with
      | true => (fe l1 c2).nox.bind fun x c3 => if acc.length < sizeLine then compD g ft fe (wipeL l js) (ds.drop (i + 1)) (acc ++ [x]) c3 else .stuck
      | false => compD g ft fe (wipeL l js) (ds.drop (i + 1)) acc c2).bind fun xs c2 => .ok (.lst xs) c2) := A'
    have asc : ∀ {α β γ : Type} (r : Mi.R α) (f : α → Cs → Mi.R β) (h : β → Cs → Mi.R γ), (r.bind f).bind h = r.bind fun a c => (f a c).bind h := fun r f h => by cases r <;> rfl
    rw [asc] at A3
    refine good x σ H3 _ (rg _ _ _ _ ⟨I3, m', wipeL l js, c', d, R3, Lw, p3, After.mono (After.nox (After.bindAt (rep := rL K) A3 (E'.trans E3))) fun σ4 H4 ⟨I4, m4, c4, l4, E4, R4, L4, A4⟩ => ?_⟩)
    rw [asc] at A4
    have EE := (E'.trans E3).trans E4
    refine ⟨I4, m4, l4, c4, R4, L4, After.mono (After.nox (After.bindAt (rep := rB) A4 EE)) fun b H5 ⟨I5, m5, c5, b5, E5, R5, p5, A5⟩ => ?_⟩
    cases (show b = b5 from p5)
    have F5 := (E3.trans E4).trans E5
    cases b with
    | false =>
      obtain ⟨f1, f2, f3⟩ := F5.fr _ _ hH' hI' hm'
      exact iteF ⟨I5, m5, c5, acc, vs, EE.trans E5, R5, p'.ext F5, f1, f2, f3, A5⟩
    | true =>
      have A6 : After (rD K) K I1 m1 H1 (fun cls dd H' => W cls dd σ H') Q (((fe l4 c5).nox.bind fun x c3 => if acc.length < sizeLine then compD g ft fe (wipeL l js) (ds.drop (i + 1)) (acc ++ [x]) c3 else .stuck).bind fun xs c2 => .ok (.lst xs) c2) := A5
      rw [asc] at A6
      have L4' : Locs K I4 m4 σ4 l4 := L4
      refine iteT ⟨I5, m5, l4, c5, R5, L4'.ext E5, After.mono (After.nox (After.bindAt (rep := rD K) A6 (EE.trans E5))) fun z H7 ⟨I7, m7, c7, d7, E7, R7, p7, A7⟩ => ?_⟩
      have F7 := F5.trans E7
      obtain ⟨f1, f2, f3⟩ := F7.fr _ _ hH' hI' hm'
      by_cases hz : acc.length < sizeLine
      · have A8 : After (rD K) K I1 m1 H1 (fun cls dd H' => W cls dd σ H') Q ((if acc.length < sizeLine then compD g ft fe (wipeL l js) (ds.drop (i + 1)) (acc ++ [d7]) c7 else .stuck).bind fun xs c2 => .ok (.lst xs) c2) := A7
        rw [if_pos hz] at A8
        refine ⟨vs, f1, by rw [p'.length]; exact hz, I7, m7, c7, acc ++ [d7], vs ++ [z], ?_, R7.side (.inr f1) f2 f3, (p'.ext F7).append (.cons p7 .nil), upd_same, f2, f3, A8⟩
        have G := (EE.trans E5).trans E7
        refine ⟨G.same, G.pre, fun b o h1 h2 h3 => ?_⟩
        obtain ⟨q1, q2, q3⟩ := G.fr b o h1 h2 h3
        exact ⟨by rw [upd_ne (ne_of_none h1 hD)]; exact q1, q2, q3⟩
      · have A8 : After (rD K) K I1 m1 H1 (fun cls dd H' => W cls dd σ H') Q ((if acc.length < sizeLine then compD g ft fe (wipeL l js) (ds.drop (i + 1)) (acc ++ [d7]) c7 else .stuck).bind fun xs c2 => .ok (.lst xs) c2) := A7
        rw [if_neg hz] at A8
        exact A8.elim
end L2.Mi

namespace L2.Mi
open PySem PySem.Spec PyProof.Rows L2

section
variable {K : PySem.W.Frag}
/-! ### isinstance, of built-in types -/
def tyD (d : D) (c : Cs) : Option String := match d with
  | .non => some "NoneType"
  | .bl _ => some "bool"
  | .int _ => some "int"
  | .str _ => some "str"
  | .lst _ => some "list"
  | .ro _ => some "list"
  | .tup _ => some "tuple"
  | .dct _ => some "dict"
  | .ref k => match c[k]? with
    | some (.lst _) => some "list"
    | some (.dct _) => some "dict"
    | some (.frz (.lst _)) => some "list"
    | _ => none
  | _ => none
def tyNames : List String := ["NoneType", "bool", "int", "str", "list", "tuple", "dict"]
def isT (t n : String) : Bool := t == n || (t == "bool" && n == "int")
theorem kit_tab : ∀ t ∈ tyNames, ∀ n ∈ tyNames, kitB t n = some (isT t n) := by decide +kernel
theorem tyD_mem {d : D} {c : Cs} {t : String} (h : tyD d c = some t) : t ∈ tyNames := by
  unfold tyD at h
  split at h <;> first
    | (cases h; decide)
    | (split at h <;> first | (cases h; decide) | cases h)
    | cases h
theorem tyL {I H : Hp} {m : List Addr} {a : Addr} {vs : List V} (s : Same I H) (h : SqL K I a vs) : TyX K H (.ref a) (.type "list") := by
  rcases s.seq h with (h | ⟨o, h⟩) | ⟨o, its, n, h1, h2, _⟩
  · exact .base (.lst h)
  · exact .base (.frz h)
  · exact .kList h1 h2
theorem tyT {I H : Hp} {m : List Addr} {a : Addr} {vs : List V} (s : Same I H) (h : SqT K I a vs) : TyX K H (.ref a) (.type "tuple") := by
  rcases sqT_same s h with (h | ⟨o, h⟩) | ⟨o, its, n, h1, h2, _⟩
  · exact .base (.tup h)
  · exact .fTuple h
  · exact .kTuple h1 h2
theorem tyD_is {I H : Hp} {m : List Addr} {c : Cs} {v : V} {d : D} {t : String} (R : Rel K I H m c) (p : Rep K I m v d) (h : tyD d c = some t) : TyX K H v (.type t) := by
  cases p with
  | non => cases h; exact .base .non
  | bl b => cases h; exact .base (.bl b)
  | int i => cases h; exact .base (.int i)
  | str s => cases h; exact .base (.str s)
  | lst q r => cases h; exact .base (.lst (R.same _ _ q))
  | ro q r => cases h; exact tyL (m := m) R.same q
  | tup q r => cases h; exact tyT (m := m) R.same q
  | dct q r => cases h; exact .base (.dK (R.same _ _ q))
  | @ref k a q =>
    have h : (match c[k]? with
      | some (.lst _) => some "list"
      | some (.dct _) => some "dict"
      | some (.frz (.lst _)) => some "list"
      | _ => none) = some t := h
    cases e : c[k]? with
    | none => rw [e] at h; cases h
    | some x =>
      rw [e] at h
      have hc := R.cell k a x q e
      cases x with
      | lst ds => cases h; obtain ⟨_, vs, h1, _⟩ := hc; exact .base (.lst h1)
      | dct ds => cases h; obtain ⟨_, vs, h1, _⟩ := hc; exact .base (.dK h1)
      | frz d =>
        cases d with
        | lst ds =>
          cases h
          obtain ⟨_, hr⟩ := hc
          cases hr with
          | lst h1 h2 => exact .base (.lst (R.same _ _ h1))
        | _ => cases h
      | _ => cases h
  | _ => cases h
/-- the classes that are asked: one, or a tuple of them -/
def clsL : List D → Option (List String)
  | [] => some []
  | .ty n :: r => match clsL r with
    | some ns => some (n :: ns)
    | none => none
  | _ :: _ => none
def isiAny (t : String) (ns : List String) : Bool := ns.any fun n => isT t n
def isiD : List D → Cs → R D
  | [x, .ty n], c => match tyD x c with
    | some t => if n ∈ tyNames then .ok (.bl (isT t n)) c else .stuck
    | none => .stuck
  | [x, .tup cs], c => match tyD x c with
    | some t => match clsL cs with
      | some ns => if (∀ n ∈ ns, n ∈ tyNames) then .ok (.bl (isiAny t ns)) c else .stuck
      | none => .stuck
    | none => .stuck
  | _, _ => .stuck
/-- .. of a tuple of classes that stands anywhere -/
def rIsiQ (K : PySem.W.Frag) : List V → Hp → VK → Prop := fun xs H Q => ∃ (x : V) (tp : Addr) (cs : List V) (t : Value) (us : List Value) (b : Bool), xs = [x, .ref tp] ∧ SqT K H tp cs ∧ Paired ClsV cs us ∧ TyX K H x t ∧ PySem.W.kitAny K t us = some b ∧ Q (.bl b) H
theorem call_isiQ {X : Cx} : CallR X (.builtin "isinstance") (rIsiQ X.K) := fun pins s σ H xs us Q I r h => by
  obtain ⟨x, tp, cs, t, ws, b, rfl, hT, k, ty, e, q⟩ := h
  obtain ⟨u1, u2, rfl, r1, r2⟩ := vals2 r
  cases (show u2 = Value.ref tp from r2)
  obtain ⟨P, Z, p, hx⟩ := kit_of I r1 ty
  obtain ⟨its, rv, ⟨o, h1, h2, n, h3⟩, _⟩ := I.tuple hT
  cases ClsV.all k rv
  obtain ⟨oc, od, dt, sl⟩ := o
  cases h2
  cases h3
  exact PySem.W.kia_tup Z I.kIn p h1 e hx fun tk => ⟨.bl b, H, I.tok tk, rfl, q⟩
def rIsiA (K : PySem.W.Frag) : List V → Hp → VK → Prop := fun xs H Q => rIsi K xs H Q ∨ rIsiQ K xs H Q
theorem call_isiA {X : Cx} : CallR X (.builtin "isinstance") (rIsiA X.K) := call_isi.or call_isiQ
theorem kitAny_tab (K : PySem.W.Frag) {t : String} (ht : t ∈ tyNames) : ∀ {ns : List String}, (∀ n ∈ ns, n ∈ tyNames) → PySem.W.kitAny K (.type t) (ns.map Value.type) = some (isiAny t ns)
  | [], _ => rfl
  | n :: ns, h => by
    have h1 := kit_tab t ht n (h n List.mem_cons_self)
    have h2 := kitAny_tab K ht (ns := ns) fun k hk => h k (List.mem_cons_of_mem _ hk)
    have e : isiAny t (n :: ns) = (isT t n || isiAny t ns) := rfl
    refine kitAny_cons (kit_ty h1) (fun hb => ?_) (fun hb => by rw [e, hb]; rfl)
    rw [h2, e, hb]
    rfl
theorem cls_paired {I : Hp} {m : List Addr} : ∀ {vs : List V} {ds : List D} {ns : List String}, Reps K I m vs ds → clsL ds = some ns → Paired ClsV vs (ns.map Value.type)
  | _, _, _, .nil, e => by cases e; exact .nil
  | _, _, _, .cons (d := d) (ds := ds) h t, e => by
    cases h with
    | ty n =>
      unfold clsL at e
      cases q : clsL ds with
      | none => rw [q] at e; cases e
      | some ks => rw [q] at e; cases e; exact .cons (.ty n) (cls_paired t q)
    | _ => simp [clsL] at e
theorem cs_isi : CallS K (rIsiA K) isiD := fun I H m c vs ds W Q R p A => by
  cases p with
  | nil => exact A.elim
  | @cons v _ d _ h t =>
    cases t with
    | nil => exact A.elim
    | @cons v2 _ d2 _ h2 t2 =>
      cases t2 with
      | cons _ _ => cases h2 <;> exact A.elim
      | nil =>
        cases h2 with
        | ty n =>
          have A2 : After (rD K) K I m H W Q (match tyD d c with
            | some t => if n ∈ tyNames then .ok (.bl (isT t n)) c else .stuck
            | none => .stuck) := A
          cases e : tyD d c with
          | none => rw [e] at A2; exact A2.elim
          | some t =>
            rw [e] at A2
            by_cases hn : n ∈ tyNames
            · have A3 : After (rD K) K I m H W Q (if n ∈ tyNames then .ok (.bl (isT t n)) c else .stuck) := A2
              rw [if_pos hn] at A3
              exact .inl ⟨v, .ty n, .type t, .type n, _, rfl, .ty n, tyD_is R h e, kit_ty (kit_tab t (tyD_mem e) n hn), A3.here R (.bl _)⟩
            · have A3 : After (rD K) K I m H W Q (if n ∈ tyNames then .ok (.bl (isT t n)) c else .stuck) := A2
              rw [if_neg hn] at A3
              exact A3.elim
        | @tup tp ws cs hs hr =>
          have A2 : After (rD K) K I m H W Q (match tyD d c with
            | some t => match clsL cs with
              | some ns => if (∀ n ∈ ns, n ∈ tyNames) then .ok (.bl (isiAny t ns)) c else .stuck
              | none => .stuck
            | none => .stuck) := A
          cases e : tyD d c with
          | none => rw [e] at A2; exact A2.elim
          | some t =>
            rw [e] at A2
            cases e2 : clsL cs with
            | none =>
              have A3 : After (rD K) K I m H W Q (match clsL cs with
                | some ns => if (∀ n ∈ ns, n ∈ tyNames) then .ok (.bl (isiAny t ns)) c else .stuck
                | none => .stuck) := A2
              rw [e2] at A3
              exact A3.elim
            | some ns =>
              have A3 : After (rD K) K I m H W Q (match clsL cs with
                | some ns => if (∀ n ∈ ns, n ∈ tyNames) then .ok (.bl (isiAny t ns)) c else .stuck
                | none => .stuck) := A2
              rw [e2] at A3
              by_cases hn : ∀ n ∈ ns, n ∈ tyNames
              · have A4 : After (rD K) K I m H W Q (if (∀ n ∈ ns, n ∈ tyNames) then .ok (.bl (isiAny t ns)) c else .stuck) := A3
                rw [if_pos hn] at A4
                have hq := A4.here R (Rep.bl _)
                exact .inr ⟨v, tp, ws, .type t, ns.map Value.type, _, rfl, sqT_same R.same hs, cls_paired hr e2, tyD_is R h e, kitAny_tab K (tyD_mem e) hn, hq⟩
              · have A4 : After (rD K) K I m H W Q (if (∀ n ∈ ns, n ∈ tyNames) then .ok (.bl (isiAny t ns)) c else .stuck) := A3
                rw [if_neg hn] at A4
                exact A4.elim
        | _ => exact A.elim
end
end L2.Mi

namespace L2.Mi
open PySem PySem.Spec PyProof.Rows L2

section
variable {K : PySem.W.Frag}
theorem one_arg {I H : Hp} {m : List Addr} {c : Cs} {W : XK} {Q : VK} {vs : List V} {ds : List D} {G : List D → Cs → R D} (g : D → Cs → R D) (h0 : ∀ c, G [] c = .stuck) (h1 : ∀ x c, G [x] c = g x c) (h2 : ∀ x y r c, G (x :: y :: r) c = .stuck)
    (p : Reps K I m vs ds) (A : After (rD K) K I m H W Q (G ds c)) : ∃ v d, vs = [v] ∧ ds = [d] ∧ Rep K I m v d ∧ After (rD K) K I m H W Q (g d c) := by
  cases p with
  | nil => rw [h0] at A; exact A.elim
  | cons h t =>
    cases t with
    | nil => rw [h1] at A; exact ⟨_, _, rfl, rfl, h, A⟩
    | cons h' t' => rw [h2] at A; exact A.elim
def on1 (g : D → Cs → R D) : List D → Cs → R D
  | [x], c => g x c
  | _, _ => .stuck
theorem on1_arg {I H : Hp} {m : List Addr} {c : Cs} {W : XK} {Q : VK} {vs : List V} {ds : List D} {g : D → Cs → R D} (p : Reps K I m vs ds) (A : After (rD K) K I m H W Q (on1 g ds c)) : ∃ v d, vs = [v] ∧ ds = [d] ∧ Rep K I m v d ∧ After (rD K) K I m H W Q (g d c) :=
  one_arg g (fun _ => rfl) (fun _ _ => rfl) (fun _ _ _ _ => rfl) p A

/-! ### repr -/
def rRepr (K : PySem.W.Frag) : List V → Hp → VK → Prop := fun xs H Q => ∃ v d, xs = [v] ∧ Dp K H v d ∧ SeqAt.shaped d = true ∧ d.showable = true ∧ d.shown.length ≤ sizeLine ∧ Q (.str d.shown) H
theorem call_reprA {X : Cx} (hg : X.A.guards = some []) (hu : X.A.units + 100 < cLine) : CallR X (.builtin "repr") (rRepr X.K) := fun pins s σ H xs us Q I r h => by
  obtain ⟨v, d, rfl, hd, hs, hw, hz, q⟩ := h
  obtain ⟨u, rfl, rx⟩ := vals1 r
  obtain ⟨as, hr⟩ := Dp.reads I d v u hd rx
  have nd := PyData.hasDict_of_canLay d (SeqAt.canLay_of_shaped hs)
  have dd := SeqAt.depth_of_shaped hs
  have far : ∀ {a : Addr}, u = .ref a → wpAny (model X.prog X.w) X.A (call (.builtin "repr") [u]) (EP X pins σ Q) X.xe s := fun {a} e => by
    subst e
    exact repr_of_reads' hr hw (PyData.noDict_hsm nd) hg (by omega) (fun _ _ e => e) (fun h' t tk k => ⟨.str _, H, I.kept k, ⟨t, rfl⟩, q⟩) hz
  cases hd with
  | non => cases (show u = Value.none from rx); exact PySem.P.repr_of_none ⟨.str _, H, I.tok _, ⟨_, rfl⟩, by simpa [PyData.shown] using q⟩
  | bl b => cases (show u = Value.bool b from rx); exact PySem.P.repr_of_bool ⟨.str _, H, I.tok _, ⟨_, rfl⟩, by simpa [PyData.shown] using q⟩
  | int i =>
    obtain ⟨t, rfl⟩ := rx
    exact PySem.P.repr_of_int (by simpa [PyData.showable] using hw) ⟨.str _, H, I.tok _, ⟨_, rfl⟩, by simpa [PyData.shown] using q⟩
  | str x =>
    obtain ⟨t, rfl⟩ := rx
    exact PySem.P.repr_of_str ⟨.str _, H, I.tok _, ⟨_, rfl⟩, by simpa [PyData.shown] using q⟩ (by simpa [PyData.shown] using hz)
  | lst h t => exact far rx
  | tup h t => exact far rx
def reprP (d : D) (c : Cs) : R D := match toPy d with
  | some p => if SeqAt.shaped p = true ∧ p.showable = true ∧ p.shown.length ≤ sizeLine then .ok (.str p.shown) c else .stuck
  | none => .stuck
def reprD : List D → Cs → R D := on1 reprP
theorem cs_repr : CallS K (rRepr K) reprD := fun I H m c vs ds W Q R p A => by
  obtain ⟨v, d, rfl, rfl, p, A⟩ := on1_arg p A
  unfold reprP at A
  cases q : toPy d with
  | none => rw [q] at A; exact A.elim
  | some y =>
    rw [q] at A
    by_cases h : SeqAt.shaped y = true ∧ y.showable = true ∧ y.shown.length ≤ sizeLine
    · have A2 : After (rD K) K I m H W Q (if SeqAt.shaped y = true ∧ y.showable = true ∧ y.shown.length ≤ sizeLine then .ok (.str y.shown) c else .stuck) := A
      rw [if_pos h] at A2
      exact ⟨v, y, rfl, rep_dp R.same p q, h.1, h.2.1, h.2.2, A2.here R (.str _)⟩
    · have A2 : After (rD K) K I m H W Q (if SeqAt.shaped y = true ∧ y.showable = true ∧ y.shown.length ≤ sizeLine then .ok (.str y.shown) c else .stuck) := A
      rw [if_neg h] at A2
      exact A2.elim

/-! ### all, any of a list of bools -/
def blsOf : List D → Option (List Bool)
  | [] => some []
  | .bl b :: r => match blsOf r with
    | some bs => some (b :: bs)
    | none => none
  | _ :: _ => none
theorem bls_reps {I : Hp} {m : List Addr} : ∀ {vs : List V} {ds : List D} {bs : List Bool}, Reps K I m vs ds → blsOf ds = some bs → vs = bs.map V.bl
  | _, _, _, .nil, e => by cases e; rfl
  | _, _, _, .cons (d := d) (ds := ds) h t, e => by
    cases h with
    | bl b =>
      unfold blsOf at e
      cases q : blsOf ds with
      | none => rw [q] at e; cases e
      | some ks => rw [q] at e; cases e; rw [bls_reps t q]; rfl
    | _ => simp [blsOf] at e
def allP (f : List Bool → Bool) (d : D) (c : Cs) : R D := match d with
  | .lst ds => match blsOf ds with
    | some bs => .ok (.bl (f bs)) c
    | none => .stuck
  | _ => .stuck
def allD : List D → Cs → R D := on1 (allP fun bs => bs.all id)
def anyD : List D → Cs → R D := on1 (allP fun bs => bs.any id)
theorem all_read {I H : Hp} {m : List Addr} {c : Cs} {W : XK} {Q : VK} {vs : List V} {ds : List D} {f : List Bool → Bool} (R : Rel K I H m c) (p : Reps K I m vs ds) (A : After (rD K) K I m H W Q (on1 (allP f) ds c)) : ∃ (a : Addr) (bs : List Bool), vs = [V.ref a] ∧ SqL K H a (bs.map V.bl) ∧ Q (.bl (f bs)) H := by
  obtain ⟨v, d, rfl, rfl, p, A⟩ := on1_arg p A
  cases p with
  | @lst a ws es h r =>
    have A2 : After (rD K) K I m H W Q (match blsOf es with
      | some bs => .ok (.bl (f bs)) c
      | none => .stuck) := A
    cases q : blsOf es with
    | none => rw [q] at A2; exact A2.elim
    | some bs =>
      rw [q] at A2
      exact ⟨a, bs, rfl, by rw [← bls_reps r q]; exact SqL.of (R.same _ _ h), A2.here R (.bl _)⟩
  | _ => exact A.elim
theorem cs_all : CallS K (rAll K) allD := fun I H m c vs ds W Q R p A => all_read R p A
theorem cs_any : CallS K (rAny K) anyD := fun I H m c vs ds W Q R p A => all_read R p A

/-! ### methods of texts: of none, of one argument -/
def strsOf : List D → Option (List Str)
  | [] => some []
  | .str b :: r => match strsOf r with
    | some bs => some (b :: bs)
    | none => none
  | _ :: _ => none
theorem strs_reps {I : Hp} {m : List Addr} : ∀ {vs : List V} {ds : List D} {bs : List Str}, Reps K I m vs ds → strsOf ds = some bs → vs = bs.map V.str
  | _, _, _, .nil, e => by cases e; rfl
  | _, _, _, .cons (d := d) (ds := ds) h t, e => by
    cases h with
    | str b =>
      unfold strsOf at e
      cases q : strsOf ds with
      | none => rw [q] at e; cases e
      | some ks => rw [q] at e; cases e; rw [strs_reps t q]; rfl
    | _ => simp [strsOf] at e
def joinL (a : Str) (ds : List D) (c : Cs) : R D := match strsOf ds with
  | some ys => if (ys.map (·.length)).sum + ys.length * a.length ≤ 16777216 then .ok (.str (Txt.join a ys)) c else .stuck
  | none => .stuck
def joinD : D → D → Cs → R D
  | .str a, .lst ds, c => joinL a ds c
  | .str a, .tup ds, c => joinL a ds c
  | _, _, _ => .stuck
/-- a text's method of one argument: what is asked of the values -/
def M1S (K : PySem.W.Frag) (r : V → List V → Hp → VK → Prop) (g : D → D → Cs → R D) : Prop := ∀ (I H : Hp) (m : List Addr) (c : Cs) (v1 v2 : V) (d1 d2 : D) (W : XK) (Q : VK),
  Rel K I H m c → Rep K I m v1 d1 → Rep K I m v2 d2 → After (rD K) K I m H W Q (g d1 d2 c) → r v1 [v2] H Q
/-- the receiver is looked at first: it must be a text -/
def mM1 (g : D → D → Cs → R D) (a b : ME) : ME := fun l c => (a l c).bind fun x c1 => match x with
  | .str s => (b l c1).bind fun y c2 => g (.str s) y c2
  | _ => .stuck
theorem m1_read {W : WX} {fa fb : ME} {r : V → List V → Hp → VK → Prop} {g : D → D → Cs → R D} {σ : St} {H : Hp} {Q : VK} (hs : M1S K r g) (h : rdE K W (mM1 g fa fb) σ H Q) : tM1 r (rdE K W fa) (rdE K W fb) σ H Q := by
  obtain ⟨I, m, l, c, R, L, A⟩ := h
  refine ⟨I, m, l, c, R, L, After.mono (After.bind (rep := rD K) A) fun v1 H1 ⟨I1, m1, c1, d1, E1, R1, p1, A1⟩ => ?_⟩
  cases p1 with
  | str s =>
    refine ⟨⟨s, rfl⟩, I1, m1, l, c1, R1, L.ext E1, After.mono (After.bind (rep := rD K) (show After (rD K) K I1 m1 H1 (fun cls dd H' => W cls dd σ H') Q ((fb l c1).bind fun y c2 => g (.str s) y c2) from A1)) fun v2 H2 ⟨I2, m2, c2, d2, E2, R2, p2, A2⟩ => ?_⟩
    exact hs _ _ _ _ _ _ _ _ _ _ R2 (Rep.str s) p2 A2
  | _ => exact A1.elim
theorem me_m1 {X : Cx} {W : WX} {e : Expr} {fa fb : ME} {r : V → List V → Hp → VK → Prop} {g : D → D → Cs → R D} (h : PE X e (tM1 r (rdE X.K W fa) (rdE X.K W fb))) (hs : M1S X.K r g) : PE X e (rdE X.K W (mM1 g fa fb)) := PEi h fun _ _ _ q => m1_read hs q
theorem m1_join : M1S K (fun x xs H Q => ∃ a p, ∃ ys : List Str, x = .str a ∧ xs = [.ref p] ∧ (SqL K H p (ys.map V.str) ∨ SqT K H p (ys.map V.str)) ∧ (ys.map (·.length)).sum + ys.length * a.length ≤ 16777216 ∧ Q (.str (Txt.join a ys)) H) joinD :=
  fun I H m c v1 v2 d1 d2 W Q R p1 p2 A => by
    cases p1 with
    | str a =>
      have go : ∀ {p : Addr} {vs : List V} {ds : List D}, v2 = .ref p → (SqL K H p vs ∨ SqT K H p vs) → Reps K I m vs ds → After (rD K) K I m H W Q (joinL a ds c) → _ := fun {p vs ds} e hq r A => by
        unfold joinL at A
        cases q : strsOf ds with
        | none => rw [q] at A; exact A.elim
        | some ys =>
          rw [q] at A
          by_cases hz : (ys.map (·.length)).sum + ys.length * a.length ≤ 16777216
          · have A2 : After (rD K) K I m H W Q (if (ys.map (·.length)).sum + ys.length * a.length ≤ 16777216 then .ok (.str (Txt.join a ys)) c else .stuck) := A
            rw [if_pos hz] at A2
            exact (show ∃ a' p, ∃ ys : List Str, V.str a = .str a' ∧ [v2] = [.ref p] ∧ (SqL K H p (ys.map V.str) ∨ SqT K H p (ys.map V.str)) ∧ (ys.map (·.length)).sum + ys.length * a'.length ≤ 16777216 ∧ Q (.str (Txt.join a' ys)) H from
              ⟨a, p, ys, rfl, by rw [e], by rw [← strs_reps r q]; exact hq, hz, A2.here R (.str _)⟩)
          · have A2 : After (rD K) K I m H W Q (if (ys.map (·.length)).sum + ys.length * a.length ≤ 16777216 then .ok (.str (Txt.join a ys)) c else .stuck) := A
            rw [if_neg hz] at A2
            exact A2.elim
      cases p2 with
      | lst h r => exact go rfl (.inl (SqL.of (R.same _ _ h))) r A
      | tup h r => exact go rfl (.inr (sqT_same R.same h)) r A
      | _ => exact A.elim
    | _ => cases p2 <;> exact A.elim
end

/-! ### own defs -/
/-- the def at f does what g says -/
structure GFn (P : Program) (w : World) (K : PySem.W.Frag) (mg : Str → Option Value) (base : Heap) (k : Nat) (f : Addr) (fd : FuncData) (ps : List Str) (g : List D → Cs → R D) : Prop where
  len : ∀ ds c, g ds c ≠ .stuck → ds.length = ps.length
  run : ∀ (A : Around) (outer : List Env) (s : Shared) (H : Hp) (args : Args) (us : List Value) (vs : List V) (Q : VK) (E : XK) (I : Hp) (m : List Addr) (c : Cs) (ds : List D), Room k A → A.guards = some [] → Env0 P w K mg base A outer s H →
    BindsTo s fd args (ps.zip us) → Vals vs us → Rel K I H m c → Reps K I m vs ds → After (rD K) K I m H E Q (g ds c) → codeAny (model P w) A (.call (.ref f) args) (CR (CX P w) outer P w H s Q E) s
theorem GFn.mono {P : Program} {w : World} {K : PySem.W.Frag} {mg : Str → Option Value} {base : Heap} {j k : Nat} {f : Addr} {fd : FuncData} {ps : List Str} {g : List D → Cs → R D} (F : GFn P w K mg base j f fd ps g) (h : j ≤ k) : GFn P w K mg base k f fd ps g :=
  ⟨F.len, fun A outer s H args us vs Q E I m c ds hr => F.run A outer s H args us vs Q E I m c ds (hr.mono h)⟩
/-- a body, run from the arguments: n names, a of them parameters -/
def mFun (n a : Nat) (b : MS) : List D → Cs → R D := fun ds c => if ds.length = a then (match b (ds.map some ++ List.replicate (n - a) none) c with
  | .go (.rt d) c' => .ok d c'
  | .go (.nx _) c' => .ok .non c'
  | .exc x _ c' => .exc x c'
  | _ => .stuck) else .stuck
theorem after_nonstuck {α β : Type} {rep : Hp → List Addr → β → α → Prop} {K : PySem.W.Frag} {I H : Hp} {m : List Addr} {W : XK} {Q : β → Hp → Prop} {r : R α} (a : After rep K I m H W Q r) : r ≠ .stuck := fun e => by
  rw [e] at a
  exact a
theorem locs_start {K : PySem.W.Frag} {I : Hp} {m : List Addr} {N : List Str} : ∀ {vs : List V} {ds : List D}, Reps K I m vs ds → Locs K I m (start N vs) (ds.map some ++ List.replicate (N.length - ds.length) none) := fun {vs ds} r => by
  refine ⟨by unfold start; simp [r.length], fun i d h => ?_⟩
  by_cases hi : i < ds.length
  · rw [List.getElem?_append_left (by simpa using hi), List.getElem?_map] at h
    cases q : ds[i]? with
    | none => rw [q] at h; cases h
    | some e =>
      rw [q] at h
      cases h
      obtain ⟨v, h1, h2⟩ := r.get q
      refine ⟨v, ?_, h2⟩
      unfold start
      rw [List.getElem?_append_left (by rw [List.length_map, r.length]; exact hi), List.getElem?_map, h1]
      rfl
  · rw [List.getElem?_append_right (by simpa using hi), List.getElem?_replicate] at h
    split at h <;> cases h
/-- THE RULE: a def by its body -/
theorem gfn_of {P : Program} {w : World} {K : PySem.W.Frag} {mg : Str → Option Value} {base : Heap} {k : Nat} {x qual : Str} {st : Stmt} {f : Addr} {fd : FuncData} {N ps : List Str} {b : MS} (F : Fun K x qual st f fd) (S : FnScope N ps (defScope st))
    (hb : ∀ (cdv : Value) (A : Around) (outer : List Env) (s : Shared) (H : Hp) (E : XK), Room k (A.deeper (envOfC qual (defScope st) s.heap.objs.size f cdv)) → A.guards = some [] →
      PSs (cxOf (CX P w) P w K mg base N qual (defScope st) f cdv A outer s H E) (defBody st) (rdS K (fun cls d _ H' => E cls d H') b)) : GFn P w K mg base (k + 1) f fd ps (mFun N.length ps.length b) := by
  obtain ⟨oc, od, kV, doc, pm, an, cdv, ct, osl, rfl, lk, hcd⟩ := F.ex
  have len : ∀ ds c, mFun N.length ps.length b ds c ≠ .stuck → ds.length = ps.length := fun ds c h => by
    by_cases hl : ds.length = ps.length
    · exact hl
    · exact absurd (show mFun N.length ps.length b ds c = .stuck from if_neg hl) h
  refine ⟨len, fun A outer s H args us vs Q E I m c ds hr hg e0 hbd rv R p a => ?_⟩
  have hl := len ds c (after_nonstuck a)
  have hlv : vs.length = ps.length := p.length.trans hl
  have KX : K.In s.heap := e0.mod.kin.keeps fun b o e => (e0.bs b o e).1
  have lim : s.heap.NoLimit := e0.mod.nolimit.keeps fun b o e => (e0.bs b o e).1
  have hkind : ∀ y ∈ ps.zip us, (defScope st).names.lookup y.1 = some .local ∨ ((defScope st).names.lookup y.1 = some .cell ∧ ((cellsFrom (s.heap.objs.size + 1) (defScope st).names []).lookup y.1).isSome = true) := fun ⟨n, v⟩ hy => by
    rcases S.par n (List.of_mem_zip hy).1 with q | q
    · exact Or.inl q
    · exact Or.inr ⟨q, PySem.W.cellsFrom_some _ _ _ (Or.inl q)⟩
  refine codeAny_call_function hr.depth (KX _ _ lk) rfl S.co S.gen rfl (PySem.W.codeRec_of KX hcd) (hbd _ _ _ _ ?_)
  refine wpAny_newFunctionEnv_cells S.kind hkind fun env he s1 y => ?_
  subst he
  refine ⟨lim.keeps y.toInCall.keep, codeAny_func ?_⟩
  have J := inv_start (CX := CX P w) (E := E) (cd := cdv) (qual := qual) (f := f) S hr.hd e0 hlv rv y
  have a2 : After (rD K) K I m H E Q (match b (ds.map some ++ List.replicate (N.length - ps.length) none) c with
    | .go (.rt d) c' => .ok d c'
    | .go (.nx _) c' => .ok .non c'
    | .exc x _ c' => .exc x c'
    | _ => .stuck) := by
    have e : mFun N.length ps.length b ds c = _ := if_pos hl
    rw [e] at a
    exact a
  have hst : rdS K (fun cls d _ H' => E cls d H') b { nx := fun _ H' => Q .non H', rt := Q } (start N vs) H := by
    refine ⟨I, m, ds.map some ++ List.replicate (N.length - ps.length) none, c, R, by rw [← hl]; exact locs_start p, ?_⟩
    cases q : b (ds.map some ++ List.replicate (N.length - ps.length) none) c with
    | stuck => rw [q] at a2; exact a2.elim
    | exc x l' c' => rw [q] at a2; exact fun I' m' H' σ' cls dd e' r' _ px => a2 I' m' H' cls dd e' r' px
    | go fl c' =>
      rw [q] at a2
      cases fl with
      | nx l' => exact fun I' m' H' σ' e' r' _ => a2 I' m' H' .non e' r' Rep.non
      | rt d => exact fun I' m' H' v e' r' pv => a2 I' m' H' v e' r' pv
      | bk l' => exact a2.elim
      | ct l' => exact a2.elim
  refine wpAny_mono ((hb cdv A outer s H E (hr.deeper _) hg).run [] s1 (start N vs) H _ J hst) (fun fl s' hs => ?_) fun e s' hs => hs
  have fin : ∀ {σ' : St} {H' : Hp} {v : V} {u : Value}, Inv (cxOf (CX P w) P w K mg base N qual (defScope st) f cdv A outer s H E) [] σ' H' s' → RelV v u → Q v H' → CE outer P w H s Q u s' :=
    fun {σ' H' v u} Z rv q => ⟨v, H', Z.os, Z.bare, Z.base, Z.hok, rv, q⟩
  cases fl with
  | ret u =>
    obtain ⟨v, σ', H', Z, rv, q⟩ := hs
    exact fin Z rv q
  | next =>
    obtain ⟨σ', H', Z, q⟩ := hs
    exact fin (v := V.non) (u := Value.none) Z rfl q
  | brk =>
    obtain ⟨_, _, _, q⟩ := hs
    exact False.elim q
  | cont =>
    obtain ⟨_, _, _, q⟩ := hs
    exact False.elim q
section
variable {X : Cx} {W : WX} {k : Nat} {f : Addr} {fd : FuncData} {ps : List Str} {g : List D → Cs → R D} {x : Str} {p pos : Pos} {e : Expr} {es : List Expr} {ga : MA}
/-- the callee runs, from a body -/
theorem run_g {pins : List (Addr × Obj)} {σ : St} {H : Hp} {s : Shared} {Q : VK} {us : List Value} {vs : List V} {I : Hp} {m : List Addr} {c : Cs} {ds : List D} (F : GFn X.prog X.w X.K X.mg X.base k f fd ps g) (hr : Room k X.A) (hgd : X.A.guards = some []) (hb : Binds X.K fd ps []) (tk : Takes X W)
    (J : Inv X pins σ H s) (r : Vals vs us) (R : Rel X.K I H m c) (p : Reps X.K I m vs ds) (a : After (rD X.K) X.K I m H (fun cls d H' => W cls d σ H') Q (g ds c)) : wpAny (model X.prog X.w) X.A (call (.ref f) us) (EP X pins σ Q) X.xe s := by
  have hl : us.length = ps.length := by rw [← r.length, p.length]; exact F.len ds c (after_nonstuck a)
  have hb2 : BindsTo s fd ⟨us, []⟩ (ps.zip us) := by
    have z := hb s us J.kIn (by rw [List.append_nil]; exact hl)
    rw [List.append_nil] at z
    exact z
  refine wpAny_call (codeAny_mono (F.run X.A X.stack s H ⟨us, []⟩ us vs Q (fun cls d H' => W cls d σ H') I m c ds hr hgd J.env0 hb2 r R p a) fun res s' hq => ?_)
  cases res with
  | error e => exact tk e s' (XE.of_call J (fun _ _ _ h => h) hq)
  | ok fl =>
    cases fl with
    | ret u => exact J.after hq
    | next => exact False.elim hq
    | brk => exact False.elim hq
    | cont => exact False.elim hq
theorem me_call (F : GFn X.prog X.w X.K X.mg X.base k f fd ps g) (hr : Room k X.A) (hgd : X.A.guards = some []) (hg : Gl X x) (hm : X.mg x = some (.ref f)) (hk : PySem.W.keepIn X.K (.ref f) = true) (hb : Binds X.K fd ps []) (tk : Takes X W)
    (ha : PA X (e :: es) (rdA X.K W ga)) (hdb : (x == ("__debug__" : Str)) = false := by decide) (he : starEach (e :: es) X.env = (false, eval e X.env) :: starEach es X.env := by rfl) (hpl : (backTo pos (starEach es X.env)).any (·.1) = false := by rfl) :
    PE X (.Call (.Name x p) (e :: es) [] pos) (rdE X.K W (mCB g ga)) := by
  refine ⟨fun pins s σ H Q J ⟨I, m, l, c, R, L, A⟩ => ?_⟩
  refine wpAny_Call_Name_kw (ld_glob J hg hm ?_ hdb)
  refine PySem.W.callWith_K (h₀ := X.base) J.ok.mod.kin hk (thn (ha.run pos pins s σ H _ J ⟨I, m, l, c, R, L, After.bind (rep := rA X.K) A⟩) fun us s1 ⟨vs, H1, J1, r, I1, m1, c1, ds, E1, R1, p1, A1⟩ => ⟨J1.kIn, ?_⟩) he hpl
  exact run_g F hr hgd hb tk J1 r R1 p1 A1
theorem me_call0 (F : GFn X.prog X.w X.K X.mg X.base k f fd ps g) (hr : Room k X.A) (hgd : X.A.guards = some []) (hg : Gl X x) (hm : X.mg x = some (.ref f)) (hk : PySem.W.keepIn X.K (.ref f) = true) (hb : Binds X.K fd ps []) (tk : Takes X W)
    (hdb : (x == ("__debug__" : Str)) = false := by decide) : PE X (.Call (.Name x p) [] [] pos) (rdE X.K W (mCB g aNil)) := by
  refine ⟨fun pins s σ H Q J ⟨I, m, l, c, R, L, A⟩ => ?_⟩
  refine wpAny_Call_Name_kw (ld_glob J hg hm ?_ hdb)
  exact PySem.W.callWith_K0 J.kIn hk (run_g (us := []) F hr hgd hb tk J .nil R .nil A)
end

/-! ### the law's end -/
/-- the call of the law's def, from the heap behind the top: nothing but the script may be tracked -/
theorem law_callG {P : Program} {w : World} {K : PySem.W.Frag} {mg mb : Str → Option Value} {k : Nat} {fa a : Addr} {fd : FuncData} {x : Str} {g : List D → Cs → R D} {s₁ : Shared} {vs : List Value} {ns : List Int}
    (KX : K.In s₁.heap) (hns : s₁.heap.Ns mainGlobals mg) (hb : s₁.heap.Ns builtinsNs mb) (hbb : ∀ x : Str, x ≠ "__name__" → mb x = bootBuiltins x) (hlim : s₁.heap.NoLimit) (hgen : s₁.gens = #[])
    (ha : s₁.heap.get? a = some { cls := .type "list", data := .seq vs.toArray }) (hi : IntsAre vs ns) (hl : ns.length ≤ sizeLine) (hr : Room k callerA)
    (F : ∀ base : Heap, K.In base → base.Ns mainGlobals mg → GFn P w K mg base k fa fd [x] g) (hbind : ∀ (s : Shared) (u : Value), BindsTo s fd ⟨[u], []⟩ [(x, u)])
    (hsp : ∀ H : Hp, SqL K H a (ns.map V.int) → ∃ (I : Hp) (m : List Addr) (c : Cs) (ds : List D), Rel K I H m c ∧ Reps K I m [.ref a] ds ∧ After (rD K) K I m H (fun _ _ _ => False) (fun v _ => v = .bl true) (g ds c)) :
    codeAny (model P w) callerA (.call (.ref fa) ⟨[.ref a], []⟩) (fun r s' => r = .ok (.ret (.bool true)) ∧ OldK s₁.heap s'.heap ∧ s'.os = s₁.os ∧ AllBare s'.gens) s₁ := by
  have rv := vals_ints hi
  have core : ∀ H : Hp, (∀ b o, H b = some o → b = a ∧ ∃ ob xs, o = .frz ob (.lst xs)) → SqL K H a (ns.map V.int) → HOk P w H s₁.heap → (H a ≠ none → K.lookup a = none) →
      codeAny (model P w) callerA (.call (.ref fa) ⟨[.ref a], []⟩) (fun r s' => r = .ok (.ret (.bool true)) ∧ OldK s₁.heap s'.heap ∧ s'.os = s₁.os ∧ AllBare s'.gens) s₁ := fun H hO hS hok hK => by
    have dictFree : ∀ {b : Addr} {o : Obj} {es : Array DictEntry} {ep : Nat}, s₁.heap.get? b = some o → o.data = .dict es ep → H b = none := fun {b o es ep} e d => by
      cases q : H b with
      | none => rfl
      | some u =>
        obtain ⟨rfl, _⟩ := hO b u q
        rw [ha] at e
        cases e
        cases d
    have toBase : ∀ {b : Addr} {m : Str → Option Value}, s₁.heap.Ns b m → (hidT s₁.heap H).Ns b m := fun {b m} ⟨o, es, ep, e, d, r⟩ => ⟨o, es, ep, hidT_get e (dictFree e d), d, r⟩
    have inB : K.In (hidT s₁.heap H) := fun b o e => hidT_get (KX b o e) (by
      cases q : H b with
      | none => rfl
      | some u =>
        obtain ⟨rfl, _⟩ := hO b u q
        rw [hK (by rw [q]; exact nofun)] at e
        cases e)
    have md : Mod K mg (hidT s₁.heap H) := ⟨inB, toBase hns, ⟨mb, toBase hb, hbb⟩, hlim.imp fun _ h => ⟨toBase h.1, h.2⟩⟩
    have noFr : ∀ b ∈ frs [], H b = none := fun b z => absurd (show b ∈ ([] : List Addr) from z) List.not_mem_nil
    have e0 : Env0 P w K mg (hidT s₁.heap H) callerA [] s₁ H := ⟨rfl, md, fun b o e => of_hidT e, Nat.le_of_eq (hidT_size _ _), trivial, noFr, hok, .of_eq hgen⟩
    obtain ⟨I, m, c, ds, R, p, A⟩ := hsp H hS
    refine codeAny_mono ((F _ inB (toBase hns)).run callerA [] s₁ H ⟨[.ref a], []⟩ [.ref a] [.ref a] (fun v _ => v = .bl true) (fun _ _ _ => False) I m c ds hr rfl e0 (hbind s₁ (.ref a)) (.cons rfl .nil) R p A) fun r s' h => ?_
    cases r with
    | error e =>
      obtain ⟨_, _, _, _, _, _, _, _, _, _, _, _, z⟩ := h
      exact z.elim
    | ok fl =>
      cases fl with
      | next => exact False.elim h
      | brk => exact False.elim h
      | cont => exact False.elim h
      | ret u =>
        obtain ⟨v, H', os, bare, un, hok', r', rfl⟩ := h
        obtain rfl : u = Value.bool true := r'
        refine ⟨rfl, OldK.of_keep fun b o e => ?_, os, bare⟩
        cases q : H b with
        | none => exact un.keep b o e q (fun z => absurd (show b ∈ ([] : List Addr) from z) List.not_mem_nil) List.not_mem_nil
        | some u =>
          obtain ⟨_, ob, xs, rfl⟩ := hO b u q
          have z1 := (hok b _ q).1
          have z2 := (hok' b _ (un.frzs b ob _ q)).1
          rw [z1] at e
          cases e
          exact z2
  cases hk : K.lookup a with
  | some o =>
    have e := KX a o hk
    rw [ha] at e
    cases e
    exact core (fun _ => none) (fun b o e => nomatch e) (Or.inr ⟨_, vs.toArray, _, hk, rfl, rfl, rfl, by rw [List.size_toArray, hi.length]; exact hl, rv⟩) (fun b u z => nomatch z) fun z => absurd rfl z
  | none =>
    have only : ∀ (b : Addr) (o : HO), (if b = a then some (HO.frz { cls := .type "list", data := .seq vs.toArray } (.lst (ns.map V.int))) else none) = some o → b = a ∧ o = .frz { cls := .type "list", data := .seq vs.toArray } (.lst (ns.map V.int)) := fun b o e => by
      by_cases hb : b = a
      · rw [if_pos hb] at e
        exact ⟨hb, (Option.some.inj e).symm⟩
      · rw [if_neg hb] at e
        cases e
    refine core (fun b => if b = a then some (.frz { cls := .type "list", data := .seq vs.toArray } (.lst (ns.map V.int))) else none) (fun b o e => ⟨(only b o e).1, _, _, (only b o e).2⟩) (Or.inl (Or.inr ⟨_, if_pos rfl⟩)) (fun b o e => ?_) fun _ => hk
    obtain ⟨rfl, rfl⟩ := only b o e
    exact ⟨ha, by rw [List.length_map]; exact hl, vs, _, rv, ha⟩
theorem law_g {l : PySem.W.OpenLaw} {n k : Nat} {q : Program} {loose : List Str} {XP : (Str → Option Value) → Heap → Prop} {YP : World → Heap → Prop} {d : DefRec} {K : Params → PySem.W.Frag} {x : Str} {g : Params → List D → Cs → R D}
    (hn : l.most = some n) (hn2 : n ≤ sizeLine) (hdf : d.params.defaults = []) (hr : Room k callerA) (hY : ∀ (w : World) (h : Heap), YP w h → (K w.params).In h)
    (F : ∀ (w : World) (mg : Str → Option Value) (fa : Addr) (h : Heap), (K w.params).In h → h.Ns mainGlobals mg → mg d.name = some (.ref fa) →
      ∃ fd : FuncData, (∀ (s : Shared) (u : Value), BindsTo s fd ⟨[u], []⟩ [(x, u)]) ∧ ∀ base : Heap, (K w.params).In base → base.Ns mainGlobals mg → GFn l.prog w (K w.params) mg base k fa fd [x] (g w.params))
    (hg : ∀ (pm : Params) (ns : List Int), ns.length ≤ n → ∃ c, g pm [.ro (ns.map D.int)] [] = .ok (.bl true) c) :
    PySem.W.WalkO q loose XP YP l.row.toRowW d [] (fun f vs => PySem.call f vs) := by
  refine Att.attach_call hn hdf fun w s₀ s₁ mg mb fa o pm cd doc a vs ns G Y ho hd hcd hmg hobj hints hlen hgen => ?_
  have KX := hY w _ Y
  obtain ⟨fd, hb, hF⟩ := F w mg fa _ KX G.T.g hmg
  have reps : ∀ (H : Hp) (ns : List Int), Reps (K w.params) H [] (ns.map V.int) (ns.map D.int) := fun H ns => by
    induction ns with
    | nil => exact .nil
    | cons z zs ih => exact .cons (.int z) ih
  obtain ⟨c, ec⟩ := hg w.params ns hlen
  refine law_callG KX G.T.g G.T.b G.T.builtins G.T.nolimit hgen hobj hints (Nat.le_trans hlen hn2) hr hF hb fun H hS => ?_
  exact ⟨H, [], [], [.ro (ns.map D.int)], ⟨Same.refl H, rfl, fun _ _ _ h => (nomatch h), fun _ _ _ h => (nomatch h)⟩, .cons (.ro hS (reps H ns)) .nil, by rw [ec]; exact fun I' m' H' v _ _ p => by cases p; rfl⟩
end L2.Mi

namespace L2.Mi
open PySem PySem.Spec PyProof.Rows L2

section
variable {X : Cx} {W : WX} {a b c e : Expr} {es : List Expr} {pos : Pos} {fa fb fc : ME} {f g : D → D → Cs → R D} {ga : MA}
/-- a call of a built-in -/
theorem me_cb {r : List V → Hp → VK → Prop} {G : List D → Cs → R D} (h : PE X e (tCB r (rdA X.K W ga))) (hs : CallS X.K r G) : PE X e (rdE X.K W (mCB G ga)) := PEi h fun _ _ _ q => cb_read hs q
theorem mt_chain {op op' : CmpOp} {r r' : R2} (ho : OpR X (compareOp op) r) (hs : OpS X.K r f) (ho' : OpR X (compareOp op') r') (hs' : OpS X.K r' g) (ha : PE X a (rdE X.K W fa)) (hb : PE X b (rdE X.K W fb)) (hc : PE X c (rdE X.K W fc))
    (hm : lastMarks [op, op'] [b, c] = false := by with_unfolding_all rfl) : PT X (.Compare a [op, op'] [b, c] pos) (rdT X.K W (mT (mChain f g fa fb fc))) := PTi (pt_chain ho ho' ha hb hc hm) fun σ H Q ⟨I, m, l, c, R, L, A0⟩ => by
  have A : After (rD X.K) X.K I m H (fun cls dd H' => W cls dd σ H') (fun x H' => ∃ k, x = .bl k ∧ Q k H') (mChain f g fa fb fc l c) := After.mono (After.bind (rep := rD X.K) A0) fun v1 H1 ⟨I1, m1, c1, d1, E1, R1, p1, A1⟩ => by
    cases p1 with
    | bl k => exact ⟨k, rfl, A1.here R1 rfl⟩
    | _ => exact A1.elim
  refine ⟨I, m, l, c, R, L, After.mono (After.bind (rep := rD X.K) A) fun v1 H1 ⟨I1, m1, c1, d1, E1, R1, p1, A1⟩ => ?_⟩
  refine ⟨I1, m1, l, c1, R1, L.ext E1, After.mono (After.bind (rep := rD X.K) A1) fun v2 H2 ⟨I2, m2, c2, d2, E2, R2, p2, A2⟩ => ?_⟩
  refine hs _ _ _ _ _ _ _ _ _ _ R2 (Rep.ext p1 E2) p2 (After.mono (After.bind (rep := rD X.K) A2) fun v3 H3 ⟨I3, m3, c3, d3, E3, R3, p3, A3⟩ => ?_)
  cases p3 with
  | bl k =>
    refine ⟨k, rfl, ?_⟩
    cases k with
    | false =>
      rw [if_neg Bool.false_ne_true]
      exact A3.here R3 (Rep.bl false)
    | true =>
      rw [if_pos rfl]
      refine ⟨I3, m3, l, c3, R3, ((L.ext E1).ext E2).ext E3, After.mono (After.bind (rep := rD X.K) A3) fun v4 H4 ⟨I4, m4, c4, d4, E4, R4, p4, A4⟩ => ?_⟩
      exact hs' _ _ _ _ _ _ _ _ _ _ R4 (Rep.ext (Rep.ext p2 E3) E4) p4 A4
  | _ => exact A3.elim
/-- a display that will be changed: a cell -/
def mLstM (t : MA) : ME := fun l c => (t l c).bind fun xs c1 => fits xs.length (.ok (.ref c1.length) (c1 ++ [.lst xs]))
theorem me_lstM (h : PA X es (rdA X.K W ga)) : PE X (.List es pos) (rdE X.K W (mLstM ga)) :=
  PEi (pe_lst h) fun σ H Q ⟨I, m, l, c, R, L, A⟩ => ⟨I, m, l, c, R, L, After.mono (After.bind (rep := rA X.K) A) fun v1 H1 ⟨I1, m1, c1, d1, E1, R1, p1, A1⟩ => by
    obtain ⟨z, A2⟩ := A1.fits
    have p1 : Reps X.K I1 m1 v1 d1 := p1
    refine ⟨by rw [p1.length]; exact z, fun p np => ?_⟩
    obtain ⟨R2, E2⟩ := R1.push np p1
    refine A2 _ _ _ _ E2 R2 (Rep.ref ?_)
    rw [← R1.len, List.getElem?_append_right (Nat.le_refl _), Nat.sub_self]
    rfl⟩
/-- a local list's cell, whose list does not change from here on -/
def frzD (d : D) (c : Cs) : R D := match d with
  | .ref k => match c[k]? with
    | some (.lst ds) => .ok (.lst ds) (c.set k (.frz (.lst ds)))
    | _ => .stuck
  | _ => .stuck
def mFrz (a : ME) : ME := fun l c => (a l c).bind fun d c1 => frzD d c1
theorem me_frz (h : PE X e (rdE X.K W fa)) : PE X e (rdE X.K W (mFrz fa)) := PEi h fun σ H Q ⟨I, m, l, c, R, L, A⟩ =>
  ⟨I, m, l, c, R, L, After.mono (After.bind (rep := rD X.K) A) fun v1 H1 ⟨I1, m1, c1, d1, E1, R1, p1, A1⟩ => by
    cases p1 with
    | @ref k a hk =>
      have A2 : After (rD X.K) X.K I1 m1 H1 (fun cls dd H' => W cls dd σ H') Q (match c1[k]? with
        | some (.lst ds) => .ok (.lst ds) (c1.set k (.frz (.lst ds)))
        | _ => .stuck) := A1
      cases q : c1[k]? with
      | none => rw [q] at A2; exact A2.elim
      | some x =>
        rw [q] at A2
        cases x with
        | lst ds =>
          obtain ⟨I2, R2, E2, p2⟩ := R1.freeze hk q
          exact A2 I2 m1 H1 _ E2 R2 p2
        | _ => exact A2.elim
    | _ => exact A1.elim⟩
/-- y = [.. for ..] -/
theorem ms_setT {i : Nat} {s : Stmt} {t : TE} (h : PS X s (tAsg t (gName i))) (w : ∀ σ H Q, rdE X.K W fa σ H Q → t σ H Q) : PS X s (rdS X.K W (sSet i fa)) := PSi h fun D σ H ⟨I, m, l, c, R, L, A⟩ =>
  w σ H _ ⟨I, m, l, c, R, L, After.mono (AfterS.seq (rep := rD X.K) L A) fun v1 H1 ⟨I1, m1, c1, d1, E1, R1, p1, A1⟩ => A1 I1 m1 H1 _ (Ext.refl _ _ _) R1 ((L.ext E1).set i p1)⟩
theorem mts_nil : PTs X [] (rdT X.K W tYesM) := ⟨fun pins s σ H Q J ⟨I, m, l, c, R, L, A⟩ => pts_nil.run pins s σ H Q J (show tYes σ H Q from A.here R rfl)⟩
theorem mts_one {t : MT} (h : PT X c (rdT X.K W t)) : PTs X [c] (rdT X.K W t) := pts_one h
theorem rg_name {K : PySem.W.Frag} {i : Nat} : ∀ v σ H Q, rdG K W (gN i) v σ H Q → gName i v σ H Q := fun v σ H Q ⟨I, m, l, c, d, R, L, p, A⟩ => A.here R (L.set i p)
theorem rg_names {K : PySem.W.Frag} {i j : Nat} : ∀ v σ H Q, rdG K W (gT [i, j]) v σ H Q → gTup K 2 (gCons (gName i) (gCons (gName j) gNil)) v σ H Q := fun v σ H Q ⟨I, m, l, c, d, R, L, p, A⟩ => by
  cases p with
  | @tup a vs ds h r =>
    cases r with
    | nil => exact A.elim
    | cons h1 t1 =>
      cases t1 with
      | nil => exact A.elim
      | cons h2 t2 =>
        cases t2 with
        | cons h3 t3 =>
          unfold gT at A
          simp at A
          exact A.elim
        | nil => exact ⟨a, _, rfl, sqT_same R.same h, rfl, _, _, rfl, _, _, rfl, rfl, A.here R ((L.set i h1).set j h2)⟩
  | _ => exact A.elim

/-! ### dicts that are written -/
theorem Rel.sideO {K : PySem.W.Frag} {I H : Hp} {m : List Addr} {c : Cs} {p : Addr} {o : HO} (r : Rel K I H m c) (hH : ∀ x, H p ≠ some (.own x)) (hI : I p = none) (hm : p ∉ m) : Rel K I (upd H p o) m c := by
  refine ⟨fun b u e => ?_, r.len, r.nd, fun k a x h1 h2 => ?_⟩
  · rw [upd_ne (ne_of_none e hI)]
    exact r.same _ _ e
  · have na : a ≠ p := fun e => hm (e ▸ List.mem_of_getElem? h1)
    have q := r.cell k a x h1 h2
    cases x with
    | lst es => exact ⟨q.1, q.2.imp fun us z => ⟨by rw [upd_ne na]; exact z.1, z.2⟩⟩
    | dct es => exact ⟨q.1, q.2.imp fun us z => ⟨by rw [upd_ne na]; exact z.1, z.2⟩⟩
    | ins C es =>
      obtain ⟨q1, dx, us, q2, q3, q4, q5, q6⟩ := q
      exact ⟨q1, dx, us, q2, q3, by rw [upd_ne fun e => hH _ (e ▸ q4)]; exact q4, by rw [upd_ne na]; exact q5, q6⟩
    | frz d => exact q
theorem Rel.adoptO {K : PySem.W.Frag} {I H : Hp} {m : List Addr} {c : Cs} {p : Addr} {o : HO} (r : Rel K I H m c) (hH : H p = some o) (ho : ∀ x, o ≠ .own x) (hI : I p = none) (hm : p ∉ m) : Rel K (upd I p o) H m c := by
  have sI : Same I (upd I p o) := fun b u e => by rw [upd_ne (ne_of_none e hI)]; exact e
  refine ⟨fun b u e => ?_, r.len, r.nd, fun k a x h1 h2 => ?_⟩
  · by_cases hb : b = p
    · subst hb
      rw [upd_same] at e
      rw [hH]
      exact e
    · rw [upd_ne hb] at e
      exact r.same _ _ e
  · have na : a ≠ p := fun e => hm (e ▸ List.mem_of_getElem? h1)
    have q := r.cell k a x h1 h2
    cases x with
    | lst es => exact ⟨by rw [upd_ne na]; exact q.1, q.2.imp fun us z => ⟨z.1, z.2.mono sI (Pre.refl m)⟩⟩
    | dct es => exact ⟨by rw [upd_ne na]; exact q.1, q.2.imp fun us z => ⟨z.1, z.2.mono sI (Pre.refl m)⟩⟩
    | ins C es =>
      obtain ⟨q1, dx, us, q2, q3, q4, q5, q6⟩ := q
      have nd : dx ≠ p := fun e => by rw [e, hH] at q4; exact ho _ (Option.some.inj q4)
      exact ⟨by rw [upd_ne na]; exact q1, dx, us, by rw [upd_ne nd]; exact q2, q3, q4, q5, q6.mono sI (Pre.refl m)⟩
    | frz d => exact ⟨by rw [upd_ne na]; exact q.1, q.2.mono sI (Pre.refl m)⟩
theorem me_dict0 : PE X (.Dict [] [] pos) (rdE X.K W (mC (.dct []))) := PEi pe_dnewK fun σ H Q ⟨I, m, l, c, R, L, A⟩ => fun p np => After.new A R np (.dct upd_same .nil)
def mDict1 (k : Key) (a : ME) : ME := fun l c => (a l c).bind fun d c1 => .ok (.dct [(k, d)]) c1
theorem me_dict1 {s : Str} {j : Nat} {pk : Pos} (hv : PE X e (rdE X.K W fa)) : PE X (.Dict [some (.Constant (.str s) j pk)] [e] pos) (rdE X.K W (mDict1 (.inr s) fa)) :=
  PEi (pe_disp (pps_cons pe_str hv pps_nil) rfl rfl (fun z => by cases z) (by show 1 ≤ 15; decide)) fun σ H Q ⟨I, m, l, c, R, L, A⟩ => by
    intro p np
    have nI := R.same.free np
    have nm := R.fresh np
    have E0 : Ext I m H I m (upd H p (.dK [])) := ⟨Same.refl I, Pre.refl m, fun b o h1 h2 h3 => ⟨by rw [upd_ne (ne_of_none h1 np)]; exact h1, h2, h3⟩⟩
    refine ⟨I, m, l, c, R.sideO (fun x z => by rw [np] at z; cases z) nI nm, L, After.mono (After.bindAt (rep := rD X.K) A E0) fun v H2 ⟨I2, m2, c2, d2, E2, R2, p2, A2⟩ => ?_⟩
    obtain ⟨f1, f2, f3⟩ := E2.fr p _ upd_same nI nm
    refine ⟨f1, [(Sum.inr s, v)], rfl, by show 1 ≤ 15; decide, ?_⟩
    have R3 : Rel X.K I2 (upd H2 p (.dK [(Sum.inr s, v)])) m2 c2 := R2.sideO (fun x z => by rw [f1] at z; cases z) f2 f3
    have R4 := R3.adoptO (p := p) upd_same (fun x z => by cases z) f2 f3
    have sI : Same I2 (upd I2 p (.dK [(Sum.inr s, v)])) := fun b u e => by rw [upd_ne (ne_of_none e f2)]; exact e
    refine A2 _ m2 _ _ ⟨(E0.trans E2).same.trans sI, (E0.trans E2).pre, fun b o h1 h2 h3 => ?_⟩ R4 (.dct upd_same (.cons (Rep.mono sI (Pre.refl m2) p2) .nil))
    obtain ⟨q1, q2, q3⟩ := (E0.trans E2).fr b o h1 h2 h3
    have nb : b ≠ p := ne_of_none h1 np
    exact ⟨by rw [upd_ne nb]; exact q1, by rw [upd_ne nb]; exact q2, q3⟩
end
/-! ### words for the printed text -/
structure Own (K : PySem.W.Frag) (mg : Str → Option Value) (x : Str) (st : Stmt) (ps : List Str) where
  a : Addr
  fd : FuncData
  mgf : mg x = some (.ref a)
  F : Fun K x x st a fd
  b : Binds K fd ps []
theorem u100 {A : Around} {k : Nat} (hr : Room k A) : A.units + 100 < cLine := by have := hr.un; omega
theorem bt_len : bootBuiltins "len" = some (.builtin "len") := by decide +kernel
theorem bt_isinstance : bootBuiltins "isinstance" = some (.builtin "isinstance") := by decide +kernel
theorem bt_repr : bootBuiltins "repr" = some (.builtin "repr") := by decide +kernel
theorem bt_all : bootBuiltins "all" = some (.builtin "all") := by decide +kernel
theorem bt_any : bootBuiltins "any" = some (.builtin "any") := by decide +kernel
theorem bt_max : bootBuiltins "max" = some (.builtin "max") := by decide +kernel
theorem bt_min : bootBuiltins "min" = some (.builtin "min") := by decide +kernel
theorem bt_int : bootBuiltins "int" = some (.type "int") := by decide +kernel
theorem bt_bool : bootBuiltins "bool" = some (.type "bool") := by decide +kernel
theorem bt_str : bootBuiltins "str" = some (.type "str") := by decide +kernel
theorem bt_list : bootBuiltins "list" = some (.type "list") := by decide +kernel
theorem bt_tuple : bootBuiltins "tuple" = some (.type "tuple") := by decide +kernel
theorem bt_dict : bootBuiltins "dict" = some (.type "dict") := by decide +kernel
end L2.Mi

namespace L2.Mi
open PySem PySem.Spec PyProof.Rows L2

/-! ### match x: case [a, b] if ..: -/
def seqOf (d : D) (c : Cs) : Option (List D) := match d with
  | .lst xs => some xs
  | .tup xs => some xs
  | .ro xs => some xs
  | .ref k => match c[k]? with
    | some (.lst xs) => some xs
    | _ => none
  | _ => none
def notSeq : List String := ["NoneType", "bool", "int", "str", "dict"]
def pairOf (d : D) (c : Cs) : Option (Option (D × D)) := match seqOf d c with
  | some [x, y] => some (some (x, y))
  | some _ => some none
  | none => match tyD d c with
    | some t => if t ∈ notSeq then some none else none
    | none => none
theorem flag_not : ∀ {t : String}, t ∈ notSeq → flagOfType true (.type t) = pure false := by
  intro t h
  simp only [notSeq, List.mem_cons, List.not_mem_nil, or_false] at h
  rcases h with rfl | rfl | rfl | rfl | rfl
  · exact flag_seq_None
  · exact flag_seq_bool
  · exact flag_seq_int
  · exact flag_seq_str
  · exact flag_seq_dict
theorem ty_is {X : Cx} {pins : List (Addr × Obj)} {σ : St} {H : Hp} {s : Shared} {x : V} {u : Value} {t : String} (I : Inv X pins σ H s) (rx : RelV x u) (ty : TyX X.K H x (.type t)) (ht : t ∈ notSeq) : s.TypeIs u t := by
  generalize e : Value.type t = tt at ty
  cases ty with
  | base b =>
    cases b with
    | non => cases e; cases (show u = Value.none from rx); rfl
    | bl y => cases e; cases (show u = Value.bool y from rx); rfl
    | int i => cases e; obtain ⟨t, q⟩ := (show ∃ t, u = Value.int i t from rx); cases q; rfl
    | str y => cases e; obtain ⟨t, q⟩ := (show ∃ t, u = Value.str y t from rx); cases q; rfl
    | dK ea => 
      cases e
      cases (show u = Value.ref _ from rx)
      obtain ⟨_, _, vs, _, o, es, ep, h1, h2, _⟩ := (show ObjOk X.prog X.w H s.heap _ (.dK _) from I.hok _ _ ea)
      exact ⟨o, h1, h2.1⟩
    | dT ea =>
      cases e
      cases (show u = Value.ref _ from rx)
      obtain ⟨_, _, xs, _, o, es, ep, h1, h2, _⟩ := (show ObjOk X.prog X.w H s.heap _ (.dT _) from I.hok _ _ ea)
      exact ⟨o, h1, h2.1⟩
    | flt y => cases e; simp [notSeq] at ht
    | lst ea => cases e; simp [notSeq] at ht
    | frz ea => cases e; simp [notSeq] at ht
    | tup ea => cases e; simp [notSeq] at ht
    | ins => cases e
  | kDict e1 c => cases e; cases (show u = Value.ref _ from rx); exact ⟨_, I.kIn _ _ e1, c⟩
  | fDict ea =>
    cases e
    cases (show u = Value.ref _ from rx)
    obtain ⟨_, _, _, vs, _, o, es, ep, h1, h2, _⟩ := (show ObjOk X.prog X.w H s.heap _ (.frz _ (.dK _)) from I.hok _ _ ea)
    exact ⟨o, h1, h2.1⟩
  | _ => cases e; simp [notSeq] at ht
section
variable {prog : Program} {w : World} {A : Around} {E : Value → Shared → Prop} {s : Shared}
theorem unpackItems_list {t : Addr} {items : Array Value} {Q : List Value → Shared → Prop} (hh : A.handled = none) (ht : s.heap.IsList t items)
    (hQ : ∀ h', Heap.ExtBut s.heap.objs.size s.heap h' → Q items.toList { s with heap := h' }) : wpAny (model prog w) A (unpackItems (.ref t) items.size none) Q E s := by
  have hlt : t ≠ s.heap.objs.size := by obtain ⟨o, ho, _⟩ := ht; exact Nat.ne_of_lt (Heap.lt_size ho)
  unfold unpackItems
  refine wpAny_bind ?_
  · unfold notIterableAtAll
    refine wpAny_bind (wpAny_specialOf ht.typeIs slot_list_iter.lookup ?_)
    refine wpAny_pure ?_
    simp only [Bool.false_eq_true, if_false]
    refine wpAny_bind (wpAny_holding (wpAny_pyIter_list ht ?_))
    refine wpAny_bind (wpAny_holding (PySem.W.kun_draw hlt items.size 0 _ _ ⟨_, Heap.get?_push_size _ rfl, rfl, rfl⟩ (ht.push _) (by omega) fun h₁ hit₁ hs₁ => ?_))
    have hall : List.take items.size (List.drop 0 items.toList) = items.toList := by
      rw [List.drop_zero]; exact List.take_of_length_le (by simp)
    rw [hall]
    rw [if_neg (by simp)]
    have ht₁ : h₁.IsList t items := (ht.push _).extBut hs₁.extBut hlt
    refine wpAny_bind (wpAny_holding (wpAny_pyNext_list_end hh hit₁ ht₁ (by simp) fun h₂ he₂ => ?_))
    simp only [Option.isSome_none, Bool.false_eq_true, if_false]
    refine wpAny_pure (hQ h₂ fun b o hb e => he₂ b o hb (hs₁.extBut b o hb (Heap.get?_push_of_some _ e)))
end
/-- what a match with one case [a, b] asks -/
def tMatch2 (K : PySem.W.Frag) (te : TE) (i j : Nat) (tg : TT) (tb : TS) : TS := fun D σ H => te σ H fun x H1 =>
  (∃ a xs, x = .ref a ∧ (SqL K H1 a xs ∨ SqT K H1 a xs) ∧ (xs.length ≠ 2 → D.nx σ H1) ∧ ∀ y z, xs = [y, z] → tg ((σ.set i (some y)).set j (some z)) H1 fun b H2 => match b with
    | true => tb D ((σ.set i (some y)).set j (some z)) H2
    | false => D.nx ((σ.set i (some y)).set j (some z)) H2) ∨
  ∃ t, TyX K H1 x (.type t) ∧ t ∈ notSeq ∧ D.nx σ H1
theorem ps_match2 {X : Cx} {e g : Expr} {body : List Stmt} {n1 n2 : Str} {p0 p1 p2 p3 : Pos} {i j : Nat} {te : TE} {tg : TT} {tb : TS} (hN : X.N.Nodup) (hi : X.N[i]? = some n1) (hj : X.N[j]? = some n2)
    (hx : Loc X.env.scope n1) (hy : Loc X.env.scope n2) (hc : X.calm = true) (he : PE X e te) (hg : PT X g tg) (hb : PSs X body tb)
    (hf1 : X.fn n1 = true ∨ X.env.scope.names.lookup n1 = some .local := by first | exact .inl rfl | exact .inr rfl | assumption)
    (hf2 : X.fn n2 = true ∨ X.env.scope.names.lookup n2 = some .local := by first | exact .inl rfl | exact .inr rfl | assumption) :
    PS X (.Match e [⟨.MatchSequence [.MatchAs none (some n1) p1, .MatchAs none (some n2) p2] p3, some g, body⟩] p0) (tMatch2 X.K te i j tg tb) := by
  refine ⟨fun pins s σ H D I h => ?_⟩
  refine wpAny_Match (thn (he.run pins s σ H _ I h) fun v s1 ⟨x, H1, I1, r1, q1⟩ => ?_)
  refine wpAny_matchCases_cons ?_
  rcases q1 with ⟨a, xs, rfl, hs, hn, hq⟩ | ⟨t, ty, ht, q⟩
  · cases (show v = Value.ref a from r1)
    have go : ∀ (s2 : Shared) (its : List Value), Vals xs its → xs.length = 2 → Inv X pins σ H1 s2 →
        wpAny (model X.prog X.w) X.A (matchEach [.MatchAs none (some n1) p1, .MatchAs none (some n2) p2] X.env its) (fun r s₁ => match r with
          | none => wpAny (model X.prog X.w) X.A (matchCases [] X.env (.ref a) false) (SP X pins D) X.xe s₁
          | some bs => wpAny (model X.prog X.w) X.A (assignInOrder (bs.map fun (n, _) => bindName X.env n) (bs.map (·.2))) (fun _ s₂ =>
              match some g with
              | none => wpAny (model X.prog X.w) X.A (execs body X.env) (SP X pins D) X.xe s₂
              | some g => wpAny (model X.prog X.w) X.A (isTrue g X.env (eval g X.env))
                  (fun ok s₃ => if ok then wpAny (model X.prog X.w) X.A (execs body X.env) (SP X pins D) X.xe s₃ else wpAny (model X.prog X.w) X.A (matchCases [] X.env (.ref a) false) (SP X pins D) X.xe s₃) X.xe s₂) X.xe s₁) X.xe s2 := by
      intro s2 its rv hl I2
      obtain ⟨y, z, rfl⟩ : ∃ y z, xs = [y, z] := by
        match xs, hl with
        | [y, z], _ => exact ⟨y, z, rfl⟩
      obtain ⟨u1, u2, rfl, r1, r2⟩ := vals2 rv
      refine wpAny_matchEach_cons (wpAny_matchPattern_Capture ?_)
      refine wpAny_matchEach_cons (wpAny_matchPattern_Capture ?_)
      refine wpAny_matchEach_nil ?_
      show wpAny _ _ (assignInOrder [bindName X.env n1, bindName X.env n2] [u1, u2]) _ _ _
      refine wpAny_assignInOrder_more (wpAny_bindName (store_ok I2 hN hi hx r1 (fun s3 I3 => ?_) hf1))
      refine wpAny_assignInOrder_more (wpAny_bindName (store_ok I3 hN hj hy r2 (fun s4 I4 => ?_) hf2))
      refine wpAny_assignInOrder_none ?_
      refine thn (hg.run pins s4 _ H1 _ I4 (hq y z rfl)) fun b s5 ⟨H5, I5, q5⟩ => ?_
      cases b with
      | true => exact hb.run pins s5 _ H5 D I5 q5
      | false => exact wpAny_matchCases_nil ⟨_, H5, I5, q5⟩
    rcases hs with hs | hs
    · obtain ⟨its, rv, pl, hz⟩ := I1.list hs
      have hf : ((its.toArray.size : Nat) : Int) < 2 ^ 63 := by
        have := rv.length
        rw [sizeLine_eq] at hz
        simp only [List.size_toArray]
        omega
      by_cases hl : xs.length = 2
      · refine matchSeq_list_hit pl.isList hf (by simp [← rv.length, hl]) ?_
        have e2 : ([Pattern.MatchAs none (some n1) p1, .MatchAs none (some n2) p2] : List Pattern).length = its.toArray.size := by simp [← rv.length, hl]
        rw [e2]
        refine unpackItems_list (I1.ok.hd hc) pl.isList fun h' hx' => ?_
        refine go _ _ (by simpa using rv) hl ?_
        exact I1.kept (t' := s1.toks + 1 + 1) fun b o e => hx' b o (Nat.ne_of_lt (Heap.lt_size e)) e
      · refine matchSeq_list_miss pl.isList hf (by simp [← rv.length, hl]) ?_
        exact wpAny_matchCases_nil ⟨_, _, I1.tok _, hn hl⟩
    · obtain ⟨its, rv, pl, hz⟩ := I1.tuple hs
      have hf : ((its.toArray.size : Nat) : Int) < 2 ^ 63 := by
        have := rv.length
        rw [sizeLine_eq] at hz
        simp only [List.size_toArray]
        omega
      by_cases hl : xs.length = 2
      · refine matchSeq_tuple_hit pl hf (by simp [← rv.length, hl]) ?_
        have e2 : ([Pattern.MatchAs none (some n1) p1, .MatchAs none (some n2) p2] : List Pattern).length = its.toArray.size := by simp [← rv.length, hl]
        rw [e2]
        refine unpackItems_tuple (I1.ok.hd hc) pl fun h' hx' => ?_
        refine go _ _ (by simpa using rv) hl ?_
        exact I1.kept (t' := s1.toks + 1 + 1) fun b o e => hx' b o (Nat.ne_of_lt (Heap.lt_size e)) e
      · refine matchSeq_tuple_miss pl hf (by simp [← rv.length, hl]) ?_
        exact wpAny_matchCases_nil ⟨_, _, I1.tok _, hn hl⟩
  · refine wpAny_matchPattern_Sequence (wpAny_collectionFlag (ty_is I1 r1 ty ht) (flag_not ht) ?_)
    exact wpAny_matchCases_nil ⟨_, _, I1, q⟩
def sMatch2 (fe : ME) (i j : Nat) (tg : MT) (f : MS) : MS := fun l c => (fe l c).seq l fun d c1 => match pairOf d c1 with
  | none => .stuck
  | some none => .go (.nx l) c1
  | some (some (x, y)) => (tg ((l.set i (some x)).set j (some y)) c1).seq ((l.set i (some x)).set j (some y)) fun b c2 => match b with
    | true => f ((l.set i (some x)).set j (some y)) c2
    | false => .go (.nx ((l.set i (some x)).set j (some y))) c2
theorem seq_at {K : PySem.W.Frag} {I H : Hp} {m : List Addr} {c : Cs} {v : V} {d : D} {ds : List D} (R : Rel K I H m c) (p : Rep K I m v d) (h : seqOf d c = some ds) : ∃ a xs, v = .ref a ∧ (SqL K H a xs ∨ SqT K H a xs) ∧ Reps K I m xs ds := by
  cases p with
  | lst q r => cases h; exact ⟨_, _, rfl, .inl (R.same.seq (.inl (.inl q))), r⟩
  | ro q r => cases h; exact ⟨_, _, rfl, .inl (R.same.seq q), r⟩
  | tup q r => cases h; exact ⟨_, _, rfl, .inr (sqT_same R.same q), r⟩
  | @ref k a q =>
    have h : (match c[k]? with
      | some (.lst xs) => some xs
      | _ => none) = some ds := h
    cases e : c[k]? with
    | none => rw [e] at h; cases h
    | some x =>
      rw [e] at h
      cases x with
      | lst es =>
        cases h
        obtain ⟨_, vs, h1, h2⟩ := R.cell k a _ q e
        exact ⟨a, vs, rfl, .inl (.inl (.inl h1)), h2⟩
      | _ => cases h
  | _ => cases h
theorem ms_match2 {X : Cx} {W : WX} {e g : Expr} {body : List Stmt} {n1 n2 : Str} {p0 p1 p2 p3 : Pos} {i j : Nat} {fe : ME} {tg : MT} {f : MS} (hN : X.N.Nodup) (hi : X.N[i]? = some n1) (hj : X.N[j]? = some n2)
    (hx : Loc X.env.scope n1) (hy : Loc X.env.scope n2) (hc : X.calm = true) (he : PE X e (rdE X.K W fe)) (hg : PT X g (rdT X.K W tg)) (hb : PSs X body (rdS X.K W f))
    (hf1 : X.fn n1 = true ∨ X.env.scope.names.lookup n1 = some .local := by first | exact .inl rfl | exact .inr rfl | assumption)
    (hf2 : X.fn n2 = true ∨ X.env.scope.names.lookup n2 = some .local := by first | exact .inl rfl | exact .inr rfl | assumption) :
    PS X (.Match e [⟨.MatchSequence [.MatchAs none (some n1) p1, .MatchAs none (some n2) p2] p3, some g, body⟩] p0) (rdS X.K W (sMatch2 fe i j tg f)) :=
  PSi (ps_match2 hN hi hj hx hy hc he hg hb hf1 hf2) fun D σ H ⟨I, m, l, c, R, L, A⟩ =>
    ⟨I, m, l, c, R, L, After.mono (AfterS.seq (rep := rD X.K) L A) fun v1 H1 ⟨I1, m1, c1, d1, E1, R1, p1, A1⟩ => by
      have L1 := L.ext E1
      have A1 : AfterS X.K I1 m1 H1 W D (match pairOf d1 c1 with
        | none => .stuck
        | some none => .go (.nx l) c1
        | some (some (x, y)) => (tg ((l.set i (some x)).set j (some y)) c1).seq ((l.set i (some x)).set j (some y)) fun b c2 => match b with
          | true => f ((l.set i (some x)).set j (some y)) c2
          | false => .go (.nx ((l.set i (some x)).set j (some y))) c2) := A1
      cases hs : seqOf d1 c1 with
      | some ds =>
        obtain ⟨a, xs, rfl, h1, h2⟩ := seq_at R1 p1 hs
        refine .inl ⟨a, xs, rfl, h1, fun hl => ?_, fun y z e => ?_⟩
        · have hp : pairOf d1 c1 = some none := by
            unfold pairOf
            rw [hs]
            match ds, h2.length with
            | [], _ => rfl
            | [_], _ => rfl
            | [_, _], e => exact absurd e hl
            | _ :: _ :: _ :: _, _ => rfl
          rw [hp] at A1
          exact A1 I1 m1 H1 σ (Ext.refl _ _ _) R1 L1
        · subst e
          cases h2 with
          | @cons v1 vs1 dy ds1 hy1 ht1 =>
          cases ht1 with
          | @cons v2 vs2 dz ds2 hz1 ht2 =>
          cases ht2
          have hp : pairOf d1 c1 = some (some (dy, dz)) := by unfold pairOf; rw [hs]
          rw [hp] at A1
          have L2 := (L1.set i hy1).set j hz1
          refine ⟨I1, m1, _, c1, R1, L2, After.mono (AfterS.seq (rep := rB) L2 A1) fun b H2 ⟨I2, m2, c2, b2, E2, R2, p2, A2⟩ => ?_⟩
          cases (show b = b2 from p2)
          cases b with
          | true => exact ⟨I2, m2, _, c2, R2, L2.ext E2, A2⟩
          | false => exact A2 I2 m2 H2 _ (Ext.refl _ _ _) R2 (L2.ext E2)
      | none =>
        cases ht : tyD d1 c1 with
        | none =>
          have hp : pairOf d1 c1 = none := by unfold pairOf; rw [hs]; simp only [ht]
          rw [hp] at A1
          exact A1.elim
        | some t =>
          by_cases hm : t ∈ notSeq
          · have hp : pairOf d1 c1 = some none := by unfold pairOf; rw [hs]; simp only [ht, if_pos hm]
            rw [hp] at A1
            exact .inr ⟨t, tyD_is R1 p1 ht, hm, A1 I1 m1 H1 σ (Ext.refl _ _ _) R1 L1⟩
          · have hp : pairOf d1 c1 = none := by unfold pairOf; rw [hs]; simp only [ht, if_neg hm]
            rw [hp] at A1
            exact A1.elim⟩
end L2.Mi

namespace L2.Mi
open PySem PySem.Spec PyProof.Rows L2

section
variable {K : PySem.W.Frag}
/-! ### tuple(x), list(x), int(x), str(n), bool(x) -/
def lstOf (d : D) (c : Cs) : Option (List D) := match d with
  | .lst xs => some xs
  | .ro xs => some xs
  | .ref k => match c[k]? with
    | some (.lst xs) => some xs
    | _ => none
  | _ => none
theorem lst_at {I H : Hp} {m : List Addr} {c : Cs} {v : V} {d : D} {ds : List D} (R : Rel K I H m c) (p : Rep K I m v d) (h : lstOf d c = some ds) : ∃ a xs, v = .ref a ∧ SqL K H a xs ∧ Reps K I m xs ds := by
  cases p with
  | lst q r => cases h; exact ⟨_, _, rfl, R.same.seq (.inl (.inl q)), r⟩
  | ro q r => cases h; exact ⟨_, _, rfl, R.same.seq q, r⟩
  | @ref k a q =>
    have h : (match c[k]? with
      | some (.lst xs) => some xs
      | _ => none) = some ds := h
    cases e : c[k]? with
    | none => rw [e] at h; cases h
    | some x =>
      rw [e] at h
      cases x with
      | lst es =>
        cases h
        obtain ⟨_, vs, h1, h2⟩ := R.cell k a _ q e
        exact ⟨a, vs, rfl, .inl (.inl h1), h2⟩
      | _ => cases h
  | _ => cases h
def tupleP (d : D) (c : Cs) : R D := match d with
  | .tup xs => .ok (.tup xs) c
  | d => match lstOf d c with
    | some xs => .ok (.tup xs) c
    | none => .stuck
def tupleD : List D → Cs → R D := on1 tupleP
abbrev rTuple (K : PySem.W.Frag) : List V → Hp → VK → Prop := fun xs H Q => ∃ p ys, xs = [.ref p] ∧ ((SqL K H p ys ∧ ∀ l, H l = none → Q (.ref l) (upd H l (.tup ys))) ∨ (SqT K H p ys ∧ Q (.ref p) H))
theorem cs_tuple : CallS K (rTuple K) tupleD := fun I H m c vs ds W Q R p A => by
  obtain ⟨v, d, rfl, rfl, pd, A⟩ := on1_arg p A
  have other : After (rD K) K I m H W Q (match lstOf d c with
    | some xs => .ok (.tup xs) c
    | none => .stuck) → rTuple K [v] H Q := fun A2 => by
    cases e : lstOf d c with
    | none => rw [e] at A2; exact A2.elim
    | some xs =>
      rw [e] at A2
      obtain ⟨a, ys, rfl, h1, h2⟩ := lst_at R pd e
      exact ⟨a, ys, rfl, .inl ⟨h1, fun l nl => A2.new R nl (.tup (SqT.of upd_same) (h2.mono (same_upd R.same nl) (Pre.refl _)))⟩⟩
  cases pd with
  | tup q r => exact ⟨_, _, rfl, .inr ⟨sqT_same R.same q, A.here R (.tup q r)⟩⟩
  | _ => exact other A
/-- list(x), a new list that stays as it is -/
def listP (d : D) (c : Cs) : R D := match seqOf d c with
  | some xs => .ok (.lst xs) c
  | none => .stuck
def listD : List D → Cs → R D := on1 listP
abbrev rList (K : PySem.W.Frag) : List V → Hp → VK → Prop := fun xs H Q => ∃ p ys, xs = [.ref p] ∧ (SqL K H p ys ∨ SqT K H p ys) ∧ ∀ l, H l = none → Q (.ref l) (upd H l (.lst ys))
theorem cs_list : CallS K (rList K) listD := fun I H m c vs ds W Q R p A => by
  obtain ⟨v, d, rfl, rfl, pd, A⟩ := on1_arg p A
  have A2 : After (rD K) K I m H W Q (match seqOf d c with
    | some xs => .ok (.lst xs) c
    | none => .stuck) := A
  cases e : seqOf d c with
  | none => rw [e] at A2; exact A2.elim
  | some xs =>
    rw [e] at A2
    obtain ⟨a, ys, rfl, h1, h2⟩ := seq_at R pd e
    exact ⟨a, ys, rfl, h1, fun l nl => A2.new R nl (.lst upd_same (h2.mono (same_upd R.same nl) (Pre.refl _)))⟩
def intP (d : D) (c : Cs) : R D := match d with
  | .int i => .ok (.int i) c
  | .bl k => .ok (.int (if k then 1 else 0)) c
  | .str a => match PySem.intText? a with
    | some n => if a.length ≤ 640 then .ok (.int n) c else .stuck
    | none => .stuck
  | _ => .stuck
def intFD : List D → Cs → R D := on1 intP
def rIntF : List V → Hp → VK → Prop := fun xs H Q => ((∃ i, xs = [.int i] ∧ Q (.int i) H) ∨ ∃ k, xs = [.bl k] ∧ Q (.int (if k then 1 else 0)) H) ∨ ∃ a n, xs = [.str a] ∧ PySem.intText? a = some n ∧ a.length ≤ 640 ∧ Q (.int n) H
theorem call_intF {X : Cx} : CallR X (.type "int") rIntF := call_int1.or call_int_str
theorem cs_intF : CallS K rIntF intFD := fun I H m c vs ds W Q R p A => by
  obtain ⟨v, d, rfl, rfl, pd, A⟩ := on1_arg p A
  cases pd with
  | int i => exact .inl (.inl ⟨i, rfl, A.here R (.int i)⟩)
  | bl k => exact .inl (.inr ⟨k, rfl, A.here R (.int _)⟩)
  | str a =>
    have A2 : After (rD K) K I m H W Q (match PySem.intText? a with
      | some n => if a.length ≤ 640 then .ok (.int n) c else .stuck
      | none => .stuck) := A
    cases e : PySem.intText? a with
    | none => rw [e] at A2; exact A2.elim
    | some n =>
      rw [e] at A2
      by_cases hl : a.length ≤ 640
      · have A3 : After (rD K) K I m H W Q (if a.length ≤ 640 then .ok (.int n) c else .stuck) := A2
        rw [if_pos hl] at A3
        exact .inr ⟨a, n, rfl, e, hl, A3.here R (.int n)⟩
      · have A3 : After (rD K) K I m H W Q (if a.length ≤ 640 then .ok (.int n) c else .stuck) := A2
        rw [if_neg hl] at A3
        exact A3.elim
  | _ => exact A.elim
def strP (d : D) (c : Cs) : R D := match d with
  | .int i => if i.natAbs.log2 < 1920 then .ok (.str (toString i)) c else .stuck
  | _ => .stuck
def strFD : List D → Cs → R D := on1 strP
abbrev rStrF : List V → Hp → VK → Prop := fun xs H Q => ∃ i, xs = [.int i] ∧ i.natAbs.log2 < 1920 ∧ Q (.str (toString i)) H
theorem cs_strF : CallS K rStrF strFD := fun I H m c vs ds W Q R p A => by
  obtain ⟨v, d, rfl, rfl, pd, A⟩ := on1_arg p A
  cases pd with
  | int i =>
    have A2 : After (rD K) K I m H W Q (if i.natAbs.log2 < 1920 then .ok (.str (toString i)) c else .stuck) := A
    by_cases hl : i.natAbs.log2 < 1920
    · rw [if_pos hl] at A2
      exact ⟨i, rfl, hl, A2.here R (.str _)⟩
    · rw [if_neg hl] at A2
      exact A2.elim
  | _ => exact A.elim
def boolP (d : D) (c : Cs) : R D := match d with
  | .int i => .ok (.bl (i != 0)) c
  | .bl k => .ok (.bl k) c
  | _ => .stuck
def boolFD : List D → Cs → R D := on1 boolP
abbrev rBoolF : List V → Hp → VK → Prop := fun xs H Q => (∃ i, xs = [.int i] ∧ Q (.bl (i != 0)) H) ∨ ∃ k, xs = [.bl k] ∧ Q (.bl k) H
theorem cs_boolF : CallS K rBoolF boolFD := fun I H m c vs ds W Q R p A => by
  obtain ⟨v, d, rfl, rfl, pd, A⟩ := on1_arg p A
  cases pd with
  | int i => exact .inl ⟨i, rfl, A.here R (.bl _)⟩
  | bl k => exact .inr ⟨k, rfl, A.here R (.bl _)⟩
  | _ => exact A.elim
end
/-! ### what stands at the module's top -/
section
variable {X : Cx} {W : WX} {pos : Pos} {x : Str}
def IsC (K : PySem.W.Frag) (mg : Str → Option Value) (x : Str) (d : D) : Prop := ∃ u v, mg x = some u ∧ RelV v u ∧ ∀ I m, Rep K I m v d
theorem me_const {d : D} (hg : Gl X x) (h : IsC X.K X.mg x d) (hd : (x == ("__debug__" : Str)) = false := by decide) : PE X (.Name x pos) (rdE X.K W (mC d)) := by
  obtain ⟨u, v, h1, h2, h3⟩ := h
  exact me_c (pe_glob hg h1 h2 hd) h3
theorem isc_int {K : PySem.W.Frag} {mg : Str → Option Value} {i : Int} {t : Tok} (h : mg x = some (.int i t)) : IsC K mg x (.int i) := ⟨_, .int i, h, ⟨_, rfl⟩, fun _ _ => .int i⟩
theorem isc_str {K : PySem.W.Frag} {mg : Str → Option Value} {i : Str} {t : Tok} (h : mg x = some (.str i t)) : IsC K mg x (.str i) := ⟨_, .str i, h, ⟨_, rfl⟩, fun _ _ => .str i⟩
/-- a tuple of the written part, and what stands in it -/
inductive KV' (K : PySem.W.Frag) : Value → D → Prop where
  | int (i : Int) (t : Tok) : KV' K (.int i t) (.int i)
  | str (i : Str) (t : Tok) : KV' K (.str i t) (.str i)
theorem KV'.get {K : PySem.W.Frag} {u : Value} {d : D} (h : KV' K u d) : ∃ v, RelV v u ∧ ∀ I m, Rep K I m v d := by
  cases h with
  | int i t => exact ⟨.int i, ⟨_, rfl⟩, fun _ _ => .int i⟩
  | str i t => exact ⟨.str i, ⟨_, rfl⟩, fun _ _ => .str i⟩
theorem kvs_get {K : PySem.W.Frag} : ∀ {us : List Value} {ds : List D}, Paired (KV' K) us ds → ∃ vs, Vals vs us ∧ ∀ I m, Reps K I m vs ds
  | _, _, .nil => ⟨[], .nil, fun _ _ => .nil⟩
  | _, _, .cons h t => by
    obtain ⟨v, h1, h2⟩ := h.get
    obtain ⟨vs, t1, t2⟩ := kvs_get t
    exact ⟨v :: vs, .cons h1 t1, fun I m => .cons (h2 I m) (t2 I m)⟩
theorem isc_tup {K : PySem.W.Frag} {mg : Str → Option Value} {a : Addr} {od : Option Addr} {its : Array Value} {n : Nat} {sl : Array (Option Value)} {ds : List D} (h : mg x = some (.ref a)) (hl : K.lookup a = some ⟨.type "tuple", od, .seq its n, sl⟩) (hz : its.size ≤ sizeLine)
    (hp : Paired (KV' K) its.toList ds) : IsC K mg x (.tup ds) := by
  obtain ⟨vs, r1, r2⟩ := kvs_get hp
  exact ⟨_, .ref a, h, rfl, fun I m => .tup (.inr ⟨_, its, n, hl, rfl, rfl, hz, r1⟩) (r2 I m)⟩
end
end L2.Mi

namespace L2.Mi
open PySem PySem.Spec PyProof.Rows L2 PySem.SeqAt PySem.AutoSeq1

/-! ### a dict and a text are never equal -/
theorem str_eq_declines_dict (b : Str) (u : Tok) (l : Addr) (c : Value) (es : Array DictEntry) (n : Nat) (dd : Option Addr) (sl : Array (Option Value)) :
    Meets (Builtin.«str.__eq__» ⟨[.str b u, .ref l], []⟩) (fun _ R s => s.heap.get? l = some { cls := c, dict := dd, data := .dict es n, slots := sl } ∧ R (.ok (.ret .notImplemented)) s) :=
  .of_wp fun prog w A R s h => by obtain ⟨hp, g, d, tk, os⟩ := s; obtain ⟨hl, h⟩ := h; wp_walk using wpAny_loadPart' hl, wpAny_load hl; exact ⟨_, rfl, h⟩
theorem rc_dict_str {prog : Program} {w : World} {A : Around} {E Q : Value → Shared → Prop} {s : Shared} {l : Addr} {es : Array DictEntry} {n : Nat} {dd : Option Addr} {sl : Array (Option Value)} (b : Str) (u : Tok)
    (ho : s.heap.get? l = some { cls := .type "dict", dict := dd, data := .dict es n, slots := sl }) (hu : A.units < cLine) (h : Q (.bool false) s) : wpAny (model prog w) A (richCompare .Eq (.ref l) (.str b u)) Q E s := by
  have tl : s.TypeIs (.ref l) "dict" := ⟨_, ho, rfl⟩
  refine rc_eq_decline_or (k := false) tl (typeIs_str s b u) (by decide) F.sub_str_dict F.slot_dict_eq F.slot_str_eq_refl
    (fun Q' hq => wpAny_call_entry F.slot_dict_eq tl F.entry_dict_eq ?_ (F.args_dict_eq_2 _ _))
    (fun _ hq => call_meets F.slot_str_eq_refl (typeIs_str s b u) F.entry_str_eq (F.args_str_eq_2 _ _) (str_eq_declines_dict b u l (.type "dict") es n dd sl) ⟨ho, hq⟩)
    (fun _ hq => wpAny_of_eq (rfl : isSame (.ref l) (.str b u) = pure false) hq) (.inr hu) h
  show wpAny _ _ (Builtin.Dict.dictSlotArgs "__eq__" ⟨[.ref l, .str b u], []⟩ >>= _) _ _ s
  refine wpAny_bind ?_
  unfold Builtin.Dict.dictSlotArgs
  refine wpAny_bind (wpAny_notOrdered_dict tl ?_)
  show wpAny _ _ (pure (Value.ref l, Value.str b u)) _ _ s
  refine wpAny_pure ?_
  refine wpAny_bind (wpAny_isInstance (T := "str") (typeIs_str s b u) F.sub_str_dict ?_)
  simp only [Bool.not_false, if_true]
  exact wpAny_bind (wpAny_rule (wpAny_pure ⟨_, rfl, hq⟩))
def rDs : R2 := fun x y H Q => ∃ a kvs b, x = .ref a ∧ H a = some (.dK kvs) ∧ y = .str b ∧ Q (.bl false) H
theorem op_ds {X : Cx} (hu : X.A.units + 64 < cLine) : OpR X (compareOp .Eq) rDs := by
  intro pins s σ H x y v u Q I rx ry h
  obtain ⟨a, kvs, b, rfl, ha, rfl, q⟩ := h
  cases (show v = Value.ref a from rx)
  obtain ⟨t, rfl⟩ := ry
  obtain ⟨_, _, vs, _, ⟨cls, dd, data, sl⟩, es, ep, h1, h2, h3, _⟩ := (show ObjOk X.prog X.w H s.heap a (.dK kvs) from I.hok a _ ha)
  have h2 := h2.1
  simp only at h2 h3
  subst h2 h3
  exact rc_dict_str b t h1 (by omega) ⟨.bl false, H, I, rfl, q⟩
section
variable {K : PySem.W.Frag}
def rEqB (K : PySem.W.Frag) : R2 := fun x y H Q => rEqA K x y H Q ∨ rDs x y H Q
theorem op_eqB {X : Cx} (hu : X.A.units + 64 < cLine) : OpR X (compareOp .Eq) (rEqB X.K) := (op_eqA hu).or (op_ds hu)
def eqE : D → D → Cs → R D
  | .dct _, .str _, c => .ok (.bl false) c
  | d, e, c => eqD d e c
theorem os_eqE : OpS K (rEqB K) eqE := fun I H m c v1 v2 d1 d2 W Q R p1 p2 A => by
  have gen : After (rD K) K I m H W Q (eqD d1 d2 c) → rEqB K v1 v2 H Q := fun A => .inl (os_eq I H m c v1 v2 d1 d2 W Q R p1 p2 A)
  cases p1 with
  | dct h r => cases p2 with
    | str s => exact .inr ⟨_, _, s, rfl, R.same _ _ h, rfl, A.here R (.bl _)⟩
    | _ => exact gen A
  | _ => exact gen A
end
end L2.Mi

namespace L2.Mi
open PySem PySem.Spec PyProof.Rows L2

/-! ### data with dicts, read and shown -/
def kP : Key → PyData
  | .inl i => .int i
  | .inr s => .str s
mutual
inductive Rx (h : Heap) : Value → PyData → Prop
  | non : Rx h .none .none
  | bl (b : Bool) : Rx h (.bool b) (.bool b)
  | int (i : Int) (t : Tok) : Rx h (.int i t) (.int i)
  | str (x : Str) (t : Tok) : Rx h (.str x t) (.str x)
  | lst {a : Addr} {o : Obj} {vs : Array Value} {n : Nat} {xs : List PyData} (h1 : h.get? a = some o) (h2 : o.cls = .type "list") (h3 : o.data = .seq vs n) (h4 : Rxs h vs.toList xs) : Rx h (.ref a) (.list xs)
  | tup {a : Addr} {o : Obj} {vs : Array Value} {n : Nat} {xs : List PyData} (h1 : h.get? a = some o) (h2 : o.cls = .type "tuple") (h3 : o.data = .seq vs n) (h4 : Rxs h vs.toList xs) : Rx h (.ref a) (.tuple xs)
  | dct {a : Addr} {o : Obj} {es : Array DictEntry} {n : Nat} {kvs : List (PyData × PyData)} (h1 : h.get? a = some o) (h2 : o.cls = .type "dict") (h3 : o.data = .dict es n) (hs : (a == sysModules) = false)
      (h4 : Rxs h (es.toList.map (·.key)) (kvs.map (·.1))) (h5 : Rxs h (es.toList.map (·.val)) (kvs.map (·.2))) : Rx h (.ref a) (.dict kvs)
inductive Rxs (h : Heap) : List Value → List PyData → Prop
  | nil : Rxs h [] []
  | cons {v : Value} {vs : List Value} {d : PyData} {ds : List PyData} (r : Rx h v d) (t : Rxs h vs ds) : Rxs h (v :: vs) (d :: ds)
end
mutual
theorem Rx.reads {h : Heap} : ∀ {v : Value} {d : PyData}, Rx h v d → ∃ as, Reads h v d as
  | _, _, .non => ⟨_, .none⟩
  | _, _, .bl b => ⟨_, .bool b⟩
  | _, _, .int i t => ⟨_, .int i t⟩
  | _, _, .str x t => ⟨_, .str x t⟩
  | _, _, .lst h1 h2 h3 h4 => let ⟨_, r⟩ := Rxs.reads h4; ⟨_, .list h1 h2 h3 r⟩
  | _, _, .tup h1 h2 h3 h4 => let ⟨_, r⟩ := Rxs.reads h4; ⟨_, .tuple h1 h2 h3 r⟩
  | _, _, .dct h1 h2 h3 _ h4 h5 => let ⟨_, r⟩ := Rxs.reads h4; let ⟨_, q⟩ := Rxs.reads h5; ⟨_, .dict h1 h2 h3 r q⟩
theorem Rxs.reads {h : Heap} : ∀ {v : List Value} {d : List PyData}, Rxs h v d → ∃ as, ReadsAll h v d as
  | _, _, .nil => ⟨_, .nil⟩
  | _, _, .cons r t => let ⟨_, r⟩ := Rx.reads r; let ⟨_, q⟩ := Rxs.reads t; ⟨_, .cons r q⟩
end
theorem Rxs.length {h : Heap} : ∀ {v : List Value} {d : List PyData}, Rxs h v d → v.length = d.length
  | _, _, .nil => rfl
  | _, _, .cons _ t => congrArg (· + 1) t.length
section
variable {P : Program} {w : World} {h : Heap}
def Shw (P : Program) (w : World) (h : Heap) (n : Nat) (v : Value) (t : Str) : Prop := ∃ bs, ReadAtMost h n bs ∧ ReprK P w bs h n v t
def Shws (P : Program) (w : World) (h : Heap) (n : Nat) (vs : List Value) (ts : List Str) : Prop := ∃ bs, ReadAtMost h n bs ∧ ReprAllK P w bs h n vs ts
theorem Shws.cons {n m : Nat} {v : Value} {vs : List Value} {t : Str} {ts : List Str} (a : Shw P w h n v t) (b : Shws P w h m vs ts) : Shws P w h (max n m) (v :: vs) (t :: ts) := by
  obtain ⟨b1, r1, k1⟩ := a
  obtain ⟨b2, r2, k2⟩ := b
  refine ⟨b1 ++ b2, (r1.mono (Nat.le_max_left _ _)).append (r2.mono (Nat.le_max_right _ _)), ?_⟩
  exact .cons ((k1.more fun b hb => List.mem_append_left _ hb).level_le (Nat.le_max_left _ _)) (k2.more_le (fun b hb => List.mem_append_right _ hb) (Nat.le_max_right _ _))
/-- a dict's parts: its entries as they are shown, and that it does not stand in itself -/
theorem shw_dct {a : Addr} {o : Obj} {es : Array DictEntry} {n : Nat} {kvs : List (PyData × PyData)} (r : Rx h (.ref a) (.dict kvs)) (h3 : o.data = .dict es n) (k1 : Shws P w h (PyData.depthAll (kvs.map (·.1))) (es.toList.map (·.key)) (PyData.shownAll (kvs.map (·.1))))
    (k2 : Shws P w h (PyData.depthAll (kvs.map (·.2))) (es.toList.map (·.val)) (PyData.shownAll (kvs.map (·.2)))) :
    ∃ bs, ReadAtMost h (PyData.depthKv kvs) bs ∧ a ∉ bs ∧ ReprEntriesK P w bs h (PyData.depthKv kvs) es.toList (PyData.shownKv kvs) := by
  obtain ⟨b1, r1, k1⟩ := k1
  obtain ⟨b2, r2, k2⟩ := k2
  have hb := (r1.mono (PyData.depthAll_keys_le kvs)).append (r2.mono (PyData.depthAll_vals_le kvs))
  obtain ⟨as, rr⟩ := r.reads
  refine ⟨b1 ++ b2, hb, not_mem_of_deeper rr (by simp only [PyData.depth]; omega) hb, ?_⟩
  rw [PyData.shownKv_eq]
  exact ReprEntriesK.of_two _ _ _ (k1.more_le (fun b hb => List.mem_append_left _ hb) (PyData.depthAll_keys_le kvs)) (k2.more_le (fun b hb => List.mem_append_right _ hb) (PyData.depthAll_vals_le kvs))
theorem shw_seq {a : Addr} {xs : List PyData} {d : PyData} {vs : List Value} (r : Rx h (.ref a) d) (hd : d.depth = PyData.depthAll xs + 1) (k : Shws P w h (PyData.depthAll xs) vs (PyData.shownAll xs)) :
    ∃ bs, ReadAtMost h (PyData.depthAll xs) bs ∧ a ∉ bs ∧ ReprAllK P w bs h (PyData.depthAll xs) vs (PyData.shownAll xs) := by
  obtain ⟨bs, hb, hk⟩ := k
  obtain ⟨as, rr⟩ := r.reads
  exact ⟨bs, hb, not_mem_of_deeper rr (by rw [hd]; omega) hb, hk⟩
mutual
theorem Rx.shw : ∀ {v : Value} {d : PyData}, Rx h v d → d.showable = true → d.shown.length ≤ sizeLine → Shw P w h d.depth v d.shown
  | _, _, .non, _, _ => ⟨[], (fun _ h => nomatch h), by simp only [PyData.shown]; exact .of_is ReprIs.none _ _ _⟩
  | _, _, .bl b, _, _ => ⟨[], (fun _ h => nomatch h), by simp only [PyData.shown]; exact .of_is (ReprIs.bool b) _ _ _⟩
  | _, _, .int i t, hs, _ => ⟨[], (fun _ h => nomatch h), by simp only [PyData.shown]; exact .of_is (ReprIs.int t (by simpa [PyData.showable] using hs)) _ _ _⟩
  | _, _, .str x t, _, hz => ⟨[], (fun _ h => nomatch h), by simp only [PyData.shown]; exact .of_is (ReprIs.str x t (by simpa only [PyData.shown] using hz)) _ _ _⟩
  | _, _, .lst (a := a) (vs := vs) (xs := xs) h1 h2 h3 h4, hs, hz => by
    have hz' : (listText (PyData.shownAll xs)).length ≤ sizeLine := by simpa only [PyData.shown] using hz
    have r : Rx h (.ref a) (.list xs) := .lst h1 h2 h3 h4
    obtain ⟨bs, hb, hna, hk⟩ := shw_seq r (by simp only [PyData.depth]) (Rxs.shw h4 (by simpa [PyData.showable] using hs) fun t ht => Nat.le_trans (listText_mem_le ht) hz')
    obtain ⟨as, rr⟩ := r.reads
    refine ⟨a :: bs, ReadAtMost.cons rr (by simp only [PyData.depth]; omega) hb, ?_⟩
    simp only [PyData.depth, PyData.shown]
    obtain ⟨l⟩ := vs
    cases l with
    | nil =>
      have e : xs = [] := List.length_eq_zero_iff.mp h4.length.symm
      subst e
      simp only [PyData.shownAll, listText_nil]
      exact ReprK.listEmpty h1 h2 h3
    | cons x l => exact ReprK.list h1 h2 h3 hna (by simpa using hk.length_eq) (fun i y e => hk.item i y (by simpa using e))
  | _, _, .tup (a := a) (xs := xs) h1 h2 h3 h4, hs, hz => by
    have hz' : (tupleText (PyData.shownAll xs)).length ≤ sizeLine := by simpa only [PyData.shown] using hz
    have r : Rx h (.ref a) (.tuple xs) := .tup h1 h2 h3 h4
    obtain ⟨bs, hb, hna, hk⟩ := shw_seq r (by simp only [PyData.depth]) (Rxs.shw h4 (by simpa [PyData.showable] using hs) fun t ht => Nat.le_trans (tupleText_mem_le ht) hz')
    obtain ⟨as, rr⟩ := r.reads
    refine ⟨a :: bs, ReadAtMost.cons rr (by simp only [PyData.depth]; omega) hb, ?_⟩
    simp only [PyData.depth, PyData.shown]
    exact ReprK.tuple h1 h2 h3 hna hk
  | _, _, .dct (a := a) (es := es) (kvs := kvs) h1 h2 h3 hx h4 h5, hs, hz => by
    have hz' : (dictText (PyData.shownKv kvs)).length ≤ sizeLine := by simpa only [PyData.shown] using hz
    obtain ⟨hs1, hs2⟩ := PyData.showableKv_split kvs (by simpa [PyData.showable] using hs)
    have r : Rx h (.ref a) (.dict kvs) := .dct h1 h2 h3 hx h4 h5
    obtain ⟨bs, hb, hna, hk⟩ := shw_dct r h3 (Rxs.shw h4 hs1 fun t ht => let ⟨p, hp, hl⟩ := PyData.shownKv_key_le kvs t ht; Nat.le_trans hl (Nat.le_trans (dictText_mem_le hp) hz'))
      (Rxs.shw h5 hs2 fun t ht => let ⟨p, hp, hl⟩ := PyData.shownKv_val_le kvs t ht; Nat.le_trans hl (Nat.le_trans (dictText_mem_le hp) hz'))
    obtain ⟨as, rr⟩ := r.reads
    refine ⟨a :: bs, ReadAtMost.cons rr (by simp only [PyData.depth]; omega) hb, ?_⟩
    simp only [PyData.depth, PyData.shown]
    exact ReprK.dict h1 h2 h3 hx hna hk
theorem Rxs.shw : ∀ {v : List Value} {d : List PyData}, Rxs h v d → PyData.showableAll d = true → (∀ t ∈ PyData.shownAll d, t.length ≤ sizeLine) → Shws P w h (PyData.depthAll d) v (PyData.shownAll d)
  | _, _, .nil, _, _ => ⟨[], (fun _ h => nomatch h), by simp only [PyData.shownAll]; exact .nil⟩
  | _, _, .cons (d := d) (ds := ds) r t, hs, hz => by
    have hs' : d.showable = true ∧ PyData.showableAll ds = true := by simpa [PyData.showableAll] using hs
    simp only [PyData.depthAll, PyData.shownAll] at hz ⊢
    exact Shws.cons (Rx.shw r hs'.1 (hz _ (List.mem_cons_self ..))) (Rxs.shw t hs'.2 fun t ht => hz t (List.mem_cons_of_mem _ ht))
end
/-- repr(x), x an object -/
theorem repr_rx {A : Around} {E Q : Value → Shared → Prop} {s : Shared} {a : Addr} {d : PyData} (r : Rx s.heap (.ref a) d) (hs : d.showable = true) (hg : A.guards = some []) (hu : A.units + (d.depth + 1) < cLine)
    (hQ : ∀ h' u tk, (∀ b o, s.heap.get? b = some o → h'.get? b = some o) → Q (.str d.shown u) { s with heap := h', toks := tk }) (hz : d.shown.length ≤ sizeLine) : wpAny (model P w) A (call (.builtin "repr") [.ref a]) Q E s := by
  have fin : ∀ {idr : String}, wpAny (model P w) A.in1 (call (.builtin idr) [.ref a]) (fun v s1 => ∃ h' u tk, (∀ b o, s.heap.get? b = some o → h'.get? b = some o) ∧ v = .str d.shown u ∧ s1 = { s with heap := h', toks := tk }) E s →
      wpAny (model P w) A.in1 (call (.builtin idr) [.ref a]) (fun r s₁ => ∃ x t, r = .str x t ∧ Q r s₁) E s := fun hc =>
    wpAny_mono hc (fun v s1 ⟨h', u, tk, k, e1, e2⟩ => ⟨_, _, e1, by rw [e1, e2]; exact hQ h' u tk k⟩) fun _ _ x => x
  have hu1 : A.in1.units = A.units + 1 := rfl
  cases r with
  | @lst _ o vs n xs h1 h2 h3 h4 =>
    have r : Rx s.heap (.ref a) (.list xs) := .lst h1 h2 h3 h4
    have hz' : (listText (PyData.shownAll xs)).length ≤ sizeLine := by simpa only [PyData.shown] using hz
    obtain ⟨bs, hb, hna, hk⟩ := shw_seq (P := P) (w := w) r (by simp only [PyData.depth]) (Rxs.shw h4 (by simpa [PyData.showable] using hs) fun t ht => Nat.le_trans (listText_mem_le ht) hz')
    simp only [PyData.depth] at hu
    simp only [PyData.shown] at fin
    refine call_repr_slot (by omega) ⟨o, h1, h2⟩ F.slot_list_repr.toG (fin ?_)
    obtain ⟨l⟩ := vs
    cases l with
    | nil =>
      have e : xs = [] := List.length_eq_zero_iff.mp h4.length.symm
      subst e
      refine call_list_repr_empty ⟨o, h1, h2⟩ h1 h3 ⟨s.heap, s.toks, s.toks + 1, fun _ _ e => e, ?_, rfl⟩
      simp only [PyData.shownAll, listText_nil]
    | cons x l => exact call_list_reprK h1 h2 h3 hna (by simpa using hk.length_eq) (fun i y e => hk.item i y (by simpa using e)) (g := []) hg (fun b _ => Clear.nil b) (by omega) (fun _ _ e => e) (fun h' u tk k => ⟨h', u, tk, k, rfl, rfl⟩) hz'
  | @tup _ o vs n xs h1 h2 h3 h4 =>
    have r : Rx s.heap (.ref a) (.tuple xs) := .tup h1 h2 h3 h4
    have hz' : (tupleText (PyData.shownAll xs)).length ≤ sizeLine := by simpa only [PyData.shown] using hz
    obtain ⟨bs, hb, hna, hk⟩ := shw_seq (P := P) (w := w) r (by simp only [PyData.depth]) (Rxs.shw h4 (by simpa [PyData.showable] using hs) fun t ht => Nat.le_trans (tupleText_mem_le ht) hz')
    simp only [PyData.depth] at hu
    simp only [PyData.shown] at fin
    refine call_repr_slot (by omega) ⟨o, h1, h2⟩ F.slot_tuple_repr (fin ?_)
    exact call_tuple_reprK h1 h2 h3 hna hk (g := []) hg (fun b _ => Clear.nil b) (by omega) (fun _ _ e => e) (fun h' u tk k => ⟨h', u, tk, k, rfl, rfl⟩) hz'
  | @dct _ o es n kvs h1 h2 h3 hx h4 h5 =>
    have r : Rx s.heap (.ref a) (.dict kvs) := .dct h1 h2 h3 hx h4 h5
    have hz' : (dictText (PyData.shownKv kvs)).length ≤ sizeLine := by simpa only [PyData.shown] using hz
    obtain ⟨hs1, hs2⟩ := PyData.showableKv_split kvs (by simpa [PyData.showable] using hs)
    obtain ⟨bs, hb, hna, hk⟩ := shw_dct (P := P) (w := w) r h3 (Rxs.shw h4 hs1 fun t ht => let ⟨p, hp, hl⟩ := PyData.shownKv_key_le kvs t ht; Nat.le_trans hl (Nat.le_trans (dictText_mem_le hp) hz'))
      (Rxs.shw h5 hs2 fun t ht => let ⟨p, hp, hl⟩ := PyData.shownKv_val_le kvs t ht; Nat.le_trans hl (Nat.le_trans (dictText_mem_le hp) hz'))
    simp only [PyData.depth] at hu
    simp only [PyData.shown] at fin
    refine call_repr_slot (by omega) ⟨o, h1, h2⟩ F.slot_dict_repr (fin ?_)
    exact call_dict_reprK h1 h2 h3 hx hna hk (g := []) hg (fun b _ => Clear.nil b) (by omega) (fun _ _ e => e) (fun h' u tk k => ⟨h', u, tk, k, rfl, rfl⟩) hz'
end
/-! ### .. at the level of tracked things -/
mutual
inductive Dx (K : PySem.W.Frag) (H : Hp) : V → PyData → Prop
  | non : Dx K H .non .none
  | bl (b : Bool) : Dx K H (.bl b) (.bool b)
  | int (i : Int) : Dx K H (.int i) (.int i)
  | str (x : Str) : Dx K H (.str x) (.str x)
  | lst {a : Addr} {xs : List V} {ds : List PyData} (h : SqL K H a xs) (t : Dxs K H xs ds) : Dx K H (.ref a) (.list ds)
  | tup {a : Addr} {xs : List V} {ds : List PyData} (h : SqT K H a xs) (t : Dxs K H xs ds) : Dx K H (.ref a) (.tuple ds)
  | dct {a : Addr} {xs : List (Key × V)} {ds : List (PyData × PyData)} (h : H a = some (.dK xs)) (t : Dxk K H xs ds) : Dx K H (.ref a) (.dict ds)
inductive Dxs (K : PySem.W.Frag) (H : Hp) : List V → List PyData → Prop
  | nil : Dxs K H [] []
  | cons {v : V} {vs : List V} {d : PyData} {ds : List PyData} (h : Dx K H v d) (t : Dxs K H vs ds) : Dxs K H (v :: vs) (d :: ds)
inductive Dxk (K : PySem.W.Frag) (H : Hp) : List (Key × V) → List (PyData × PyData) → Prop
  | nil : Dxk K H [] []
  | cons {k : Key} {v : V} {vs : List (Key × V)} {d : PyData} {ds : List (PyData × PyData)} (h : Dx K H v d) (t : Dxk K H vs ds) : Dxk K H ((k, v) :: vs) ((kP k, d) :: ds)
end
section
variable {X : Cx} {pins : List (Addr × Obj)} {σ : St} {H : Hp} {s : Shared}
theorem key_rx {h : Heap} {k : Key} {u : Value} (e : keyIs k u = true) : Rx h u (kP k) := by
  rcases keyIs_shape e with ⟨i, t, rfl, rfl⟩ | ⟨x, t, rfl, rfl⟩
  · exact .int i t
  · exact .str x t
mutual
theorem Dx.rx (I : Inv X pins σ H s) : ∀ {v : V} {d : PyData} {u : Value}, Dx X.K H v d → RelV v u → Rx s.heap u d
  | _, _, _, .non, r => by cases r; exact .non
  | _, _, _, .bl b, r => by cases r; exact .bl b
  | _, _, _, .int i, r => by obtain ⟨t, rfl⟩ := r; exact .int i t
  | _, _, _, .str x, r => by obtain ⟨t, rfl⟩ := r; exact .str x t
  | _, _, _, .lst h t, r => by
    cases r
    obtain ⟨its, rv, ⟨o, n, ho, hc, _, hd⟩, _⟩ := I.list h
    exact .lst ho hc hd (by simpa using Dxs.rx I t rv)
  | _, _, _, .tup h t, r => by
    cases r
    obtain ⟨its, rv, ⟨o, ho, hc, n, hd⟩, _⟩ := I.tuple h
    exact .tup ho hc hd (by simpa using Dxs.rx I t rv)
  | _, _, _, .dct (a := a) h t, r => by
    cases r
    obtain ⟨_, hs, vs, rv, o, es, ep, h1, h2, h3, _, h5, _⟩ := (show ObjOk X.prog X.w H s.heap a (.dK _) from I.hok a _ h)
    obtain ⟨k1, k2⟩ := Dxk.rx I t rv h5
    exact .dct h1 h2.1 h3 hs k1 k2
theorem Dxs.rx (I : Inv X pins σ H s) : ∀ {v : List V} {d : List PyData} {u : List Value}, Dxs X.K H v d → Vals v u → Rxs s.heap u d
  | _, _, _, .nil, r => by cases r; exact .nil
  | _, _, _, .cons h t, r => by
    cases r with
    | cons r1 r2 => exact .cons (Dx.rx I h r1) (Dxs.rx I t r2)
theorem Dxk.rx (I : Inv X pins σ H s) : ∀ {v : List (Key × V)} {d : List (PyData × PyData)} {u : List (Key × Value)} {es : List DictEntry}, Dxk X.K H v d → KV v u → Pairs (mixKind X.prog X.w) es u →
    Rxs s.heap (es.map (·.key)) (d.map (·.1)) ∧ Rxs s.heap (es.map (·.val)) (d.map (·.2))
  | _, _, _, _, .nil, r, p => by
    cases r
    cases p
    exact ⟨.nil, .nil⟩
  | _, _, _, _, .cons (k := k) h t, r, p => by
    cases r with
    | cons r1 r2 =>
      cases p with
      | cons p1 p2 p3 =>
        obtain ⟨q1, q2⟩ := Dxk.rx I t r2 p3
        obtain ⟨e1, e2⟩ := r1
        refine ⟨.cons (key_rx (k := k) ?_) q1, .cons ?_ q2⟩
        · have e1 : k = _ := e1
          rw [e1]
          exact p1
        · have q := Dx.rx I h e2
          rw [← p2] at q
          exact q
end
end
/-! ### repr and == of what a computation holds, cells looked through -/
def mapO {α β : Type} (f : α → Option β) : List α → Option (List β)
  | [] => some []
  | x :: xs => match f x with
    | some y => match mapO f xs with
      | some ys => some (y :: ys)
      | none => none
    | none => none
def toPyC : Nat → Cs → D → Option PyData
  | 0, _, _ => none
  | n + 1, c, d => match d with
    | .non => some .none
    | .bl b => some (.bool b)
    | .int i => some (.int i)
    | .str s => some (.str s)
    | .lst xs => (mapO (toPyC n c) xs).map .list
    | .ro xs => (mapO (toPyC n c) xs).map .list
    | .tup xs => (mapO (toPyC n c) xs).map .tuple
    | .dct kvs => (mapO (fun p => (toPyC n c p.2).map fun q => (kP p.1, q)) kvs).map .dict
    | .ref k => match c[k]? with
      | some (.lst xs) => (mapO (toPyC n c) xs).map .list
      | some (.dct kvs) => (mapO (fun p => (toPyC n c p.2).map fun q => (kP p.1, q)) kvs).map .dict
      | some (.frz d) => toPyC n c d
      | _ => none
    | _ => none
section
variable {K : PySem.W.Frag} {I H : Hp} {m : List Addr} {c : Cs}
theorem dxs_of {f : D → Option PyData} (hf : ∀ v d p, Rep K I m v d → f d = some p → Dx K H v p) : ∀ {vs : List V} {ds : List D} {ps : List PyData}, Reps K I m vs ds → mapO f ds = some ps → Dxs K H vs ps
  | _, _, _, .nil, e => by simp [mapO] at e; subst e; exact .nil
  | _, _, _, .cons (d := d) (ds := ds) h t, e => by
    unfold mapO at e
    cases q : f d with
    | none => rw [q] at e; cases e
    | some y =>
      cases q2 : mapO f ds with
      | none => rw [q, q2] at e; cases e
      | some ys => rw [q, q2] at e; cases e; exact .cons (hf _ _ _ h q) (dxs_of hf t q2)
theorem dxk_of {f : D → Option PyData} (hf : ∀ v d p, Rep K I m v d → f d = some p → Dx K H v p) : ∀ {vs : List (Key × V)} {ds : List (Key × D)} {ps : List (PyData × PyData)}, RepK K I m vs ds →
    mapO (fun p => (f p.2).map fun q => (kP p.1, q)) ds = some ps → Dxk K H vs ps
  | _, _, _, .nil, e => by simp [mapO] at e; subst e; exact .nil
  | _, _, _, .cons (k := k) (d := d) (ds := ds) h t, e => by
    unfold mapO at e
    cases q : f d with
    | none => simp only [q, Option.map_none] at e; cases e
    | some y =>
      cases q2 : mapO (fun p : Key × D => (f p.2).map fun q => (kP p.1, q)) ds with
      | none => simp only [q, q2, Option.map_some] at e; cases e
      | some ys => simp only [q, q2, Option.map_some] at e; cases e; exact .cons (hf _ _ _ h q) (dxk_of hf t q2)
theorem dx_of (R : Rel K I H m c) : ∀ (n : Nat) (v : V) (d : D) (p : PyData), Rep K I m v d → toPyC n c d = some p → Dx K H v p
  | 0, _, _, _, _, e => by cases e
  | n + 1, v, d, p, h, e => by
    have ih := dx_of R n
    cases h with
    | non => cases e; exact .non
    | bl b => cases e; exact .bl b
    | int i => cases e; exact .int i
    | str s => cases e; exact .str s
    | lst h r =>
      obtain ⟨ps, e1, rfl⟩ := Option.map_eq_some_iff.mp e
      exact .lst (.inl (.inl (R.same _ _ h))) (dxs_of ih r e1)
    | ro h r =>
      obtain ⟨ps, e1, rfl⟩ := Option.map_eq_some_iff.mp e
      exact .lst (R.same.seq h) (dxs_of ih r e1)
    | tup h r =>
      obtain ⟨ps, e1, rfl⟩ := Option.map_eq_some_iff.mp e
      exact .tup (sqT_same R.same h) (dxs_of ih r e1)
    | dct h r =>
      obtain ⟨ps, e1, rfl⟩ := Option.map_eq_some_iff.mp e
      exact .dct (R.same _ _ h) (dxk_of ih r e1)
    | @ref k a h =>
      have e : (match c[k]? with
        | some (.lst xs) => (mapO (toPyC n c) xs).map .list
        | some (.dct kvs) => (mapO (fun p => (toPyC n c p.2).map fun q => (kP p.1, q)) kvs).map .dict
        | some (.frz d) => toPyC n c d
        | _ => none) = some p := e
      cases q : c[k]? with
      | none => rw [q] at e; cases e
      | some x =>
        rw [q] at e
        have hc := R.cell k a x h q
        cases x with
        | lst xs =>
          obtain ⟨ps, e1, rfl⟩ := Option.map_eq_some_iff.mp e
          obtain ⟨_, vs, h1, h2⟩ := hc
          exact .lst (.inl (.inl h1)) (dxs_of ih h2 e1)
        | dct xs =>
          obtain ⟨ps, e1, rfl⟩ := Option.map_eq_some_iff.mp e
          obtain ⟨_, vs, h1, h2⟩ := hc
          exact .dct h1 (dxk_of ih h2 e1)
        | frz d => exact ih _ _ _ hc.2 e
        | _ => cases e
    | _ => cases e
def rReprX (K : PySem.W.Frag) : List V → Hp → VK → Prop := fun xs H Q => ∃ v d, xs = [v] ∧ Dx K H v d ∧ d.depth ≤ 60 ∧ d.showable = true ∧ d.shown.length ≤ sizeLine ∧ Q (.str d.shown) H
theorem call_reprX {X : Cx} (hg : X.A.guards = some []) (hu : X.A.units + 100 < cLine) : CallR X (.builtin "repr") (rReprX X.K) := fun pins s σ H xs us Q I r h => by
  obtain ⟨v, d, rfl, hd, hs, hw, hz, q⟩ := h
  obtain ⟨u, rfl, rx⟩ := vals1 r
  have hr := Dx.rx I hd rx
  have far : ∀ {a : Addr}, u = .ref a → wpAny (model X.prog X.w) X.A (call (.builtin "repr") [u]) (EP X pins σ Q) X.xe s := fun {a} e => by
    subst e
    exact repr_rx hr hw hg (by omega) (fun h' t tk k => ⟨.str _, H, I.kept k, ⟨t, rfl⟩, q⟩) hz
  cases hd with
  | non => cases (show u = Value.none from rx); exact PySem.P.repr_of_none ⟨.str _, H, I.tok _, ⟨_, rfl⟩, by simpa [PyData.shown] using q⟩
  | bl b => cases (show u = Value.bool b from rx); exact PySem.P.repr_of_bool ⟨.str _, H, I.tok _, ⟨_, rfl⟩, by simpa [PyData.shown] using q⟩
  | int i =>
    obtain ⟨t, rfl⟩ := rx
    exact PySem.P.repr_of_int (by simpa [PyData.showable] using hw) ⟨.str _, H, I.tok _, ⟨_, rfl⟩, by simpa [PyData.shown] using q⟩
  | str x =>
    obtain ⟨t, rfl⟩ := rx
    exact PySem.P.repr_of_str ⟨.str _, H, I.tok _, ⟨_, rfl⟩, by simpa [PyData.shown] using q⟩ (by simpa [PyData.shown] using hz)
  | lst h t => exact far rx
  | tup h t => exact far rx
  | dct h t => exact far rx
def okR (p : PyData) : Bool := decide (p.depth ≤ 60) && p.showable && decide (p.shown.length ≤ sizeLine)
def reprQ (d : D) (c : Cs) : R D := match toPyC 30 c d with
  | some p => if okR p = true then .ok (.str p.shown) c else .stuck
  | none => .stuck
def reprX : List D → Cs → R D := on1 reprQ
theorem cs_reprX : CallS K (rReprX K) reprX := fun I H m c vs ds W Q R p A => by
  obtain ⟨v, d, rfl, rfl, p, A⟩ := on1_arg p A
  unfold reprQ at A
  cases q : toPyC 30 c d with
  | none => rw [q] at A; exact A.elim
  | some y =>
    rw [q] at A
    by_cases h : okR y = true
    · have A2 : After (rD K) K I m H W Q (if okR y = true then .ok (.str y.shown) c else .stuck) := A
      rw [if_pos h] at A2
      simp only [okR, Bool.and_eq_true, decide_eq_true_eq] at h
      exact ⟨v, y, rfl, dx_of R 30 _ _ _ p q, h.1.1, h.1.2, h.2, A2.here R (.str _)⟩
    · have A2 : After (rD K) K I m H W Q (if okR y = true then .ok (.str y.shown) c else .stuck) := A
      rw [if_neg h] at A2
      exact A2.elim
/-- == of data that stands in cells, too -/
def rEqX (neg : Bool) (K : PySem.W.Frag) : R2 := fun x y H Q => ∃ d e, Dx K H x d ∧ Dx K H y e ∧ SeqAt.shaped d = true ∧ SeqAt.shaped e = true ∧ Q (.bl (if neg then !PyData.eqv d e else PyData.eqv d e)) H
theorem op_eqX {X : Cx} (hu : X.A.units + 64 < cLine) : OpR X (compareOp .Eq) (rEqX false X.K) := by
  intro pins s σ H x y v u Q I rx ry h
  obtain ⟨d, e, hd, he, sd, se, q⟩ := h
  obtain ⟨as, r1⟩ := (Dx.rx I hd rx).reads
  obtain ⟨bs, r2⟩ := (Dx.rx I he ry).reads
  exact SeqAt.compareEq_shaped r1 r2 sd se hu ⟨.bl _, H, I, rfl, q⟩
theorem op_neX {X : Cx} (hu : X.A.units + 64 < cLine) : OpR X (compareOp .NotEq) (rEqX true X.K) := by
  intro pins s σ H x y v u Q I rx ry h
  obtain ⟨d, e, hd, he, sd, se, q⟩ := h
  obtain ⟨as, r1⟩ := (Dx.rx I hd rx).reads
  obtain ⟨bs, r2⟩ := (Dx.rx I he ry).reads
  exact SeqAt.compareNe_shaped r1 r2 sd se hu ⟨.bl _, H, I, rfl, q⟩
def eqQ (neg : Bool) (d e : D) (c : Cs) : R D := match toPyC 30 c d with
  | some a => match toPyC 30 c e with
    | some b => if SeqAt.shaped a = true ∧ SeqAt.shaped b = true then .ok (.bl (if neg then !PyData.eqv a b else PyData.eqv a b)) c else .stuck
    | none => .stuck
  | none => .stuck
theorem eqQ_read {W : XK} {Q : VK} {v1 v2 : V} {d1 d2 : D} {neg : Bool} (R : Rel K I H m c) (p1 : Rep K I m v1 d1) (p2 : Rep K I m v2 d2) (A : After (rD K) K I m H W Q (eqQ neg d1 d2 c)) : rEqX neg K v1 v2 H Q := by
  unfold eqQ at A
  cases q1 : toPyC 30 c d1 with
  | none => rw [q1] at A; exact A.elim
  | some a =>
    cases q2 : toPyC 30 c d2 with
    | none => rw [q1, q2] at A; exact A.elim
    | some b =>
      rw [q1, q2] at A
      by_cases hs : SeqAt.shaped a = true ∧ SeqAt.shaped b = true
      · have A2 : After (rD K) K I m H W Q (if SeqAt.shaped a = true ∧ SeqAt.shaped b = true then .ok (.bl (if neg then !PyData.eqv a b else PyData.eqv a b)) c else .stuck) := A
        rw [if_pos hs] at A2
        exact ⟨a, b, dx_of R 30 _ _ _ p1 q1, dx_of R 30 _ _ _ p2 q2, hs.1, hs.2, A2.here R (.bl _)⟩
      · have A2 : After (rD K) K I m H W Q (if SeqAt.shaped a = true ∧ SeqAt.shaped b = true then .ok (.bl (if neg then !PyData.eqv a b else PyData.eqv a b)) c else .stuck) := A
        rw [if_neg hs] at A2
        exact A2.elim
/-- ==, !=: scalars and a dict against a text as before, all else by what the cells hold -/
def eqX : D → D → Cs → R D
  | .int i, .int j, c => .ok (.bl (decide (i = j))) c
  | .str i, .str j, c => .ok (.bl (decide (i = j))) c
  | .bl i, .bl j, c => .ok (.bl (decide (i = j))) c
  | .dct _, .str _, c => .ok (.bl false) c
  | d, e, c => eqQ false d e c
def neX : D → D → Cs → R D
  | .int i, .int j, c => .ok (.bl (!decide (i = j))) c
  | .str i, .str j, c => .ok (.bl (!decide (i = j))) c
  | .bl i, .bl j, c => .ok (.bl (!decide (i = j))) c
  | d, e, c => eqQ true d e c
def rEqY (K : PySem.W.Frag) : R2 := fun x y H Q => rEqB K x y H Q ∨ rEqX false K x y H Q
def rNeY (K : PySem.W.Frag) : R2 := fun x y H Q => rNeA K x y H Q ∨ rEqX true K x y H Q
theorem op_eqY {X : Cx} (hu : X.A.units + 64 < cLine) : OpR X (compareOp .Eq) (rEqY X.K) := (op_eqB hu).or (op_eqX hu)
theorem op_neY {X : Cx} (hu : X.A.units + 64 < cLine) : OpR X (compareOp .NotEq) (rNeY X.K) := (op_neA hu).or (op_neX hu)
theorem os_eqX : OpS K (rEqY K) eqX := fun I H m c v1 v2 d1 d2 W Q R p1 p2 A => by
  have gen : After (rD K) K I m H W Q (eqQ false d1 d2 c) → rEqY K v1 v2 H Q := fun A => .inr (eqQ_read R p1 p2 A)
  cases p1 with
  | int i => cases p2 with
    | int j => exact .inl (os_eqE I H m c _ _ _ _ W Q R (.int i) (.int j) A)
    | _ => exact gen A
  | str i => cases p2 with
    | str j => exact .inl (os_eqE I H m c _ _ _ _ W Q R (.str i) (.str j) A)
    | _ => exact gen A
  | bl i => cases p2 with
    | bl j => exact .inl (os_eqE I H m c _ _ _ _ W Q R (.bl i) (.bl j) A)
    | _ => exact gen A
  | dct h r => cases p2 with
    | str j => exact .inl (os_eqE I H m c _ _ _ _ W Q R (.dct h r) (.str j) A)
    | _ => exact gen A
  | _ => exact gen A
theorem os_neX : OpS K (rNeY K) neX := fun I H m c v1 v2 d1 d2 W Q R p1 p2 A => by
  have gen : After (rD K) K I m H W Q (eqQ true d1 d2 c) → rNeY K v1 v2 H Q := fun A => .inr (eqQ_read R p1 p2 A)
  cases p1 with
  | int i => cases p2 with
    | int j => exact .inl (os_ne I H m c _ _ _ _ W Q R (.int i) (.int j) A)
    | _ => exact gen A
  | str i => cases p2 with
    | str j => exact .inl (os_ne I H m c _ _ _ _ W Q R (.str i) (.str j) A)
    | _ => exact gen A
  | bl i => cases p2 with
    | bl j => exact .inl (os_ne I H m c _ _ _ _ W Q R (.bl i) (.bl j) A)
    | _ => exact gen A
  | _ => exact gen A
end
end L2.Mi

namespace L2.Mi
open PySem PySem.Spec PyProof.Rows L2

section
variable {K : PySem.W.Frag}
/-! ### in, of what stands in a cell -/
def inX (neg : Bool) (d e : D) (c : Cs) : R D := match e with
  | .ref k => match lstOf (.ref k) c with
    | some xs => inL neg d xs c
    | none => .stuck
  | e => inD neg d e c
theorem os_inX {neg : Bool} : OpS K (rInA K neg) (inX neg) := fun I H m c v1 v2 d1 d2 W Q R p1 p2 A => by
  have gen : After (rD K) K I m H W Q (inD neg d1 d2 c) → rInA K neg v1 v2 H Q := fun A => os_in I H m c v1 v2 d1 d2 W Q R p1 p2 A
  cases d2 with
  | ref k =>
    have A2 : After (rD K) K I m H W Q (match lstOf (.ref k) c with
      | some xs => inL neg d1 xs c
      | none => .stuck) := A
    cases e : lstOf (.ref k) c with
    | none => rw [e] at A2; exact A2.elim
    | some ds =>
      rw [e] at A2
      obtain ⟨a, vs, e1, hq, rr⟩ := lst_at R p2 e
      have A3 : After (rD K) K I m H W Q (inL neg d1 ds c) := A2
      unfold inL at A3
      by_cases hf : flatD d1 = true ∧ ds.all flatD = true
      · rw [if_pos hf] at A3
        refine .inr ⟨a, vs, e1, .inl hq, flat_rep p1 hf.1, flat_reps rr hf.2, ?_⟩
        unfold inV
        rw [any_reps p1 hf.1 rr hf.2]
        exact A3.here R (.bl _)
      · rw [if_neg hf] at A3
        exact A3.elim
  | _ => exact gen A
/-! ### s.split(sep): a list of its own -/
theorem strs_rep {I : Hp} {m : List Addr} : ∀ ys : List Str, Reps K I m (ys.map V.str) (ys.map D.str)
  | [] => .nil
  | y :: ys => .cons (.str y) (strs_rep ys)
def splitD : D → D → Cs → R D := fun d e c => match d, e with
  | .str a, .str b => if (b.length == 0) = false ∧ a.length + 2 ≤ sizeLine then .ok (.ref c.length) (c ++ [.lst ((Txt.split a b).map D.str)]) else .stuck
  | _, _ => .stuck
theorem m1_split : M1S K (fun x xs H Q => ∃ a b, x = .str a ∧ xs = [.str b] ∧ (b.length == 0) = false ∧ a.length + 2 ≤ sizeLine ∧ rNewStrs (Txt.split a b) H Q) splitD :=
  fun I H m c v1 v2 d1 d2 W Q R p1 p2 A => by
    cases p1 with
    | str a =>
      cases p2 with
      | str b =>
        by_cases h : (b.length == 0) = false ∧ a.length + 2 ≤ sizeLine
        · have A2 : After (rD K) K I m H W Q (if (b.length == 0) = false ∧ a.length + 2 ≤ sizeLine then .ok (.ref c.length) (c ++ [.lst ((Txt.split a b).map D.str)]) else .stuck) := A
          rw [if_pos h] at A2
          refine (show ∃ a' b', V.str a = .str a' ∧ [V.str b] = [.str b'] ∧ (b'.length == 0) = false ∧ a'.length + 2 ≤ sizeLine ∧ rNewStrs (Txt.split a' b') H Q from ⟨a, b, rfl, rfl, h.1, h.2, fun p np => ?_⟩)
          obtain ⟨R2, E2⟩ := R.push np (strs_rep (Txt.split a b))
          refine A2 _ _ _ _ E2 R2 (Rep.ref ?_)
          rw [← R.len, List.getElem?_append_right (Nat.le_refl _), Nat.sub_self]
          rfl
        · have A2 : After (rD K) K I m H W Q (if (b.length == 0) = false ∧ a.length + 2 ≤ sizeLine then .ok (.ref c.length) (c ++ [.lst ((Txt.split a b).map D.str)]) else .stuck) := A
          rw [if_neg h] at A2
          exact A2.elim
      | _ => exact A.elim
    | _ => cases p2 <;> exact A.elim
/-! ### methods of a list's cell -/
def isL (d : D) (c : Cs) : Bool := (lstOf d c).isSome
def mBM (g : D → List D → Cs → R D) (a : ME) (t : MA) : ME := fun l c => (a l c).bind fun x c1 => if isL x c1 = true then (t l c1).bind fun xs c2 => g x xs c2 else .stuck
def MethS (K : PySem.W.Frag) (r : V → List V → Hp → VK → Prop) (g : D → List D → Cs → R D) : Prop := ∀ (I H : Hp) (m : List Addr) (c : Cs) (v : V) (vs : List V) (d : D) (ds : List D) (W : XK) (Q : VK),
  Rel K I H m c → Rep K I m v d → Reps K I m vs ds → After (rD K) K I m H W Q (g d ds c) → r v vs H Q
theorem me_bm {X : Cx} {W : WX} {e : Expr} {fa : ME} {ga : MA} {r : V → List V → Hp → VK → Prop} {g : D → List D → Cs → R D} (h : PE X e (tBM X.K "list" r (rdE X.K W fa) (rdA X.K W ga))) (hs : MethS X.K r g) : PE X e (rdE X.K W (mBM g fa ga)) :=
  PEi h fun σ H Q ⟨I, m, l, c, R, L, A⟩ => ⟨I, m, l, c, R, L, After.mono (After.bind (rep := rD X.K) A) fun v1 H1 ⟨I1, m1, c1, d1, E1, R1, p1, A1⟩ => by
    have A1 : After (rD X.K) X.K I1 m1 H1 _ Q (if isL d1 c1 = true then (ga l c1).bind fun xs c2 => g d1 xs c2 else .stuck) := A1
    by_cases hl : isL d1 c1 = true
    · rw [if_pos hl] at A1
      obtain ⟨ds, hds⟩ := Option.isSome_iff_exists.mp hl
      obtain ⟨a, xs, e1, h1, _⟩ := lst_at R1 p1 hds
      subst e1
      refine ⟨.inl ⟨rfl, xs, h1⟩, I1, m1, l, c1, R1, L.ext E1, After.mono (After.bind (rep := rA X.K) A1) fun v2 H2 ⟨I2, m2, c2, d2, E2, R2, p2, A2⟩ => ?_⟩
      exact hs I2 H2 m2 c2 _ v2 d1 d2 _ Q R2 (Rep.ext p1 E2) p2 A2
    · rw [if_neg hl] at A1
      exact A1.elim⟩
def appendD : D → List D → Cs → R D := fun d ds c => match d, ds with
  | .ref k, [y] => match c[k]? with
    | some (.lst xs) => if xs.length < sizeLine then .ok .non (c.set k (.lst (xs ++ [y]))) else .stuck
    | _ => .stuck
  | _, _ => .stuck
theorem meth_append : MethS K rAppend appendD := fun I H m c v vs d ds W Q R p ps A => by
  cases d with
  | ref k =>
    cases ps with
    | nil => exact A.elim
    | @cons y ys dy dys h t =>
      cases t with
      | cons _ _ => exact A.elim
      | nil =>
        have A2 : After (rD K) K I m H W Q (match c[k]? with
          | some (.lst xs) => if xs.length < sizeLine then .ok .non (c.set k (.lst (xs ++ [dy]))) else .stuck
          | _ => .stuck) := A
        cases q : c[k]? with
        | none => rw [q] at A2; exact A2.elim
        | some x =>
          rw [q] at A2
          cases x with
          | lst xs =>
            cases p with
            | @ref _ a hm =>
              obtain ⟨_, ws, h1, h2⟩ := R.cell k a _ hm q
              by_cases hz : xs.length < sizeLine
              · have A3 : After (rD K) K I m H W Q (if xs.length < sizeLine then .ok .non (c.set k (.lst (xs ++ [dy]))) else .stuck) := A2
                rw [if_pos hz] at A3
                obtain ⟨R2, E2⟩ := R.put hm q (h2.append (.cons h .nil))
                exact ⟨a, ws, y, rfl, rfl, h1, by rw [h2.length]; exact hz, A3 _ _ _ _ E2 R2 .non⟩
              · have A3 : After (rD K) K I m H W Q (if xs.length < sizeLine then .ok .non (c.set k (.lst (xs ++ [dy]))) else .stuck) := A2
                rw [if_neg hz] at A3
                exact A3.elim
          | _ => exact A2.elim
  | _ => exact A.elim
end
/-! ### if (x := e) op f: -/
section
variable {X : Cx} {W : WX} {a b : Expr} {pos p p2 p3 : Pos} {f g : MS}
def sIfNm (i : Nat) (h : D → D → Cs → R D) (fa fb : ME) (f g : MS) : MS := fun l c => (fa l c).seq l fun x c1 => (fb (l.set i (some x)) c1).seq (l.set i (some x)) fun y c2 => (h x y c2).seq (l.set i (some x)) fun z c3 => match z with
  | .bl true => f (l.set i (some x)) c3
  | .bl false => g (l.set i (some x)) c3
  | _ => .stuck
theorem ms_ifNm {i : Nat} {x : Str} {op : CmpOp} {r : R2} {h : D → D → Cs → R D} {fa fb : ME} {sa sb : List Stmt} (hN : X.N.Nodup) (hi : X.N[i]? = some x) (hx : Loc X.env.scope x) (ho : OpR X (compareOp op) r) (hs : OpS X.K r h) (ha : PE X a (rdE X.K W fa)) (hb : PE X b (rdE X.K W fb))
    (hf : PSs X sa (rdS X.K W f)) (hg : PSs X sb (rdS X.K W g)) (hm : behindInMarks op b = false := by first | exact nomark _ | rfl) (hfn : X.fn x = true ∨ X.env.scope.names.lookup x = some .local := by first | exact .inl rfl | exact .inr rfl | assumption) :
    PS X (.If (.Compare (.NamedExpr (.Name x p) a p2) [op] [b] p3) sa sb pos) (rdS X.K W (sIfNm i h fa fb f g)) :=
  PSi (ps_ifW (ptw_cmp ho (pew_named hN hi hx (pew_of ha) hfn) hb hm) hf hg) fun D σ H ⟨I, m, l, c, R, L, A⟩ =>
    ⟨I, m, l, c, R, L, After.mono (AfterS.seq (rep := rD X.K) L A) fun v1 H1 ⟨I1, m1, c1, d1, E1, R1, p1, A1⟩ => by
      have L1 := (L.ext E1).set i p1
      refine ⟨I1, m1, _, c1, R1, L1, After.mono (AfterS.seq (rep := rD X.K) L1 A1) fun v2 H2 ⟨I2, m2, c2, d2, E2, R2, p2, A2⟩ => ?_⟩
      have L2 := L1.ext E2
      refine hs I2 H2 m2 c2 _ _ _ _ (fun cls dd H' => W cls dd (σ.set i (some v1)) H') _ R2 (Rep.ext p1 E2) p2 (After.mono (AfterS.seq (rep := rD X.K) L2 A2) fun v3 H3 ⟨I3, m3, c3, d3, E3, R3, p3, A3⟩ => ?_)
      cases p3 with
      | bl k =>
        refine ⟨k, rfl, ?_⟩
        cases k with
        | true => exact (if_pos rfl).mpr ⟨I3, m3, _, c3, R3, L2.ext E3, A3⟩
        | false => exact (if_neg Bool.false_ne_true).mpr ⟨I3, m3, _, c3, R3, L2.ext E3, A3⟩
      | _ => exact A3.elim⟩
end
/-! ### defs with defaults -/
structure OwnD (K : PySem.W.Frag) (mg : Str → Option Value) (x : Str) (st : Stmt) (dvs : List V) (kws : List (Str × V)) where
  a : Addr
  fd : FuncData
  mgf : mg x = some (.ref a)
  F : FunD K x x (defArgs st) (defBody st) (defScope st) dvs kws a fd
theorem gfn_ofD {P : Program} {w : World} {K : PySem.W.Frag} {mg : Str → Option Value} {base : Heap} {k : Nat} {x qual : Str} {st : Stmt} {f : Addr} {fd : FuncData} {N ps : List Str} {b : MS} {dvs : List V} {kws : List (Str × V)} (F : FunD K x qual (defArgs st) (defBody st) (defScope st) dvs kws f fd)
    (S : FnScope N ps (defScope st)) (hb : ∀ (cdv : Value) (A : Around) (outer : List Env) (s : Shared) (H : Hp) (E : XK), Room k (A.deeper (envOfC qual (defScope st) s.heap.objs.size f cdv)) → A.guards = some [] →
      PSs (cxOf (CX P w) P w K mg base N qual (defScope st) f cdv A outer s H E) (defBody st) (rdS K (fun cls d _ H' => E cls d H') b)) : GFn P w K mg base (k + 1) f fd ps (mFun N.length ps.length b) := by
  obtain ⟨oc, od, dV, kV, doc, pm, an, cdv, ct, osl, rfl, lk, hcd, _, _⟩ := F.ex
  have len : ∀ ds c, mFun N.length ps.length b ds c ≠ .stuck → ds.length = ps.length := fun ds c h => by
    by_cases hl : ds.length = ps.length
    · exact hl
    · exact absurd (show mFun N.length ps.length b ds c = .stuck from if_neg hl) h
  refine ⟨len, fun A outer s H args us vs Q E I m c ds hr hg e0 hbd rv R p a => ?_⟩
  have hl := len ds c (after_nonstuck a)
  have hlv : vs.length = ps.length := p.length.trans hl
  have KX : K.In s.heap := e0.mod.kin.keeps fun b o e => (e0.bs b o e).1
  have lim : s.heap.NoLimit := e0.mod.nolimit.keeps fun b o e => (e0.bs b o e).1
  have hkind : ∀ y ∈ ps.zip us, (defScope st).names.lookup y.1 = some .local ∨ ((defScope st).names.lookup y.1 = some .cell ∧ ((cellsFrom (s.heap.objs.size + 1) (defScope st).names []).lookup y.1).isSome = true) := fun ⟨n, v⟩ hy => by
    rcases S.par n (List.of_mem_zip hy).1 with q | q
    · exact Or.inl q
    · exact Or.inr ⟨q, PySem.W.cellsFrom_some _ _ _ (Or.inl q)⟩
  refine codeAny_call_function hr.depth (KX _ _ lk) rfl S.co S.gen rfl (PySem.W.codeRec_of KX hcd) (hbd _ _ _ _ ?_)
  refine wpAny_newFunctionEnv_cells S.kind hkind fun env he s1 y => ?_
  subst he
  refine ⟨lim.keeps y.toInCall.keep, codeAny_func ?_⟩
  have J := inv_start (CX := CX P w) (E := E) (cd := cdv) (qual := qual) (f := f) S hr.hd e0 hlv rv y
  have a2 : After (rD K) K I m H E Q (match b (ds.map some ++ List.replicate (N.length - ps.length) none) c with
    | .go (.rt d) c' => .ok d c'
    | .go (.nx _) c' => .ok .non c'
    | .exc x _ c' => .exc x c'
    | _ => .stuck) := by
    have e : mFun N.length ps.length b ds c = _ := if_pos hl
    rw [e] at a
    exact a
  have hst : rdS K (fun cls d _ H' => E cls d H') b { nx := fun _ H' => Q .non H', rt := Q } (start N vs) H := by
    refine ⟨I, m, ds.map some ++ List.replicate (N.length - ps.length) none, c, R, by rw [← hl]; exact locs_start p, ?_⟩
    cases q : b (ds.map some ++ List.replicate (N.length - ps.length) none) c with
    | stuck => rw [q] at a2; exact a2.elim
    | exc x l' c' => rw [q] at a2; exact fun I' m' H' σ' cls dd e' r' _ px => a2 I' m' H' cls dd e' r' px
    | go fl c' =>
      rw [q] at a2
      cases fl with
      | nx l' => exact fun I' m' H' σ' e' r' _ => a2 I' m' H' .non e' r' Rep.non
      | rt d => exact fun I' m' H' v e' r' pv => a2 I' m' H' v e' r' pv
      | bk l' => exact a2.elim
      | ct l' => exact a2.elim
  refine wpAny_mono ((hb cdv A outer s H E (hr.deeper _) hg).run [] s1 (start N vs) H _ J hst) (fun fl s' hs => ?_) fun e s' hs => hs
  have fin : ∀ {σ' : St} {H' : Hp} {v : V} {u : Value}, Inv (cxOf (CX P w) P w K mg base N qual (defScope st) f cdv A outer s H E) [] σ' H' s' → RelV v u → Q v H' → CE outer P w H s Q u s' :=
    fun {σ' H' v u} Z rv q => ⟨v, H', Z.os, Z.bare, Z.base, Z.hok, rv, q⟩
  cases fl with
  | ret u =>
    obtain ⟨v, σ', H', Z, rv, q⟩ := hs
    exact fin Z rv q
  | next =>
    obtain ⟨σ', H', Z, q⟩ := hs
    exact fin (v := V.non) (u := Value.none) Z rfl q
  | brk =>
    obtain ⟨_, _, _, q⟩ := hs
    exact False.elim q
  | cont =>
    obtain ⟨_, _, _, q⟩ := hs
    exact False.elim q
section
variable {X : Cx} {W : WX} {k n : Nat} {f : Addr} {fd : FuncData} {ps ks : List Str} {g : List D → Cs → R D} {x : Str} {p pos : Pos} {e : Expr} {es : List Expr} {ga gk : MA}
/-- the callee runs, its values bound as told -/
theorem run_gA {pins : List (Addr × Obj)} {σ : St} {H : Hp} {s : Shared} {Q : VK} {us : List Value} {kwa : List (Str × Value)} {al : List Value} {vs : List V} {I : Hp} {m : List Addr} {c : Cs} {ds : List D} (F : GFn X.prog X.w X.K X.mg X.base k f fd ps g) (hr : Room k X.A) (hgd : X.A.guards = some [])
    (hb : BindsTo s fd ⟨us, kwa⟩ (ps.zip al)) (tk : Takes X W) (J : Inv X pins σ H s) (r : Vals vs al) (R : Rel X.K I H m c) (p : Reps X.K I m vs ds) (a : After (rD X.K) X.K I m H (fun cls d H' => W cls d σ H') Q (g ds c)) :
    wpAny (model X.prog X.w) X.A (call (.ref f) us kwa) (EP X pins σ Q) X.xe s := by
  refine wpAny_call (codeAny_mono (F.run X.A X.stack s H ⟨us, kwa⟩ al vs Q (fun cls d H' => W cls d σ H') I m c ds hr hgd J.env0 hb r R p a) fun res s' hq => ?_)
  cases res with
  | error e => exact tk e s' (XE.of_call J (fun _ _ _ h => h) hq)
  | ok fl =>
    cases fl with
    | ret u => exact J.after hq
    | next => exact False.elim hq
    | brk => exact False.elim hq
    | cont => exact False.elim hq
/-- f(e, ..), defaults fill up -/
def mCBd (g : List D → Cs → R D) (n : Nat) (df : List D) (t : MA) : ME := fun l c => (t l c).bind fun xs c1 => if xs.length = n then g (xs ++ df) c1 else .stuck
theorem me_callD {dv : List V} {df : List D} {us0 : List Value} (F : GFn X.prog X.w X.K X.mg X.base k f fd ps g) (hr : Room k X.A) (hgd : X.A.guards = some []) (hg : Gl X x) (hm : X.mg x = some (.ref f)) (hk : PySem.W.keepIn X.K (.ref f) = true) (hv : Vals dv us0) (hd : ∀ I m, Reps X.K I m dv df)
    (hb : Binds X.K fd ps us0) (tk : Takes X W)
    (ha : PA X (e :: es) (rdA X.K W ga)) (hdb : (x == ("__debug__" : Str)) = false := by decide) (he : starEach (e :: es) X.env = (false, eval e X.env) :: starEach es X.env := by rfl) (hpl : (backTo pos (starEach es X.env)).any (·.1) = false := by rfl) :
    PE X (.Call (.Name x p) (e :: es) [] pos) (rdE X.K W (mCBd g n df ga)) := by
  refine ⟨fun pins s σ H Q J ⟨I, m, l, c, R, L, A⟩ => ?_⟩
  refine wpAny_Call_Name_kw (ld_glob J hg hm ?_ hdb)
  refine PySem.W.callWith_K (h₀ := X.base) J.ok.mod.kin hk (thn (ha.run pos pins s σ H _ J ⟨I, m, l, c, R, L, After.bind (rep := rA X.K) A⟩) fun us s1 ⟨vs, H1, J1, r, I1, m1, c1, ds, E1, R1, p1, A1⟩ => ⟨J1.kIn, ?_⟩) he hpl
  have A1 : After (rD X.K) X.K I1 m1 H1 _ Q (if ds.length = n then g (ds ++ df) c1 else .stuck) := A1
  by_cases hn : ds.length = n
  · rw [if_pos hn] at A1
    have hl := F.len _ _ (after_nonstuck A1)
    have p1 : Reps X.K I1 m1 vs ds := p1
    have p2 := Reps.append p1 (hd I1 m1)
    have r2 : Vals (vs ++ dv) (us ++ us0) := r.append hv
    exact run_gA F hr hgd (hb s1 us J1.kIn (by rw [← r2.length, p2.length]; exact hl)) tk J1 r2 R1 p2 A1
  · rw [if_neg hn] at A1
    exact A1.elim
/-- f(e, .., k = v, ..) -/
def mCBk (g : List D → Cs → R D) (gd : List D → List D → List D) (n j : Nat) (t tk : MA) : ME := fun l c => (t l c).bind fun xs c1 => (tk l c1).bind fun ys c2 => if xs.length = n ∧ ys.length = j then g (gd xs ys) c2 else .stuck
theorem me_callK {gu : List Value → List Value → List Value} {gV : List V → List V → List V} {gd : List D → List D → List D} {kws : List Keyword} (F : GFn X.prog X.w X.K X.mg X.base k f fd ps g) (hr : Room k X.A) (hgd : X.A.guards = some []) (hg : Gl X x) (hm : X.mg x = some (.ref f))
    (hk : PySem.W.keepIn X.K (.ref f) = true) (hb : KBn X.K fd ps n ks gu gV) (hd : ∀ I m vs zs ds es, Reps X.K I m vs ds → Reps X.K I m zs es → Reps X.K I m (gV vs zs) (gd ds es)) (tk : Takes X W)
    (ha : PA X (e :: es) (rdA X.K W ga)) (hkw : PK X kws (rdA X.K W gk)) (hall : (backToKw pos (keywordEach kws X.env)).all (·.1.isSome) = true := by rfl) (hks : (backToKw pos (keywordEach kws X.env)).filterMap (·.1) = ks := by rfl)
    (hdb : (x == ("__debug__" : Str)) = false := by decide) (he : starEach (e :: es) X.env = (false, eval e X.env) :: starEach es X.env := by rfl)
    (hpl : ((backTo pos (starEach (e :: es) X.env)).any (·.1) || (backToKw pos (keywordEach kws X.env)).any (·.1.isNone)) = false := by rfl) :
    PE X (.Call (.Name x p) (e :: es) kws pos) (rdE X.K W (mCBk g gd n ks.length ga gk)) := by
  refine ⟨fun pins s σ H Q J ⟨I, m, l, c, R, L, A⟩ => ?_⟩
  refine wpAny_Call_Name_kw (ld_glob J hg hm ?_ hdb)
  refine PySem.W.callWith_KW (h₀ := X.base) J.ok.mod.kin hk hall (thn (ha.run pos pins s σ H _ J ⟨I, m, l, c, R, L, After.bind (rep := rA X.K) A⟩) fun us s1 ⟨vs, H1, J1, r, I1, m1, c1, ds, E1, R1, p1, A1⟩ => ?_) hpl he
  refine thn (hkw.run pos pins s1 σ H1 _ J1 ⟨I1, m1, l, c1, R1, L.ext E1, After.bind (rep := rA X.K) A1⟩) fun ws s2 ⟨zs, H2, J2, rz, I2, m2, c2, es2, E2, R2, p2, A2⟩ => ⟨J2.kIn, ?_⟩
  rw [hks]
  have A2 : After (rD X.K) X.K I2 m2 H2 _ Q (if ds.length = n ∧ es2.length = ks.length then g (gd ds es2) c2 else .stuck) := A2
  have p1 : Reps X.K I1 m1 vs ds := p1
  have p2 : Reps X.K I2 m2 zs es2 := p2
  by_cases hn : ds.length = n ∧ es2.length = ks.length
  · rw [if_pos hn] at A2
    exact run_gA F hr hgd (hb.to s2 us ws J2.kIn (r.length.symm.trans (p1.length.trans hn.1)) (rz.length.symm.trans (p2.length.trans hn.2))) tk J2 (hb.rel r rz) R2 (hd _ _ _ _ _ _ (p1.ext E2) p2) A2
  · rw [if_neg hn] at A2
    exact A2.elim
theorem mk_nil : PK X [] (rdA X.K W aNil) := ⟨fun pos pins s σ H Q J ⟨I, m, l, c, R, L, A⟩ => pk_nil.run pos pins s σ H Q J (A.here R .nil)⟩
theorem mk_cons {nm : Option Str} {kpos : Pos} {kws : List Keyword} {fe : ME} (he : PE X e (rdE X.K W fe)) (ht : PK X kws (rdA X.K W gk)) : PK X (⟨nm, e, kpos⟩ :: kws) (rdA X.K W (aCons fe gk)) :=
  ⟨fun pos pins s σ H Q J ⟨I, m, l, c, R, L, A⟩ => (pk_cons he ht).run pos pins s σ H Q J
    ⟨I, m, l, c, R, L, After.mono (After.bind (rep := rD X.K) A) fun v1 H1 ⟨I1, m1, c1, d1, E1, R1, p1, A1⟩ =>
      ⟨I1, m1, l, c1, R1, L.ext E1, After.mono (After.bind (rep := rA X.K) A1) fun v2 H2 ⟨I2, m2, c2, d2, E2, R2, p2, A2⟩ => A2.here R2 (.cons (Rep.ext p1 E2) p2)⟩⟩⟩
end
end L2.Mi
namespace L2.Mi
open PySem PySem.Spec PyProof.Rows L2
/-! ### s.index(y), found -/
section
variable {X : Cx} {K : PySem.W.Frag}
def rIndexY : V → List V → Hp → VK → Prop := fun x xs H Q => ∃ (a b : Str) (k : Nat), x = .str a ∧ xs = [.str b] ∧ Txt.index0 a b = some k ∧ Q (.int (k : Nat)) H
theorem mt_indexY : MtR X "str.index" rIndexY := by
  intro pins s σ H x xs v us Q I rx rs h
  obtain ⟨a, b, k0, rfl, rfl, hy, w⟩ := h
  obtain ⟨t, rfl⟩ := rx
  cases rs with
  | cons r1 rs =>
    cases rs
    obtain ⟨u, rfl⟩ := r1
    cases q : Builtin.Str.occurrences a b 0 a.length 1 with
    | nil =>
      unfold Txt.index0 at hy
      rw [q] at hy
      cases hy
    | cons k rest =>
      unfold Txt.index0 at hy
      rw [q] at hy
      have e : k = k0 := by simpa using hy
      subst e
      exact PySem.SC.index q ⟨.int (k : Nat), H, I.tok _, ⟨_, rfl⟩, w⟩
def indexD : D → D → Cs → R D := fun d e c => match d, e with
  | .str a, .str b => match Txt.index0 a b with
    | some k => .ok (.int (k : Nat)) c
    | none => .stuck
  | _, _ => .stuck
theorem m1_index : M1S K rIndexY indexD := fun I H m c v1 v2 d1 d2 W Q R p1 p2 A => by
  cases p1 with
  | str a =>
    cases p2 with
    | str b =>
      have A2 : After (rD K) K I m H W Q (match Txt.index0 a b with
        | some k => .ok (.int (k : Nat)) c
        | none => .stuck) := A
      cases e : Txt.index0 a b with
      | none => rw [e] at A2; exact A2.elim
      | some k =>
        rw [e] at A2
        exact ⟨a, b, k, rfl, rfl, e, A2.here R (.int _)⟩
    | _ => exact A.elim
  | _ => cases p2 <;> exact A.elim
end
end L2.Mi

namespace L2.Mi
open PySem PySem.Spec PyProof.Rows L2

/-! ### what a computation comes to -/
def Ok {α : Type} (r : R α) (Q : α → Cs → Prop) : Prop := ∃ a c, r = .ok a c ∧ Q a c
theorem Ok.bind {α β : Type} {r : R α} {f : α → Cs → R β} {Q : β → Cs → Prop} (h : Ok r fun a c => Ok (f a c) Q) : Ok (r.bind f) Q := by
  obtain ⟨a, c, rfl, h⟩ := h
  exact h
theorem Ok.mono {α : Type} {r : R α} {Q Q' : α → Cs → Prop} (h : Ok r Q) (w : ∀ a c, Q a c → Q' a c) : Ok r Q' := by
  obtain ⟨a, c, e, h⟩ := h
  exact ⟨a, c, e, w a c h⟩
theorem Ok.of {α : Type} {r : R α} {Q : α → Cs → Prop} {a : α} {c : Cs} (e : r = .ok a c) (h : Q a c) : Ok r Q := ⟨a, c, e, h⟩
def OkS (r : RS) (Q : Fl → Cs → Prop) : Prop := ∃ f c, r = .go f c ∧ Q f c
theorem OkS.seq {α : Type} {r : R α} {l : Ls} {f : α → Cs → RS} {Q : Fl → Cs → Prop} (h : Ok r fun a c => OkS (f a c) Q) : OkS (r.seq l f) Q := by
  obtain ⟨a, c, rfl, h⟩ := h
  exact h
theorem OkS.mono {r : RS} {Q Q' : Fl → Cs → Prop} (h : OkS r Q) (w : ∀ a c, Q a c → Q' a c) : OkS r Q' := by
  obtain ⟨a, c, e, h⟩ := h
  exact ⟨a, c, e, w a c h⟩
theorem OkS.next {r : RS} {g : Ls → Cs → RS} {Q : Fl → Cs → Prop} (h : OkS r fun f c => match f with
  | .nx l => OkS (g l c) Q
  | f => Q f c) : OkS (r.next g) Q := by
  obtain ⟨f, c, rfl, h⟩ := h
  cases f with
  | nx l => exact h
  | rt d => exact ⟨_, _, rfl, h⟩
  | bk l => exact ⟨_, _, rfl, h⟩
  | ct l => exact ⟨_, _, rfl, h⟩
/-- a loop, by what holds between its turns -/
theorem OkS.for {g : MG} {f : MS} {Q : Fl → Cs → Prop} (P : List D → Ls → Cs → Prop) (hd : ∀ l c, P [] l c → Q (.nx l) c)
    (ht : ∀ d ds l c, P (d :: ds) l c → Ok (g d l c) fun l1 c1 => OkS (f l1 c1) fun fl c2 => match fl with
      | .nx l2 => P ds l2 c2
      | .ct l2 => P ds l2 c2
      | .bk l2 => Q (.nx l2) c2
      | .rt d => Q (.rt d) c2) : ∀ ds l c, P ds l c → OkS (forD g f ds l c) Q
  | [], l, c, h => ⟨_, _, rfl, hd l c h⟩
  | d :: ds, l, c, h => by
    obtain ⟨l1, c1, e1, fl, c2, e2, q⟩ := ht d ds l c h
    unfold forD
    rw [e1]
    simp only [R.seq_ok]
    rw [e2]
    cases fl with
    | nx l2 => exact OkS.for P hd ht ds l2 c2 q
    | ct l2 => exact OkS.for P hd ht ds l2 c2 q
    | bk l2 => exact ⟨_, _, rfl, q⟩
    | rt d => exact ⟨_, _, rfl, q⟩
theorem Ok.fun {n a : Nat} {b : MS} {ds : List D} {c : Cs} {Q : D → Cs → Prop} (hl : ds.length = a) (h : OkS (b (ds.map some ++ List.replicate (n - a) none) c) fun f c => match f with
  | .rt d => Q d c
  | .nx _ => Q .non c
  | _ => False) : Ok (mFun n a b ds c) Q := by
  obtain ⟨f, c', e, h⟩ := h
  unfold mFun
  rw [if_pos hl, e]
  cases f with
  | nx l => exact ⟨_, _, rfl, h⟩
  | rt d => exact ⟨_, _, rfl, h⟩
  | bk l => exact h.elim
  | ct l => exact h.elim

/-! ### rules, by combinator -/
section
variable {l : Ls} {c : Cs} {Q : D → Cs → Prop} {a b e : ME} {t : MA} {QS : Fl → Cs → Prop}
theorem ok_ret {α : Type} {d : α} {Q : α → Cs → Prop} (h : Q d c) : Ok (.ok d c) Q := ⟨_, _, rfl, h⟩
theorem ok_var {i : Nat} {d : D} (e : l[i]? = some (some d)) (h : Q d c) : Ok (mVar i l c) Q := ⟨d, c, by unfold mVar; rw [e], h⟩
theorem ok_c {d : D} (h : Q d c) : Ok (mC d l c) Q := ⟨d, c, rfl, h⟩
theorem ok_op {g : D → D → Cs → R D} (h : Ok (a l c) fun x c1 => Ok (b l c1) fun y c2 => Ok (g x y c2) Q) : Ok (mOp g a b l c) Q := Ok.bind (h.mono fun _ _ h => Ok.bind h)
theorem ok_un {g : D → Cs → R D} (h : Ok (a l c) fun x c1 => Ok (g x c1) Q) : Ok (mUn g a l c) Q := Ok.bind h
theorem ok_cb {g : List D → Cs → R D} (h : Ok (t l c) fun xs c1 => Ok (g xs c1) Q) : Ok (mCB g t l c) Q := Ok.bind h
theorem ok_anil {Q : List D → Cs → Prop} (h : Q [] c) : Ok (aNil l c) Q := ⟨_, _, rfl, h⟩
theorem ok_acons {Q : List D → Cs → Prop} (h : Ok (a l c) fun x c1 => Ok (t l c1) fun xs c2 => Q (x :: xs) c2) : Ok (aCons a t l c) Q := Ok.bind (h.mono fun _ _ h => Ok.bind (h.mono fun _ _ h => ⟨_, _, rfl, h⟩))
theorem ok_fits {α : Type} {n : Nat} {r : R α} {Q : α → Cs → Prop} (hn : n ≤ sizeLine) (h : Ok r Q) : Ok (fits n r) Q := by
  unfold fits
  rw [if_pos hn]
  exact h
theorem ok_lst (h : Ok (t l c) fun xs c1 => xs.length ≤ sizeLine ∧ Q (.lst xs) c1) : Ok (mLst t l c) Q := Ok.bind (h.mono fun _ _ h => ok_fits h.1 ⟨_, _, rfl, h.2⟩)
theorem ok_tup (h : Ok (t l c) fun xs c1 => xs.length ≤ sizeLine ∧ Q (.tup xs) c1) : Ok (mTup t l c) Q := Ok.bind (h.mono fun _ _ h => ok_fits h.1 ⟨_, _, rfl, h.2⟩)
theorem ok_lstM (h : Ok (t l c) fun xs c1 => xs.length ≤ sizeLine ∧ Q (.ref c1.length) (c1 ++ [.lst xs])) : Ok (mLstM t l c) Q := Ok.bind (h.mono fun _ _ h => ok_fits h.1 ⟨_, _, rfl, h.2⟩)
theorem ok_dict1 {k : Key} (h : Ok (a l c) fun d c1 => Q (.dct [(k, d)]) c1) : Ok (mDict1 k a l c) Q := Ok.bind (h.mono fun _ _ h => ⟨_, _, rfl, h⟩)
theorem ok_and (h : Ok (a l c) fun x c1 => ∃ k, x = .bl k ∧ (k = true → Ok (b l c1) Q) ∧ (k = false → Q (.bl false) c1)) : Ok (mAnd a b l c) Q := Ok.bind (h.mono fun x c1 ⟨k, e, h1, h2⟩ => by
  subst e
  cases k with
  | true => exact h1 rfl
  | false => exact ⟨_, _, rfl, h2 rfl⟩)
theorem ok_or (h : Ok (a l c) fun x c1 => ∃ k, x = .bl k ∧ (k = true → Q (.bl true) c1) ∧ (k = false → Ok (b l c1) Q)) : Ok (mOr a b l c) Q := Ok.bind (h.mono fun x c1 ⟨k, e, h1, h2⟩ => by
  subst e
  cases k with
  | true => exact ⟨_, _, rfl, h1 rfl⟩
  | false => exact h2 rfl)
theorem ok_not (h : Ok (a l c) fun x c1 => ∃ k, x = .bl k ∧ Q (.bl (!k)) c1) : Ok (mNot a l c) Q := Ok.bind (h.mono fun x c1 ⟨k, e, h⟩ => by subst e; exact ⟨_, _, rfl, h⟩)
theorem ok_chain {f g : D → D → Cs → R D} {d : ME} (h : Ok (a l c) fun x c1 => Ok (b l c1) fun y c2 => Ok (f x y c2) fun z c3 => ∃ k, z = .bl k ∧ (k = true → Ok (d l c3) fun w c4 => Ok (g y w c4) Q) ∧ (k = false → Q (.bl false) c3)) : Ok (mChain f g a b d l c) Q :=
  Ok.bind (h.mono fun x c1 h => Ok.bind (h.mono fun y c2 h => Ok.bind (h.mono fun z c3 ⟨k, e, h1, h2⟩ => by
    subst e
    cases k with
    | true => exact Ok.bind (h1 rfl)
    | false => exact ⟨_, _, rfl, h2 rfl⟩)))
theorem ok_t {Q : Bool → Cs → Prop} (h : Ok (a l c) fun x c1 => ∃ k, x = .bl k ∧ Q k c1) : Ok (mT a l c) Q := Ok.bind (h.mono fun x c1 ⟨k, e, h⟩ => by subst e; exact ⟨_, _, rfl, h⟩)
theorem ok_tnot {p : MT} {Q : Bool → Cs → Prop} (h : Ok (p l c) fun k c1 => Q (!k) c1) : Ok (tNotM p l c) Q := Ok.bind (h.mono fun _ _ h => ⟨_, _, rfl, h⟩)
theorem ok_tand {p q : MT} {Q : Bool → Cs → Prop} (h : Ok (p l c) fun k c1 => (k = true → Ok (q l c1) Q) ∧ (k = false → Q false c1)) : Ok (tAndM p q l c) Q := Ok.bind (h.mono fun k c1 ⟨h1, h2⟩ => by
  cases k with
  | true => exact h1 rfl
  | false => exact ⟨_, _, rfl, h2 rfl⟩)
theorem ok_tor {p q : MT} {Q : Bool → Cs → Prop} (h : Ok (p l c) fun k c1 => (k = true → Q true c1) ∧ (k = false → Ok (q l c1) Q)) : Ok (tOrM p q l c) Q := Ok.bind (h.mono fun k c1 ⟨h1, h2⟩ => by
  cases k with
  | true => exact ⟨_, _, rfl, h1 rfl⟩
  | false => exact h2 rfl)
theorem ok_if {p : MT} (h : Ok (p l c) fun k c1 => (k = true → Ok (a l c1) Q) ∧ (k = false → Ok (b l c1) Q)) : Ok (mIf p a b l c) Q := Ok.bind (h.mono fun k c1 ⟨h1, h2⟩ => by
  cases k with
  | true => exact h1 rfl
  | false => exact h2 rfl)
theorem ok_onone {Q : Option Int → Cs → Prop} (h : Q none c) : Ok (oNone l c) Q := ⟨_, _, rfl, h⟩
theorem ok_osome {Q : Option Int → Cs → Prop} (h : Ok (a l c) fun x c1 => ∃ i, x = .int i ∧ Q (some i) c1) : Ok (oSome a l c) Q := Ok.bind (h.mono fun x c1 ⟨k, e, h⟩ => by subst e; exact ⟨_, _, rfl, h⟩)
theorem ok_slice {p q : MO} (h : Ok (a l c) fun x c1 => Ok (p l c1) fun i c2 => Ok (q l c2) fun j c3 => Ok (sliceD x i j c3) Q) : Ok (mSlice a p q l c) Q := Ok.bind (h.mono fun _ _ h => Ok.bind (h.mono fun _ _ h => Ok.bind h))
theorem ok_m1 {g : D → D → Cs → R D} (h : Ok (a l c) fun x c1 => ∃ s, x = .str s ∧ Ok (b l c1) fun y c2 => Ok (g (.str s) y c2) Q) : Ok (mM1 g a b l c) Q := Ok.bind (h.mono fun x c1 ⟨s, e, h⟩ => by subst e; exact Ok.bind h)
theorem ok_frz (h : Ok (a l c) fun x c1 => ∃ k ds, x = .ref k ∧ c1[k]? = some (.lst ds) ∧ Q (.lst ds) (c1.set k (.frz (.lst ds)))) : Ok (mFrz a l c) Q := Ok.bind (h.mono fun x c1 ⟨k, ds, e, e2, h⟩ => by
  subst e
  refine ⟨_, _, ?_, h⟩
  simp only [frzD, e2])
theorem ok_ilst {Q : List D → Cs → Prop} (h : Ok (a l c) fun x c1 => (∃ ds, x = .lst ds ∧ Q ds c1) ∨ ∃ ds, x = .ro ds ∧ Q ds c1) : Ok (iLst a l c) Q := Ok.bind (h.mono fun x c1 h => by
  rcases h with ⟨ds, e, h⟩ | ⟨ds, e, h⟩ <;> (subst e; exact ⟨_, _, rfl, h⟩))
theorem ok_itup {Q : List D → Cs → Prop} (h : Ok (a l c) fun x c1 => ∃ ds, x = .tup ds ∧ Q ds c1) : Ok (iTup' a l c) Q := Ok.bind (h.mono fun x c1 ⟨s, e, h⟩ => by subst e; exact ⟨_, _, rfl, h⟩)
theorem ok_istr {Q : List D → Cs → Prop} (h : Ok (a l c) fun x c1 => ∃ s, x = .str s ∧ Q (chrs s) c1) : Ok (iStr' a l c) Q := Ok.bind (h.mono fun x c1 ⟨s, e, h⟩ => by subst e; exact ⟨_, _, rfl, h⟩)
theorem ok_r1 {Q : List D → Cs → Prop} (h : Ok (t l c) fun xs c1 => ∃ j, xs = [.int j] ∧ small62 j ∧ Q (rangeL 0 j.toNat) c1) : Ok (iR1 t l c) Q := Ok.bind (h.mono fun x c1 ⟨j, e, hj, h⟩ => by subst e; exact ⟨_, _, if_pos hj, h⟩)
theorem ok_r2 {Q : List D → Cs → Prop} (h : Ok (t l c) fun xs c1 => ∃ i j, xs = [.int i, .int j] ∧ small62 i ∧ small62 j ∧ Q (rangeL i (j - i).toNat) c1) : Ok (iR2 t l c) Q := Ok.bind (h.mono fun x c1 ⟨i, j, e, hi, hj, h⟩ => by subst e; exact ⟨_, _, if_pos ⟨hi, hj⟩, h⟩)
theorem ok_intC {C : Int → Int → Prop} [∀ i j, Decidable (C i j)] {g : Int → Int → Int} {i j : Int} (hc : C i j) (h : Q (.int (g i j)) c) : Ok (intC C g (.int i) (.int j) c) Q := ⟨_, _, if_pos hc, h⟩
/-- statements -/
theorem os_nil (h : QS (.nx l) c) : OkS (sNil l c) QS := ⟨_, _, rfl, h⟩
theorem os_brk (h : QS (.bk l) c) : OkS (sBreak l c) QS := ⟨_, _, rfl, h⟩
theorem os_cnt (h : QS (.ct l) c) : OkS (sCont l c) QS := ⟨_, _, rfl, h⟩
theorem os_seq {f g : MS} (h : OkS (f l c) fun fl c1 => match fl with
  | .nx l1 => OkS (g l1 c1) QS
  | fl => QS fl c1) : OkS (sSeq f g l c) QS := OkS.next h
theorem os_expr (h : Ok (a l c) fun _ c1 => QS (.nx l) c1) : OkS (sExpr a l c) QS := OkS.seq (h.mono fun _ _ h => ⟨_, _, rfl, h⟩)
theorem os_ret (h : Ok (a l c) fun d c1 => QS (.rt d) c1) : OkS (sRet a l c) QS := OkS.seq (h.mono fun _ _ h => ⟨_, _, rfl, h⟩)
theorem os_retn (h : QS (.rt .non) c) : OkS (sRetN l c) QS := ⟨_, _, rfl, h⟩
theorem os_if {p : MT} {f g : MS} (h : Ok (p l c) fun k c1 => (k = true → OkS (f l c1) QS) ∧ (k = false → OkS (g l c1) QS)) : OkS (sIf p f g l c) QS := OkS.seq (h.mono fun k c1 ⟨h1, h2⟩ => by
  cases k with
  | true => exact h1 rfl
  | false => exact h2 rfl)
theorem os_set {i : Nat} (h : Ok (a l c) fun d c1 => QS (.nx (l.set i (some d))) c1) : OkS (sSet i a l c) QS := OkS.seq (h.mono fun _ _ h => ⟨_, _, rfl, h⟩)
theorem os_asg {g : MG} (h : Ok (a l c) fun d c1 => Ok (g d l c1) fun l2 c2 => QS (.nx l2) c2) : OkS (sAsg a g l c) QS := OkS.seq (h.mono fun _ _ h => OkS.seq (h.mono fun _ _ h => ⟨_, _, rfl, h⟩))
theorem os_par {js : List Nat} (h : Ok (t l c) fun ds c1 => Ok (gNs js ds l c1) fun l2 c2 => QS (.nx l2) c2) : OkS (sPar js t l c) QS := OkS.seq (h.mono fun _ _ h => OkS.seq (h.mono fun _ _ h => ⟨_, _, rfl, h⟩))
theorem os_for {it : MI} {g : MG} {f : MS} (h : Ok (it l c) fun ds c1 => OkS (forD g f ds l c1) QS) : OkS (sFor it g f l c) QS := OkS.seq h
theorem ok_gn {i : Nat} {d : D} {Q : Ls → Cs → Prop} (h : Q (l.set i (some d)) c) : Ok (gN i d l c) Q := ⟨_, _, rfl, h⟩
/-- a comprehension, by its loop -/
theorem ok_lc {it : MI} {js : List Nat} {g : MG} {p : MT} (h : Ok (it l c) fun ds c1 => Ok (compD g p e (wipeL l js) ds [] c1) fun xs c2 => Q (.lst xs) c2) : Ok (mLc it js g p e l c) Q := Ok.bind (h.mono fun _ _ h => Ok.bind (h.mono fun _ _ h => ⟨_, _, rfl, h⟩))
/-- .. whose test and element change nothing -/
theorem comp_pure {g : MG} {p : MT} {lw : Ls} {P : D → Bool} {F : D → D} {lt : D → Ls} : ∀ (ds acc : List D), acc.length + ds.length ≤ sizeLine → (∀ d ∈ ds, g d lw c = .ok (lt d) c ∧ p (lt d) c = .ok (P d) c ∧ (P d = true → e (lt d) c = .ok (F d) c)) →
    compD g p e lw ds acc c = .ok (acc ++ (ds.filter P).map F) c
  | [], acc, _, _ => by simp [compD]
  | d :: ds, acc, hl, h => by
    obtain ⟨h1, h2, h3⟩ := h d List.mem_cons_self
    have hr := fun acc hl => comp_pure ds acc hl fun x hx => h x (List.mem_cons_of_mem _ hx)
    unfold compD
    rw [h1]
    simp only [R.nox_ok, R.bind_ok]
    rw [h2]
    simp only [R.nox_ok, R.bind_ok]
    simp only [List.length_cons] at hl
    cases q : P d with
    | true =>
      simp only []
      rw [h3 q]
      simp only [R.nox_ok, R.bind_ok]
      rw [if_pos (by omega), hr _ (by simp; omega)]
      simp [q]
    | false =>
      simp only []
      rw [hr _ (by omega)]
      simp [q]
/-- .. by what holds between its turns -/
theorem comp_ok {g : MG} {p : MT} {lw : Ls} {Q : List D → Cs → Prop} (I : List D → List D → Cs → Prop) (hd : ∀ acc c, I [] acc c → Q acc c)
    (ht : ∀ d ds acc c, I (d :: ds) acc c → Ok (g d lw c) fun l1 c1 => Ok (p l1 c1) fun k c2 => match k with
      | true => Ok (e l1 c2) fun x c3 => acc.length < sizeLine ∧ I ds (acc ++ [x]) c3
      | false => I ds acc c2) : ∀ ds acc c, I ds acc c → Ok (compD g p e lw ds acc c) Q
  | [], acc, c, h => ⟨_, _, rfl, hd acc c h⟩
  | d :: ds, acc, c, h => by
    obtain ⟨l1, c1, e1, k, c2, e2, q⟩ := ht d ds acc c h
    unfold compD
    rw [e1]
    simp only [R.nox_ok, R.bind_ok]
    rw [e2]
    simp only [R.nox_ok, R.bind_ok]
    cases k with
    | true =>
      obtain ⟨x, c3, e3, hz, q⟩ := q
      simp only []
      rw [e3]
      simp only [R.nox_ok, R.bind_ok]
      rw [if_pos hz]
      exact comp_ok I hd ht ds _ _ q
    | false => exact comp_ok I hd ht ds _ _ q
end

/-! ### the box that a law draws from -/
def Bx (c : Cs) (k : Nat) (n : Int) : Prop := ∃ a b z : Int, c[k]? = some (.lst [.int a, .int b, .int z]) ∧ 0 ≤ a ∧ 0 ≤ b ∧ b < 2147483629 ∧ 0 ≤ z ∧ z ≤ n

theorem ok_il {l : Ls} {c : Cs} {a : ME} {Q : List D → Cs → Prop} (h : Ok (a l c) fun x c1 => ∃ ds, x = .lst ds ∧ Q ds c1) : Ok (iLst a l c) Q := ok_ilst (h.mono fun _ _ h => Or.inl h)
theorem os_fcons {g : MG} {f : MS} {d : D} {ds : List D} {l : Ls} {c : Cs} {Q : Fl → Cs → Prop} (h : Ok (g d l c) fun l1 c1 => OkS (f l1 c1) fun fl c2 => match fl with
    | .nx l2 => OkS (forD g f ds l2 c2) Q
    | .ct l2 => OkS (forD g f ds l2 c2) Q
    | .bk l2 => Q (.nx l2) c2
    | .rt d => Q (.rt d) c2) : OkS (forD g f (d :: ds) l c) Q := by
  obtain ⟨l1, c1, e1, fl, c2, e2, q⟩ := h
  unfold forD
  rw [e1]
  simp only [R.seq_ok]
  rw [e2]
  cases fl with
  | nx l2 => exact q
  | ct l2 => exact q
  | bk l2 => exact ⟨_, _, rfl, q⟩
  | rt d => exact ⟨_, _, rfl, q⟩
theorem os_fnil {g : MG} {f : MS} {l : Ls} {c : Cs} {Q : Fl → Cs → Prop} (h : Q (.nx l) c) : OkS (forD g f [] l c) Q := ⟨_, _, rfl, h⟩
theorem rangeL_mem {lo : Int} {n : Nat} {d : D} (h : d ∈ rangeL lo n) : ∃ i : Nat, i < n ∧ d = .int (lo + i) := by
  obtain ⟨i, h1, rfl⟩ := List.mem_map.mp h
  exact ⟨i, List.mem_range.mp h1, rfl⟩
theorem rangeL_len {lo : Int} {n : Nat} : (rangeL lo n).length = n := by simp [rangeL]
/-! ### texts: their lengths, their signs -/
def SB (n : Nat) (s : Str) : Prop := s.length ≤ n ∧ ∀ k ∈ s.cps.toList, k < 1114112
theorem SB.mono {n m : Nat} {s : Str} (h : SB n s) (hm : n ≤ m) : SB m s := ⟨Nat.le_trans h.1 hm, h.2⟩
theorem SB.app {n m : Nat} {s t : Str} (h : SB n s) (g : SB m t) : SB (n + m) (s ++ t) := by
  refine ⟨?_, fun k hk => ?_⟩
  · rw [Str.length_append]
    exact Nat.add_le_add h.1 g.1
  · have e : (s ++ t).cps.toList = s.cps.toList ++ t.cps.toList := Array.toList_append
    rw [e] at hk
    rcases List.mem_append.mp hk with q | q
    · exact h.2 k q
    · exact g.2 k q
theorem SB.cut {n : Nat} {s : Str} (lo hi : Option Int) (h : SB n s) : SB n (cutS s lo hi) := by
  refine ⟨?_, fun k hk => h.2 k ?_⟩
  · have := h.1
    have e : (cutS s lo hi).length = ((s.cps.toList.drop (HT.sIx s.length 0 lo)).take (HT.sIx s.length s.length hi - HT.sIx s.length 0 lo)).length := List.size_toArray
    rw [e, List.length_take, List.length_drop]
    have e2 : s.cps.toList.length = s.length := Array.length_toList
    omega
  · unfold cutS at hk
    simp only [List.toList_toArray] at hk
    exact List.mem_of_mem_drop (List.mem_of_mem_take hk)
theorem SB.one {k : Nat} (h : k < 1114112) : SB 1 ⟨#[k]⟩ := ⟨Nat.le_refl _, fun x hx => by simp at hx; omega⟩
theorem ok_add_str {s t : Str} {c : Cs} {Q : D → Cs → Prop} (h : s.length + t.length ≤ sizeLine) (q : Q (.str (s ++ t)) c) : Ok (addD (.str s) (.str t) c) Q := ⟨_, _, if_pos h, q⟩
theorem ok_add_lst {s t : List D} {c : Cs} {Q : D → Cs → Prop} (h : s.length + t.length ≤ sizeLine) (q : Q (.lst (s ++ t)) c) : Ok (addD (.lst s) (.lst t) c) Q := ⟨_, _, if_pos h, q⟩
theorem ok_slice_str {s : Str} {i j : Option Int} {c : Cs} {Q : D → Cs → Prop} (h : s.length ≤ sizeLine) (q : Q (.str (cutS s i j)) c) : Ok (sliceD (.str s) i j c) Q := ⟨_, _, if_pos h, q⟩
theorem ok_item_lst {xs : List D} {i : Int} {c : Cs} {Q : D → Cs → Prop} (h0 : 0 ≤ i) (h : i < xs.length) (q : ∀ d, xs[i.toNat]? = some d → Q d c) : Ok (itemD (.lst xs) (.int i) c) Q := by
  have hl : i.toNat < xs.length := by omega
  refine ⟨xs[i.toNat], c, ?_, q _ (List.getElem?_eq_getElem hl)⟩
  simp [itemD, itL, atI, ixN, h0, h, List.getElem?_eq_getElem hl]
theorem ok_item_mem {xs : List D} {i : Int} {c : Cs} {Q : D → Cs → Prop} (h0 : 0 ≤ i) (h : i < xs.length) (q : ∀ d ∈ xs, Q d c) : Ok (itemD (.lst xs) (.int i) c) Q := ok_item_lst h0 h fun d hd => q d (List.mem_of_getElem? hd)
def intB : D → Bool
  | .int _ => true
  | _ => false
theorem ok_item_int {xs : List D} {i : Int} {c : Cs} {Q : D → Cs → Prop} (ha : xs.all intB = true) (h0 : 0 ≤ i) (h : i < xs.length) (q : ∀ z : Int, Q (.int z) c) : Ok (itemD (.lst xs) (.int i) c) Q := ok_item_mem h0 h fun d hd => by
  have z := List.all_eq_true.mp ha d hd
  cases d with
  | int i => exact q i
  | _ => cases z
theorem ok_item_str {s : Str} {i : Int} {c : Cs} {Q : D → Cs → Prop} (hs : s.length ≤ sizeLine) (h0 : 0 ≤ i) (h : i < s.length) (q : ∀ k ∈ s.cps.toList, Q (.str ⟨#[k]⟩) c) : Ok (itemD (.str s) (.int i) c) Q := by
  have e2 : s.cps.toList.length = s.length := Array.length_toList
  have hl : i.toNat < s.cps.toList.length := by omega
  have ha : atI s.cps.toList i = some s.cps.toList[i.toNat] := by
    simp only [atI, ixN, if_pos h0, e2, if_pos h, Option.bind_some, List.getElem?_eq_getElem hl]
  refine ⟨_, c, ?_, q _ (List.getElem_mem hl)⟩
  show fits s.length _ = _
  unfold fits
  rw [if_pos hs, ha]
theorem ok_len_str {s : Str} {c : Cs} {Q : D → Cs → Prop} (h : s.length ≤ sizeLine) (q : Q (.int s.length) c) : Ok (lenD [.str s] c) Q := ⟨_, _, by simp [lenD, lenC, h], q⟩
theorem ok_join {s : Str} {ys : List Str} {ds : List D} {c : Cs} {Q : D → Cs → Prop} (e : strsOf ds = some ys) (h : (ys.map (·.length)).sum + ys.length * s.length ≤ 16777216) (q : Q (.str (Txt.join s ys)) c) : Ok (joinD (.str s) (.lst ds) c) Q :=
  ⟨_, _, by simp only [joinD, joinL, e, if_pos h], q⟩
theorem strs_ones : ∀ ks : List Nat, strsOf (ks.map fun k => .str ⟨#[k]⟩) = some (ks.map fun k => ⟨#[k]⟩)
  | [] => rfl
  | k :: ks => by simp [strsOf, strs_ones ks]
theorem join_ones' (ks : List Nat) : Txt.join ("" : Str) (ks.map fun k => (⟨#[k]⟩ : Str)) = ⟨ks.toArray⟩ := by
  show Builtin.Str.glued _ _ = _
  rw [StrLaws.glued_eq_join]
  exact join_ones ks
section
variable {l : Ls} {c : Cs} {Q : D → Cs → Prop} {a b e : ME} {t tk : MA} {QS : Fl → Cs → Prop}
theorem ok_bm {g : D → List D → Cs → R D} (h : Ok (a l c) fun x c1 => isL x c1 = true ∧ Ok (t l c1) fun xs c2 => Ok (g x xs c2) Q) : Ok (mBM g a t l c) Q := Ok.bind (h.mono fun x c1 ⟨h1, h2⟩ => by
  rw [if_pos h1]
  exact Ok.bind h2)
theorem ok_gs {o i : ME} {d : D} {Q : Ls → Cs → Prop} (h : Ok (o l c) fun x c1 => Ok (i l c1) fun y c2 => Ok (putD x y d c2) fun _ c3 => Q l c3) : Ok (gS o i d l c) Q := Ok.bind (h.mono fun _ _ h => Ok.bind (h.mono fun _ _ h => Ok.bind (h.mono fun _ _ h => ⟨_, _, rfl, h⟩)))
theorem ok_cbd {g : List D → Cs → R D} {n : Nat} {df : List D} (h : Ok (t l c) fun xs c1 => xs.length = n ∧ Ok (g (xs ++ df) c1) Q) : Ok (mCBd g n df t l c) Q := Ok.bind (h.mono fun x c1 ⟨h1, h2⟩ => by
  rw [if_pos h1]
  exact h2)
theorem ok_cbk {g : List D → Cs → R D} {gd : List D → List D → List D} {n j : Nat} (h : Ok (t l c) fun xs c1 => Ok (tk l c1) fun ys c2 => (xs.length = n ∧ ys.length = j) ∧ Ok (g (gd xs ys) c2) Q) : Ok (mCBk g gd n j t tk l c) Q :=
  Ok.bind (h.mono fun x c1 h => Ok.bind (h.mono fun y c2 ⟨h1, h2⟩ => by
    rw [if_pos h1]
    exact h2))
theorem os_ifNm {i : Nat} {h : D → D → Cs → R D} {f g : MS} (q : Ok (a l c) fun x c1 => Ok (b (l.set i (some x)) c1) fun y c2 => Ok (h x y c2) fun z c3 => ∃ k, z = .bl k ∧ (k = true → OkS (f (l.set i (some x)) c3) QS) ∧ (k = false → OkS (g (l.set i (some x)) c3) QS)) :
    OkS (sIfNm i h a b f g l c) QS := OkS.seq (q.mono fun x c1 q => OkS.seq (q.mono fun y c2 q => OkS.seq (q.mono fun z c3 ⟨k, e, h1, h2⟩ => by
  subst e
  cases k with
  | true => exact h1 rfl
  | false => exact h2 rfl)))
theorem isL_ref {k : Nat} {xs : List D} (h : c[k]? = some (.lst xs)) : isL (.ref k) c = true := by
  have e : lstOf (.ref k) c = (match c[k]? with
    | some (.lst xs) => some xs
    | _ => none) := rfl
  unfold isL
  rw [e, h]
  rfl
theorem ok_append {k : Nat} {xs : List D} {y : D} (h : c[k]? = some (.lst xs)) (hz : xs.length < sizeLine) (q : Q .non (c.set k (.lst (xs ++ [y])))) : Ok (appendD (.ref k) [y] c) Q := by
  have e : appendD (.ref k) [y] c = (match c[k]? with
    | some (.lst xs) => if xs.length < sizeLine then .ok .non (c.set k (.lst (xs ++ [y]))) else .stuck
    | _ => .stuck) := rfl
  refine ⟨_, _, ?_, q⟩
  rw [e, h]
  exact if_pos hz
end
end L2.Mi

namespace L2.Lw
open PySem PySem.Spec PyProof.Rows L2 L2.Mi
def top (i : Nat) : Stmt := PySem.Challenge.pw_weavegraph_k04_words_and_numbers.main.body.getD i (.Pass ⟨0, 0, 0, 0⟩)
abbrev ssplit_words : Stmt := top 3
abbrev sparse_integer : Stmt := top 4
abbrev s_law_cell : Stmt := top 6
abbrev s_law_box : Stmt := top 7
abbrev s_law_take : Stmt := top 8
abbrev s_law_bent : Stmt := top 9
abbrev s_law_odd : Stmt := top 10
abbrev s_law_words : Stmt := top 11
abbrev s_law_spoilt : Stmt := top 12
abbrev s_law_due_words : Stmt := top 13
abbrev s_law_due_number : Stmt := top 14
abbrev s_law_digits : Stmt := top 15
abbrev slaw : Stmt := top 16
def csplit_words : MS := sSeq (sIf (tOrM (tNotM (mT (mCB isiD (aCons (mVar 0) (aCons (mC (.ty "str")) (aNil)))))) (mT (mOp (inX false) (mC (.str "\n")) (mVar 0)))) (sRet (mC .non)) (sNil)) (sSeq (sSet 1 (mM1 splitD (mVar 0) (mC (.str " ")))) (sRet (mIf (mT (mOp (inX false) (mC (.str "")) (mVar 1))) (mC .non) (mVar 1))))
abbrev gsplit_words : List D → Cs → R D := mFun 2 1 csplit_words
theorem scsplit_words : FnScope ["text", "words"] ["text"] (defScope ssplit_words) := ⟨rfl, rfl, rfl, by decide +kernel, rfl, by decide +kernel, by decide +kernel⟩
def cparse_integer : MS := sSeq (sIf (tOrM (tNotM (mT (mCB isiD (aCons (mVar 0) (aCons (mC (.ty "str")) (aNil)))))) (tOrM (mT (mOp eqX (mVar 0) (mC (.str "")))) (tNotM (mT (mCB allD (aCons (mLc (iStr' (mVar 0)) [3] (gN 3) (tYesM) (mOp (inX false) (mVar 3) (mC (.str "0123456789")))) (aNil))))))) (sRet (mC .non)) (sNil)) (sSeq (sIf (tAndM (mT (mOp eqX (mOp itemD (mVar 0) (mC (.int 0))) (mC (.str "0")))) (mT (mOp neX (mVar 0) (mC (.str "0"))))) (sRet (mC .non)) (sNil)) (sSeq (sIfNm 2 gtD (mCB intFD (aCons (mVar 0) (aNil))) (mVar 1) (sRet (mC .non)) (sNil)) (sRet (mVar 2))))
abbrev gparse_integer : List D → Cs → R D := mFun 4 2 cparse_integer
theorem scparse_integer : FnScope ["text", "high", "number", "sign"] ["text", "high"] (defScope sparse_integer) := ⟨rfl, rfl, rfl, by decide +kernel, rfl, by decide +kernel, by decide +kernel⟩
def c_law_cell : MS := sSeq (sIf (mT (mOp ltD (mVar 1) (mCB lenD (aCons (mVar 0) (aNil))))) (sRet (mOp itemD (mVar 0) (mVar 1))) (sNil)) (sRet (mOp addD (mOp mulI (mC (.int 7919)) (mVar 1)) (mC (.int 613))))
abbrev g_law_cell : List D → Cs → R D := mFun 2 2 c_law_cell
theorem sc_law_cell : FnScope ["_law_script", "_law_k"] ["_law_script", "_law_k"] (defScope s_law_cell) := ⟨rfl, rfl, rfl, by decide +kernel, rfl, by decide +kernel, by decide +kernel⟩
def c_law_box : MS := sRet (mLstM (aCons (mCB max2 (aCons (mC (.int 0)) (aCons (mOp subD (mVar 0) (mOp powI (mC (.int 10)) (mC (.int 18)))) (aNil)))) (aCons (mOp modI (mVar 0) (mC (.int 2147483629))) (aCons (mC (.int 0)) (aNil)))))
abbrev g_law_box : List D → Cs → R D := mFun 1 1 c_law_box
theorem sc_law_box : FnScope ["_law_cell_here"] ["_law_cell_here"] (defScope s_law_box) := ⟨rfl, rfl, rfl, by decide +kernel, rfl, by decide +kernel, by decide +kernel⟩
def c_law_take : MS := sSeq (sIf (mT (mOp gtD (mOp itemD (mVar 0) (mC (.int 0))) (mC (.int 0)))) (sSeq (sSet 3 (mOp modI (mOp itemD (mVar 0) (mC (.int 0))) (mVar 1))) (sSeq (sAsg (mOp divI (mOp itemD (mVar 0) (mC (.int 0))) (mVar 1)) (gS (mVar 0) (mC (.int 0)))) (sRet (mVar 3)))) (sNil)) (sSeq (sAsg (mOp addD (mOp itemD (mVar 0) (mC (.int 2))) (mC (.int 1))) (gS (mVar 0) (mC (.int 2)))) (sSeq (sSet 2 (mOp modI (mOp powI (mOp addD (mOp addD (mOp itemD (mVar 0) (mC (.int 1))) (mOp mulI (mC (.int 7907)) (mOp itemD (mVar 0) (mC (.int 2))))) (mC (.int 613))) (mC (.int 5))) (mC (.int 2147483647)))) (sSeq (sSet 2 (mOp modI (mOp powI (mOp addD (mVar 2) (mOp mulI (mC (.int 104723)) (mOp itemD (mVar 0) (mC (.int 2))))) (mC (.int 3))) (mC (.int 2147483587)))) (sRet (mOp modI (mOp divI (mVar 2) (mC (.int 16))) (mVar 1))))))
abbrev g_law_take : List D → Cs → R D := mFun 4 2 c_law_take
theorem sc_law_take : FnScope ["_law_box_here", "_law_many", "_law_mixed", "_law_digit"] ["_law_box_here", "_law_many"] (defScope s_law_take) := ⟨rfl, rfl, rfl, by decide +kernel, rfl, by decide +kernel, by decide +kernel⟩
def c_law_bent : MS := sSeq (sSet 2 (mOp addD (mOp addD (mC (.str " !")) (mC (.str "\""))) (mC (.str "#$&'()*+,-./0123456789:;<=>?@ABCDEFGHIJKLMNOPQRSTUVWXYZ")))) (sSeq (sSet 2 (mOp addD (mVar 2) (mC (.str "[\\]^_`abcdefghijklmnopqrstuvwxyz{|}~\n")))) (sSeq (sPar [4, 5, 6] (aCons (mCB g_law_take (aCons (mVar 0) (aCons (mOp addD (mCB lenD (aCons (mVar 1) (aNil))) (mC (.int 1))) (aNil)))) (aCons (mCB g_law_take (aCons (mVar 0) (aCons (mC (.int 4)) (aNil)))) (aCons (mOp itemD (mVar 2) (mCB g_law_take (aCons (mVar 0) (aCons (mCB lenD (aCons (mVar 2) (aNil))) (aNil))))) (aNil))))) (sSeq (sSet 3 (mLst (aCons (mVar 1) (aCons (mOp addD (mOp addD (mSlice (mVar 1) (oNone) (oSome (mVar 4))) (mVar 6)) (mSlice (mVar 1) (oSome (mVar 4)) (oNone))) (aCons (mOp addD (mSlice (mVar 1) (oNone) (oSome (mVar 4))) (mSlice (mVar 1) (oSome (mOp addD (mVar 4) (mC (.int 1)))) (oNone))) (aNil)))))) (sRet (mOp itemD (mOp addD (mVar 3) (mLst (aCons (mOp addD (mOp addD (mSlice (mVar 1) (oNone) (oSome (mVar 4))) (mVar 6)) (mSlice (mVar 1) (oSome (mOp addD (mVar 4) (mC (.int 1)))) (oNone))) (aNil)))) (mVar 5))))))
abbrev g_law_bent : List D → Cs → R D := mFun 7 2 c_law_bent
theorem sc_law_bent : FnScope ["_law_box_here", "_law_text", "_law_signs", "_law_ways", "_law_spot", "_law_way", "_law_sign"] ["_law_box_here", "_law_text"] (defScope s_law_bent) := ⟨rfl, rfl, rfl, by decide +kernel, rfl, by decide +kernel, by decide +kernel⟩
def c_law_odd : MS := sSeq (sSet 1 (mLst (aCons (mC .non) (aCons (mC (.bl true)) (aCons (mC (.bl false)) (aCons (mUn negD (mC (.int 1))) (aCons (mC (.int 0)) (aCons (mC (.int 1)) (aCons (mC (.int 8)) (aCons (mOp powI (mC (.int 10)) (mC (.int 29))) (aCons (mC (.str "")) (aCons (mC (.str "p")) (aCons (mC (.str "p8")) (aCons (mC (.str "warp")) (aCons (mLst (aNil)) (aCons (mTup (aNil)) (aCons (mC (.dct [])) (aCons (mDict1 (.inr "a") (mC (.int 1))) (aCons (mLst (aCons (mC .non) (aNil))) (aCons (mTup (aCons (mC (.int 0)) (aNil))) (aNil))))))))))))))))))))) (sSeq (sSet 1 (mOp addD (mVar 1) (mLst (aCons (mLst (aCons (mC (.str "warp")) (aCons (mC (.int 0)) (aNil)))) (aCons (mTup (aCons (mC (.str "warp")) (aNil))) (aCons (mTup (aCons (mC (.str "warp")) (aCons (mC (.bl true)) (aNil)))) (aCons (mTup (aCons (mC (.str "weft")) (aCons (mUn negD (mC (.int 1))) (aNil)))) (aCons (mTup (aCons (mC (.str "warp")) (aCons (mC (.str "0")) (aNil)))) (aCons (mTup (aCons (mC (.str "warp")) (aCons (mC (.int 0)) (aCons (mC (.int 0)) (aNil))))) (aCons (mTup (aCons (mC (.str "fill")) (aCons (mC (.int 0)) (aNil)))) (aNil))))))))))) (sSeq (sSet 1 (mOp addD (mVar 1) (mLst (aCons (mTup (aCons (mC (.int 0)) (aCons (mC (.int 8)) (aNil)))) (aCons (mTup (aCons (mC (.bl true)) (aCons (mC (.int 0)) (aNil)))) (aCons (mLst (aCons (mC (.int 0)) (aCons (mC (.int 0)) (aNil)))) (aCons (mTup (aCons (mC (.int 0)) (aCons (mC (.int 0)) (aCons (mC (.int 0)) (aNil))))) (aCons (mTup (aCons (mC (.str "0")) (aCons (mC (.int 0)) (aNil)))) (aCons (mLst (aCons (mLst (aCons (mC (.str "warp")) (aCons (mC (.int 0)) (aNil)))) (aNil))) (aCons (mLst (aCons (mTup (aCons (mC (.int 0)) (aCons (mC (.int 0)) (aNil)))) (aNil))) (aCons (mTup (aCons (mC (.int 0)) (aCons (mUn negD (mC (.int 1))) (aNil)))) (aCons (mTup (aCons (mC (.str "warp")) (aCons (mC (.int 8)) (aNil)))) (aNil))))))))))))) (sSeq (sSet 1 (mOp addD (mVar 1) (mLst (aCons (mTup (aCons (mC (.str "weft")) (aCons (mC (.bl true)) (aNil)))) (aCons (mTup (aCons (mC (.str "warp")) (aCons (mUn negD (mC (.int 1))) (aNil)))) (aCons (mTup (aCons (mC (.str "weft")) (aCons (mC (.str "0")) (aNil)))) (aCons (mTup (aCons (mUn negD (mC (.int 1))) (aCons (mC (.int 0)) (aNil)))) (aCons (mTup (aCons (mC (.int 0)) (aCons (mC (.bl true)) (aNil)))) (aCons (mTup (aCons (mC (.int 0)) (aCons (mC (.str "0")) (aNil)))) (aCons (mTup (aCons (mC (.int 0)) (aCons (mOp powI (mC (.int 10)) (mC (.int 29))) (aNil)))) (aNil))))))))))) (sSeq (sSet 1 (mOp addD (mVar 1) (mLst (aCons (mTup (aCons (mLst (aCons (mC (.str "warp")) (aNil))) (aCons (mC (.int 0)) (aNil)))) (aCons (mTup (aCons (mC (.dct [])) (aCons (mC (.int 0)) (aNil)))) (aCons (mTup (aCons (mTup (aCons (mC (.str "warp")) (aNil))) (aCons (mC (.int 0)) (aNil)))) (aCons (mTup (aCons (mC (.str "warp")) (aCons (mLst (aNil)) (aNil)))) (aCons (mC (.str "p0 ")) (aCons (mC (.str "01")) (aCons (mLst (aCons (mC (.str "01")) (aNil))) (aNil))))))))))) (sRet (mOp itemD (mVar 1) (mCB g_law_take (aCons (mVar 0) (aCons (mCB lenD (aCons (mVar 1) (aNil))) (aNil))))))))))
abbrev g_law_odd : List D → Cs → R D := mFun 2 1 c_law_odd
theorem sc_law_odd : FnScope ["_law_box_here", "_law_some"] ["_law_box_here"] (defScope s_law_odd) := ⟨rfl, rfl, rfl, by decide +kernel, rfl, by decide +kernel, by decide +kernel⟩
def c_law_words : MS := sSeq (sSet 1 (mOp addD (mOp addD (mC (.str "!")) (mC (.str "\""))) (mC (.str "#$&'()*+,-./0123456789:;<=>?@ABCDEFGHIJKLMNOPQRSTUVWXYZ")))) (sSeq (sSet 1 (mOp addD (mVar 1) (mC (.str "[\\]^_`abcdefghijklmnopqrstuvwxyz{|}~")))) (sSeq (sSet 2 (mLstM (aNil))) (sSeq (sFor (iR1 (aCons (mOp itemD (mLst (aCons (mCB g_law_take (aCons (mVar 0) (aCons (mC (.int 6)) (aNil)))) (aCons (mC (.int 19)) (aNil)))) (mCB intFD (aCons (mOp eqX (mCB g_law_take (aCons (mVar 0) (aCons (mC (.int 6)) (aNil)))) (mC (.int 0))) (aNil)))) (aNil))) (gN 3) (sExpr (mBM appendD (mVar 2) (aCons (mM1 joinD (mC (.str "")) (mLc (iR1 (aCons (mOp addD (mC (.int 1)) (mCB g_law_take (aCons (mVar 0) (aCons (mC (.int 4)) (aNil))))) (aNil))) [4] (gN 4) (tYesM) (mOp itemD (mVar 1) (mCB g_law_take (aCons (mVar 0) (aCons (mCB lenD (aCons (mVar 1) (aNil))) (aNil))))))) (aNil))))) (sRet (mFrz (mVar 2))))))
abbrev g_law_words : List D → Cs → R D := mFun 5 1 c_law_words
theorem sc_law_words : FnScope ["_law_box_here", "_law_signs", "_law_found", "_law_turn", "_law_k"] ["_law_box_here"] (defScope s_law_words) := ⟨rfl, rfl, rfl, by decide +kernel, rfl, by decide +kernel, by decide +kernel⟩
def c_law_spoilt : MS := sSeq (sPar [2, 3] (aCons (mCB g_law_take (aCons (mVar 0) (aCons (mOp addD (mCB lenD (aCons (mVar 1) (aNil))) (mC (.int 1))) (aNil)))) (aCons (mCB g_law_take (aCons (mVar 0) (aCons (mC (.int 4)) (aNil)))) (aNil)))) (sRet (mIf (mT (mOp eqX (mVar 3) (mC (.int 0)))) (mVar 1) (mOp addD (mOp addD (mSlice (mVar 1) (oNone) (oSome (mVar 2))) (mOp itemD (mLst (aCons (mC (.str " ")) (aCons (mC (.str "\n")) (aCons (mC (.str "  ")) (aNil))))) (mOp subD (mVar 3) (mC (.int 1))))) (mSlice (mVar 1) (oSome (mVar 2)) (oNone)))))
abbrev g_law_spoilt : List D → Cs → R D := mFun 4 2 c_law_spoilt
theorem sc_law_spoilt : FnScope ["_law_box_here", "_law_text", "_law_spot", "_law_way"] ["_law_box_here", "_law_text"] (defScope s_law_spoilt) := ⟨rfl, rfl, rfl, by decide +kernel, rfl, by decide +kernel, by decide +kernel⟩
def c_law_due_words : MS := sSeq (sIf (tOrM (tNotM (mT (mCB isiD (aCons (mVar 0) (aCons (mC (.ty "str")) (aNil)))))) (mT (mOp eqX (mVar 0) (mC (.str ""))))) (sRet (mC .non)) (sNil)) (sSeq (sSet 1 (mLstM (aCons (mC (.str "")) (aNil)))) (sSeq (sFor (iStr' (mVar 0)) (gN 2) (sSeq (sIf (mT (mOp eqX (mVar 2) (mC (.str "\n")))) (sRet (mC .non)) (sNil)) (sIf (mT (mOp eqX (mVar 2) (mC (.str " ")))) (sExpr (mBM appendD (mVar 1) (aCons (mC (.str "")) (aNil)))) (sAsg (mOp addD (mOp itemD (mVar 1) (mUn negD (mC (.int 1)))) (mVar 2)) (gS (mVar 1) (mUn negD (mC (.int 1)))))))) (sRet (mIf (mT (mOp (inX false) (mC (.str "")) (mVar 1))) (mC .non) (mVar 1)))))
abbrev g_law_due_words : List D → Cs → R D := mFun 3 1 c_law_due_words
theorem sc_law_due_words : FnScope ["_law_value", "_law_found", "_law_sign"] ["_law_value"] (defScope s_law_due_words) := ⟨rfl, rfl, rfl, by decide +kernel, rfl, by decide +kernel, by decide +kernel⟩
def c_law_due_number : MS := sSeq (sIf (tOrM (tNotM (mT (mCB isiD (aCons (mVar 0) (aCons (mC (.ty "str")) (aNil)))))) (tOrM (mT (mOp eqX (mVar 0) (mC (.str "")))) (mT (mOp neX (mLc (iStr' (mVar 0)) [3] (gN 3) (mT (mOp (inX true) (mVar 3) (mC (.str "0123456789")))) (mVar 3)) (mLst (aNil)))))) (sRet (mC .non)) (sNil)) (sSeq (sSet 2 (mC (.int 0))) (sSeq (sFor (iStr' (mVar 0)) (gN 3) (sSet 2 (mOp addD (mOp mulI (mC (.int 10)) (mVar 2)) (mM1 indexD (mC (.str "0123456789")) (mVar 3))))) (sRet (mIf (tAndM (mT (mOp eqX (mCB lenD (aCons (mCB strFD (aCons (mVar 2) (aNil))) (aNil))) (mCB lenD (aCons (mVar 0) (aNil))))) (mT (mOp leD (mVar 2) (mVar 1)))) (mVar 2) (mC .non)))))
abbrev g_law_due_number : List D → Cs → R D := mFun 4 2 c_law_due_number
theorem sc_law_due_number : FnScope ["_law_value", "_law_limit", "_law_number", "_law_sign"] ["_law_value", "_law_limit"] (defScope s_law_due_number) := ⟨rfl, rfl, rfl, by decide +kernel, rfl, by decide +kernel, by decide +kernel⟩
def c_law_digits : MS := sSeq (sSet 1 (mOp itemD (mLst (aCons (mC (.int 1)) (aCons (mC (.int 2)) (aCons (mC (.int 6)) (aCons (mC (.int 7)) (aCons (mC (.int 30)) (aCons (mOp addD (mC (.int 1)) (mCB g_law_take (aCons (mVar 0) (aCons (mC (.int 30)) (aNil))))) (aCons (mOp addD (mC (.int 1)) (mCB g_law_take (aCons (mVar 0) (aCons (mC (.int 9)) (aNil))))) (aNil))))))))) (mCB g_law_take (aCons (mVar 0) (aCons (mC (.int 7)) (aNil)))))) (sSeq (sSet 2 (mM1 joinD (mC (.str "")) (mLc (iR1 (aCons (mVar 1) (aNil))) [5] (gN 5) (tYesM) (mOp itemD (mC (.str "0123456789")) (mCB g_law_take (aCons (mVar 0) (aCons (mC (.int 10)) (aNil)))))))) (sSeq (sSet 3 (mCB g_law_take (aCons (mVar 0) (aCons (mC (.int 6)) (aNil))))) (sSeq (sIf (mT (mOp ltD (mVar 3) (mC (.int 3)))) (sRet (mVar 2)) (sNil)) (sSeq (sSet 4 (mOp itemD (mLst (aCons (mC (.str "999999")) (aCons (mC (.str "1000000")) (aCons (mC (.str "0")) (aCons (mC (.str "00")) (aCons (mC (.str "+7")) (aCons (mC (.str " 7")) (aCons (mC (.str "7\n")) (aCons (mC (.str "\n7")) (aCons (mC (.str "1_0")) (aCons (mC (.str "0_1")) (aCons (mC (.str "-0")) (aNil))))))))))))) (mCB g_law_take (aCons (mVar 0) (aCons (mC (.int 11)) (aNil)))))) (sRet (mOp itemD (mLst (aCons (mVar 4) (aCons (mOp addD (mC (.str "-")) (mVar 2)) (aCons (mCB g_law_bent (aCons (mVar 0) (aCons (mVar 2) (aNil)))) (aNil))))) (mOp subD (mVar 3) (mC (.int 3)))))))))
abbrev g_law_digits : List D → Cs → R D := mFun 6 1 c_law_digits
theorem sc_law_digits : FnScope ["_law_box_here", "_law_many", "_law_text", "_law_way", "_law_near", "_law_k"] ["_law_box_here"] (defScope s_law_digits) := ⟨rfl, rfl, rfl, by decide +kernel, rfl, by decide +kernel, by decide +kernel⟩
def claw : MS := sSeq (sFor (iR1 (aCons (mCB max2 (aCons (mC (.int 2)) (aCons (mCB min2 (aCons (mC (.int 6)) (aCons (mCB lenD (aCons (mVar 0) (aNil))) (aNil)))) (aNil)))) (aNil))) (gN 1) (sSeq (sSet 2 (mCB g_law_box (aCons (mCB g_law_cell (aCons (mVar 0) (aCons (mVar 1) (aNil)))) (aNil)))) (sFor (iR1 (aCons (mC (.int 8)) (aNil))) (gN 3) (sSeq (sFor (iLst (mLst (aCons (mCB g_law_spoilt (aCons (mVar 2) (aCons (mM1 joinD (mC (.str " ")) (mCB g_law_words (aCons (mVar 2) (aNil)))) (aNil)))) (aCons (mCB g_law_odd (aCons (mVar 2) (aNil))) (aNil))))) (gN 4) (sFor (iR1 (aCons (mC (.int 2)) (aNil))) (gN 6) (sSeq (sPar [7, 8] (aCons (mCB gsplit_words (aCons (mVar 4) (aNil))) (aCons (mCB g_law_due_words (aCons (mVar 4) (aNil))) (aNil)))) (sSeq (sIf (mT (mOp neX (mCB reprX (aCons (mVar 7) (aNil))) (mCB reprX (aCons (mVar 8) (aNil))))) (sRet (mC (.bl false))) (sNil)) (sIf (mT (mOp isntD (mVar 7) (mC .non))) (sExpr (mBM appendD (mVar 7) (aCons (mC (.str "more")) (aNil)))) (sNil)))))) (sSeq (sSet 5 (mOp itemD (mLst (aCons (mC (.int 0)) (aCons (mC (.int 9)) (aCons (mC (.int 39)) (aCons (mC (.int 999999)) (aCons (mOp powI (mC (.int 10)) (mC (.int 29))) (aCons (mUn negD (mC (.int 1))) (aCons (mCB g_law_take (aCons (mVar 2) (aCons (mOp powI (mC (.int 10)) (mC (.int 6))) (aNil)))) (aNil))))))))) (mCB g_law_take (aCons (mVar 2) (aCons (mC (.int 7)) (aNil)))))) (sFor (iLst (mLst (aCons (mCB g_law_digits (aCons (mVar 2) (aNil))) (aCons (mCB strFD (aCons (mVar 5) (aNil))) (aCons (mCB strFD (aCons (mOp addD (mVar 5) (mC (.int 1))) (aNil))) (aCons (mCB g_law_odd (aCons (mVar 2) (aNil))) (aNil))))))) (gN 4) (sSeq (sIf (mT (mOp neX (mCB reprX (aCons (mCBk gparse_integer (fun us ws => us ++ ws) 1 1 (aCons (mVar 4) (aNil)) (aCons (mVar 5) (aNil))) (aNil))) (mCB reprX (aCons (mCB g_law_due_number (aCons (mVar 4) (aCons (mVar 5) (aNil)))) (aNil))))) (sRet (mC (.bl false))) (sNil)) (sIf (mT (mOp neX (mCB reprX (aCons (mCBd gparse_integer 1 [.int 999999] (aCons (mVar 4) (aNil))) (aNil))) (mCB reprX (aCons (mCB g_law_due_number (aCons (mVar 4) (aCons (mC (.int 999999)) (aNil)))) (aNil))))) (sRet (mC (.bl false))) (sNil))))))))) (sRet (mC (.bl true)))
abbrev glaw : List D → Cs → R D := mFun 9 1 claw
theorem sclaw : FnScope ["_law_script", "_law_k", "_law_box_here", "_law_turn", "_law_value", "_law_limit", "_law_lap", "_law_found", "_law_due"] ["_law_script"] (defScope slaw) := ⟨rfl, rfl, rfl, by decide +kernel, rfl, by decide +kernel, by decide +kernel⟩
theorem kwreps_kk1_highparse_integer {K : PySem.W.Frag} : ∀ I m vs zs ds es, Reps K I m vs ds → Reps K I m zs es → Reps K I m ((fun us ws => us ++ ws) vs zs) ((fun us ws => us ++ ws) ds es) := fun _ _ _ _ _ _ p q => Reps.append p q
/-- what the top leaves -/
structure Txt (K : PySem.W.Frag) (mg : Str → Option Value) where
  b_all : mg "all" = none
  b_int : mg "int" = none
  b_isinstance : mg "isinstance" = none
  b_len : mg "len" = none
  b_max : mg "max" = none
  b_min : mg "min" = none
  b_range : mg "range" = none
  b_repr : mg "repr" = none
  b_str : mg "str" = none
  cDIGITS : IsC K mg "DIGITS" (.str "0123456789")
  fsplit_words : Own K mg "split_words" ssplit_words ["text"]
  fparse_integer : OwnD K mg "parse_integer" sparse_integer [] [("high", .int 999999)]
  kk1_highparse_integer : KBn K fparse_integer.fd ["text", "high"] 1 ["high"] (fun us ws => us ++ ws) (fun us ws => us ++ ws)
  dd1parse_integer : ∃ us0 : List Value, Vals [.int 999999] us0 ∧ Binds K fparse_integer.fd ["text", "high"] us0
  f_law_cell : Own K mg "_law_cell" s_law_cell ["_law_script", "_law_k"]
  f_law_box : Own K mg "_law_box" s_law_box ["_law_cell_here"]
  f_law_take : Own K mg "_law_take" s_law_take ["_law_box_here", "_law_many"]
  f_law_bent : Own K mg "_law_bent" s_law_bent ["_law_box_here", "_law_text"]
  f_law_odd : Own K mg "_law_odd" s_law_odd ["_law_box_here"]
  f_law_words : Own K mg "_law_words" s_law_words ["_law_box_here"]
  f_law_spoilt : Own K mg "_law_spoilt" s_law_spoilt ["_law_box_here", "_law_text"]
  f_law_due_words : Own K mg "_law_due_words" s_law_due_words ["_law_value"]
  f_law_due_number : Own K mg "_law_due_number" s_law_due_number ["_law_value", "_law_limit"]
  f_law_digits : Own K mg "_law_digits" s_law_digits ["_law_box_here"]
  flaw : Own K mg "law" slaw ["_law_script"]
section
variable {P : Program} {w : World} {K : PySem.W.Frag} {mg : Str → Option Value} {base : Heap}
theorem ksplit_words (T : Txt K mg) : GFn P w K mg base 1 T.fsplit_words.a T.fsplit_words.fd ["text"] gsplit_words := by
  refine gfn_of (k := 0) T.fsplit_words.F scsplit_words fun cdv A outer s H E hr hgd => ?_
  have scN := scsplit_words.nd
  have tk := takes_of (X := cxOf (CX P w) P w K mg base ["text", "words"] "split_words" (defScope ssplit_words) T.fsplit_words.a cdv A outer s H E) (E := E) rfl rfl rfl rfl
  exact ms_cons (ms_if (PW.pt (mw_or (mt_not (mt_val (me_cb (pe_callB call_isiA (by rfl) T.b_isinstance bt_isinstance (ma_cons (me_var (pv 0)) (ma_cons (me_c (pe_bltn (v := .ty "str") (by rfl) T.b_str bt_str rfl) (fun _ _ => .ty _)) (ma_nil)))) cs_isi))) (mw_or1 (mt_cmp op_inA os_inX (me_str) (me_var (pv 0)) (by with_unfolding_all rfl))))) (ms_one (ms_ret (me_non))) (ms_nil)) (ms_cons (ms_set (i := 1) scN rfl (by first | exact Or.inl rfl | exact Or.inr rfl) (me_m1 (pe_split (me_var (pv 0)) (me_str)) m1_split)) (ms_one (ms_ret (me_if (mt_cmp op_inA os_inX (me_str) (me_var (pv 1)) (by with_unfolding_all rfl)) (me_non) (me_var (pv 1))))))
theorem kparse_integer (T : Txt K mg) : GFn P w K mg base 1 T.fparse_integer.a T.fparse_integer.fd ["text", "high"] gparse_integer := by
  refine gfn_ofD (k := 0) T.fparse_integer.F scparse_integer fun cdv A outer s H E hr hgd => ?_
  have scN := scparse_integer.nd
  have tk := takes_of (X := cxOf (CX P w) P w K mg base ["text", "high", "number", "sign"] "parse_integer" (defScope sparse_integer) T.fparse_integer.a cdv A outer s H E) (E := E) rfl rfl rfl rfl
  exact ms_cons (ms_if (PW.pt (mw_or (mt_not (mt_val (me_cb (pe_callB call_isiA (by rfl) T.b_isinstance bt_isinstance (ma_cons (me_var (pv 0)) (ma_cons (me_c (pe_bltn (v := .ty "str") (by rfl) T.b_str bt_str rfl) (fun _ _ => .ty _)) (ma_nil)))) cs_isi))) (mw_or (mt_cmp (op_eqY hr.units) os_eqX (me_var (pv 0)) (me_str) (nomark _)) (mw_or1 (mt_not (mt_val (me_cb (pe_callB (cr_all rfl) (by rfl) T.b_all bt_all (ma_cons (PEi (pe_lc (own := [("sign", 3)]) rfl scN (mi_str (me_var (pv 0))) (blkOk_by (N := ["text", "high", "number", "sign"]) (sc := defScope sparse_integer) (by decide +kernel)) (fun _ _ _ _ _ => pg_name (i := 3) scN rfl (by first | exact Or.inl rfl | exact Or.inr rfl)) (fun _ _ _ _ _ => mts_nil) (fun _ _ _ _ _ => me_cmp op_inA os_inX (me_var (pv 3)) (me_const (by rfl) T.cDIGITS) (by with_unfolding_all rfl))) (fun _ _ _ h => lc_read (good_name (by decide)) (rg_name) h)) (ma_nil))) cs_all))))))) (ms_one (ms_ret (me_non))) (ms_nil)) (ms_cons (ms_if (PW.pt (mw_and (mt_cmp (op_eqY hr.units) os_eqX (me_ix ix_seq os_item (me_var (pv 0)) (me_int) (fun _ _ => rfl)) (me_str) (nomark _)) (mw_and1 (mt_cmp (op_neY hr.units) os_neX (me_var (pv 0)) (me_str) (nomark _))))) (ms_one (ms_ret (me_non))) (ms_nil)) (ms_cons (ms_ifNm (i := 2) scN rfl (by first | exact Or.inl rfl | exact Or.inr rfl) op_gt os_cmpI (me_cb (pe_callTy call_intF (by rfl) T.b_int bt_int (ma_cons (me_var (pv 0)) (ma_nil))) cs_intF) (me_var (pv 1)) (ms_one (ms_ret (me_non))) (ms_nil)) (ms_one (ms_ret (me_var (pv 2))))))
theorem k_law_cell (T : Txt K mg) : GFn P w K mg base 1 T.f_law_cell.a T.f_law_cell.fd ["_law_script", "_law_k"] g_law_cell := by
  refine gfn_of (k := 0) T.f_law_cell.F sc_law_cell fun cdv A outer s H E hr hgd => ?_
  have scN := sc_law_cell.nd
  have tk := takes_of (X := cxOf (CX P w) P w K mg base ["_law_script", "_law_k"] "_law_cell" (defScope s_law_cell) T.f_law_cell.a cdv A outer s H E) (E := E) rfl rfl rfl rfl
  exact ms_cons (ms_if (mt_cmp op_ltA os_lt (me_var (pv 1)) (me_cb (pe_callB call_len (by rfl) T.b_len bt_len (ma_cons (me_var (pv 0)) (ma_nil))) cs_len) (nomark _)) (ms_one (ms_ret (me_ix ix_seq os_item (me_var (pv 0)) (me_var (pv 1)) (fun _ _ => rfl)))) (ms_nil)) (ms_one (ms_ret (me_op op_addA os_add (me_op op_mul os_mulI (me_int) (me_var (pv 1))) (me_int))))
theorem k_law_box (T : Txt K mg) : GFn P w K mg base 1 T.f_law_box.a T.f_law_box.fd ["_law_cell_here"] g_law_box := by
  refine gfn_of (k := 0) T.f_law_box.F sc_law_box fun cdv A outer s H E hr hgd => ?_
  have scN := sc_law_box.nd
  have tk := takes_of (X := cxOf (CX P w) P w K mg base ["_law_cell_here"] "_law_box" (defScope s_law_box) T.f_law_box.a cdv A outer s H E) (E := E) rfl rfl rfl rfl
  exact ms_one (ms_ret (me_lstM (ma_cons (me_cb (pe_callB (call_max2 rfl) (by rfl) T.b_max bt_max (ma_cons (me_int) (ma_cons (me_op op_sub os_sub (me_var (pv 0)) (me_op op_pow os_powI (me_int) (me_int))) (ma_nil)))) cs_max2) (ma_cons (me_op op_modN os_modI (me_var (pv 0)) (me_int)) (ma_cons (me_int) (ma_nil))))))
theorem k_law_take (T : Txt K mg) : GFn P w K mg base 1 T.f_law_take.a T.f_law_take.fd ["_law_box_here", "_law_many"] g_law_take := by
  refine gfn_of (k := 0) T.f_law_take.F sc_law_take fun cdv A outer s H E hr hgd => ?_
  have scN := sc_law_take.nd
  have tk := takes_of (X := cxOf (CX P w) P w K mg base ["_law_box_here", "_law_many", "_law_mixed", "_law_digit"] "_law_take" (defScope s_law_take) T.f_law_take.a cdv A outer s H E) (E := E) rfl rfl rfl rfl
  exact ms_cons (ms_if (mt_cmp op_gt os_cmpI (me_ix ix_seq os_item (me_var (pv 0)) (me_int) (fun _ _ => rfl)) (me_int) (nomark _)) (ms_cons (ms_set (i := 3) scN rfl (by first | exact Or.inl rfl | exact Or.inr rfl) (me_op op_modN os_modI (me_ix ix_seq os_item (me_var (pv 0)) (me_int) (fun _ _ => rfl)) (me_var (pv 1)))) (ms_cons (ms_asg (me_op op_fdivN os_divI (me_ix ix_seq os_item (me_var (pv 0)) (me_int) (fun _ _ => rfl)) (me_var (pv 1))) (mg_sub (pg_sub (me_var (pv 0)) (me_int) set_list))) (ms_one (ms_ret (me_var (pv 3)))))) (ms_nil)) (ms_cons (ms_asg (me_op op_addA os_add (me_ix ix_seq os_item (me_var (pv 0)) (me_int) (fun _ _ => rfl)) (me_int)) (mg_sub (pg_sub (me_var (pv 0)) (me_int) set_list))) (ms_cons (ms_set (i := 2) scN rfl (by first | exact Or.inl rfl | exact Or.inr rfl) (me_op op_modN os_modI (me_op op_pow os_powI (me_op op_addA os_add (me_op op_addA os_add (me_ix ix_seq os_item (me_var (pv 0)) (me_int) (fun _ _ => rfl)) (me_op op_mul os_mulI (me_int) (me_ix ix_seq os_item (me_var (pv 0)) (me_int) (fun _ _ => rfl)))) (me_int)) (me_int)) (me_int))) (ms_cons (ms_set (i := 2) scN rfl (by first | exact Or.inl rfl | exact Or.inr rfl) (me_op op_modN os_modI (me_op op_pow os_powI (me_op op_addA os_add (me_var (pv 2)) (me_op op_mul os_mulI (me_int) (me_ix ix_seq os_item (me_var (pv 0)) (me_int) (fun _ _ => rfl)))) (me_int)) (me_int))) (ms_one (ms_ret (me_op op_modN os_modI (me_op op_fdivN os_divI (me_var (pv 2)) (me_int)) (me_var (pv 1))))))))
theorem k_law_bent (T : Txt K mg) : GFn P w K mg base 2 T.f_law_bent.a T.f_law_bent.fd ["_law_box_here", "_law_text"] g_law_bent := by
  refine gfn_of (k := 1) T.f_law_bent.F sc_law_bent fun cdv A outer s H E hr hgd => ?_
  have scN := sc_law_bent.nd
  have tk := takes_of (X := cxOf (CX P w) P w K mg base ["_law_box_here", "_law_text", "_law_signs", "_law_ways", "_law_spot", "_law_way", "_law_sign"] "_law_bent" (defScope s_law_bent) T.f_law_bent.a cdv A outer s H E) (E := E) rfl rfl rfl rfl
  exact ms_cons (ms_set (i := 2) scN rfl (by first | exact Or.inl rfl | exact Or.inr rfl) (me_op op_addA os_add (me_op op_addA os_add (me_str) (me_str)) (me_str))) (ms_cons (ms_set (i := 2) scN rfl (by first | exact Or.inl rfl | exact Or.inr rfl) (me_op op_addA os_add (me_var (pv 2)) (me_str))) (ms_cons (ms_par3 (i := 4) (j := 5) (k := 6) rfl scN rfl rfl rfl (by decide) (by decide) (by decide) rfl rfl rfl (ma_cons (me_call (k_law_take T) (hr.mono (by decide)) hgd (by rfl) T.f_law_take.mgf T.f_law_take.F.kp T.f_law_take.b tk (ma_cons (me_var (pv 0)) (ma_cons (me_op op_addA os_add (me_cb (pe_callB call_len (by rfl) T.b_len bt_len (ma_cons (me_var (pv 1)) (ma_nil))) cs_len) (me_int)) (ma_nil)))) (ma_cons (me_call (k_law_take T) (hr.mono (by decide)) hgd (by rfl) T.f_law_take.mgf T.f_law_take.F.kp T.f_law_take.b tk (ma_cons (me_var (pv 0)) (ma_cons (me_int) (ma_nil)))) (ma_cons (me_ix ix_seq os_item (me_var (pv 2)) (me_call (k_law_take T) (hr.mono (by decide)) hgd (by rfl) T.f_law_take.mgf T.f_law_take.F.kp T.f_law_take.b tk (ma_cons (me_var (pv 0)) (ma_cons (me_cb (pe_callB call_len (by rfl) T.b_len bt_len (ma_cons (me_var (pv 2)) (ma_nil))) cs_len) (ma_nil)))) (fun _ _ => rfl)) (ma_nil)))) (by rfl)) (ms_cons (ms_set (i := 3) scN rfl (by first | exact Or.inl rfl | exact Or.inr rfl) (me_lst (ma_cons (me_var (pv 1)) (ma_cons (me_op op_addA os_add (me_op op_addA os_add (me_slice (me_var (pv 1)) (mo_none) (mo_some (me_var (pv 4)))) (me_var (pv 6))) (me_slice (me_var (pv 1)) (mo_some (me_var (pv 4))) (mo_none))) (ma_cons (me_op op_addA os_add (me_slice (me_var (pv 1)) (mo_none) (mo_some (me_var (pv 4)))) (me_slice (me_var (pv 1)) (mo_some (me_op op_addA os_add (me_var (pv 4)) (me_int))) (mo_none))) (ma_nil)))))) (ms_one (ms_ret (me_ix ix_seq os_item (me_op op_addA os_add (me_var (pv 3)) (me_lst (ma_cons (me_op op_addA os_add (me_op op_addA os_add (me_slice (me_var (pv 1)) (mo_none) (mo_some (me_var (pv 4)))) (me_var (pv 6))) (me_slice (me_var (pv 1)) (mo_some (me_op op_addA os_add (me_var (pv 4)) (me_int))) (mo_none))) (ma_nil)))) (me_var (pv 5)) (fun _ _ => rfl)))))))
theorem k_law_odd (T : Txt K mg) : GFn P w K mg base 2 T.f_law_odd.a T.f_law_odd.fd ["_law_box_here"] g_law_odd := by
  refine gfn_of (k := 1) T.f_law_odd.F sc_law_odd fun cdv A outer s H E hr hgd => ?_
  have scN := sc_law_odd.nd
  have tk := takes_of (X := cxOf (CX P w) P w K mg base ["_law_box_here", "_law_some"] "_law_odd" (defScope s_law_odd) T.f_law_odd.a cdv A outer s H E) (E := E) rfl rfl rfl rfl
  exact ms_cons (ms_set (i := 1) scN rfl (by first | exact Or.inl rfl | exact Or.inr rfl) (me_lst (ma_cons (me_non) (ma_cons (me_bl) (ma_cons (me_bl) (ma_cons (me_un un_neg us_neg (me_int)) (ma_cons (me_int) (ma_cons (me_int) (ma_cons (me_int) (ma_cons (me_op op_pow os_powI (me_int) (me_int)) (ma_cons (me_str) (ma_cons (me_str) (ma_cons (me_str) (ma_cons (me_str) (ma_cons (me_lst (ma_nil)) (ma_cons (me_tup (ma_nil)) (ma_cons (me_dict0) (ma_cons (me_dict1 (me_int)) (ma_cons (me_lst (ma_cons (me_non) (ma_nil))) (ma_cons (me_tup (ma_cons (me_int) (ma_nil))) (ma_nil))))))))))))))))))))) (ms_cons (ms_set (i := 1) scN rfl (by first | exact Or.inl rfl | exact Or.inr rfl) (me_op op_addA os_add (me_var (pv 1)) (me_lst (ma_cons (me_lst (ma_cons (me_str) (ma_cons (me_int) (ma_nil)))) (ma_cons (me_tup (ma_cons (me_str) (ma_nil))) (ma_cons (me_tup (ma_cons (me_str) (ma_cons (me_bl) (ma_nil)))) (ma_cons (me_tup (ma_cons (me_str) (ma_cons (me_un un_neg us_neg (me_int)) (ma_nil)))) (ma_cons (me_tup (ma_cons (me_str) (ma_cons (me_str) (ma_nil)))) (ma_cons (me_tup (ma_cons (me_str) (ma_cons (me_int) (ma_cons (me_int) (ma_nil))))) (ma_cons (me_tup (ma_cons (me_str) (ma_cons (me_int) (ma_nil)))) (ma_nil))))))))))) (ms_cons (ms_set (i := 1) scN rfl (by first | exact Or.inl rfl | exact Or.inr rfl) (me_op op_addA os_add (me_var (pv 1)) (me_lst (ma_cons (me_tup (ma_cons (me_int) (ma_cons (me_int) (ma_nil)))) (ma_cons (me_tup (ma_cons (me_bl) (ma_cons (me_int) (ma_nil)))) (ma_cons (me_lst (ma_cons (me_int) (ma_cons (me_int) (ma_nil)))) (ma_cons (me_tup (ma_cons (me_int) (ma_cons (me_int) (ma_cons (me_int) (ma_nil))))) (ma_cons (me_tup (ma_cons (me_str) (ma_cons (me_int) (ma_nil)))) (ma_cons (me_lst (ma_cons (me_lst (ma_cons (me_str) (ma_cons (me_int) (ma_nil)))) (ma_nil))) (ma_cons (me_lst (ma_cons (me_tup (ma_cons (me_int) (ma_cons (me_int) (ma_nil)))) (ma_nil))) (ma_cons (me_tup (ma_cons (me_int) (ma_cons (me_un un_neg us_neg (me_int)) (ma_nil)))) (ma_cons (me_tup (ma_cons (me_str) (ma_cons (me_int) (ma_nil)))) (ma_nil))))))))))))) (ms_cons (ms_set (i := 1) scN rfl (by first | exact Or.inl rfl | exact Or.inr rfl) (me_op op_addA os_add (me_var (pv 1)) (me_lst (ma_cons (me_tup (ma_cons (me_str) (ma_cons (me_bl) (ma_nil)))) (ma_cons (me_tup (ma_cons (me_str) (ma_cons (me_un un_neg us_neg (me_int)) (ma_nil)))) (ma_cons (me_tup (ma_cons (me_str) (ma_cons (me_str) (ma_nil)))) (ma_cons (me_tup (ma_cons (me_un un_neg us_neg (me_int)) (ma_cons (me_int) (ma_nil)))) (ma_cons (me_tup (ma_cons (me_int) (ma_cons (me_bl) (ma_nil)))) (ma_cons (me_tup (ma_cons (me_int) (ma_cons (me_str) (ma_nil)))) (ma_cons (me_tup (ma_cons (me_int) (ma_cons (me_op op_pow os_powI (me_int) (me_int)) (ma_nil)))) (ma_nil))))))))))) (ms_cons (ms_set (i := 1) scN rfl (by first | exact Or.inl rfl | exact Or.inr rfl) (me_op op_addA os_add (me_var (pv 1)) (me_lst (ma_cons (me_tup (ma_cons (me_lst (ma_cons (me_str) (ma_nil))) (ma_cons (me_int) (ma_nil)))) (ma_cons (me_tup (ma_cons (me_dict0) (ma_cons (me_int) (ma_nil)))) (ma_cons (me_tup (ma_cons (me_tup (ma_cons (me_str) (ma_nil))) (ma_cons (me_int) (ma_nil)))) (ma_cons (me_tup (ma_cons (me_str) (ma_cons (me_lst (ma_nil)) (ma_nil)))) (ma_cons (me_str) (ma_cons (me_str) (ma_cons (me_lst (ma_cons (me_str) (ma_nil))) (ma_nil))))))))))) (ms_one (ms_ret (me_ix ix_seq os_item (me_var (pv 1)) (me_call (k_law_take T) (hr.mono (by decide)) hgd (by rfl) T.f_law_take.mgf T.f_law_take.F.kp T.f_law_take.b tk (ma_cons (me_var (pv 0)) (ma_cons (me_cb (pe_callB call_len (by rfl) T.b_len bt_len (ma_cons (me_var (pv 1)) (ma_nil))) cs_len) (ma_nil)))) (fun _ _ => rfl))))))))
theorem k_law_words (T : Txt K mg) : GFn P w K mg base 2 T.f_law_words.a T.f_law_words.fd ["_law_box_here"] g_law_words := by
  refine gfn_of (k := 1) T.f_law_words.F sc_law_words fun cdv A outer s H E hr hgd => ?_
  have scN := sc_law_words.nd
  have tk := takes_of (X := cxOf (CX P w) P w K mg base ["_law_box_here", "_law_signs", "_law_found", "_law_turn", "_law_k"] "_law_words" (defScope s_law_words) T.f_law_words.a cdv A outer s H E) (E := E) rfl rfl rfl rfl
  exact ms_cons (ms_set (i := 1) scN rfl (by first | exact Or.inl rfl | exact Or.inr rfl) (me_op op_addA os_add (me_op op_addA os_add (me_str) (me_str)) (me_str))) (ms_cons (ms_set (i := 1) scN rfl (by first | exact Or.inl rfl | exact Or.inr rfl) (me_op op_addA os_add (me_var (pv 1)) (me_str))) (ms_cons (ms_set (i := 2) scN rfl (by first | exact Or.inl rfl | exact Or.inr rfl) (me_lstM (ma_nil))) (ms_cons (ms_for (passes_of rfl) rfl (mi_r1 (pi_range1 (by rfl) T.b_range (ma_cons (me_ix ix_seq os_item (me_lst (ma_cons (me_call (k_law_take T) (hr.mono (by decide)) hgd (by rfl) T.f_law_take.mgf T.f_law_take.F.kp T.f_law_take.b tk (ma_cons (me_var (pv 0)) (ma_cons (me_int) (ma_nil)))) (ma_cons (me_int) (ma_nil)))) (me_cb (pe_callTy call_intF (by rfl) T.b_int bt_int (ma_cons (me_cmp (op_eqY hr.units) os_eqX (me_call (k_law_take T) (hr.mono (by decide)) hgd (by rfl) T.f_law_take.mgf T.f_law_take.F.kp T.f_law_take.b tk (ma_cons (me_var (pv 0)) (ma_cons (me_int) (ma_nil)))) (me_int) (nomark _)) (ma_nil))) cs_intF) (fun _ _ => rfl)) (ma_nil)))) (mg_name (i := 3) scN rfl (by first | exact Or.inl rfl | exact Or.inr rfl)) (ms_one (ms_expr (me_bm (pe_bm PySem.F.plainAttrs_list PySem.F.slot_list_append PySem.F.type_list_append mt_append (me_var (pv 2)) (ma_cons (me_m1 (pe_join (me_str) (PEi (pe_lc (own := [("_law_k", 4)]) rfl scN (mi_r1 (pi_range1 (by rfl) T.b_range (ma_cons (me_op op_addA os_add (me_int) (me_call (k_law_take T) (hr.mono (by decide)) hgd (by rfl) T.f_law_take.mgf T.f_law_take.F.kp T.f_law_take.b tk (ma_cons (me_var (pv 0)) (ma_cons (me_int) (ma_nil))))) (ma_nil)))) (blkOk_by (N := ["_law_box_here", "_law_signs", "_law_found", "_law_turn", "_law_k"]) (sc := defScope s_law_words) (by decide +kernel)) (fun _ _ _ _ _ => pg_name (i := 4) scN rfl (by first | exact Or.inl rfl | exact Or.inr rfl)) (fun _ _ _ _ _ => mts_nil) (fun _ _ _ _ _ => me_ix ix_seq os_item (me_var (pv 1)) (me_call (k_law_take T) (hr.mono (by decide)) hgd (by rfl) T.f_law_take.mgf T.f_law_take.F.kp T.f_law_take.b takesW0 (ma_cons (me_var (pv 0)) (ma_cons (me_cb (pe_callB call_len (by rfl) T.b_len bt_len (ma_cons (me_var (pv 1)) (ma_nil))) cs_len) (ma_nil)))) (fun _ _ => rfl))) (fun _ _ _ h => lc_read (good_name (by decide)) (rg_name) h))) m1_join) (ma_nil))) meth_append)))) (ms_one (ms_ret (me_frz (me_var (pv 2))))))))
theorem k_law_spoilt (T : Txt K mg) : GFn P w K mg base 2 T.f_law_spoilt.a T.f_law_spoilt.fd ["_law_box_here", "_law_text"] g_law_spoilt := by
  refine gfn_of (k := 1) T.f_law_spoilt.F sc_law_spoilt fun cdv A outer s H E hr hgd => ?_
  have scN := sc_law_spoilt.nd
  have tk := takes_of (X := cxOf (CX P w) P w K mg base ["_law_box_here", "_law_text", "_law_spot", "_law_way"] "_law_spoilt" (defScope s_law_spoilt) T.f_law_spoilt.a cdv A outer s H E) (E := E) rfl rfl rfl rfl
  exact ms_cons (ms_par2 (i := 2) (j := 3) rfl scN rfl rfl (by decide) rfl rfl (ma_cons (me_call (k_law_take T) (hr.mono (by decide)) hgd (by rfl) T.f_law_take.mgf T.f_law_take.F.kp T.f_law_take.b tk (ma_cons (me_var (pv 0)) (ma_cons (me_op op_addA os_add (me_cb (pe_callB call_len (by rfl) T.b_len bt_len (ma_cons (me_var (pv 1)) (ma_nil))) cs_len) (me_int)) (ma_nil)))) (ma_cons (me_call (k_law_take T) (hr.mono (by decide)) hgd (by rfl) T.f_law_take.mgf T.f_law_take.F.kp T.f_law_take.b tk (ma_cons (me_var (pv 0)) (ma_cons (me_int) (ma_nil)))) (ma_nil))) (by rfl)) (ms_one (ms_ret (me_if (mt_cmp (op_eqY hr.units) os_eqX (me_var (pv 3)) (me_int) (nomark _)) (me_var (pv 1)) (me_op op_addA os_add (me_op op_addA os_add (me_slice (me_var (pv 1)) (mo_none) (mo_some (me_var (pv 2)))) (me_ix ix_seq os_item (me_lst (ma_cons (me_str) (ma_cons (me_str) (ma_cons (me_str) (ma_nil))))) (me_op op_sub os_sub (me_var (pv 3)) (me_int)) (fun _ _ => rfl))) (me_slice (me_var (pv 1)) (mo_some (me_var (pv 2))) (mo_none))))))
theorem k_law_due_words (T : Txt K mg) : GFn P w K mg base 1 T.f_law_due_words.a T.f_law_due_words.fd ["_law_value"] g_law_due_words := by
  refine gfn_of (k := 0) T.f_law_due_words.F sc_law_due_words fun cdv A outer s H E hr hgd => ?_
  have scN := sc_law_due_words.nd
  have tk := takes_of (X := cxOf (CX P w) P w K mg base ["_law_value", "_law_found", "_law_sign"] "_law_due_words" (defScope s_law_due_words) T.f_law_due_words.a cdv A outer s H E) (E := E) rfl rfl rfl rfl
  exact ms_cons (ms_if (PW.pt (mw_or (mt_not (mt_val (me_cb (pe_callB call_isiA (by rfl) T.b_isinstance bt_isinstance (ma_cons (me_var (pv 0)) (ma_cons (me_c (pe_bltn (v := .ty "str") (by rfl) T.b_str bt_str rfl) (fun _ _ => .ty _)) (ma_nil)))) cs_isi))) (mw_or1 (mt_cmp (op_eqY hr.units) os_eqX (me_var (pv 0)) (me_str) (nomark _))))) (ms_one (ms_ret (me_non))) (ms_nil)) (ms_cons (ms_set (i := 1) scN rfl (by first | exact Or.inl rfl | exact Or.inr rfl) (me_lstM (ma_cons (me_str) (ma_nil)))) (ms_cons (ms_for (passes_of rfl) rfl (mi_str (me_var (pv 0))) (mg_name (i := 2) scN rfl (by first | exact Or.inl rfl | exact Or.inr rfl)) (ms_cons (ms_if (mt_cmp (op_eqY hr.units) os_eqX (me_var (pv 2)) (me_str) (nomark _)) (ms_one (ms_ret (me_non))) (ms_nil)) (ms_one (ms_if (mt_cmp (op_eqY hr.units) os_eqX (me_var (pv 2)) (me_str) (nomark _)) (ms_one (ms_expr (me_bm (pe_bm PySem.F.plainAttrs_list PySem.F.slot_list_append PySem.F.type_list_append mt_append (me_var (pv 1)) (ma_cons (me_str) (ma_nil))) meth_append))) (ms_one (ms_asg (me_op op_addA os_add (me_ix ix_seq os_item (me_var (pv 1)) (me_un un_neg us_neg (me_int)) (fun _ _ => rfl)) (me_var (pv 2))) (mg_sub (pg_sub (me_var (pv 1)) (me_un un_neg us_neg (me_int)) set_list)))))))) (ms_one (ms_ret (me_if (mt_cmp op_inA os_inX (me_str) (me_var (pv 1)) (by with_unfolding_all rfl)) (me_non) (me_var (pv 1)))))))
theorem k_law_due_number (T : Txt K mg) : GFn P w K mg base 1 T.f_law_due_number.a T.f_law_due_number.fd ["_law_value", "_law_limit"] g_law_due_number := by
  refine gfn_of (k := 0) T.f_law_due_number.F sc_law_due_number fun cdv A outer s H E hr hgd => ?_
  have scN := sc_law_due_number.nd
  have tk := takes_of (X := cxOf (CX P w) P w K mg base ["_law_value", "_law_limit", "_law_number", "_law_sign"] "_law_due_number" (defScope s_law_due_number) T.f_law_due_number.a cdv A outer s H E) (E := E) rfl rfl rfl rfl
  exact ms_cons (ms_if (PW.pt (mw_or (mt_not (mt_val (me_cb (pe_callB call_isiA (by rfl) T.b_isinstance bt_isinstance (ma_cons (me_var (pv 0)) (ma_cons (me_c (pe_bltn (v := .ty "str") (by rfl) T.b_str bt_str rfl) (fun _ _ => .ty _)) (ma_nil)))) cs_isi))) (mw_or (mt_cmp (op_eqY hr.units) os_eqX (me_var (pv 0)) (me_str) (nomark _)) (mw_or1 (mt_cmp (op_neY hr.units) os_neX (PEi (pe_lc (own := [("_law_sign", 3)]) rfl scN (mi_str (me_var (pv 0))) (blkOk_by (N := ["_law_value", "_law_limit", "_law_number", "_law_sign"]) (sc := defScope s_law_due_number) (by decide +kernel)) (fun _ _ _ _ _ => pg_name (i := 3) scN rfl (by first | exact Or.inl rfl | exact Or.inr rfl)) (fun _ _ _ _ _ => mts_one (mt_cmp op_notinA os_inX (me_var (pv 3)) (me_str) (by with_unfolding_all rfl))) (fun _ _ _ _ _ => me_var (pv 3))) (fun _ _ _ h => lc_read (good_name (by decide)) (rg_name) h)) (me_lst (ma_nil)) (nomark _)))))) (ms_one (ms_ret (me_non))) (ms_nil)) (ms_cons (ms_set (i := 2) scN rfl (by first | exact Or.inl rfl | exact Or.inr rfl) (me_int)) (ms_cons (ms_for (passes_of rfl) rfl (mi_str (me_var (pv 0))) (mg_name (i := 3) scN rfl (by first | exact Or.inl rfl | exact Or.inr rfl)) (ms_one (ms_set (i := 2) scN rfl (by first | exact Or.inl rfl | exact Or.inr rfl) (me_op op_addA os_add (me_op op_mul os_mulI (me_int) (me_var (pv 2))) (me_m1 (pe_m1 PySem.F.slot_str_index PySem.F.type_str_index mt_indexY (me_str) (me_var (pv 3))) m1_index))))) (ms_one (ms_ret (me_if (PW.pt (mw_and (mt_cmp (op_eqY hr.units) os_eqX (me_cb (pe_callB call_len (by rfl) T.b_len bt_len (ma_cons (me_cb (pe_callTy call_str_int (by rfl) T.b_str bt_str (ma_cons (me_var (pv 2)) (ma_nil))) cs_strF) (ma_nil))) cs_len) (me_cb (pe_callB call_len (by rfl) T.b_len bt_len (ma_cons (me_var (pv 0)) (ma_nil))) cs_len) (nomark _)) (mw_and1 (mt_cmp op_leA os_le (me_var (pv 2)) (me_var (pv 1)) (nomark _))))) (me_var (pv 2)) (me_non))))))
theorem k_law_digits (T : Txt K mg) : GFn P w K mg base 3 T.f_law_digits.a T.f_law_digits.fd ["_law_box_here"] g_law_digits := by
  refine gfn_of (k := 2) T.f_law_digits.F sc_law_digits fun cdv A outer s H E hr hgd => ?_
  have scN := sc_law_digits.nd
  have tk := takes_of (X := cxOf (CX P w) P w K mg base ["_law_box_here", "_law_many", "_law_text", "_law_way", "_law_near", "_law_k"] "_law_digits" (defScope s_law_digits) T.f_law_digits.a cdv A outer s H E) (E := E) rfl rfl rfl rfl
  exact ms_cons (ms_set (i := 1) scN rfl (by first | exact Or.inl rfl | exact Or.inr rfl) (me_ix ix_seq os_item (me_lst (ma_cons (me_int) (ma_cons (me_int) (ma_cons (me_int) (ma_cons (me_int) (ma_cons (me_int) (ma_cons (me_op op_addA os_add (me_int) (me_call (k_law_take T) (hr.mono (by decide)) hgd (by rfl) T.f_law_take.mgf T.f_law_take.F.kp T.f_law_take.b tk (ma_cons (me_var (pv 0)) (ma_cons (me_int) (ma_nil))))) (ma_cons (me_op op_addA os_add (me_int) (me_call (k_law_take T) (hr.mono (by decide)) hgd (by rfl) T.f_law_take.mgf T.f_law_take.F.kp T.f_law_take.b tk (ma_cons (me_var (pv 0)) (ma_cons (me_int) (ma_nil))))) (ma_nil))))))))) (me_call (k_law_take T) (hr.mono (by decide)) hgd (by rfl) T.f_law_take.mgf T.f_law_take.F.kp T.f_law_take.b tk (ma_cons (me_var (pv 0)) (ma_cons (me_int) (ma_nil)))) (fun _ _ => rfl))) (ms_cons (ms_set (i := 2) scN rfl (by first | exact Or.inl rfl | exact Or.inr rfl) (me_m1 (pe_join (me_str) (PEi (pe_lc (own := [("_law_k", 5)]) rfl scN (mi_r1 (pi_range1 (by rfl) T.b_range (ma_cons (me_var (pv 1)) (ma_nil)))) (blkOk_by (N := ["_law_box_here", "_law_many", "_law_text", "_law_way", "_law_near", "_law_k"]) (sc := defScope s_law_digits) (by decide +kernel)) (fun _ _ _ _ _ => pg_name (i := 5) scN rfl (by first | exact Or.inl rfl | exact Or.inr rfl)) (fun _ _ _ _ _ => mts_nil) (fun _ _ _ _ _ => me_ix ix_seq os_item (me_str) (me_call (k_law_take T) (hr.mono (by decide)) hgd (by rfl) T.f_law_take.mgf T.f_law_take.F.kp T.f_law_take.b takesW0 (ma_cons (me_var (pv 0)) (ma_cons (me_int) (ma_nil)))) (fun _ _ => rfl))) (fun _ _ _ h => lc_read (good_name (by decide)) (rg_name) h))) m1_join)) (ms_cons (ms_set (i := 3) scN rfl (by first | exact Or.inl rfl | exact Or.inr rfl) (me_call (k_law_take T) (hr.mono (by decide)) hgd (by rfl) T.f_law_take.mgf T.f_law_take.F.kp T.f_law_take.b tk (ma_cons (me_var (pv 0)) (ma_cons (me_int) (ma_nil))))) (ms_cons (ms_if (mt_cmp op_ltA os_lt (me_var (pv 3)) (me_int) (nomark _)) (ms_one (ms_ret (me_var (pv 2)))) (ms_nil)) (ms_cons (ms_set (i := 4) scN rfl (by first | exact Or.inl rfl | exact Or.inr rfl) (me_ix ix_seq os_item (me_lst (ma_cons (me_str) (ma_cons (me_str) (ma_cons (me_str) (ma_cons (me_str) (ma_cons (me_str) (ma_cons (me_str) (ma_cons (me_str) (ma_cons (me_str) (ma_cons (me_str) (ma_cons (me_str) (ma_cons (me_str) (ma_nil))))))))))))) (me_call (k_law_take T) (hr.mono (by decide)) hgd (by rfl) T.f_law_take.mgf T.f_law_take.F.kp T.f_law_take.b tk (ma_cons (me_var (pv 0)) (ma_cons (me_int) (ma_nil)))) (fun _ _ => rfl))) (ms_one (ms_ret (me_ix ix_seq os_item (me_lst (ma_cons (me_var (pv 4)) (ma_cons (me_op op_addA os_add (me_str) (me_var (pv 2))) (ma_cons (me_call (k_law_bent T) (hr.mono (by decide)) hgd (by rfl) T.f_law_bent.mgf T.f_law_bent.F.kp T.f_law_bent.b tk (ma_cons (me_var (pv 0)) (ma_cons (me_var (pv 2)) (ma_nil)))) (ma_nil))))) (me_op op_sub os_sub (me_var (pv 3)) (me_int)) (fun _ _ => rfl))))))))
theorem klaw (T : Txt K mg) : GFn P w K mg base 4 T.flaw.a T.flaw.fd ["_law_script"] glaw := by
  refine gfn_of (k := 3) T.flaw.F sclaw fun cdv A outer s H E hr hgd => ?_
  have scN := sclaw.nd
  have tk := takes_of (X := cxOf (CX P w) P w K mg base ["_law_script", "_law_k", "_law_box_here", "_law_turn", "_law_value", "_law_limit", "_law_lap", "_law_found", "_law_due"] "law" (defScope slaw) T.flaw.a cdv A outer s H E) (E := E) rfl rfl rfl rfl
  exact ms_cons (ms_for (passes_of rfl) rfl (mi_r1 (pi_range1 (by rfl) T.b_range (ma_cons (me_cb (pe_callB (call_max2 rfl) (by rfl) T.b_max bt_max (ma_cons (me_int) (ma_cons (me_cb (pe_callB (call_min2 rfl) (by rfl) T.b_min bt_min (ma_cons (me_int) (ma_cons (me_cb (pe_callB call_len (by rfl) T.b_len bt_len (ma_cons (me_var (pv 0)) (ma_nil))) cs_len) (ma_nil)))) cs_min2) (ma_nil)))) cs_max2) (ma_nil)))) (mg_name (i := 1) scN rfl (by first | exact Or.inl rfl | exact Or.inr rfl)) (ms_cons (ms_set (i := 2) scN rfl (by first | exact Or.inl rfl | exact Or.inr rfl) (me_call (k_law_box T) (hr.mono (by decide)) hgd (by rfl) T.f_law_box.mgf T.f_law_box.F.kp T.f_law_box.b tk (ma_cons (me_call (k_law_cell T) (hr.mono (by decide)) hgd (by rfl) T.f_law_cell.mgf T.f_law_cell.F.kp T.f_law_cell.b tk (ma_cons (me_var (pv 0)) (ma_cons (me_var (pv 1)) (ma_nil)))) (ma_nil)))) (ms_one (ms_for (passes_of rfl) rfl (mi_r1 (pi_range1 (by rfl) T.b_range (ma_cons (me_int) (ma_nil)))) (mg_name (i := 3) scN rfl (by first | exact Or.inl rfl | exact Or.inr rfl)) (ms_cons (ms_for (passes_of rfl) rfl (mi_lst (me_lst (ma_cons (me_call (k_law_spoilt T) (hr.mono (by decide)) hgd (by rfl) T.f_law_spoilt.mgf T.f_law_spoilt.F.kp T.f_law_spoilt.b tk (ma_cons (me_var (pv 2)) (ma_cons (me_m1 (pe_join (me_str) (me_call (k_law_words T) (hr.mono (by decide)) hgd (by rfl) T.f_law_words.mgf T.f_law_words.F.kp T.f_law_words.b tk (ma_cons (me_var (pv 2)) (ma_nil)))) m1_join) (ma_nil)))) (ma_cons (me_call (k_law_odd T) (hr.mono (by decide)) hgd (by rfl) T.f_law_odd.mgf T.f_law_odd.F.kp T.f_law_odd.b tk (ma_cons (me_var (pv 2)) (ma_nil))) (ma_nil))))) (mg_name (i := 4) scN rfl (by first | exact Or.inl rfl | exact Or.inr rfl)) (ms_one (ms_for (passes_of rfl) rfl (mi_r1 (pi_range1 (by rfl) T.b_range (ma_cons (me_int) (ma_nil)))) (mg_name (i := 6) scN rfl (by first | exact Or.inl rfl | exact Or.inr rfl)) (ms_cons (ms_par2 (i := 7) (j := 8) rfl scN rfl rfl (by decide) rfl rfl (ma_cons (me_call (ksplit_words T) (hr.mono (by decide)) hgd (by rfl) T.fsplit_words.mgf T.fsplit_words.F.kp T.fsplit_words.b tk (ma_cons (me_var (pv 4)) (ma_nil))) (ma_cons (me_call (k_law_due_words T) (hr.mono (by decide)) hgd (by rfl) T.f_law_due_words.mgf T.f_law_due_words.F.kp T.f_law_due_words.b tk (ma_cons (me_var (pv 4)) (ma_nil))) (ma_nil))) (by rfl)) (ms_cons (ms_if (mt_cmp (op_neY hr.units) os_neX (me_cb (pe_callB (call_reprX hgd (u100 hr)) (by rfl) T.b_repr bt_repr (ma_cons (me_var (pv 7)) (ma_nil))) cs_reprX) (me_cb (pe_callB (call_reprX hgd (u100 hr)) (by rfl) T.b_repr bt_repr (ma_cons (me_var (pv 8)) (ma_nil))) cs_reprX) (nomark _)) (ms_one (ms_ret (me_bl))) (ms_nil)) (ms_one (ms_if (mt_cmp op_notN os_isnt (me_var (pv 7)) (me_non) (nomark _)) (ms_one (ms_expr (me_bm (pe_bm PySem.F.plainAttrs_list PySem.F.slot_list_append PySem.F.type_list_append mt_append (me_var (pv 7)) (ma_cons (me_str) (ma_nil))) meth_append))) (ms_nil)))))))) (ms_cons (ms_set (i := 5) scN rfl (by first | exact Or.inl rfl | exact Or.inr rfl) (me_ix ix_seq os_item (me_lst (ma_cons (me_int) (ma_cons (me_int) (ma_cons (me_int) (ma_cons (me_int) (ma_cons (me_op op_pow os_powI (me_int) (me_int)) (ma_cons (me_un un_neg us_neg (me_int)) (ma_cons (me_call (k_law_take T) (hr.mono (by decide)) hgd (by rfl) T.f_law_take.mgf T.f_law_take.F.kp T.f_law_take.b tk (ma_cons (me_var (pv 2)) (ma_cons (me_op op_pow os_powI (me_int) (me_int)) (ma_nil)))) (ma_nil))))))))) (me_call (k_law_take T) (hr.mono (by decide)) hgd (by rfl) T.f_law_take.mgf T.f_law_take.F.kp T.f_law_take.b tk (ma_cons (me_var (pv 2)) (ma_cons (me_int) (ma_nil)))) (fun _ _ => rfl))) (ms_one (ms_for (passes_of rfl) rfl (mi_lst (me_lst (ma_cons (me_call (k_law_digits T) (hr.mono (by decide)) hgd (by rfl) T.f_law_digits.mgf T.f_law_digits.F.kp T.f_law_digits.b tk (ma_cons (me_var (pv 2)) (ma_nil))) (ma_cons (me_cb (pe_callTy call_str_int (by rfl) T.b_str bt_str (ma_cons (me_var (pv 5)) (ma_nil))) cs_strF) (ma_cons (me_cb (pe_callTy call_str_int (by rfl) T.b_str bt_str (ma_cons (me_op op_addA os_add (me_var (pv 5)) (me_int)) (ma_nil))) cs_strF) (ma_cons (me_call (k_law_odd T) (hr.mono (by decide)) hgd (by rfl) T.f_law_odd.mgf T.f_law_odd.F.kp T.f_law_odd.b tk (ma_cons (me_var (pv 2)) (ma_nil))) (ma_nil))))))) (mg_name (i := 4) scN rfl (by first | exact Or.inl rfl | exact Or.inr rfl)) (ms_cons (ms_if (mt_cmp (op_neY hr.units) os_neX (me_cb (pe_callB (call_reprX hgd (u100 hr)) (by rfl) T.b_repr bt_repr (ma_cons (me_callK (gd := fun us ws => us ++ ws) (kparse_integer T) (hr.mono (by decide)) hgd (by rfl) T.fparse_integer.mgf T.fparse_integer.F.kp T.kk1_highparse_integer (kwreps_kk1_highparse_integer) tk (ma_cons (me_var (pv 4)) (ma_nil)) (mk_cons (me_var (pv 5)) (mk_nil))) (ma_nil))) cs_reprX) (me_cb (pe_callB (call_reprX hgd (u100 hr)) (by rfl) T.b_repr bt_repr (ma_cons (me_call (k_law_due_number T) (hr.mono (by decide)) hgd (by rfl) T.f_law_due_number.mgf T.f_law_due_number.F.kp T.f_law_due_number.b tk (ma_cons (me_var (pv 4)) (ma_cons (me_var (pv 5)) (ma_nil)))) (ma_nil))) cs_reprX) (nomark _)) (ms_one (ms_ret (me_bl))) (ms_nil)) (ms_one (ms_if (mt_cmp (op_neY hr.units) os_neX (me_cb (pe_callB (call_reprX hgd (u100 hr)) (by rfl) T.b_repr bt_repr (ma_cons ((by obtain ⟨us0, hv, hb⟩ := T.dd1parse_integer; exact me_callD (kparse_integer T) (hr.mono (by decide)) hgd (by rfl) T.fparse_integer.mgf T.fparse_integer.F.kp hv (fun _ _ => .cons (.int _) (.nil)) hb tk (ma_cons (me_var (pv 4)) (ma_nil)))) (ma_nil))) cs_reprX) (me_cb (pe_callB (call_reprX hgd (u100 hr)) (by rfl) T.b_repr bt_repr (ma_cons (me_call (k_law_due_number T) (hr.mono (by decide)) hgd (by rfl) T.f_law_due_number.mgf T.f_law_due_number.F.kp T.f_law_due_number.b tk (ma_cons (me_var (pv 4)) (ma_cons (me_int) (ma_nil)))) (ma_nil))) cs_reprX) (nomark _)) (ms_one (ms_ret (me_bl))) (ms_nil)))))))))))) (ms_one (ms_ret (me_bl)))
end
theorem law_fin {P : Program} {w : World} {h : Heap} {K : PySem.W.Frag} {mg : Str → Option Value} {fa : Addr} (X : K.In h) (G : h.Ns mainGlobals mg) (hmg : mg "law" = some (.ref fa))
    (z_all : PySem.W.nsIn K mainGlobals "all" = some none)
    (z_int : PySem.W.nsIn K mainGlobals "int" = some none)
    (z_isinstance : PySem.W.nsIn K mainGlobals "isinstance" = some none)
    (z_len : PySem.W.nsIn K mainGlobals "len" = some none)
    (z_max : PySem.W.nsIn K mainGlobals "max" = some none)
    (z_min : PySem.W.nsIn K mainGlobals "min" = some none)
    (z_range : PySem.W.nsIn K mainGlobals "range" = some none)
    (z_repr : PySem.W.nsIn K mainGlobals "repr" = some none)
    (z_str : PySem.W.nsIn K mainGlobals "str" = some none)
    {t_DIGITS : Tok} (a_DIGITS : PySem.W.nsIn K mainGlobals "DIGITS" = some (some (.str "0123456789" t_DIGITS)))
    {fsplit_words : Addr} {ocsplit_words : Value} {odsplit_words ansplit_words : Option Addr} {slsplit_words : Array (Option Value)} {kVsplit_words dcsplit_words pmsplit_words cdsplit_words ctsplit_words : Value}
    (asplit_words : PySem.W.nsIn K mainGlobals "split_words" = some (some (.ref fsplit_words)))
    (lsplit_words : K.lookup fsplit_words = some ⟨ocsplit_words, odsplit_words, .func (PySem.W.fnOf "split_words" "split_words" (defArgs ssplit_words) (defBody ssplit_words) (defScope ssplit_words) .none kVsplit_words dcsplit_words pmsplit_words ansplit_words cdsplit_words ctsplit_words), slsplit_words⟩)
    (csplit_words : PySem.W.codeIn K cdsplit_words "split_words" = true) (ksplit_words : PySem.W.keepIn K (.ref fsplit_words) = true)
    {fparse_integer : Addr} {ocparse_integer : Value} {odparse_integer anparse_integer : Option Addr} {slparse_integer : Array (Option Value)} {kVparse_integer dcparse_integer pmparse_integer cdparse_integer ctparse_integer : Value}
    (aparse_integer : PySem.W.nsIn K mainGlobals "parse_integer" = some (some (.ref fparse_integer)))
    (lparse_integer : K.lookup fparse_integer = some ⟨ocparse_integer, odparse_integer, .func (PySem.W.fnOf "parse_integer" "parse_integer" (defArgs sparse_integer) (defBody sparse_integer) (defScope sparse_integer) .none kVparse_integer dcparse_integer pmparse_integer anparse_integer cdparse_integer ctparse_integer), slparse_integer⟩)
    (cparse_integer : PySem.W.codeIn K cdparse_integer "parse_integer" = true) (kparse_integer : PySem.W.keepIn K (.ref fparse_integer) = true)
    {tk0parse_integer : Tok} {kDparse_integer : Addr} (w0parse_integer : kVparse_integer = .ref kDparse_integer) (n0parse_integer : PySem.W.nsIn K kDparse_integer "high" = some (some (.int 999999 tk0parse_integer)))
    {f_law_cell : Addr} {oc_law_cell : Value} {od_law_cell an_law_cell : Option Addr} {sl_law_cell : Array (Option Value)} {kV_law_cell dc_law_cell pm_law_cell cd_law_cell ct_law_cell : Value}
    (a_law_cell : PySem.W.nsIn K mainGlobals "_law_cell" = some (some (.ref f_law_cell)))
    (l_law_cell : K.lookup f_law_cell = some ⟨oc_law_cell, od_law_cell, .func (PySem.W.fnOf "_law_cell" "_law_cell" (defArgs s_law_cell) (defBody s_law_cell) (defScope s_law_cell) .none kV_law_cell dc_law_cell pm_law_cell an_law_cell cd_law_cell ct_law_cell), sl_law_cell⟩)
    (c_law_cell : PySem.W.codeIn K cd_law_cell "_law_cell" = true) (k_law_cell : PySem.W.keepIn K (.ref f_law_cell) = true)
    {f_law_box : Addr} {oc_law_box : Value} {od_law_box an_law_box : Option Addr} {sl_law_box : Array (Option Value)} {kV_law_box dc_law_box pm_law_box cd_law_box ct_law_box : Value}
    (a_law_box : PySem.W.nsIn K mainGlobals "_law_box" = some (some (.ref f_law_box)))
    (l_law_box : K.lookup f_law_box = some ⟨oc_law_box, od_law_box, .func (PySem.W.fnOf "_law_box" "_law_box" (defArgs s_law_box) (defBody s_law_box) (defScope s_law_box) .none kV_law_box dc_law_box pm_law_box an_law_box cd_law_box ct_law_box), sl_law_box⟩)
    (c_law_box : PySem.W.codeIn K cd_law_box "_law_box" = true) (k_law_box : PySem.W.keepIn K (.ref f_law_box) = true)
    {f_law_take : Addr} {oc_law_take : Value} {od_law_take an_law_take : Option Addr} {sl_law_take : Array (Option Value)} {kV_law_take dc_law_take pm_law_take cd_law_take ct_law_take : Value}
    (a_law_take : PySem.W.nsIn K mainGlobals "_law_take" = some (some (.ref f_law_take)))
    (l_law_take : K.lookup f_law_take = some ⟨oc_law_take, od_law_take, .func (PySem.W.fnOf "_law_take" "_law_take" (defArgs s_law_take) (defBody s_law_take) (defScope s_law_take) .none kV_law_take dc_law_take pm_law_take an_law_take cd_law_take ct_law_take), sl_law_take⟩)
    (c_law_take : PySem.W.codeIn K cd_law_take "_law_take" = true) (k_law_take : PySem.W.keepIn K (.ref f_law_take) = true)
    {f_law_bent : Addr} {oc_law_bent : Value} {od_law_bent an_law_bent : Option Addr} {sl_law_bent : Array (Option Value)} {kV_law_bent dc_law_bent pm_law_bent cd_law_bent ct_law_bent : Value}
    (a_law_bent : PySem.W.nsIn K mainGlobals "_law_bent" = some (some (.ref f_law_bent)))
    (l_law_bent : K.lookup f_law_bent = some ⟨oc_law_bent, od_law_bent, .func (PySem.W.fnOf "_law_bent" "_law_bent" (defArgs s_law_bent) (defBody s_law_bent) (defScope s_law_bent) .none kV_law_bent dc_law_bent pm_law_bent an_law_bent cd_law_bent ct_law_bent), sl_law_bent⟩)
    (c_law_bent : PySem.W.codeIn K cd_law_bent "_law_bent" = true) (k_law_bent : PySem.W.keepIn K (.ref f_law_bent) = true)
    {f_law_odd : Addr} {oc_law_odd : Value} {od_law_odd an_law_odd : Option Addr} {sl_law_odd : Array (Option Value)} {kV_law_odd dc_law_odd pm_law_odd cd_law_odd ct_law_odd : Value}
    (a_law_odd : PySem.W.nsIn K mainGlobals "_law_odd" = some (some (.ref f_law_odd)))
    (l_law_odd : K.lookup f_law_odd = some ⟨oc_law_odd, od_law_odd, .func (PySem.W.fnOf "_law_odd" "_law_odd" (defArgs s_law_odd) (defBody s_law_odd) (defScope s_law_odd) .none kV_law_odd dc_law_odd pm_law_odd an_law_odd cd_law_odd ct_law_odd), sl_law_odd⟩)
    (c_law_odd : PySem.W.codeIn K cd_law_odd "_law_odd" = true) (k_law_odd : PySem.W.keepIn K (.ref f_law_odd) = true)
    {f_law_words : Addr} {oc_law_words : Value} {od_law_words an_law_words : Option Addr} {sl_law_words : Array (Option Value)} {kV_law_words dc_law_words pm_law_words cd_law_words ct_law_words : Value}
    (a_law_words : PySem.W.nsIn K mainGlobals "_law_words" = some (some (.ref f_law_words)))
    (l_law_words : K.lookup f_law_words = some ⟨oc_law_words, od_law_words, .func (PySem.W.fnOf "_law_words" "_law_words" (defArgs s_law_words) (defBody s_law_words) (defScope s_law_words) .none kV_law_words dc_law_words pm_law_words an_law_words cd_law_words ct_law_words), sl_law_words⟩)
    (c_law_words : PySem.W.codeIn K cd_law_words "_law_words" = true) (k_law_words : PySem.W.keepIn K (.ref f_law_words) = true)
    {f_law_spoilt : Addr} {oc_law_spoilt : Value} {od_law_spoilt an_law_spoilt : Option Addr} {sl_law_spoilt : Array (Option Value)} {kV_law_spoilt dc_law_spoilt pm_law_spoilt cd_law_spoilt ct_law_spoilt : Value}
    (a_law_spoilt : PySem.W.nsIn K mainGlobals "_law_spoilt" = some (some (.ref f_law_spoilt)))
    (l_law_spoilt : K.lookup f_law_spoilt = some ⟨oc_law_spoilt, od_law_spoilt, .func (PySem.W.fnOf "_law_spoilt" "_law_spoilt" (defArgs s_law_spoilt) (defBody s_law_spoilt) (defScope s_law_spoilt) .none kV_law_spoilt dc_law_spoilt pm_law_spoilt an_law_spoilt cd_law_spoilt ct_law_spoilt), sl_law_spoilt⟩)
    (c_law_spoilt : PySem.W.codeIn K cd_law_spoilt "_law_spoilt" = true) (k_law_spoilt : PySem.W.keepIn K (.ref f_law_spoilt) = true)
    {f_law_due_words : Addr} {oc_law_due_words : Value} {od_law_due_words an_law_due_words : Option Addr} {sl_law_due_words : Array (Option Value)} {kV_law_due_words dc_law_due_words pm_law_due_words cd_law_due_words ct_law_due_words : Value}
    (a_law_due_words : PySem.W.nsIn K mainGlobals "_law_due_words" = some (some (.ref f_law_due_words)))
    (l_law_due_words : K.lookup f_law_due_words = some ⟨oc_law_due_words, od_law_due_words, .func (PySem.W.fnOf "_law_due_words" "_law_due_words" (defArgs s_law_due_words) (defBody s_law_due_words) (defScope s_law_due_words) .none kV_law_due_words dc_law_due_words pm_law_due_words an_law_due_words cd_law_due_words ct_law_due_words), sl_law_due_words⟩)
    (c_law_due_words : PySem.W.codeIn K cd_law_due_words "_law_due_words" = true) (k_law_due_words : PySem.W.keepIn K (.ref f_law_due_words) = true)
    {f_law_due_number : Addr} {oc_law_due_number : Value} {od_law_due_number an_law_due_number : Option Addr} {sl_law_due_number : Array (Option Value)} {kV_law_due_number dc_law_due_number pm_law_due_number cd_law_due_number ct_law_due_number : Value}
    (a_law_due_number : PySem.W.nsIn K mainGlobals "_law_due_number" = some (some (.ref f_law_due_number)))
    (l_law_due_number : K.lookup f_law_due_number = some ⟨oc_law_due_number, od_law_due_number, .func (PySem.W.fnOf "_law_due_number" "_law_due_number" (defArgs s_law_due_number) (defBody s_law_due_number) (defScope s_law_due_number) .none kV_law_due_number dc_law_due_number pm_law_due_number an_law_due_number cd_law_due_number ct_law_due_number), sl_law_due_number⟩)
    (c_law_due_number : PySem.W.codeIn K cd_law_due_number "_law_due_number" = true) (k_law_due_number : PySem.W.keepIn K (.ref f_law_due_number) = true)
    {f_law_digits : Addr} {oc_law_digits : Value} {od_law_digits an_law_digits : Option Addr} {sl_law_digits : Array (Option Value)} {kV_law_digits dc_law_digits pm_law_digits cd_law_digits ct_law_digits : Value}
    (a_law_digits : PySem.W.nsIn K mainGlobals "_law_digits" = some (some (.ref f_law_digits)))
    (l_law_digits : K.lookup f_law_digits = some ⟨oc_law_digits, od_law_digits, .func (PySem.W.fnOf "_law_digits" "_law_digits" (defArgs s_law_digits) (defBody s_law_digits) (defScope s_law_digits) .none kV_law_digits dc_law_digits pm_law_digits an_law_digits cd_law_digits ct_law_digits), sl_law_digits⟩)
    (c_law_digits : PySem.W.codeIn K cd_law_digits "_law_digits" = true) (k_law_digits : PySem.W.keepIn K (.ref f_law_digits) = true)
    {flaw : Addr} {oclaw : Value} {odlaw anlaw : Option Addr} {sllaw : Array (Option Value)} {kVlaw dclaw pmlaw cdlaw ctlaw : Value}
    (alaw : PySem.W.nsIn K mainGlobals "law" = some (some (.ref flaw)))
    (llaw : K.lookup flaw = some ⟨oclaw, odlaw, .func (PySem.W.fnOf "law" "law" (defArgs slaw) (defBody slaw) (defScope slaw) .none kVlaw dclaw pmlaw anlaw cdlaw ctlaw), sllaw⟩)
    (claw : PySem.W.codeIn K cdlaw "law" = true) (klaw : PySem.W.keepIn K (.ref flaw) = true) :
    ∃ fd : FuncData, (∀ (s : Shared) (u : Value), BindsTo s fd ⟨[u], []⟩ [("_law_script", u)]) ∧ ∀ base : Heap, K.In base → base.Ns mainGlobals mg → GFn P w K mg base 4 fa fd ["_law_script"] glaw := by
  have T : Txt K mg := ⟨PySem.W.mg_none_of X G z_all,
   PySem.W.mg_none_of X G z_int,
   PySem.W.mg_none_of X G z_isinstance,
   PySem.W.mg_none_of X G z_len,
   PySem.W.mg_none_of X G z_max,
   PySem.W.mg_none_of X G z_min,
   PySem.W.mg_none_of X G z_range,
   PySem.W.mg_none_of X G z_repr,
   PySem.W.mg_none_of X G z_str,
   isc_str (PySem.W.mg_of X G a_DIGITS),
   ⟨fsplit_words, _, PySem.W.mg_of X G asplit_words, fun_mk (st := ssplit_words) lsplit_words csplit_words ksplit_words, (fun_mk (st := ssplit_words) lsplit_words csplit_words ksplit_words).binds fun _ _ _ _ _ _ us hl => match us, hl with | [_], _ => rfl⟩,
   ⟨fparse_integer, _, PySem.W.mg_of X G aparse_integer, ⟨⟨_, _, _, _, _, _, _, _, _, _, rfl, lparse_integer, cparse_integer, .inl ⟨rfl, rfl⟩, .inr ⟨kDparse_integer, w0parse_integer, fun q hq => by rcases List.mem_singleton.mp hq with rfl; exact ⟨_, n0parse_integer, ⟨_, rfl⟩⟩⟩⟩, kparse_integer⟩⟩,
   ⟨fun s us ws _ h1 h2 => match us, ws, h1, h2 with | [_], [_], _, _ => .of_eq rfl, fun r1 r2 => r1.append r2⟩,
   FunD.binds0 (kws := [("high", .int 999999)]) (ps := ["text", "high"]) (F := ⟨⟨_, _, _, _, _, _, _, _, _, _, rfl, lparse_integer, cparse_integer, .inl ⟨rfl, rfl⟩, .inr ⟨kDparse_integer, w0parse_integer, fun q hq => by rcases List.mem_singleton.mp hq with rfl; exact ⟨_, n0parse_integer, ⟨_, rfl⟩⟩⟩⟩, kparse_integer⟩) 1 (by simp) rfl (fun D doc pm an cdv ct us ks h1 h2 => match us, ks, h1, h2 with | [_], [_], _, _ => ⟨_, _, _, _, _, _, rfl, rfl, rfl⟩),
   ⟨f_law_cell, _, PySem.W.mg_of X G a_law_cell, fun_mk (st := s_law_cell) l_law_cell c_law_cell k_law_cell, (fun_mk (st := s_law_cell) l_law_cell c_law_cell k_law_cell).binds fun _ _ _ _ _ _ us hl => match us, hl with | [_, _], _ => rfl⟩,
   ⟨f_law_box, _, PySem.W.mg_of X G a_law_box, fun_mk (st := s_law_box) l_law_box c_law_box k_law_box, (fun_mk (st := s_law_box) l_law_box c_law_box k_law_box).binds fun _ _ _ _ _ _ us hl => match us, hl with | [_], _ => rfl⟩,
   ⟨f_law_take, _, PySem.W.mg_of X G a_law_take, fun_mk (st := s_law_take) l_law_take c_law_take k_law_take, (fun_mk (st := s_law_take) l_law_take c_law_take k_law_take).binds fun _ _ _ _ _ _ us hl => match us, hl with | [_, _], _ => rfl⟩,
   ⟨f_law_bent, _, PySem.W.mg_of X G a_law_bent, fun_mk (st := s_law_bent) l_law_bent c_law_bent k_law_bent, (fun_mk (st := s_law_bent) l_law_bent c_law_bent k_law_bent).binds fun _ _ _ _ _ _ us hl => match us, hl with | [_, _], _ => rfl⟩,
   ⟨f_law_odd, _, PySem.W.mg_of X G a_law_odd, fun_mk (st := s_law_odd) l_law_odd c_law_odd k_law_odd, (fun_mk (st := s_law_odd) l_law_odd c_law_odd k_law_odd).binds fun _ _ _ _ _ _ us hl => match us, hl with | [_], _ => rfl⟩,
   ⟨f_law_words, _, PySem.W.mg_of X G a_law_words, fun_mk (st := s_law_words) l_law_words c_law_words k_law_words, (fun_mk (st := s_law_words) l_law_words c_law_words k_law_words).binds fun _ _ _ _ _ _ us hl => match us, hl with | [_], _ => rfl⟩,
   ⟨f_law_spoilt, _, PySem.W.mg_of X G a_law_spoilt, fun_mk (st := s_law_spoilt) l_law_spoilt c_law_spoilt k_law_spoilt, (fun_mk (st := s_law_spoilt) l_law_spoilt c_law_spoilt k_law_spoilt).binds fun _ _ _ _ _ _ us hl => match us, hl with | [_, _], _ => rfl⟩,
   ⟨f_law_due_words, _, PySem.W.mg_of X G a_law_due_words, fun_mk (st := s_law_due_words) l_law_due_words c_law_due_words k_law_due_words, (fun_mk (st := s_law_due_words) l_law_due_words c_law_due_words k_law_due_words).binds fun _ _ _ _ _ _ us hl => match us, hl with | [_], _ => rfl⟩,
   ⟨f_law_due_number, _, PySem.W.mg_of X G a_law_due_number, fun_mk (st := s_law_due_number) l_law_due_number c_law_due_number k_law_due_number, (fun_mk (st := s_law_due_number) l_law_due_number c_law_due_number k_law_due_number).binds fun _ _ _ _ _ _ us hl => match us, hl with | [_, _], _ => rfl⟩,
   ⟨f_law_digits, _, PySem.W.mg_of X G a_law_digits, fun_mk (st := s_law_digits) l_law_digits c_law_digits k_law_digits, (fun_mk (st := s_law_digits) l_law_digits c_law_digits k_law_digits).binds fun _ _ _ _ _ _ us hl => match us, hl with | [_], _ => rfl⟩,
   ⟨flaw, _, PySem.W.mg_of X G alaw, fun_mk (st := slaw) llaw claw klaw, (fun_mk (st := slaw) llaw claw klaw).binds fun _ _ _ _ _ _ us hl => match us, hl with | [_], _ => rfl⟩⟩
  cases hmg.symm.trans T.flaw.mgf
  refine ⟨T.flaw.fd, fun s u => ?_, fun base _ _ => L2.Lw.klaw T⟩
  obtain ⟨_, _, _, _, _, _, _, _, _, e, _, _⟩ := T.flaw.F.ex
  rw [e]
  exact .of_eq rfl
end L2.Lw

namespace L2.Lw
open PySem PySem.Spec PyProof.Rows L2 L2.Mi
local macro_rules | `(tactic| walk_at "ok0") => `(tactic| first
  | with_reducible refine os_seq ?_ | with_reducible refine os_set ?_ | with_reducible refine os_ret ?_ | with_reducible refine os_asg ?_ | with_reducible refine os_par ?_ | with_reducible refine os_for ?_
  | with_reducible refine os_expr ?_ | with_reducible refine os_nil ?_ | with_reducible refine os_retn ?_ | with_reducible refine os_brk ?_ | with_reducible refine os_cnt ?_
  | with_reducible refine ok_op ?_ | (with_reducible refine ok_var ?_ ?_; (focus rfl)) | with_reducible refine ok_c ?_ | with_reducible refine ok_un ?_ | with_reducible refine ok_cb ?_ | with_reducible refine ok_anil ?_ | with_reducible refine ok_acons ?_
  | with_reducible refine ok_lst ?_ | with_reducible refine ok_tup ?_ | with_reducible refine ok_lstM ?_ | with_reducible refine ok_dict1 ?_
  | with_reducible refine ok_and ?_ | with_reducible refine ok_or ?_ | with_reducible refine ok_not ?_ | with_reducible refine ok_chain ?_ | with_reducible refine ok_t ?_ | with_reducible refine ok_tnot ?_ | with_reducible refine ok_tand ?_
  | with_reducible refine ok_tor ?_ | with_reducible refine ok_if ?_ | with_reducible refine ok_onone ?_ | with_reducible refine ok_osome ?_ | with_reducible refine ok_slice ?_ | with_reducible refine ok_m1 ?_
  | with_reducible refine ok_bm ?_ | with_reducible refine ok_gs ?_ | with_reducible refine ok_cbd ?_ | with_reducible refine ok_cbk ?_ | with_reducible refine os_ifNm ?_ | with_reducible refine ok_frz ?_ | with_reducible refine ok_itup ?_ | with_reducible refine ok_istr ?_ | with_reducible refine ok_r1 ?_ | with_reducible refine ok_r2 ?_ | with_reducible refine ok_il ?_ | with_reducible refine ok_gn ?_ | with_reducible refine ok_lc ?_
  | refine And.intro (Nat.le_of_ble_eq_true rfl) ?_ | refine Exists.intro _ (And.intro rfl ?_) | refine And.intro (fun _ => ?_) (fun hk => Bool.noConfusion hk) | refine And.intro (fun hk => Bool.noConfusion hk) (fun _ => ?_)
  | ((fail_if_success (with_reducible refine Ok.fun ?_ ?_)); refine ok_ret ?_))
local macro_rules | `(tactic| walk_at "ok1") => `(tactic| first | with_reducible refine os_if ?_ | with_reducible refine os_fcons ?_ | with_reducible refine os_fnil ?_ | walk_at "ok0")
local macro_rules | `(tactic| walk_at "okn") => `(tactic| repeat (walk_at "ok0"))
local macro_rules | `(tactic| walk_at "ok") => `(tactic| repeat (walk_at "ok1"))

/-! ### the draws -/
theorem take_big (c : Cs) (k : Nat) (a b z many : Int) (hc : c[k]? = some (.lst [.int a, .int b, .int z])) (ha : 0 < a) (hm : 0 < many) (hm2 : many ≤ 1000000) :
    g_law_take [.ref k, .int many] c = .ok (.int (a.fmod many)) (c.set k (.lst [.int (a.fdiv many), .int b, .int z])) := by
  have h1 : many ≠ 0 := by omega
  have h2 : many.natAbs < 1073741824 := by omega
  simp [g_law_take, mFun, c_law_take, sSeq, sIf, mT, mOp, mVar, mC, itemD, hc, itL, atI, ixN, gtD, cmpI, ha, sSet, modI, divI, intC, CNz, CDivN, sRet, sAsg, gS, putD, h1, h2]
theorem take_hash (c : Cs) (k : Nat) (a b z many : Int) (hc : c[k]? = some (.lst [.int a, .int b, .int z])) (ha : ¬ 0 < a) (hm : 0 < many) (hm2 : many ≤ 1000000) (hb : 0 ≤ b) (hb2 : b < 2147483629) (hz : 0 ≤ z) (hz2 : z ≤ 1000000) :
    ∃ d : Int, 0 ≤ d ∧ d < many ∧ g_law_take [.ref k, .int many] c = .ok (.int d) (c.set k (.lst [.int a, .int b, .int (z + 1)])) := by
  have h1 : many ≠ 0 := by omega
  have hs : ∀ x, (c.set k x)[k]? = some x := fun x => by rw [List.getElem?_set_self (List.getElem?_eq_some_iff.mp hc).1]
  have h3 : (b + 7907 * (z + 1) + 613).natAbs < 18446744073709551616 := by omega
  refine ⟨(((((b + 7907 * (z + 1) + 613) ^ 5).fmod 2147483647 + 104723 * (z + 1)) ^ 3).fmod 2147483587).fdiv 16 |>.fmod many, Int.fmod_nonneg_of_pos _ hm, Int.fmod_lt_of_pos _ hm, ?_⟩
  have h5 : 0 ≤ ((b + 7907 * (z + 1) + 613) ^ 5).fmod 2147483647 := Int.fmod_nonneg_of_pos _ (by decide)
  have h6 : ((b + 7907 * (z + 1) + 613) ^ 5).fmod 2147483647 < 2147483647 := Int.fmod_lt_of_pos _ (by decide)
  generalize e : ((b + 7907 * (z + 1) + 613) ^ 5).fmod 2147483647 = y at h5 h6 ⊢
  have h4 : (y + 104723 * (z + 1)).natAbs < 18446744073709551616 := by omega
  simp [g_law_take, mFun, c_law_take, sSeq, sIf, mT, mOp, mVar, mC, itemD, hc, itL, atI, ixN, gtD, cmpI, ha, sSet, modI, divI, intC, CNz, CDivN, sRet, sAsg, gS, putD, h1, addD, mulI, powI, CMul, CPow, h3, h4, e, sNil, hs, -List.getElem?_set_self]
/-- a draw changes the box alone -/
theorem take_ok {c : Cs} {k : Nat} {n many : Int} {Q : D → Cs → Prop} (h : Bx c k n) (hn : n ≤ 1000000) (hm : 0 < many) (hm2 : many ≤ 1000000)
    (q : ∀ (i : Int) (c' : Cs), 0 ≤ i → i < many → Bx c' k (n + 1) → c'.length = c.length → (∀ j, j ≠ k → c'[j]? = c[j]?) → Q (.int i) c') : Ok (g_law_take [.ref k, .int many] c) Q := by
  obtain ⟨a, b, z, hc, ha, hb, hb2, hz, hz2⟩ := h
  have hk := (List.getElem?_eq_some_iff.mp hc).1
  have fin : ∀ x : Cell, (c.set k x).length = c.length ∧ ∀ j, j ≠ k → (c.set k x)[j]? = c[j]? := fun x => ⟨by simp, fun j hj => by rw [List.getElem?_set_ne (Ne.symm hj)]⟩
  by_cases h0 : 0 < a
  · exact ⟨_, _, take_big c k a b z many hc h0 hm hm2, q _ _ (Int.fmod_nonneg_of_pos _ hm) (Int.fmod_lt_of_pos _ hm) ⟨a.fdiv many, b, z, by rw [List.getElem?_set_self hk], by rw [Int.fdiv_eq_ediv_of_nonneg _ (Int.le_of_lt hm)]; exact Int.ediv_nonneg ha (Int.le_of_lt hm), hb, hb2, hz, by omega⟩ (fin _).1 (fin _).2⟩
  · obtain ⟨d, hd, hd2, e⟩ := take_hash c k a b z many hc h0 hm hm2 hb hb2 hz (by omega)
    exact ⟨_, _, e, q _ _ hd hd2 ⟨a, b, z + 1, by rw [List.getElem?_set_self hk], ha, hb, hb2, by omega, by omega⟩ (fin _).1 (fin _).2⟩
theorem bx_mono {c : Cs} {k : Nat} {n n' : Int} (h : Bx c k n) (hn : n ≤ n') : Bx c k n' := by
  obtain ⟨a, b, z, hc, ha, hb, hb2, hz, hz2⟩ := h
  exact ⟨a, b, z, hc, ha, hb, hb2, hz, by omega⟩
theorem cell_ok {ns : List Int} {i : Nat} {c : Cs} {Q : D → Cs → Prop} (hl : ns.length ≤ 63) (hi : i ≤ 1000) (q : ∀ v : Int, Q (.int v) c) : Ok (g_law_cell [.ro (ns.map D.int), .int i] c) Q := by
  refine Ok.fun rfl ?_
  refine os_seq (os_if (ok_t (ok_op (ok_var rfl (ok_cb (ok_acons (ok_var rfl (ok_anil ⟨_, _, rfl, ⟨_, _, rfl, ⟨_, rfl, fun h => ?_, fun h => ?_⟩⟩⟩))))))))
  · refine os_ret (ok_op (ok_var rfl (ok_var rfl ?_)))
    have hi : i < ns.length := by simpa using h
    refine ⟨.int ns[i], c, ?_, q _⟩
    simp [itemD, itL, atI, ixN, hi]
  · refine os_nil (os_ret (ok_op (ok_op (ok_c (ok_var rfl ?_)))))
    exact ok_intC (Or.inl ⟨by decide, by decide⟩) (ok_c ⟨_, _, rfl, q _⟩)
theorem box_ok {v : Int} {c : Cs} {Q : D → Cs → Prop} (q : ∀ c', Bx c' c.length 0 → c'.length = c.length + 1 → (∀ j, j ≠ c.length → c'[j]? = c[j]?) → Q (.ref c.length) c') : Ok (g_law_box [.int v] c) Q := by
  refine Ok.fun rfl ?_
  refine os_ret (ok_lstM (ok_acons (ok_cb (ok_acons (ok_c (ok_acons (ok_op (ok_var rfl (ok_op (ok_c (ok_c ?_)))) ) ) ) ) ) ) )
  refine ok_intC ⟨by decide, by decide, by decide⟩ ⟨_, _, rfl, ok_anil ⟨_, _, rfl, ok_acons (ok_op (ok_var rfl (ok_c (ok_intC (show (2147483629 : Int) ≠ 0 by decide) (ok_acons (ok_c (ok_anil ⟨Nat.le_of_ble_eq_true rfl, ?_⟩)))))))⟩⟩
  refine q _ ⟨_, _, _, by rw [List.getElem?_append_right (Nat.le_refl _), Nat.sub_self]; rfl, ?_, Int.fmod_nonneg_of_pos _ (by decide), Int.fmod_lt_of_pos _ (by decide), Int.le_refl _, Int.le_refl _⟩ (by simp) fun j hj => ?_
  · dsimp only
    split <;> omega
  · rcases Nat.lt_or_ge j c.length with h | h
    · rw [List.getElem?_append_left h]
    · rw [List.getElem?_eq_none (by simp; omega), List.getElem?_eq_none (by omega)]

/-! ### what split does with one sign -/
def stepF (c : Nat) (acc : List (List Nat)) (k : Nat) : List (List Nat) := if k = c then acc ++ [[]] else acc.dropLast ++ [acc.getLastD [] ++ [k]]
def splF (c : Nat) (ks : List Nat) : List (List Nat) := ks.foldl (stepF c) [[]]
theorem splF_snoc (c : Nat) (ks : List Nat) (k : Nat) : splF c (ks ++ [k]) = stepF c (splF c ks) k := by simp [splF]
def hitB (ks : List Nat) (c i : Nat) : Bool := ks[i]? == some c
theorem at_one (ks : List Nat) (c i : Nat) : (i + 1 ≤ ks.length ∧ Builtin.Str.subAt ⟨ks.toArray⟩ ⟨#[c]⟩ i = true) ↔ hitB ks c i = true := by
  have e : Builtin.Str.subAt ⟨ks.toArray⟩ ⟨#[c]⟩ i = (ks.toArray.extract i (i + 1) == #[c]) := rfl
  rw [e]
  unfold hitB
  by_cases h : i < ks.length
  · have e2 : ks.toArray.extract i (i + 1) = #[ks[i]] := by
      apply Array.ext'
      simp only [List.extract_toArray, List.extract_eq_take_drop, Nat.add_sub_cancel_left]
      rw [List.drop_eq_getElem_cons h]
      rfl
    rw [e2, List.getElem?_eq_getElem h]
    simp
    omega
  · have e3 : ks[i]? = none := List.getElem?_eq_none (by omega)
    rw [e3]
    simp
    omega
theorem occ_walk (ks : List Nat) (c limit : Nat) : ∀ (l : List Nat) (acc : Array Nat) (free : Nat), (∀ i ∈ l, free ≤ i) → l.Pairwise (· < ·) → acc.size + l.length ≤ limit →
    (forIn l (acc, free) (StrLaws.occBody ⟨ks.toArray⟩ ⟨#[c]⟩ ks.length limit)).run.fst.toList = acc.toList ++ l.filter (hitB ks c)
  | [], acc, free, _, _, _ => by simp
  | a :: l, acc, free, hf, hp, hz => by
    have hf1 : free ≤ a := hf a List.mem_cons_self
    have hp2 := List.pairwise_cons.mp hp
    simp only [List.length_cons] at hz
    rw [List.forIn_cons]
    unfold StrLaws.occBody
    by_cases h : hitB ks c a = true
    · have hh := (at_one ks c a).mpr h
      rw [if_pos ⟨⟨⟨show acc.size < limit by omega, hf1⟩, hh.1⟩, hh.2⟩]
      have ih := occ_walk ks c limit l (acc.push a) (a + 1) (fun i hi => hp2.1 i hi) hp2.2 (by simp; omega)
      simp only [List.filter_cons, h, if_true]
      show (forIn l (acc.push a, a + 1) (StrLaws.occBody ⟨ks.toArray⟩ ⟨#[c]⟩ ks.length limit)).run.fst.toList = _
      rw [ih]
      simp
    · rw [if_neg fun z => h ((at_one ks c a).mp ⟨z.1.2, z.2⟩)]
      have ih := occ_walk ks c limit l acc free (fun i hi => hf i (List.mem_cons_of_mem _ hi)) hp2.2 (by omega)
      have h : hitB ks c a = false := by simpa using h
      simp only [List.filter_cons, h, Bool.false_eq_true, if_false]
      exact ih
def cutsL (c : Nat) (ks : List Nat) : List Nat := (List.range ks.length).filter (hitB ks c)
theorem occ_cuts (ks : List Nat) (c : Nat) : Builtin.Str.occurrences ⟨ks.toArray⟩ ⟨#[c]⟩ 0 ks.length (ks.length + 1) = cutsL c ks := by
  rw [StrLaws.occ_eq]
  have e := occ_walk ks c (ks.length + 1) (List.range' 0 (ks.length + 1 - 0)) #[] 0 (fun _ _ => Nat.zero_le _) (List.pairwise_lt_range' ..) (by simp)
  rw [e]
  have e2 : List.range' 0 (ks.length + 1 - 0) = List.range ks.length ++ [ks.length] := by
    rw [Nat.sub_zero, ← List.range_eq_range', List.range_succ]
  rw [e2, List.filter_append]
  have e3 : hitB ks c ks.length = false := by unfold hitB; rw [List.getElem?_eq_none (Nat.le_refl _)]; rfl
  simp [e3, cutsL]
def partL (ks : List Nat) (p : Nat × Nat) : List Nat := (ks.drop p.1).take (p.2 - p.1)
def partsL (c : Nat) (ks : List Nat) : List (List Nat) := ((0 :: (cutsL c ks).map (· + 1)).zip (cutsL c ks ++ [ks.length])).map (partL ks)
theorem cuts_lt {c : Nat} {ks : List Nat} {i : Nat} (h : i ∈ cutsL c ks) : i < ks.length := List.mem_range.mp (List.mem_filter.mp h).1
theorem cuts_snoc (c : Nat) (ks : List Nat) (k : Nat) : cutsL c (ks ++ [k]) = cutsL c ks ++ (if k = c then [ks.length] else []) := by
  unfold cutsL
  rw [List.length_append, List.length_singleton, List.range_succ, List.filter_append]
  congr 1
  · apply List.filter_congr
    intro i hi
    unfold hitB
    rw [List.getElem?_append_left (List.mem_range.mp hi)]
  · have e : hitB (ks ++ [k]) c ks.length = decide (k = c) := by
      unfold hitB
      rw [List.getElem?_append_right (Nat.le_refl _), Nat.sub_self]
      by_cases h : k = c <;> simp [h]
    simp only [List.filter_cons, List.filter_nil, e, decide_eq_true_eq]
theorem partL_snoc {ks : List Nat} {k : Nat} {p : Nat × Nat} (h : p.2 ≤ ks.length) : partL (ks ++ [k]) p = partL ks p := by
  unfold partL
  by_cases h1 : p.1 ≤ ks.length
  · rw [List.drop_append_of_le_length h1, List.take_append_of_le_length (by rw [List.length_drop]; omega)]
  · have : p.2 - p.1 = 0 := by omega
    rw [this]
    simp
theorem parts_snoc (c : Nat) (ks : List Nat) (k : Nat) : partsL c (ks ++ [k]) = stepF c (partsL c ks) k := by
  have hC : ∀ p ∈ (0 :: (cutsL c ks).map (· + 1)).zip (cutsL c ks ++ [ks.length]), p.2 ≤ ks.length := fun p hp => by
    have := (List.of_mem_zip hp).2
    rcases List.mem_append.mp this with h | h
    · exact Nat.le_of_lt (cuts_lt h)
    · simp at h; omega
  unfold stepF
  by_cases h : k = c
  · rw [if_pos h]
    unfold partsL
    rw [cuts_snoc, if_pos h, List.length_append, List.length_singleton, List.map_append, List.map_singleton, ← List.cons_append, List.zip_append (by simp), List.map_append]
    congr 1
    · exact List.map_congr_left fun p hp => partL_snoc (hC p hp)
    · simp [partL]
  · rw [if_neg h]
    unfold partsL
    rw [cuts_snoc, if_neg h, List.append_nil, List.length_append, List.length_singleton]
    generalize hS : (0 :: (cutsL c ks).map (· + 1)) = S
    have hl : S.length = (cutsL c ks).length + 1 := by rw [← hS]; simp
    have hne : S ≠ [] := by rw [← hS]; simp
    have hs : ∀ x ∈ S, x ≤ ks.length := fun x hx => by
      rw [← hS] at hx
      rcases List.mem_cons.mp hx with rfl | hx
      · exact Nat.zero_le _
      · obtain ⟨i, hi, rfl⟩ := List.mem_map.mp hx
        exact cuts_lt hi
    rw [hS] at hC
    have e : S = S.dropLast ++ [S.getLast hne] := (List.dropLast_concat_getLast hne).symm
    have hlast := hs _ (List.getLast_mem hne)
    generalize S.dropLast = S0 at e
    generalize S.getLast hne = s at e hlast
    subst e
    have hl0 : S0.length = (cutsL c ks).length := by simpa using hl
    rw [List.zip_append hl0, List.zip_append hl0, List.map_append, List.map_append]
    have e1 : List.map (partL (ks ++ [k])) (S0.zip (cutsL c ks)) = List.map (partL ks) (S0.zip (cutsL c ks)) := List.map_congr_left fun p hp => partL_snoc (Nat.le_of_lt (cuts_lt (List.of_mem_zip hp).2))
    rw [e1]
    have e2 : List.map (partL (ks ++ [k])) ([s].zip [ks.length + 1]) = [partL ks (s, ks.length) ++ [k]] := by
      simp only [List.zip_cons_cons, List.zip_nil_right, List.map_cons, List.map_nil, partL]
      rw [List.drop_append_of_le_length hlast]
      rw [List.take_of_length_le (by simp; omega), List.take_of_length_le (by simp)]
    rw [e2]
    simp
theorem parts_run (c : Nat) : ∀ (l ks : List Nat), partsL c (ks ++ l) = l.foldl (stepF c) (partsL c ks)
  | [], ks => by simp
  | k :: l, ks => by
    have e : ks ++ k :: l = (ks ++ [k]) ++ l := by simp
    rw [e, parts_run c l (ks ++ [k]), parts_snoc]
    rfl
theorem parts_eq (c : Nat) (ks : List Nat) : partsL c ks = splF c ks := parts_run c ks []
theorem split_eq (ks : List Nat) : Txt.split ⟨ks.toArray⟩ " " = (splF 32 ks).map fun w => ⟨w.toArray⟩ := by
  have e0 : (" " : Str) = ⟨#[32]⟩ := by decide +kernel
  rw [e0]
  have el : ((⟨ks.toArray⟩ : Str)).length = ks.length := List.size_toArray
  have el1 : ((⟨#[32]⟩ : Str)).length = 1 := rfl
  have gen : Builtin.Str.partsBetween ⟨ks.toArray⟩ (cutsL 32 ks) 1 = (splF 32 ks).map fun w => ⟨w.toArray⟩ := by
    unfold Builtin.Str.partsBetween
    rw [← parts_eq, el]
    simp only [partsL, List.map_map]
    apply List.map_congr_left
    intro p _
    show (Builtin.Str.strSub ⟨ks.toArray⟩ p.1 p.2) = ⟨(partL ks p).toArray⟩
    unfold Builtin.Str.strSub partL
    congr 1
    apply Array.ext'
    simp [List.extract_eq_take_drop]
  unfold Txt.split
  rw [el, el1, occ_cuts]
  split
  · rename_i h
    have hk : ks = [] := by
      simp only [Bool.or_eq_true, decide_eq_true_eq] at h
      rcases h with h | h
      · exact List.length_eq_zero_iff.mp (by omega)
      · exfalso
        have : Builtin.Str.strKind ⟨#[32]⟩ = 1 := by decide +kernel
        rw [this] at h
        unfold Builtin.Str.strKind at h
        split at h
        · omega
        · split at h <;> omega
    subst hk
    rfl
  · split
    · rename_i h
      have hc : cutsL 32 ks = [] := by simpa using h
      rw [← gen, hc]
      simp [Builtin.Str.partsBetween, el, Builtin.Str.strSub]
    · exact gen

def wD (w : List Nat) : D := .str ⟨w.toArray⟩
def wsD (ks : List Nat) : List D := (splF 32 ks).map wD
theorem spl_mem {c : Nat} {ks w : List Nat} (h : w ∈ splF c ks) : w.length ≤ ks.length ∧ ∀ k ∈ w, k ∈ ks := by
  rw [← parts_eq] at h
  obtain ⟨p, _, rfl⟩ := List.mem_map.mp h
  refine ⟨?_, fun k hk => List.mem_of_mem_drop (List.mem_of_mem_take hk)⟩
  unfold partL
  rw [List.length_take, List.length_drop]
  omega
theorem spl_len (c : Nat) (ks : List Nat) : (splF c ks).length ≤ ks.length + 1 := by
  rw [← parts_eq]
  unfold partsL
  rw [List.length_map, List.length_zip, List.length_cons, List.length_map]
  have : (cutsL c ks).length ≤ ks.length := by
    unfold cutsL
    exact Nat.le_trans (List.length_filter_le ..) (by simp)
  omega
theorem spl_ne (c : Nat) (ks : List Nat) : splF c ks ≠ [] := by
  rw [← parts_eq]
  unfold partsL
  have : 0 < (cutsL c ks ++ [ks.length]).length := by simp
  cases h : cutsL c ks ++ [ks.length] with
  | nil => rw [h] at this; simp at this
  | cons a b => simp
theorem mapO_wD (n : Nat) (c : Cs) : ∀ ws : List (List Nat), mapO (toPyC (n + 1) c) (ws.map wD) = some (ws.map fun w => .str ⟨w.toArray⟩)
  | [] => rfl
  | w :: ws => by
    have e : toPyC (n + 1) c (wD w) = some (.str ⟨w.toArray⟩) := rfl
    simp only [List.map_cons, mapO, e, mapO_wD n c ws]
theorem shownAll_w : ∀ ws : List (List Nat), PyData.shownAll (ws.map fun w => PyData.str ⟨w.toArray⟩) = ws.map fun w => reprText ⟨w.toArray⟩
  | [] => by simp [PyData.shownAll]
  | w :: ws => by simp [PyData.shownAll, PyData.shown, shownAll_w ws]
theorem show_w : ∀ ws : List (List Nat), PyData.showableAll (ws.map fun w => PyData.str ⟨w.toArray⟩) = true ∧ PyData.depthAll (ws.map fun w => PyData.str ⟨w.toArray⟩) = 0
  | [] => by simp [PyData.showableAll, PyData.depthAll]
  | w :: ws => by simp [PyData.showableAll, PyData.showable, PyData.depthAll, PyData.depth, show_w ws]
theorem textFrom_le (m : Nat) : ∀ (ts : List Str) (k : Nat) (acc : Str), (∀ t ∈ ts, t.length ≤ m) → (textFrom k acc ts).length ≤ acc.length + ts.length * (m + 2)
  | [], k, acc, _ => by simp [textFrom]
  | t :: ts, k, acc, h => by
    have ih := textFrom_le m ts (k + 1) (acc ++ (if k > 0 then ", " else "" : String) ++ t) fun x hx => h x (List.mem_cons_of_mem _ hx)
    have e : (acc ++ (if k > 0 then ", " else "" : String) ++ t).length = acc.length + (if k > 0 then 2 else 0) + t.length := by
      rw [strLen_append, strLen_append]
      split <;> rfl
    have ht := h t List.mem_cons_self
    rw [e] at ih
    have e3 : textFrom k acc (t :: ts) = textFrom (k + 1) (acc ++ (if k > 0 then ", " else "" : String) ++ t) ts := rfl
    rw [e3]
    simp only [List.length_cons, Nat.succ_mul]
    have e4 : (if k > 0 then 2 else 0) ≤ 2 := by split <;> omega
    omega
theorem okR_words {ks : List Nat} (hl : ks.length ≤ 1000) (hc : ∀ k ∈ ks, k < 1114112) : okR (.list ((splF 32 ks).map fun w => .str ⟨w.toArray⟩)) = true := by
  have hz : sizeLine = 16777216 := sizeLine_eq
  obtain ⟨h1, h2⟩ := show_w (splF 32 ks)
  have h3 : (listText ((splF 32 ks).map fun w => reprText ⟨w.toArray⟩)).length ≤ 1001 * 10004 + 2 := by
    unfold listText
    rw [strLen_append]
    have q := textFrom_le 10002 ((splF 32 ks).map fun w => reprText ⟨w.toArray⟩) 0 "[" fun t ht => by
      obtain ⟨w, hw, rfl⟩ := List.mem_map.mp ht
      obtain ⟨m1, m2⟩ := spl_mem hw
      have r := StrLaws.reprText_len ⟨w.toArray⟩ fun k hk => by
        have := hc k (m2 k (by simpa using hk))
        omega
      have e : ((⟨w.toArray⟩ : Str)).length = w.length := List.size_toArray
      rw [e] at r
      omega
    rw [List.length_map] at q
    have l := spl_len 32 ks
    have m : (splF 32 ks).length * (10002 + 2) ≤ 1001 * 10004 := Nat.mul_le_mul (by omega) (by omega)
    have a : ("[" : Str).length = 1 := rfl
    have b : ("]" : Str).length = 1 := rfl
    omega
  have d1 : (PyData.list ((splF 32 ks).map fun w => .str ⟨w.toArray⟩)).depth ≤ 60 := by simp only [PyData.depth]; rw [h2]; omega
  have d2 : (PyData.list ((splF 32 ks).map fun w => .str ⟨w.toArray⟩)).showable = true := by simp only [PyData.showable]; exact h1
  have d3 : (PyData.list ((splF 32 ks).map fun w => .str ⟨w.toArray⟩)).shown.length ≤ sizeLine := by simp only [PyData.shown, shownAll_w]; omega
  simp only [okR, Bool.and_eq_true, decide_eq_true_eq]
  exact ⟨⟨d1, d2⟩, d3⟩
/-- what the words of a text are told by -/
def badW (ks : List Nat) : Prop := 10 ∈ ks ∨ [] ∈ splF 32 ks
def WR (ks : List Nat) (d : D) (c : Cs) : Prop := (badW ks ∧ d = .non) ∨ (¬ badW ks ∧ ∃ j, d = .ref j ∧ c[j]? = some (.lst (wsD ks)))
open Classical in
noncomputable def shownW (ks : List Nat) : Str := if badW ks then "None" else PyData.shown (.list ((splF 32 ks).map fun w => .str ⟨w.toArray⟩))
theorem repr_non (c : Cs) : reprX [.non] c = .ok (.str "None") c := by
  show reprQ .non c = _
  unfold reprQ
  have e : toPyC 30 c .non = some .none := rfl
  rw [e]
  have e2 : okR .none = true := by decide +kernel
  simp only [e2, if_true]
  simp [PyData.shown]
theorem repr_wr {ks : List Nat} {d : D} {c : Cs} (hl : ks.length ≤ 1000) (hc : ∀ k ∈ ks, k < 1114112) (h : WR ks d c) : reprX [d] c = .ok (.str (shownW ks)) c := by
  rcases h with ⟨hb, rfl⟩ | ⟨hb, j, rfl, hj⟩
  · rw [repr_non, shownW, if_pos hb]
  · rw [shownW, if_neg hb]
    show reprQ (.ref j) c = _
    unfold reprQ
    have e : toPyC 30 c (.ref j) = some (.list ((splF 32 ks).map fun w => .str ⟨w.toArray⟩)) := by
      have e0 : toPyC 30 c (.ref j) = (match c[j]? with
        | some (.lst xs) => (mapO (toPyC 29 c) xs).map .list
        | some (.dct kvs) => (mapO (fun p => (toPyC 29 c p.2).map fun q => (kP p.1, q)) kvs).map .dict
        | some (.frz d) => toPyC 29 c d
        | _ => none) := rfl
      rw [e0, hj]
      show (mapO (toPyC (28 + 1) c) (wsD ks)).map PyData.list = _
      rw [wsD, mapO_wD]
      rfl
    rw [e]
    simp only [okR_words hl hc, if_true]
theorem in_nl (ks : List Nat) (c : Cs) : inX false (.str "\n") (.str ⟨ks.toArray⟩) c = .ok (.bl (decide (10 ∈ ks))) c := by
  have e : ("\n" : Str) = ⟨#[10]⟩ := by decide +kernel
  rw [e]
  show R.ok (D.bl (sgn false (decide (10 ∈ ks.toArray.toList)))) c = _
  rfl
theorem in_empty {j : Nat} {c : Cs} {ks : List Nat} (h : c[j]? = some (.lst (wsD ks))) : inX false (.str "") (.ref j) c = .ok (.bl (decide ([] ∈ splF 32 ks))) c := by
  have e0 : lstOf (.ref j) c = some (wsD ks) := by
    have e1 : lstOf (.ref j) c = (match c[j]? with
      | some (.lst xs) => some xs
      | _ => none) := rfl
    rw [e1, h]
  have e2 : inX false (.str "") (.ref j) c = (match lstOf (.ref j) c with
    | some xs => inL false (.str "") xs c
    | none => .stuck) := rfl
  rw [e2, e0]
  show inL false (.str "") (wsD ks) c = _
  unfold inL
  have f1 : (wsD ks).all flatD = true := by
    rw [List.all_eq_true]
    intro d hd
    obtain ⟨w, _, rfl⟩ := List.mem_map.mp hd
    rfl
  rw [if_pos ⟨rfl, f1⟩]
  congr 2
  show ((wsD ks).any fun y => eqF y (.str "")) = _
  unfold wsD
  rw [List.any_map]
  have e : ∀ w : List Nat, (eqF (wD w) (.str "")) = decide (w = []) := fun w => by
    show ((⟨w.toArray⟩ : Str) == "") = _
    rw [Bool.eq_iff_iff, beq_iff_eq, decide_eq_true_iff]
    constructor
    · intro h
      have h2 : (⟨w.toArray⟩ : Str).length = 0 := by rw [h]; rfl
      have h3 : w.toArray.size = 0 := h2
      simpa using h3
    · rintro rfl; rfl
  rw [Bool.eq_iff_iff, List.any_eq_true, decide_eq_true_iff]
  constructor
  · rintro ⟨w, hw, h⟩
    have h : eqF (wD w) (.str "") = true := h
    rw [e, decide_eq_true_iff] at h
    subst h
    exact hw
  · intro h
    exact ⟨[], h, by show eqF (wD []) (.str "") = true; rw [e]; rfl⟩
theorem split_words_ok {ks : List Nat} {c : Cs} {Q : D → Cs → Prop} (hl : ks.length ≤ 1000) (q : ∀ d c', WR ks d c' → (∃ x, c' = c ++ x) → (∀ j, d = .ref j → c.length ≤ j) → Q d c') : Ok (gsplit_words [.str ⟨ks.toArray⟩] c) Q := by
  have hz : sizeLine = 16777216 := sizeLine_eq
  have el : ((⟨ks.toArray⟩ : Str)).length = ks.length := List.size_toArray
  refine Ok.fun rfl ?_
  unfold csplit_words
  walk_at "ok"
  refine ⟨fun h => ?_, fun h => ?_⟩
  · have h : decide (10 ∈ ks) = true := h
    walk_at "ok"
    exact q _ _ (.inl ⟨.inl (of_decide_eq_true h), rfl⟩) ⟨[], by simp⟩ (fun j e => by cases e)
  · have h : decide (10 ∈ ks) = false := h
    walk_at "ok"
    have hn : ¬ 10 ∈ ks := of_decide_eq_false h
    have e2 : splitD (.str ⟨ks.toArray⟩) (.str " ") c = .ok (.ref c.length) (c ++ [.lst (wsD ks)]) := by
      show (if ((" " : Str).length == 0) = false ∧ (⟨ks.toArray⟩ : Str).length + 2 ≤ sizeLine then R.ok (D.ref c.length) (c ++ [.lst ((Txt.split ⟨ks.toArray⟩ " ").map D.str)]) else .stuck) = _
      rw [if_pos ⟨rfl, by omega⟩, split_eq, List.map_map]
      rfl
    refine Ok.of e2 ?_
    have hj : (c ++ [Cell.lst (wsD ks)])[c.length]? = some (.lst (wsD ks)) := by rw [List.getElem?_append_right (Nat.le_refl _), Nat.sub_self]; rfl
    walk_at "ok"
    refine Ok.of (in_empty hj) ?_
    walk_at "ok"
    refine ⟨fun h => ?_, fun h => ?_⟩
    · walk_at "ok"
      exact q _ _ (.inl ⟨.inr (of_decide_eq_true h), rfl⟩) ⟨_, rfl⟩ (fun j e => by cases e)
    · walk_at "ok"
      exact q _ _ (.inr ⟨fun z => z.elim hn (of_decide_eq_false h), _, rfl, hj⟩) ⟨_, rfl⟩ (fun j e => by cases e; exact Nat.le_refl _)

theorem chrs_eq (ks : List Nat) : chrs ⟨ks.toArray⟩ = ks.map fun k => D.str ⟨#[k]⟩ := rfl
theorem eq_sg (k j : Nat) (c : Cs) : eqX (.str ⟨#[k]⟩) (.str ⟨#[j]⟩) c = .ok (.bl (decide (k = j))) c := by
  show R.ok (D.bl (decide ((⟨#[k]⟩ : Str) = ⟨#[j]⟩))) c = _
  congr 3
  simp
theorem last_item (xs : List D) (x : D) (c : Cs) (j : Nat) (h : c[j]? = some (.lst (xs ++ [x]))) : itemD (.ref j) (.int (-1)) c = .ok x c := by
  have e : itemD (.ref j) (.int (-1)) c = itL (xs ++ [x]) (-1) c := by
    have e1 : itemD (.ref j) (.int (-1)) c = (match c[j]? with
      | some (.lst ds) => itL ds (-1) c
      | some (.frz (.lst ds)) => itL ds (-1) c
      | _ => .stuck) := by first | rfl | (unfold itemD; rfl)
    rw [e1, h]
  rw [e]
  have hl : ((xs ++ [x]).length : Int) = xs.length + 1 := by simp
  have e2 : ixN (xs ++ [x]).length (-1) = some xs.length := by
    unfold ixN
    rw [if_neg (by omega)]
    rw [if_pos (by omega)]
    congr 1
    omega
  unfold itL atI
  rw [e2]
  simp
theorem put_last (xs : List D) (x v : D) (c : Cs) (j : Nat) (h : c[j]? = some (.lst (xs ++ [x]))) : putD (.ref j) (.int (-1)) v c = .ok () (c.set j (.lst (xs ++ [v]))) := by
  have e1 : putD (.ref j) (.int (-1)) v c = (match c[j]? with
    | some (.lst ds) => match ixN ds.length (-1) with
      | some n => .ok () (c.set j (.lst (ds.set n v)))
      | none => .stuck
    | _ => .stuck) := rfl
  rw [e1, h]
  have hl : ((xs ++ [x]).length : Int) = xs.length + 1 := by simp
  have e2 : ixN (xs ++ [x]).length (-1) = some xs.length := by
    unfold ixN
    rw [if_neg (by omega)]
    rw [if_pos (by omega)]
    congr 1
    omega
  simp only [e2]
  congr 3
  simp
theorem due_words_ok {ks : List Nat} {c : Cs} {Q : D → Cs → Prop} (hl : ks.length ≤ 1000) (q : ∀ d c', WR ks d c' → (∃ x, c' = c ++ x) → Q d c') : Ok (g_law_due_words [.str ⟨ks.toArray⟩] c) Q := by
  have hz : sizeLine = 16777216 := sizeLine_eq
  refine Ok.fun rfl ?_
  unfold c_law_due_words
  walk_at "ok"
  have snl : Str.ofString "\n" = ⟨#[10]⟩ := by decide +kernel
  have ssp : Str.ofString " " = ⟨#[32]⟩ := by decide +kernel
  have hbad : ks = [] → badW ks := fun e => by subst e; exact .inr (List.mem_singleton.mpr rfl)
  refine ⟨fun h => ?_, fun h => ?_⟩
  · walk_at "ok"
    have h := of_decide_eq_true h
    have h2 : ks.toArray.size = 0 := by
      have := congrArg (fun s : Str => s.cps.size) h
      exact this
    exact q _ _ (.inl ⟨hbad (by simpa using h2), rfl⟩) ⟨[], by simp⟩
  · walk_at "ok"
    rw [chrs_eq]
    refine OkS.for (fun ds l c' => ∃ p r o, ks = p ++ r ∧ ds = r.map (fun k => D.str ⟨#[k]⟩) ∧ ¬ 10 ∈ p ∧ l = [some (.str ⟨ks.toArray⟩), some (.ref c.length), o] ∧ c' = c ++ [.lst (wsD p)]) ?_ ?_ _ _ _ ⟨[], ks, none, rfl, rfl, by simp, rfl, rfl⟩
    · rintro l c' ⟨p, r, o, hk, hr, hp, rfl, rfl⟩
      have hr : r = [] := by simpa using hr.symm
      subst hr
      rw [List.append_nil] at hk
      subst hk
      have hj : (c ++ [Cell.lst (wsD ks)])[c.length]? = some (.lst (wsD ks)) := by rw [List.getElem?_append_right (Nat.le_refl _), Nat.sub_self]; rfl
      walk_at "ok"
      refine Ok.of (in_empty hj) ?_
      walk_at "ok"
      refine ⟨fun h => ?_, fun h => ?_⟩
      · walk_at "ok"
        exact q _ _ (.inl ⟨.inr (of_decide_eq_true h), rfl⟩) ⟨_, rfl⟩
      · walk_at "ok"
        exact q _ _ (.inr ⟨fun z => z.elim hp (of_decide_eq_false h), _, rfl, hj⟩) ⟨_, rfl⟩
    · rintro d ds l c' ⟨p, r, o, hk, hr, hp, rfl, rfl⟩
      have hj : (c ++ [Cell.lst (wsD p)])[c.length]? = some (.lst (wsD p)) := by rw [List.getElem?_append_right (Nat.le_refl _), Nat.sub_self]; rfl
      have hset : ∀ x, (c ++ [Cell.lst (wsD p)]).set c.length x = c ++ [x] := fun x => by simp
      cases r with
      | nil => cases hr
      | cons k r =>
        cases hr
        have hk2 : ks = (p ++ [k]) ++ r := by rw [hk]; simp
        have hlp : p.length ≤ 1000 := by
          have := congrArg List.length hk
          simp only [List.length_append] at this
          omega
        have hsl := spl_len 32 p
        rw [snl, ssp]
        walk_at "okn"
        refine os_if (ok_t (ok_op (ok_var rfl (ok_c (Ok.of (eq_sg k 10 _) ⟨_, rfl, fun h => ?_, fun h => ?_⟩)))))
        · walk_at "ok"
          have h := of_decide_eq_true h
          subst h
          exact q _ _ (.inl ⟨.inl (by rw [hk]; simp), rfl⟩) ⟨_, rfl⟩
        · have h10 := of_decide_eq_false h
          have hp2 : ¬ 10 ∈ p ++ [k] := by
            intro z
            rcases List.mem_append.mp z with z | z
            · exact hp z
            · exact h10 (List.mem_singleton.mp z).symm
          walk_at "okn"
          refine os_if (ok_t (ok_op (ok_var rfl (ok_c (Ok.of (eq_sg k 32 _) ⟨_, rfl, fun h => ?_, fun h => ?_⟩)))))
          · have h := of_decide_eq_true h
            walk_at "ok"
            refine ⟨isL_ref hj, ?_⟩
            walk_at "ok"
            refine ok_append hj (by unfold wsD; rw [List.length_map]; omega) ?_
            rw [hset]
            refine ⟨p ++ [k], r, _, hk2, rfl, hp2, rfl, ?_⟩
            unfold wsD
            rw [splF_snoc, stepF, if_pos h, List.map_append]
            rfl
          · have h := of_decide_eq_false h
            have hne := spl_ne 32 p
            have e1 : splF 32 p = (splF 32 p).dropLast ++ [(splF 32 p).getLast hne] := (List.dropLast_concat_getLast hne).symm
            have e2 : (splF 32 p).getLastD [] = (splF 32 p).getLast hne := by rw [List.getLastD_eq_getLast?, List.getLast?_eq_some_getLast hne]; rfl
            have e3 : wsD p = ((splF 32 p).dropLast.map wD) ++ [wD ((splF 32 p).getLast hne)] := by
              conv => lhs; rw [wsD, e1, List.map_append]
              rfl
            have hm := spl_mem (c := 32) (ks := p) (List.getLast_mem hne)
            generalize (splF 32 p).getLast hne = w at e1 e2 e3 hm
            rw [e3] at hj hset ⊢
            walk_at "ok"
            refine Ok.of (last_item _ _ _ _ hj) ?_
            walk_at "ok"
            have ew : ((⟨w.toArray⟩ : Str)).length = w.length := List.size_toArray
            have ek : ((⟨#[k]⟩ : Str)).length = 1 := rfl
            refine ok_add_str (by omega) ?_
            walk_at "ok"
            refine Ok.of (put_last _ _ _ _ _ hj) ?_
            rw [hset]
            refine ⟨p ++ [k], r, _, hk2, rfl, hp2, rfl, ?_⟩
            unfold wsD
            rw [splF_snoc, stepF, if_neg h, e2, List.map_append]
            have e4 : (⟨w.toArray⟩ : Str) ++ ⟨#[k]⟩ = ⟨(w ++ [k]).toArray⟩ := by
              show (⟨w.toArray ++ #[k]⟩ : Str) = _
              congr 1
              apply Array.ext'
              simp
            rw [e4]
            rfl

open PySem.NumText (AllDigits digitsVal toDigits_all)
def dgB (k : Nat) : Bool := decide (48 ≤ k) && decide (k ≤ 57)
theorem allD_iff (ks : List Nat) : ks.all dgB = true ↔ AllDigits ks := by
  simp only [List.all_eq_true, dgB, Bool.and_eq_true, decide_eq_true_eq]
  rfl
theorem digits_list : ("0123456789" : Str).cps.toList = List.range' 48 10 := by decide +kernel
theorem in_digs (neg : Bool) (k : Nat) (c : Cs) : inX neg (.str ⟨#[k]⟩) (.str "0123456789") c = .ok (.bl (sgn neg (dgB k))) c := by
  have e1 : inX neg (.str ⟨#[k]⟩) (.str "0123456789") c = .ok (.bl (sgn neg (decide (k ∈ ("0123456789" : Str).cps.toList)))) c := rfl
  rw [e1, digits_list]
  have e2 : decide (k ∈ List.range' 48 10) = dgB k := by
    unfold dgB
    by_cases h1 : 48 ≤ k <;> by_cases h2 : k ≤ 57 <;> simp [List.mem_range'_1, h1, h2] <;> omega
  rw [e2]
theorem bls_map (f : Nat → Bool) : ∀ ks : List Nat, blsOf (ks.map fun k => .bl (f k)) = some (ks.map f)
  | [] => rfl
  | k :: ks => by simp [blsOf, bls_map f ks]
theorem foldl_lt : ∀ (l : List Nat) (a : Nat), AllDigits l → l.foldl (fun acc c => acc * 10 + (c - 48)) a < (a + 1) * 10 ^ l.length
  | [], a, _ => by simp
  | k :: l, a, h => by
    have hk := h.head
    have ih := foldl_lt l (a * 10 + (k - 48)) h.tail
    simp only [List.foldl_cons, List.length_cons]
    have e : (a + 1) * 10 ^ (l.length + 1) = (a * 10 + 10) * 10 ^ l.length := by rw [Nat.pow_succ', ← Nat.mul_assoc]; congr 1; omega
    rw [e]
    exact Nat.lt_of_lt_of_le ih (Nat.mul_le_mul_right _ (by omega))
theorem val_lt {ks : List Nat} (h : AllDigits ks) : digitsVal ks < 10 ^ ks.length := by
  have := foldl_lt ks 0 h
  simpa [digitsVal] using this
theorem val_log {ks : List Nat} (h : AllDigits ks) (hl : ks.length ≤ 200) : ((digitsVal ks : Nat) : Int).natAbs.log2 < 1920 := by
  rw [Int.natAbs_natCast]
  have h1 := val_lt h
  have h2 : 10 ^ ks.length ≤ 10 ^ 200 := Nat.pow_le_pow_right (by decide) hl
  have h3 : (10 : Nat) ^ 200 < 2 ^ 1920 := by decide +kernel
  by_cases h0 : digitsVal ks = 0
  · rw [h0]; decide
  · exact (Nat.log2_lt h0).mpr (by omega)
theorem str_len (ks : List Nat) (h : AllDigits ks) : (Str.ofString (toString ((digitsVal ks : Nat) : Int))).length = (match ks.dropWhile (· == 48) with
    | [] => 1
    | c :: r => (c :: r).length) := by
  have e : (Str.ofString (toString ((digitsVal ks : Nat) : Int))).length = (Str.ofString (toString ((digitsVal ks : Nat) : Int))).cps.toList.length := Array.length_toList.symm
  rw [e, PySem.W.KIN.signs_num, List.length_map, toDigits_all ks h]
  generalize ks.dropWhile (· == 48) = X
  cases X <;> simp
def lead0 (ks : List Nat) : Prop := ks.head? = some 48 ∧ ks ≠ [48]
theorem len_iff {ks : List Nat} (h : AllDigits ks) (hne : ks ≠ []) : (Str.ofString (toString ((digitsVal ks : Nat) : Int))).length = ks.length ↔ ¬ lead0 ks := by
  rw [str_len ks h]
  cases ks with
  | nil => exact absurd rfl hne
  | cons k r =>
    by_cases hk : k = 48
    · subst hk
      have e : (48 :: r).dropWhile (· == 48) = r.dropWhile (· == 48) := by simp [List.dropWhile]
      rw [e]
      cases r with
      | nil => simp [lead0]
      | cons a r2 =>
        have hle : ((a :: r2).dropWhile (· == 48)).length ≤ (a :: r2).length := (List.dropWhile_sublist _).length_le
        constructor
        · intro hh
          exfalso
          generalize (a :: r2).dropWhile (· == 48) = X at hh hle
          cases X with
          | nil =>
            simp only [List.length_cons] at hh
            omega
          | cons x X =>
            simp only [List.length_cons] at hh hle
            omega
        · intro hh
          exact absurd ⟨rfl, by simp⟩ hh
    · have hk2 : (k == 48) = false := by simpa using hk
      have e : (k :: r).dropWhile (· == 48) = k :: r := by simp [List.dropWhile, hk2]
      rw [e]
      simp [lead0, hk]
def goodN (ks : List Nat) (L : Int) : Prop := ks ≠ [] ∧ AllDigits ks ∧ ¬ lead0 ks ∧ ((digitsVal ks : Nat) : Int) ≤ L
def NR (ks : List Nat) (L : Int) (d : D) : Prop := (goodN ks L ∧ d = .int ((digitsVal ks : Nat) : Int)) ∨ (¬ goodN ks L ∧ d = .non)
theorem repr_nr {ks : List Nat} {L : Int} (hl : ks.length ≤ 200) : ∃ s, ∀ d, NR ks L d → ∀ c, reprX [d] c = .ok (.str s) c := by
  by_cases hg : goodN ks L
  · refine ⟨toString ((digitsVal ks : Nat) : Int), fun d hd c => ?_⟩
    rcases hd with ⟨_, rfl⟩ | ⟨h, _⟩
    · show reprQ (.int ((digitsVal ks : Nat) : Int)) c = _
      unfold reprQ
      have e : toPyC 30 c (.int ((digitsVal ks : Nat) : Int)) = some (.int ((digitsVal ks : Nat) : Int)) := rfl
      have hv := val_log hg.2.1 hl
      have o : okR (.int ((digitsVal ks : Nat) : Int)) = true := by
        have d1 : (PyData.int ((digitsVal ks : Nat) : Int)).depth ≤ 60 := by simp only [PyData.depth]; omega
        have d2 : (PyData.int ((digitsVal ks : Nat) : Int)).showable = true := by simp only [PyData.showable]; exact decide_eq_true hv
        have d3 : (PyData.int ((digitsVal ks : Nat) : Int)).shown.length ≤ sizeLine := by simp only [PyData.shown]; exact int_text_fits hv
        simp only [okR, Bool.and_eq_true, decide_eq_true_eq]
        exact ⟨⟨d1, d2⟩, d3⟩
      rw [e]
      simp only [o, if_true]
      simp [PyData.shown]
    · exact absurd hg h
  · refine ⟨"None", fun d hd c => ?_⟩
    rcases hd with ⟨h, _⟩ | ⟨_, rfl⟩
    · exact absurd h hg
    · exact repr_non c
theorem str_nil (ks : List Nat) : ((⟨ks.toArray⟩ : Str) = "") ↔ ks = [] := by
  constructor
  · intro h
    have h2 : ks.toArray.size = 0 := congrArg (fun s : Str => s.cps.size) h
    simpa using h2
  · rintro rfl; rfl
theorem str_zero (ks : List Nat) : ((⟨ks.toArray⟩ : Str) = "0") ↔ ks = [48] := by
  have e : ("0" : Str) = ⟨#[48]⟩ := by decide +kernel
  rw [e]
  constructor
  · intro h
    have h2 : ks.toArray.toList = [48] := congrArg (fun s : Str => s.cps.toList) h
    simpa using h2
  · rintro rfl; rfl
theorem parse_ok {ks : List Nat} {L : Int} {c : Cs} {Q : D → Cs → Prop} (hl : ks.length ≤ 200) (q : ∀ d, NR ks L d → Q d c) : Ok (gparse_integer [.str ⟨ks.toArray⟩, .int L] c) Q := by
  have hz : sizeLine = 16777216 := sizeLine_eq
  have el : ((⟨ks.toArray⟩ : Str)).length = ks.length := List.size_toArray
  have s0 : Str.ofString "0" = ⟨#[48]⟩ := by decide +kernel
  have comp : mLc (iStr' (mVar 0)) [3] (gN 3) tYesM (mOp (inX false) (mVar 3) (mC (.str "0123456789"))) [some (.str ⟨ks.toArray⟩), some (.int L), none, none] c = .ok (.lst (ks.map fun k => .bl (dgB k))) c := by
    have e := comp_pure (c := c) (e := mOp (inX false) (mVar 3) (mC (.str "0123456789"))) (g := gN 3) (p := tYesM) (lw := [some (.str ⟨ks.toArray⟩), some (.int L), none, none]) (P := fun _ => true) (F := fun d => match d with
      | .str t => .bl (dgB (t.cps.toList.headD 0))
      | d => d) (lt := fun d => [some (.str ⟨ks.toArray⟩), some (.int L), none, some d]) (chrs ⟨ks.toArray⟩) [] (by rw [chrs_eq]; simp; omega) (fun d hd => by
        rw [chrs_eq] at hd
        obtain ⟨k, _, rfl⟩ := List.mem_map.mp hd
        refine ⟨rfl, rfl, fun _ => ?_⟩
        simp only [mOp, mVar, mC, List.getElem?_cons_succ, List.getElem?_cons_zero, R.bind_ok, in_digs]
        rfl)
    simp only [mLc, iStr', mVar, List.getElem?_cons_zero, R.bind_ok, wipeL, List.set]
    rw [e, chrs_eq]
    simp only [R.bind_ok, List.nil_append]
    congr 2
    rw [List.filter_eq_self.mpr (by simp), List.map_map]
    rfl
  have eall : mCB allD (aCons (mLc (iStr' (mVar 0)) [3] (gN 3) tYesM (mOp (inX false) (mVar 3) (mC (.str "0123456789")))) aNil) [some (.str ⟨ks.toArray⟩), some (.int L), none, none] c = .ok (.bl (ks.all dgB)) c := by
    simp only [mCB, aCons, comp, R.bind_ok, aNil, allD, on1, allP, bls_map, List.all_map]
    rfl
  refine Ok.fun rfl ?_
  unfold cparse_integer
  refine os_seq (os_if (ok_tor (ok_tnot (ok_t (ok_cb (ok_acons (ok_var rfl (ok_acons (ok_c (ok_anil ⟨_, _, rfl, ⟨_, rfl, fun h => Bool.noConfusion h, fun _ => ?_⟩⟩)))))))))) 
  refine ok_tor (ok_t (ok_op (ok_var rfl (ok_c ⟨_, _, rfl, ⟨_, rfl, fun h => ⟨fun _ => ?_, fun h => Bool.noConfusion h⟩, fun h => ?_⟩⟩))))
  · walk_at "ok"
    exact q _ (.inr ⟨fun g => g.1 ((str_nil ks).mp (of_decide_eq_true h)), rfl⟩)
  · have hne : ks ≠ [] := fun e => of_decide_eq_false h ((str_nil ks).mpr e)
    refine ok_tnot (ok_t (Ok.of eall ⟨_, rfl, ?_⟩))
    cases ha : ks.all dgB with
    | false =>
      refine ⟨fun _ => ?_, fun h => Bool.noConfusion h⟩
      walk_at "ok"
      exact q _ (.inr ⟨fun g => absurd ((allD_iff ks).mpr g.2.1) (by rw [ha]; exact Bool.false_ne_true), rfl⟩)
    | true =>
      refine ⟨fun h => Bool.noConfusion h, fun _ => ?_⟩
      have had := (allD_iff ks).mp ha
      obtain ⟨k0, r, rfl⟩ := List.exists_cons_of_ne_nil hne
      walk_at "okn"
      have it : itemD (.str ⟨(k0 :: r).toArray⟩) (.int 0) c = .ok (.str ⟨#[k0]⟩) c := by
        show fits _ _ = _
        unfold fits
        rw [if_pos (by omega)]
        have ea : atI (k0 :: r) 0 = some k0 := by
          have hpos : (0 : Int) < ((r.length + 1 : Nat) : Int) := by omega
          simp [atI, ixN]
        show (match atI (k0 :: r) 0 with
          | some k => R.ok (D.str ⟨#[k]⟩) c
          | none => .stuck) = _
        rw [ea]
      have fin : ¬ lead0 (k0 :: r) → OkS (sSeq (sIfNm 2 gtD (mCB intFD (aCons (mVar 0) aNil)) (mVar 1) (sRet (mC D.non)) sNil) (sRet (mVar 2)) [some (.str ⟨(k0 :: r).toArray⟩), some (.int L), none, none] c) (fun f c => match f with
          | .rt d => Q d c
          | .nx _ => Q .non c
          | _ => False) := fun hnl => by
        have ei : intFD [.str ⟨(k0 :: r).toArray⟩] c = .ok (.int ((digitsVal (k0 :: r) : Nat) : Int)) c := by
          have e1 := intText_digits (x := ⟨(k0 :: r).toArray⟩) had (by simp) (by omega)
          show (match PySem.intText? ⟨(k0 :: r).toArray⟩ with
            | some n => if (⟨(k0 :: r).toArray⟩ : Str).length ≤ 640 then R.ok (D.int n) c else .stuck
            | none => .stuck) = _
          rw [e1]
          exact if_pos (by omega)
        walk_at "okn"
        refine Ok.of ei ?_
        walk_at "okn"
        refine ⟨fun h => ?_, fun h => ?_⟩
        · have h := of_decide_eq_true h
          walk_at "ok"
          exact q _ (.inr ⟨fun g => by have := g.2.2.2; omega, rfl⟩)
        · have h := of_decide_eq_false h
          walk_at "ok"
          exact q _ (.inl ⟨⟨hne, had, hnl, by omega⟩, rfl⟩)
      refine os_if (ok_tand (ok_t (ok_op (ok_op (ok_var rfl (ok_c (Ok.of it (ok_c ?_))))))))
      rw [s0]
      refine Ok.of (eq_sg k0 48 c) ⟨_, rfl, fun h => ?_, fun h => ⟨fun h => Bool.noConfusion h, fun _ => ?_⟩⟩
      · have h48 := of_decide_eq_true h
        refine ok_t (ok_op (ok_var rfl (ok_c ?_)))
        rw [← s0]
        refine ⟨_, _, rfl, ⟨_, rfl, fun h => ?_, fun h => ?_⟩⟩
        · walk_at "ok"
          have hn0 : ¬ ((⟨(k0 :: r).toArray⟩ : Str) = "0") := fun e => by
            have : (!decide ((⟨(k0 :: r).toArray⟩ : Str) = "0")) = false := by rw [decide_eq_true e]; rfl
            exact absurd (this.symm.trans h) Bool.false_ne_true
          exact q _ (.inr ⟨fun g => g.2.2.1 ⟨by rw [h48]; rfl, fun e => hn0 ((str_zero _).mpr e)⟩, rfl⟩)
        · have h0 : (⟨(k0 :: r).toArray⟩ : Str) = "0" := by
            have h : (!decide ((⟨(k0 :: r).toArray⟩ : Str) = "0")) = false := h
            simpa using h
          refine os_nil (fin fun z => z.2 ((str_zero _).mp h0))
      · have h48 := of_decide_eq_false h
        exact os_nil (fin fun z => h48 (by simpa [lead0] using z.1))

open PySem.NumText (AllDigits digitsVal digitsVal_snoc)
theorem mapO_sg (n : Nat) (c : Cs) : ∀ js : List Nat, mapO (toPyC (n + 1) c) (js.map fun k => D.str ⟨#[k]⟩) = some (js.map fun k => .str ⟨#[k]⟩)
  | [] => rfl
  | w :: ws => by
    have e : toPyC (n + 1) c (.str ⟨#[w]⟩) = some (.str ⟨#[w]⟩) := rfl
    simp only [List.map_cons, mapO, e, mapO_sg n c ws]
theorem shaped_sg (ks : List Nat) (h : ∀ k ∈ ks, k < 1114112) : SeqAt.shaped (.list (ks.map fun k => PyData.str ⟨#[k]⟩)) = true := by
  have h1 : ∀ ks : List Nat, (∀ k ∈ ks, k < 1114112) → PyData.canLayAll0 (ks.map fun k => PyData.str ⟨#[k]⟩) = true := fun ks => by
    induction ks with
    | nil => intro _; simp [PyData.canLayAll0]
    | cons k ks ih =>
      intro h
      have hk := h k List.mem_cons_self
      simp [PyData.canLayAll0, ih fun x hx => h x (List.mem_cons_of_mem _ hx), PyData.canLay0, PyData.strOk, hk]
  have h2 : ∀ ks : List Nat, PyData.depthAll (ks.map fun k => PyData.str ⟨#[k]⟩) = 0 := fun ks => by
    induction ks with
    | nil => simp [PyData.depthAll]
    | cons k ks ih => simp [PyData.depthAll, ih, PyData.depth]
  simp [SeqAt.shaped, PyData.canLay0, h1 ks h, PyData.depth, h2]
theorem ne_nil_sg (js : List Nat) (h : ∀ k ∈ js, k < 1114112) (c : Cs) : neX (.lst (js.map fun k => D.str ⟨#[k]⟩)) (.lst []) c = .ok (.bl (!js.isEmpty)) c := by
  show eqQ true (.lst (js.map fun k => D.str ⟨#[k]⟩)) (.lst []) c = _
  have e1 : toPyC 30 c (.lst (js.map fun k => D.str ⟨#[k]⟩)) = some (.list (js.map fun k => .str ⟨#[k]⟩)) := by
    show (mapO (toPyC (28 + 1) c) _).map PyData.list = _
    rw [mapO_sg]
    rfl
  have e2 : toPyC 30 c (.lst []) = some (.list []) := rfl
  unfold eqQ
  rw [e1, e2]
  have h0 : SeqAt.shaped (.list []) = true := shaped_sg [] (by simp)
  simp only [shaped_sg js h, h0, and_self, if_true]
  cases js <;> simp [PyData.eqv, PyData.eqvAll]
theorem index_dg {k : Nat} (h : 48 ≤ k ∧ k ≤ 57) (c : Cs) : indexD (.str "0123456789") (.str ⟨#[k]⟩) c = .ok (.int ((k - 48 : Nat) : Int)) c := by
  have all : (List.range' 48 10).all (fun k => Txt.index0 "0123456789" ⟨#[k]⟩ == some (k - 48)) = true := by decide +kernel
  have e : Txt.index0 "0123456789" ⟨#[k]⟩ = some (k - 48) := by
    have := List.all_eq_true.mp all k (by simp [List.mem_range'_1]; omega)
    simpa using this
  show (match Txt.index0 "0123456789" ⟨#[k]⟩ with
    | some k => R.ok (D.int (k : Nat)) c
    | none => .stuck) = _
  rw [e]
theorem due_num_ok {ks : List Nat} {L : Int} {c : Cs} {Q : D → Cs → Prop} (hl : ks.length ≤ 200) (hc : ∀ k ∈ ks, k < 1114112) (q : ∀ d, NR ks L d → Q d c) : Ok (g_law_due_number [.str ⟨ks.toArray⟩, .int L] c) Q := by
  have hz : sizeLine = 16777216 := sizeLine_eq
  have el : ((⟨ks.toArray⟩ : Str)).length = ks.length := List.size_toArray
  have comp : mLc (iStr' (mVar 0)) [3] (gN 3) (mT (mOp (inX true) (mVar 3) (mC (.str "0123456789")))) (mVar 3) [some (.str ⟨ks.toArray⟩), some (.int L), none, none] c = .ok (.lst ((ks.filter fun k => !dgB k).map fun k => D.str ⟨#[k]⟩)) c := by
    have e := comp_pure (c := c) (e := mVar 3) (g := gN 3) (p := mT (mOp (inX true) (mVar 3) (mC (.str "0123456789")))) (lw := [some (.str ⟨ks.toArray⟩), some (.int L), none, none]) (P := fun d => match d with
      | .str t => !dgB (t.cps.toList.headD 0)
      | _ => false) (F := fun d => d) (lt := fun d => [some (.str ⟨ks.toArray⟩), some (.int L), none, some d]) (chrs ⟨ks.toArray⟩) [] (by rw [chrs_eq]; simp; omega) (fun d hd => by
        rw [chrs_eq] at hd
        obtain ⟨k, _, rfl⟩ := List.mem_map.mp hd
        refine ⟨rfl, ?_, fun _ => rfl⟩
        simp only [mT, mOp, mVar, mC, List.getElem?_cons_succ, List.getElem?_cons_zero, R.bind_ok, in_digs]
        rfl)
    simp only [mLc, iStr', mVar, List.getElem?_cons_zero, R.bind_ok, wipeL, List.set]
    rw [e, chrs_eq]
    simp only [R.bind_ok, List.nil_append]
    congr 2
    rw [List.filter_map, List.map_map]
    rfl
  have hf : ∀ k ∈ ks.filter (fun k => !dgB k), k < 1114112 := fun k h => hc k (List.mem_filter.mp h).1
  have hall : (ks.filter fun k => !dgB k).isEmpty = ks.all dgB := by
    clear hf comp el hl hc q
    induction ks with
    | nil => rfl
    | cons k ks ih => cases q : dgB k <;> simp [q, ih]
  have ene : mOp neX (mLc (iStr' (mVar 0)) [3] (gN 3) (mT (mOp (inX true) (mVar 3) (mC (.str "0123456789")))) (mVar 3)) (mLst aNil) [some (.str ⟨ks.toArray⟩), some (.int L), none, none] c = .ok (.bl (!ks.all dgB)) c := by
    have e0 : mLst aNil [some (.str ⟨ks.toArray⟩), some (.int L), none, none] c = .ok (.lst []) c := rfl
    simp only [mOp, comp, R.bind_ok, e0, ne_nil_sg _ hf, hall]
  refine Ok.fun rfl ?_
  unfold c_law_due_number
  refine os_seq (os_if (ok_tor (ok_tnot (ok_t (ok_cb (ok_acons (ok_var rfl (ok_acons (ok_c (ok_anil ⟨_, _, rfl, ⟨_, rfl, fun h => Bool.noConfusion h, fun _ => ?_⟩⟩)))))))))) 
  refine ok_tor (ok_t (ok_op (ok_var rfl (ok_c ⟨_, _, rfl, ⟨_, rfl, fun h => ⟨fun _ => ?_, fun h => Bool.noConfusion h⟩, fun h => ?_⟩⟩))))
  · walk_at "ok"
    exact q _ (.inr ⟨fun g => g.1 ((str_nil ks).mp (of_decide_eq_true h)), rfl⟩)
  · have hne : ks ≠ [] := fun e => of_decide_eq_false h ((str_nil ks).mpr e)
    refine ok_t (Ok.of ene ⟨_, rfl, ?_⟩)
    cases ha : ks.all dgB with
    | false =>
      refine ⟨fun _ => ?_, fun h => Bool.noConfusion h⟩
      walk_at "ok"
      exact q _ (.inr ⟨fun g => absurd ((allD_iff ks).mpr g.2.1) (by rw [ha]; exact Bool.false_ne_true), rfl⟩)
    | true =>
      refine ⟨fun h => Bool.noConfusion h, fun _ => ?_⟩
      have had := (allD_iff ks).mp ha
      walk_at "ok"
      rw [chrs_eq]
      refine OkS.for (fun ds l c' => ∃ p r o, ks = p ++ r ∧ ds = r.map (fun k => D.str ⟨#[k]⟩) ∧ l = [some (.str ⟨ks.toArray⟩), some (.int L), some (.int ((digitsVal p : Nat) : Int)), o] ∧ c' = c) ?_ ?_ _ _ _ ⟨[], ks, none, rfl, rfl, rfl, rfl⟩
      · rintro l c' ⟨p, r, o, hk, hr, rfl, rfl⟩
        have hr : r = [] := by simpa using hr.symm
        subst hr
        rw [List.append_nil] at hk
        subst hk
        have hv := val_log had hl
        have hli := len_iff had hne
        have hsl := int_text_fits hv
        have es : strFD [.int ((digitsVal ks : Nat) : Int)] c' = .ok (.str (Str.ofString (toString ((digitsVal ks : Nat) : Int)))) c' := if_pos hv
        walk_at "ok"
        refine Ok.of es ?_
        walk_at "ok"
        refine ok_len_str hsl ?_
        walk_at "ok"
        refine ok_len_str (by omega) ?_
        walk_at "ok"
        refine ⟨fun h => ?_, fun h => ⟨fun h => Bool.noConfusion h, fun _ => ?_⟩⟩
        · have h := of_decide_eq_true h
          have hnl : ¬ lead0 ks := hli.mp (by omega)
          refine ok_t (ok_op (ok_var rfl (ok_var rfl ⟨_, _, rfl, ⟨_, rfl, fun h => ?_, fun h => ?_⟩⟩)))
          · exact ok_var rfl (q _ (.inl ⟨⟨hne, had, hnl, of_decide_eq_true h⟩, rfl⟩))
          · exact ok_c (q _ (.inr ⟨fun g => of_decide_eq_false h g.2.2.2, rfl⟩))
        · have h := of_decide_eq_false h
          exact ok_c (q _ (.inr ⟨fun g => h (by have := hli.mpr g.2.2.1; omega), rfl⟩))
      · rintro d ds l c' ⟨p, r, o, hk, hr, rfl, rfl⟩
        cases r with
        | nil => cases hr
        | cons k r =>
          cases hr
          have hkd : 48 ≤ k ∧ k ≤ 57 := had k (by rw [hk]; simp)
          walk_at "ok"
          refine Ok.of (index_dg hkd _) ?_
          refine ⟨_, _, rfl, ⟨p ++ [k], r, some (.str ⟨#[k]⟩), by rw [hk]; simp, rfl, ?_, rfl⟩⟩
          have e : 10 * ((digitsVal p : Nat) : Int) + ((k - 48 : Nat) : Int) = ((digitsVal (p ++ [k]) : Nat) : Int) := by
            rw [digitsVal_snoc]
            push_cast
            omega
          show [some (D.str ⟨ks.toArray⟩), some (D.int L), some (D.int (10 * ((digitsVal p : Nat) : Int) + ((k - 48 : Nat) : Int))), some (D.str ⟨#[k]⟩)] = _
          rw [e]

def plB : D → Bool
  | .non => true
  | .bl _ => true
  | .int _ => true
  | .str s => decide (s.length ≤ 100) && s.cps.toList.all fun k => decide (k < 1114112)
  | .lst _ => true
  | .tup _ => true
  | .dct _ => true
  | _ => false
theorem nonstr {d : D} (h : plB d = true) (hs : ∀ s, d ≠ .str s) (c : Cs) : (gsplit_words [d] c = .ok .non c ∧ g_law_due_words [d] c = .ok .non c) ∧ ∀ L : Int, gparse_integer [d, .int L] c = .ok .non c ∧ g_law_due_number [d, .int L] c = .ok .non c := by
  cases d with
  | str s => exact absurd rfl (hs s)
  | ro => cases h
  | ref => cases h
  | obj => cases h
  | adr => cases h
  | ty => cases h
  | _ => exact ⟨⟨rfl, rfl⟩, fun L => ⟨rfl, rfl⟩⟩
theorem sb_ks {s : Str} {n : Nat} (h : SB n s) : ∃ ks : List Nat, s = ⟨ks.toArray⟩ ∧ ks.length ≤ n ∧ ∀ k ∈ ks, k < 1114112 :=
  ⟨s.cps.toList, by simp, by have := h.1; rw [Array.length_toList]; exact this, h.2⟩
theorem pl_sb {s : Str} (h : plB (.str s) = true) : SB 100 s := by
  simp only [plB, Bool.and_eq_true, decide_eq_true_eq, List.all_eq_true] at h
  exact ⟨h.1, h.2⟩
/-- a value, its words twice: both the same -/
def Both (d : D) : Prop := ∃ s, ∀ c : Cs, (∀ Q : D → Cs → Prop, (∀ d1 c', (∀ x, reprX [d1] (c' ++ x) = .ok (.str s) (c' ++ x)) → (∃ x, c' = c ++ x) → (d1 = .non ∨ ∃ j xs, d1 = .ref j ∧ c.length ≤ j ∧ c'[j]? = some (.lst xs) ∧ xs.length ≤ 1000) → Q d1 c') → Ok (gsplit_words [d] c) Q) ∧
    ∀ Q : D → Cs → Prop, (∀ d1 c', reprX [d1] c' = .ok (.str s) c' → (∃ x, c' = c ++ x) → Q d1 c') → Ok (g_law_due_words [d] c) Q
theorem both_str {s : Str} (hs : SB 500 s) : Both (.str s) := by
  obtain ⟨ks, e2, hl, hc⟩ := sb_ks hs
  subst e2
  refine ⟨shownW ks, fun c => ⟨fun Q q => split_words_ok (by omega) fun d1 c' hw hx hj => ?_, fun Q q => due_words_ok (by omega) fun d1 c' hw hx => q d1 c' (repr_wr (by omega) hc hw) hx⟩⟩
  have ext : ∀ x, WR ks d1 (c' ++ x) := fun x => by
    rcases hw with h | ⟨h1, j, e, hj⟩
    · exact .inl h
    · exact .inr ⟨h1, j, e, by rw [List.getElem?_append_left (List.getElem?_eq_some_iff.mp hj).1]; exact hj⟩
  refine q d1 c' (fun x => repr_wr (by omega) hc (ext x)) hx ?_
  rcases hw with ⟨_, e⟩ | ⟨_, j, e, hcj⟩
  · exact .inl e
  · exact .inr ⟨j, _, e, hj j e, hcj, by unfold wsD; rw [List.length_map]; have := spl_len 32 ks; omega⟩
theorem both_non {d : D} (h : plB d = true) (hs : ∀ s, d ≠ .str s) : Both d :=
  ⟨"None", fun c => ⟨fun Q q => Ok.of (nonstr h hs c).1.1 (q _ _ (fun x => repr_non _) ⟨[], by simp⟩ (.inl rfl)), fun Q q => Ok.of (nonstr h hs c).1.2 (q _ _ (repr_non _) ⟨[], by simp⟩)⟩⟩
theorem both_pl {d : D} (h : plB d = true) : Both d := by
  cases d with
  | str s => exact both_str ((pl_sb h).mono (by omega))
  | _ => exact both_non h nofun
/-- a value, its number twice: both the same -/
def BothN (d : D) : Prop := ∀ L : Int, ∃ s, ∀ c : Cs, (∀ Q : D → Cs → Prop, (∀ d1, (∀ c, reprX [d1] c = .ok (.str s) c) → Q d1 c) → Ok (gparse_integer [d, .int L] c) Q) ∧
    ∀ Q : D → Cs → Prop, (∀ d1, (∀ c, reprX [d1] c = .ok (.str s) c) → Q d1 c) → Ok (g_law_due_number [d, .int L] c) Q
theorem bothN_str {s : Str} (hs : SB 200 s) : BothN (.str s) := fun L => by
  obtain ⟨ks, e2, hl, hc⟩ := sb_ks hs
  subst e2
  obtain ⟨s, h⟩ := repr_nr (ks := ks) (L := L) hl
  exact ⟨s, fun c => ⟨fun Q q => parse_ok hl fun d hd => q d (h d hd), fun Q q => due_num_ok hl hc fun d hd => q d (h d hd)⟩⟩
theorem bothN_pl {d : D} (h : plB d = true) : BothN d := by
  cases d with
  | str s => exact bothN_str ((pl_sb h).mono (by omega))
  | ro => cases h
  | ref => cases h
  | obj => cases h
  | adr => cases h
  | ty => cases h
  | _ => exact fun L => ⟨"None", fun c => ⟨fun Q q => Ok.of rfl (q _ fun c => repr_non c), fun Q q => Ok.of rfl (q _ fun c => repr_non c)⟩⟩

theorem odd_ok {c : Cs} {k : Nat} {n : Int} {Q : D → Cs → Prop} (h : Bx c k n) (hn : n ≤ 1000000)
    (q : ∀ (d : D) (c' : Cs), plB d = true → Bx c' k (n + 1) → c'.length = c.length → (∀ j, j ≠ k → c'[j]? = c[j]?) → Q d c') : Ok (g_law_odd [.ref k] c) Q := by
  refine Ok.fun rfl ?_
  unfold c_law_odd
  walk_at "ok"
  refine take_ok h hn (by decide) (by decide) fun i c' h0 h1 hb hl hf => ?_
  exact ok_item_mem h0 h1 fun d hd => q d c' (List.all_eq_true.mp (by decide +kernel) d hd) hb hl hf
theorem bent_ok {c : Cs} {k : Nat} {n : Int} {t : Str} {Q : D → Cs → Prop} (h : Bx c k n) (hn : n ≤ 900000) (ht : SB 40 t)
    (q : ∀ (s : Str) (c' : Cs), SB 100 s → Bx c' k (n + 3) → c'.length = c.length → (∀ j, j ≠ k → c'[j]? = c[j]?) → Q (.str s) c') : Ok (g_law_bent [.ref k, .str t] c) Q := by
  have hz : sizeLine = 16777216 := sizeLine_eq
  have ht1 := ht.1
  refine Ok.fun rfl ?_
  unfold c_law_bent
  walk_at "ok"
  refine ok_len_str (by omega) ?_
  walk_at "ok"
  refine take_ok h (by omega) (by omega) (by omega) fun i1 c1 h0 h1 b1 l1 f1 => ?_
  walk_at "ok"
  refine take_ok b1 (by omega) (by decide) (by decide) fun i2 c2 g0 g1 b2 l2 f2 => ?_
  walk_at "ok"
  refine take_ok b2 (by omega) (by decide) (by decide) fun i3 c3 e0 e1 b3 l3 f3 => ?_
  refine ok_item_str (by decide +kernel) e0 e1 fun x hx => ?_
  have hx : x < 1114112 := of_decide_eq_true (List.all_eq_true.mp (show (((" !" : Str) ++ "\"" ++ "#$&'()*+,-./0123456789:;<=>?@ABCDEFGHIJKLMNOPQRSTUVWXYZ" ++ "[\\]^_`abcdefghijklmnopqrstuvwxyz{|}~\n" : Str).cps.toList.all fun k => decide (k < 1114112)) = true by decide +kernel) x hx)
  have sx := SB.one hx
  walk_at "ok"
  refine ok_slice_str (by omega) ?_
  walk_at "ok"
  have sa := ht.cut none (some i1)
  have sb := ht.cut (some i1) none
  have sc := ht.cut (some (i1 + 1)) none
  have sa1 := sa.1
  have sb1 := sb.1
  have sc1 := sc.1
  have sx1 := sx.1
  refine ok_add_str (by omega) ?_
  walk_at "ok"
  refine ok_slice_str (by omega) ?_
  walk_at "ok"
  have sax := sa.app sx
  have sax1 := sax.1
  refine ok_add_str (by omega) ?_
  walk_at "ok"
  refine ok_slice_str (by omega) ?_
  walk_at "ok"
  refine ok_slice_str (by omega) ?_
  walk_at "ok"
  refine ok_add_str (by omega) ?_
  walk_at "ok"
  refine ok_slice_str (by omega) ?_
  walk_at "ok"
  refine ok_add_str (by omega) ?_
  walk_at "ok"
  refine ok_slice_str (by omega) ?_
  walk_at "ok"
  have saxc := sax.app sc
  have saxc1 := saxc.1
  refine ok_add_str (by omega) ?_
  walk_at "ok"
  refine ok_item_mem g0 (by exact g1) fun d hd => ?_
  have hd : d ∈ [D.str t, .str (cutS t none (some i1) ++ ⟨#[x]⟩ ++ cutS t (some i1) none), .str (cutS t none (some i1) ++ cutS t (some (i1 + 1)) none), .str (cutS t none (some i1) ++ ⟨#[x]⟩ ++ cutS t (some (i1 + 1)) none)] := hd
  simp only [List.mem_cons, List.not_mem_nil, or_false] at hd
  have fin := fun (s : Str) (hs : SB 100 s) => q s c3 hs (bx_mono b3 (by omega)) (by omega) fun j hj => by rw [f3 j hj, f2 j hj, f1 j hj]
  rcases hd with rfl | rfl | rfl | rfl
  · exact fin _ (ht.mono (by omega))
  · exact fin _ ((sax.app sb).mono (by omega))
  · exact fin _ ((sa.app sc).mono (by omega))
  · exact fin _ (saxc.mono (by omega))
theorem signs_ok {l : Ls} {c : Cs} {k j : Nat} {n : Int} {e : ME} {Q : D → Cs → Prop} (m : Nat) (hm : m ≤ 40) (hn : n ≤ 900000)
    (he : ∀ (d : D) (c1 : Cs) (n1 : Int), n1 ≤ 990000 → Bx c1 k n1 → Ok (e ((wipeL l [j]).set j (some d)) c1) fun x c2 => ∃ z : Nat, x = .str ⟨#[z]⟩ ∧ z < 1114112 ∧ Bx c2 k (n1 + 1) ∧ c2.length = c1.length ∧ ∀ i, i ≠ k → c2[i]? = c1[i]?)
    (hb : Bx c k n) (q : ∀ (t : Str) (c' : Cs), SB m t → Bx c' k (n + m) → c'.length = c.length → (∀ i, i ≠ k → c'[i]? = c[i]?) → Q (.str t) c') :
    Ok (compD (gN j) tYesM e (wipeL l [j]) (rangeL 0 m) [] c) fun xs c2 => Ok (joinD (.str "") (.lst xs) c2) Q := by
  have hz : sizeLine = 16777216 := sizeLine_eq
  refine comp_ok (fun ds acc c' => (∃ ks : List Nat, acc = ks.map (fun k => .str ⟨#[k]⟩) ∧ ks.length + ds.length = m ∧ (∀ k ∈ ks, k < 1114112) ∧ Bx c' k (n + ks.length)) ∧ c'.length = c.length ∧ ∀ j, j ≠ k → c'[j]? = c[j]?) ?_ ?_ _ _ _ ⟨⟨[], rfl, by simp [rangeL_len], by simp, by simpa using hb⟩, rfl, fun _ _ => rfl⟩
  · rintro acc c' ⟨⟨ks, rfl, hl, hc, b⟩, hlen, hf⟩
    simp only [List.length_nil, Nat.add_zero] at hl
    have e1 : ((ks.map fun k => (⟨#[k]⟩ : Str)).map (·.length)).sum = ks.length := by
      clear hl hc b
      induction ks with
      | nil => rfl
      | cons k ks ih =>
        simp only [List.map_cons, List.sum_cons, List.length_cons, ih]
        show 1 + ks.length = _
        omega
    refine ok_join (strs_ones ks) ?_ ?_
    · rw [e1]
      show ks.length + _ * 0 ≤ 16777216
      omega
    · rw [join_ones']
      refine q _ _ ⟨?_, fun x hx => hc x (by simpa using hx)⟩ (bx_mono b (by omega)) hlen hf
      show (List.toArray ks).size ≤ m
      rw [List.size_toArray]
      omega
  · rintro d ds acc c' ⟨⟨ks, rfl, hl, hc, b⟩, hlen, hf⟩
    simp only [List.length_cons] at hl
    refine ok_gn (ok_ret ?_)
    refine (he d c' _ (by omega) b).mono ?_
    rintro x c2 ⟨z, rfl, hz1, b2, l2, f2⟩
    refine ⟨by simp; omega, ⟨ks ++ [z], by simp, by simp; omega, fun y hy => ?_, bx_mono b2 (by simp; omega)⟩, by omega, fun j hj => by rw [f2 j hj, hf j hj]⟩
    rcases List.mem_append.mp hy with h | h
    · exact hc y h
    · simp at h
      rw [h]
      exact hz1

theorem sb_space : SB 1 " " := ⟨by decide +kernel, fun k hk => of_decide_eq_true (List.all_eq_true.mp (show ((" " : Str).cps.toList.all fun k => decide (k < 1114112)) = true by decide +kernel) k hk)⟩
theorem sb_sjoin {m : Nat} : ∀ ys : List Str, (∀ y ∈ ys, SB m y) → SB (ys.length * (m + 1)) (Str.join " " ys)
  | [], _ => ⟨Nat.zero_le _, fun k hk => by cases hk⟩
  | [x], h => (h x List.mem_cons_self).mono (by simp)
  | x :: y :: r, h => by
    have ih := sb_sjoin (y :: r) fun z hz => h z (List.mem_cons_of_mem _ hz)
    have e : Str.join " " (x :: y :: r) = x ++ " " ++ Str.join " " (y :: r) := rfl
    rw [e]
    refine (((h x List.mem_cons_self).app sb_space).app ih).mono ?_
    simp only [List.length_cons, Nat.add_mul]
    omega
theorem sb_join {m : Nat} (ys : List Str) (h : ∀ y ∈ ys, SB m y) : SB (ys.length * (m + 1)) (Txt.join " " ys) := by
  have e : Txt.join " " ys = Str.join " " ys := StrLaws.glued_eq_join _ _
  rw [e]
  exact sb_sjoin ys h
theorem item_lst2 {c : Cs} {a b : Int} {i : Int} {Q : D → Cs → Prop} (h0 : 0 ≤ i) (h1 : i < 2) (q : ∀ x : Int, x = a ∨ x = b → Q (.int x) c) : Ok (itemD (.lst [.int a, .int b]) (.int i) c) Q :=
  ok_item_mem h0 h1 fun d hd => by
    simp only [List.mem_cons, List.not_mem_nil, or_false] at hd
    rcases hd with rfl | rfl
    · exact q a (.inl rfl)
    · exact q b (.inr rfl)
theorem words_ok {c : Cs} {k : Nat} {n : Int} {Q : D → Cs → Prop} (hb : Bx c k n) (hn : n ≤ 800000)
    (q : ∀ (ys : List Str) c', ys.length ≤ 19 → (∀ y ∈ ys, SB 4 y) → Bx c' k (n + 200) → c.length ≤ c'.length → Q (.lst (ys.map D.str)) c') : Ok (g_law_words [.ref k] c) Q := by
  have hz : sizeLine = 16777216 := sizeLine_eq
  have hk : k < c.length := by obtain ⟨_, _, _, h, _⟩ := hb; exact (List.getElem?_eq_some_iff.mp h).1
  have hb1 : Bx (c ++ [.lst []]) k n := by
    obtain ⟨a, b, z, h, r⟩ := hb
    exact ⟨a, b, z, by rw [List.getElem?_append_left hk]; exact h, r⟩
  have hc1 : (c ++ [Cell.lst []])[c.length]? = some (.lst []) := by rw [List.getElem?_append_right (Nat.le_refl _), Nat.sub_self]; rfl
  have hl1 : (c ++ [Cell.lst []]).length = c.length + 1 := by simp
  refine Ok.fun rfl ?_
  unfold c_law_words
  walk_at "ok"
  generalize c ++ [Cell.lst []] = d0 at hb1 hc1 hl1 ⊢
  refine take_ok hb1 (by omega) (by decide) (by decide) fun i1 c1 h0 h1 b1 l1 f1 => ?_
  walk_at "ok"
  refine take_ok b1 (by omega) (by decide) (by decide) fun i2 c2 g0 g1 b2 l2 f2 => ?_
  walk_at "ok"
  refine item_lst2 (by split <;> omega) (by split <;> omega) fun x hx => ?_
  have hx1 : 0 ≤ x ∧ x ≤ 19 := by rcases hx with rfl | rfl <;> omega
  clear hx
  walk_at "ok"
  refine ⟨⟨by omega, by omega⟩, ?_⟩
  have hsg : ∀ z ∈ (("!" : Str) ++ "\"" ++ "#$&'()*+,-./0123456789:;<=>?@ABCDEFGHIJKLMNOPQRSTUVWXYZ" ++ "[\\]^_`abcdefghijklmnopqrstuvwxyz{|}~" : Str).cps.toList, z < 1114112 := fun z hz => of_decide_eq_true (List.all_eq_true.mp (show ((("!" : Str) ++ "\"" ++ "#$&'()*+,-./0123456789:;<=>?@ABCDEFGHIJKLMNOPQRSTUVWXYZ" ++ "[\\]^_`abcdefghijklmnopqrstuvwxyz{|}~" : Str).cps.toList.all fun k => decide (k < 1114112)) = true by decide +kernel) z hz)
  have hsl : (("!" : Str) ++ "\"" ++ "#$&'()*+,-./0123456789:;<=>?@ABCDEFGHIJKLMNOPQRSTUVWXYZ" ++ "[\\]^_`abcdefghijklmnopqrstuvwxyz{|}~" : Str).length ≤ 200 ∧ 0 < (("!" : Str) ++ "\"" ++ "#$&'()*+,-./0123456789:;<=>?@ABCDEFGHIJKLMNOPQRSTUVWXYZ" ++ "[\\]^_`abcdefghijklmnopqrstuvwxyz{|}~" : Str).length := by decide +kernel
  generalize (("!" : Str) ++ "\"" ++ "#$&'()*+,-./0123456789:;<=>?@ABCDEFGHIJKLMNOPQRSTUVWXYZ" ++ "[\\]^_`abcdefghijklmnopqrstuvwxyz{|}~" : Str) = sg at hsg hsl ⊢
  have hkc : c.length ≠ k := by omega
  refine OkS.for (fun ds l c' => (∃ o3 o4, l = [some (.ref k), some (.str sg), some (.ref c.length), o3, o4]) ∧ ∃ ys : List Str, c'[c.length]? = some (.lst (ys.map D.str)) ∧ (∀ y ∈ ys, SB 4 y) ∧ ys.length + ds.length ≤ 19 ∧ Bx c' k (n + 2 + 5 * ys.length) ∧ c'.length = c.length + 1) ?_ ?_ _ _ _ ⟨⟨_, _, rfl⟩, [], by rw [f2 _ hkc, f1 _ hkc]; exact hc1, by simp, by rw [rangeL_len]; simp; omega, bx_mono b2 (by simp; omega), by omega⟩
  · rintro l c' ⟨⟨o3, o4, rfl⟩, ys, hcc, hy, hl, hbx, hlen⟩
    simp only [List.length_nil, Nat.add_zero] at hl
    walk_at "ok"
    refine ⟨_, _, rfl, hcc, ?_⟩
    refine q ys _ hl hy ?_ (by simp; omega)
    obtain ⟨a, b, z, h, r1, r2, r3, r4, r5⟩ := hbx
    exact ⟨a, b, z, by rw [List.getElem?_set_ne hkc]; exact h, r1, r2, r3, r4, by omega⟩
  · rintro d ds l c' ⟨⟨o3, o4, rfl⟩, ys, hcc, hy, hl, hbx, hlen⟩
    simp only [List.length_cons] at hl
    walk_at "ok"
    refine ⟨isL_ref hcc, ?_⟩
    walk_at "ok"
    refine take_ok hbx (by omega) (by decide) (by decide) fun i3 c3 g0 g1 b3 l3 f3 => ?_
    walk_at "ok"
    refine ⟨⟨by omega, by omega⟩, ?_⟩
    refine signs_ok (k := k) (j := 4) _ (by omega) (by omega) (fun d c1 n1 hn1 hb1 => ?_) b3 fun t c4 ht b4 l4 f4 => ?_
    · walk_at "ok"
      refine ok_len_str (by omega) ?_
      walk_at "ok"
      refine take_ok hb1 (by omega) (by omega) (by omega) fun i4 c5 g0 g1 b5 l5 f5 => ?_
      refine ok_item_str (by omega) g0 g1 fun z hz => ⟨z, rfl, hsg z hz, b5, by omega, f5⟩
    · walk_at "ok"
      have hcc4 : c4[c.length]? = some (.lst (ys.map D.str)) := by rw [f4 _ hkc, f3 _ hkc]; exact hcc
      refine ok_append hcc4 (by rw [List.length_map]; omega) ?_
      have hlt : c.length < c4.length := (List.getElem?_eq_some_iff.mp hcc4).1
      refine ⟨⟨_, _, rfl⟩, ys ++ [t], by rw [List.getElem?_set_self hlt]; simp, fun y h => ?_, by simp; omega, ?_, by simp; omega⟩
      · rcases List.mem_append.mp h with h | h
        · exact hy y h
        · simp at h
          subst h
          exact ht.mono (by omega)
      · obtain ⟨a, b, z, h, r1, r2, r3, r4, r5⟩ := b4
        exact ⟨a, b, z, by rw [List.getElem?_set_ne hkc]; exact h, r1, r2, r3, r4, by simp; omega⟩

theorem sb_int {a : Int} (h : a.natAbs < 10 ^ 40) : SB 100 (Str.ofString (toString a)) ∧ a.natAbs.log2 < 1920 := by
  have e : (Str.ofString (toString a)).cps.toList = (toString a).toList.map Char.toNat := by first | exact signs_ofString _ | exact PyProof.Rows.signs_ofString _ | exact PySem.signs_ofString _ | exact PySem.W.signs_ofString _
  have hl := int_text_length_le10 (k := 40) (by decide) h
  refine ⟨⟨?_, fun k hk => ?_⟩, ?_⟩
  · have e2 : (Str.ofString (toString a)).length = (Str.ofString (toString a)).cps.toList.length := Array.length_toList.symm
    rw [e2, e, List.length_map, String.length_toList]
    omega
  · rw [e] at hk
    obtain ⟨ch, _, rfl⟩ := List.mem_map.mp hk
    have := ch.valid
    have e3 : ch.toNat = ch.val.toNat := rfl
    rw [e3]
    rcases this with h | ⟨_, h⟩
    · omega
    · omega
  · have h3 : (10 : Nat) ^ 40 < 2 ^ 1920 := by decide +kernel
    by_cases h0 : a.natAbs = 0
    · rw [h0]; decide
    · exact (Nat.log2_lt h0).mpr (by omega)
theorem spoilt_ok {c : Cs} {k : Nat} {n : Int} {t : Str} {Q : D → Cs → Prop} (hb : Bx c k n) (hn : n ≤ 900000) (ht : SB 200 t)
    (q : ∀ (s : Str) (c' : Cs), SB 500 s → Bx c' k (n + 3) → c.length ≤ c'.length → Q (.str s) c') : Ok (g_law_spoilt [.ref k, .str t] c) Q := by
  have hz : sizeLine = 16777216 := sizeLine_eq
  have ht1 := ht.1
  refine Ok.fun rfl ?_
  unfold c_law_spoilt
  walk_at "ok"
  refine ok_len_str (by omega) ?_
  walk_at "ok"
  refine take_ok hb (by omega) (by omega) (by omega) fun i1 c1 h0 h1 b1 l1 f1 => ?_
  walk_at "ok"
  refine take_ok b1 (by omega) (by decide) (by decide) fun i2 c2 g0 g1 b2 l2 f2 => ?_
  walk_at "ok"
  refine ⟨fun h => ?_, fun h => ?_⟩
  · walk_at "ok"
    exact q _ _ (ht.mono (by omega)) (bx_mono b2 (by omega)) (by omega)
  · have h := of_decide_eq_false h
    have sa := ht.cut none (some i1)
    have sb := ht.cut (some i1) none
    have sa1 := sa.1
    have sb1 := sb.1
    walk_at "ok"
    refine ok_slice_str (by omega) ?_
    walk_at "ok"
    refine ok_item_mem (by omega) (by simp; omega) fun d hd => ?_
    obtain ⟨m, rfl, hm⟩ : ∃ m, d = .str m ∧ SB 2 m := by
      have two : ∀ s : Str, decide (s.length ≤ 2) && s.cps.toList.all (fun k => decide (k < 1114112)) = true → SB 2 s := fun s h => by
        simp only [Bool.and_eq_true, decide_eq_true_eq, List.all_eq_true] at h
        exact ⟨h.1, h.2⟩
      simp only [List.mem_cons, List.not_mem_nil, or_false] at hd
      rcases hd with rfl | rfl | rfl <;> exact ⟨_, rfl, two _ (by decide +kernel)⟩
    have hm1 := hm.1
    have sam := sa.app hm
    have sam1 := sam.1
    refine ok_add_str (by omega) ?_
    walk_at "ok"
    refine ok_slice_str (by omega) ?_
    have samb := sam.app sb
    refine ok_add_str (by omega) ?_
    exact q _ _ (samb.mono (by omega)) (bx_mono b2 (by omega)) (by omega)
theorem digits_ok {c : Cs} {k : Nat} {n : Int} {Q : D → Cs → Prop} (hb : Bx c k n) (hn : n ≤ 800000)
    (q : ∀ (s : Str) (c' : Cs), SB 200 s → Bx c' k (n + 100) → c.length ≤ c'.length → Q (.str s) c') : Ok (g_law_digits [.ref k] c) Q := by
  have hz : sizeLine = 16777216 := sizeLine_eq
  refine Ok.fun rfl ?_
  unfold c_law_digits
  walk_at "ok"
  refine take_ok hb (by omega) (by decide) (by decide) fun i1 c1 h0 h1 b1 l1 f1 => ?_
  walk_at "ok"
  refine take_ok b1 (by omega) (by decide) (by decide) fun i2 c2 g0 g1 b2 l2 f2 => ?_
  walk_at "ok"
  refine take_ok b2 (by omega) (by decide) (by decide) fun i3 c3 e0 e1 b3 l3 f3 => ?_
  refine ok_item_mem e0 (by simpa using e1) fun d hd => ?_
  obtain ⟨x, rfl, hx⟩ : ∃ x : Int, d = .int x ∧ 1 ≤ x ∧ x ≤ 30 := by
    simp only [List.mem_cons, List.not_mem_nil, or_false] at hd
    rcases hd with rfl | rfl | rfl | rfl | rfl | rfl | rfl <;> exact ⟨_, rfl, by omega, by omega⟩
  clear hd
  walk_at "ok"
  refine ⟨⟨by omega, by omega⟩, ?_⟩
  have hdg : ∀ z ∈ ("0123456789" : Str).cps.toList, z < 1114112 := fun z hz => of_decide_eq_true (List.all_eq_true.mp (show (("0123456789" : Str).cps.toList.all fun k => decide (k < 1114112)) = true by decide +kernel) z hz)
  refine signs_ok (k := k) (j := 5) _ (by omega) (by omega) (fun d c1 n1 hn1 hb1 => ?_) b3 fun t c4 ht b4 l4 f4 => ?_
  · walk_at "ok"
    refine take_ok hb1 (by omega) (by omega) (by omega) fun i4 c5 g0 g1 b5 l5 f5 => ?_
    exact ok_item_str (by decide +kernel) g0 g1 fun z hz => ⟨z, rfl, hdg z hz, b5, by omega, f5⟩
  · have ht : SB 30 t := ht.mono (by omega)
    have ht1 := ht.1
    walk_at "ok"
    refine take_ok b4 (by omega) (by decide) (by decide) fun i4 c5 g0 g1 b5 l5 f5 => ?_
    walk_at "ok"
    refine ⟨fun h => ?_, fun h => ?_⟩
    · walk_at "ok"
      exact q _ _ (ht.mono (by omega)) (bx_mono b5 (by omega)) (by omega)
    · have h := of_decide_eq_false h
      walk_at "ok"
      refine take_ok b5 (by omega) (by decide) (by decide) fun i5 c6 k0 k1 b6 l6 f6 => ?_
      refine ok_item_mem k0 (by simpa using k1) fun d hd => ?_
      obtain ⟨m, rfl, hm⟩ : ∃ m, d = .str m ∧ SB 10 m := by
        have two : ∀ s : Str, decide (s.length ≤ 10) && s.cps.toList.all (fun k => decide (k < 1114112)) = true → SB 10 s := fun s h => by
          simp only [Bool.and_eq_true, decide_eq_true_eq, List.all_eq_true] at h
          exact ⟨h.1, h.2⟩
        simp only [List.mem_cons, List.not_mem_nil, or_false] at hd
        rcases hd with rfl | rfl | rfl | rfl | rfl | rfl | rfl | rfl | rfl | rfl | rfl <;> exact ⟨_, rfl, two _ (by decide +kernel)⟩
      have hmin : SB 1 "-" := ⟨by decide +kernel, fun k hk => of_decide_eq_true (List.all_eq_true.mp (show (("-" : Str).cps.toList.all fun k => decide (k < 1114112)) = true by decide +kernel) k hk)⟩
      have hmt := hmin.app ht
      have hm1 := hmin.1
      walk_at "ok"
      refine ok_add_str (by omega) ?_
      walk_at "ok"
      refine bent_ok b6 (by omega) (ht.mono (by omega)) fun s7 c7 hs7 b7 l7 f7 => ?_
      walk_at "ok"
      refine ok_item_mem (by omega) (by simp; omega) fun d hd => ?_
      simp only [List.mem_cons, List.not_mem_nil, or_false] at hd
      rcases hd with rfl | rfl | rfl
      · exact q _ _ (hm.mono (by omega)) (bx_mono b7 (by omega)) (by omega)
      · exact q _ _ (hmt.mono (by omega)) (bx_mono b7 (by omega)) (by omega)
      · exact q _ _ (hs7.mono (by omega)) (bx_mono b7 (by omega)) (by omega)

theorem bx_app {c : Cs} {k : Nat} {n : Int} (h : Bx c k n) (x : Cs) : Bx (c ++ x) k n := by
  obtain ⟨a, b, z, h, r⟩ := h
  exact ⟨a, b, z, by rw [List.getElem?_append_left (List.getElem?_eq_some_iff.mp h).1]; exact h, r⟩
theorem bx_set {c : Cs} {k j : Nat} {n : Int} (h : Bx c k n) (hj : j ≠ k) (x : Cell) : Bx (c.set j x) k n := by
  obtain ⟨a, b, z, h, r⟩ := h
  exact ⟨a, b, z, by rw [List.getElem?_set_ne hj]; exact h, r⟩
theorem bx_lt {c : Cs} {k : Nat} {n : Int} (h : Bx c k n) : k < c.length := by
  obtain ⟨a, b, z, h, r⟩ := h
  exact (List.getElem?_eq_some_iff.mp h).1
theorem law_true (ns : List Int) (hl : ns.length ≤ 63) : ∃ c, glaw [.ro (ns.map D.int)] [] = .ok (.bl true) c := by
  have hz : sizeLine = 16777216 := sizeLine_eq
  have r : Ok (glaw [.ro (ns.map D.int)] []) fun d _ => d = .bl true := by
    refine Ok.fun rfl ?_
    unfold claw
    walk_at "ok"
    refine ⟨⟨by simp only [List.length_map]; split <;> split <;> omega, by simp only [List.length_map]; split <;> split <;> omega⟩, ?_⟩
    refine OkS.for (fun ds l c => (∃ o1 o2 o3 o4 o5 o6 o7 o8, l = [some (.ro (ns.map D.int)), o1, o2, o3, o4, o5, o6, o7, o8]) ∧ ∀ d ∈ ds, ∃ i : Nat, i ≤ 1000 ∧ d = .int i) ?_ ?_ _ _ _ ?_
    · rintro l c ⟨⟨o1, o2, o3, o4, o5, o6, o7, o8, rfl⟩, _⟩
      walk_at "ok"
      rfl
    · rintro d ds l c ⟨⟨o1, o2, o3, o4, o5, o6, o7, o8, rfl⟩, hd⟩
      obtain ⟨i, hi, rfl⟩ := hd d List.mem_cons_self
      walk_at "ok"
      refine cell_ok hl hi fun v => ?_
      walk_at "ok"
      refine box_ok fun c1 b1 l1 f1 => ?_
      generalize c.length = kb at b1 l1 f1 ⊢
      walk_at "ok"
      refine ⟨by decide, ?_⟩
      refine OkS.for (fun ds l c => (∃ p1 p3 p4 p5 p6 p7 p8, l = [some (.ro (ns.map D.int)), p1, some (.ref kb), p3, p4, p5, p6, p7, p8]) ∧ Bx c kb (1000 * (8 - ds.length)) ∧ ds.length ≤ 8) ?_ ?_ _ _ _ ?_
      · rintro l c6 ⟨⟨p1, p3, p4, p5, p6, p7, p8, rfl⟩, _, _⟩
        exact ⟨⟨_, _, _, _, _, _, _, _, rfl⟩, fun d h => hd d (List.mem_cons_of_mem _ h)⟩
      · rintro d2 ds2 l c6 ⟨⟨p1, p3, p4, p5, p6, p7, p8, rfl⟩, b6, hl6⟩
        simp only [List.length_cons] at hl6 b6
        obtain ⟨n0, hn0, hn1, b6⟩ : ∃ n0 : Int, n0 ≤ 8000 ∧ n0 + 1000 ≤ 1000 * (8 - (ds2.length : Int)) ∧ Bx c6 kb n0 := ⟨_, by omega, by omega, b6⟩
        walk_at "ok"
        refine words_ok b6 (by omega) fun ys c7 hys hyb b7 l7 => ?_
        have hyj := sb_join ys hyb
        have hyn : ys.length * (4 + 1) ≤ 200 := by omega
        walk_at "ok"
        have hso : ∀ ys : List Str, strsOf (ys.map D.str) = some ys := fun ys => by
          induction ys with
          | nil => rfl
          | cons y ys ih => simp [strsOf, ih]
        have hsum : ∀ ys : List Str, (∀ y ∈ ys, SB 4 y) → (ys.map (·.length)).sum ≤ 4 * ys.length := fun ys => by
          induction ys with
          | nil => intro _; simp
          | cons y ys ih =>
            intro h
            have h1 := (h y List.mem_cons_self).1
            have h2 := ih fun z hz => h z (List.mem_cons_of_mem _ hz)
            simp only [List.map_cons, List.sum_cons, List.length_cons]
            omega
        have hs1 := hsum ys hyb
        refine ok_join (hso ys) (by have e : (" " : Str).length = 1 := rfl; rw [e]; omega) ?_
        walk_at "ok"
        refine spoilt_ok b7 (by omega) (hyj.mono hyn) fun s8 c8 hs8 b8 l8 => ?_
        walk_at "ok"
        refine odd_ok b8 (by omega) fun odd c9 podd b9 l9 f9 => ?_
        walk_at "okn"
        refine OkS.mono (Q := fun fl c' => (∃ q4 q6 q7 q8, fl = .nx [some (.ro (ns.map D.int)), p1, some (.ref kb), some d2, q4, p5, q6, q7, q8]) ∧ Bx c' kb (n0 + 300)) ?_ ?_
        · refine OkS.for (fun vs l c' => (∃ q4 q6 q7 q8, l = [some (.ro (ns.map D.int)), p1, some (.ref kb), some d2, q4, p5, q6, q7, q8]) ∧ Bx c' kb (n0 + 300) ∧ ∀ v ∈ vs, Both v) ?_ ?_ _ _ _ ⟨⟨_, _, _, _, rfl⟩, bx_mono b9 (by omega), fun v hv => ?_⟩
          · rintro l c' ⟨h1, h2, _⟩
            obtain ⟨q4, q6, q7, q8, rfl⟩ := h1
            exact ⟨⟨_, _, _, _, rfl⟩, h2⟩
          · rintro v vs l c' ⟨⟨q4, q6, q7, q8, rfl⟩, hb, hv⟩
            obtain ⟨sv, hsv⟩ := hv v List.mem_cons_self
            walk_at "ok"
            refine ⟨by decide, ?_⟩
            refine OkS.for (fun vs2 l c' => (∃ q6 q7 q8, l = [some (.ro (ns.map D.int)), p1, some (.ref kb), some d2, some v, p5, q6, q7, q8]) ∧ Bx c' kb (n0 + 300)) ?_ ?_ _ _ _ ⟨⟨_, _, _, rfl⟩, hb⟩
            · rintro l c2 ⟨⟨q6, q7, q8, rfl⟩, hb2⟩
              exact ⟨⟨_, _, _, _, rfl⟩, hb2, fun x hx => hv x (List.mem_cons_of_mem _ hx)⟩
            · rintro lap laps l c2 ⟨⟨q6, q7, q8, rfl⟩, hb2⟩
              walk_at "ok"
              refine (hsv c2).1 _ fun d1 c3 hr3 hx3 hj3 => ?_
              walk_at "ok"
              refine (hsv c3).2 _ fun e1 c4 hr4 hx4 => ?_
              obtain ⟨x3, rfl⟩ := hx3
              obtain ⟨x4, rfl⟩ := hx4
              have hb4 := bx_app (bx_app hb2 x3) x4
              walk_at "ok"
              refine Ok.of (hr3 x4) ?_
              walk_at "ok"
              refine Ok.of hr4 ?_
              walk_at "ok"
              refine ⟨fun h => absurd h (by simp), fun _ => ?_⟩
              walk_at "ok"
              rcases hj3 with rfl | ⟨j, xs, rfl, hjl, hcj, hxs⟩
              · refine ⟨fun h => Bool.noConfusion h, fun _ => ?_⟩
                walk_at "ok"
                exact ⟨⟨_, _, _, rfl⟩, hb4⟩
              · refine ⟨fun _ => ?_, fun h => Bool.noConfusion h⟩
                have hcj4 : ((c2 ++ x3) ++ x4)[j]? = some (.lst xs) := by rw [List.getElem?_append_left (List.getElem?_eq_some_iff.mp hcj).1]; exact hcj
                walk_at "ok"
                refine ⟨isL_ref hcj4, ?_⟩
                walk_at "ok"
                refine ok_append hcj4 (by omega) ?_
                have hlt := bx_lt hb2
                exact ⟨⟨_, _, _, rfl⟩, bx_set hb4 (by omega) _⟩
          · simp only [List.mem_cons, List.not_mem_nil, or_false] at hv
            rcases hv with rfl | rfl
            · exact both_str hs8
            · exact both_pl podd
        · rintro fl c10 ⟨⟨q4, q6, q7, q8, rfl⟩, b10⟩
          walk_at "ok"
          refine take_ok b10 (by omega) (by decide) (by decide) fun i1 c11 h0 h1 b11 l11 f11 => ?_
          have h1 : i1 < 1000000 := h1
          walk_at "ok"
          refine take_ok b11 (by omega) (by decide) (by decide) fun i2 c12 g0 g1 b12 l12 f12 => ?_
          refine ok_item_mem g0 (by simpa using g1) fun d hdl => ?_
          obtain ⟨L, rfl, hL⟩ : ∃ L : Int, d = .int L ∧ -1 ≤ L ∧ L ≤ 100000000000000000000000000000 := by
            simp only [List.mem_cons, List.not_mem_nil, or_false] at hdl
            rcases hdl with rfl | rfl | rfl | rfl | rfl | rfl | rfl
            · exact ⟨_, rfl, by omega, by omega⟩
            · exact ⟨_, rfl, by omega, by omega⟩
            · exact ⟨_, rfl, by omega, by omega⟩
            · exact ⟨_, rfl, by omega, by omega⟩
            · exact ⟨_, rfl, by decide, by decide⟩
            · exact ⟨_, rfl, by omega, by omega⟩
            · exact ⟨_, rfl, by omega, by omega⟩
          clear hdl
          have sL := sb_int (a := L) (by omega)
          have sL1 := sb_int (a := L + 1) (by omega)
          have eL : ∀ c, strFD [.int L] c = .ok (.str (Str.ofString (toString L))) c := fun c => if_pos sL.2
          have eL1 : ∀ c, strFD [.int (L + 1)] c = .ok (.str (Str.ofString (toString (L + 1)))) c := fun c => if_pos sL1.2
          walk_at "okn"
          refine digits_ok b12 (by omega) fun s13 c13 hs13 b13 l13 => ?_
          walk_at "okn"
          refine Ok.of (eL _) ?_
          walk_at "okn"
          refine Ok.of (eL1 _) ?_
          walk_at "okn"
          refine odd_ok b13 (by omega) fun odd2 c14 podd2 b14 l14 f14 => ?_
          walk_at "okn"
          refine OkS.for (fun vs l c' => (∃ q4 q6 q7 q8, l = [some (.ro (ns.map D.int)), p1, some (.ref kb), some d2, q4, some (.int L), q6, q7, q8]) ∧ Bx c' kb (n0 + 600) ∧ ∀ v ∈ vs, BothN v) ?_ ?_ _ _ _ ⟨⟨_, _, _, _, rfl⟩, bx_mono b14 (by omega), fun v hv => ?_⟩
          · rintro l c' ⟨⟨q4, q6, q7, q8, rfl⟩, h2, _⟩
            exact ⟨⟨_, _, _, _, _, _, _, rfl⟩, bx_mono h2 (by omega), by omega⟩
          · rintro v vs l c' ⟨⟨q4, q6, q7, q8, rfl⟩, hb, hv⟩
            obtain ⟨sv, hsv⟩ := hv v List.mem_cons_self L
            obtain ⟨sw, hsw⟩ := hv v List.mem_cons_self 999999
            walk_at "ok"
            refine ⟨⟨rfl, rfl⟩, ?_⟩
            refine (hsv _).1 _ fun d1 hr1 => ?_
            walk_at "ok"
            refine Ok.of (hr1 _) ?_
            walk_at "ok"
            refine (hsv _).2 _ fun e1 hr2 => ?_
            walk_at "ok"
            refine Ok.of (hr2 _) ?_
            walk_at "ok"
            refine ⟨fun h => absurd h (by simp), fun _ => ?_⟩
            walk_at "ok"
            refine ⟨rfl, ?_⟩
            refine (hsw _).1 _ fun d1 hr1 => ?_
            walk_at "ok"
            refine Ok.of (hr1 _) ?_
            walk_at "ok"
            refine (hsw _).2 _ fun e1 hr2 => ?_
            walk_at "ok"
            refine Ok.of (hr2 _) ?_
            walk_at "ok"
            refine ⟨fun h => absurd h (by simp), fun _ => ?_⟩
            walk_at "ok"
            exact ⟨⟨_, _, _, _, rfl⟩, hb, fun x hx => hv x (List.mem_cons_of_mem _ hx)⟩
          · simp only [List.mem_cons, List.not_mem_nil, or_false] at hv
            rcases hv with rfl | rfl | rfl | rfl
            · exact bothN_str hs13
            · exact bothN_str (sL.1.mono (by omega))
            · exact bothN_str (sL1.1.mono (by omega))
            · exact bothN_pl podd2
      · exact ⟨⟨_, _, _, _, _, _, _, rfl⟩, bx_mono b1 (by rw [rangeL_len]; decide), by rw [rangeL_len]; decide⟩
    · refine ⟨⟨_, _, _, _, _, _, _, _, rfl⟩, fun d h => ?_⟩
      obtain ⟨i, h1, rfl⟩ := rangeL_mem h
      refine ⟨i, ?_, by rw [Int.zero_add]⟩
      simp only [List.length_map] at h1
      revert h1
      split <;> split <;> omega
  obtain ⟨d, c, e, rfl⟩ := r
  exact ⟨c, e⟩

end L2.Lw
open PySem PySem.W PyProof.Rows
set_option maxRecDepth 100000 in
set_option maxHeartbeats 0 in
theorem PySem.Challenge.cw_weavegraph_k04_words_and_numbers_holds : PySem.Challenge.rw_weavegraph_k04_words_and_numbers.Holds := by
  w_on; o_law; k_head; (case hw => w_witness2)
  k_fill
  refine L2.Mi.law_g (l := PySem.Challenge.rw_weavegraph_k04_words_and_numbers) (n := 63) (k := 4) (x := "_law_script") (g := fun _ => L2.Lw.glaw) rfl (by decide) rfl ⟨rfl, by decide, by decide⟩ (fun w h Y => PySem.W.kIn_of Y) ?F (fun _ ns hl => L2.Lw.law_true ns hl)
  case F =>
    intro w mg fa h KX G hmg
    refine' L2.Lw.law_fin KX G hmg ?z_all ?z_int ?z_isinstance ?z_len ?z_max ?z_min ?z_range ?z_repr ?z_str ?a_DIGITS ?asplit_words ?lsplit_words ?csplit_words ?ksplit_words ?aparse_integer ?lparse_integer ?cparse_integer ?kparse_integer ?w0parse_integer ?n0parse_integer ?a_law_cell ?l_law_cell ?c_law_cell ?k_law_cell ?a_law_box ?l_law_box ?c_law_box ?k_law_box ?a_law_take ?l_law_take ?c_law_take ?k_law_take ?a_law_bent ?l_law_bent ?c_law_bent ?k_law_bent ?a_law_odd ?l_law_odd ?c_law_odd ?k_law_odd ?a_law_words ?l_law_words ?c_law_words ?k_law_words ?a_law_spoilt ?l_law_spoilt ?c_law_spoilt ?k_law_spoilt ?a_law_due_words ?l_law_due_words ?c_law_due_words ?k_law_due_words ?a_law_due_number ?l_law_due_number ?c_law_due_number ?k_law_due_number ?a_law_digits ?l_law_digits ?c_law_digits ?k_law_digits ?alaw ?llaw ?claw ?klaw
    (case z_all => k_is)
    (case z_int => k_is)
    (case z_isinstance => k_is)
    (case z_len => k_is)
    (case z_max => k_is)
    (case z_min => k_is)
    (case z_range => k_is)
    (case z_repr => k_is)
    (case z_str => k_is)
    (case a_DIGITS => k_is)
    (case asplit_words => k_is)
    (case lsplit_words => k_is)
    (case csplit_words => k_is)
    (case ksplit_words => k_is)
    (case aparse_integer => k_is)
    (case lparse_integer => k_is)
    (case cparse_integer => k_is)
    (case kparse_integer => k_is)
    (case w0parse_integer => first | rfl | k_is)
    (case n0parse_integer => k_is)
    (case a_law_cell => k_is)
    (case l_law_cell => k_is)
    (case c_law_cell => k_is)
    (case k_law_cell => k_is)
    (case a_law_box => k_is)
    (case l_law_box => k_is)
    (case c_law_box => k_is)
    (case k_law_box => k_is)
    (case a_law_take => k_is)
    (case l_law_take => k_is)
    (case c_law_take => k_is)
    (case k_law_take => k_is)
    (case a_law_bent => k_is)
    (case l_law_bent => k_is)
    (case c_law_bent => k_is)
    (case k_law_bent => k_is)
    (case a_law_odd => k_is)
    (case l_law_odd => k_is)
    (case c_law_odd => k_is)
    (case k_law_odd => k_is)
    (case a_law_words => k_is)
    (case l_law_words => k_is)
    (case c_law_words => k_is)
    (case k_law_words => k_is)
    (case a_law_spoilt => k_is)
    (case l_law_spoilt => k_is)
    (case c_law_spoilt => k_is)
    (case k_law_spoilt => k_is)
    (case a_law_due_words => k_is)
    (case l_law_due_words => k_is)
    (case c_law_due_words => k_is)
    (case k_law_due_words => k_is)
    (case a_law_due_number => k_is)
    (case l_law_due_number => k_is)
    (case c_law_due_number => k_is)
    (case k_law_due_number => k_is)
    (case a_law_digits => k_is)
    (case l_law_digits => k_is)
    (case c_law_digits => k_is)
    (case k_law_digits => k_is)
    (case alaw => k_is)
    (case llaw => k_is)
    (case claw => k_is)
    (case klaw => k_is)

